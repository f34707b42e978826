import PyProof.Rows.All
import Wide.All
import OpenK.AllK
import Wide.FinOn
import Lean
import PySem.Challenge.RW_xw0067_01
set_option Elab.async false
set_option linter.all false
set_option maxRecDepth 100000
set_option maxHeartbeats 0
section
namespace Mine
theorem nS {α : Type} {a : α} {P : Prop} (h : none = some a) : P := by cases h
theorem cK {α : Type} {P : Prop} [Decidable P] {a : Option α} {r : α} (e : (if P then a else none) = some r) : P ∧ a = some r := by
 by_cases h : P
 ·rw [if_pos h] at e; exact ⟨h, e⟩
 ·rw [if_neg h] at e; cases e
theorem if_not {α : Type} {P : Prop} [Decidable P] {a : Option α} {r : α} (e : (if P then none else a) = some r) : ¬P ∧ a = some r := by
 by_cases h : P
 ·rw [if_pos h] at e; cases e
 ·rw [if_neg h] at e; exact ⟨h, e⟩
theorem Kg {α : Type} {P : Prop} [Decidable P] {a : α} (e : (if P then some a else none) = none) : ¬P := λ h => by
 rw [if_pos h] at e; cases e
theorem byC {p : Prop} (h : (p → False) → False) : p := Classical.byContradiction h
structure A3 (a b c : Prop) : Prop where
 intro ::
 h1 : a
 h2 : b
 h3 : c
structure A4 (a b c d : Prop) : Prop where
 intro ::
 h1 : a
 h2 : b
 h3 : c
 h4 : d
structure A5 (a b c d e : Prop) : Prop where
 intro ::
 h1 : a
 h2 : b
 h3 : c
 h4 : d
 h5 : e
structure A6 (a b c d e f : Prop) : Prop where
 intro ::
 h1 : a
 h2 : b
 h3 : c
 h4 : d
 h5 : e
 h6 : f
structure A7 (a b c d e f g : Prop) : Prop where
 intro ::
 h1 : a
 h2 : b
 h3 : c
 h4 : d
 h5 : e
 h6 : f
 h7 : g
structure A8 (a b c d e f g h : Prop) : Prop where
 intro ::
 h1 : a
 h2 : b
 h3 : c
 h4 : d
 h5 : e
 h6 : f
 h7 : g
 h8 : h
structure A9 (a b c d e f g h i : Prop) : Prop where
 intro ::
 h1 : a
 h2 : b
 h3 : c
 h4 : d
 h5 : e
 h6 : f
 h7 : g
 h8 : h
 h9 : i
inductive E2 {Bz α1 : Type} (p : Bz → α1 → Prop) : Prop
 | mk (x0 : Bz) (x1 : α1) (h : p x0 x1)
inductive E3 {Bz α1 α2 : Type} (p : Bz → α1 → α2 → Prop) : Prop
 | mk (x0 : Bz) (x1 : α1) (x2 : α2) (h : p x0 x1 x2)
inductive E4 {Bz α1 α2 α3 : Type} (p : Bz → α1 → α2 → α3 → Prop) : Prop
 | mk (x0 : Bz) (x1 : α1) (x2 : α2) (x3 : α3) (h : p x0 x1 x2 x3)
inductive E5 {Bz α1 α2 α3 Ht : Type} (p : Bz → α1 → α2 → α3 → Ht → Prop) : Prop
 | mk (x0 : Bz) (x1 : α1) (x2 : α2) (x3 : α3) (x4 : Ht) (h : p x0 x1 x2 x3 x4)
inductive E6 {Bz α1 α2 α3 Ht KG : Type} (p : Bz → α1 → α2 → α3 → Ht → KG → Prop) : Prop
 | mk (x0 : Bz) (x1 : α1) (x2 : α2) (x3 : α3) (x4 : Ht) (x5 : KG) (h : p x0 x1 x2 x3 x4 x5)
inductive E7 {Bz α1 α2 α3 Ht KG MQ : Type} (p : Bz → α1 → α2 → α3 → Ht → KG → MQ → Prop) : Prop
 | mk (x0 : Bz) (x1 : α1) (x2 : α2) (x3 : α3) (x4 : Ht) (x5 : KG) (x6 : MQ) (h : p x0 x1 x2 x3 x4 x5 x6)
inductive E8 {Bz α1 α2 α3 Ht KG MQ PG : Type} (p : Bz → α1 → α2 → α3 → Ht → KG → MQ → PG → Prop) : Prop
 | mk (x0 : Bz) (x1 : α1) (x2 : α2) (x3 : α3) (x4 : Ht) (x5 : KG) (x6 : MQ) (x7 : PG) (h : p x0 x1 x2 x3 x4 x5 x6 x7)
end Mine
end
section
open PySem PySem.W PyProof.Rows
namespace Mine
inductive V where
 | none
 | bool (b : Bool)
 | int (i : Int)
 | str (k : Nat)
 | tup (l : List V)
 | range (a b : Int)
 | obj (n : Nat)
 | inst (c n : Nat)
 | zH (l : List Int)
inductive O where
 | list (l : List V)
 | bX (l : List (Int × V))
 | aW (l : List (Nat × V))
noncomputable abbrev St := List O
noncomputable abbrev Loc := List (Option V)
structure gT where
 prog : Program
 w : World
 h₀ : Heap
 nm : Nat → Str
 DP : ∀ x y, nm x = nm y → x = y
 cls : Nat → Addr
noncomputable abbrev gT.M (Γ : gT) : Model := model Γ.prog Γ.w
mutual
inductive VR (Γ : gT) (μ : Nat → Addr) (n : Nat) (h : Heap) : V → Value → Prop
 | none : VR Γ μ n h .none .none
 | bool (b : Bool) : VR Γ μ n h (.bool b) (.bool b)
 | int (i : Int) (t : Tok) : VR Γ μ n h (.int i) (.int i t)
 | str (k : Nat) (t : Tok) : VR Γ μ n h (.str k) (.str (Γ.nm k) t)
 | tup {l : List V} {a : Addr} {items : Array Value} {k : Nat} : IsT h a items k → VRs Γ μ n h l items.toList → VR Γ μ n h (.tup l) (.ref a)
 | range {a : Addr} {x y : Int} {t u v : Tok} : IsRange h a x y 1 t u v → VR Γ μ n h (.range x y) (.ref a)
 | obj {i : Nat} : i < n → VR Γ μ n h (.obj i) (.ref (μ i))
 | inst {c i : Nat} {a : Addr} : i < n → h.get? a = some (instObj (Γ.cls c) (μ i)) → VR Γ μ n h (.inst c i) (.ref a)
 | zH {l : List Int} {a : Addr} {items : Array Value} {k : Nat} : IsL Γ.h₀ a items k → IntsAre items.toList l → VR Γ μ n h (.zH l) (.ref a)
inductive VRs (Γ : gT) (μ : Nat → Addr) (n : Nat) (h : Heap) : List V → List Value → Prop
 | nil : VRs Γ μ n h [] []
 | cons {v : V} {u : Value} {vs : List V} {us : List Value} : VR Γ μ n h v u → VRs Γ μ n h vs us → VRs Γ μ n h (v :: vs) (u :: us)
end
noncomputable def fz (o : Obj) : Bool := match o.data with | .seq _ _ => o.cls == .type "tuple" | .fields _ => o.cls == .type "range" | .plain => true | _ => false
noncomputable def cL (h h' : Heap) : Prop := ∀ a o, h.get? a = some o → fz o = true → h'.get? a = some o
section
variable {Γ : gT} {μ dY : Nat → Addr} {n n' : Nat} {h h' : Heap}
mutual
theorem VR.mono {v : V} {u : Value} (x : VR Γ μ n h v u) (k : cL h h') (hμ : ∀ i, i < n → dY i = μ i) (hn : n ≤ n') : VR Γ dY n' h' v u := by
 cases x with
 | none => exact .none
 | bool => exact .bool _
 | int => exact .int _ _
 | str => exact .str _ _
 | tup ht hs =>
  exact .tup (k _ _ ht (by simp [fz])) (VRs.mono hs k hμ hn)
 | range hr => exact .range (k _ _ hr (by simp [fz]))
 | obj hi => rw [← hμ _ hi]; exact .obj (Nat.lt_of_lt_of_le hi hn)
 | inst hi ho => exact .inst (Nat.lt_of_lt_of_le hi hn) (by rw [hμ _ hi]; exact k _ _ ho (by simp [fz]))
 | zH hl hs => exact .zH hl hs
theorem VRs.mono {v : List V} {u : List Value} (x : VRs Γ μ n h v u) (k : cL h h') (hμ : ∀ i, i < n → dY i = μ i) (hn : n ≤ n') : VRs Γ dY n' h' v u := by
 cases x with
 | nil => exact .nil
 | cons a b => exact .cons (VR.mono a k hμ hn) (VRs.mono b k hμ hn)
end
theorem VR.FW {u : Value} (x : VR Γ μ n h .none u) : u = .none := by cases x; rfl
theorem VR.vC {b : Bool} {u : Value} (x : VR Γ μ n h (.bool b) u) : u = .bool b := by cases x; rfl
theorem VR.gA {i : Int} {u : Value} (x : VR Γ μ n h (.int i) u) : ∃ t, u = .int i t := by cases x; exact ⟨_, rfl⟩
theorem VR.HD {k : Nat} {u : Value} (x : VR Γ μ n h (.str k) u) : ∃ t, u = .str (Γ.nm k) t := by cases x; exact ⟨_, rfl⟩
theorem VR.tupI {l : List V} {u : Value} (x : VR Γ μ n h (.tup l) u) : ∃ a items k, u = .ref a ∧ IsT h a items k ∧ VRs Γ μ n h l items.toList := by cases x with | tup a b => exact ⟨_, _, _, rfl, a, b⟩
theorem VR.HN {a b : Int} {u : Value} (x : VR Γ μ n h (.range a b) u) : ∃ c t t' t'', u = .ref c ∧ IsRange h c a b 1 t t' t'' := by cases x with | range a => exact ⟨_, _, _, _, rfl, a⟩
theorem VR.kE {i : Nat} {u : Value} (x : VR Γ μ n h (.obj i) u) : u = .ref (μ i) ∧ i < n := by cases x with | obj a => exact ⟨rfl, a⟩
theorem VR.Ix {c i : Nat} {u : Value} (x : VR Γ μ n h (.inst c i) u) : ∃ a, u = .ref a ∧ i < n ∧ h.get? a = some (instObj (Γ.cls c) (μ i)) := by cases x with | inst a b => exact ⟨_, rfl, a, b⟩
theorem VR.Oz {l : List Int} {u : Value} (x : VR Γ μ n h (.zH l) u) : ∃ a items k, u = .ref a ∧ IsL Γ.h₀ a items k ∧ IntsAre items.toList l := by cases x with | zH a b => exact ⟨_, _, _, rfl, a, b⟩
theorem VRs.Fi {us : List Value} (x : VRs Γ μ n h [] us) : us = [] := by cases x; rfl
theorem VRs.xF {v : V} {vs : List V} {us : List Value} (x : VRs Γ μ n h (v :: vs) us) : ∃ u us', us = u :: us' ∧ VR Γ μ n h v u ∧ VRs Γ μ n h vs us' := by cases x with | cons a b => exact ⟨_, _, rfl, a, b⟩
theorem VRs.both {h : Heap} {v : V} {vs : List V} {u : Value} {us : List Value} (x : VRs Γ μ n h (v :: vs) (u :: us)) : VR Γ μ n h v u ∧ VRs Γ μ n h vs us := by cases x with | cons a b => exact ⟨a, b⟩
theorem VRs.LH {v : V} {us : List Value} (x : VRs Γ μ n h [v] us) : ∃ u, us = [u] ∧ VR Γ μ n h v u := by
 obtain ⟨u, us', rfl, a, b⟩ := x.xF
 cases b.Fi
 exact ⟨u, rfl, a⟩
theorem VRs.MW {v w : V} {us : List Value} (x : VRs Γ μ n h [v, w] us) : ∃ u u', us = [u, u'] ∧ VR Γ μ n h v u ∧ VR Γ μ n h w u' := by
 obtain ⟨u, us', rfl, a, b⟩ := x.xF
 obtain ⟨u', rfl, c⟩ := b.LH
 exact ⟨u, u', rfl, a, c⟩
theorem VRs.length {vs : List V} {us : List Value} (x : VRs Γ μ n h vs us) : vs.length = us.length := by
 induction vs generalizing us with
 | nil => cases x; rfl
 | cons v vs ih => cases x with | cons a b => simp [ih b]
theorem VRs.get {vs : List V} {us : List Value} (x : VRs Γ μ n h vs us) {i : Nat} {v : V} (e : vs[i]? = some v) : ∃ u, us[i]? = some u ∧ VR Γ μ n h v u := by
 induction vs generalizing us i with
 | nil => cases e
 | cons v vs ih =>
  cases x with
  | cons a b =>
   cases i with
   | zero => simp at e; subst e; exact ⟨_, by simp, a⟩
   | succ i => simp at e; obtain ⟨u, hu, hv⟩ := ih b e; exact ⟨u, by simpa using hu, hv⟩
theorem VRs.append {vs vs' : List V} {us us' : List Value} (x : VRs Γ μ n h vs us) (y : VRs Γ μ n h vs' us') : VRs Γ μ n h (vs ++ vs') (us ++ us') := by
 induction vs generalizing us with
 | nil => cases x; exact y
 | cons v vs ih => cases x with | cons a b => exact .cons a (ih b)
theorem VRs.take {vs : List V} {us : List Value} (x : VRs Γ μ n h vs us) (k : Nat) : VRs Γ μ n h (vs.take k) (us.take k) := by
 induction vs generalizing us k with
 | nil => cases x; simp; exact .nil
 | cons v vs ih =>
  cases x with
  | cons a b => cases k with
   | zero => simp; exact .nil
   | succ k => simp; exact .cons a (ih b k)
theorem VRs.drop {vs : List V} {us : List Value} (x : VRs Γ μ n h vs us) (k : Nat) : VRs Γ μ n h (vs.drop k) (us.drop k) := by
 induction vs generalizing us k with
 | nil => cases x; simp; exact .nil
 | cons v vs ih =>
  cases x with
  | cons a b => cases k with
   | zero => simp; exact .cons a b
   | succ k => simp; exact ih b k
theorem VRs.set {vs : List V} {us : List Value} (x : VRs Γ μ n h vs us) (k : Nat) {v : V} {u : Value} (y : VR Γ μ n h v u) : VRs Γ μ n h (vs.set k v) (us.set k u) := by
 induction vs generalizing us k with
 | nil => cases x; exact .nil
 | cons v vs ih =>
  cases x with
  | cons a b => cases k with
   | zero => simp; exact .cons y b
   | succ k => simp; exact .cons a (ih b k)
end
noncomputable def Hr (Γ : gT) (μ : Nat → Addr) (n : Nat) (h : Heap) (l : List (Int × V)) (kvs : List (Int × Value)) : Prop := kvs.map (·.1) = l.map (·.1) ∧ VRs Γ μ n h (l.map (·.2)) (kvs.map (·.2))
noncomputable def SDR (Γ : gT) (μ : Nat → Addr) (n : Nat) (h : Heap) (l : List (Nat × V)) (kvs : List (Str × Value)) : Prop := kvs.map (·.1) = l.map (λ p => Γ.nm p.1) ∧ VRs Γ μ n h (l.map (·.2)) (kvs.map (·.2))
noncomputable def OR (Γ : gT) (μ : Nat → Addr) (n : Nat) (h : Heap) (a : Addr) : O → Prop
 | .list l => ∃ items k, IsL h a items k ∧ VRs Γ μ n h l items.toList
 | .bX l => ∃ kvs, h.DictOf (intKind Γ.prog Γ.w) a kvs ∧ Hr Γ μ n h l kvs
 | .aW l => ∃ kvs, h.DictOf (PySem.strKind Γ.prog Γ.w) a kvs ∧ SDR Γ μ n h l kvs
structure aY (Γ : gT) (μ : Nat → Addr) (σ : St) (h : Heap) : Prop where
 base : ∀ b o, Γ.h₀.get? b = some o → h.get? b = some o
 objs : ∀ i o, σ[i]? = some o → OR Γ μ σ.length h (μ i) o
 inj : ∀ i j, i < σ.length → j < σ.length → μ i = μ j → i = j
 lo : ∀ i, i < σ.length → Γ.h₀.get? (μ i) = none
noncomputable def Own (μ : Nat → Addr) (n : Nat) (b : Addr) : Prop := ∃ i, i < n ∧ μ i = b
structure Step (own : Addr → Prop) (μ : Nat → Addr) (n : Nat) (s : Shared) (dY : Nat → Addr) (n' : Nat) (s' : Shared) : Prop where
 uA : ∀ b o, s.heap.get? b = some o → ¬ own b → s'.heap.get? b = some o
 live : ∀ b o, s.heap.get? b = some o → ∃ o', s'.heap.get? b = some o'
 agree : ∀ i, i < n → dY i = μ i
 le : n ≤ n'
 fresh : ∀ i, n ≤ i → i < n' → s.heap.get? (dY i) = none
 gens : s'.gens = s.gens
 drawn : s'.drawn = s.drawn
 os : s'.os = s.os
section
variable {Γ : gT} {μ aJ bA : Nat → Addr} {n n₁ n₂ : Nat} {s s₁ s₂ : Shared} {own zZ : Addr → Prop} {σ σ₁ : St}
theorem OR.obj {h : Heap} {a : Addr} {o : O} (x : OR Γ μ n h a o) : ∃ ob, h.get? a = some ob ∧ fz ob = false ∧ (∀ v, ob.data ≠ .cell v) := by
 cases o with
 | list l => obtain ⟨items, m, ho, _⟩ := x; exact ⟨_, ho, by simp [fz], by simp⟩
 | bX l => obtain ⟨kvs, ⟨ob, es, ep, ho, hc, hd, _⟩, _⟩ := x; exact ⟨ob, ho, by simp [fz, hc.1, hd], by simp [hd]⟩
 | aW l => obtain ⟨kvs, ⟨ob, es, ep, ho, hc, hd, _⟩, _⟩ := x; exact ⟨ob, ho, by simp [fz, hc.1, hd], by simp [hd]⟩
theorem OR.mono {h h' : Heap} {a : Addr} {o : O} (x : OR Γ μ n h a o) (e : ∀ ob, h.get? a = some ob → h'.get? a = some ob) (k : cL h h') (hμ : ∀ i, i < n → aJ i = μ i) (hn : n ≤ n₁) : OR Γ aJ n₁ h' a o := by
 cases o with
 | list l => obtain ⟨items, m, ho, hs⟩ := x; exact ⟨items, m, e _ ho, hs.mono k hμ hn⟩
 | bX l => obtain ⟨kvs, ⟨ob, es, ep, ho, r⟩, hs⟩ := x; exact ⟨kvs, ⟨ob, es, ep, e _ ho, r⟩, hs.1, hs.2.mono k hμ hn⟩
 | aW l => obtain ⟨kvs, ⟨ob, es, ep, ho, r⟩, hs⟩ := x; exact ⟨kvs, ⟨ob, es, ep, e _ ho, r⟩, hs.1, hs.2.mono k hμ hn⟩
theorem aY.at {h : Heap} (H : aY Γ μ σ h) {i : Nat} (hi : i < σ.length) : ∃ ob, h.get? (μ i) = some ob ∧ fz ob = false ∧ (∀ v, ob.data ≠ .cell v) :=
 (H.objs i σ[i] (by simp [hi])).obj
theorem aY.wV {h : Heap} (H : aY Γ μ σ h) {b : Addr} (x : Own μ σ.length b) {o : Obj} (e : h.get? b = some o) : fz o = false := by
 obtain ⟨i, hi, rfl⟩ := x
 obtain ⟨ob, h1, h2, _⟩ := H.at hi
 rw [h1] at e; cases e; exact h2
theorem Step.Iv (S : Step own μ n s aJ n₁ s₁) (hz : ∀ b o, own b → s.heap.get? b = some o → fz o = false) : cL s.heap s₁.heap := λ a o e f =>
 S.uA a o e λ x => by rw [hz a o x e] at f; cases f
theorem Step.Om (H : aY Γ μ σ s.heap) (S : Step (Own μ σ.length) μ σ.length s aJ n₁ s₁) : cL s.heap s₁.heap := S.Iv λ _ _ x e => H.wV x e
theorem Step.vr (H : aY Γ μ σ s.heap) (S : Step (Own μ σ.length) μ σ.length s aJ n₁ s₁) {v : V} {u : Value} (x : VR Γ μ σ.length s.heap v u) : VR Γ aJ n₁ s₁.heap v u := x.mono (S.Om H) S.agree S.le
theorem Step.MS (H : aY Γ μ σ s.heap) (S : Step (Own μ σ.length) μ σ.length s aJ n₁ s₁) {v : List V} {u : List Value} (x : VRs Γ μ σ.length s.heap v u) : VRs Γ aJ n₁ s₁.heap v u := x.mono (S.Om H) S.agree S.le
theorem Step.refl : Step own μ n s μ n s := ⟨λ _ _ e _ => e, λ _ o e => ⟨o, e⟩, λ _ _ => rfl, Nat.le_refl _, λ _ h1 h2 => absurd h2 (Nat.not_lt.mpr h1), rfl, rfl, rfl⟩
theorem Step.toks (t : Nat) : Step own μ n s μ n { s with toks := t } := ⟨λ _ _ e _ => e, λ _ o e => ⟨o, e⟩, λ _ _ => rfl, Nat.le_refl _, λ _ h1 h2 => absurd h2 (Nat.not_lt.mpr h1), rfl, rfl, rfl⟩
theorem Step.trans (S : Step own μ n s aJ n₁ s₁) (T : Step zZ aJ n₁ s₁ bA n₂ s₂) (hw : ∀ b, zZ b → own b ∨ s.heap.get? b = none) : Step own μ n s bA n₂ s₂ := by
 refine ⟨λ b o e q => ?_, λ b o e => ?_, λ i hi => ?_, Nat.le_trans S.le T.le, λ i h1 h2 => ?_, T.gens.trans S.gens, T.drawn.trans S.drawn, T.os.trans S.os⟩
 ·refine T.uA b o (S.uA b o e q) λ x => ?_
  rcases hw b x with y | y
  ·exact q y
  ·rw [y] at e; cases e
 ·obtain ⟨o', e'⟩ := S.live b o e
  exact T.live b o' e'
 ·rw [T.agree i (Nat.lt_of_lt_of_le hi S.le), S.agree i hi]
 ·by_cases h : i < n₁
  ·rw [T.agree i h]; exact S.fresh i h1 h
  ·have := T.fresh i (Nat.not_lt.mp h) h2
   cases q : s.heap.get? (bA i) with
   | none => rfl
   | some o => obtain ⟨o', e'⟩ := S.live _ _ q; rw [e'] at this; cases this
theorem Step.HT (S : Step own μ n s aJ n₁ s₁) (hw : ∀ b, Own μ n b → own b) : ∀ b, Own aJ n₁ b → own b ∨ s.heap.get? b = none := by
 rintro b ⟨i, hi, rfl⟩
 by_cases h : i < n
 ·exact .inl (hw _ ⟨i, h, (S.agree i h).symm⟩)
 ·exact .inr (S.fresh i (Nat.not_lt.mp h) hi)
theorem Step.then (S : Step (Own μ n) μ n s aJ n₁ s₁) (T : Step (Own aJ n₁) aJ n₁ s₁ bA n₂ s₂) : Step (Own μ n) μ n s bA n₂ s₂ := S.trans T (S.HT λ _ x => x)
theorem Step.push (o : Obj) : Step own μ n s μ n { s with heap := s.heap.push o } :=
 ⟨λ _ _ e _ => Heap.get?_push_of_some o e, λ _ _ e => ⟨_, Heap.get?_push_of_some o e⟩, λ _ _ => rfl, Nat.le_refl _, λ _ h1 h2 => absurd h2 (Nat.not_lt.mpr h1), rfl, rfl, rfl⟩
theorem Step.ext (S : Step own μ n s aJ n₁ s₁) {it : Addr} {h' : Heap} (hn : s.heap.get? it = none) (x : Heap.ExtBut it s₁.heap h') (t : Nat) : Step own μ n s aJ n₁ { s₁ with heap := h', toks := t } := by
 have ne : ∀ b o, s.heap.get? b = some o → b ≠ it := by rintro b o e rfl; rw [hn] at e; cases e
 exact ⟨λ b o e q => x b o (ne b o e) (S.uA b o e q), λ b o e => let ⟨o', e'⟩ := S.live b o e; ⟨o', x b o' (ne b o e) e'⟩, S.agree, S.le, S.fresh, S.gens, S.drawn, S.os⟩
theorem fC (h : Heap) : h.get? h.objs.size = none := by
 cases q : h.get? h.objs.size with
 | none => rfl
 | some o => exact absurd (Heap.lt_size q) (Nat.lt_irrefl _)
theorem cL.refl (h : Heap) : cL h h := λ _ _ e _ => e
theorem cL.trans {h h' h'' : Heap} (x : cL h h') (y : cL h' h'') : cL h h'' := λ a o e f => y a o (x a o e f) f
theorem cL.push (h : Heap) (o : Obj) : cL h (h.push o) := λ _ _ e _ => Heap.get?_push_of_some o e
theorem cL.ext {it : Addr} {h h' : Heap} (x : Heap.ExtBut it h h') (hz : ∀ o, h.get? it = some o → fz o = false) : cL h h' := λ a o e f =>
 x a o (by rintro rfl; rw [hz o e] at f; cases f) e
theorem aY.ext {h h' : Heap} {it : Addr} (H : aY Γ μ σ h) (x : Heap.ExtBut it h h') (hz : ∀ o, h.get? it = some o → fz o = false) (hb : Γ.h₀.get? it = none) (ho : ∀ i, i < σ.length → μ i ≠ it) : aY Γ μ σ h' :=
 ⟨λ b o e => x b o (by rintro rfl; rw [hb] at e; cases e) (H.base b o e),
  λ i o e => (H.objs i o e).mono (λ ob e' => x _ _ (ho i (List.getElem?_eq_some_iff.mp e).1) e') (.ext x hz) (λ _ _ => rfl) (Nat.le_refl _), H.inj, H.lo⟩
theorem aY.push {h : Heap} (H : aY Γ μ σ h) (o : Obj) : aY Γ μ σ (h.push o) :=
 ⟨λ b o' e => Heap.get?_push_of_some o (H.base b o' e), λ i o' e => (H.objs i o' e).mono (λ ob e' => Heap.get?_push_of_some o e') (.push h o) (λ _ _ => rfl) (Nat.le_refl _), H.inj, H.lo⟩
theorem aY.lE {h : Heap} (H : aY Γ μ σ h) : Γ.h₀.get? h.objs.size = none := by
 cases q : Γ.h₀.get? h.objs.size with
 | none => rfl
 | some o => exact absurd (Heap.lt_size (H.base _ _ q)) (Nat.lt_irrefl _)
theorem aY.qB {h : Heap} (H : aY Γ μ σ h) {i : Nat} (hi : i < σ.length) : μ i ≠ h.objs.size := by
 obtain ⟨ob, e, _⟩ := H.at hi
 exact Nat.ne_of_lt (Heap.lt_size e)
noncomputable def fD (μ : Nat → Addr) (n : Nat) (a : Addr) : Nat → Addr := λ i => if i = n then a else μ i
theorem c9 (μ : Nat → Addr) (n : Nat) (a : Addr) : fD μ n a n = a := if_pos rfl
theorem cA {μ : Nat → Addr} {n i : Nat} {a : Addr} (h : i < n) : fD μ n a i = μ i := if_neg (Nat.ne_of_lt h)
theorem aY.alloc {h : Heap} (H : aY Γ μ σ h) (ob : Obj) (o : O) (hO : OR Γ (fD μ σ.length h.objs.size) (σ.length + 1) (h.push ob) h.objs.size o) :
  aY Γ (fD μ σ.length h.objs.size) (σ ++ [o]) (h.push ob) := by
 have hlen : (σ ++ [o]).length = σ.length + 1 := by simp
 refine ⟨λ b o' e => Heap.get?_push_of_some ob (H.base b o' e), λ i o' e => ?_, λ i j hi hj e => ?_, λ i hi => ?_⟩
 ·rw [hlen]
  by_cases hi : i < σ.length
  ·rw [List.getElem?_append_left hi] at e
   rw [cA hi]
   exact (H.objs i o' e).mono (λ _ e' => Heap.get?_push_of_some ob e') (.push h ob) (λ _ hj => cA hj) (Nat.le_succ _)
  ·have hlt := (List.getElem?_eq_some_iff.mp e).1
   have : i = σ.length := by rw [hlen] at hlt; lia
   subst this
   simp at e; subst e
   rw [c9]; exact hO
 ·rw [hlen] at hi hj
  by_cases h1 : i < σ.length <;> by_cases h2 : j < σ.length
  ·rw [cA h1, cA h2] at e; exact H.inj i j h1 h2 e
  ·have : j = σ.length := by lia
   subst this
   rw [cA h1, c9] at e
   exact absurd e (H.qB h1)
  ·have : i = σ.length := by lia
   subst this
   rw [cA h2, c9] at e
   exact absurd e.symm (H.qB h2)
  ·lia
 ·rw [hlen] at hi
  by_cases h1 : i < σ.length
  ·rw [cA h1]; exact H.lo i h1
  ·have : i = σ.length := by lia
   subst this
   rw [c9]; exact H.lE
theorem Step.alloc (ob : Obj) (hn : n = n) : Step own μ n s (fD μ n s.heap.objs.size) (n + 1) { s with heap := s.heap.push ob } :=
 ⟨λ _ _ e _ => Heap.get?_push_of_some ob e, λ _ _ e => ⟨_, Heap.get?_push_of_some ob e⟩, λ _ hi => cA hi, Nat.le_succ _,
  λ i h1 h2 => by have : i = n := (by lia); subst this; rw [c9]; exact fC _, rfl, rfl, rfl⟩
theorem aY.set {h h' : Heap} (H : aY Γ μ σ h) {i : Nat} {o : O} (hi : i < σ.length) (x : Heap.SameBut (μ i) h h') (hO : cL h h' → OR Γ μ σ.length h' (μ i) o) : aY Γ μ (σ.set i o) h' := by
 have hlen : (σ.set i o).length = σ.length := by simp
 have hz : ∀ o, h.get? (μ i) = some o → fz o = false := λ o e => H.wV ⟨i, hi, rfl⟩ e
 have kf : cL h h' := .ext x.extBut hz
 refine ⟨λ b o' e => ?_, λ j o' e => ?_, by rw [hlen]; exact H.inj, by rw [hlen]; exact H.lo⟩
 ·exact x.extBut b o' (by rintro rfl; rw [H.lo i hi] at e; cases e) (H.base b o' e)
 ·rw [hlen]
  by_cases hj : j = i
  ·subst hj
   simp [hi] at e; subst e
   exact hO kf
  ·rw [List.getElem?_set_ne (Ne.symm hj)] at e
   have hlt := (List.getElem?_eq_some_iff.mp e).1
   exact (H.objs j o' e).mono (λ _ e' => x.extBut _ _ (λ q => hj (H.inj j i hlt hi q)) e') kf (λ _ _ => rfl) (Nat.le_refl _)
theorem Step.set {h' : Heap} {i : Nat} (hi : own (μ i)) (x : Heap.SameBut (μ i) s.heap h') (hl : ∃ o, h'.get? (μ i) = some o) (t : Nat) : Step own μ n s μ n { s with heap := h', toks := t } :=
 ⟨λ b o e q => x.extBut b o (by rintro rfl; exact q hi) e, λ b o e => by
  by_cases hb : b = μ i
  ·subst hb; exact hl
  ·exact ⟨o, x.extBut b o hb e⟩, λ _ _ => rfl, Nat.le_refl _, λ _ h1 h2 => absurd h2 (Nat.not_lt.mpr h1), rfl, rfl, rfl⟩
end
structure fX (A : Around) (d : Nat) : Prop where
 handled : A.handled = none
 depth : A.depth + 10 * d < 900
 units : A.units + 20 * d + 100 < 9900
structure Cx where
 sc : Scope
 vars : List (Nat × Nat)
 fn : Bool
noncomputable def JB (Γ : gT) (cx : Cx) (env : Env) (b : Addr) : Prop :=
 b = env.locals ∨ (cx.fn = true ∧ ∃ p ∈ cx.vars, env.kindOf (Γ.nm p.2) = some .cell ∧ env.cells.lookup (Γ.nm p.2) = some b)
structure dN (Γ : gT) (cx : Cx) (env : Env) (μ : Nat → Addr) (n : Nat) (ρ : Loc) (h : Heap) : Prop where
 scope : env.scope = cx.sc
 kind : cx.sc.kind = .function
 globals : env.globals = mainGlobals
 builtins : env.builtins = builtinsNs
 locals : ∃ m, h.Ns env.locals m ∧ ∀ p ∈ cx.vars, env.kindOf (Γ.nm p.2) = some .local → ∀ v, ρ[p.1]? = some (some v) → ∃ u, m (Γ.nm p.2) = some u ∧ VR Γ μ n h v u
 cells : ∀ p ∈ cx.vars, env.kindOf (Γ.nm p.2) = some .cell → ∃ c x, env.cells.lookup (Γ.nm p.2) = some c ∧ h.IsCell c x ∧ ∀ v, ρ[p.1]? = some (some v) → ∃ u, x = some u ∧ VR Γ μ n h v u
 tQ : ∀ p ∈ cx.vars, ∀ q ∈ cx.vars, ∀ c, env.kindOf (Γ.nm p.2) = some .cell → env.kindOf (Γ.nm q.2) = some .cell → env.cells.lookup (Γ.nm p.2) = some c → env.cells.lookup (Γ.nm q.2) = some c → p = q
 qZ : ∀ i, i < n → μ i ≠ env.locals
 lo : Γ.h₀.get? env.locals = none
 LX : ∀ p ∈ cx.vars, ∀ c, env.kindOf (Γ.nm p.2) = some .cell → env.cells.lookup (Γ.nm p.2) = some c → Γ.h₀.get? c = none
noncomputable def gF (Γ : gT) (cx : Cx) (k : Nat) : Option NameKind := cx.sc.names.lookup (Γ.nm k)
structure aR (Γ : gT) (cx : Cx) : Prop where
 kinds : ∀ p ∈ cx.vars, gF Γ cx p.2 = some .local ∨ gF Γ cx p.2 = some .cell
 names : ∀ p ∈ cx.vars, ∀ q ∈ cx.vars, p.2 = q.2 → p = q
 slots : ∀ p ∈ cx.vars, ∀ q ∈ cx.vars, p.1 = q.1 → p = q
section
variable {Γ : gT} {cx : Cx} {env : Env} {μ aJ dY : Nat → Addr} {n n₁ n' : Nat} {ρ : Loc} {h h' : Heap} {s s₁ s' : Shared} {σ σ₁ : St}
theorem dN.kindOf (R : dN Γ cx env μ n ρ h) (k : Nat) : env.kindOf (Γ.nm k) = gF Γ cx k := by unfold Env.kindOf gF; rw [R.scope]
theorem Heap.Ns.obj {h : Heap} {a : Addr} {m} (x : h.Ns a m) : ∃ o es ep, h.get? a = some o ∧ o.data = .dict es ep := let ⟨o, es, ep, a, b, _⟩ := x; ⟨o, es, ep, a, b⟩
theorem dN.step (R : dN Γ cx env μ σ.length ρ s.heap) (H : aY Γ μ σ s.heap) (S : Step (Own μ σ.length) μ σ.length s aJ n₁ s₁) : dN Γ cx env aJ n₁ ρ s₁.heap := by
 have kf := S.Om H
 refine ⟨R.scope, R.kind, R.globals, R.builtins, ?_, λ p hp hk => ?_, R.tQ, λ i hi => ?_, R.lo, R.LX⟩
 ·obtain ⟨m, ⟨o, es, ep, ho, r⟩, hm⟩ := R.locals
  refine ⟨m, ⟨o, es, ep, S.uA _ _ ho λ ⟨i, hi, e⟩ => R.qZ i hi e, r⟩, λ p hp hk v hv => ?_⟩
  obtain ⟨u, h1, h2⟩ := hm p hp hk v hv
  exact ⟨u, h1, h2.mono kf S.agree S.le⟩
 ·obtain ⟨c, x, h1, ⟨o, ho, hd⟩, h3⟩ := R.cells p hp hk
  refine ⟨c, x, h1, ⟨o, S.uA _ _ ho λ ⟨i, hi, e⟩ => ?_, hd⟩, λ v hv => ?_⟩
  ·obtain ⟨ob, e1, _, e3⟩ := H.at hi
   rw [e, ho] at e1; cases e1
   exact e3 _ hd
  ·obtain ⟨u, e1, e2⟩ := h3 v hv
   exact ⟨u, e1, e2.mono kf S.agree S.le⟩
 ·by_cases hlt : i < σ.length
  ·rw [S.agree i hlt]; exact R.qZ i hlt
  ·obtain ⟨m, hn, _⟩ := R.locals
   obtain ⟨o, _, _, ho, _⟩ := Heap.Ns.obj hn
   intro e
   have := S.fresh i (Nat.not_lt.mp hlt) hi
   rw [e, ho] at this; cases this
noncomputable abbrev Cont (Γ : gT) (μ : Nat → Addr) (σ : St) (s : Shared) (v : V) (σ' : St) (Q : Value → Shared → Prop) : Prop :=
 ∀ u dY s', aY Γ dY σ' s'.heap → Step (Own μ σ.length) μ σ.length s dY σ'.length s' → VR Γ dY σ'.length s'.heap v u → Q u s'
noncomputable abbrev X (α : Type) := Loc → St → Option (α × St)
noncomputable def aC (Γ : gT) (d : Nat) (cx : Cx) (e : PySem.Expr) (f : X V) : Prop :=
 ∀ (A : Around) (env : Env) (μ : Nat → Addr) (ρ : Loc) (σ : St) (s : Shared) (v : V) (σ' : St) (Q : Value → Shared → Prop) (E : Value → Shared → Prop),
  fX A d → aY Γ μ σ s.heap → dN Γ cx env μ σ.length ρ s.heap → f ρ σ = some (v, σ') → Cont Γ μ σ s v σ' Q → wpAny Γ.M A (eval e env) Q E s
noncomputable def iF (Γ : gT) (d : Nat) (cx : Cx) (es : List PySem.Expr) (f : X (List V)) : Prop :=
 ∀ (A : Around) (env : Env) (pos : Pos) (μ : Nat → Addr) (ρ : Loc) (σ : St) (s : Shared) (vs : List V) (σ' : St) (Q : List Value → Shared → Prop) (E : Value → Shared → Prop),
  fX A d → aY Γ μ σ s.heap → dN Γ cx env μ σ.length ρ s.heap → f ρ σ = some (vs, σ') →
  (∀ us dY s', aY Γ dY σ' s'.heap → Step (Own μ σ.length) μ σ.length s dY σ'.length s' → VRs Γ dY σ'.length s'.heap vs us → Q us s') →
  wpAny Γ.M A (spliced (backTo pos (starEach es env))) Q E s
noncomputable def bK (Γ : gT) (d : Nat) (cx : Cx) (e : PySem.Expr) (f : X Bool) : Prop :=
 ∀ (A : Around) (env : Env) (μ : Nat → Addr) (ρ : Loc) (σ : St) (s : Shared) (v : Bool) (σ' : St) (Q : Bool → Shared → Prop) (E : Value → Shared → Prop),
  fX A d → aY Γ μ σ s.heap → dN Γ cx env μ σ.length ρ s.heap → f ρ σ = some (v, σ') →
  (∀ dY s', aY Γ dY σ' s'.heap → Step (Own μ σ.length) μ σ.length s dY σ'.length s' → Q v s') → wpAny Γ.M A (isTrue e env (eval e env)) Q E s
namespace X
noncomputable def fail {α : Type} : X α := λ _ _ => none
noncomputable def pure {α : Type} (a : α) : X α := λ _ σ => some (a, σ)
noncomputable def bind {α β : Type} (x : X α) (f : α → X β) : X β := λ ρ σ => match x ρ σ with
 | some (a, σ') => f a ρ σ'
 | none => none
noncomputable def var (i : Nat) : X V := λ ρ σ => match ρ[i]? with
 | some (some v) => some (v, σ)
 | _ => none
noncomputable def lift {α : Type} (r : St → Option (α × St)) : X α := λ _ σ => r σ
end X
theorem X.bind_some {α β : Type} {x : X α} {f : α → X β} {ρ : Loc} {σ : St} {b : β} {σ' : St} (e : X.bind x f ρ σ = some (b, σ')) : ∃ a σ₁, x ρ σ = some (a, σ₁) ∧ f a ρ σ₁ = some (b, σ') := by
 unfold X.bind at e
 split at e
 ·rename_i a σ₁ h; exact ⟨a, σ₁, h, e⟩
 ·cases e
variable {d : Nat}
theorem aC.fail {e : PySem.Expr} : aC Γ d cx e X.fail := λ _ _ _ _ _ _ _ _ _ _ _ _ _ e _ => by cases e
theorem bK.fail {e : PySem.Expr} : bK Γ d cx e X.fail := λ _ _ _ _ _ _ _ _ _ _ _ _ _ e _ => by cases e
theorem aC.int {i : Int} {k : Nat} {pos : Pos} : aC Γ d cx (.Constant (.int i) k pos) (X.pure (.int i)) := λ A env μ ρ σ s v σ' Q E _ H R e c => by
 cases e; exact wpAny_Constant_int (c _ μ _ H (.toks _) (.int _ _))
theorem aC.bool {b : Bool} {k : Nat} {pos : Pos} : aC Γ d cx (.Constant (.bool b) k pos) (X.pure (.bool b)) := λ A env μ ρ σ s v σ' Q E _ H R e c => by
 cases e; exact wpAny_pure (c _ μ _ H .refl (.bool _))
theorem aC.none {k : Nat} {pos : Pos} : aC Γ d cx (.Constant .none k pos) (X.pure .none) := λ A env μ ρ σ s v σ' Q E _ H R e c => by
 cases e; exact wpAny_pure (c _ μ _ H .refl .none)
theorem aC.str {x : Str} {k kk : Nat} {pos : Pos} (hx : Γ.nm k = x) : aC Γ d cx (.Constant (.str x) kk pos) (X.pure (.str k)) := λ A env μ ρ σ s v σ' Q E _ H R e c => by
 cases e; subst hx
 exact λ Γ' p hΓ => c _ μ _ H (.toks _) (.str _ _)
theorem aC.var {i k : Nat} {x : Str} {pos : Pos} (hx : Γ.nm k = x) (hv : (i, k) ∈ cx.vars) (O : aR Γ cx) (hd : (x == ("__debug__" : Str)) = false) : aC Γ d cx (.Name x pos) (X.var i) := λ A env μ ρ σ s v σ' Q E _ H R e c => by
 subst hx
 obtain ⟨PU, rfl⟩ : ρ[i]? = some (some v) ∧ σ = σ' := by
  unfold X.var at e
  cases h : ρ[i]? with
  | none => rw [h] at e; exact nS e
  | some o =>
   rw [h] at e
   cases o with
   | none => exact nS e
   | some _ => cases e; exact ⟨rfl, rfl⟩
 have hk := O.kinds _ hv
 rw [← R.kindOf] at hk
 rcases hk with hk | hk
 ·obtain ⟨m, hn, hm⟩ := R.locals
  obtain ⟨u, h1, h2⟩ := hm _ hv hk _ PU
  exact wpAny_Name (wpAny_loadName_local (by rw [R.scope]; exact R.kind) hk hn h1 (c _ μ _ H .refl h2)) hd
 ·obtain ⟨cc, x, h1, h2, h3⟩ := R.cells _ hv hk
  obtain ⟨u, rfl, h4⟩ := h3 _ PU
  exact wpAny_Name (wpAny_loadName_cell (by rw [R.scope]; exact R.kind) hk h1 h2 (c _ μ _ H .refl h4)) hd
theorem fX.in1 {A : Around} (r : fX A d) : A.in1.handled = none := r.handled
noncomputable def b9 (Γ : gT) (d : Nat) (op : Value → Value → Sem Value) (g : V → V → St → Option (V × St)) : Prop :=
 ∀ (A : Around) (μ : Nat → Addr) (σ : St) (s : Shared) (a b v : V) (ua ub : Value) (σ' : St) (Q : Value → Shared → Prop) (E : Value → Shared → Prop),
  fX A d → aY Γ μ σ s.heap → VR Γ μ σ.length s.heap a ua → VR Γ μ σ.length s.heap b ub → g a b σ = some (v, σ') → Cont Γ μ σ s v σ' Q → wpAny Γ.M A (op ua ub) Q E s
theorem aC.bin {l r : PySem.Expr} {op : Operator} {pos : Pos} {f g : X V} {o : V → V → St → Option (V × St)} (hf : aC Γ d cx l f) (hg : aC Γ d cx r g) (ho : b9 Γ d (binaryOp op) o) :
  aC Γ d cx (.BinOp l op r pos) (X.bind f λ a => X.bind g λ b => X.lift (o a b)) := λ A env μ ρ σ s v σ' Q E r H R e c => by
 obtain ⟨a, σ₁, e1, e⟩ := X.bind_some e
 obtain ⟨b, σ₂, e2, e⟩ := X.bind_some e
 refine wpAny_BinOp (hf A env μ ρ σ s a σ₁ _ E r H R e1 λ ua aJ s₁ H₁ S₁ cQ => ?_)
 refine hg A env aJ ρ σ₁ s₁ b σ₂ _ E r H₁ (R.step H S₁) e2 λ ub bA s₂ cP S₂ eZ => ?_
 exact ho A bA σ₂ s₂ a b v ua ub σ' _ E r cP (S₂.vr H₁ cQ) eZ e λ u f6 s₃ gG iG V₃ => c u f6 s₃ gG ((S₁.then S₂).then iG) V₃
theorem aC.cmp {l r : PySem.Expr} {op : CmpOp} {pos : Pos} {f g : X V} {o : V → V → St → Option (V × St)} (hf : aC Γ d cx l f) (hg : aC Γ d cx r g) (ho : b9 Γ d (compareOp op) o) (hm : behindInMarks op r = false) :
  aC Γ d cx (.Compare l [op] [r] pos) (X.bind f λ a => X.bind g λ b => X.lift (o a b)) := λ A env μ ρ σ s v σ' Q E r H R e c => by
 obtain ⟨a, σ₁, e1, e⟩ := X.bind_some e
 obtain ⟨b, σ₂, e2, e⟩ := X.bind_some e
 refine wpAny_Compare1 (hf A env μ ρ σ s a σ₁ _ E r H R e1 λ ua aJ s₁ H₁ S₁ cQ => ?_) hm
 refine hg A env aJ ρ σ₁ s₁ b σ₂ _ E r H₁ (R.step H S₁) e2 λ ub bA s₂ cP S₂ eZ => ?_
 exact ho A bA σ₂ s₂ a b v ua ub σ' _ E r cP (S₂.vr H₁ cQ) eZ e λ u f6 s₃ gG iG V₃ => c u f6 s₃ gG ((S₁.then S₂).then iG) V₃
end
section
variable {Γ : gT} {cx : Cx} {d : Nat}
theorem X.lQ {α : Type} {r : St → Option (α × St)} {ρ : Loc} {σ : St} {x : α × St} (e : X.lift r ρ σ = some x) : r σ = some x := e
theorem iF.nil : iF Γ d cx [] (X.pure []) := λ A env pos μ ρ σ s vs σ' Q E r H R e c => by
 cases e; exact args_nil (c _ μ _ H .refl .nil)
theorem iF.cons {e : PySem.Expr} {es : List PySem.Expr} {f : X V} {g : X (List V)} (hf : aC Γ d cx e f) (hg : iF Γ d cx es g) (he : ∀ env, starEach (e :: es) env = (false, eval e env) :: starEach es env) :
  iF Γ d cx (e :: es) (X.bind f λ v => X.bind g λ vs => X.pure (v :: vs)) := λ A env pos μ ρ σ s vs σ' Q E r H R e c => by
 obtain ⟨a, σ₁, e1, e⟩ := X.bind_some e
 obtain ⟨b, σ₂, e2, e⟩ := X.bind_some e
 cases e
 refine args_cons (hf A env μ ρ σ s a σ₁ _ E r H R e1 λ ua aJ s₁ H₁ S₁ cQ => ?_) (he env)
 exact hg A env pos aJ ρ σ₁ s₁ b _ _ E r H₁ (R.step H S₁) e2 λ ub bA s₂ cP S₂ eZ => c _ bA s₂ cP (S₁.then S₂) (.cons (S₂.vr H₁ cQ) eZ)
noncomputable def iY (vs : List V) : X (List V) := λ _ σ => if vs.length ≤ 1000 then some (vs, σ) else none
theorem aC.tup {es : List PySem.Expr} {k : Nat} {pos : Pos} {f : X (List V)} (hf : iF Γ d cx es f) : aC Γ d cx (.Tuple es k pos) (X.bind f λ vs => X.bind (iY vs) λ vs => X.pure (.tup vs)) := λ A env μ ρ σ s v σ' Q E r H R e c => by
 obtain ⟨vs, σ₁, e1, e⟩ := X.bind_some e
 obtain ⟨vs', σ₂, e2, e⟩ := X.bind_some e
 cases e
 unfold iY at e2
 split at e2 <;> cases e2
 rename_i hl
 refine wpAny_Tuple_spliced (hf A env pos μ ρ σ s vs _ _ E r H R e1 λ us aJ s₁ H₁ S₁ cQ => ⟨?_, ?_⟩)
 ·rw [← cQ.length, sizeLine_eq]; lia
 ·have T : Step (Own aJ σ'.length) aJ σ'.length s₁ aJ σ'.length { s₁ with heap := s₁.heap.push { cls := .type "tuple", data := .seq us.toArray } } := .push _
  refine c _ aJ _ (H₁.push _) (S₁.then T) (.tup (IsT.new _ _) ?_)
  exact cQ.mono (.push _ _) (λ _ _ => rfl) (Nat.le_refl _)
theorem aC.lst {es : List PySem.Expr} {pos : Pos} {f : X (List V)} (hf : iF Γ d cx es f) : aC Γ d cx (.List es pos) (X.bind f λ vs => X.bind (iY vs) λ vs => X.lift λ σ => some (.obj σ.length, σ ++ [.list vs])) := λ A env μ ρ σ s v σ' Q E r H R e c => by
 obtain ⟨vs, σ₁, e1, e⟩ := X.bind_some e
 obtain ⟨vs', σ₂, e2, e⟩ := X.bind_some e
 cases X.lQ e
 unfold iY at e2
 split at e2 <;> cases e2
 rename_i hl
 refine wpAny_List_spliced (hf A env pos μ ρ σ s vs _ _ E r H R e1 λ us aJ s₁ H₁ S₁ cQ => ⟨?_, ?_⟩)
 ·rw [← cQ.length, sizeLine_eq]; lia
 ·have T : Step (Own aJ σ₁.length) aJ σ₁.length s₁ _ _ { s₁ with heap := s₁.heap.push { cls := .type "list", data := .seq us.toArray } } := .alloc _ rfl
  have len : (σ₁ ++ [O.list vs]).length = σ₁.length + 1 := by simp
  have e0 : Value.ref s₁.heap.objs.size = .ref (fD aJ σ₁.length s₁.heap.objs.size σ₁.length) := by rw [c9]
  rw [e0]
  refine c _ _ _ (H₁.alloc _ _ ⟨us.toArray, 0, IsL.new _ _, ?_⟩) (by rw [len]; exact S₁.then T) (.obj (by rw [len]; lia))
  exact cQ.mono (.push _ _) (λ i hi => cA hi) (Nat.le_succ _)
noncomputable def X.truth (v : V) : X Bool := λ _ σ => match v with
 | .bool b => some (b, σ)
 | _ => none
theorem lM {v : V} {b : Bool} {σ' : St} (e : X.truth v ρ σ = some (b, σ')) : v = .bool b ∧ σ' = σ := by
 cases v with
 | bool _ => cases e; exact ⟨rfl, rfl⟩
 | _ => exact nS e
theorem bK.ofE {e : PySem.Expr} {f : X V} (hf : aC Γ d cx e f) (he : ∀ env t, isTrue e env t = (do let v ← t; standAt e.pos; holding [v] (truthy v))) : bK Γ d cx e (X.bind f X.truth) := λ A env μ ρ σ s v σ' Q E r H R e c => by
 obtain ⟨a, σ₁, e1, e⟩ := X.bind_some e
 obtain ⟨rfl, rfl⟩ := lM e
 rw [he]
 refine wpAny_bind (hf A env μ ρ σ s _ _ _ E r H R e1 λ u aJ s₁ H₁ S₁ cQ => ?_)
 cases cQ.vC
 exact wpAny_bind (wpAny_standAt (wpAny_holding (wpAny_truthy_bool (c aJ s₁ H₁ S₁))))
theorem bK.cmp {l r : PySem.Expr} {op : CmpOp} {pos : Pos} {f g : X V} {o : V → V → St → Option (V × St)} (hf : aC Γ d cx l f) (hg : aC Γ d cx r g) (ho : b9 Γ d (compareOp op) o) (hm : behindInMarks op r = false) :
  bK Γ d cx (.Compare l [op] [r] pos) (X.bind (X.bind f λ a => X.bind g λ b => X.lift (o a b)) X.truth) := λ A env μ ρ σ s v σ' Q E rm H R e c => by
 obtain ⟨x, j9, e0, e⟩ := X.bind_some e
 obtain ⟨a, σ₁, e1, e0⟩ := X.bind_some e0
 obtain ⟨b, σ₂, e2, e0⟩ := X.bind_some e0
 refine wpAny_isTrue_Compare1 (hf A env μ ρ σ s a σ₁ _ E rm H R e1 λ ua aJ s₁ H₁ S₁ cQ => ?_) hm
 refine hg A env aJ ρ σ₁ s₁ b σ₂ _ E rm H₁ (R.step H S₁) e2 λ ub bA s₂ cP S₂ eZ => ?_
 refine ho A bA σ₂ s₂ a b x ua ub j9 _ E rm cP (S₂.vr H₁ cQ) eZ e0 λ u f6 s₃ gG iG V₃ => ?_
 obtain ⟨rfl, rfl⟩ := lM e
 cases V₃.vC
 exact wpAny_truthy_bool (c f6 s₃ gG ((S₁.then S₂).then iG))
theorem bK.qR {l m r : PySem.Expr} {op op' : CmpOp} {pos : Pos} {f g h : X V} {o o' : V → V → St → Option (V × St)} (hf : aC Γ d cx l f) (hg : aC Γ d cx m g) (hh : aC Γ d cx r h)
  (ho : b9 Γ d (compareOp op) o) (ho' : b9 Γ d (compareOp op') o') (hm : lastMarks [op, op'] [m, r] = false) :
  bK Γ d cx (.Compare l [op, op'] [m, r] pos) (X.bind f λ a => X.bind g λ b => X.bind (X.bind (X.lift (o a b)) X.truth) λ t => if t then X.bind (X.bind h λ c => X.lift (o' b c)) X.truth else X.pure false) := λ A env μ ρ σ s v σ' Q E rm H R e c => by
 obtain ⟨a, σ₁, e1, e⟩ := X.bind_some e
 obtain ⟨b, σ₂, e2, e⟩ := X.bind_some e
 obtain ⟨t, j9, e3, e⟩ := X.bind_some e
 obtain ⟨x, MO, e4, e3⟩ := X.bind_some e3
 refine isTrue_chain (hf A env μ ρ σ s a σ₁ _ E rm H R e1 λ ua aJ s₁ H₁ S₁ cQ => ?_) hm
 show wpAny _ _ (testChain pos ua [op, op'] [eval m env, eval r env]) _ _ _
 refine wpAny_bind (wpAny_holding (hg A env aJ ρ σ₁ s₁ b σ₂ _ E rm H₁ (R.step H S₁) e2 λ ub bA s₂ cP S₂ eZ => ?_))
 refine wpAny_bind (wpAny_standAt (wpAny_bind (wpAny_holding ?_)))
 refine ho A bA σ₂ s₂ a b x ua ub MO _ E rm cP (S₂.vr H₁ cQ) eZ e4 λ u f6 s₃ gG iG V₃ => ?_
 obtain ⟨rfl, rfl⟩ := lM e3
 cases V₃.vC
 refine wpAny_bind (wpAny_release' (wpAny_bind (wpAny_holding (wpAny_truthy_bool ?_))))
 have S := (S₁.then S₂).then iG
 cases t with
 | false => cases e; exact wpAny_pure (c f6 s₃ gG S)
 | true =>
  rw [if_pos rfl] at e ⊢
  obtain ⟨y, MN, e5, e⟩ := X.bind_some e
  obtain ⟨z, KE, e6, e5⟩ := X.bind_some e5
  have iV := (R.step H S₁).step H₁ S₂
  refine wpAny_bind (wpAny_holding (hh A env f6 ρ j9 s₃ z KE _ E rm gG (iV.step cP iG) e6 λ uz pT s₄ oE mN V₄ => ?_))
  refine wpAny_bind (wpAny_standAt (wpAny_bind (wpAny_operate' ?_)))
  refine ho' A pT KE s₄ b z y ub uz MN _ E rm oE (mN.vr gG (iG.vr cP eZ)) V₄ e5 λ u' o9 s₅ yK jZ FM => ?_
  obtain ⟨rfl, rfl⟩ := lM e
  cases FM.vC
  exact wpAny_holding (wpAny_truthy_bool (c o9 s₅ yK ((S.then mN).then jZ)))
theorem bK.not {x : PySem.Expr} {pos : Pos} {f : X Bool} (hf : bK Γ d cx x f) : bK Γ d cx (.UnaryOp .Not x pos) (X.bind f λ b => X.pure (!b)) := λ A env μ ρ σ s v σ' Q E r H R e c => by
 obtain ⟨a, σ₁, e1, e⟩ := X.bind_some e
 cases e
 exact PyProof.Rows.isTrue_not (hf A env μ ρ σ s a _ _ E r H R e1 λ aJ s₁ H₁ S₁ => c aJ s₁ H₁ S₁)
theorem aC.not {x : PySem.Expr} {pos : Pos} {f : X V} (hf : aC Γ d cx x f) : aC Γ d cx (.UnaryOp .Not x pos) (X.bind (X.bind f X.truth) λ b => X.pure (.bool (!b))) := λ A env μ ρ σ s v σ' Q E r H R e c => by
 obtain ⟨a, σ₁, e1, e⟩ := X.bind_some e
 obtain ⟨x, σ₂, e2, e1⟩ := X.bind_some e1
 cases e
 obtain ⟨rfl, rfl⟩ := lM e1
 refine wpAny_UnaryOp (hf A env μ ρ σ s _ _ _ E r H R e2 λ u aJ s₁ H₁ S₁ cQ => ?_)
 cases cQ.vC
 exact not_of (wpAny_truthy_bool (c _ aJ s₁ H₁ S₁ (.bool _)))
noncomputable def bM (Γ : gT) (d : Nat) (cx : Cx) (op : BoolOp) (es : List PySem.Expr) (f : X Bool) : Prop :=
 ∀ (A : Around) (env : Env) (μ : Nat → Addr) (ρ : Loc) (σ : St) (s : Shared) (v : Bool) (σ' : St) (Q : Bool → Shared → Prop) (E : Value → Shared → Prop),
  fX A d → aY Γ μ σ s.heap → dN Γ cx env μ σ.length ρ s.heap → f ρ σ = some (v, σ') →
  (∀ dY s', aY Γ dY σ' s'.heap → Step (Own μ σ.length) μ σ.length s dY σ'.length s' → Q v s') → wpAny Γ.M A (allTrue op es env) Q E s
theorem bM.nil {op : BoolOp} : bM Γ d cx op [] (X.pure (op == .And)) := λ A env μ ρ σ s v σ' Q E r H R e c => by
 cases e; exact wpAny_pure (c μ s H .refl)
theorem bM.cons {op : BoolOp} {e : PySem.Expr} {es : List PySem.Expr} {f g : X Bool} (hf : bK Γ d cx e f) (hg : bM Γ d cx op es g) :
  bM Γ d cx op (e :: es) (X.bind f λ b => if b == (op == .And) then g else X.pure b) := λ A env μ ρ σ s v σ' Q E r H R e' c => by
 obtain ⟨a, σ₁, e1, e'⟩ := X.bind_some e'
 rw [arm_allTrue_cons]
 refine wpAny_bind (hf A env μ ρ σ s a _ _ E r H R e1 λ aJ s₁ H₁ S₁ => ?_)
 have go : ∀ {g : X Bool} (_ : bM Γ d cx op es g), g ρ σ₁ = some (v, σ') → wpAny Γ.M A (allTrue op es env) Q E s₁ := λ {g} hg e => hg A env aJ ρ σ₁ s₁ v σ' _ E r H₁ (R.step H S₁) e λ bA s₂ cP S₂ => c bA s₂ cP (S₁.then S₂)
 cases op <;> cases a
 ·cases e'; exact wpAny_pure (c aJ s₁ H₁ S₁)
 ·exact go hg e'
 ·exact go hg e'
 ·cases e'; exact wpAny_pure (c aJ s₁ H₁ S₁)
theorem bK.boolop {op : BoolOp} {es : List PySem.Expr} {pos : Pos} {f : X Bool} (hf : bM Γ d cx op es f) : bK Γ d cx (.BoolOp op es pos) f := λ A env μ ρ σ s v σ' Q E r H R e c =>
 hf A env μ ρ σ s v σ' Q E r H R e c
theorem aC.boolop {op : BoolOp} {x y : PySem.Expr} {pos : Pos} {f g : X V} (hf : aC Γ d cx x f) (hg : aC Γ d cx y g) :
  aC Γ d cx (.BoolOp op [x, y] pos) (X.bind (X.bind f X.truth) λ b => if b == (op == .And) then g else X.pure (.bool b)) := λ A env μ ρ σ s v σ' Q E r H R e c => by
 obtain ⟨a, σ₁, e1, e⟩ := X.bind_some e
 obtain ⟨z, σ₂, e2, e1⟩ := X.bind_some e1
 obtain ⟨rfl, rfl⟩ := lM e1
 rw [arm_eval_BoolOp]
 show wpAny _ _ (boolOp pos op [eval x env, eval y env]) _ _ _
 refine wpAny_bind (hf A env μ ρ σ s _ _ _ E r H R e2 λ u aJ s₁ H₁ S₁ cQ => ?_)
 cases cQ.vC
 refine wpAny_bind (wpAny_standAt (wpAny_bind (wpAny_holding (wpAny_truthy_bool ?_))))
 have go : g ρ σ₁ = some (v, σ') → wpAny Γ.M A (eval y env) Q E s₁ := λ e => hg A env aJ ρ σ₁ s₁ v σ' _ E r H₁ (R.step H S₁) e λ u bA s₂ cP S₂ eZ => c u bA s₂ cP (S₁.then S₂) eZ
 cases op <;> cases a
 ·cases e; exact wpAny_pure (c _ aJ s₁ H₁ S₁ (.bool _))
 ·exact go e
 ·exact go e
 ·cases e; exact wpAny_pure (c _ aJ s₁ H₁ S₁ (.bool _))
theorem aC.ite {t a b : PySem.Expr} {pos : Pos} {f : X Bool} {g h : X V} (hf : bK Γ d cx t f) (hg : aC Γ d cx a g) (hh : aC Γ d cx b h) :
  aC Γ d cx (.IfExp t a b pos) (X.bind f λ c => if c then g else h) := λ A env μ ρ σ s v σ' Q E r H R e c => by
 obtain ⟨x, σ₁, e1, e⟩ := X.bind_some e
 refine wpAny_IfExp (hf A env μ ρ σ s x _ _ E r H R e1 λ aJ s₁ H₁ S₁ => ?_)
 cases x with
 | true => exact hg A env aJ ρ σ₁ s₁ v σ' _ E r H₁ (R.step H S₁) e λ u bA s₂ cP S₂ eZ => c u bA s₂ cP (S₁.then S₂) eZ
 | false => exact hh A env aJ ρ σ₁ s₁ v σ' _ E r H₁ (R.step H S₁) e λ u bA s₂ cP S₂ eZ => c u bA s₂ cP (S₁.then S₂) eZ
end
structure m8 (Γ : gT) : Prop where
 strOk : ∀ k, PyData.strOk (Γ.nm k) = true
 sys : ∃ o, Γ.h₀.get? sysModules = some o
mutual
noncomputable def AW : V → V → Bool
 | .none, .none => true
 | .int a, .int b => a == b
 | .str a, .str b => a == b
 | .tup a, .tup b => yC a b
 | _, _ => false
noncomputable def yC : List V → List V → Bool
 | [], [] => true
 | x :: xs, y :: ys => AW x y && yC xs ys
 | _, _ => false
end
noncomputable def okV : Nat → V → Bool
 | _, .none => true
 | _, .int _ => true
 | _, .str _ => true
 | n + 1, .tup l => l.all (okV n)
 | _, _ => false
mutual
noncomputable def p8 (nm : Nat → Str) : V → PyData
 | .int i => .int i
 | .str k => .str (nm k)
 | .bool b => .bool b
 | .tup l => .tuple (mU nm l)
 | _ => .none
noncomputable def mU (nm : Nat → Str) : List V → List PyData
 | [] => []
 | x :: xs => p8 nm x :: mU nm xs
end
section
variable {Γ : gT} {μ : Nat → Addr} {n : Nat} {h : Heap}
theorem mV {k : Nat} {v : V} (o : okV k v = true) : v = .none ∨ (∃ i, v = .int i) ∨ (∃ i, v = .str i) ∨ ∃ j l, k = j + 1 ∧ v = .tup l ∧ l.all (okV j) = true := by
 cases v with
 | none => exact .inl rfl
 | int i => exact .inr (.inl ⟨i, rfl⟩)
 | str i => exact .inr (.inr (.inl ⟨i, rfl⟩))
 | tup l => cases k with
  | zero => cases o
  | succ j => exact .inr (.inr (.inr ⟨j, l, rfl, rfl, o⟩))
 | _ => cases k <;> cases o
theorem zU {k : Nat} (ih : ∀ (v : V) (u : Value), okV k v = true → VR Γ μ n h v u → ∃ as, Reads h u (p8 Γ.nm v) as) (l : List V) : ∀ us : List Value, l.all (okV k) = true → VRs Γ μ n h l us → ∃ as, ReadsAll h us (mU Γ.nm l) as := by
 induction l with
 | nil => intro us _ y; cases y.Fi; exact ⟨_, .nil⟩
 | cons v l ihl =>
  intro us o y
  obtain ⟨o1, o2⟩ := Bool.and_eq_true_iff.mp o
  obtain ⟨u, us', rfl, a, b⟩ := y.xF
  obtain ⟨as, r⟩ := ih v _ o1 a
  obtain ⟨bs, rs⟩ := ihl _ o2 b
  exact ⟨_, .cons r rs⟩
theorem zV (k : Nat) : ∀ (v : V) (u : Value), okV k v = true → VR Γ μ n h v u → ∃ as, Reads h u (p8 Γ.nm v) as := by
 induction k with
 | zero =>
  intro v u o x
  rcases mV o with rfl | ⟨i, rfl⟩ | ⟨i, rfl⟩ | ⟨j, l, e, _⟩
  ·cases x.FW; exact ⟨_, .none⟩
  ·obtain ⟨_, rfl⟩ := x.gA; exact ⟨_, .int _ _⟩
  ·obtain ⟨_, rfl⟩ := x.HD; exact ⟨_, .str _ _⟩
  ·cases e
 | succ k ih =>
  intro v u o x
  rcases mV o with rfl | ⟨i, rfl⟩ | ⟨i, rfl⟩ | ⟨j, l, e, rfl, o⟩
  ·cases x.FW; exact ⟨_, .none⟩
  ·obtain ⟨_, rfl⟩ := x.gA; exact ⟨_, .int _ _⟩
  ·obtain ⟨_, rfl⟩ := x.HD; exact ⟨_, .str _ _⟩
  ·cases e
   obtain ⟨_, _, _, rfl, ht, hs⟩ := x.tupI
   obtain ⟨as, r⟩ := zU ih l _ o hs
   exact ⟨_, .tuple ht rfl rfl r⟩
theorem BL (k : Nat) (l : List V) (us : List Value) : l.all (okV k) = true → VRs Γ μ n h l us → ∃ as, ReadsAll h us (mU Γ.nm l) as := zU (zV k) l us
theorem DU {k : Nat} (ih : ∀ v : V, okV k v = true → (p8 Γ.nm v).canLay0 = true ∧ (p8 Γ.nm v).depth ≤ k) (l : List V) : l.all (okV k) = true → PyData.canLayAll0 (mU Γ.nm l) = true ∧ PyData.depthAll (mU Γ.nm l) ≤ k := by
 induction l with
 | nil => intro _; exact ⟨rfl, Nat.zero_le _⟩
 | cons v l ihl =>
  intro o
  obtain ⟨o1, o2⟩ := Bool.and_eq_true_iff.mp o
  obtain ⟨a1, a2⟩ := ih v o1
  obtain ⟨b1, b2⟩ := ihl o2
  exact ⟨Bool.and_eq_true_iff.mpr ⟨a1, b1⟩, Nat.max_le.mpr ⟨a2, b2⟩⟩
theorem lay_of (G : m8 Γ) (k : Nat) : ∀ v : V, okV k v = true → (p8 Γ.nm v).canLay0 = true ∧ (p8 Γ.nm v).depth ≤ k := by
 induction k with
 | zero =>
  intro v o
  rcases mV o with rfl | ⟨i, rfl⟩ | ⟨i, rfl⟩ | ⟨j, l, e, _⟩
  ·exact ⟨rfl, Nat.zero_le _⟩
  ·exact ⟨rfl, Nat.zero_le _⟩
  ·exact ⟨G.strOk _, Nat.zero_le _⟩
  ·cases e
 | succ k ih =>
  intro v o
  rcases mV o with rfl | ⟨i, rfl⟩ | ⟨i, rfl⟩ | ⟨j, l, e, rfl, o⟩
  ·exact ⟨rfl, Nat.zero_le _⟩
  ·exact ⟨rfl, Nat.zero_le _⟩
  ·exact ⟨G.strOk _, Nat.zero_le _⟩
  ·cases e
   obtain ⟨a, b⟩ := DU ih l o
   exact ⟨a, Nat.succ_le_succ b⟩
theorem Ge (G : m8 Γ) (k : Nat) (l : List V) : l.all (okV k) = true → PyData.canLayAll0 (mU Γ.nm l) = true ∧ PyData.depthAll (mU Γ.nm l) ≤ k := DU (lay_of G k) l
theorem IZ {k : Nat} (ih : ∀ a b : V, okV k a = true → okV k b = true → PyData.eqv (p8 Γ.nm a) (p8 Γ.nm b) = AW a b) (l : List V) : ∀ m : List V, l.all (okV k) = true → m.all (okV k) = true → PyData.eqvAll (mU Γ.nm l) (mU Γ.nm m) = yC l m := by
 induction l with
 | nil => intro m _ _; cases m <;> rfl
 | cons x l ihl =>
  intro m o1 o2
  cases m with
  | nil => rfl
  | cons y m =>
   obtain ⟨p1, p2⟩ := Bool.and_eq_true_iff.mp o1
   obtain ⟨q1, q2⟩ := Bool.and_eq_true_iff.mp o2
   show (PyData.eqv _ _ && PyData.eqvAll _ _) = (AW x y && yC l m)
   rw [ih x y p1 q1, ihl m p2 q2]
theorem I0 (k : Nat) : ∀ (a b : V), okV k a = true → okV k b = true → PyData.eqv (p8 Γ.nm a) (p8 Γ.nm b) = AW a b := by
 have str : ∀ x y : Nat, (Γ.nm x == Γ.nm y) = (x == y) := λ x y => by
  by_cases e : x = y
  ·rw [e, beq_self_eq_true, beq_self_eq_true]
  ·rw [beq_eq_false_iff_ne.mpr λ q => e (Γ.DP _ _ q), beq_eq_false_iff_ne.mpr e]
 induction k with
 | zero =>
  intro a b oa ob
  rcases mV oa with rfl | ⟨i, rfl⟩ | ⟨i, rfl⟩ | ⟨_, _, e, _⟩
  all_goals first | (cases e; done) | rcases mV ob with rfl | ⟨j, rfl⟩ | ⟨j, rfl⟩ | ⟨_, _, e, _⟩
  all_goals first | rfl | exact str _ _ | cases e
 | succ k ih =>
  intro a b oa ob
  rcases mV oa with rfl | ⟨i, rfl⟩ | ⟨i, rfl⟩ | ⟨j, l, e, rfl, oa⟩
  all_goals rcases mV ob with rfl | ⟨j, rfl⟩ | ⟨j, rfl⟩ | ⟨j, m, e', rfl, ob⟩
  all_goals first | rfl | exact str _ _ | (cases e; cases e'; exact IZ ih _ _ oa ob)
end
section
variable {Γ : gT} {d : Nat}
noncomputable def getL (σ : St) (i : Nat) : Option (List V) := (σ[i]?).bind λ o => match o with
 | .list l => some l
 | _ => none
noncomputable def eJ (σ : St) (i : Nat) : Option (List (Int × V)) := (σ[i]?).bind λ o => match o with
 | .bX l => some l
 | _ => none
noncomputable def bV (σ : St) (i : Nat) : Option (List (Nat × V)) := (σ[i]?).bind λ o => match o with
 | .aW l => some l
 | _ => none
theorem j5 {σ : St} {i : Nat} {l : List V} (e : getL σ i = some l) : σ[i]? = some (.list l) := by
 obtain ⟨o, h, e⟩ := Option.bind_eq_some_iff.mp e
 cases o with
 | list _ => cases e; exact h
 | _ => exact nS e
theorem lH {σ : St} {i : Nat} {l : List (Int × V)} (e : eJ σ i = some l) : σ[i]? = some (.bX l) := by
 obtain ⟨o, h, e⟩ := Option.bind_eq_some_iff.mp e
 cases o with
 | bX _ => cases e; exact h
 | _ => exact nS e
theorem yQ {σ : St} {i : Nat} {l : List (Nat × V)} (e : bV σ i = some l) : σ[i]? = some (.aW l) := by
 obtain ⟨o, h, e⟩ := Option.bind_eq_some_iff.mp e
 cases o with
 | aW _ => cases e; exact h
 | _ => exact nS e
theorem yR {σ : St} {i : Nat} {l : List V} (e : σ[i]? = some (.list l)) : getL σ i = some l := by unfold getL; rw [e]; rfl
theorem yT {σ : St} {i : Nat} {l : List (Int × V)} (e : σ[i]? = some (.bX l)) : eJ σ i = some l := by unfold eJ; rw [e]; rfl
theorem aY.list {μ : Nat → Addr} {σ : St} {h : Heap} (H : aY Γ μ σ h) {i : Nat} {l : List V} (e : getL σ i = some l) : i < σ.length ∧ ∃ items k, IsL h (μ i) items k ∧ VRs Γ μ σ.length h l items.toList :=
 have e := j5 e
 ⟨(List.getElem?_eq_some_iff.mp e).1, H.objs i _ e⟩
theorem aY.bX {μ : Nat → Addr} {σ : St} {h : Heap} (H : aY Γ μ σ h) {i : Nat} {l : List (Int × V)} (e : eJ σ i = some l) : i < σ.length ∧ ∃ kvs, h.DictOf (intKind Γ.prog Γ.w) (μ i) kvs ∧ Hr Γ μ σ.length h l kvs :=
 have e := lH e
 ⟨(List.getElem?_eq_some_iff.mp e).1, H.objs i _ e⟩
theorem aY.aW {μ : Nat → Addr} {σ : St} {h : Heap} (H : aY Γ μ σ h) {i : Nat} {l : List (Nat × V)} (e : bV σ i = some l) : i < σ.length ∧ ∃ kvs, h.DictOf (PySem.strKind Γ.prog Γ.w) (μ i) kvs ∧ SDR Γ μ σ.length h l kvs :=
 have e := yQ e
 ⟨(List.getElem?_eq_some_iff.mp e).1, H.objs i _ e⟩
theorem aY.CN {μ : Nat → Addr} {σ : St} {h : Heap} (G : m8 Γ) (H : aY Γ μ σ h) {i : Nat} (hi : i < σ.length) : (μ i == sysModules) = false := by
 rw [beq_eq_false_iff_ne]
 intro e
 obtain ⟨o, ho⟩ := G.sys
 have := H.lo i hi
 rw [e, ho] at this; cases this
theorem lI {μ : Nat → Addr} {σ : St} {s : Shared} {l : List V} {items : Array Value} {Q : Value → Shared → Prop} (H : aY Γ μ σ s.heap) (hl : VRs Γ μ σ.length s.heap l items.toList)
  (c : Cont Γ μ σ s (.obj σ.length) (σ ++ [.list l]) Q) (t : Nat) : Q (.ref s.heap.objs.size) { s with heap := s.heap.push { cls := .type "list", data := .seq items }, toks := t } := by
 have len : (σ ++ [O.list l]).length = σ.length + 1 := by simp
 have e0 : Value.ref s.heap.objs.size = .ref (fD μ σ.length s.heap.objs.size σ.length) := by rw [c9]
 have T : Step (Own μ σ.length) μ σ.length s (fD μ σ.length s.heap.objs.size) (σ.length + 1) { s with heap := s.heap.push { cls := .type "list", data := .seq items } } := .alloc _ rfl
 have T' : Step (Own μ σ.length) μ σ.length s (fD μ σ.length s.heap.objs.size) (σ.length + 1) { s with heap := s.heap.push { cls := .type "list", data := .seq items }, toks := t } := T.trans (zZ := λ _ => False) (.toks _) (λ _ x => x.elim)
 rw [e0]
 refine c _ _ _ (H.alloc _ _ ⟨items, 0, IsL.new _ _, ?_⟩) (by rw [len]; exact T') (.obj (by rw [len]; lia))
 exact hl.mono (.push _ _) (λ i hi => cA hi) (Nat.le_succ _)
theorem xE {μ : Nat → Addr} {σ : St} {s : Shared} {l : List V} {items : Array Value} {Q : Value → Shared → Prop} (H : aY Γ μ σ s.heap) (hl : VRs Γ μ σ.length s.heap l items.toList)
  (c : Cont Γ μ σ s (.tup l) σ Q) (t : Nat) : Q (.ref s.heap.objs.size) { s with heap := s.heap.push { cls := .type "tuple", data := .seq items }, toks := t } := by
 have T : Step (Own μ σ.length) μ σ.length s μ σ.length { s with heap := s.heap.push { cls := .type "tuple", data := .seq items } } := .push _
 have T' : Step (Own μ σ.length) μ σ.length s μ σ.length { s with heap := s.heap.push { cls := .type "tuple", data := .seq items }, toks := t } := T.trans (zZ := λ _ => False) (.toks _) (λ _ x => x.elim)
 exact c _ μ _ (H.push _) T' (.tup (IsT.new _ _) (hl.mono (.push _ _) (λ _ _ => rfl) (Nat.le_refl _)))
noncomputable def eR (a b : V) (σ : St) : Option (V × St) := match a, b with
 | .int a, .int b => some (.int (a + b), σ)
 | .tup a, .tup b => if a.length + b.length ≤ 1000 then some (.tup (a ++ b), σ) else none
 | .obj i, .obj j => (getL σ i).bind λ a => (getL σ j).bind λ b => if a.length + b.length ≤ 1000 then some (.obj σ.length, σ ++ [.list (a ++ b)]) else none
 | _, _ => none
noncomputable def rY (a b : V) (σ : St) : Option (V × St) := match a, b with
 | .int a, .int b => some (.int (a - b), σ)
 | _, _ => none
noncomputable def pW (a : Int) : Bool := decide (-(2 ^ 64) < a) && decide (a < 2 ^ 64)
noncomputable def xY (a b : V) (σ : St) : Option (V × St) := match a, b with
 | .int a, .int b => if pW a && pW b then some (.int (a * b), σ) else none
 | .obj i, .int n => (getL σ i).bind λ l => match l with
  | [x] => if 0 ≤ n ∧ n ≤ 1000 then some (.obj σ.length, σ ++ [.list (List.replicate n.toNat x)]) else none
  | _ => none
 | _, _ => none
noncomputable def cI (a b : V) (σ : St) : Option (V × St) := match a, b with
 | .int a, .int b => if b = 0 ∨ ¬ b.natAbs < 1073741824 then none else some (.int (a.fdiv b), σ)
 | _, _ => none
noncomputable def oMod (a b : V) (σ : St) : Option (V × St) := match a, b with
 | .int a, .int b => if b = 0 then none else some (.int (a.fmod b), σ)
 | _, _ => none
noncomputable def i3 (a b : V) (σ : St) : Option (V × St) := match a, b with
 | .int a, .int n => if pW a && decide (0 ≤ n) && decide (n ≤ 1000) then some (.int (a ^ n.toNat), σ) else none
 | _, _ => none
noncomputable def J7 (a b : V) (σ : St) : Option (V × St) := match a, b with
 | .int a, .int b => some (.int (Builtin.bitAnd a b), σ)
 | _, _ => none
noncomputable def OD (a b : V) (σ : St) : Option (V × St) := match a, b with
 | .int a, .int b => some (.int (Builtin.bitOr a b), σ)
 | _, _ => none
theorem b9.add : b9 Γ d (binaryOp .Add) eR := λ A μ σ s a b v ua ub σ' Q E r H xa xb e c => by
 cases a with
 | int x => cases b with
   | int y => cases e; obtain ⟨_, rfl⟩ := xa.gA; obtain ⟨_, rfl⟩ := xb.gA; exact PyProof.Rows.add_int (c _ μ _ H (.toks _) (.int _ _))
   | _ => exact nS e
 | tup la => cases b with
  | tup lb =>
   obtain ⟨hl, e⟩ := cK e
   cases e
   obtain ⟨ta, ia, ka, rfl, ha, hsa⟩ := xa.tupI
   obtain ⟨tb, ib, kb, rfl, hb, hsb⟩ := xb.tupI
   have l1 := hsa.length; have l2 := hsb.length
   simp only [Array.length_toList] at l1 l2
   have sz : ia.size + ib.size ≤ sizeLine := by rw [sizeLine_eq]; lia
   have dd := hsa.append hsb
   by_cases h1 : ia.isEmpty = true
   ·have : la = [] := by have := Array.isEmpty_iff.mp h1; subst this; exact List.eq_nil_of_length_eq_zero (by simpa using l1)
    subst this
    exact concat_meets ⟨_, ha, rfl⟩ ⟨_, hb, rfl⟩ noFill_tuple_add seq_tuple_add PySem.F.slot_tuple_add PySem.F.entry_tuple_add (PySem.F.args_tuple_add_2 _ _) (tuple_addW0 _ _ ia ib _ _ none none #[] #[] h1)
     ⟨ha, hb, by simpa using c _ μ _ H .refl (.tup hb hsb)⟩
   ·by_cases h2 : ib.isEmpty = true
    ·have : lb = [] := by have := Array.isEmpty_iff.mp h2; subst this; exact List.eq_nil_of_length_eq_zero (by simpa using l2)
     subst this
     exact concat_meets ⟨_, ha, rfl⟩ ⟨_, hb, rfl⟩ noFill_tuple_add seq_tuple_add PySem.F.slot_tuple_add PySem.F.entry_tuple_add (PySem.F.args_tuple_add_2 _ _) (tuple_addW1 _ _ ia ib _ _ none none #[] #[] h1 h2)
      ⟨ha, hb, by simpa using c _ μ _ H .refl (.tup ha (by simpa using hsa))⟩
    ·refine P.add_tuple ha hb h1 h2 ?_ sz
     exact xE H (by simpa using dd) c s.toks
  | _ => exact nS e
 | obj i => cases b with
  | obj j =>
   obtain ⟨la, e1, e⟩ := Option.bind_eq_some_iff.mp e
   obtain ⟨lb, e2, e⟩ := Option.bind_eq_some_iff.mp e
   obtain ⟨hl, e⟩ := cK e
   cases e
   cases xa.kE.1; cases xb.kE.1
   obtain ⟨_, ia, ka, ha, hsa⟩ := H.list e1
   obtain ⟨_, ib, kb, hb, hsb⟩ := H.list e2
   have l1 := hsa.length; have l2 := hsb.length
   simp only [Array.length_toList] at l1 l2
   refine P.add_list ha hb ?_ (by rw [sizeLine_eq]; lia)
   exact lI H (by simpa using hsa.append hsb) c s.toks
  | _ => exact nS e
 | _ => exact nS e
theorem La {α : Type} {f : Int → Option α} {a : V} {r : α} (e : (match a with | .int a => f a | _ => none) = some r) : ∃ x, a = .int x ∧ f x = some r := by
 cases a with
 | int x => exact ⟨x, rfl, e⟩
 | _ => exact nS e
theorem nH {α : Type} {f : Int → Int → Option α} {a b : V} {r : α} (e : (match a, b with | .int a, .int b => f a b | _, _ => none) = some r) : E2 λ x y => A3 (a = .int x) (b = .int y) (f x y = some r) := by
 cases a with
 | int x => cases b with
  | int y => exact ⟨x, y, rfl, rfl, e⟩
  | _ => exact nS e
 | _ => exact nS e
theorem b9.sub : b9 Γ d (binaryOp .Sub) rY := λ A μ σ s a b v ua ub σ' Q E r H xa xb e c => by
 obtain ⟨x, y, rfl, rfl, e⟩ := nH e
 cases e
 obtain ⟨_, rfl⟩ := xa.gA; obtain ⟨_, rfl⟩ := xb.gA; exact PySem.P.sub_int (c _ μ _ H (.toks _) (.int _ _))
theorem wS {a : Int} (h : pW a = true) : Builtin.Int.intBits a ≤ 64 := by
 simp only [pW, Bool.and_eq_true, decide_eq_true_eq] at h
 exact intBits_le_64 h.1 h.2
theorem b9.floordiv : b9 Γ d (binaryOp .FloorDiv) cI := λ A μ σ s a b v ua ub σ' Q E r H xa xb e c => by
 obtain ⟨x, y, rfl, rfl, e2⟩ := nH e
 obtain ⟨hb, e2⟩ := if_not e2
 cases e2
 rw [not_or, Classical.not_not] at hb
 obtain ⟨_, rfl⟩ := xa.gA; obtain ⟨_, rfl⟩ := xb.gA; exact PyProof.Rows.floordiv_int hb.1 (c _ μ _ H (.toks _) (.int _ _)) (.inl (PyProof.noPylong_small hb.2))
theorem b9.mod : b9 Γ d (binaryOp .Mod) oMod := λ A μ σ s a b v ua ub σ' Q E r H xa xb e c => by
 obtain ⟨x, y, rfl, rfl, e2⟩ := nH e
 obtain ⟨hb, e2⟩ := if_not e2
 cases e2
 obtain ⟨_, rfl⟩ := xa.gA; obtain ⟨_, rfl⟩ := xb.gA; exact PyProof.Rows.mod_int' (by assumption) (c _ μ _ H (.toks _) (.int _ _))
theorem b9.pow : b9 Γ d (binaryOp .Pow) i3 := λ A μ σ s a b v ua ub σ' Q E r H xa xb e c => by
 obtain ⟨a, n, rfl, rfl, e2⟩ := nH e
 obtain ⟨h, e2⟩ := cK e2
 cases e2
 simp only [Bool.and_eq_true, decide_eq_true_eq] at h
 obtain ⟨_, rfl⟩ := xa.gA; obtain ⟨_, rfl⟩ := xb.gA
 refine PyProof.Rows.pow_int h.1.2 ?_ (c _ μ _ H (.toks _) (.int _ _))
 have b1 : (Builtin.Int.intBits a : Int) ≤ 64 := by exact_mod_cast wS h.1.1
 have b2 : (Builtin.Int.intBits a : Int) * n ≤ 64 * 1000 := Int.mul_le_mul b1 h.2 h.1.2 (by lia)
 lia
theorem b9.and : b9 Γ d (binaryOp .BitAnd) J7 := λ A μ σ s a b v ua ub σ' Q E r H xa xb e c => by
 obtain ⟨x, y, rfl, rfl, e⟩ := nH e
 cases e
 obtain ⟨_, rfl⟩ := xa.gA; obtain ⟨_, rfl⟩ := xb.gA; exact PyProof.Rows.and_int (c _ μ _ H (.toks _) (.int _ _))
theorem b9.or : b9 Γ d (binaryOp .BitOr) OD := λ A μ σ s a b v ua ub σ' Q E r H xa xb e c => by
 obtain ⟨x, y, rfl, rfl, e⟩ := nH e
 cases e
 obtain ⟨_, rfl⟩ := xa.gA; obtain ⟨_, rfl⟩ := xb.gA; exact PyProof.Rows.or_int (c _ μ _ H (.toks _) (.int _ _))
end
section
variable {K : Type} [DecidableEq K]
noncomputable def fT (l : List (K × V)) (k : K) : Option V := (l.find? λ p => decide (p.1 = k)).map (·.2)
noncomputable def fF (l : List (K × V)) (k : K) (v : V) : List (K × V) := if l.any (λ p => decide (p.1 = k)) then l.map (λ p => if p.1 = k then (p.1, v) else p) else l ++ [(k, v)]
variable {K' : Type} [DecidableEq K'] {Γ : gT} {μ : Nat → Addr} {n : Nat} {h : Heap} {f : K → K'}
theorem Jb (hf : ∀ a b, f a = f b → a = b) : ∀ {l : List (K × V)} {kvs : List (K' × Value)}, kvs.map (·.1) = l.map (λ p => f p.1) → VRs Γ μ n h (l.map (·.2)) (kvs.map (·.2)) → ∀ k,
  (∀ v, fT l k = some v → ∃ u, valueAt kvs (f k) = some u ∧ VR Γ μ n h v u) ∧ (fT l k = none → valueAt kvs (f k) = none) := by
 intro l
 induction l with
 | nil => intro kvs e _ k; cases List.map_eq_nil_iff.mp e; exact ⟨λ v e => nS e, λ _ => rfl⟩
 | cons p l ih =>
  intro kvs e x k
  cases kvs with
  | nil => cases e
  | cons q kvs =>
   obtain ⟨(e1 : q.1 = f p.1), e2⟩ := List.cons.inj e
   obtain ⟨a, b⟩ := VRs.both x
   have ih := ih e2 b k
   unfold fT valueAt at ih ⊢
   simp only [List.find?_cons]
   by_cases hk : p.1 = k
   ·subst hk
    simp only [decide_true, e1]
    exact ⟨λ v e' => ⟨_, rfl, by cases e'; exact a⟩, λ e' => by cases e'⟩
   ·have : ¬ q.1 = f k := λ z => hk (hf _ _ (e1 ▸ z))
    simp only [decide_eq_false hk, decide_eq_false this]
    exact ih
theorem Mu (hf : ∀ a b, f a = f b → a = b) : ∀ {l : List (K × V)} {kvs : List (K' × Value)}, kvs.map (·.1) = l.map (λ p => f p.1) → ∀ k, (kvs.any λ kv => decide (kv.1 = f k)) = l.any (λ p => decide (p.1 = k)) := by
 intro l
 induction l with
 | nil => intro kvs e k; cases List.map_eq_nil_iff.mp e; rfl
 | cons p l ih =>
  intro kvs e k
  cases kvs with
  | nil => cases e
  | cons q kvs =>
   obtain ⟨(e1 : q.1 = f p.1), e2⟩ := List.cons.inj e
   rw [List.any_cons, List.any_cons, ih e2 k, e1]
   by_cases hk : p.1 = k
   ·simp [hk]
   ·have : ¬ f p.1 = f k := λ z => hk (hf _ _ z)
    simp [hk, this]
theorem Mt (hf : ∀ a b, f a = f b → a = b) {v : V} {u : Value} (y : VR Γ μ n h v u) (k : K) : ∀ {l : List (K × V)} {kvs : List (K' × Value)}, kvs.map (·.1) = l.map (λ p => f p.1) → VRs Γ μ n h (l.map (·.2)) (kvs.map (·.2)) →
  (kvs.map λ kv => if kv.1 = f k then (kv.1, u) else kv).map (·.1) = (l.map λ p => if p.1 = k then (p.1, v) else p).map (λ p => f p.1) ∧
   VRs Γ μ n h ((l.map λ p => if p.1 = k then (p.1, v) else p).map (·.2)) ((kvs.map λ kv => if kv.1 = f k then (kv.1, u) else kv).map (·.2)) := by
 intro l
 induction l with
 | nil => intro kvs e x; cases List.map_eq_nil_iff.mp e; exact ⟨rfl, .nil⟩
 | cons p l ih =>
  intro kvs e x
  cases kvs with
  | nil => cases e
  | cons q kvs =>
   obtain ⟨(e1 : q.1 = f p.1), e2⟩ := List.cons.inj e
   obtain ⟨a, b⟩ := VRs.both x
   obtain ⟨i1, i2⟩ := ih e2 b
   simp only [List.map_cons]
   by_cases hk : p.1 = k
   ·have h2 : q.1 = f k := by rw [e1, hk]
    rw [if_pos hk, if_pos h2]
    exact ⟨List.cons_eq_cons.mpr ⟨e1, i1⟩, .cons y i2⟩
   ·have h2 : ¬ q.1 = f k := λ z => hk (hf _ _ (e1 ▸ z))
    rw [if_neg hk, if_neg h2]
    exact ⟨List.cons_eq_cons.mpr ⟨e1, i1⟩, .cons a i2⟩
theorem Ja (hf : ∀ a b, f a = f b → a = b) {l : List (K × V)} {kvs : List (K' × Value)} (e : kvs.map (·.1) = l.map (λ p => f p.1)) (x : VRs Γ μ n h (l.map (·.2)) (kvs.map (·.2))) {v : V} {u : Value} (y : VR Γ μ n h v u) (k : K) :
  (stored kvs (f k) u).map (·.1) = (fF l k v).map (λ p => f p.1) ∧ VRs Γ μ n h ((fF l k v).map (·.2)) ((stored kvs (f k) u).map (·.2)) := by
 unfold stored fF
 rw [Mu hf e k]
 split
 ·exact Mt hf y k e x
 ·simp only [List.map_append, List.map_cons, List.map_nil, e]
  exact ⟨trivial, x.append (.cons y .nil)⟩
end
section
variable {Γ : gT} {d : Nat} {μ : Nat → Addr} {n : Nat} {h : Heap}
theorem Hr.get {l : List (Int × V)} {kvs : List (Int × Value)} (x : Hr Γ μ n h l kvs) (k : Int) : (∀ v, fT l k = some v → ∃ u, valueAt kvs k = some u ∧ VR Γ μ n h v u) ∧ (fT l k = none → valueAt kvs k = none) :=
 Jb (f := λ k => k) (λ _ _ e => e) x.1 x.2 k
theorem Hr.set {l : List (Int × V)} {kvs : List (Int × Value)} (x : Hr Γ μ n h l kvs) (k : Int) {v : V} {u : Value} (y : VR Γ μ n h v u) : Hr Γ μ n h (fF l k v) (stored kvs k u) :=
 Ja (f := λ k => k) (λ _ _ e => e) x.1 x.2 y k
theorem SDR.get {l : List (Nat × V)} {kvs : List (Str × Value)} (x : SDR Γ μ n h l kvs) (k : Nat) : (∀ v, fT l k = some v → ∃ u, valueAt kvs (Γ.nm k) = some u ∧ VR Γ μ n h v u) ∧ (fT l k = none → valueAt kvs (Γ.nm k) = none) :=
 Jb (f := Γ.nm) Γ.DP x.1 x.2 k
theorem SDR.set {l : List (Nat × V)} {kvs : List (Str × Value)} (x : SDR Γ μ n h l kvs) (k : Nat) {v : V} {u : Value} (y : VR Γ μ n h v u) : SDR Γ μ n h (fF l k v) (stored kvs (Γ.nm k) u) :=
 Ja (f := Γ.nm) Γ.DP x.1 x.2 y k
theorem Hr.length {l : List (Int × V)} {kvs : List (Int × Value)} (x : Hr Γ μ n h l kvs) : kvs.length = l.length := by simpa using congrArg List.length x.1
theorem SDR.length {l : List (Nat × V)} {kvs : List (Str × Value)} (x : SDR Γ μ n h l kvs) : kvs.length = l.length := by simpa using congrArg List.length x.1
noncomputable def IB (f : Int → Int → Bool) (a b : V) (σ : St) : Option (V × St) := match a, b with
 | .int a, .int b => some (.bool (f a b), σ)
 | _, _ => none
noncomputable abbrev oLt := IB (λ a b => decide (a < b))
noncomputable abbrev oLe := IB (λ a b => decide (a ≤ b))
noncomputable abbrev KK := IB (λ a b => decide (b < a))
noncomputable abbrev oGe := IB (λ a b => decide (b ≤ a))
noncomputable def flat (σ : St) : V → Option (Bool × V)
 | .obj i => (getL σ i).map λ l => (true, .tup l)
 | v => some (false, v)
noncomputable def Ll (a b : V) (σ : St) : Option Bool := match flat σ a, flat σ b with
 | some (p, x), some (q, y) => if okV 6 x && okV 6 y then some (p == q && AW x y) else none
 | _, _ => none
noncomputable def oEq (a b : V) (σ : St) : Option (V × St) := (Ll a b σ).map λ r => (.bool r, σ)
noncomputable def oNe (a b : V) (σ : St) : Option (V × St) := (Ll a b σ).map λ r => (.bool (!r), σ)
noncomputable def On : V → Option Bool
 | .none => some true
 | .range .. => none
 | _ => some false
noncomputable def Oj (a b : V) (σ : St) : Option (V × St) := match b with
 | .none => (On a).map λ c => (.bool c, σ)
 | .bool y => match a with
  | .bool x => some (.bool (x == y), σ)
  | _ => none
 | _ => none
noncomputable def jD (a b : V) (σ : St) : Option (V × St) := (Oj a b σ).bind λ r => match r.1 with
 | .bool c => some (.bool (!c), σ)
 | _ => none
noncomputable def MM (a b : V) (σ : St) : Option Bool := match b with
 | .obj i => (σ[i]?).bind λ o => match o with
  | .bX l => match a with
   | .int k => some (fT l k).isSome
   | _ => none
  | .list l => if okV 6 a && l.all (okV 6) then some (l.any λ y => AW y a) else none
  | _ => none
 | _ => none
noncomputable def oIn (a b : V) (σ : St) : Option (V × St) := (MM a b σ).map λ r => (.bool r, σ)
noncomputable def dK (a b : V) (σ : St) : Option (V × St) := (MM a b σ).map λ r => (.bool (!r), σ)
theorem b9.Kh {op : CmpOp} {f : Int → Int → Bool} (h : ∀ (A : Around) (s : Shared) (a b : Int) (t u : Tok) (Q : Value → Shared → Prop) (E : Value → Shared → Prop), Q (.bool (f a b)) s → wpAny Γ.M A (compareOp op (.int a t) (.int b u)) Q E s) : b9 Γ d (compareOp op) (IB f) := λ A μ σ s a b v ua ub σ' Q E r H xa xb e c => by
 obtain ⟨x, y, rfl, rfl, e2⟩ := nH e
 cases e2
 obtain ⟨_, rfl⟩ := xa.gA
 obtain ⟨_, rfl⟩ := xb.gA
 exact h _ _ _ _ _ _ _ _ (c _ μ _ H .refl (.bool _))
theorem b9.lt : b9 Γ d (compareOp .Lt) oLt := .Kh λ _ _ _ _ _ _ _ _ h => PyProof.Rows.lt_int h
theorem b9.le : b9 Γ d (compareOp .LtE) oLe := .Kh λ _ _ _ _ _ _ _ _ h => PyProof.Rows.le_int h
theorem b9.gt : b9 Γ d (compareOp .Gt) KK := .Kh λ _ _ _ _ _ _ _ _ h => PyProof.Rows.gt_int h
theorem b9.ge : b9 Γ d (compareOp .GtE) oGe := .Kh λ _ _ _ _ _ _ _ _ h => PyProof.Rows.ge_int h
theorem IO {σ : St} {v x : V} {p : Bool} (e : flat σ v = some (p, x)) : (p = false ∧ x = v) ∨ E2 λ i l => A4 (v = .obj i) (getL σ i = some l) (p = true) (x = .tup l) := by
 cases v with
 | obj i =>
  obtain ⟨l, hl, e⟩ := Option.map_eq_some_iff.mp e
  cases e
  exact .inr ⟨i, l, rfl, hl, rfl, rfl⟩
 | _ => cases e; exact .inl ⟨rfl, rfl⟩
inductive JA (nm : Nat → Str) (h : Heap) (u : Value) : Bool → V → Prop
 | plain {x : V} {as : List Addr} : Reads h u (p8 nm x) as → SeqAt.shaped (p8 nm x) = true → JA nm h u false x
 | list {l : List V} {as : List Addr} : Reads h u (.list (mU nm l)) as → SeqAt.shaped (.list (mU nm l)) = true → JA nm h u true (.tup l)
theorem tI (G : m8 Γ) {σ : St} {s : Shared} (H : aY Γ μ σ s.heap) {v x : V} {p : Bool} {u : Value} (y : VR Γ μ σ.length s.heap v u) (e : flat σ v = some (p, x)) (o : okV 6 x = true) : JA Γ.nm s.heap u p x := by
 rcases IO e with ⟨rfl, rfl⟩ | ⟨i, l, rfl, hl, rfl, rfl⟩
 ·obtain ⟨as, r⟩ := zV 6 x u o y
  obtain ⟨l1, l2⟩ := lay_of G 6 x o
  exact .plain r (Bool.and_eq_true_iff.mpr ⟨l1, decide_eq_true (Nat.le_trans l2 (by decide))⟩)
 ·cases y.kE.1
  obtain ⟨_, items, k, hL, hs⟩ := H.list hl
  obtain ⟨as, r⟩ := BL 5 l _ o hs
  obtain ⟨l1, l2⟩ := Ge G 5 l o
  exact .list (.list hL rfl rfl r) (Bool.and_eq_true_iff.mpr ⟨l1, decide_eq_true (Nat.succ_le_succ (Nat.le_trans l2 (by decide)))⟩)
theorem Mr {nm : Nat → Str} {x : V} {m : List PyData} : PyData.eqv (p8 nm x) (.list m) = false := by cases x <;> rfl
theorem Ms {nm : Nat → Str} {x : V} {m : List PyData} : PyData.eqv (.list m) (p8 nm x) = false := by cases x <;> rfl
theorem B8 (G : m8 Γ) {σ : St} {s : Shared} (H : aY Γ μ σ s.heap) {a b : V} {r : Bool} {ua ub : Value} (xa : VR Γ μ σ.length s.heap a ua) (xb : VR Γ μ σ.length s.heap b ub) (e : Ll a b σ = some r) :
  E4 λ da db as bs => A5 (Reads s.heap ua da as) (Reads s.heap ub db bs) (SeqAt.shaped da = true) (SeqAt.shaped db = true) (PyData.eqv da db = r) := by
 unfold Ll at e
 cases e1 : flat σ a with
 | none => rw [e1] at e; exact nS e
 | some q =>
 obtain ⟨p, x⟩ := q
 cases e2 : flat σ b with
 | none => rw [e1, e2] at e; exact nS e
 | some q =>
 obtain ⟨q, y⟩ := q
 rw [e1, e2] at e
 obtain ⟨ok, e⟩ := cK e
 cases e
 obtain ⟨o1, o2⟩ := Bool.and_eq_true_iff.mp ok
 have E := I0 (Γ := Γ) 6 x y o1 o2
 cases tI G H xa e1 o1 with
 | plain r1 s1 => cases tI G H xb e2 o2 with
  | plain r2 s2 => exact ⟨_, _, _, _, r1, r2, s1, s2, E⟩
  | list r2 s2 => exact ⟨_, _, _, _, r1, r2, s1, s2, Mr⟩
 | list r1 s1 => cases tI G H xb e2 o2 with
  | plain r2 s2 => exact ⟨_, _, _, _, r1, r2, s1, s2, Ms⟩
  | list r2 s2 => exact ⟨_, _, _, _, r1, r2, s1, s2, E⟩
theorem fX.Ot {A : Around} (r : fX A d) : A.units + 64 < cLine := by
 have hu := r.units
 show A.units + 64 < 9900; lia
theorem b9.eq (G : m8 Γ) : b9 Γ d (compareOp .Eq) oEq := λ A μ σ s a b v ua ub σ' Q E r H xa xb e c => by
 obtain ⟨z, hz, e⟩ := Option.map_eq_some_iff.mp e
 cases e
 obtain ⟨da, db, as, bs, r1, r2, s1, s2, q⟩ := B8 G H xa xb hz
 exact eq_dataH r1 r2 s1 s2 r.Ot (q ▸ c _ μ _ H .refl (.bool _))
theorem b9.ne (G : m8 Γ) : b9 Γ d (compareOp .NotEq) oNe := λ A μ σ s a b v ua ub σ' Q E r H xa xb e c => by
 obtain ⟨z, hz, e⟩ := Option.map_eq_some_iff.mp e
 cases e
 obtain ⟨da, db, as, bs, r1, r2, s1, s2, q⟩ := B8 G H xa xb hz
 exact ne_dataH r1 r2 s1 s2 r.Ot (q ▸ c _ μ _ H .refl (.bool _))
theorem VR.On {h : Heap} {a : V} {u : Value} {c : Bool} (x : VR Γ μ n h a u) (e : Mine.On a = some c) : (u == .none) = c := by cases x <;> cases e <;> rfl
theorem PR {σ : St} {h : Heap} {a b : V} {r : V × St} {ua ub : Value} (xa : VR Γ μ n h a ua) (xb : VR Γ μ n h b ub) (e : Oj a b σ = some r) :
   ∃ c, r = (.bool c, σ) ∧ ((ub = .none ∧ (ua == .none) = c) ∨ ∃ x y, ua = .bool x ∧ ub = .bool y ∧ (x == y) = c) := by
 cases b with
 | none =>
   obtain ⟨c, hc, e⟩ := Option.map_eq_some_iff.mp e
   cases e; exact ⟨_, rfl, .inl ⟨xb.FW, xa.On hc⟩⟩
 | bool _ => cases a with
  | bool _ =>
   cases e
   exact ⟨_, rfl, .inr ⟨_, _, xa.vC, xb.vC, rfl⟩⟩
  | _ => exact nS e
 | _ => exact nS e
theorem b9.is : b9 Γ d (compareOp .Is) Oj := λ A μ σ s a b v ua ub σ' Q E r H xa xb e c => by
 obtain ⟨z, hz, q⟩ := PR xa xb e
 cases hz
 rcases q with ⟨rfl, q⟩ | ⟨x, y, rfl, rfl, q⟩
 ·exact PySem.is_none (q ▸ c _ μ _ H .refl (.bool _))
 ·exact is_bool (q ▸ c _ μ _ H .refl (.bool _))
theorem b9.BV : b9 Γ d (compareOp .IsNot) jD := λ A μ σ s a b v ua ub σ' Q E r H xa xb e c => by
 obtain ⟨z, hz, e⟩ := Option.bind_eq_some_iff.mp e
 obtain ⟨b', hb, q⟩ := PR xa xb hz
 subst hb
 cases e
 rcases q with ⟨rfl, q⟩ | ⟨x, y, rfl, rfl, q⟩
 ·exact PySem.isNot_none (q ▸ c _ μ _ H .refl (.bool _))
 ·exact wpAny_isNot_plain (by rfl) (by
   have : (!(Value.bool x == Value.bool y)) = !b' := by rw [← q]; cases x <;> cases y <;> rfl
   rw [this]; exact c _ μ _ H .refl (.bool _))
theorem Gu (k : Nat) {a : V} (oa : okV k a = true) : ∀ {l : List V}, l.all (okV k) = true → ((mU Γ.nm l).any λ y => PyData.eqv y (p8 Γ.nm a)) = l.any λ y => AW y a
 | [], _ => rfl
 | x :: l, o => by
  simp only [List.all_cons, Bool.and_eq_true] at o
  show (PyData.eqv _ _ || List.any _ _) = (AW x a || l.any λ y => AW y a)
  rw [Gu k oa o.2, I0 (Γ := Γ) k x a o.1 oa]
theorem Kf {σ : St} {a b : V} {r : Bool} (e : MM a b σ = some r) : ∃ i, b = .obj i ∧ ((E2 λ l k => A3 (eJ σ i = some l) (a = .int k) ((fT l k).isSome = r)) ∨ ∃ l, A4 (getL σ i = some l) (okV 6 a = true) (l.all (okV 6) = true) ((l.any λ y => AW y a) = r)) := by
 cases b with
 | obj i =>
  refine ⟨i, rfl, ?_⟩
  obtain ⟨o, hl, e⟩ := Option.bind_eq_some_iff.mp e
  cases o with
  | bX l => cases a with
   | int k => exact .inl ⟨l, _, yT hl, rfl, Option.some.inj e⟩
   | _ => exact nS e
  | list l =>
   obtain ⟨ok, e⟩ := cK e
   obtain ⟨o1, o2⟩ := Bool.and_eq_true_iff.mp ok
   exact .inr ⟨l, yR hl, o1, o2, Option.some.inj e⟩
  | aW _ => exact nS e
 | _ => exact nS e
theorem Ar (G : m8 Γ) {A : Around} {s : Shared} {σ : St} {a b : V} {ua ub : Value} {r : Bool} (rm : fX A d) (H : aY Γ μ σ s.heap) (xa : VR Γ μ σ.length s.heap a ua) (xb : VR Γ μ σ.length s.heap b ub) (e : MM a b σ = some r) :
  (∀ (Q : Value → Shared → Prop) (E : Value → Shared → Prop), (∀ t, Q (.bool r) { s with toks := t }) → wpAny Γ.M A (compareOp .In ua ub) Q E s) ∧
  (∀ (Q : Value → Shared → Prop) (E : Value → Shared → Prop), (∀ t, Q (.bool (!r)) { s with toks := t }) → wpAny Γ.M A (compareOp .NotIn ua ub) Q E s) := by
 refine byC λ hG => ?_
 obtain ⟨i, rfl, ⟨l, k, hl, rfl, er⟩ | ⟨l, hl, o1, o2, er⟩⟩ := Kf e
 ·obtain ⟨_, rfl⟩ := xa.gA
  cases xb.kE.1
  obtain ⟨hi, kvs, hd, hr⟩ := H.bX hl
  have key : (valueAt kvs k).isSome = r := by
   obtain ⟨h1, h2⟩ := hr.get k
   rw [← er]
   cases q : fT l k with
   | none => rw [h2 q]; rfl
   | some v => obtain ⟨u, hu, _⟩ := h1 v q; rw [hu]; rfl
  exact hG ⟨λ Q E c => wpAny_in_of (intKind_is _ _ _ _) (H.CN G hi) hd.mapOf (by rw [key]; exact c _), λ Q E c => wpAny_notIn_of (intKind_is _ _ _ _) (H.CN G hi) hd.mapOf (by rw [key]; exact c _)⟩
 ·cases xb.kE.1
  obtain ⟨hi, items, k, hL, hs⟩ := H.list hl
  obtain ⟨as, r1⟩ := zV 6 a ua o1 xa
  obtain ⟨bs, r2⟩ := BL 6 l _ o2 hs
  obtain ⟨l1, l2⟩ := lay_of G 6 a o1
  obtain ⟨m1, m2⟩ := Ge G 6 l o2
  have room : A.units + 1 + min (PyData.depthAll (mU Γ.nm l)) (p8 Γ.nm a).depth < cLine := Nat.lt_of_le_of_lt (Nat.add_le_add_left (Nat.le_trans (Nat.min_le_left _ _) m2) _) (Nat.lt_of_le_of_lt (Nat.add_le_add_left (by decide : 7 ≤ 64) A.units) rm.Ot)
  have E := (Gu (Γ := Γ) 6 o1 o2).trans er
  exact hG ⟨λ Q E' c => SeqAt.in_list_reads (.list hL rfl rfl r2) r1 m1 l1 room (by rw [E]; exact c _), λ Q E' c => SeqAt.notIn_list_reads (.list hL rfl rfl r2) r1 m1 l1 room (by rw [E]; exact c _)⟩
theorem b9.Qb (G : m8 Γ) : b9 Γ d (compareOp .In) oIn := λ A μ σ s a b v ua ub σ' Q E r H xa xb e c => by
 obtain ⟨z, hz, e⟩ := Option.map_eq_some_iff.mp e
 cases e
 exact (Ar G r H xa xb hz).1 Q E λ t => c _ μ _ H (.toks _) (.bool _)
theorem b9.p9 (G : m8 Γ) : b9 Γ d (compareOp .NotIn) dK := λ A μ σ s a b v ua ub σ' Q E r H xa xb e c => by
 obtain ⟨z, hz, e⟩ := Option.map_eq_some_iff.mp e
 cases e
 exact (Ar G r H xa xb hz).2 Q E λ t => c _ μ _ H (.toks _) (.bool _)
end
section
variable {Γ : gT} {cx : Cx} {d : Nat}
noncomputable def pick (l : List V) (k : Int) : Option V :=
 if 0 ≤ k then (if k < 2 ^ 40 then l[k.toNat]? else none) else if -(l.length : Int) ≤ k ∧ -(2 ^ 40) ≤ k then l[(k + l.length).toNat]? else none
noncomputable def i6 (a b : V) (σ : St) : Option (V × St) := match a, b with
 | .tup l, .int k => (pick l k).map λ v => (v, σ)
 | .obj i, .int k => (σ[i]?).bind λ o => match o with
  | .list l => (pick l k).map λ v => (v, σ)
  | .bX l => (fT l k).map λ v => (v, σ)
  | _ => none
 | .obj i, .str k => (bV σ i).bind λ l => (fT l k).map λ v => (v, σ)
 | _, _ => none
theorem DC {μ : Nat → Addr} {n : Nat} {h : Heap} {l : List V} {items : Array Value} (hs : VRs Γ μ n h l items.toList) {k : Int} {v : V} (e : pick l k = some v) :
  -(2 ^ 63) ≤ k ∧ k < 2 ^ 63 ∧ ∃ j u, seqIndex? k items.size = some j ∧ items[j]? = some u ∧ VR Γ μ n h v u ∧
   ((0 ≤ k ∧ j = k.toNat) ∨ (k < 0 ∧ -(items.size : Int) ≤ k ∧ j = (k + items.size).toNat)) := by
 have hl := hs.length
 simp only [Array.length_toList] at hl
 unfold pick at e
 split at e
 ·rename_i h0
  split at e
  case isFalse => cases e
  rename_i h1
  obtain ⟨u, hu, hv⟩ := hs.get e
  rw [Array.getElem?_toList] at hu
  refine ⟨by lia, by lia, k.toNat, u, ?_, hu, hv, .inl ⟨h0, rfl⟩⟩
  have hlt : k.toNat < items.size := (Array.getElem?_eq_some_iff.mp hu).1
  unfold seqIndex?
  have : ¬ k < 0 := by lia
  simp only [this, if_false]
  rw [if_pos (by simp; lia)]
 ·rename_i h0
  split at e
  case isFalse => cases e
  rename_i h1
  obtain ⟨u, hu, hv⟩ := hs.get e
  rw [Array.getElem?_toList] at hu
  rw [hl] at hu h1
  refine ⟨by lia, by lia, _, u, seqIndex_neg (by lia) h1.1, hu, hv, .inr ⟨by lia, h1.1, rfl⟩⟩
theorem Hc {A : Around} {μ : Nat → Addr} {σ : St} {s : Shared} {a b v : V} {ua ub : Value} {σ' : St} {Q : Value → Shared → Prop} {E : Value → Shared → Prop}
   (H : aY Γ μ σ s.heap) (xa : VR Γ μ σ.length s.heap a ua) (xb : VR Γ μ σ.length s.heap b ub) (e : i6 a b σ = some (v, σ')) (c : Cont Γ μ σ s v σ' Q) :
   ∃ T id, s.TypeIs ua T ∧ typeLookup (.type T) "__getitem__" = pure (some (.builtin id)) ∧ wpAny Γ.M A (getItem ua ub) Q E s := by
 refine byC λ hG => ?_
 cases a with
 | tup l => cases b with
  | int k =>
   obtain ⟨w, hw, e⟩ := Option.map_eq_some_iff.mp e
   cases e
   obtain ⟨_, rfl⟩ := xb.gA
   obtain ⟨_, _, _, rfl, ht, hs⟩ := xa.tupI
   obtain ⟨h1, h2, j, u, e1, e2, hv, _⟩ := DC hs hw
   exact hG ⟨_, _, ⟨_, ht, rfl⟩, PyProof.Rows.slot_tuple_getitem.lookup, P.getItem_tuple ht h1 h2 e1 e2 (c _ μ _ H .refl hv)⟩
  | _ => exact nS e
 | obj i => cases b with
  | int k =>
   obtain ⟨_, rfl⟩ := xb.gA
   cases xa.kE.1
   obtain ⟨o, hl, e⟩ := Option.bind_eq_some_iff.mp e
   cases o with
   | list l =>
    obtain ⟨w, hw, e⟩ := Option.map_eq_some_iff.mp e
    cases e
    obtain ⟨hi, items, kk, hL, hs⟩ := H.list (yR hl)
    obtain ⟨h1, h2, j, u, e1, e2, hv, q⟩ := DC hs hw
    refine hG ⟨_, _, hL.isList.typeIs, slot_list_getitem.lookup, ?_⟩
    rcases q with ⟨q1, rfl⟩ | ⟨q1, q2, rfl⟩
    ·exact wpAny_getItem_list hL.isList q1 h2 e2 (c _ μ _ H .refl hv)
    ·exact wpAny_getItem_list_neg hL.isList q1 q2 h1 e2 (c _ μ _ H .refl hv)
   | bX l =>
    obtain ⟨w, hw, e⟩ := Option.map_eq_some_iff.mp e
    cases e
    obtain ⟨hi, kvs, hd, hr⟩ := H.bX (yT hl)
    obtain ⟨u, hu, hv⟩ := (hr.get k).1 _ hw
    exact hG ⟨_, _, hd.typeIs, slot_dict_getitem.lookup, wpAny_getItem_of (intKind_is _ _ _ _) hd.mapOf hu (c _ μ _ H (.toks _) hv)⟩
   | aW _ => exact nS e
  | str k =>
    obtain ⟨_, rfl⟩ := xb.HD
    cases xa.kE.1
    obtain ⟨l, hl, e⟩ := Option.bind_eq_some_iff.mp e
    obtain ⟨w, hw, e⟩ := Option.map_eq_some_iff.mp e
    cases e
    obtain ⟨hi, kvs, hd, hr⟩ := H.aW hl
    obtain ⟨u, hu, hv⟩ := (hr.get k).1 _ hw
    exact hG ⟨_, _, hd.typeIs, slot_dict_getitem.lookup, wpAny_getItem_of (strKind_is _ _ _ _) hd.mapOf hu (c _ μ _ H (.toks _) hv)⟩
  | _ => exact nS e
 | _ => exact nS e
theorem aC.sub {a b : PySem.Expr} {pos : Pos} {f g : X V} (hf : aC Γ d cx a f) (hg : aC Γ d cx b g) (hs : ∀ o i, subscripted b false o i = operate [o, i] (getItem o i)) :
  aC Γ d cx (.Subscript a b pos) (X.bind f λ x => X.bind g λ y => X.lift (i6 x y)) := λ A env μ ρ σ s v σ' Q E r H R e c => by
 obtain ⟨x, σ₁, e1, e⟩ := X.bind_some e
 obtain ⟨y, σ₂, e2, e⟩ := X.bind_some e
 refine Subscript_ (hf A env μ ρ σ s x σ₁ _ E r H R e1 λ ua aJ s₁ H₁ S₁ cQ => ?_)
 refine hg A env aJ ρ σ₁ s₁ y σ₂ _ E r H₁ (R.step H S₁) e2 λ ub bA s₂ cP S₂ eZ => ?_
 obtain ⟨T, id, hT, hl, hgi⟩ := Hc (A := A) (E := E) cP (S₂.vr H₁ cQ) eZ e λ u f6 s₃ gG iG V₃ => c u f6 s₃ gG ((S₁.then S₂).then iG) V₃
 exact tail_any hT hl hgi (hs _ _)
noncomputable def sliceOf (l : List V) (lo hi : Option Int) : Option (List V) := match lo, hi with
 | none, some b => if 0 ≤ b then some (l.take b.toNat) else none
 | some a, none => if 0 ≤ a then some (l.drop a.toNat) else none
 | _, _ => none
noncomputable def gX (a : V) (lo hi : Option Int) (σ : St) : Option (V × St) := match a with
 | .obj i => (getL σ i).bind λ l => if l.length ≤ 1000 then (sliceOf l lo hi).map λ r => (.obj σ.length, σ ++ [.list r]) else none
 | .zH l => match lo, hi with
  | none, some b => if 0 ≤ b ∧ l.length ≤ 1000 then some (.obj σ.length, σ ++ [.list ((l.take b.toNat).map .int)]) else none
  | _, _ => none
 | .tup l => match lo, hi with
  | none, some b => if 0 ≤ b ∧ b < l.length ∧ l.length ≤ 1000 then some (.tup (l.take b.toNat), σ) else none
  | _, _ => none
 | _ => none
noncomputable def yX (f : Option (X V)) : X (Option Int) := match f with
 | none => X.pure none
 | some f => X.bind f λ v => match v with
  | .int i => X.pure (some i)
  | _ => X.fail
inductive rS (Γ : gT) (d : Nat) (cx : Cx) : Option PySem.Expr → Option (X V) → Prop
 | nil : rS Γ d cx none none
 | one {e : PySem.Expr} {f : X V} : aC Γ d cx e f → rS Γ d cx (some e) (some f)
theorem rS.run {e : Option PySem.Expr} {f : Option (X V)} (h : rS Γ d cx e f) {A : Around} {env : Env} {μ : Nat → Addr} {ρ : Loc} {σ : St} {s : Shared} {v : Option Int} {σ' : St} {Q : Value → Shared → Prop} {E : Value → Shared → Prop}
  (r : fX A d) (H : aY Γ μ σ s.heap) (R : dN Γ cx env μ σ.length ρ s.heap) (x : yX f ρ σ = some (v, σ'))
  (c : ∀ u dY s', aY Γ dY σ' s'.heap → Step (Own μ σ.length) μ σ.length s dY σ'.length s' → IsPart u v → Q u s') : wpAny Γ.M A (evalPart e env) Q E s := by
 cases h with
 | nil => cases x; rw [evalPart_none]; exact wpAny_pure (c _ μ _ H .refl .none)
 | one h =>
  obtain ⟨w, σ₁, e1, x⟩ := X.bind_some x
  rw [evalPart_some]
  refine h A env μ ρ σ s w σ₁ _ E r H R e1 λ u aJ s₁ H₁ S₁ cQ => ?_
  split at x
  ·cases x; obtain ⟨_, rfl⟩ := cQ.gA; exact c _ aJ s₁ H₁ S₁ (.int _ _)
  ·cases x
theorem J1 {u : Value} {a : Int} (h : IsPart u (some a)) : ∃ t, u = .int a t := by cases h; exact ⟨_, rfl⟩
theorem J0 {u : Value} (h : IsPart u none) : u = .none := by cases h; rfl
theorem EA (b n : Nat) (hb : b ≤ n) : Builtin.Slice.sliceAdjust none (some (b : Int)) 1 (n : Int) = (0, (b : Int)) := by
 unfold Builtin.Slice.sliceAdjust
 have h1 : ¬ ((1 : Int) < 0) := by lia
 have h2 : ¬ ((b : Int) < 0) := by lia
 simp only [h1, h2, if_false]
 congr 1
 lia
theorem DA (b : Nat) : Builtin.Slice.slicePlaces 0 (b : Int) 1 = b := by
 unfold Builtin.Slice.slicePlaces
 have h1 : (1 : Int) > 0 := by lia
 simp only [h1, if_true, Int.ediv_one]
 split <;> lia
theorem tW {prog : Program} {w : World} {A : Around} {E : Value → Shared → Prop} {s : Shared} {sl : Addr} {b n : Nat} {u : Tok} {Q : Int × Int × Nat → Shared → Prop} (hs : s.heap.IsSliceOf sl .none (.int b u) .none) (hb : b ≤ n) (h : Q (0, 1, b) s) :
  wpAny (model prog w) A (Builtin.Slice.sliceApplied (.ref sl) (pure (n : Int))) Q E s := by
 obtain ⟨os, hos, hcs, hds⟩ := id hs
 unfold Builtin.Slice.sliceApplied Builtin.Slice.sliceFields
 refine wpAny_bind (wpAny_bind (wpAny_field hos hds (x := .none) rfl (wpAny_bind (wpAny_field hos hds (x := .int b u) rfl (wpAny_bind (wpAny_field hos hds (x := .none) rfl (wpAny_pure ?_)))))))
 refine wpAny_bind (slicePart_none ?_)
 show wpAny _ _ (if ((1 : Int) == 0) = true then _ else _) _ _ s
 rw [if_neg (by decide)]
 refine wpAny_bind (slicePart_none (wpAny_bind (slicePart_int (wpAny_bind (wpAny_pure ?_)))))
 show wpAny _ _ (match Builtin.Slice.sliceAdjust none (some (b : Int)) 1 (n : Int) with | (lo, hi) => pure (lo, (1 : Int), Builtin.Slice.slicePlaces lo hi 1)) _ _ s
 rw [EA b n hb]
 show wpAny _ _ (pure ((0 : Int), (1 : Int), Builtin.Slice.slicePlaces 0 (b : Int) 1)) _ _ s
 rw [DA b]
 exact wpAny_pure h
theorem GY (xs : Array Value) (b : Nat) (hb : b ≤ xs.size) : ((List.range b).filterMap λ (k : Nat) => xs[((0 : Int) + (k : Int) * 1).toNat]?).toArray = (xs.toList.take b).toArray := by
 have e : (λ (k : Nat) => xs[((0 : Int) + (k : Int) * 1).toNat]?) = λ k => xs[0 + k]? := by
  funext k
  have : ((0 : Int) + (k : Int) * 1).toNat = 0 + k := by lia
  rw [this]
 rw [e]
 have := pick_run xs 0 b
 rw [List.filterMap_map] at this
 have e2 : ((λ x => xs[x]?) ∘ λ x => 0 + x) = λ k => xs[0 + k]? := rfl
 rw [e2] at this
 rw [this, List.drop_zero]
theorem tH {prog : Program} {w : World} {A : Around} {E : Value → Shared → Prop} {s : Shared} {t sl : Addr} {items : Array Value} {b : Nat} {u : Tok} {Q : Value → Shared → Prop} (ht : IsTup s.heap t items) (hs : s.heap.IsSliceOf sl .none (.int b u) .none) (hb : b < items.size)
  (h : Q (.ref s.heap.objs.size) { s with heap := s.heap.push { cls := .type "tuple", data := .seq (items.toList.take b).toArray } })
  (hsz : items.size ≤ sizeLine) : wpAny (model prog w) A (getItem (.ref t) (.ref sl)) Q E s := by
 have hdrop : sizeOk (.seq (items.toList.take b).toArray) := by
  show (items.toList.take b).toArray.size ≤ sizeLine
  rw [List.size_toArray, List.length_take, Array.length_toList]
  lia
 obtain ⟨os, hos, hcs, hds⟩ := id hs
 have hTs : s.TypeIs (.ref sl) "slice" := ⟨os, hos, hcs⟩
 unfold getItem
 try with_reducible refine wpAny_holding ?_
 first | refine wpAny_bind (wpAny_pure ?_) | skip
 refine wpAny_bind (wpAny_sequenceKey ht.typeIs (by decide) ?_)
 refine wpAny_bind (wpAny_callSpecial?_slot (name := Str.ofString "__getitem__") ht.typeIs PyProof.Rows.slot_tuple_getitem
  (wpAny_call_entry PyProof.Rows.slot_tuple_getitem ht.typeIs PyProof.Rows.entry_tuple_getitem ?_ (PyProof.Rows.args_tuple_getitem _ _)))
 show wpAny _ _ (Builtin.Tuple.tupleItemsOf (.ref t) >>= _) _ _ s
 refine wpAny_bind (tupleItemsOf_ ht ?_)
 refine wpAny_bind (wpAny_typeOf hTs ?_)
 rw [if_pos (by decide)]
 refine wpAny_bind (tW hs (Nat.le_of_lt hb) ?_)
 have hno : ¬ (((0 : Int) == 0 && (1 : Int) == 1 && b == items.size) = true) := by
  have : (b == items.size) = false := by rw [beq_eq_false_iff_ne]; lia
  rw [this]; simp
 show wpAny _ _ (if ((0 : Int) == 0 && (1 : Int) == 1 && b == items.size) = true then _ else _) _ _ s
 rw [if_neg hno, GY items b (Nat.le_of_lt hb)]
 first
  | exact wpAny_bind (m := Builtin.Tuple.tupleExact _) (wpAny_newObj_type (wpAny_pure ⟨_, rfl, wpAny_pure h⟩) hdrop)
  | exact wpAny_bind (m := Builtin.Tuple.tupleExact _) (wpAny_newObj_type (wpAny_bind (wpAny_pure (wpAny_pure ⟨_, rfl, wpAny_pure h⟩))) hdrop)
  | exact wpAny_bind (wpAny_bind (m := Builtin.Tuple.tupleExact _) (wpAny_newObj_type (wpAny_pure (wpAny_pure ⟨_, rfl, wpAny_pure h⟩)) hdrop))
  | exact wpAny_bind (wpAny_bind (m := Builtin.Tuple.tupleExact _) (wpAny_newObj_type (wpAny_pure ⟨_, rfl, wpAny_pure h⟩) hdrop))
theorem IntsAre.MS {μ : Nat → Addr} {n : Nat} {h : Heap} : ∀ {vs : List Value} {ns : List Int}, IntsAre vs ns → VRs Γ μ n h (ns.map .int) vs
 | _, _, .nil => .nil
 | _, _, .cons n t x => .cons (.int n t) (IntsAre.MS x)
theorem le_size {k : Nat} (h : k ≤ 1000) : k ≤ sizeLine := by rw [sizeLine_eq]; lia
theorem BH {μ : Nat → Addr} {n : Nat} {h : Heap} {l rr : List V} {lo hi : Option Int} {items : Array Value} (hs : VRs Γ μ n h l items.toList) (hr : sliceOf l lo hi = some rr) : VRs Γ μ n h rr (slicePick items lo hi none).toList := by
 cases lo with
 | none => cases hi with
  | none => exact nS hr
  | some b =>
   obtain ⟨hb, hr⟩ := cK hr
   cases hr
   obtain ⟨k, rfl⟩ := Int.eq_ofNat_of_zero_le hb
   rw [slicePick_upto', List.toList_toArray]
   exact hs.take k
 | some b => cases hi with
  | some _ => exact nS hr
  | none =>
   obtain ⟨hb, hr⟩ := cK hr
   cases hr
   obtain ⟨k, rfl⟩ := Int.eq_ofNat_of_zero_le hb
   rw [slicePick_from', List.toList_toArray]
   exact hs.drop k
theorem Dr {A : Around} {μ : Nat → Addr} {σ : St} {s : Shared} {a v : V} {lo hi : Option Int} {ua vl vu : Value} {sl : Addr} {σ' : St} {Q : Value → Shared → Prop} {E : Value → Shared → Prop}
   (H : aY Γ μ σ s.heap) (xa : VR Γ μ σ.length s.heap a ua) (hsl : s.heap.IsSliceOf sl vl vu .none) (pl : IsPart vl lo) (pu : IsPart vu hi) (e : gX a lo hi σ = some (v, σ')) (c : Cont Γ μ σ s v σ' Q) :
   ∃ T id, s.TypeIs ua T ∧ typeLookup (.type T) "__getitem__" = pure (some (.builtin id)) ∧ wpAny Γ.M A (getItem ua (.ref sl)) Q E s := by
 refine byC λ hG => ?_
 cases a with
 | obj _ =>
   obtain ⟨l, hl, e⟩ := Option.bind_eq_some_iff.mp e
   obtain ⟨hlen, e⟩ := cK e
   obtain ⟨rr, hr, e⟩ := Option.map_eq_some_iff.mp e
   cases e
   cases xa.kE.1
   obtain ⟨hi', items, kk, hL, hs⟩ := H.list hl
   have hln := hs.length.trans Array.length_toList
   have key := BH hs hr
   exact hG ⟨_, _, hL.isList.typeIs, slot_list_getitem.lookup, wpAny_getItem_list_slice hL.isList hsl pl pu .none (by decide) (lI H key c s.toks) (le_size (hln ▸ hlen))⟩
 | zH l => cases lo with
  | some _ => exact nS e
  | none => cases hi with
  | none => exact nS e
  | some b =>
   obtain ⟨hb, e⟩ := cK e
   cases e
   obtain ⟨_, _, _, rfl, hL, hs⟩ := xa.Oz
   have hL' : IsL s.heap _ _ _ := H.base _ _ hL
   have hln := Array.length_toList.symm.trans hs.length
   refine hG ⟨_, _, hL'.isList.typeIs, slot_list_getitem.lookup, wpAny_getItem_list_slice hL'.isList hsl pl pu .none (by decide) (lI H ?_ c s.toks) (le_size (Nat.le_trans (Nat.le_of_eq hln) hb.2))⟩
   rw [List.map_take]
   exact BH (lo := none) (hi := some b) (IntsAre.MS (Γ := Γ) (μ := μ) (n := σ.length) (h := s.heap) hs) (if_pos hb.1)
 | tup l => cases lo with
  | some _ => exact nS e
  | none => cases hi with
  | none => exact nS e
  | some b =>
   obtain ⟨hb, e⟩ := cK e
   cases e
   obtain ⟨_, _, _, rfl, ht, hs⟩ := xa.tupI
   obtain rfl := J0 pl
   obtain ⟨t, rfl⟩ := J1 pu
   have hln := hs.length.trans Array.length_toList
   obtain ⟨n, rfl⟩ := Int.eq_ofNat_of_zero_le hb.1
   have h1 := Int.ofNat_lt.mp hb.2.1
   rw [hln] at h1
   exact hG ⟨_, _, ⟨_, ht, rfl⟩, PyProof.Rows.slot_tuple_getitem.lookup, tH ⟨_, ht, rfl, _, rfl⟩ hsl h1 (xE H (by rw [List.toList_toArray]; exact hs.take n) c s.toks) (le_size (hln ▸ hb.2.2))⟩
 | _ => exact nS e
theorem aC.slice {a : PySem.Expr} {lo hi : Option PySem.Expr} {p pos : Pos} {f : X V} {g h : Option (X V)} (hf : aC Γ d cx a f) (hg : rS Γ d cx lo g) (hh : rS Γ d cx hi h) :
  aC Γ d cx (.Subscript a (.Slice lo hi Option.none p) pos) (X.bind f λ x => X.bind (yX g) λ l => X.bind (yX h) λ u => X.lift (gX x l u)) := λ A env μ ρ σ s v σ' Q E r H R e c => by
 obtain ⟨x, σ₁, e1, e⟩ := X.bind_some e
 obtain ⟨y, σ₂, e2, e⟩ := X.bind_some e
 obtain ⟨z, j9, e3, e⟩ := X.bind_some e
 refine Subscript_ (hf A env μ ρ σ s x σ₁ _ E r H R e1 λ ua aJ s₁ H₁ S₁ cQ => wpAny_Slice ?_)
 have iW := R.step H S₁
 refine hg.run r H₁ iW e2 λ vl bA s₂ cP S₂ P₂ => ?_
 have iV := iW.step H₁ S₂
 refine hh.run r cP iV e3 λ vu f6 s₃ gG iG Pv => ?_
 rw [evalPart_none]
 refine wpAny_pure ?_
 have T : Step (Own f6 j9.length) f6 j9.length s₃ f6 j9.length { s₃ with heap := s₃.heap.push { cls := .type "slice", data := .fields #[vl, vu, .none] } } := .push _
 have V₃ := iG.vr cP (S₂.vr H₁ cQ)
 obtain ⟨T', id, hT, hl, hgi⟩ := Dr (A := A) (E := E) (gG.push _) (V₃.mono (.push _ _) (λ _ _ => rfl) (Nat.le_refl _)) (Heap.IsSliceOf.new _ _ _ _) P₂ Pv e λ u pT s₄ oE mN V₄ =>
  c u pT s₄ oE ((((S₁.then S₂).then iG).then T).then mN) V₄
 exact tail_any hT hl hgi rfl
end
inductive Fl where
 | next
 | ret (v : V)
noncomputable abbrev XS := Loc → St → Option (Fl × Loc × St)
noncomputable abbrev XA := V → Loc → St → Option (Loc × St)
section
variable {Γ : gT} {cx : Cx} {d : Nat}
noncomputable def MH (Γ : gT) (μ : Nat → Addr) (n : Nat) (h : Heap) : Fl → Flow → Prop
 | .next, .next => True
 | .ret v, .ret u => VR Γ μ n h v u
 | _, _ => False
theorem MH.Ig {μ : Nat → Addr} {n : Nat} {h : Heap} {w : Flow} (x : MH Γ μ n h .next w) : w = .next := by
 cases w <;> first | rfl | exact x.elim
theorem MH.LE {μ : Nat → Addr} {n : Nat} {h : Heap} {v : V} {w : Flow} (x : MH Γ μ n h (.ret v) w) : ∃ u, w = .ret u ∧ VR Γ μ n h v u := by
 cases w <;> first | exact ⟨_, rfl, x⟩ | exact x.elim
noncomputable def i9 (Γ : gT) (cx : Cx) (env : Env) (μ : Nat → Addr) (n : Nat) (b : Addr) : Prop := Own μ n b ∨ JB Γ cx env b
noncomputable def aE (Γ : gT) (d : Nat) (cx : Cx) (ss : List Stmt) (g : XS) : Prop :=
 ∀ (A : Around) (env : Env) (μ : Nat → Addr) (ρ : Loc) (σ : St) (s : Shared) (fl : Fl) (cJ : Loc) (σ' : St) (Q : Flow → Shared → Prop) (E : Value → Shared → Prop),
  fX A d → aY Γ μ σ s.heap → dN Γ cx env μ σ.length ρ s.heap → g ρ σ = some (fl, cJ, σ') →
  (∀ w dY s', aY Γ dY σ' s'.heap → Step (i9 Γ cx env μ σ.length) μ σ.length s dY σ'.length s' → dN Γ cx env dY σ'.length cJ s'.heap → MH Γ dY σ'.length s'.heap fl w → Q w s') →
  wpAny Γ.M A (execs ss env) Q E s
noncomputable def aM (Γ : gT) (d : Nat) (cx : Cx) (st : Stmt) (g : XS) : Prop :=
 ∀ (A : Around) (env : Env) (μ : Nat → Addr) (ρ : Loc) (σ : St) (s : Shared) (fl : Fl) (cJ : Loc) (σ' : St) (Q : Flow → Shared → Prop) (E : Value → Shared → Prop),
  fX A d → aY Γ μ σ s.heap → dN Γ cx env μ σ.length ρ s.heap → g ρ σ = some (fl, cJ, σ') →
  (∀ w dY s', aY Γ dY σ' s'.heap → Step (i9 Γ cx env μ σ.length) μ σ.length s dY σ'.length s' → dN Γ cx env dY σ'.length cJ s'.heap → MH Γ dY σ'.length s'.heap fl w → Q w s') →
  wpAny Γ.M A (exec st env) Q E s
noncomputable def eG (Γ : gT) (d : Nat) (cx : Cx) (t : PySem.Expr) (g : XA) : Prop :=
 ∀ (A : Around) (env : Env) (μ : Nat → Addr) (ρ : Loc) (σ : St) (s : Shared) (v : V) (u : Value) (cJ : Loc) (σ' : St) (Q : Unit → Shared → Prop) (E : Value → Shared → Prop),
  fX A d → aY Γ μ σ s.heap → dN Γ cx env μ σ.length ρ s.heap → VR Γ μ σ.length s.heap v u → g v ρ σ = some (cJ, σ') →
  (∀ dY s', aY Γ dY σ' s'.heap → Step (i9 Γ cx env μ σ.length) μ σ.length s dY σ'.length s' → dN Γ cx env dY σ'.length cJ s'.heap → Q () s') →
  wpAny Γ.M A (assign t env u) Q E s
variable {env : Env} {μ aJ bA : Nat → Addr} {n n₁ n₂ : Nat} {ρ : Loc} {s s₁ s₂ : Shared} {σ σ₁ : St}
theorem dN.wV (H : aY Γ μ σ s.heap) (R : dN Γ cx env μ σ.length ρ s.heap) (b : Addr) (o : Obj) (x : i9 Γ cx env μ σ.length b) (e : s.heap.get? b = some o) : fz o = false := by
 rcases x with x | rfl | ⟨_, p, hp, h1, h2⟩
 ·exact H.wV x e
 ·obtain ⟨m, hn, _⟩ := R.locals
  obtain ⟨o', es, ep, ho, hd⟩ := Heap.Ns.obj hn
  rw [ho] at e; cases e
  simp [fz, hd]
 ·obtain ⟨c, x, h3, ⟨o', ho, hd⟩, _⟩ := R.cells p hp h1
  rw [h2] at h3; cases h3
  rw [ho] at e; cases e
  simp [fz, hd]
theorem Step.LZ (H : aY Γ μ σ s.heap) (R : dN Γ cx env μ σ.length ρ s.heap) (S : Step (i9 Γ cx env μ σ.length) μ σ.length s aJ n₁ s₁) : cL s.heap s₁.heap :=
 S.Iv λ b o x e => R.wV H b o x e
theorem Step.tT (S : Step (Own μ n) μ n s aJ n₁ s₁) : Step (i9 Γ cx env μ n) μ n s aJ n₁ s₁ :=
 ⟨λ b o e q => S.uA b o e λ x => q (.inl x), S.live, S.agree, S.le, S.fresh, S.gens, S.drawn, S.os⟩
theorem Step.J3 (S : Step (i9 Γ cx env μ n) μ n s aJ n₁ s₁) : ∀ b, i9 Γ cx env aJ n₁ b → i9 Γ cx env μ n b ∨ s.heap.get? b = none := by
 rintro b (x | x)
 ·exact S.HT (λ _ x => .inl x) b x
 ·exact .inl (.inr x)
theorem Step.fN (S : Step (i9 Γ cx env μ n) μ n s aJ n₁ s₁) (T : Step (i9 Γ cx env aJ n₁) aJ n₁ s₁ bA n₂ s₂) : Step (i9 Γ cx env μ n) μ n s bA n₂ s₂ := S.trans T S.J3
namespace XS
noncomputable def nil : XS := λ ρ σ => some (.next, ρ, σ)
noncomputable def seq (f g : XS) : XS := λ ρ σ => match f ρ σ with
 | some (.next, cJ, σ') => g cJ σ'
 | r => r
noncomputable def ret (f : X V) : XS := λ ρ σ => match f ρ σ with
 | some (v, σ') => some (.ret v, ρ, σ')
 | none => none
noncomputable def ite (f : X Bool) (g h : XS) : XS := λ ρ σ => match f ρ σ with
 | some (true, σ') => g ρ σ'
 | some (false, σ') => h ρ σ'
 | none => none
noncomputable def isRef : V → Bool
 | .none => false | .bool _ => false | .int _ => false | .str _ => false
 | _ => true
noncomputable def drop (f : X V) : XS := λ ρ σ => match f ρ σ with
 | some (v, σ') => if isRef v then none else some (.next, ρ, σ')
 | none => none
noncomputable def assign (f : X V) (a : XA) : XS := λ ρ σ => match f ρ σ with
 | some (v, σ') => match a v ρ σ' with
  | some (cJ, xN) => some (.next, cJ, xN)
  | none => none
 | none => none
noncomputable def jS (f : X Bool) (g : XS) : Nat → XS
 | 0 => λ _ _ => none
 | n + 1 => λ ρ σ => match f ρ σ with
  | some (true, σ') => match g ρ σ' with
   | some (.next, cJ, xN) => jS f g n cJ xN
   | r => r
  | some (false, σ') => some (.next, ρ, σ')
  | none => none
end XS
noncomputable def XA.name (i : Nat) : XA := λ v ρ σ => if i < ρ.length then some (ρ.set i (some v), σ) else none
theorem aE.nil : aE Γ d cx [] XS.nil := λ A env μ ρ σ s fl cJ σ' Q E r H R e c => by
 cases e; exact wpAny_execs_nil (c _ μ s H .refl R trivial)
theorem aE.cons {st : Stmt} {ss : List Stmt} {f g : XS} (hf : aM Γ d cx st f) (hg : aE Γ d cx ss g) : aE Γ d cx (st :: ss) (XS.seq f g) := λ A env μ ρ σ s fl cJ σ' Q E r H R e c => by
 refine wpAny_execs_cons ?_
 unfold XS.seq at e
 cases e1 : f ρ σ with
 | none => rw [e1] at e; exact nS e
 | some q =>
 obtain ⟨Qh, dA, σ₁⟩ := q
 rw [e1] at e
 cases Qh with
 | next =>
  refine hf A env μ ρ σ s _ _ _ _ E r H R e1 λ w aJ s₁ H₁ S₁ iW cQ => ?_
  cases cQ.Ig
  exact hg A env aJ dA σ₁ s₁ fl cJ σ' _ E r H₁ iW e λ w bA s₂ cP S₂ iV eZ => c w bA s₂ cP (S₁.fN S₂) iV eZ
 | ret v =>
  cases e
  refine hf A env μ ρ σ s _ _ _ _ E r H R e1 λ w aJ s₁ H₁ S₁ iW cQ => ?_
  obtain ⟨u, rfl, cQ⟩ := cQ.LE
  exact c _ aJ s₁ H₁ S₁ iW cQ
theorem aM.ret {e : PySem.Expr} {pos : Pos} {f : X V} (hf : aC Γ d cx e f) : aM Γ d cx (.Return (some e) pos) (XS.ret f) := λ A env μ ρ σ s fl cJ σ' Q E r H R e c => by
 unfold XS.ret at e
 split at e <;> cases e
 rename_i v e1
 exact wpAny_Return_some (hf A env μ ρ σ s v σ' _ E r H R e1 λ u aJ s₁ H₁ S₁ cQ => c _ aJ s₁ H₁ S₁.tT (R.step H S₁) cQ)
theorem aM.JV {pos : Pos} : aM Γ d cx (.Return none pos) (XS.ret (X.pure .none)) := λ A env μ ρ σ s fl cJ σ' Q E r H R e c => by
 cases e
 exact wpAny_Return_none (c _ μ s H .refl R .none)
theorem aM.fail {st : Stmt} : aM Γ d cx st (λ _ _ => none) := λ A env μ ρ σ s fl cJ σ' Q E r H R e c => by cases e
theorem aE.fail {st : List Stmt} : aE Γ d cx st (λ _ _ => none) := λ A env μ ρ σ s fl cJ σ' Q E r H R e c => by cases e
theorem aM.ite {t : PySem.Expr} {a b : List Stmt} {pos : Pos} {f : X Bool} {g h : XS} (hf : bK Γ d cx t f) (hg : aE Γ d cx a g) (hh : aE Γ d cx b h) : aM Γ d cx (.If t a b pos) (XS.ite f g h) := λ A env μ ρ σ s fl cJ σ' Q E r H R e c => by
 unfold XS.ite at e
 split at e
 ·rename_i σ₁ e1
  refine wpAny_If (hf A env μ ρ σ s _ _ _ E r H R e1 λ aJ s₁ H₁ S₁ => ?_)
  exact hg A env aJ ρ σ₁ s₁ fl cJ σ' _ E r H₁ (R.step H S₁) e λ w bA s₂ cP S₂ iV eZ => c w bA s₂ cP (S₁.tT.fN S₂) iV eZ
 ·rename_i σ₁ e1
  refine wpAny_If (hf A env μ ρ σ s _ _ _ E r H R e1 λ aJ s₁ H₁ S₁ => ?_)
  exact hh A env aJ ρ σ₁ s₁ fl cJ σ' _ E r H₁ (R.step H S₁) e λ w bA s₂ cP S₂ iV eZ => c w bA s₂ cP (S₁.tT.fN S₂) iV eZ
 ·cases e
theorem Ao (R : dN Γ cx env μ n ρ s.heap) : interactive env = false := by
 unfold interactive
 rw [R.scope, R.kind]; rfl
theorem noRef {h : Heap} {v : V} {u : Value} (x : VR Γ μ n h v u) (hv : ¬ XS.isRef v = true) {P : Prop} (p : P) : match (generalizing := false) u with | .ref _ => False | _ => P := by
 cases x <;> first | exact p | exact (hv rfl).elim
theorem aM.expr {e : PySem.Expr} {pos : Pos} {f : X V} (hf : aC Γ d cx e f) (hs : ∀ env, swapsWith e none pos.line env = pure false) : aM Γ d cx (.Expr e pos) (XS.drop f) := λ A env μ ρ σ s fl cJ σ' Q E r H R e c => by
 unfold XS.drop at e
 split at e
 case h_2 => cases e
 rename_i v σ₁ e1
 split at e
 case isTrue => cases e
 rename_i hv
 cases e
 refine wpAny_Expr (hf A env μ ρ σ s v σ' _ E r H R e1 λ u aJ s₁ H₁ S₁ cQ => ?_) (Ao R) (hs env)
 exact noRef cQ hv (c .next aJ s₁ H₁ S₁.tT (R.step H S₁) trivial)
inductive WhileI (Γ : gT) (cx : Cx) (env : Env) (μ : Nat → Addr) (σ : St) (s : Shared) (fl : Fl) (cJ : Loc) (σ' : St) (f : X Bool) (g : XS) (n : Nat) (s₁ : Shared) (aJ : Nat → Addr) (dA : Loc) (σ₁ : St) : Prop
 | intro (H : aY Γ aJ σ₁ s₁.heap) (S : Step (i9 Γ cx env μ σ.length) μ σ.length s aJ σ₁.length s₁) (R : dN Γ cx env aJ σ₁.length dA s₁.heap) (e : XS.jS f g n dA σ₁ = some (fl, cJ, σ'))
theorem aM.while {t : PySem.Expr} {b : List Stmt} {pos : Pos} {f : X Bool} {g : XS} (fuel : Nat) (hf : bK Γ d cx t f) (hg : aE Γ d cx b g) : aM Γ d cx (.While t b [] pos) (XS.jS f g fuel) := λ A env μ ρ σ s fl cJ σ' Q E r H R e c => by
 refine wpAny_While ?_
 refine codeAny_whileLoop (λ n s₁ => E3 (WhileI Γ cx env μ σ s fl cJ σ' f g n s₁)) ?_ fuel ⟨μ, ρ, σ, H, .refl, R, e⟩
 rintro n s₁ ⟨aJ, dA, σ₁, H₁, S₁, iW, e⟩
 cases n with
 | zero => cases e
 | succ n =>
  unfold XS.jS at e
  split at e
  ·rename_i σ₂ e1
   refine hf A env aJ dA σ₁ s₁ _ _ _ _ r H₁ iW e1 λ bA s₂ cP S₂ => ?_
   rw [if_pos rfl]
   have iV := iW.step H₁ S₂
   split at e
   ·rename_i Hs j9 e2
    refine hg A env bA dA σ₂ s₂ _ _ _ _ _ r cP iV e2 λ w f6 s₃ gG iG r7 V₃ => ?_
    cases V₃.Ig
    exact ⟨n, Nat.lt_succ_self n, ⟨f6, Hs, j9, gG, (S₁.fN S₂.tT).fN iG, r7, e⟩⟩
   ·rename_i hne
    cases fl with
    | next => exact absurd e (hne _ _)
    | ret v =>
     refine hg A env bA dA σ₂ s₂ _ _ _ _ _ r cP iV e λ w f6 s₃ gG iG r7 V₃ => ?_
     obtain ⟨u, rfl, V₃⟩ := V₃.LE
     exact c _ f6 s₃ gG ((S₁.fN S₂.tT).fN iG) r7 V₃
  ·rename_i σ₂ e1
   cases e
   refine hf A env aJ cJ σ₁ s₁ _ _ _ _ r H₁ iW e1 λ bA s₂ cP S₂ => ?_
   rw [if_neg (by decide)]
   exact wpAny_execs_nil (c _ bA s₂ cP (S₁.fN S₂.tT) (iW.step H₁ S₂) trivial)
  ·cases e
theorem wQ {A : Around} {E : Value → Shared → Prop} {Q : Unit → Shared → Prop} {i k : Nat} {v : V} {u : Value} (hv : (i, k) ∈ cx.vars) (O : aR Γ cx) (fn : cx.fn = true ∨ gF Γ cx k = some .local) (H : aY Γ μ σ s.heap) (R : dN Γ cx env μ σ.length ρ s.heap) (V : VR Γ μ σ.length s.heap v u)
  (hi : i < ρ.length) (c : ∀ s', aY Γ μ σ s'.heap → Step (i9 Γ cx env μ σ.length) μ σ.length s μ σ.length s' → dN Γ cx env μ σ.length (ρ.set i (some v)) s'.heap → Q () s') : wpAny Γ.M A (storeName env (Γ.nm k) u) Q E s := by
 have hk := O.kinds _ hv
 have hkf : env.scope.kind = .function := by rw [R.scope]; exact R.kind
 have get : ∀ (p : Nat × Nat), p ∈ cx.vars → p ≠ (i, k) → (ρ.set i (some v))[p.1]? = ρ[p.1]? := λ p hp hne => by
  rw [List.getElem?_set_ne]
  intro e
  exact hne (O.slots _ hp _ hv e.symm)
 have get' : (ρ.set i (some v))[i]? = some (some v) := by simp [hi]
 by_cases hl : env.kindOf (Γ.nm k) = some .local
 ·obtain ⟨m, hn, hm⟩ := R.locals
  refine wpAny_storeName_local hl hn (λ h' hn' hs' => ?_) (by rw [hkf]; rfl)
  have hz : ∀ o, s.heap.get? env.locals = some o → fz o = false := λ o e => R.wV H _ o (.inr (.inl rfl)) e
  have kf : cL s.heap h' := .ext hs'.extBut hz
  refine c _ (H.ext hs'.extBut hz R.lo R.qZ) ?_ ?_
  ·obtain ⟨o, es, ep, ho, _⟩ := Heap.Ns.obj hn'
   refine ⟨λ b o e q => hs'.extBut b o (λ z => q (.inr (.inl z))) e, λ b o' e => ?_, λ _ _ => rfl, Nat.le_refl _, λ _ h1 h2 => absurd h2 (Nat.not_lt.mpr h1), rfl, rfl, rfl⟩
   by_cases hb : b = env.locals
   ·subst hb; exact ⟨_, ho⟩
   ·exact ⟨o', hs'.extBut b o' hb e⟩
  ·refine ⟨R.scope, R.kind, R.globals, R.builtins, ⟨_, hn', λ p hp hpl w hw => ?_⟩, λ p hp hpc => ?_, R.tQ, R.qZ, R.lo, R.LX⟩
   ·by_cases hpk : p = (i, k)
    ·subst hpk
     rw [get'] at hw; cases hw
     exact ⟨u, if_pos rfl, V.mono kf (λ _ _ => rfl) (Nat.le_refl _)⟩
    ·rw [get p hp hpk] at hw
     obtain ⟨u', h1, h2⟩ := hm p hp hpl w hw
     have : Γ.nm p.2 ≠ Γ.nm k := λ z => hpk (O.names _ hp _ hv (Γ.DP _ _ z))
     exact ⟨u', by rw [if_neg this]; exact h1, h2.mono kf (λ _ _ => rfl) (Nat.le_refl _)⟩
   ·have hpk : p ≠ (i, k) := by rintro rfl; rw [hl] at hpc; cases hpc
    obtain ⟨cc, x, h1, h2, h3⟩ := R.cells p hp hpc
    have hne : cc ≠ env.locals := by
     rintro rfl
     obtain ⟨o, ho, hd⟩ := h2
     obtain ⟨o', _, _, ho', hd'⟩ := Heap.Ns.obj hn
     rw [ho] at ho'; cases ho'
     rw [hd] at hd'; cases hd'
    refine ⟨cc, x, h1, h2.sameBut hs' hne, λ w hw => ?_⟩
    rw [get p hp hpk] at hw
    obtain ⟨u', e1, e2⟩ := h3 w hw
    exact ⟨u', e1, e2.mono kf (λ _ _ => rfl) (Nat.le_refl _)⟩
 ·have hc : env.kindOf (Γ.nm k) = some .cell := by
   rw [← R.kindOf] at hk; exact hk.resolve_left hl
  obtain ⟨cc, x, h1, h2, h3⟩ := R.cells _ hv hc
  have hfn : cx.fn = true := fn.resolve_right (by rw [← R.kindOf]; exact hl)
  have own : JB Γ cx env cc := .inr ⟨hfn, _, hv, hc, h1⟩
  refine wpAny_storeName_cell hkf hc h1 h2 λ h' hc' hs' => ?_
  have hz : ∀ o, s.heap.get? cc = some o → fz o = false := λ o e => R.wV H _ o (.inr own) e
  have kf : cL s.heap h' := .ext hs'.extBut hz
  have ne : ∀ j, j < σ.length → μ j ≠ cc := λ j hj e => by
   obtain ⟨ob, g1, _, g3⟩ := H.at hj
   obtain ⟨o, ho, hd⟩ := h2
   rw [e, ho] at g1; cases g1
   exact g3 _ hd
  obtain ⟨m, hn, hm⟩ := R.locals
  have EG : env.locals ≠ cc := by
   rintro rfl
   obtain ⟨o, ho, hd⟩ := h2
   obtain ⟨o', _, _, ho', hd'⟩ := Heap.Ns.obj hn
   rw [ho] at ho'; cases ho'
   rw [hd] at hd'; cases hd'
  refine c _ (H.ext hs'.extBut hz (R.LX _ hv _ hc h1) ne) ?_ ?_
  ·obtain ⟨o, ho, _⟩ := hc'
   refine ⟨λ b o e q => hs'.extBut b o (λ z => q (.inr (z ▸ own))) e, λ b o' e => ?_, λ _ _ => rfl, Nat.le_refl _, λ _ h1 h2 => absurd h2 (Nat.not_lt.mpr h1), rfl, rfl, rfl⟩
   by_cases hb : b = cc
   ·subst hb; exact ⟨_, ho⟩
   ·exact ⟨o', hs'.extBut b o' hb e⟩
  ·refine ⟨R.scope, R.kind, R.globals, R.builtins, ⟨m, hn.sameBut hs' EG, λ p hp hpl w hw => ?_⟩, λ p hp hpc => ?_, R.tQ, R.qZ, R.lo, R.LX⟩
   ·have hpk : p ≠ (i, k) := by rintro rfl; exact hl hpl
    rw [get p hp hpk] at hw
    obtain ⟨u', h1, h2⟩ := hm p hp hpl w hw
    exact ⟨u', h1, h2.mono kf (λ _ _ => rfl) (Nat.le_refl _)⟩
   ·by_cases hpk : p = (i, k)
    ·subst hpk
     exact ⟨cc, _, h1, hc', λ w hw => by rw [get'] at hw; cases hw; exact ⟨u, rfl, V.mono kf (λ _ _ => rfl) (Nat.le_refl _)⟩⟩
    ·obtain ⟨c2, x2, g1, g2, g3⟩ := R.cells p hp hpc
     have hne : c2 ≠ cc := λ z => hpk (R.tQ p hp _ hv cc hpc hc (z ▸ g1) h1)
     refine ⟨c2, x2, g1, g2.sameBut hs' hne, λ w hw => ?_⟩
     rw [get p hp hpk] at hw
     obtain ⟨u', e1, e2⟩ := g3 w hw
     exact ⟨u', e1, e2.mono kf (λ _ _ => rfl) (Nat.le_refl _)⟩
theorem eG.name {i k : Nat} {x : Str} {pos : Pos} (hx : Γ.nm k = x) (hv : (i, k) ∈ cx.vars) (O : aR Γ cx) (fn : cx.fn = true ∨ gF Γ cx k = some .local) : eG Γ d cx (.Name x pos) (XA.name i) := λ A env μ ρ σ s v u cJ σ' Q E r H R V e c => by
 subst hx
 unfold XA.name at e
 split at e <;> cases e
 rename_i hi
 exact wpAny_assign_Name (wQ hv O fn H R V hi λ s' H' S' R' => c μ s' H' S' R')
inductive dS (Γ : gT) (d : Nat) (cx : Cx) : List PySem.Expr → List XA → Prop
 | nil : dS Γ d cx [] []
 | cons {t : PySem.Expr} {ts : List PySem.Expr} {g : XA} {gs : List XA} : eG Γ d cx t g → (∀ env, assignEach (t :: ts) env = (false, assign t env) :: assignEach ts env) → dS Γ d cx ts gs → dS Γ d cx (t :: ts) (g :: gs)
noncomputable def XA.each : List XA → List V → Loc → St → Option (Loc × St)
 | [], [], ρ, σ => some (ρ, σ)
 | g :: gs, v :: vs, ρ, σ => (g v ρ σ).bind λ r => XA.each gs vs r.1 r.2
 | _, _, _, _ => none
noncomputable def XA.tup (gs : List XA) : XA := λ v ρ σ => match v with
 | .tup vs => XA.each gs vs ρ σ
 | _ => none
theorem dS.length {ts : List PySem.Expr} {gs : List XA} (h : dS Γ d cx ts gs) (env : Env) : (assignEach ts env).length = gs.length := by
 induction h with
 | nil => rfl
 | cons _ he _ ih => rw [he]; simp [ih]
theorem dS.star {ts : List PySem.Expr} {gs : List XA} (h : dS Γ d cx ts gs) (env : Env) : (assignEach ts env).findIdx? (·.1) = none := by
 induction h with
 | nil => rfl
 | cons _ he _ ih => rw [he]; simp [List.findIdx?_cons, ih]
theorem XA.AA {g : XA} {gs : List XA} {v : V} {vs : List V} {r : Loc × St} (e : XA.each (g :: gs) (v :: vs) ρ σ = some r) : E2 λ cJ σ' => g v ρ σ = some (cJ, σ') ∧ XA.each gs vs cJ σ' = some r := by
 obtain ⟨⟨cJ, σ'⟩, h, e⟩ := Option.bind_eq_some_iff.mp e
 exact ⟨cJ, σ', h, e⟩
theorem XA.xB {gs : List XA} : ∀ {vs : List V} {ρ : Loc} {σ : St} {r : Loc × St}, XA.each gs vs ρ σ = some r → gs.length = vs.length := by
 induction gs with
 | nil =>
  intro vs ρ σ r e
  cases vs with
  | nil => rfl
  | cons => cases e
 | cons g gs ih =>
  intro vs ρ σ r e
  cases vs with
  | nil => cases e
  | cons v vs =>
   obtain ⟨cJ, σ', _, e⟩ := XA.AA e
   exact congrArg (· + 1) (ih e)
theorem dS.run {ts : List PySem.Expr} {gs : List XA} (h : dS Γ d cx ts gs) : ∀ {A : Around} {env : Env} {μ : Nat → Addr} {ρ : Loc} {σ : St} {s : Shared} {vs : List V} {us : List Value} {cJ : Loc} {σ' : St} {Q : Unit → Shared → Prop} {E : Value → Shared → Prop},
  fX A d → aY Γ μ σ s.heap → dN Γ cx env μ σ.length ρ s.heap → VRs Γ μ σ.length s.heap vs us → XA.each gs vs ρ σ = some (cJ, σ') →
  (∀ dY s', aY Γ dY σ' s'.heap → Step (i9 Γ cx env μ σ.length) μ σ.length s dY σ'.length s' → dN Γ cx env dY σ'.length cJ s'.heap → Q () s') → wpAny Γ.M A (assignInOrder ((assignEach ts env).map (·.2)) us) Q E s := by
 induction h with
 | nil =>
  intro A env μ ρ σ s vs us cJ σ' Q E r H R V e c
  cases vs <;> cases e
  exact wpAny_pure (c μ s H .refl R)
 | cons hg he _ ih =>
  intro A env μ ρ σ s vs us cJ σ' Q E r H R V e c
  cases vs with
  | nil => cases e
  | cons v vs =>
   obtain ⟨u, us', rfl, a, b⟩ := V.xF
   ·obtain ⟨dA, σ₁, e1, e⟩ := XA.AA e
    rw [he env, List.map_cons]
    show wpAny _ _ (do holding _ (assign _ env _); assignInOrder _ _) _ _ _
    refine wpAny_bind (wpAny_holding (hg A env μ ρ σ s v _ dA σ₁ _ E r H R a e1 λ aJ s₁ H₁ S₁ iW => ?_))
    exact ih r H₁ iW (b.mono (S₁.LZ H R) S₁.agree S₁.le) e λ bA s₂ cP S₂ iV => c bA s₂ cP (S₁.fN S₂) iV
theorem eG.tup {ts : List PySem.Expr} {gs : List XA} {k : Nat} {pos : Pos} (h : dS Γ d cx ts gs) : eG Γ d cx (.Tuple ts k pos) (XA.tup gs) := λ A env μ ρ σ s v u cJ σ' Q E r H R V e c => by
 unfold XA.tup at e
 split at e
 case h_2 => cases e
 rename_i vs
 obtain ⟨_, _, _, rfl, ht, hs⟩ := V.tupI
 ·have hl := XA.xB e
  have hsl := hs.length.trans Array.length_toList
  refine PySem.wpAny_assign_Tuple r.handled ⟨_, ht, rfl, _, rfl⟩ ((h.length env).trans (hl.trans hsl)) (h.star env) λ h' x => ?_
  have kf : cL s.heap h' := .ext x λ o e => by rw [fC] at e; cases e
  have H' : aY Γ μ σ h' := H.ext x (λ o e => by rw [fC] at e; cases e) H.lE λ i hi => H.qB hi
  have T : Step (Own μ σ.length) μ σ.length s μ σ.length { s with heap := h' } := by
   have T0 : Step (Own μ σ.length) μ σ.length s μ σ.length s := .refl
   exact T0.ext (fC _) x s.toks
  exact h.run r H' (R.step H T) (hs.mono kf (λ _ _ => rfl) (Nat.le_refl _)) e λ bA s₂ cP S₂ iV => c bA s₂ cP (T.tT.fN S₂) iV
theorem aM.assign {t e : PySem.Expr} {pos : Pos} {f : X V} {g : XA} (hf : aC Γ d cx e f) (hg : eG Γ d cx t g) (hs : ∀ env : Env, env.scope = cx.sc → swapsWithSole [t] e pos.line env = pure false)
  (hw : ∀ env : Env, env.scope = cx.sc → swappedStores [t] e env = pure none) (ht : ∀ env, (assignEach [t] env).map (·.2) = [PySem.assign t env]) : aM Γ d cx (.Assign [t] e pos) (XS.assign f g) := λ A env μ ρ σ s fl cJ σ' Q E r H R e c => by
 unfold XS.assign at e
 split at e
 case h_2 => cases e
 rename_i v σ₁ e1
 split at e
 case h_2 => cases e
 rename_i pS σ₂ e2
 cases e
 rw [PyProof.Rows.exec_Assign]
 refine wpAny_bind (wpAny_standAt ?_)
 rw [hs env R.scope]
 refine wpAny_bind (wpAny_pure ?_)
 rw [if_neg (by decide)]
 refine wpAny_bind (hf A env μ ρ σ s v σ₁ _ E r H R e1 λ u aJ s₁ H₁ S₁ cQ => ?_)
 rw [hw env R.scope, ht env]
 refine wpAny_bind (wpAny_pure ?_)
 show wpAny _ _ (do assignAll u [PySem.assign t env]; pure .next) Q E s₁
 refine wpAny_bind (hg A env aJ ρ σ₁ s₁ v u cJ σ' _ E r H₁ (R.step H S₁) cQ e2 λ bA s₂ cP S₂ iV => ?_)
 exact wpAny_pure (c _ bA s₂ cP (S₁.tT.fN S₂) iV trivial)
theorem VRs.reverse {h : Heap} {vs : List V} {us : List Value} (x : VRs Γ μ n h vs us) : VRs Γ μ n h vs.reverse us.reverse := by
 induction vs generalizing us with
 | nil => cases x.Fi; exact .nil
 | cons v vs ih =>
  obtain ⟨u, us', rfl, a, b⟩ := x.xF
  rw [List.reverse_cons, List.reverse_cons]
  exact (ih b).append (.cons a .nil)
noncomputable def XA.swap (ids : List (Nat × Nat)) : XA := λ v ρ σ => match v with
 | .tup vs => XA.each (ids.reverse.map λ p => XA.name p.1) vs.reverse ρ σ
 | _ => none
theorem JK (O : aR Γ cx) {A : Around} {env : Env} {E : Value → Shared → Prop} : ∀ (ids : List (Nat × Nat)) (vs : List V) (us : List Value) (ρ cJ : Loc) (σ σ' : St) (μ : Nat → Addr) (s : Shared) (Q : Unit → Shared → Prop), (∀ p ∈ ids, p ∈ cx.vars) → (∀ p ∈ ids, cx.fn = true ∨ gF Γ cx p.2 = some .local) → aY Γ μ σ s.heap → dN Γ cx env μ σ.length ρ s.heap → VRs Γ μ σ.length s.heap vs us →
  XA.each (ids.map λ p => XA.name p.1) vs ρ σ = some (cJ, σ') → (∀ dY s', aY Γ dY σ' s'.heap → Step (i9 Γ cx env μ σ.length) μ σ.length s dY σ'.length s' → dN Γ cx env dY σ'.length cJ s'.heap → Q () s') →
  wpAny Γ.M A (assignInOrder (ids.map λ p => bindName env (Γ.nm p.2)) us) Q E s := by
 intro ids
 induction ids with
 | nil =>
  intro vs us ρ cJ σ σ' μ s Q _ _ H R V e c
  cases vs <;> cases e
  exact wpAny_pure (c μ s H .refl R)
 | cons p ids ih =>
  intro vs us ρ cJ σ σ' μ s Q hv fn H R V e c
  cases vs with
  | nil => cases e
  | cons v vs =>
   obtain ⟨_, us', rfl, a, b⟩ := V.xF
   ·rw [List.map_cons] at e
    obtain ⟨dA, σ₁, e1, e⟩ := XA.AA e
    unfold XA.name at e1
    split at e1 <;> cases e1
    rename_i hi
    refine wpAny_bind (wpAny_holding (wpAny_bindName (wQ (hv p (.head _)) O (fn p (.head _)) H R a hi λ s₁ H₁ S₁ iW => ?_)))
    exact ih vs _ _ cJ _ σ' μ s₁ _ (λ q hq => hv q (.tail _ hq)) (λ q hq => fn q (.tail _ hq)) H₁ iW (b.mono (S₁.LZ H R) (λ _ _ => rfl) (Nat.le_refl _)) e λ bA s₂ cP S₂ iV => c bA s₂ cP (S₁.fN S₂) iV
theorem aM.swap {ts : List PySem.Expr} {e : PySem.Expr} {k : Nat} {tpos pos : Pos} {f : X V} {ids : List (Nat × Nat)} (hf : aC Γ d cx e f) (O : aR Γ cx) (hv : ∀ p ∈ ids, p ∈ cx.vars) (fn : ∀ p ∈ ids, cx.fn = true ∨ gF Γ cx p.2 = some .local)
  (hs : ∀ env : Env, env.scope = cx.sc → swapsWithSole [.Tuple ts k tpos] e pos.line env = pure false)
  (hw : ∀ env : Env, env.scope = cx.sc → swappedStores [.Tuple ts k tpos] e env = pure (some (ids.map λ p => Γ.nm p.2))) :
  aM Γ d cx (.Assign [.Tuple ts k tpos] e pos) (XS.assign f (XA.swap ids)) := λ A env μ ρ σ s fl cJ σ' Q E r H R e c => by
 unfold XS.assign at e
 split at e
 case h_2 => cases e
 rename_i v σ₁ e1
 split at e
 case h_2 => cases e
 rename_i pS σ₂ e2
 cases e
 unfold XA.swap at e2
 split at e2
 case h_2 => cases e2
 rename_i vs
 refine PyProof.Rows.Assign_Tuple_swapped (names := ids.map λ p => Γ.nm p.2) (hf A env μ ρ σ s _ σ₁ _ E r H R e1 λ u aJ s₁ H₁ S₁ cQ => ?_) (hs env R.scope) (hw env R.scope)
 obtain ⟨a, items, kk, rfl, htu, hsu⟩ := cQ.tupI
 ·have hl := XA.xB e2
  have hsl := hsu.length.trans Array.length_toList
  have hlen : (ids.map λ p => Γ.nm p.2).length = items.size := by simpa using hl.trans (by simpa using hsl)
  rw [hlen]
  refine wpAny_unpackItems_tuple r.handled ⟨_, htu, rfl, _, rfl⟩ λ h' x => ?_
  have kf : cL s₁.heap h' := .ext x λ o e => by rw [fC] at e; cases e
  have H' : aY Γ aJ σ₁ h' := H₁.ext x (λ o e => by rw [fC] at e; cases e) H₁.lE λ i hi => H₁.qB hi
  have T : Step (Own aJ σ₁.length) aJ σ₁.length s₁ aJ σ₁.length { s₁ with heap := h' } := by
   have T0 : Step (Own aJ σ₁.length) aJ σ₁.length s₁ aJ σ₁.length s₁ := .refl
   exact T0.ext (fC _) x s₁.toks
  rw [← List.map_reverse, List.map_map]
  refine JK O ids.reverse vs.reverse items.toList.reverse ρ cJ σ₁ σ' aJ _ _ (λ p hp => hv p (List.mem_reverse.mp hp)) (λ p hp => fn p (List.mem_reverse.mp hp)) H' ((R.step H S₁).step H₁ T) (hsu.reverse.mono kf (λ _ _ => rfl) (Nat.le_refl _)) e2 λ bA s₂ cP S₂ iV => ?_
  exact c _ bA s₂ cP ((S₁.tT.fN T.tT).fN S₂) iV trivial
end
section
variable {Γ : gT} {cx : Cx} {d : Nat} {env : Env} {μ aJ bA : Nat → Addr} {n n₁ n₂ : Nat} {ρ : Loc} {s s₁ s₂ : Shared} {σ σ₁ : St}
structure Alike (s s' : Shared) : Prop where
 gens : s'.gens = s.gens
 drawn : s'.drawn = s.drawn
 os : s'.os = s.os
theorem Alike.refl : Alike s s := ⟨rfl, rfl, rfl⟩
noncomputable def jG (fp : List Addr) (h h' : Heap) : Prop := ∀ b o, b ∉ fp → h.get? b = some o → h'.get? b = some o
structure Iter (Γ : gT) (d : Nat) (tgt : PySem.Expr → Prop) (it : Addr) (fp : List Addr) (get : St → Nat → Option (Option V)) (IR : (Nat → Addr) → Nat → Heap → Nat → Prop) : Prop where
 keep : ∀ {μ : Nat → Addr} {n : Nat} {h : Heap} {dY : Nat → Addr} {n' : Nat} {h' : Heap} {k : Nat}, IR μ n h k → (∀ b ∈ fp, ∀ o, h.get? b = some o → h'.get? b = some o) → cL h h' → (∀ i, i < n → dY i = μ i) → n ≤ n' → IR dY n' h' k
 objs : ∀ {μ : Nat → Addr} {n : Nat} {h : Heap} {k : Nat}, IR μ n h k → ∀ b ∈ fp, Γ.h₀.get? b = none ∧ ∃ o vs, h.get? b = some o ∧ o.data = .fields vs ∧ fz o = false
 item : ∀ {A : Around} {μ : Nat → Addr} {σ : St} {s : Shared} {k : Nat} {v : V} {Q : Option Value → Shared → Prop} {E : Value → Shared → Prop}, fX A d → aY Γ μ σ s.heap → IR μ σ.length s.heap k → get σ k = some (some v) →
  (∀ u s₁, (∀ (target : PySem.Expr) (Hp : Unit → Shared → Prop) (E₂ : Value → Shared → Prop), tgt target → (∀ s₂, jG fp s.heap s₂.heap → Alike s s₂ → IR μ σ.length s₂.heap (k + 1) → VR Γ μ σ.length s₂.heap v u → Hp () s₂) →
   wpAny Γ.M A (letOwnedTupleGo target (.ref it) u) Hp E₂ s₁) → Q (some u) s₁) → wpAny Γ.M A (pyNext (.ref it)) Q E s
 stop : ∀ {A : Around} {μ : Nat → Addr} {σ : St} {s : Shared} {k : Nat} {Q : Option Value → Shared → Prop} {E : Value → Shared → Prop}, fX A d → aY Γ μ σ s.heap → IR μ σ.length s.heap k → get σ k = some none →
  (∀ s₁, jG fp s.heap s₁.heap → Alike s s₁ → Q none s₁) → wpAny Γ.M A (pyNext (.ref it)) Q E s
theorem OR.rJ {h : Heap} {a : Addr} {o : O} (x : OR Γ μ n h a o) {ob : Obj} (e : h.get? a = some ob) (vs : Array Value) : ob.data ≠ .fields vs := by
 cases o with
 | list l => obtain ⟨items, m, ho, _⟩ := x; rw [ho] at e; cases e; simp
 | bX l => obtain ⟨kvs, ⟨ob', es, ep, ho, hc, hd, _⟩, _⟩ := x; rw [ho] at e; cases e; simp [hd]
 | aW l => obtain ⟨kvs, ⟨ob', es, ep, ho, hc, hd, _⟩, _⟩ := x; rw [ho] at e; cases e; simp [hd]
theorem aY.rJ {h : Heap} (H : aY Γ μ σ h) {i : Nat} (hi : i < σ.length) {ob : Obj} (e : h.get? (μ i) = some ob) (vs : Array Value) : ob.data ≠ .fields vs :=
 (H.objs i σ[i] (by simp [hi])).rJ e vs
theorem aY.d7 {h h' : Heap} {fp : List Addr} (H : aY Γ μ σ h) (k : jG fp h h') (hf : ∀ b ∈ fp, Γ.h₀.get? b = none ∧ ∃ o vs, h.get? b = some o ∧ o.data = .fields vs ∧ fz o = false) : aY Γ μ σ h' := by
 have kf : cL h h' := λ a o e f => k a o (λ m => by obtain ⟨_, o', _, e', _, f'⟩ := hf a m; rw [e] at e'; cases e'; rw [f] at f'; cases f') e
 refine ⟨λ b o e => k b o (λ m => by rw [(hf b m).1] at e; cases e) (H.base b o e), λ i o e => ?_, H.inj, H.lo⟩
 have hi := (List.getElem?_eq_some_iff.mp e).1
 exact (H.objs i o e).mono (λ ob e' => k _ _ (λ m => by
  obtain ⟨_, o', vs, e2, d2, _⟩ := hf _ m
  rw [e'] at e2; cases e2
  exact H.rJ hi e' vs d2) e') kf (λ _ _ => rfl) (Nat.le_refl _)
theorem jG.fz {h h' : Heap} {fp : List Addr} (k : jG fp h h') (hf : ∀ b ∈ fp, Γ.h₀.get? b = none ∧ ∃ o vs, h.get? b = some o ∧ o.data = .fields vs ∧ fz o = false) : cL h h' :=
 λ a o e f => k a o (λ m => by obtain ⟨_, o', _, e', _, f'⟩ := hf a m; rw [e] at e'; cases e'; rw [f] at f'; cases f') e
theorem dN.d7 {h h' : Heap} {fp : List Addr} (R : dN Γ cx env μ n ρ h) (k : jG fp h h') (hf : ∀ b ∈ fp, Γ.h₀.get? b = none ∧ ∃ o vs, h.get? b = some o ∧ o.data = .fields vs ∧ fz o = false) : dN Γ cx env μ n ρ h' := by
 have kf := k.fz hf
 refine ⟨R.scope, R.kind, R.globals, R.builtins, ?_, λ p hp hk => ?_, R.tQ, R.qZ, R.lo, R.LX⟩
 ·obtain ⟨m, ⟨o, es, ep, ho, hd, r⟩, hm⟩ := R.locals
  refine ⟨m, ⟨o, es, ep, k _ _ (λ m => ?_) ho, hd, r⟩, λ p hp hk v hv => ?_⟩
  ·obtain ⟨_, o', vs, e2, d2, _⟩ := hf _ m
   rw [ho] at e2; cases e2; rw [hd] at d2; cases d2
  ·obtain ⟨u, h1, h2⟩ := hm p hp hk v hv
   exact ⟨u, h1, h2.mono kf (λ _ _ => rfl) (Nat.le_refl _)⟩
 ·obtain ⟨c, x, h1, ⟨o, ho, hd⟩, h3⟩ := R.cells p hp hk
  refine ⟨c, x, h1, ⟨o, k _ _ (λ m => ?_) ho, hd⟩, λ v hv => ?_⟩
  ·obtain ⟨_, o', vs, e2, d2, _⟩ := hf _ m
   rw [ho] at e2; cases e2; rw [hd] at d2; cases d2
  ·obtain ⟨u, e1, e2⟩ := h3 v hv
   exact ⟨u, e1, e2.mono kf (λ _ _ => rfl) (Nat.le_refl _)⟩
theorem Step.d7 {own : Addr → Prop} {fp : List Addr} (S : Step own μ n s aJ n₁ s₁) (hn : ∀ b ∈ fp, s.heap.get? b = none) (k : jG fp s₁.heap s₂.heap) (a : Alike s₁ s₂) : Step own μ n s aJ n₁ s₂ := by
 have ne : ∀ b o, s.heap.get? b = some o → b ∉ fp := λ b o e m => by rw [hn b m] at e; cases e
 exact ⟨λ b o e q => k b o (ne b o e) (S.uA b o e q), λ b o e => let ⟨o', e'⟩ := S.live b o e; ⟨o', k b o' (ne b o e) e'⟩, S.agree, S.le, S.fresh, a.gens.trans S.gens, a.drawn.trans S.drawn, a.os.trans S.os⟩
theorem Iter.step {tgt : PySem.Expr → Prop} {it : Addr} {fp : List Addr} {get : St → Nat → Option (Option V)} {IR : (Nat → Addr) → Nat → Heap → Nat → Prop} (I : Iter Γ d tgt it fp get IR) {k : Nat} (x : IR μ σ.length s.heap k) (H : aY Γ μ σ s.heap) (R : dN Γ cx env μ σ.length ρ s.heap)
  (S : Step (i9 Γ cx env μ σ.length) μ σ.length s aJ n₁ s₁) : IR aJ n₁ s₁.heap k := by
 refine I.keep x (λ b hb o e => S.uA b o e λ q => ?_) (S.LZ H R) S.agree S.le
 obtain ⟨_, o', vs, e', d', _⟩ := I.objs x b hb
 rw [e] at e'; cases e'
 rcases q with ⟨i, hi, rfl⟩ | rfl | ⟨_, p, hp, h1, h2⟩
 ·exact H.rJ hi e vs d'
 ·obtain ⟨m, hn, _⟩ := R.locals
  obtain ⟨o2, _, _, ho, hd⟩ := Heap.Ns.obj hn
  rw [ho] at e; cases e; rw [hd] at d'; cases d'
 ·obtain ⟨c, x, h3, ⟨o2, ho, hd⟩, _⟩ := R.cells p hp h1
  rw [h2] at h3; cases h3
  rw [ho] at e; cases e; rw [hd] at d'; cases d'
noncomputable def XS.uW (get : St → Nat → Option (Option V)) (a : XA) (g : XS) : Nat → Nat → XS
 | 0, _ => λ _ _ => none
 | n + 1, k => λ ρ σ => match get σ k with
  | none => none
  | some none => some (.next, ρ, σ)
  | some (some v) => match a v ρ σ with
   | none => none
   | some (dA, σ₁) => match g dA σ₁ with
    | some (.next, pS, σ₂) => XS.uW get a g n (k + 1) pS σ₂
    | r => r
inductive yV (get : St → Nat → Option (Option V)) (a : XA) (g : XS) (m k : Nat) (ρ : Loc) (σ : St) (cJ : Loc) (σ' : St) : Fl → Prop
 | stop : get σ k = some none → ρ = cJ → σ = σ' → yV get a g m k ρ σ cJ σ' .next
 | next {v : V} {dA pS : Loc} {σ₁ σ₂ : St} {fl : Fl} : get σ k = some (some v) → a v ρ σ = some (dA, σ₁) → g dA σ₁ = some (.next, pS, σ₂) → XS.uW get a g m (k + 1) pS σ₂ = some (fl, cJ, σ') → yV get a g m k ρ σ cJ σ' fl
 | ret {v w : V} {dA : Loc} {σ₁ : St} : get σ k = some (some v) → a v ρ σ = some (dA, σ₁) → g dA σ₁ = some (.ret w, cJ, σ') → yV get a g m k ρ σ cJ σ' (.ret w)
theorem IN {get : St → Nat → Option (Option V)} {a : XA} {g : XS} {m k : Nat} {ρ : Loc} {σ : St} {fl : Fl} {cJ : Loc} {σ' : St} (e : XS.uW get a g (m + 1) k ρ σ = some (fl, cJ, σ')) : yV get a g m k ρ σ cJ σ' fl := by
 unfold XS.uW at e
 split at e
 ·cases e
 ·cases e; exact .stop (by assumption) rfl rfl
 ·split at e
  ·cases e
  split at e
  ·exact .next (by assumption) (by assumption) (by assumption) e
  ·rename_i hne
   cases fl with
   | next => exact absurd e (hne _ _)
   | ret v => exact .ret (by assumption) (by assumption) e
inductive PC (Γ : gT) (cx : Cx) (env : Env) (kA : Nat → Addr) (n₀ : Nat) (s₀ : Shared) (IR : (Nat → Addr) → Nat → Heap → Nat → Prop) (get : St → Nat → Option (Option V)) (a : XA) (g : XS) (fl : Fl) (cJ : Loc) (σ' : St) (m : Nat) (s₁ : Shared) (k : Nat) (aJ : Nat → Addr) (dA : Loc) (σ₁ : St) : Prop
 | intro (H : aY Γ aJ σ₁ s₁.heap) (S : Step (i9 Γ cx env kA n₀) kA n₀ s₀ aJ σ₁.length s₁) (R : dN Γ cx env aJ σ₁.length dA s₁.heap) (x : IR aJ σ₁.length s₁.heap k) (e : XS.uW get a g m k dA σ₁ = some (fl, cJ, σ'))
theorem B4 {tgt : PySem.Expr → Prop} {it : Addr} {fp : List Addr} {get : St → Nat → Option (Option V)} {IR : (Nat → Addr) → Nat → Heap → Nat → Prop} (I : Iter Γ d tgt it fp get IR) {t : PySem.Expr} {b : List Stmt} {a : XA} {g : XS} {A : Around} {cJ : Loc} {σ' : St} {fl : Fl} {R' : Result → Shared → Prop}
  (ht : tgt t) (ha : eG Γ d cx t a) (hg : aE Γ d cx b g) (r : fX A d) (s₀ : Shared) (kA : Nat → Addr) (n₀ : Nat) (hfp : ∀ b ∈ fp, s₀.heap.get? b = none) (fuel : Nat) (k : Nat)
  (S : Step (i9 Γ cx env kA n₀) kA n₀ s₀ μ σ.length s) (H : aY Γ μ σ s.heap) (R : dN Γ cx env μ σ.length ρ s.heap) (x : IR μ σ.length s.heap k) (e : XS.uW get a g fuel k ρ σ = some (fl, cJ, σ'))
  (c : ∀ w dY s', aY Γ dY σ' s'.heap → Step (i9 Γ cx env kA n₀) kA n₀ s₀ dY σ'.length s' → dN Γ cx env dY σ'.length cJ s'.heap → MH Γ dY σ'.length s'.heap fl w → R' (.ok w) s') :
  codeAny Γ.M A (.forLoop t (.ref it) b [] env) R' s := by
 refine codeAny_forLoop_any (λ m s₁ => E4 (PC Γ cx env kA n₀ s₀ IR get a g fl cJ σ' m s₁)) ?_ fuel ⟨k, μ, ρ, σ, H, S, R, x, e⟩
 rintro m s₁ ⟨k, aJ, dA, σ₁, H₁, S₁, iW, x₁, e⟩
 cases m with
 | zero => cases e
 | succ m =>
  have hf := I.objs x₁
  cases IN e with
  | stop hget e2 e3 =>
   subst e2 e3
   exact I.stop r H₁ x₁ hget λ s₂ kb al => wpAny_execs_nil (c _ aJ s₂ (H₁.d7 kb hf) (S₁.d7 hfp kb al) (iW.d7 kb hf) trivial)
  | next hget e1 e2 e =>
   refine I.item r H₁ x₁ hget λ u s₂ Fr => Fr t _ _ ht λ s₃ kb al x₃ V₃ => ?_
   have gG := H₁.d7 kb hf
   have r7 := iW.d7 kb hf
   refine ha A env aJ dA σ₁ s₃ _ u _ _ _ _ r gG r7 V₃ e1 λ pT s₄ oE mN R₄ => hg A env pT _ _ s₄ _ _ _ _ _ r oE R₄ e2 λ w o9 s₅ yK jZ R₅ FM => ?_
   cases FM.Ig
   exact ⟨m, Nat.lt_succ_self m, ⟨k + 1, o9, _, _, yK, ((S₁.d7 hfp kb al).fN mN).fN jZ, R₅, I.step (I.step x₃ gG r7 mN) oE R₄ jZ, e⟩⟩
  | ret hget e1 e2 =>
   refine I.item r H₁ x₁ hget λ u s₂ Fr => Fr t _ _ ht λ s₃ kb al x₃ V₃ => ?_
   refine ha A env aJ dA σ₁ s₃ _ u _ _ _ _ r (H₁.d7 kb hf) (iW.d7 kb hf) V₃ e1 λ pT s₄ oE mN R₄ => hg A env pT _ _ s₄ _ _ _ _ _ r oE R₄ e2 λ w o9 s₅ yK jZ R₅ FM => ?_
   obtain ⟨u', rfl, FM⟩ := FM.LE
   exact c _ o9 s₅ yK (((S₁.d7 hfp kb al).fN mN).fN jZ) R₅ FM
noncomputable def gV (v : V) (σ : St) (k : Nat) : Option (Option V) := match v with
 | .tup l => some l[k]?
 | .obj i => (getL σ i).map λ l => l[k]?
 | .range a b => if -(2 ^ 40) ≤ a ∧ b ≤ 2 ^ 40 ∧ a ≤ 2 ^ 40 ∧ -(2 ^ 40) ≤ b then some (if a + k < b then some (.int (a + k)) else none) else none
 | _ => none
inductive Gy (Γ : gT) (it : Addr) (μ : Nat → Addr) (n : Nat) (h : Heap) (k : Nat) : V → Prop
 | tup {l : List V} {t : Addr} {items : Array Value} {kk : Nat} (ht : IsT h t items kk) (hs : VRs Γ μ n h l items.toList) (hi : h.IsTupleIter it t k) : Gy Γ it μ n h k (.tup l)
 | obj {i : Nat} (hi : i < n) (hl : h.IsListIter it (μ i) k) : Gy Γ it μ n h k (.obj i)
 | range {a b left : Int} (hi : IsRangeIter h it (a + k) left 1) (hl : left = b - (a + k) ∨ (left ≤ 0 ∧ b ≤ a + k)) : Gy Γ it μ n h k (.range a b)
noncomputable def r9 (Γ : gT) (v : V) (it : Addr) (μ : Nat → Addr) (n : Nat) (h : Heap) (k : Nat) : Prop := Γ.h₀.get? it = none ∧ Gy Γ it μ n h k v
theorem pU {h : Heap} {it t : Addr} {k : Nat} (x : h.IsTupleIter it t k) : ∃ o vs, h.get? it = some o ∧ o.data = .fields vs ∧ fz o = false := by
 obtain ⟨o, ho, hc, hd⟩ := x
 exact ⟨o, _, ho, hd, by unfold fz; rw [hd, hc]; rfl⟩
theorem oQ {h : Heap} {it t : Addr} {k : Nat} (x : h.IsListIter it t k) : ∃ o vs, h.get? it = some o ∧ o.data = .fields vs ∧ fz o = false := by
 obtain ⟨o, ho, hc, hd⟩ := x
 exact ⟨o, _, ho, hd, by unfold fz; rw [hd, hc]; rfl⟩
theorem K7 {h h' : Heap} {it : Addr} (x : ∃ o vs, h.get? it = some o ∧ o.data = .fields vs ∧ fz o = false) (hs : Heap.ExtBut it h h') : cL h h' := .ext hs λ o e => by
 obtain ⟨o', _, e', _, z⟩ := x
 rw [e'] at e; cases e; exact z
theorem l9 {A : Around} {E : Value → Shared → Prop} {Q : Unit → Shared → Prop} {t : PySem.Expr} {it : Addr} {o : Obj} {n : String} {vs : Array Value} {u : Value} (ho : s.heap.get? it = some o) (hc : o.cls = .type n) (hd : o.data = .fields vs)
  (hn : ["enumerate", "zip", "dict_itemiterator", "dict_reverseitemiterator", "odict_iterator", "itertools.zip_longest", "itertools.pairwise"].contains n = false) (h : Q () s) : wpAny Γ.M A (letOwnedTupleGo t (.ref it) u) Q E s := by
 have go : wpAny Γ.M A (do
   let (.ref r, .ref a) := (Value.ref it, u) | return
   let o ← load r
   match o.cls, o.data with
   | .type n, .fields vs =>
    if ["enumerate", "zip", "dict_itemiterator", "dict_reverseitemiterator", "odict_iterator", "itertools.zip_longest", "itertools.pairwise"].contains n && vs[0]? == some (rawInt a) then
     rule "for.unpacks-the-owned-tuple"
     updateField r 0 .none
   | _, _ => pure ()) Q E s := by
  cases u <;> first | exact wpAny_pure h | skip
  refine wpAny_bind (wpAny_load ho ?_)
  rw [hc, hd]
  show wpAny _ _ (if (_ && _) = true then _ else _) _ _ _
  rw [hn, Bool.false_and, if_neg (by decide)]
  exact wpAny_pure h
 cases t <;> first | exact wpAny_pure h | exact go
theorem VRs.none {h : Heap} {l : List V} {items : Array Value} {k : Nat} (hs : VRs Γ μ n h l items.toList) (e : l[k]? = none) : items[k]? = none := by
 rw [Array.getElem?_eq_none_iff, ← Array.length_toList, ← hs.length]; exact List.getElem?_eq_none_iff.mp e
theorem range_pos {a b left k : Int} (hl : left = b - (a + k) ∨ (left ≤ 0 ∧ b ≤ a + k)) (h : a + k < b) : 0 < left := by
 rcases hl with rfl | ⟨_, hl⟩
 ·exact Int.sub_pos_of_lt h
 ·exact absurd h (Int.not_lt.mpr hl)
theorem EV {a b left k : Int} (hl : left = b - (a + k) ∨ (left ≤ 0 ∧ b ≤ a + k)) (h : ¬ a + k < b) : left ≤ 0 := by
 rcases hl with rfl | ⟨hl, _⟩
 ·exact Int.sub_nonpos_of_le (Int.not_lt.mp h)
 ·exact hl
theorem tV (v : V) (it : Addr) : Iter Γ d (λ _ => True) it [it] (gV v) (r9 Γ v it) where
 keep := λ {μ n h dY n' h' k} ⟨x1, x⟩ hk kf hμ hn => by
  have hk := hk it (.head _)
  refine ⟨x1, ?_⟩
  cases x with
  | tup ht hs hi => exact .tup (kf _ _ ht rfl) (hs.mono kf hμ hn) (hi.at hk)
  | obj hi hl => exact .obj (Nat.lt_of_lt_of_le hi hn) (hμ _ hi ▸ hl.at hk)
  | range hi hl => exact .range (hk _ hi) hl
 objs := λ {μ n h k} ⟨x1, x⟩ b hb => by
  cases List.mem_singleton.mp hb
  refine ⟨x1, ?_⟩
  cases x with
  | tup ht hs hi => exact pU hi
  | obj hi hl => exact oQ hl
  | range hi hl => exact ⟨_, _, hi, rfl, rfl⟩
 item := λ {A μ σ s k v' Q E} r H ⟨hb, x⟩ e c => by
  have kb : ∀ h', Heap.SameBut it s.heap h' → jG [it] s.heap h' := λ h' hs b o hb e => hs.extBut b o (λ z => hb (by rw [z]; exact .head _)) e
  cases x with
  | tup ht hs hi =>
   obtain ⟨u, hu, hv⟩ := hs.get (Option.some.inj e)
   rw [Array.getElem?_toList] at hu
   refine PySem.wpAny_pyNext_tuple_item hi ⟨_, ht, rfl, _, rfl⟩ hu λ h' hi' hs' => c u _ λ target Hp E₂ _ q => ?_
   obtain ⟨o, ho, hc, hd⟩ := id hi'
   have kf := K7 (pU hi) hs'.extBut
   exact l9 ho hc hd (by decide) (q _ (kb _ hs') ⟨rfl, rfl, rfl⟩ ⟨hb, .tup (kf _ _ ht rfl) (hs.mono kf (λ _ _ => rfl) (Nat.le_refl _)) hi'⟩ (hv.mono kf (λ _ _ => rfl) (Nat.le_refl _)))
  | obj hi hit =>
   obtain ⟨l, hl, e⟩ := Option.map_eq_some_iff.mp e
   obtain ⟨_, items, kk, hL, hs⟩ := H.list hl
   obtain ⟨u, hu, hv⟩ := hs.get e
   rw [Array.getElem?_toList] at hu
   refine wpAny_pyNext_list_item hit hL.isList hu λ h' hi' hs' => c u _ λ target Hp E₂ _ q => ?_
   obtain ⟨o, ho, hc, hd⟩ := id hi'
   exact l9 ho hc hd (by decide) (q _ (kb _ hs') ⟨rfl, rfl, rfl⟩ ⟨hb, .obj hi hi'⟩ (hv.mono (K7 (oQ hit) hs'.extBut) (λ _ _ => rfl) (Nat.le_refl _)))
  | @range a b left hi hl =>
   obtain ⟨_, e⟩ := cK e
   obtain ⟨hlt, e⟩ := cK (Option.some.inj e)
   cases e
   refine PySem.wpAny_pyNext_range_item hi (range_pos hl hlt) λ h' hi' hs' => c _ _ λ target Hp E₂ _ q => l9 hi' rfl rfl (by decide) (q _ (kb _ hs') ⟨rfl, rfl, rfl⟩ ⟨hb, .range (left := left - 1) ?_ ?_⟩ (.int _ _))
   ·rw [show a + ((k + 1 : Nat) : Int) = a + (k : Int) + 1 from (Int.add_assoc a k 1).symm]; exact hi'
   ·lia
 stop := λ {A μ σ s k Q E} r H ⟨hb, x⟩ e c => by
  have kb : ∀ h', Heap.ExtBut it s.heap h' → jG [it] s.heap h' := λ h' hs b o hb e => hs b o (λ z => hb (by rw [z]; exact .head _)) e
  cases x with
  | tup ht hs hi => exact PySem.wpAny_pyNext_tuple_end r.handled hi ⟨_, ht, rfl, _, rfl⟩ (hs.none (Option.some.inj e)) λ h' hs' => c _ (kb _ hs') ⟨rfl, rfl, rfl⟩
  | obj hi hit =>
   obtain ⟨l, hl', e⟩ := Option.map_eq_some_iff.mp e
   obtain ⟨_, items, kk, hL, hs⟩ := H.list hl'
   exact wpAny_pyNext_list_end r.handled hit hL.isList (hs.none e) λ h' hs' => c _ (kb _ hs') ⟨rfl, rfl, rfl⟩
  | range hi hl =>
   obtain ⟨_, e⟩ := cK e
   replace e := Kg (Option.some.inj e)
   exact PySem.wpAny_pyNext_range_end r.handled hi (EV hl e) λ h' hs' => c _ (kb _ hs') ⟨rfl, rfl, rfl⟩
theorem tD {v : V} {u : Value} {A : Around} {Q : Value → Shared → Prop} {E : Value → Shared → Prop} {k : Nat} {o : Option V} (H : aY Γ μ σ s.heap) (V : VR Γ μ σ.length s.heap v u) (e : gV v σ k = some o)
  (c : ∀ ob, r9 Γ v s.heap.objs.size μ σ.length (s.heap.push ob) 0 → Q (.ref s.heap.objs.size) { s with heap := s.heap.push ob }) : wpAny Γ.M A (pyIter u) Q E s := by
 cases v with
 | tup _ =>
  obtain ⟨_, _, _, rfl, ht, hs⟩ := V.tupI
  exact PySem.wpAny_pyIter_tuple ⟨_, ht, rfl, _, rfl⟩ (c _ ⟨H.lE, .tup (Heap.get?_push_of_some _ ht) (hs.mono (.push _ _) (λ _ _ => rfl) (Nat.le_refl _)) ⟨_, Heap.get?_push_size _ rfl, rfl, rfl⟩⟩)
 | obj _ =>
  cases V.kE.1
  obtain ⟨l, hl', e⟩ := Option.map_eq_some_iff.mp e
  obtain ⟨hi, items, kk, hL, hs⟩ := H.list hl'
  exact wpAny_pyIter_list hL.isList (c _ ⟨H.lE, .obj hi ⟨_, Heap.get?_push_size _ rfl, rfl, rfl⟩⟩)
 | range x y =>
  obtain ⟨hb, e⟩ := cK e
  obtain ⟨_, tt, uu, vv, rfl, hr⟩ := V.HN
  refine PySem.wpAny_pyIter_range hr (small_one (Int.le_trans (by decide) hb.1) (Int.lt_of_le_of_lt hb.2.2.1 (by decide)) (Int.le_trans (by decide) hb.2.2.2) (Int.lt_of_le_of_lt hb.2.1 (by decide))) (c _ ⟨H.lE, .range (left := Builtin.Range.rangeSize x y 1) ?_ ?_⟩)
  ·rw [show x + ((0 : Nat) : Int) = x from Int.add_zero x]; exact Heap.get?_push_size _ rfl
  ·rw [rangeSize_one]; split <;> lia
 | _ => exact nS e
noncomputable def XS.for (f : X V) (a : XA) (g : XS) (fuel : Nat) : XS := λ ρ σ => match f ρ σ with
 | some (v, σ₁) => XS.uW (gV v) a g fuel 0 ρ σ₁
 | none => none
theorem Ec {get : St → Nat → Option (Option V)} {a : XA} {g : XS} {fuel k : Nat} {r : Fl × Loc × St} (e : XS.uW get a g fuel k ρ σ = some r) : ∃ o, get σ k = some o := by
 cases fuel with
 | zero => cases e
 | succ n =>
  unfold XS.uW at e
  split at e
  ·cases e
  ·exact ⟨_, by assumption⟩
  ·exact ⟨_, by assumption⟩
theorem aM.for {t e : PySem.Expr} {b : List Stmt} {pos : Pos} {f : X V} {a : XA} {g : XS} (fuel : Nat) (hf : aC Γ d cx e f) (ha : eG Γ d cx t a) (hg : aE Γ d cx b g) (hs : ∀ env x, foldedSetIterable e env x = pure x) :
  aM Γ d cx (.For t e b [] pos) (XS.for f a g fuel) := λ A env μ ρ σ s fl cJ σ' Q E r H R e' c => by
 unfold XS.for at e'
 split at e'
 case h_2 => cases e'
 rename_i v σ₁ e1
 obtain ⟨o, ho⟩ := Ec e'
 refine wpAny_For (hf A env μ ρ σ s v σ₁ _ E r H R e1 λ u aJ s₁ H₁ S₁ cQ => ?_) (hs env)
 refine tD H₁ cQ ho λ ob x => ?_
 have T : Step (Own aJ σ₁.length) aJ σ₁.length s₁ aJ σ₁.length { s₁ with heap := s₁.heap.push ob } := .push _
 have S₂ := S₁.tT (Γ := Γ) (cx := cx) (env := env) |>.fN T.tT
 refine B4 (tV v _) trivial ha hg r s μ σ.length (λ b hb => ?_) fuel 0 S₂ (H₁.push ob) ((R.step H S₁).step H₁ T) x e' λ w dY s' H' S' R' V' => c w dY s' H' S' R' V'
 rw [List.mem_singleton] at hb; subst hb
 cases q : s.heap.get? s₁.heap.objs.size with
 | none => rfl
 | some o => obtain ⟨o', e'⟩ := S₁.live _ _ q; exact absurd (Heap.lt_size e') (Nat.lt_irrefl _)
end
section
variable {Γ : gT} {cx cy : Cx} {d : Nat} {env : Env} {μ aJ bA : Nat → Addr} {n n₁ n₂ : Nat} {ρ : Loc} {s s₁ s₂ : Shared} {σ σ₁ : St}
theorem tU {v : V} {it : Addr} {A : Around} {k : Nat} {Q : Value → Shared → Prop} {E : Value → Shared → Prop} (x : r9 Γ v it μ n s.heap k) (h : Q (.ref it) s) : wpAny Γ.M A (pyIter (.ref it)) Q E s := by
 obtain ⟨_, x⟩ := x
 cases x with
 | tup _ _ hi => exact PySem.wpAny_pyIter_tupleiter hi h
 | obj _ hl => exact PySem.wpAny_pyIter_listiter hl h
 | range hi _ => exact PySem.wpAny_pyIter_rangeiter hi h
noncomputable abbrev XC := Nat → Loc → St → Option (Loc × St)
noncomputable def wK (Γ : gT) (d : Nat) (cx : Cx) (t : Env → Value → Sem Unit) (g : XC) : Prop :=
 ∀ (A : Around) (env : Env) (μ : Nat → Addr) (ρ : Loc) (σ : St) (s : Shared) (j : Nat) (cJ : Loc) (σ' : St) (Q : Unit → Shared → Prop) (E : Value → Shared → Prop),
  fX A d → aY Γ μ σ s.heap → dN Γ cx env μ σ.length ρ s.heap → j < σ.length → g j ρ σ = some (cJ, σ') →
  (∀ dY s', aY Γ dY σ' s'.heap → Step (i9 Γ cx env μ σ.length) μ σ.length s dY σ'.length s' → dN Γ cx env dY σ'.length cJ s'.heap → Q () s') → wpAny Γ.M A (t env (.ref (μ j))) Q E s
noncomputable def XC.emit (f : X V) : XC := λ j ρ σ => match f ρ σ with
 | some (v, σ₁) => match getL σ₁ j with
  | some l => if l.length ≤ 100000 then some (ρ, σ₁.set j (.list (l ++ [v]))) else none
  | none => none
 | none => none
noncomputable def XC.uZ (f g : X V) : XC := λ j ρ σ => match f ρ σ with
 | some (.int k, σ₁) => match g ρ σ₁ with
  | some (v, σ₂) => match eJ σ₂ j with
   | some l => if l.length ≤ 100000 then some (ρ, σ₂.set j (.bX (fF l k v))) else none
   | none => none
  | none => none
 | _ => none
theorem I6 {f : X V} {j : Nat} {cJ : Loc} {σ' : St} (e : XC.emit f j ρ σ = some (cJ, σ')) : E3 λ v σ₁ l => A5 (f ρ σ = some (v, σ₁)) (getL σ₁ j = some l) (l.length ≤ 100000) (ρ = cJ) (σ₁.set j (.list (l ++ [v])) = σ') := by
 unfold XC.emit at e
 split at e
 case h_2 => cases e
 split at e
 case h_2 => cases e
 split at e <;> cases e
 exact ⟨_, _, _, by assumption, by assumption, by assumption, rfl, rfl⟩
theorem Hj {f g : X V} {j : Nat} {cJ : Loc} {σ' : St} (e : XC.uZ f g j ρ σ = some (cJ, σ')) : E5 λ k σ₁ v σ₂ l => A6 (f ρ σ = some (.int k, σ₁)) (g ρ σ₁ = some (v, σ₂)) (eJ σ₂ j = some l) (l.length ≤ 100000) (ρ = cJ) (σ₂.set j (.bX (fF l k v)) = σ') := by
 unfold XC.uZ at e
 cases e1 : f ρ σ with
 | none => rw [e1] at e; exact nS e
 | some q =>
 obtain ⟨v, σ₁⟩ := q
 rw [e1] at e
 cases v with
 | int k =>
 dsimp only at e
 split at e
 case h_2 => cases e
 split at e
 case h_2 => cases e
 split at e <;> cases e
 exact ⟨_, _, _, _, _, rfl, by assumption, by assumption, by assumption, rfl, rfl⟩
 | _ => exact nS e
theorem vN {A : Around} {E : Value → Shared → Prop} {Q : Value → Shared → Prop} {j : Nat} {l : List V} {v : V} {u : Value} (H : aY Γ μ σ s.heap) (hl : getL σ j = some l) (hlen : l.length ≤ 100000) (V : VR Γ μ σ.length s.heap v u)
  (c : ∀ h', aY Γ μ (σ.set j (.list (l ++ [v]))) h' → Step (Own μ σ.length) μ σ.length s μ σ.length { s with heap := h' } → Q .none { s with heap := h' }) :
  wpAny Γ.M A (call (.builtin "list.append") [.ref (μ j), u]) Q E s := by
 obtain ⟨hj, items, k, hL, hs⟩ := H.list hl
 have hsl := hs.length
 simp only [Array.length_toList] at hsl
 have eT : typeLookup (.type "list") "append" = pure (some (.builtin "list.append")) := slot_list_append.lookup
 refine wpAny_call_entry slot_list_append hL.isList.typeIs entry_list_append ?_ (args_list_append _ _)
 show wpAny _ _ (updateSeq (μ j) (·.push u) >>= λ _ => ret .none) _ _ s
 refine wpAny_bind (wpAny_updateSeq hL rfl ?_ (by rw [sizeLine_eq]; lia) (by rw [Array.size_push, sizeLine_eq]; lia))
 have same : Heap.SameBut (μ j) s.heap (s.heap.update (μ j) (Obj.mapSeq (·.push u))) := Heap.SameBut.update ..
 have hL' := hL.update (·.push u)
 refine wpAny_pure ⟨.none, rfl, c _ (H.set hj same λ kf => ⟨_, _, hL', ?_⟩) (Step.set ⟨j, hj, rfl⟩ same ⟨_, hL'⟩ s.toks)⟩
 rw [Array.toList_push]
 exact (hs.append (.cons V .nil)).mono kf (λ _ _ => rfl) (Nat.le_refl _)
theorem dN.own (R : dN Γ cx env μ σ.length ρ s.heap) (H : aY Γ μ σ s.heap) {s' : Shared} (S : Step (Own μ σ.length) μ σ.length s μ σ.length s') : dN Γ cx env μ σ.length ρ s'.heap := R.step H S
theorem wK.emit {e : PySem.Expr} {f : X V} (hf : aC Γ d cx e f) : wK Γ d cx (λ env acc => do let _ ← call (.builtin "list.append") [acc, ← eval e env]) (XC.emit f) := λ A env μ ρ σ s j cJ σ' Q E r H R hj e c => by
 refine byC λ hG => ?_
 obtain ⟨v, σ₁, l, e1, hl, hlen, rfl, rfl⟩ := I6 e
 have e0 : (σ₁.set j (O.list (l ++ [v]))).length = σ₁.length := List.length_set ..
 refine hG (wpAny_bind (hf A env μ ρ σ s v σ₁ _ E r H R e1 λ u aJ s₁ H₁ S₁ cQ => ?_))
 clear hG
 rw [← S₁.agree j hj]
 exact wpAny_bind (vN H₁ hl hlen cQ λ h' H' S' => wpAny_pure (c aJ _ H' (e0.symm ▸ (S₁.then S').tT) (e0.symm ▸ (R.step H S₁).own H₁ S')))
theorem wK.uZ {ke ve : PySem.Expr} {f g : X V} {p : Pos} (hf : aC Γ d cx ke f) (hg : aC Γ d cx ve g) : wK Γ d cx (λ env acc => do
  let kv ← eval ke env
  let vv ← holding [kv] (eval ve env)
  match acc with
  | .ref d => do
   standAt p
   holding [kv, vv] (dictSet d kv vv)
  | _ => unsupported "internal:dictcomp") (XC.uZ f g) := λ A env μ ρ σ s j cJ σ' Q E r H R hj e c => by
 refine byC λ hG => ?_
 obtain ⟨k, σ₁, v, σ₂, l, e1, e2, hl, hlen, rfl, rfl⟩ := Hj e
 have e0 : (σ₂.set j (O.bX (fF l k v))).length = σ₂.length := List.length_set ..
 refine hG (wpAny_bind (hf A env μ ρ σ s _ σ₁ _ E r H R e1 λ u aJ s₁ H₁ S₁ cQ => ?_))
 clear hG
 obtain ⟨_, rfl⟩ := cQ.gA
 have iW := R.step H S₁
 refine wpAny_bind (wpAny_holding (hg A env aJ ρ σ₁ s₁ v σ₂ _ E r H₁ iW e2 λ w bA s₂ cP S₂ eZ => ?_))
 have S := S₁.then S₂
 rw [← S.agree j hj]
 obtain ⟨hi, kvs, hd, hr⟩ := cP.bX hl
 refine wpAny_bind (wpAny_standAt (wpAny_holding (wpAny_dictSet_pairs (intKind_is _ _ _ _) hd (λ h' hd' hs' => ?_) (by rw [hr.length, sizeLine_eq]; lia))))
 have T : Step (Own bA σ₂.length) bA σ₂.length s₂ bA σ₂.length { s₂ with heap := h', toks := s₂.toks + 1 } := Step.set ⟨j, hi, rfl⟩ hs' (let ⟨o, _, _, ho, _⟩ := hd'; ⟨o, ho⟩) _
 have q := hr.set k eZ
 exact c bA _ (cP.set hi hs' λ kf => ⟨_, hd', q.1, q.2.mono kf (λ _ _ => rfl) (Nat.le_refl _)⟩) (e0.symm ▸ (S.then T).tT) (e0.symm ▸ (iW.step H₁ S₂).own cP T)
noncomputable def kD (t iter : PySem.Expr) (ifs : List PySem.Expr) (it : Value) (env : Env) (emit : Sem Unit) (ag : Code) : Sem Fin := do
 standAt iter.pos
 match ← pyNext it with
 | none => pure (.done .next)
 | some v =>
  letOwnedTupleGo t it v
  assign t env v
  let mut ok := true
  for c in ifs do
   if ok then ok ← isTrue c env (eval c env)
  if ok then
   emit
  again ag
noncomputable def XC.test (t : Option (X Bool)) : X Bool := λ ρ σ => match t with
 | none => some (true, σ)
 | some t => t ρ σ
noncomputable def XC.loop (get : St → Nat → Option (Option V)) (a : XA) (t : Option (X Bool)) (g : XC) : Nat → Nat → XC
 | 0, _ => λ _ _ _ => none
 | n + 1, k => λ j ρ σ => match get σ k with
  | none => none
  | some none => some (ρ, σ)
  | some (some v) => match a v ρ σ with
   | none => none
   | some (dA, σ₁) => match XC.test t dA σ₁ with
    | none => none
    | some (false, σ₂) => XC.loop get a t g n (k + 1) j dA σ₂
    | some (true, σ₂) => match g j dA σ₂ with
     | none => none
     | some (Hs, j9) => XC.loop get a t g n (k + 1) j Hs j9
inductive mO (Γ : gT) (d : Nat) (cx : Cx) : List PySem.Expr → Option (X Bool) → Prop
 | nil : mO Γ d cx [] none
 | one {c : PySem.Expr} {t : X Bool} : bK Γ d cx c t → mO Γ d cx [c] (some t)
theorem BX {ifs : List PySem.Expr} {t : Option (X Bool)} (h : mO Γ d cx ifs t) {A : Around} {Q : Bool → Shared → Prop} {E : Value → Shared → Prop} {b : Bool} (r : fX A d) (H : aY Γ μ σ s.heap) (R : dN Γ cx env μ σ.length ρ s.heap)
  (e : XC.test t ρ σ = some (b, σ₁)) (c : ∀ dY s', aY Γ dY σ₁ s'.heap → Step (Own μ σ.length) μ σ.length s dY σ₁.length s' → Q b s') :
  wpAny Γ.M A (forIn ifs true λ c r => if r = true then do let ok ← isTrue c env (eval c env); pure (ForInStep.yield ok) else pure (ForInStep.yield r)) Q E s := by
 cases h with
 | nil => cases e; exact wpAny_tests_nil (c μ s H .refl)
 | one h => exact wpAny_tests_one (h A env μ ρ σ s b σ₁ _ E r H R e c)
theorem Step.DT (S : Step (Own μ n) μ n s aJ n₁ s₁) (b : Addr) (h : s₁.heap.get? b = none) : s.heap.get? b = none := by
 cases q : s.heap.get? b with
 | none => rfl
 | some o => obtain ⟨o', e⟩ := S.live _ _ q; rw [e] at h; cases h
inductive LoopStep (get : St → Nat → Option (Option V)) (a : XA) (t : Option (X Bool)) (g : XC) (m k j : Nat) (ρ : Loc) (σ : St) (cJ : Loc) (σ' : St) : Prop
 | stop : get σ k = some none → ρ = cJ → σ = σ' → LoopStep get a t g m k j ρ σ cJ σ'
 | skip {v : V} {dA : Loc} {σ₁ σ₂ : St} : get σ k = some (some v) → a v ρ σ = some (dA, σ₁) → XC.test t dA σ₁ = some (false, σ₂) → XC.loop get a t g m (k + 1) j dA σ₂ = some (cJ, σ') → LoopStep get a t g m k j ρ σ cJ σ'
 | put {v : V} {dA pS : Loc} {σ₁ σ₂ j9 : St} : get σ k = some (some v) → a v ρ σ = some (dA, σ₁) → XC.test t dA σ₁ = some (true, σ₂) → g j dA σ₂ = some (pS, j9) → XC.loop get a t g m (k + 1) j pS j9 = some (cJ, σ') → LoopStep get a t g m k j ρ σ cJ σ'
theorem Il {get : St → Nat → Option (Option V)} {a : XA} {t : Option (X Bool)} {g : XC} {m k j : Nat} {cJ : Loc} {σ' : St} (e : XC.loop get a t g (m + 1) k j ρ σ = some (cJ, σ')) : LoopStep get a t g m k j ρ σ cJ σ' := by
 unfold XC.loop at e
 split at e
 ·cases e
 ·cases e; exact .stop (by assumption) rfl rfl
 ·split at e
  ·cases e
  split at e
  ·cases e
  ·exact .skip (by assumption) (by assumption) (by assumption) e
  ·split at e
   ·cases e
   exact .put (by assumption) (by assumption) (by assumption) (by assumption) e
inductive Of (Γ : gT) (cx : Cx) (env : Env) (kA : Nat → Addr) (n₀ : Nat) (s₀ : Shared) (v : V) (it acc : Addr) (a : XA) (tt : Option (X Bool)) (g : XC) (j : Nat) (cJ : Loc) (σ' : St) (m : Nat) (s₁ : Shared) (k : Nat) (aJ : Nat → Addr) (dA : Loc) (σ₁ : St) : Prop
 | intro (H : aY Γ aJ σ₁ s₁.heap) (S : Step (i9 Γ cx env kA n₀) kA n₀ s₀ aJ σ₁.length s₁) (R : dN Γ cx env aJ σ₁.length dA s₁.heap) (x : r9 Γ v it aJ σ₁.length s₁.heap k) (hj : j < σ₁.length) (hacc : aJ j = acc) (e : XC.loop (gV v) a tt g m k j dA σ₁ = some (cJ, σ'))
theorem Al {e : PySem.Expr} {dep : Nat} {it : Addr} {v : V} {t iter : PySem.Expr} {ifs : List PySem.Expr} {emit : Env → Value → Sem Unit} {a : XA} {tt : Option (X Bool)} {g : XC} {A : Around} {j : Nat} {cJ : Loc} {σ' : St} {R' : Result → Shared → Prop}
  (hu : ∀ (A : Around) it acc env, A.under (.compLoop e dep it acc env) = A) (hden : ∀ it acc env, denote table (.compLoop e dep it acc env) = (compTurn e dep it acc env).onRaise (λ x => do noteFrame x env; theTreesLotGoes x)) (htree : ∀ it acc env, compTurn e dep it acc env = kD t iter ifs it env (emit env acc) (.compLoop e dep it acc env))
  (ha : eG Γ d cx t a) (hi : mO Γ d cx ifs tt) (hg : wK Γ d cx emit g) (r : fX A d) (s₀ : Shared) (kA : Nat → Addr) (n₀ : Nat) (acc : Addr) (hj : j < σ.length) (hacc : μ j = acc) (hfp : s₀.heap.get? it = none) (fuel : Nat) (k : Nat)
  (S : Step (i9 Γ cx env kA n₀) kA n₀ s₀ μ σ.length s) (H : aY Γ μ σ s.heap) (R : dN Γ cx env μ σ.length ρ s.heap) (x : r9 Γ v it μ σ.length s.heap k) (ee : XC.loop (gV v) a tt g fuel k j ρ σ = some (cJ, σ'))
  (c : ∀ dY s', aY Γ dY σ' s'.heap → Step (i9 Γ cx env kA n₀) kA n₀ s₀ dY σ'.length s' → dN Γ cx env dY σ'.length cJ s'.heap → j < σ'.length → dY j = acc → R' (.ok .next) s') :
  codeAny Γ.M A (.compLoop e dep (.ref it) (.ref acc) env) R' s := by
 have I := tV (Γ := Γ) (d := d) v it
 have Mg : ∀ b ∈ [it], s₀.heap.get? b = none := λ b hb => by rw [List.mem_singleton.mp hb]; exact hfp
 refine codeAny_loop rfl (λ m s₁ => E4 (Of Γ cx env kA n₀ s₀ v it acc a tt g j cJ σ' m s₁)) ?_ fuel ⟨k, μ, ρ, σ, H, S, R, x, hj, hacc, ee⟩
 rintro m s₁ ⟨k, aJ, dA, σ₁, H₁, S₁, iW, x₁, hj, hacc, e₁⟩
 rw [hu]
 show wpAny _ A (denote table (.compLoop e dep (.ref it) (.ref acc) env)) _ _ s₁
 rw [hden]
 refine wpAny_noted ?_
 rw [htree]
 unfold kD
 refine wpAny_bind (wpAny_standAt (wpAny_bind ?_))
 cases m with
 | zero => cases e₁
 | succ m =>
  have hf := I.objs x₁
  cases Il e₁ with
  | stop hget e2 e3 =>
   subst e2 e3
   exact I.stop r H₁ x₁ hget λ s₂ kb al => wpAny_pure (c aJ s₂ (H₁.d7 kb hf) (S₁.d7 Mg kb al) (iW.d7 kb hf) hj hacc)
  | skip hget e2 e3 e₁ =>
   refine I.item r H₁ x₁ hget λ u s₂ Fr => wpAny_bind (Fr t _ _ trivial λ s₃ kb al x₃ V₃ => ?_)
   have gG := H₁.d7 kb hf
   have r7 := iW.d7 kb hf
   refine wpAny_bind (ha A env aJ dA σ₁ s₃ _ u _ _ _ _ r gG r7 V₃ e2 λ pT s₄ oE mN R₄ => wpAny_bind (BX hi r oE R₄ e3 λ o9 s₅ yK jZ => ?_))
   rw [if_neg (by decide)]
   exact wpAny_pure ⟨rfl, m, Nat.lt_succ_self m, ⟨k + 1, o9, _, _, yK, ((S₁.d7 Mg kb al).fN mN).fN jZ.tT, R₄.step oE jZ, I.step (I.step x₃ gG r7 mN) oE R₄ jZ.tT, Nat.lt_of_lt_of_le hj (Nat.le_trans mN.le jZ.le), (jZ.agree j (Nat.lt_of_lt_of_le hj mN.le)).trans ((mN.agree j hj).trans hacc), e₁⟩⟩
  | put hget e2 e3 e4 e₁ =>
   refine I.item r H₁ x₁ hget λ u s₂ Fr => wpAny_bind (Fr t _ _ trivial λ s₃ kb al x₃ V₃ => ?_)
   have gG := H₁.d7 kb hf
   have r7 := iW.d7 kb hf
   refine wpAny_bind (ha A env aJ dA σ₁ s₃ _ u _ _ _ _ r gG r7 V₃ e2 λ pT s₄ oE mN R₄ => wpAny_bind (BX hi r oE R₄ e3 λ o9 s₅ yK jZ => ?_))
   have R₅ := R₄.step oE jZ
   have D3 := Nat.lt_of_lt_of_le hj (Nat.le_trans mN.le jZ.le)
   have CY := (jZ.agree j (Nat.lt_of_lt_of_le hj mN.le)).trans ((mN.agree j hj).trans hacc)
   rw [if_pos rfl, ← CY]
   exact wpAny_bind (hg A env o9 _ _ s₅ j _ _ _ _ r yK R₅ D3 e4 λ MP s₇ PB KB Pt => wpAny_pure ⟨rfl, m, Nat.lt_succ_self m, ⟨k + 1, MP, _, _, PB, (((S₁.d7 Mg kb al).fN mN).fN jZ.tT).fN KB, Pt, I.step (I.step (I.step x₃ gG r7 mN) oE R₄ jZ.tT) yK R₅ KB, Nat.lt_of_lt_of_le D3 KB.le, KB.agree j D3, e₁⟩⟩)
theorem pV {elt t iter : PySem.Expr} {ifs : List PySem.Expr} {rest : List Comprehension} {sc : Scope} {pos : Pos} {it : Addr} {acc : Value} {A : Around} {R' : Result → Shared → Prop} {v : V} {k : Nat} (x : r9 Γ v it μ n s.heap k)
  (h : codeAny Γ.M A (.compLoop (.ListComp elt (⟨t, iter, ifs, 0⟩ :: rest) sc pos) 0 (.ref it) acc env) R' s) : codeAny Γ.M A (.compStart (.ListComp elt (⟨t, iter, ifs, 0⟩ :: rest) sc pos) 0 (.ref it) acc env) R' s :=
 codeAny_compStart_list h (tU x h)
theorem Cy {elt t iter t2 fJ : PySem.Expr} {ifs oS : List PySem.Expr} {sc : Scope} {pos : Pos} {it : Addr} {acc : Value} {A : Around} {R' : Result → Shared → Prop} {v : V} {k : Nat} (x : r9 Γ v it μ n s.heap k)
  (h : codeAny Γ.M A (.compLoop (.ListComp elt [⟨t, iter, ifs, 0⟩, ⟨t2, fJ, oS, 0⟩] sc pos) 1 (.ref it) acc env) R' s) : codeAny Γ.M A (.compStart (.ListComp elt [⟨t, iter, ifs, 0⟩, ⟨t2, fJ, oS, 0⟩] sc pos) 1 (.ref it) acc env) R' s := by
 refine codeAny_of_tree ?_
 show wpAny _ _ ((compStart (.ListComp elt [⟨t, iter, ifs, 0⟩, ⟨t2, fJ, oS, 0⟩] sc pos) 1 (.ref it) acc env).onRaise (λ x => do noteFrame x env; standAt theWindowsPlace)) _ _ s
 refine wpAny_notedAt ?_
 unfold compStart
 show wpAny _ _ (ask >>= _) _ _ s
 refine wpAny_bind (wpAny_askSetting (wpAny_ite ?_))
 split
 ·first
   | exact wpAny_bind (wpAny_pure (wpAny_pure (And.intro rfl h)))
   | exact wpAny_pure (And.intro rfl h)
 ·first
   | exact wpAny_bind (wpAny_rule (wpAny_bind (wpAny_standAt (wpAny_bind (tU x (wpAny_pure (And.intro rfl h)))))))
   | (refine wpAny_bind (wpAny_rule ?_); show wpAny _ _ (standAt fJ.pos >>= _) _ _ s; exact wpAny_bind (wpAny_standAt (wpAny_bind (tU x (wpAny_pure (And.intro rfl h))))))
theorem Cw {ke ve t iter : PySem.Expr} {ifs : List PySem.Expr} {rest : List Comprehension} {sc : Scope} {pos : Pos} {it : Addr} {acc : Value} {A : Around} {R' : Result → Shared → Prop} {v : V} {k : Nat} (x : r9 Γ v it μ n s.heap k)
  (h : codeAny Γ.M A (.compLoop (.DictComp ke ve (⟨t, iter, ifs, 0⟩ :: rest) sc pos) 0 (.ref it) acc env) R' s) : codeAny Γ.M A (.compStart (.DictComp ke ve (⟨t, iter, ifs, 0⟩ :: rest) sc pos) 0 (.ref it) acc env) R' s :=
 codeAny_compStart_dict h (tU x h)
theorem KH (elt t iter : PySem.Expr) (ifs : List PySem.Expr) (sc : Scope) (pos : Pos) (it acc : Value) (env : Env) :
 compTurn (.ListComp elt [⟨t, iter, ifs, 0⟩] sc pos) 0 it acc env = kD t iter ifs it env (do let _ ← call (.builtin "list.append") [acc, ← eval elt env]) (.compLoop (.ListComp elt [⟨t, iter, ifs, 0⟩] sc pos) 0 it acc env) := by rfl
theorem MX (ke ve t iter : PySem.Expr) (ifs : List PySem.Expr) (sc : Scope) (pos : Pos) (it acc : Value) (env : Env) :
 compTurn (.DictComp ke ve [⟨t, iter, ifs, 0⟩] sc pos) 0 it acc env = kD t iter ifs it env (do
  let kv ← eval ke env
  let vv ← holding [kv] (eval ve env)
  match acc with
  | .ref d => do
   standAt { ke.pos with endLine := ve.pos.endLine, endCol := ve.pos.endCol }
   holding [kv, vv] (dictSet d kv vv)
  | _ => unsupported "internal:dictcomp") (.compLoop (.DictComp ke ve [⟨t, iter, ifs, 0⟩] sc pos) 0 it acc env) := by rfl
theorem Lv (elt t iter t2 fJ : PySem.Expr) (ifs oS : List PySem.Expr) (sc : Scope) (pos : Pos) (it acc : Value) (env : Env) :
  compTurn (.ListComp elt [⟨t, iter, ifs, 0⟩, ⟨t2, fJ, oS, 0⟩] sc pos) 0 it acc env = kD t iter ifs it env (do
   let x ← eval fJ env
   standAt fJ.pos
   let x ← foldedSetIterable fJ env x
   let _ ← runOwn (.compStart (.ListComp elt [⟨t, iter, ifs, 0⟩, ⟨t2, fJ, oS, 0⟩] sc pos) 1 (← holding [x] (pyIter x)) acc env) env) (.compLoop (.ListComp elt [⟨t, iter, ifs, 0⟩, ⟨t2, fJ, oS, 0⟩] sc pos) 0 it acc env) := by
 unfold kD
 simp only [bind_assoc, pure_bind]
 rfl
theorem Lu (elt t iter t2 fJ : PySem.Expr) (ifs oS : List PySem.Expr) (sc : Scope) (pos : Pos) (it acc : Value) (env : Env) :
 compTurn (.ListComp elt [⟨t, iter, ifs, 0⟩, ⟨t2, fJ, oS, 0⟩] sc pos) 1 it acc env = kD t2 fJ oS it env (do let _ ← call (.builtin "list.append") [acc, ← eval elt env]) (.compLoop (.ListComp elt [⟨t, iter, ifs, 0⟩, ⟨t2, fJ, oS, 0⟩] sc pos) 1 it acc env) := by rfl
theorem Im {get : St → Nat → Option (Option V)} {a : XA} {t : Option (X Bool)} {g : XC} {fuel k j : Nat} {r : Loc × St} (e : XC.loop get a t g fuel k j ρ σ = some r) : ∃ o, get σ k = some o := by
 cases fuel with
 | zero => cases e
 | succ n =>
  unfold XC.loop at e
  split at e
  ·cases e
  ·exact ⟨_, by assumption⟩
  ·exact ⟨_, by assumption⟩
noncomputable def XC.nest (f : X V) (a : XA) (t : Option (X Bool)) (g : XC) (fuel : Nat) : XC := λ j ρ σ => match f ρ σ with
 | some (v, σ₁) => XC.loop (gV v) a t g fuel 0 j ρ σ₁
 | none => none
theorem wK.nest {elt t iter t2 fJ : PySem.Expr} {ifs oS : List PySem.Expr} {sc : Scope} {pos : Pos} {f fe : X V} {a : XA} {tt : Option (X Bool)} (fuel : Nat) (hf : aC Γ d cx fJ f) (ha : eG Γ d cx t2 a) (hi : mO Γ d cx oS tt) (he : aC Γ d cx elt fe)
  (hs : ∀ env x, foldedSetIterable fJ env x = pure x) :
  wK Γ d cx (λ env acc => do
   let x ← eval fJ env
   standAt fJ.pos
   let x ← foldedSetIterable fJ env x
   let _ ← runOwn (.compStart (.ListComp elt [⟨t, iter, ifs, 0⟩, ⟨t2, fJ, oS, 0⟩] sc pos) 1 (← holding [x] (pyIter x)) acc env) env) (XC.nest f a tt (XC.emit fe) fuel) := λ A env μ ρ σ s j cJ σ' Q E r H R hj e c => by
 unfold XC.nest at e
 split at e
 case h_2 => cases e
 rename_i v σ₁ e1
 obtain ⟨o, ho⟩ := Im e
 refine wpAny_bind (hf A env μ ρ σ s v σ₁ _ E r H R e1 λ u aJ s₁ H₁ S₁ cQ => wpAny_bind (wpAny_standAt (wpAny_bind (wpAny_of_eq (hs env u) (wpAny_bind (wpAny_holding (tD H₁ cQ ho λ ob x => ?_)))))))
 have T : Step (Own aJ σ₁.length) aJ σ₁.length s₁ aJ σ₁.length { s₁ with heap := s₁.heap.push ob } := .push _
 have S₂ := S₁.then T
 refine wpAny_bind (wpAny_runOwn (Cy x ?_))
 rw [← S₂.agree j hj]
 have e0 := S₂.agree j hj
 have hA : A.mark none = A := rfl
 refine Al (λ _ _ _ _ => rfl) (λ _ _ _ => rfl) (Lu elt t iter t2 fJ ifs oS sc pos) ha hi (wK.emit he) r s₁ aJ σ₁.length _ (Nat.lt_of_lt_of_le hj S₁.le) rfl (fC _) fuel 0 T.tT (H₁.push ob) ((R.step H S₁).step H₁ T) x e λ dY s' H' S' R' _ _ => ?_
 exact wpAny_pure (c dY s' H' (S₁.tT.fN S') R')
end
section
variable {locs : List Nat} {Γ : gT} {cx cy : Cx} {d : Nat} {env : Env} {μ aJ bA : Nat → Addr} {n n₁ n₂ : Nat} {ρ : Loc} {s s₁ s₂ : Shared} {σ σ₁ : St}
noncomputable def Ln (l : List Nat) (ρ : Loc) : Loc := l.foldl (λ ρ i => ρ.set i none) ρ
theorem C8 : ∀ (l : List Nat) (ρ : Loc) (i : Nat) (v : V), (Ln l ρ)[i]? = some (some v) → i ∉ l ∧ ρ[i]? = some (some v)
 | [], _, _, _, e => ⟨by simp, e⟩
 | a :: l, ρ, i, v, e => by
  obtain ⟨h1, h2⟩ := C8 l (ρ.set a none) i v e
  by_cases h : a = i
  ·subst h
   rw [List.getElem?_set] at h2
   simp at h2
  ·rw [List.getElem?_set_ne h] at h2
   exact ⟨by simp [h1]; exact λ z => h z.symm, h2⟩
noncomputable def xG (env : Env) : List (Str × NameKind) → List (Str × Addr) → List (Str × Addr)
 | [], acc => acc
 | (n, k) :: r, acc => xG env r (if k == .free then (n, (env.cells.lookup n).getD 0) :: acc else acc)
theorem Kw : ∀ (names : List (Str × NameKind)) (acc : List (Str × Addr)), (∀ p ∈ names, p.2 = .free → (env.cells.lookup p.1).isSome = true) →
  (forIn names acc λ (p : Str × NameKind) cs => if p.2 == .free then (do let a ← cellOf env p.1; Pure.pure (ForInStep.yield ((p.1, a) :: cs))) else (Pure.pure (ForInStep.yield cs) : Sem (ForInStep (List (Str × Addr))))) = Pure.pure (xG env names acc) := by
 intro names
 induction names with
 | nil => intro acc _; rw [List.forIn_nil]; rfl
 | cons q r ih =>
  intro acc h
  obtain ⟨n, k⟩ := q
  rw [List.forIn_cons]
  replace ih := λ acc => ih acc λ p hp => h p (.tail _ hp)
  unfold xG
  by_cases hk : k = .free
  ·subst hk
   obtain ⟨a, ha⟩ := Option.isSome_iff_exists.mp (h (n, .free) (.head _) rfl)
   simp only [beq_self_eq_true, if_true]
   unfold cellOf
   rw [ha]
   simp only [pure_bind, Option.getD_some]
   exact ih _
  ·have : (k == NameKind.free) = false := by simpa using hk
   simp only [this, Bool.false_eq_true, if_false, pure_bind]
   exact ih _
theorem Bx {scope : Scope} (h : ∀ p ∈ scope.names, p.2 = .free → (env.cells.lookup p.1).isSome = true) : closureFor scope env = pure (xG env scope.names []) := by
 have := Kw (env := env) scope.names [] h
 unfold closureFor
 rw [← this]
 show (_ >>= λ r => Pure.pure r) = _
 rw [bind_pure]
theorem lJ : ∀ (names : List (Str × NameKind)) (acc : List (Str × Addr)) (x : Str), (∀ p ∈ names, p.2 = .free → (env.cells.lookup p.1).isSome = true) →
  ((x, NameKind.free) ∈ names ∨ acc.lookup x = env.cells.lookup x) → (xG env names acc).lookup x = env.cells.lookup x := by
 intro names
 induction names with
 | nil =>
  intro acc x _ h
  rcases h with h | h
  ·cases h
  ·exact h
 | cons q r ih =>
  intro acc x hs h
  obtain ⟨n, k⟩ := q
  unfold xG
  refine ih _ x (λ p hp => hs p (.tail _ hp)) ?_
  by_cases hk : k = .free
  ·subst hk
   simp only [beq_self_eq_true, if_true]
   by_cases hx : x = n
   ·subst hx
    obtain ⟨a, ha⟩ := Option.isSome_iff_exists.mp (hs (x, .free) (.head _) rfl)
    exact .inr (by simp [ha])
   ·have hx' : (x == n) = false := by simpa using hx
    rcases h with h | h
    ·rcases List.mem_cons.mp h with q | q
     ·cases q; exact absurd rfl hx
     ·exact .inl q
    ·exact .inr (by rw [List.lookup_cons, hx']; exact h)
  ·have : (k == NameKind.free) = false := by simpa using hk
   simp only [this, Bool.false_eq_true, if_false]
   rcases h with h | h
   ·rcases List.mem_cons.mp h with q | q
    ·cases q; exact absurd rfl hk
    ·exact .inl q
   ·exact .inr h
noncomputable def t9 (cx : Cx) (scope : Scope) : Scope := { scope with names := scope.names.map λ (n, k) => if (k == .free && cx.sc.kind == .function && cx.sc.names.lookup n == some .cell) then (n, .cell) else (n, k) }
theorem HM (R : dN Γ cx env μ n ρ s.heap) (scope : Scope) : relabel scope env = t9 cx scope := by
 unfold relabel t9 Env.kindOf
 rw [R.scope]
structure fV (Γ : gT) (cx cy : Cx) (scope : Scope) (locs : List Nat) : Prop where
 sc : cy.sc = t9 cx scope
 kind : scope.kind = .function
 fn : cy.fn = false
 ok : aR Γ cy
 own : ∀ p ∈ cy.vars, gF Γ cy p.2 = some .local → p.1 ∈ locs
 up : ∀ p ∈ cy.vars, gF Γ cy p.2 = some .cell → p ∈ cx.vars ∧ gF Γ cx p.2 = some .cell ∧ (Γ.nm p.2, NameKind.free) ∈ scope.names
 free : ∀ q ∈ scope.names, q.2 = .free → ∃ p ∈ cx.vars, Γ.nm p.2 = q.1 ∧ gF Γ cx p.2 = some .cell
 LO : ∀ x ∈ scope.names, x.2 ≠ .cell
 locals : ∀ x ∈ scope.names, x.2 = .local → scope.names.lookup x.1 = some .local
theorem fV.cells (K : fV Γ cx cy scope locs) (R : dN Γ cx env μ n ρ s.heap) : ∀ p ∈ scope.names, p.2 = .free → (env.cells.lookup p.1).isSome = true := λ q hq hf => by
 obtain ⟨p, hp, hn, hk⟩ := K.free q hq hf
 rw [← R.kindOf] at hk
 obtain ⟨c, x, h1, _⟩ := R.cells p hp hk
 rw [← hn, h1]; rfl
theorem fV.enter {scope : Scope} {locs : List Nat} (K : fV Γ cx cy scope locs) (R : dN Γ cx env μ σ.length ρ s.heap) (H : aY Γ μ σ s.heap) {h' : Heap} {t : Nat} (hn : h'.Ns s.heap.objs.size (λ _ => none))
  (hs : Heap.SameBut s.heap.objs.size (s.heap.push { cls := .type "dict", data := .dict #[] }) h') :
  let env' : Env := { newEnv scope s.heap.objs.size env.globals (xG env scope.names []) env.qual none .none (some env) env.builtins with scope := relabel scope env }
  aY Γ μ σ h' ∧ Step (Own μ σ.length) μ σ.length s μ σ.length { s with heap := h', toks := t } ∧ dN Γ cy env' μ σ.length (Ln locs ρ) h' := by
 intro env'
 have ext : Heap.ExtBut s.heap.objs.size s.heap h' := λ b o hb e => hs.extBut b o hb (Heap.get?_push_of_some _ e)
 have hz : ∀ o, s.heap.get? s.heap.objs.size = some o → fz o = false := λ o e => by rw [fC] at e; cases e
 have kf : cL s.heap h' := .ext ext hz
 have T0 : Step (Own μ σ.length) μ σ.length s μ σ.length s := .refl
 refine ⟨H.ext ext hz H.lE λ i hi => H.qB hi, T0.ext (fC _) ext t, ?_⟩
 have esc : env'.scope = cy.sc := (HM R scope).trans K.sc.symm
 have ek : ∀ k, env'.kindOf (Γ.nm k) = gF Γ cy k := λ k => by unfold Env.kindOf gF; rw [esc]
 refine ⟨esc, ?_, R.globals, R.builtins, ⟨_, hn, λ p hp hk v hv => ?_⟩, λ p hp hk => ?_, λ p hp q hq c h1 h2 h3 h4 => ?_, λ i hi => H.qB hi, H.lE, λ p hp c h1 h2 => ?_⟩
 ·rw [K.sc]; exact K.kind
 ·rw [ek] at hk
  exact absurd (K.own p hp hk) (C8 _ _ _ _ hv).1
 ·rw [ek] at hk
  obtain ⟨u1, u2, u3⟩ := K.up p hp hk
  rw [← R.kindOf] at u2
  obtain ⟨c, x, g1, g2, g3⟩ := R.cells p u1 u2
  refine ⟨c, x, (lJ scope.names [] _ (K.cells R) (.inl u3)).trans g1, ?_, λ v hv => ?_⟩
  ·obtain ⟨o, ho, hd⟩ := g2
   exact ⟨o, ext _ _ (Nat.ne_of_lt (Heap.lt_size ho)) ho, hd⟩
  ·obtain ⟨u, e1, e2⟩ := g3 v (C8 _ _ _ _ hv).2
   exact ⟨u, e1, e2.mono kf (λ _ _ => rfl) (Nat.le_refl _)⟩
 ·rw [ek] at h1 h2
  obtain ⟨u1, u2, u3⟩ := K.up p hp h1
  obtain ⟨w1, w2, w3⟩ := K.up q hq h2
  have g1 := (lJ scope.names [] _ (K.cells R) (.inl u3)).symm.trans h3
  have g2 := (lJ scope.names [] _ (K.cells R) (.inl w3)).symm.trans h4
  rw [← R.kindOf] at u2 w2
  exact R.tQ p u1 q w1 c u2 w2 g1 g2
 ·rw [ek] at h1
  obtain ⟨u1, u2, u3⟩ := K.up p hp h1
  have g1 := (lJ scope.names [] _ (K.cells R) (.inl u3)).symm.trans h2
  rw [← R.kindOf] at u2
  exact R.LX p u1 c u2 g1
theorem i9.sub (hfn : cy.fn = false) {env' : Env} {b : Addr} (x : i9 Γ cy env' μ n b) : Own μ n b ∨ b = env'.locals := by
 rcases x with x | rfl | ⟨h, _⟩
 ·exact .inl x
 ·exact .inr rfl
 ·rw [hfn] at h; cases h
noncomputable def X.comp (locs : List Nat) (f : X V) (new : O) (a : XA) (t : Option (X Bool)) (g : XC) (fuel : Nat) : X V := λ ρ σ => match f ρ σ with
 | some (v, σ₁) => match gV v σ₁ 0 with
  | none => none
  | some _ => match XC.loop (gV v) a t g fuel 0 σ₁.length (Ln locs ρ) (σ₁ ++ [new]) with
   | some (_, σ₂) => some (.obj σ₁.length, σ₂)
   | none => none
 | none => none
theorem oZ {e : PySem.Expr} {scope : Scope} {locs : List Nat} {pos : Pos} {newAcc : Sem Value} {new : O} {first : Sem Value} {ge : Comprehension} {Qg : List Comprehension} {f : X V} {emit : Env → Value → Sem Unit} {t iter : PySem.Expr} {ifs : List PySem.Expr} {a : XA} {tt : Option (X Bool)} {g : XC} {fuel : Nat}
  {A : Around} {E : Value → Shared → Prop} {use : Option (Value → Sem Unit)} {Q : Value → Shared → Prop} {v : V} {σ' : St}
  (hcl : clausesOf e = ge :: Qg) (hs : ∀ env x, foldedSetIterable ge.iter env x = pure x) (K : fV Γ cx cy scope locs)
  (hu : ∀ (A : Around) it acc env, A.under (.compLoop e 0 it acc env) = A) (hden : ∀ it acc env, denote table (.compLoop e 0 it acc env) = (compTurn e 0 it acc env).onRaise (λ x => do noteFrame x env; theTreesLotGoes x))
  (htree : ∀ it acc env, compTurn e 0 it acc env = kD t iter ifs it env (emit env acc) (.compLoop e 0 it acc env))
  (hstart : ∀ {μ : Nat → Addr} {n : Nat} {s : Shared} {it : Addr} {acc : Value} {A : Around} {env : Env} {R' : Result → Shared → Prop} {v : V} {k : Nat}, r9 Γ v it μ n s.heap k → codeAny Γ.M A (.compLoop e 0 (.ref it) acc env) R' s → codeAny Γ.M A (.compStart e 0 (.ref it) acc env) R' s)
  (hnew : ∀ {A : Around} {E : Value → Shared → Prop} {Q : Value → Shared → Prop} {s : Shared} {μ : Nat → Addr} {σ : St}, aY Γ μ σ s.heap → (∀ ob, aY Γ (fD μ σ.length s.heap.objs.size) (σ ++ [new]) (s.heap.push ob) → Q (.ref s.heap.objs.size) { s with heap := s.heap.push ob }) → wpAny Γ.M A newAcc Q E s)
  (hf : ∀ (A : Around) (μ : Nat → Addr) (ρ : Loc) (σ : St) (s : Shared) (v : V) (σ' : St) (Q : Value → Shared → Prop) (E : Value → Shared → Prop),
   fX A d → aY Γ μ σ s.heap → dN Γ cx env μ σ.length ρ s.heap → f ρ σ = some (v, σ') → Cont Γ μ σ s v σ' Q → wpAny Γ.M A first Q E s)
  (ha : eG Γ d cy t a) (hi : mO Γ d cy ifs tt) (hg : wK Γ d cy emit g) (r : fX A d) (H : aY Γ μ σ s.heap) (R : dN Γ cx env μ σ.length ρ s.heap) (ee : X.comp locs f new a tt g fuel ρ σ = some (v, σ'))
  (c : ∀ u dY s' C, aY Γ dY σ' s'.heap → Step (Own μ σ.length) μ σ.length s dY σ'.length s' → VR Γ dY σ'.length s'.heap v u → Γ.h₀.get? C = none → (∀ i, i < σ'.length → dY i ≠ C) → s.heap.get? C = none → (∃ m, s'.heap.Ns C m) →
   compPost Γ.M A E use Q u C (.ok .next) s') :
  wpAny Γ.M A (comprehension e scope env pos newAcc false first use) Q E s := by
 unfold X.comp at ee
 split at ee
 case h_2 => cases ee
 rename_i w σ₁ e1
 split at ee
 case h_1 => cases ee
 rename_i o ho
 split at ee
 case h_2 => cases ee
 rename_i pS σ₂ e2
 cases ee
 refine wpAny_comprehension_free hcl (hs env) (Bx (K.cells R)) K.kind K.locals ?_
 refine hf A μ ρ σ s w σ₁ _ E r H R e1 λ u aJ s₁ H₁ S₁ cQ => ?_
 refine tD H₁ cQ ho λ ob x => ?_
 have T₁ : Step (Own aJ σ₁.length) aJ σ₁.length s₁ aJ σ₁.length { s₁ with heap := s₁.heap.push ob } := .push _
 have cP : aY Γ aJ σ₁ ({ s₁ with heap := s₁.heap.push ob } : Shared).heap := H₁.push ob
 have iV := (R.step H S₁).step H₁ T₁
 have S₂ := S₁.then T₁
 generalize hs2 : ({ s₁ with heap := s₁.heap.push ob } : Shared) = s₂ at *
 have x₂ : r9 Γ w s₁.heap.objs.size aJ σ₁.length s₂.heap 0 := by rw [← hs2]; exact x
 refine hnew cP λ ob2 gG => ?_
 have T₂ : Step (Own aJ σ₁.length) aJ σ₁.length s₂ (fD aJ σ₁.length s₂.heap.objs.size) (σ₁.length + 1) { s₂ with heap := s₂.heap.push ob2 } := .alloc _ rfl
 have r7 := iV.step cP T₂
 have x₃ := (tV (Γ := Γ) (d := d) w s₁.heap.objs.size).step x₂ cP iV T₂.tT
 have iG := S₂.then T₂
 have len : (σ₁ ++ [new]).length = σ₁.length + 1 := by simp
 have hne : σ₁.length < (σ₁ ++ [new]).length := by rw [len]; lia
 have hD : (fD aJ σ₁.length s₂.heap.objs.size) σ₁.length = s₂.heap.objs.size := c9 ..
 rw [← len] at T₂ r7 x₃ iG
 generalize fD aJ σ₁.length s₂.heap.objs.size = f6 at *
 generalize hs3 : ({ s₂ with heap := s₂.heap.push ob2 } : Shared) = s₃ at *
 refine wpAny_newFunctionEnv K.LO (λ x hx => by cases hx) (λ h' hn hsb => ?_) K.kind
 obtain ⟨oE, N8, R₄⟩ := K.enter r7 (by rw [← hs3]; exact gG) (t := s₃.toks) hn hsb
 have MR := (tV (Γ := Γ) (d := d) w s₁.heap.objs.size).step x₃ (by rw [← hs3]; exact gG) r7 N8.tT
 have L7 : s₁.heap.get? s₁.heap.objs.size = none := fC _
 have Po : Step (i9 Γ cy { newEnv scope s₃.heap.objs.size env.globals (xG env scope.names []) env.qual none .none (some env) env.builtins with scope := relabel scope env } μ σ.length) μ σ.length s f6 (σ₁ ++ [new]).length { s₃ with heap := h', toks := s₃.toks } :=
  (iG.then N8).tT
 refine hstart (v := w) (k := 0) (μ := f6) (n := (σ₁ ++ [new]).length) MR ?_
 have CL : ∀ b, s₃.heap.get? b = none → s.heap.get? b = none := λ b hb => iG.DT b hb
 refine Al (λ A it acc env => hu A it acc env) (λ it acc env => hden it acc env) (λ it acc env => htree it acc env) ha hi hg r s μ σ.length _ hne hD (S₁.DT _ L7) fuel 0 Po oE R₄ MR e2 λ o9 s₅ yK jZ R₅ D3 CY => ?_
 have Cn : s.heap.get? s₃.heap.objs.size = none := CL _ (fC _)
 have Pn : Step (Own μ σ.length) μ σ.length s o9 σ'.length s₅ := by
  refine ⟨λ b o e q => jZ.uA b o e λ z => ?_, jZ.live, jZ.agree, jZ.le, jZ.fresh, jZ.gens, jZ.drawn, jZ.os⟩
  rcases i9.sub K.fn z with y | y
  ·exact q y
  ·rw [y] at e
   have : s.heap.get? s₃.heap.objs.size = some o := e
   rw [Cn] at this; cases this
 obtain ⟨m, hnC, _⟩ := R₅.locals
 obtain ⟨oC, es, ep, hoC, hdC⟩ := Heap.Ns.obj hnC
 rw [← CY]
 exact c _ o9 s₅ s₃.heap.objs.size yK Pn (.obj D3) R₅.lo R₅.qZ Cn ⟨m, hnC⟩
theorem qC {A : Around} {E : Value → Shared → Prop} {Q : Value → Shared → Prop} {s : Shared} {μ : Nat → Addr} {σ : St} (H : aY Γ μ σ s.heap)
  (c : ∀ ob, aY Γ (fD μ σ.length s.heap.objs.size) (σ ++ [.list []]) (s.heap.push ob) → Q (.ref s.heap.objs.size) { s with heap := s.heap.push ob }) : wpAny Γ.M A (newList []) Q E s :=
 wpAny_newList (c _ (H.alloc _ _ ⟨#[], 0, IsL.new _ _, .nil⟩))
theorem DQ {A : Around} {E : Value → Shared → Prop} {Q : Value → Shared → Prop} {s : Shared} {μ : Nat → Addr} {σ : St} (H : aY Γ μ σ s.heap)
  (c : ∀ ob, aY Γ (fD μ σ.length s.heap.objs.size) (σ ++ [.bX []]) (s.heap.push ob) → Q (.ref s.heap.objs.size) { s with heap := s.heap.push ob }) : wpAny Γ.M A newDict Q E s := by
 show wpAny _ _ (newObj _ _) _ _ _
 exact wpAny_newObj_type (c _ (H.alloc _ _ ⟨[], Heap.DictOf.new _, rfl, .nil⟩))
theorem nJ {A : Around} {E : Value → Shared → Prop} {Q : Value → Shared → Prop} {v : V} {σ' : St} {u : Value} {s' : Shared} {C : Addr} {dY : Nat → Addr} (cc : Cont Γ μ σ s v σ' Q) (H : aY Γ dY σ' s'.heap) (S : Step (Own μ σ.length) μ σ.length s dY σ'.length s')
  (V : VR Γ dY σ'.length s'.heap v u) (h1 : Γ.h₀.get? C = none) (h2 : ∀ i, i < σ'.length → dY i ≠ C) (h3 : s.heap.get? C = none) (h4 : ∃ m, s'.heap.Ns C m) : compPost Γ.M A E none Q u C (.ok .next) s' := by
 obtain ⟨m, hn⟩ := h4
 refine ⟨m, hn, λ h' hs => ?_⟩
 obtain ⟨o, es, ep, ho, hd⟩ := Heap.Ns.obj hn
 have hz : ∀ o, s'.heap.get? C = some o → fz o = false := λ o e => by rw [ho] at e; cases e; simp [fz, hd]
 exact cc u dY _ (H.ext hs.extBut hz h1 h2) (S.ext h3 hs.extBut s'.toks) (V.mono (.ext hs.extBut hz) (λ _ _ => rfl) (Nat.le_refl _))
theorem aC.vB {elt t iter : PySem.Expr} {ifs : List PySem.Expr} {scope : Scope} {pos : Pos} {f fe : X V} {a : XA} {tt : Option (X Bool)} (fuel : Nat) (K : fV Γ cx cy scope locs) (hf : aC Γ d cx iter f) (ha : eG Γ d cy t a) (hi : mO Γ d cy ifs tt) (he : aC Γ d cy elt fe)
  (hs : ∀ env x, foldedSetIterable iter env x = pure x) : aC Γ d cx (.ListComp elt [⟨t, iter, ifs, 0⟩] scope pos) (X.comp locs f (.list []) a tt (XC.emit fe) fuel) := λ A env μ ρ σ s v σ' Q E r H R e c => by
 rw [PySem.eval_ListComp]
 exact oZ (cy := cy) rfl hs K (λ _ _ _ _ => rfl) (λ _ _ _ => rfl) (KH elt t iter ifs scope pos) pV qC (λ A μ ρ σ s v σ' Q E => hf A env μ ρ σ s v σ' Q E) ha hi (wK.emit he) r H R e
  λ u dY s' C H' S' V' h1 h2 h3 h4 => nJ c H' S' V' h1 h2 h3 h4
theorem aC.Lm {elt t iter t2 fJ : PySem.Expr} {ifs oS : List PySem.Expr} {scope : Scope} {pos : Pos} {f f2 fe : X V} {a a2 : XA} {tt Oi : Option (X Bool)} (fuel : Nat) (K : fV Γ cx cy scope locs) (hf : aC Γ d cx iter f) (ha : eG Γ d cy t a) (hi : mO Γ d cy ifs tt)
  (hf2 : aC Γ d cy fJ f2) (ha2 : eG Γ d cy t2 a2) (hi2 : mO Γ d cy oS Oi) (he : aC Γ d cy elt fe) (hs : ∀ env x, foldedSetIterable iter env x = pure x) (hs2 : ∀ env x, foldedSetIterable fJ env x = pure x) :
  aC Γ d cx (.ListComp elt [⟨t, iter, ifs, 0⟩, ⟨t2, fJ, oS, 0⟩] scope pos) (X.comp locs f (.list []) a tt (XC.nest f2 a2 Oi (XC.emit fe) fuel) fuel) := λ A env μ ρ σ s v σ' Q E r H R e c => by
 rw [PySem.eval_ListComp]
 exact oZ (cy := cy) rfl hs K (λ _ _ _ _ => rfl) (λ _ _ _ => rfl) (Lv elt t iter t2 fJ ifs oS scope pos) pV qC (λ A μ ρ σ s v σ' Q E => hf A env μ ρ σ s v σ' Q E) ha hi (wK.nest fuel hf2 ha2 hi2 he hs2) r H R e
  λ u dY s' C H' S' V' h1 h2 h3 h4 => nJ c H' S' V' h1 h2 h3 h4
theorem aC.Gm {ke ve t iter : PySem.Expr} {ifs : List PySem.Expr} {scope : Scope} {pos : Pos} {f fk fv : X V} {a : XA} {tt : Option (X Bool)} (fuel : Nat) (K : fV Γ cx cy scope locs) (hf : aC Γ d cx iter f) (ha : eG Γ d cy t a) (hi : mO Γ d cy ifs tt) (hk : aC Γ d cy ke fk) (hv : aC Γ d cy ve fv)
  (hs : ∀ env x, foldedSetIterable iter env x = pure x) : aC Γ d cx (.DictComp ke ve [⟨t, iter, ifs, 0⟩] scope pos) (X.comp locs f (.bX []) a tt (XC.uZ fk fv) fuel) := λ A env μ ρ σ s v σ' Q E r H R e c => by
 rw [arm_eval_DictComp]
 exact oZ (cy := cy) rfl hs K (λ _ _ _ _ => rfl) (λ _ _ _ => rfl) (MX ke ve t iter ifs scope pos) Cw DQ (λ A μ ρ σ s v σ' Q E => hf A env μ ρ σ s v σ' Q E) ha hi (wK.uZ hk hv) r H R e
  λ u dY s' C H' S' V' h1 h2 h3 h4 => nJ c H' S' V' h1 h2 h3 h4
end
section
variable {Γ : gT} {cx cy : Cx} {d : Nat} {env : Env} {μ aJ bA : Nat → Addr} {n n₁ n₂ : Nat} {ρ : Loc} {s s₁ s₂ : Shared} {σ σ₁ : St}
theorem dN.ext {h h' : Heap} {it : Addr} (R : dN Γ cx env μ n ρ h) (x : Heap.ExtBut it h h') (hz : ∀ o, h.get? it = some o → fz o = false) (hL : env.locals ≠ it) (hC : ∀ p ∈ cx.vars, ∀ c, env.kindOf (Γ.nm p.2) = some .cell → env.cells.lookup (Γ.nm p.2) = some c → c ≠ it) : dN Γ cx env μ n ρ h' := by
 have kf : cL h h' := .ext x hz
 refine ⟨R.scope, R.kind, R.globals, R.builtins, ?_, λ p hp hk => ?_, R.tQ, R.qZ, R.lo, R.LX⟩
 ·obtain ⟨m, ⟨o, es, ep, ho, hd, r⟩, hm⟩ := R.locals
  refine ⟨m, ⟨o, es, ep, x _ _ hL ho, hd, r⟩, λ p hp hk v hv => ?_⟩
  obtain ⟨u, h1, h2⟩ := hm p hp hk v hv
  exact ⟨u, h1, h2.mono kf (λ _ _ => rfl) (Nat.le_refl _)⟩
 ·obtain ⟨c, y, h1, ⟨o, ho, hd⟩, h3⟩ := R.cells p hp hk
  refine ⟨c, y, h1, ⟨o, x _ _ (hC p hp c hk h1) ho, hd⟩, λ v hv => ?_⟩
  obtain ⟨u, e1, e2⟩ := h3 v hv
  exact ⟨u, e1, e2.mono kf (λ _ _ => rfl) (Nat.le_refl _)⟩
theorem aM.o4 {e t : PySem.Expr} {pos : Pos} {f : X V} {g : XA} (hg : eG Γ d cx t g)
  (hs : ∀ env : Env, env.scope = cx.sc → swapsWithSole [t] e pos.line env = pure true) (ht : ∀ env, (assignEach [t] env).map (·.2) = [PySem.assign t env])
  (NR : ∀ (A : Around) (env : Env) (μ : Nat → Addr) (ρ : Loc) (σ : St) (s : Shared) (v : V) (σ' : St) (u : Value → Sem Unit) (Q : Value → Shared → Prop) (E : Value → Shared → Prop), fX A d → aY Γ μ σ s.heap → dN Γ cx env μ σ.length ρ s.heap → f ρ σ = some (v, σ') →
   (∀ w dY s' C, aY Γ dY σ' s'.heap → Step (Own μ σ.length) μ σ.length s dY σ'.length s' → VR Γ dY σ'.length s'.heap v w → Γ.h₀.get? C = none → (∀ i, i < σ'.length → dY i ≠ C) → s.heap.get? C = none → (∃ m, s'.heap.Ns C m) →
    compPost Γ.M A E (some u) Q w C (.ok .next) s') → wpAny Γ.M A (evalThenUse e env u) (λ _ s' => Q .none s') E s) :
  aM Γ d cx (.Assign [t] e pos) (XS.assign f g) := λ A env μ ρ σ s fl cJ σ' Q E r H R e' c => by
 unfold XS.assign at e'
 split at e'
 case h_2 => cases e'
 rename_i v σ₁ e1
 split at e'
 case h_2 => cases e'
 rename_i pS σ₂ e2
 cases e'
 rw [PyProof.Rows.exec_Assign]
 refine wpAny_bind (wpAny_standAt ?_)
 rw [hs env R.scope]
 refine wpAny_bind (wpAny_pure ?_)
 rw [if_pos rfl]
 refine wpAny_bind (NR A env μ ρ σ s v σ₁ _ (λ _ s' => wpAny Γ.M A (pure Flow.next) Q E s') E r H R e1 λ w aJ s₁ C H₁ S₁ cQ h1 h2 h3 h4 => ?_)
 have iW := R.step H S₁
 obtain ⟨m, hn⟩ := h4
 obtain ⟨oC, es, ep, hoC, hdC⟩ := Heap.Ns.obj hn
 show wpAny _ _ (assignAll w _) _ _ _
 rw [ht env]
 have EG : env.locals ≠ C := by
  obtain ⟨m', hn', _⟩ := R.locals
  obtain ⟨o', _, _, ho', _⟩ := Heap.Ns.obj hn'
  intro z; rw [z, h3] at ho'; cases ho'
 have PM : ∀ p ∈ cx.vars, ∀ c, env.kindOf (Γ.nm p.2) = some .cell → env.cells.lookup (Γ.nm p.2) = some c → c ≠ C := λ p hp c hk hc z => by
  obtain ⟨c', x, g1, ⟨o, ho, _⟩, _⟩ := R.cells p hp hk
  rw [hc] at g1; cases g1
  rw [z, h3] at ho; cases ho
 have LK : ¬ i9 Γ cx env aJ σ₁.length C := by
  rintro (⟨i, hi, q⟩ | q | ⟨_, p, hp, g1, g2⟩)
  ·exact h2 i hi q
  ·exact EG q.symm
  ·exact PM p hp _ g1 g2 rfl
 refine hg A env aJ ρ σ₁ s₁ v w cJ σ' _ E r H₁ iW cQ e2 λ bA s₂ cP S₂ iV => ?_
 have IE := S₂.uA _ _ hoC LK
 refine ⟨m, ?_, λ h' hs' => ?_⟩
 ·obtain ⟨o, es', ep', ho, rr⟩ := hn
  rw [hoC] at ho; cases ho
  exact ⟨_, es', ep', IE, rr⟩
 ·have hz : ∀ o, s₂.heap.get? C = some o → fz o = false := λ o e => by rw [IE] at e; cases e; simp [fz, hdC]
  have S := S₁.tT (Γ := Γ) (cx := cx) (env := env) |>.fN S₂
  have h2' : ∀ i, i < σ'.length → bA i ≠ C := λ i hi z => by
   by_cases hlt : i < σ₁.length
   ·rw [S₂.agree i hlt] at z; exact h2 i hlt z
   ·have := S₂.fresh i (Nat.not_lt.mp hlt) hi
    rw [z, hoC] at this; cases this
  exact wpAny_pure (c _ bA _ (cP.ext hs'.extBut hz h1 h2') (S.ext h3 hs'.extBut s₂.toks) (iV.ext hs'.extBut hz EG PM) trivial)
theorem rR {elt t iter : PySem.Expr} {ifs : List PySem.Expr} {scope : Scope} {pos : Pos} {f fe : X V} {a : XA} {tt : Option (X Bool)} {locs : List Nat} (fuel : Nat) (K : fV Γ cx cy scope locs) (hf : aC Γ d cx iter f) (ha : eG Γ d cy t a) (hi : mO Γ d cy ifs tt) (he : aC Γ d cy elt fe)
  (hs : ∀ env x, foldedSetIterable iter env x = pure x) (A : Around) (env : Env) (μ : Nat → Addr) (ρ : Loc) (σ : St) (s : Shared) (v : V) (σ' : St) (u : Value → Sem Unit) (Q : Value → Shared → Prop) (E : Value → Shared → Prop) (r : fX A d) (H : aY Γ μ σ s.heap) (R : dN Γ cx env μ σ.length ρ s.heap) (e : X.comp locs f (.list []) a tt (XC.emit fe) fuel ρ σ = some (v, σ'))
   (c : ∀ w dY s' C, aY Γ dY σ' s'.heap → Step (Own μ σ.length) μ σ.length s dY σ'.length s' → VR Γ dY σ'.length s'.heap v w → Γ.h₀.get? C = none → (∀ i, i < σ'.length → dY i ≠ C) → s.heap.get? C = none → (∃ m, s'.heap.Ns C m) →
    compPost Γ.M A E (some u) Q w C (.ok .next) s') : wpAny Γ.M A (evalThenUse (.ListComp elt [⟨t, iter, ifs, 0⟩] scope pos) env u) (λ _ s' => Q .none s') E s := by
 rw [arm_evalThenUse_ListComp]
 refine wpAny_bind (wpAny_mono (oZ (cy := cy) (use := some u) (Q := λ _ s' => Q .none s') rfl hs K (λ _ _ _ _ => rfl) (λ _ _ _ => rfl) (KH elt t iter ifs scope pos) pV qC (λ A μ ρ σ s v σ' Q E => hf A env μ ρ σ s v σ' Q E) ha hi (wK.emit he) r H R e c) ?_ λ _ _ q => q)
 exact λ _ _ q => wpAny_pure q
theorem zG {h : Heap} {a : Addr} {kvs : List (Str × Value)} (hd : h.DictOf (PySem.strKind Γ.prog Γ.w) a kvs) (x : Str) : ∃ o, h.get? a = some o ∧ lookIn x o = some (valueAt kvs x) := by
 obtain ⟨o, es, ep, ho, hc, hdd, hk, hp, hn⟩ := hd
 refine ⟨o, ho, ?_⟩
 unfold lookIn
 rw [hdd]
 dsimp only
 have e : (λ d : DictEntry => d.key.isStr x) = λ d => (PySem.strKind Γ.prog Γ.w).is x d.key := funext λ d => isStr_of x d.key
 have hf := hp.find x
 rw [e]
 cases q : es.toList.find? λ d => (PySem.strKind Γ.prog Γ.w).is x d.key with
 | some en =>
  rw [q] at hf
  simp only [Option.map_some] at hf
  rw [← hf]
 | none =>
  rw [q] at hf
  simp only [Option.map_none] at hf
  rw [← hf]
  have : es.toList.any (·.refKey) = false := by
   rw [List.any_eq_false]
   intro en hen
   obtain ⟨k, h1, _⟩ := hk en (Array.mem_toList_iff.mp hen)
   have : Value.isStrOf k en.key = true := h1
   obtain ⟨t, ht⟩ := PySem.Value.isStrOf_shape this
   simp [DictEntry.refKey, ht]
  simp [this]
theorem DG {A : Around} {E : Value → Shared → Prop} {Q : Unit → Shared → Prop} {dx : Addr} {kvs : List (Str × Value)} {x : Str} {u : Value} (hd : s.heap.DictOf (PySem.strKind Γ.prog Γ.w) dx kvs)
  (hQ : ∀ h', h'.DictOf (PySem.strKind Γ.prog Γ.w) dx (stored kvs x u) → Heap.SameBut dx s.heap h' → Q () { s with heap := h', toks := s.toks + 1 }) : wpAny Γ.M A (nsSet dx x u) Q E s := by
 obtain ⟨o, es, ep, ho, hc, hdd, hk, hp, hn⟩ := hd
 obtain ⟨oc, od, oda, osl⟩ := o
 dsimp only at hdd
 subst hdd
 have e : (λ d : DictEntry => d.key.isStr x) = λ d => (PySem.strKind Γ.prog Γ.w).is x d.key := funext λ d => isStr_of x d.key
 have Nx : ∀ en ∈ es, ∃ k t, en.key = .str k t := λ en hen => by
  obtain ⟨k, h1, _⟩ := hk en hen
  have : Value.isStrOf k en.key = true := h1
  obtain ⟨t, ht⟩ := PySem.Value.isStrOf_shape this
  exact ⟨k, t, ht⟩
 have M7 : es.any (·.refKey) = false := by
  rw [Array.any_eq_false']
  intro en hen
  obtain ⟨k, t, ht⟩ := Nx en hen
  simp [DictEntry.refKey, ht]
 have hidx : (es.findIdx? λ e => (PySem.strKind Γ.prog Γ.w).is x e.key) = kvs.findIdx? λ kv => decide (kv.1 = x) := by
  rw [← hp.findIdx x]; obtain ⟨l⟩ := es; simp
 unfold nsSet
 refine wpAny_bind (wpAny_bind (wpAny_askSetting (wpAny_pure (wpAny_bind (wpAny_mkText (wpAny_bind (wpAny_loadPart ho ?_)))))))
 dsimp only
 rw [aRefKeyMayBeTheName_at, M7, Bool.and_false]
 refine wpAny_updatePart ho (hQ _ ?_ (Heap.SameBut.update ..))
 cases hi : es.findIdx? λ e => (PySem.strKind Γ.prog Γ.w).is x e.key with
 | some i =>
  have hi' : es.findIdx? (λ d => d.key.isStr x) = some i := by rw [e]; exact hi
  refine ⟨_, es.modify i (λ e => { e with val := u }), ep, Heap.get?_update_self _ ho (by simp only [Obj.putName_eq, Obj.putNameByArray, hi']; rfl), ?_, by simp only [Obj.putName_eq, Obj.putNameByArray, hi'], hk.modify _ _, ?_, ?_⟩
  ·simp only [Obj.putName_eq, Obj.putNameByArray, hi']; exact hc
  ·rw [stored, if_pos (any_of_findIdx_some (hidx ▸ hi))]
   have hl : (es.toList.findIdx? λ e => (PySem.strKind Γ.prog Γ.w).is x e.key) = some i := by rw [← hi]; obtain ⟨l⟩ := es; simp
   have := hp.modify hn hl u
   obtain ⟨l⟩ := es
   simpa using this
  ·rw [stored, if_pos (any_of_findIdx_some (hidx ▸ hi)), keys_map_store]; exact hn
 | none =>
  have hi' : es.findIdx? (λ d => d.key.isStr x) = none := by rw [e]; exact hi
  have hnot : x ∉ kvs.map (·.1) := not_mem_of_findIdx_none (hidx ▸ hi)
  have hany : ¬ (kvs.any λ kv => decide (kv.1 = x)) = true := by
   intro h
   obtain ⟨kv, hkv, hkk⟩ := List.any_eq_true.mp h
   exact hnot (List.mem_map.mpr ⟨kv, hkv, of_decide_eq_true hkk⟩)
  have PQ : (PySem.strKind Γ.prog Γ.w).is x (.str x s.toks) = true := strKind_is _ _ _ _
  refine ⟨_, es.push ⟨(PySem.strKind Γ.prog Γ.w).hash x, .str x s.toks, u⟩, ep + 1, Heap.get?_update_self _ ho (by simp only [Obj.putName_eq, Obj.putNameByArray, hi']; rfl), ?_, by simp only [Obj.putName_eq, Obj.putNameByArray, hi']; rfl, ?_, ?_, ?_⟩
  ·simp only [Obj.putName_eq, Obj.putNameByArray, hi']; exact hc
  ·exact hk.push PQ u
  ·rw [stored, if_neg hany, Array.toList_push]; exact hp.append PQ _ u
  ·rw [stored, if_neg hany, List.map_append]
   exact List.nodup_append.mpr ⟨hn, by simp, λ a ha b hb => by simp at hb; subst hb; exact λ z => hnot (z ▸ ha)⟩
structure pL (Γ : gT) (K : Frag) (C : Addr) : Prop where
 cd : ∃ cd, clsIn K C = some cd ∧ cd.hasDict = true
 ga : findIn K (.ref C) "__getattribute__" = some (some (.builtin "object.__getattribute__"))
 gt : findIn K (.ref C) "__getattr__" = some none
 sa : findIn K (.ref C) "__setattr__" = some (some (.builtin "object.__setattr__"))
 over : plainOver K C = true
theorem Fn {c i : Nat} {a : Addr} {l : List (Nat × V)} (H : aY Γ μ σ s.heap) (hl : bV σ i = some l) (ho : s.heap.get? a = some (instObj (Γ.cls c) (μ i))) :
  ∃ o kvs, InstAt s.heap a (instObj (Γ.cls c) (μ i)) (Γ.cls c) (some o) ∧ s.heap.get? (μ i) = some o ∧ s.heap.DictOf (PySem.strKind Γ.prog Γ.w) (μ i) kvs ∧ SDR Γ μ σ.length s.heap l kvs ∧ ∀ k, lookIn (Γ.nm k) o = some (valueAt kvs (Γ.nm k)) := by
 obtain ⟨hi, kvs, hd, hr⟩ := H.aW hl
 obtain ⟨o, e, _⟩ := zG hd (Γ.nm 0)
 refine ⟨o, kvs, ⟨ho, rfl, rfl, e⟩, e, hd, hr, λ k => ?_⟩
 obtain ⟨o', e', f⟩ := zG hd (Γ.nm k)
 rw [e] at e'; cases e'
 exact f
noncomputable def wX (c : Nat) (k : Nat) (v : V) (σ : St) : Option (V × St) := match v with
 | .inst c' i => if c' = c then (bV σ i).bind λ l => (fT l k).map λ r => (r, σ) else none
 | _ => none
theorem GF {h : Heap} {v : V} {u : Value} (x : VR Γ μ n h v u) : handedIn u = true := by cases x <;> rfl
theorem FK {K : Frag} {c k : Nat} (KX : K.In Γ.h₀) (O : pL Γ K (Γ.cls c)) (hk : findIn K (.ref (Γ.cls c)) (Γ.nm k) = some none) {A : Around} {v r : V} {u : Value} {σ' : St} {ex : Bool} {Q : Value → Shared → Prop} {E : Value → Shared → Prop} (H : aY Γ μ σ s.heap) (V : VR Γ μ σ.length s.heap v u)
  (e : wX c k v σ = some (r, σ')) (cc : Cont Γ μ σ s r σ' Q) : wpAny Γ.M A (getAttr u (Γ.nm k) ex) Q E s := by
 obtain ⟨i, rfl, e2⟩ : ∃ i, v = .inst c i ∧ ((bV σ i).bind λ l => (fT l k).map λ r => (r, σ)) = some (r, σ') := by
  cases v with
  | inst c' i => obtain ⟨hc, e2⟩ := cK e; cases hc; exact ⟨i, rfl, e2⟩
  | _ => exact nS e
 obtain ⟨l, hl, e2⟩ := Option.bind_eq_some_iff.mp e2
 obtain ⟨w, hw, e2⟩ := Option.map_eq_some_iff.mp e2
 cases e2
 clear e
 obtain ⟨_, rfl, hi, ho⟩ := V.Ix
 obtain ⟨o, kvs, I, ho', hd, hr, look⟩ := Fn H hl ho
 obtain ⟨u, hu, hv⟩ := (hr.get k).1 _ hw
 obtain ⟨cd, hcd, hdict⟩ := O.cd
 refine get_value (KX.keeps H.base) I O.ga ?_ (GF hv) (cc _ μ _ H (.toks _) hv)
 have hw : W.ownOf cd (some o) (Γ.nm k) = some (some u) := by
  unfold W.ownOf
  simp only [hdict, if_true, look, hu]
 unfold findObj
 rw [hcd, Option.bind_some, hk]
 show (W.ownOf cd (some o) (Γ.nm k)).bind _ = _
 rw [hw]; rfl
theorem aC.attr {K : Frag} {c k : Nat} {x : Str} {e : PySem.Expr} {pos : Pos} {f : X V} (hx : Γ.nm k = x) (KX : K.In Γ.h₀) (O : pL Γ K (Γ.cls c)) (hk : findIn K (.ref (Γ.cls c)) x = some Option.none) (hf : aC Γ d cx e f)
  (he : ∀ env, eval (.Attribute e x pos) env = (do
   let o ← eval e env
   standAt pos.atName
   let r ← holding [o] (getAttr o x true)
   letTemporaryGo e o r
   pure r)) : aC Γ d cx (.Attribute e x pos) (X.bind f λ v => X.lift (wX c k v)) := λ A env μ ρ σ s v σ' Q E r H R ee cc => by
 subst hx
 obtain ⟨a, σ₁, e1, ee⟩ := X.bind_some ee
 refine Attribute_any_ (hf A env μ ρ σ s a σ₁ _ E r H R e1 λ u aJ s₁ H₁ S₁ cQ => ?_) (he env)
 exact FK KX O hk H₁ cQ ee λ u' bA s₂ cP S₂ eZ => cc u' bA s₂ cP (S₁.then S₂) eZ
noncomputable def vQ (c : Nat) (k : Nat) (o v : V) (σ : St) : Option St := match o with
 | .inst c' i => if c' = c then (bV σ i).bind λ l => if l.length ≤ 100 then some (σ.set i (.aW (fF l k v))) else none else none
 | _ => none
theorem Bb {K : Frag} {c k : Nat} (KX : K.In Γ.h₀) (O : pL Γ K (Γ.cls c)) (hk : takerIn K (Γ.cls c) (Γ.nm k) = some none) {A : Around} {o v : V} {uo u : Value} {σ' : St} {Q : Unit → Shared → Prop} {E : Value → Shared → Prop} (H : aY Γ μ σ s.heap) (Vo : VR Γ μ σ.length s.heap o uo) (V : VR Γ μ σ.length s.heap v u)
  (e : vQ c k o v σ = some σ') (cc : ∀ s', aY Γ μ σ' s'.heap → Step (Own μ σ.length) μ σ.length s μ σ'.length s' → Q () s') : wpAny Γ.M A (setAttr uo (Γ.nm k) u) Q E s := by
 obtain ⟨i, rfl, e2⟩ : ∃ i, o = .inst c i ∧ ((bV σ i).bind λ l => if l.length ≤ 100 then some (σ.set i (.aW (fF l k v))) else none) = some σ' := by
  cases o with
  | inst c' i => obtain ⟨hc, e2⟩ := cK e; cases hc; exact ⟨i, rfl, e2⟩
  | _ => exact nS e
 obtain ⟨l, hl, e2⟩ := Option.bind_eq_some_iff.mp e2
 obtain ⟨hlen, e2⟩ := cK e2
 cases e2
 clear e
 cases Vo with
 | inst hi ho =>
  obtain ⟨od, kvs, I, ho', hd, hr, look⟩ := Fn H hl ho
  obtain ⟨cd, hcd, hdict⟩ := O.cd
  have XX := KX.keeps H.base
  refine set_plain XX I O.sa ?_
  refine osa_open (s := { s with toks := s.toks + 1 }) XX I O.over hk λ b => ?_
  obtain ⟨hx, hcl, hn, -⟩ := I
  refine wpAny_bind (wpAny_pure (wpAny_bind (wpAny_bind (wpAny_loadPart hx (wpAny_bind (Looks.here (s := { s with toks := s.toks + 1 }) (looks_clsIn XX hcd) ?_))))))
  rw [hdict]
  refine wpAny_pure (a := some (μ i)) (wpAny_bind (wpAny_pure (wpAny_bind ?_)))
  refine DG (s := { s with toks := s.toks + 1 }) hd λ h' hd' hs' => ?_
  have hlen' : (σ.set i (Mine.O.aW (fF l k v))).length = σ.length := by simp
  have hob : ∃ o, h'.get? (μ i) = some o := let ⟨o, _, _, ho, _⟩ := hd'; ⟨o, ho⟩
  have T : Step (Own μ σ.length) μ σ.length s μ σ.length { s with heap := h', toks := s.toks + 1 + 1 } := Step.set (s := s) (show Own μ σ.length (μ i) from ⟨i, hi, rfl⟩) hs' hob _
  have HH : aY Γ μ (σ.set i (Mine.O.aW (fF l k v))) h' := H.set hi hs' λ kf => by
   have q := hr.set k V
   exact ⟨_, hd', q.1, q.2.mono kf (λ _ _ => rfl) (Nat.le_refl _)⟩
  obtain ⟨o2, es, ep, ho2, hc2, Pb, hk2, hp2, hn2⟩ := hd'
  have hsz : es.size ≤ 102 := by
   have e1 := hp2.length
   have e2 : es.toList.length = es.size := by simp
   have e3 := stored_length_le kvs (Γ.nm k) u
   have e4 := hr.length
   lia
  refine wpAny_bind (wpAny_lookBehind ho2 (by rw [Pb]; exact pastItsLine_dict (by rw [sizeLine_eq]; lia)) ?_)
  exact wpAny_pure (cc _ HH (by rw [hlen']; exact T))
end
section
variable {Γ : gT} {cx cy : Cx} {d : Nat} {env : Env} {μ aJ bA : Nat → Addr} {n n₁ n₂ : Nat} {ρ : Loc} {s s₁ s₂ : Shared} {σ σ₁ : St}
noncomputable abbrev FF := List V → St → Option (V × St)
noncomputable def bB (Γ : gT) (d : Nat) (fv : Value) (F : FF) : Prop :=
 ∀ (A : Around) (μ : Nat → Addr) (σ : St) (s : Shared) (vs : List V) (us : List Value) (v : V) (σ' : St) (Q : Value → Shared → Prop) (E : Value → Shared → Prop),
  fX A d → aY Γ μ σ s.heap → VRs Γ μ σ.length s.heap vs us → F vs σ = some (v, σ') → Cont Γ μ σ s v σ' Q → wpAny Γ.M A (call fv us) Q E s
noncomputable def dX (Γ : gT) (d : Nat) (f : Addr) (F : FF) : Prop :=
 ∀ (A : Around) (μ : Nat → Addr) (σ : St) (s : Shared) (vs : List V) (us : List Value) (v : V) (σ' : St) (R : Result → Shared → Prop),
  fX A d → aY Γ μ σ s.heap → VRs Γ μ σ.length s.heap vs us → F vs σ = some (v, σ') → Cont Γ μ σ s v σ' (λ u s' => R (.ok (.ret u)) s') → codeAny Γ.M A (.call (.ref f) ⟨us, []⟩) R s
theorem bB.ofF {f : Addr} {F : FF} (h : dX Γ d f F) : bB Γ d (.ref f) F := λ A μ σ s vs us v σ' Q E r H V e c =>
 wpAny_call (h A μ σ s vs us v σ' _ r H V e c)
theorem fX.le {A : Around} {d d' : Nat} (r : fX A d) (h : d' ≤ d) : fX A d' := ⟨r.handled, Nat.lt_of_le_of_lt (Nat.add_le_add_left (Nat.mul_le_mul_left 10 h) _) r.depth, Nat.lt_of_le_of_lt (Nat.add_le_add_right (Nat.add_le_add_left (Nat.mul_le_mul_left 20 h) _) 100) r.units⟩
theorem fX.deeper {A : Around} (r : fX A (d + 1)) (env : Env) : fX (A.deeper env) d :=
 ⟨r.handled, by have := r.depth; show A.depth + 1 + 10 * d < 900; lia, by have := r.units; show A.units + 3 + 20 * d + 100 < 9900; lia⟩
theorem bB.mono {fv : Value} {F : FF} {d d' : Nat} (h : bB Γ d fv F) (hd : d ≤ d') : bB Γ d' fv F := λ A μ σ s vs us v σ' Q E r => h A μ σ s vs us v σ' Q E (r.le hd)
theorem dX.mono {f : Addr} {F : FF} {d d' : Nat} (h : dX Γ d f F) (hd : d ≤ d') : dX Γ d' f F := λ A μ σ s vs us v σ' R r => h A μ σ s vs us v σ' R (r.le hd)
theorem Ho {kindOf : Str → Option NameKind} {x : Str} (hx : kindOf x = some .local) : ∀ (binds : List (Str × Value)) (m : Str → Option Value), bindL kindOf binds m x = (binds.reverse.lookup x).or (m x) := by
 intro binds
 induction binds with
 | nil => intro m; rfl
 | cons q r ih =>
  intro m
  obtain ⟨n, v⟩ := q
  unfold bindL
  rw [ih, List.reverse_cons, List.lookup_append, Option.or_assoc]
  congr 1
  by_cases hn : kindOf n = some .local
  ·rw [if_pos hn]
   by_cases e : x = n
   ·subst e; simp
   ·have : (x == n) = false := by simpa using e
    simp [e, List.lookup_cons, this]
  ·rw [if_neg hn]
   have e : x ≠ n := by rintro rfl; exact hn hx
   have : (x == n) = false := by simpa using e
   simp [List.lookup_cons, this]
theorem Cj {kindOf : Str → Option NameKind} {x : Str} (hx : kindOf x ≠ some .local) : ∀ (binds : List (Str × Value)) (m : Str → Option Value), bindC kindOf binds m x = (binds.reverse.lookup x).or (m x)
 | [], m => by simp [bindC]
 | (n, v) :: r, m => by
  unfold bindC
  rw [Cj hx r, List.reverse_cons, List.lookup_append, Option.or_assoc]
  congr 1
  by_cases hn : kindOf n = some .local
  ·rw [if_pos hn]
   have e : x ≠ n := by rintro rfl; exact hx hn
   have : (x == n) = false := by simpa using e
   simp [List.lookup_cons, this]
  ·rw [if_neg hn]
   by_cases e : x = n
   ·subst e; simp
   ·have : (x == n) = false := by simpa using e
    simp [e, List.lookup_cons, this]
theorem Am {l : List (Str × Value)} {x : Str} (h : x ∉ l.map (·.1)) : l.lookup x = none := by
 induction l with
 | nil => rfl
 | cons p l ih =>
  obtain ⟨a, b⟩ := p
  simp only [List.map_cons, List.mem_cons, not_or] at h
  have : (x == a) = false := by simpa using h.1
  rw [List.lookup_cons, this]; exact ih h.2
theorem Fj : ∀ {names : List Str} {us : List Value} {i : Nat} {x : Str}, names.Nodup → names.length = us.length → names[i]? = some x → (names.zip us).reverse.lookup x = us[i]? := by
 intro names
 induction names with
 | nil => intro us i x _ _ e; cases e
 | cons n ns ih =>
  intro us i x hn hl e
  cases us with
  | nil => cases hl
  | cons u us =>
   rw [List.nodup_cons] at hn
   rw [List.zip_cons_cons, List.reverse_cons, List.lookup_append]
   have hl' : ns.length = us.length := by simpa using hl
   cases i with
   | zero =>
    simp at e; subst e
    have : (ns.zip us).reverse.lookup n = none := Am (by
     rw [List.map_reverse, List.mem_reverse]
     intro h
     obtain ⟨p, hp, rfl⟩ := List.mem_map.mp h
     exact hn.1 (List.of_mem_zip hp).1)
    simp [this]
   | succ i =>
    simp at e
    have hx : x ≠ n := by rintro rfl; exact hn.1 (List.mem_of_getElem? e)
    have hb : (x == n) = false := by simpa using hx
    rw [ih hn.2 hl' e]
    have hlt : i < us.length := by rw [← hl']; exact (List.getElem?_eq_some_iff.mp e).1
    simp [List.lookup_cons, hb, hlt]
theorem sQ : ∀ (names : List (Str × NameKind)) (n : Nat) (acc : List (Str × Addr)) (x : Str), ((x, NameKind.cell) ∈ names ∨ (acc.lookup x).isSome = true) → ((cellsFrom n names acc).lookup x).isSome = true := by
 intro names
 induction names with
 | nil =>
  intro n acc x h
  rcases h with h | h
  ·cases h
  ·exact h
 | cons q r ih =>
  intro n acc x h
  obtain ⟨y, k⟩ := q
  unfold cellsFrom
  split
  ·refine ih _ _ x ?_
   by_cases e : x = y
   ·subst e; exact .inr (by simp)
   ·have : (x == y) = false := by simpa using e
    rcases h with h | h
    ·rcases List.mem_cons.mp h with q | q
     ·cases q; exact absurd rfl e
     ·exact .inl q
    ·exact .inr (by rw [List.lookup_cons, this]; exact h)
  ·rename_i hk
   refine ih _ _ x ?_
   rcases h with h | h
   ·rcases List.mem_cons.mp h with q | q
    ·cases q; exact absurd rfl hk
    ·exact .inl q
   ·exact .inr h
theorem l8 {α β : Type} [BEq α] [LawfulBEq α] : ∀ {l : List (α × β)} {a : α} {b : β}, l.lookup a = some b → (a, b) ∈ l
 | (k, v) :: r, a, b, h => by
  rw [List.lookup_cons] at h
  cases hb : a == k with
  | true => rw [hb] at h; cases h; rw [eq_of_beq hb]; exact .head _
  | false => rw [hb] at h; exact .tail _ (l8 h)
noncomputable def eV (np k : Nat) (g : XS) : FF := λ vs σ => if vs.length = np then match g (vs.map some ++ List.replicate k none) σ with
  | some (.ret v, _, σ') => some (v, σ')
  | some (.next, _, σ') => some (.none, σ')
  | none => none
 else none
structure FnAt (Γ : gT) (f : Addr) (fd : FuncData) (body : List Stmt) : Prop where
 at_ : ∃ o, Γ.h₀.get? f = some o ∧ o.data = .func fd
 code : Γ.h₀.CodeRec fd.code fd.qualname
 body : fd.body = .stmts body
 globals : fd.globals = mainGlobals
 builtins : fd.builtins = builtinsNs
 closure : fd.closure = []
 co : fd.scope.isCoroutine = false
 gen : fd.scope.isGenerator = false
 kind : fd.scope.kind = .function
structure GA (Γ : gT) (cx : Cx) (fd : FuncData) (names : List Nat) : Prop where
 sc : cx.sc = fd.scope
 fn : cx.fn = true
 ok : aR Γ cx
 slot : ∀ i k, names[i]? = some k → (i, k) ∈ cx.vars
 nodup : (names.map Γ.nm).Nodup
 bind : ∀ us : List Value, us.length = names.length → bindArgs fd ⟨us, []⟩ = pure ((names.map Γ.nm).zip us)
theorem dX.of {f : Addr} {fd : FuncData} {body : List Stmt} {names : List Nat} {g : XS} (k : Nat) (hlim : Γ.h₀.NoLimit) (F : FnAt Γ f fd body) (P : GA Γ cx fd names) (hg : aE Γ d cx body g) : dX Γ (d + 1) f (eV names.length k g) := λ A μ σ s vs us v σ' R' r H V e c => by
 unfold eV at e
 split at e
 case isFalse => cases e
 rename_i hlen
 have hus : us.length = names.length := V.length.symm.trans hlen
 obtain ⟨o, ho, hdat⟩ := F.at_
 have LY : ∀ x ∈ (names.map Γ.nm).zip us, fd.scope.names.lookup x.1 = some .local ∨ fd.scope.names.lookup x.1 = some .cell := λ x hx => by
  obtain ⟨k', hk', he⟩ := List.mem_map.mp (List.of_mem_zip hx).1
  obtain ⟨i, hi, hi'⟩ := List.getElem_of_mem hk'
  have hv := P.slot i k' (by rw [List.getElem?_eq_getElem hi, hi'])
  have := P.ok.kinds _ hv
  unfold gF at this
  rw [P.sc, he] at this
  exact this
 have hcd : s.heap.CodeRec fd.code fd.qualname := F.code.keeps H.base
 refine codeAny_call_cells (by have := r.depth; show A.depth < 1000; lia) (H.base _ _ ho) hdat (hlim.keeps H.base) hcd F.body (P.bind us hus) F.closure (λ x hx => ?_) (λ s₁ x => ?_) F.co F.gen F.kind
 ·rcases LY x hx with h | h
  ·exact .inl h
  ·exact .inr ⟨h, sQ _ _ _ _ (.inl (l8 h))⟩
 ·generalize hL : s.heap.objs.size = L at *
  have keep := x.toInCall.keep
  obtain ⟨h₁, tk, rfl⟩ := x.toInCall.same
  have e1 : (callEnvC fd L f).locals = L := rfl
  have e2 : (callEnvC fd L f).scope = fd.scope := rfl
  have esc : (callEnvC fd L f).scope = cx.sc := P.sc.symm
  have ek : ∀ k, (callEnvC fd L f).kindOf (Γ.nm k) = gF Γ cx k := λ k => by unfold Env.kindOf gF; rw [esc]
  have kf : cL s.heap h₁ := λ a o e _ => keep a o e
  have H₁ : aY Γ μ σ h₁ := ⟨λ b o e => keep b o (H.base b o e), λ i o e => (H.objs i o e).mono (λ ob e' => keep _ _ e') kf (λ _ _ => rfl) (Nat.le_refl _), H.inj, H.lo⟩
  have T : Step (Own μ σ.length) μ σ.length s μ σ.length { s with heap := h₁, toks := tk } := ⟨λ b o e _ => keep b o e, λ b o e => ⟨o, keep b o e⟩, λ _ _ => rfl, Nat.le_refl _, λ _ h1 h2 => absurd h2 (Nat.not_lt.mpr h1), rfl, rfl, rfl⟩
  have above : ∀ b, L ≤ b → s.heap.get? b = none := λ b hb => by
   cases q : s.heap.get? b with
   | none => rfl
   | some o => exact absurd (hL ▸ Heap.lt_size q) (Nat.not_lt.mpr hb)
  have arg : ∀ p ∈ cx.vars, ∀ v, (vs.map some ++ List.replicate k none)[p.1]? = some (some v) → ∃ u, ((names.map Γ.nm).zip us).reverse.lookup (Γ.nm p.2) = some u ∧ VR Γ μ σ.length h₁ v u := λ p hp v hv => by
   have hlt : p.1 < vs.length := by
    by_cases hlt : p.1 < vs.length
    ·exact hlt
    ·rw [List.getElem?_append_right (by simpa using hlt)] at hv
     rw [List.getElem?_replicate] at hv
     split at hv <;> cases hv
   rw [List.getElem?_append_left (by simpa using hlt), List.getElem?_map] at hv
   obtain ⟨v', hv', q⟩ := Option.map_eq_some_iff.mp hv
   cases q
   obtain ⟨u, hu, hvr⟩ := V.get hv'
   have hpn : names[p.1]? = some p.2 := by
    have hl : p.1 < names.length := by lia
    have := P.slot p.1 names[p.1] (by simp [hl])
    have e := P.ok.slots _ this _ hp rfl
    rw [List.getElem?_eq_getElem hl]
    exact congrArg some (congrArg Prod.snd e)
   refine ⟨u, ?_, hvr.mono kf (λ _ _ => rfl) (Nat.le_refl _)⟩
   rw [Fj P.nodup (by simpa using hus.symm) (by rw [List.getElem?_map, hpn]; rfl), hu]
  have iW : dN Γ cx (callEnvC fd L f) μ σ.length (vs.map some ++ List.replicate k none) h₁ := by
   refine ⟨esc, ?_, F.globals, F.builtins, ⟨_, x.toInCall.ns, λ p hp hk v hv => ?_⟩, λ p hp hk => ?_, λ p hp q hq c h1 h2 h3 h4 => ?_, λ i hi z => ?_, ?_, λ p hp c h1 h2 => ?_⟩
   ·rw [P.sc]; exact F.kind
   ·obtain ⟨u, hu, hvr⟩ := arg p hp v hv
    exact ⟨u, by rw [Ho hk, hu]; rfl, hvr⟩
   ·have hc : fd.scope.names.lookup (Γ.nm p.2) = some .cell := hk
    obtain ⟨c, hcc⟩ := Option.isSome_iff_exists.mp (sQ fd.scope.names (L + 1) [] (Γ.nm p.2) (.inl (l8 hc)))
    refine ⟨c, _, hcc, x.cell _ _ hcc, λ v hv => ?_⟩
    obtain ⟨u, hu, hvr⟩ := arg p hp v hv
    exact ⟨u, by rw [Cj (by rw [hk]; decide), hu]; rfl, hvr⟩
   ·exact P.ok.names p hp q hq (Γ.DP _ _ (name_of_addr x.apart (mem_of_lookup h3) (mem_of_lookup h4)))
   ·have := (H.qB hi); rw [hL] at this; exact this z
   ·show Γ.h₀.get? L = none
    rw [← hL]; exact H.lE
   ·have hgt := x.above _ _ (mem_of_lookup h2)
    cases q : Γ.h₀.get? c with
    | none => rfl
    | some o =>
     have := above c (Nat.le_of_lt hgt)
     rw [H.base _ _ q] at this; cases this
  have fresh : ∀ b, i9 Γ cx (callEnvC fd L f) μ σ.length b → Own μ σ.length b ∨ s.heap.get? b = none := λ b hb => by
   rcases hb with y | rfl | ⟨_, p, hp, g1, g2⟩
   ·exact .inl y
   ·exact .inr (above _ (Nat.le_refl _))
   ·exact .inr (above _ (Nat.le_of_lt (x.above _ _ (mem_of_lookup g2))))
  split at e <;> cases e
  ·rename_i cJ e1
   refine hg (A.deeper _) _ μ _ σ _ _ _ _ _ _ (r.deeper _) H₁ iW e1 λ w bA s₂ cP S₂ iV eZ => ?_
   cases w <;> first | exact eZ.elim | skip
   exact c _ bA s₂ cP (T.trans S₂ λ b hb => fresh b hb) eZ
  ·rename_i cJ e1
   refine hg (A.deeper _) _ μ _ σ _ _ _ _ _ _ (r.deeper _) H₁ iW e1 λ w bA s₂ cP S₂ iV eZ => ?_
   cases w <;> first | exact eZ.elim | skip
   exact c _ bA s₂ cP (T.trans S₂ λ b hb => fresh b hb) .none
noncomputable def kK (Γ : gT) (fv : Value) : Prop := ∀ h : Heap, (∀ b o, Γ.h₀.get? b = some o → h.get? b = some o) → ∃ k, (k = Keeper.frame ∨ k = Keeper.machine ∨ k = Keeper.boundFrame) ∧ Looks Γ.M h (keeperOf fv) k
theorem kK.K {K : Frag} {f : Addr} (KX : K.In Γ.h₀) (hk : keepIn K (.ref f) = true) : kK Γ (.ref f) := λ h k => keeps_K hk h (KX.keeps k)
theorem kK.builtin {id : String} : kK Γ (.builtin id) := λ _ _ => ⟨.machine, .inr (.inl rfl), Looks.of_pure rfl⟩
theorem kK.type {T : String} : kK Γ (.type T) := λ _ _ => ⟨.machine, .inr (.inl rfl), Looks.of_pure rfl⟩
noncomputable def Plain (es : List PySem.Expr) : Prop := ∀ env, (starEach es env).any (·.1) = false
theorem mI (pos : Pos) (l : List (Bool × Sem Value)) : (backTo pos l).any (·.1) = l.any (·.1) := by
 induction l with
 | nil => rfl
 | cons p l ih => simp only [backTo, List.map_cons, List.any_cons] at ih ⊢; rw [ih]
theorem kH {M : Model} {A : Around} {E : Value → Shared → Prop} {fv : Value} {pos : Pos} {es : List PySem.Expr} {Q : Args → Shared → Prop} (hp : Plain es)
  (h : wpAny M A (spliced (backTo pos (starEach es env))) (λ vs s' => Q ⟨vs, []⟩ s') E s) : wpAny M A (evalArgs fv true (backTo pos (starEach es env)) []) Q E s := by
 have hp := hp env
 revert h hp
 generalize starEach es env = l
 intro h hp
 cases l with
 | nil =>
  unfold evalArgs
  show wpAny M A (spliced [] >>= _) Q E s
  refine wpAny_bind (wpAny_mono h (λ vs s' h' => ?_) λ _ _ x => x)
  refine wpAny_bind (wpAny_pure ?_)
  refine wpAny_holding ?_
  exact wpAny_bind (wpAny_pure (wpAny_bind (wpAny_pure (wpAny_pure h'))))
 | cons p l =>
  obtain ⟨b, t⟩ := p
  simp only [List.any_cons, Bool.or_eq_false_iff] at hp
  obtain ⟨rfl, _⟩ := hp
  exact Calls.evalArgs_plain h
end
section
variable {Γ : gT} {cx cy : Cx} {d : Nat} {env : Env} {μ aJ bA : Nat → Addr} {n n₁ n₂ : Nat} {ρ : Loc} {s s₁ s₂ : Shared} {σ σ₁ : St}
noncomputable def cY (Γ : gT) (x : Str) (fv : Value) : Prop := ∃ mg, Γ.h₀.Ns mainGlobals mg ∧ (mg x = some fv ∨ (mg x = none ∧ ∃ mb, Γ.h₀.Ns builtinsNs mb ∧ mb x = some fv))
theorem mW {x : Str} {fv : Value} {pos : Pos} {A : Around} {Q : Value → Shared → Prop} {E : Value → Shared → Prop} (N : cY Γ x fv) (hx : cx.sc.names.lookup x = some .globalImplicit) (hd : (x == ("__debug__" : Str)) = false)
  (H : aY Γ μ σ s.heap) (R : dN Γ cx env μ n ρ s.heap) (h : Q fv s) : wpAny Γ.M A (eval (.Name x pos) env) Q E s := by
 obtain ⟨mg, hg, N⟩ := N
 refine Calls.Name_function_global (by rw [R.scope]; exact R.kind) (by unfold Env.kindOf; rw [R.scope]; exact hx) ?_ hd
 have hg' : s.heap.Ns env.globals mg := by rw [R.globals]; exact hg.keeps H.base
 rcases N with N | ⟨N, mb, hb, N'⟩
 ·exact Calls.loadGlobal_global hg' N h
 ·exact Calls.loadGlobal_builtin hg' N (by rw [R.builtins]; exact hb.keeps H.base) N' h
theorem mH {fv : Value} {es : List PySem.Expr} {g : X (List V)} {F : FF} {pos : Pos} {A : Around} {v : V} {σ' : St} {MI : List V} {Os : List Value} {Q : Value → Shared → Prop} {E : Value → Shared → Prop} (hK : kK Γ fv) (hp : Plain es) (hs : iF Γ d cx es g) (hc : bB Γ d fv F)
  (r : fX A d) (H : aY Γ μ σ s.heap) (R : dN Γ cx env μ σ.length ρ s.heap) (V0 : VRs Γ μ σ.length s.heap MI Os) (e : X.bind g (λ vs => X.lift (F (MI ++ vs))) ρ σ = some (v, σ')) (c : Cont Γ μ σ s v σ' Q) :
  wpAny Γ.M A (callWith pos fv Os (backTo pos (starEach es env)) []) Q E s := by
 obtain ⟨vs, σ₁, e1, e⟩ := X.bind_some e
 refine callWith_of (P := λ h => ∀ b o, Γ.h₀.get? b = some o → h.get? b = some o) (by rw [mI, hp env]; rfl) hK (kH hp ?_)
 refine hs A env pos μ ρ σ s vs σ₁ _ E r H R e1 λ us aJ s₁ H₁ S₁ cQ => ⟨H₁.base, ?_⟩
 exact hc A aJ σ₁ s₁ (MI ++ vs) (Os ++ us) v σ' Q E r H₁ ((S₁.MS H V0).append cQ) e λ u bA s₂ cP S₂ eZ => c u bA s₂ cP (S₁.then S₂) eZ
theorem aC.call {x : Str} {fv : Value} {p pos : Pos} {es : List PySem.Expr} {g : X (List V)} {F : FF} (N : cY Γ x fv) (hx : cx.sc.names.lookup x = some .globalImplicit) (hK : kK Γ fv) (hp : Plain es) (hs : iF Γ d cx es g) (hc : bB Γ d fv F) (hd : (x == ("__debug__" : Str)) = false) :
  aC Γ d cx (.Call (.Name x p) es [] pos) (X.bind g λ vs => X.lift (F vs)) := λ A env μ ρ σ s v σ' Q E r H R e c =>
 wpAny_Call_NameR (mW N hx hd H R (mH (MI := []) hK hp hs hc r H R .nil e c))
noncomputable def rA (o : PySem.Expr) (name : Str) (apos : Pos) (es : List PySem.Expr) (pos : Pos) : Prop := ∀ env, ∃ pl, eval (.Call (.Attribute o name apos) es [] pos) env = (do
 let ov ← eval o env
 standAt apos.atName
 let (f, first) ← holding [ov] (getMethod ov name pl)
 callWith pos f first (backTo pos (starEach es env)) [])
theorem BU {o : PySem.Expr} {name : Str} {apos pos : Pos} {es : List PySem.Expr} {A : Around} {Q : Value → Shared → Prop} {E : Value → Shared → Prop} (he : rA o name apos es pos)
  (h : wpAny Γ.M A (eval o env) (λ ov s₁ => ∀ pl, wpAny Γ.M A (getMethod ov name pl) (λ fx s₂ => wpAny Γ.M A (callWith pos fx.1 fx.2 (backTo pos (starEach es env)) []) Q E s₂) E s₁) E s) :
  wpAny Γ.M A (eval (.Call (.Attribute o name apos) es [] pos) env) Q E s := by
 obtain ⟨pl, he⟩ := he env
 rw [he]
 refine wpAny_bind (wpAny_mono h (λ ov s₁ h₁ => wpAny_bind (wpAny_standAt (wpAny_bind (wpAny_holding (wpAny_mono (h₁ pl) (λ fx s₂ h₂ => ?_) λ _ _ x => x))))) λ _ _ x => x)
 exact h₂
noncomputable def asList (v : V) (σ : St) : Option (V × St) := match v with
 | .obj i => (getL σ i).map λ _ => (v, σ)
 | _ => none
theorem aC.fH {o : PySem.Expr} {name : Str} {id : String} {apos pos : Pos} {es : List PySem.Expr} {f : X V} {g : X (List V)} {F : FF} (he : rA o name apos es pos) (slot : Slot "list" name id) (hty : typeOf (.builtin id) = pure (.type "method_descriptor")) (hp : Plain es)
  (hf : aC Γ d cx o f) (hs : iF Γ d cx es g) (hc : bB Γ d (.builtin id) F) :
  aC Γ d cx (.Call (.Attribute o name apos) es [] pos) (X.bind f λ v => X.bind (X.lift (asList v)) λ v => X.bind g λ vs => X.lift (F (v :: vs))) := λ A env μ ρ σ s v σ' Q E r H R e c => by
 obtain ⟨a, σ₁, e1, e⟩ := X.bind_some e
 obtain ⟨a', σ₂, e2, e⟩ := X.bind_some e
 have e2 := X.lQ e2
 refine BU he (hf A env μ ρ σ s a σ₁ _ E r H R e1 λ u aJ s₁ H₁ S₁ cQ pl => ?_)
 unfold asList at e2
 split at e2
 case h_2 => cases e2
 obtain ⟨l, hl, e2⟩ := Option.map_eq_some_iff.mp e2
 cases e2
 obtain ⟨rfl, hi⟩ := cQ.kE
 obtain ⟨_, items, k, ho, hv⟩ := H₁.list hl
 refine getMethod_builtin ⟨_, ho, rfl⟩ PySem.F.plainAttrs_list slot hty (λ a ha => by cases ha; exact ⟨_, ho, rfl⟩) ?_
 exact mH (MI := [.obj _]) kK.builtin hp hs hc r H₁ (R.step H S₁) (.cons (.obj hi) .nil) e λ u' bA s₂ cP S₂ eZ => c u' bA s₂ cP (S₁.then S₂) eZ
noncomputable def tP (c k : Nat) (v : V) (σ : St) : Option (V × St) := match v with
 | .inst c' i => if c' = c then (bV σ i).bind λ l => match fT l k with | none => some (v, σ) | some _ => none else none
 | _ => none
theorem aC.cV {K : Frag} {c k : Nat} {o : PySem.Expr} {x : Str} {fa : Addr} {apos pos : Pos} {es : List PySem.Expr} {f : X V} {g : X (List V)} {F : FF} (hx : Γ.nm k = x) (he : rA o x apos es pos) (KX : K.In Γ.h₀) (O : pL Γ K (Γ.cls c))
  (hfi : findIn K (.ref (Γ.cls c)) x = some (some (.ref fa))) (ht : typeIn K (.ref fa) = some (.type "function")) (hk : kK Γ (.ref fa)) (hp : Plain es)
  (hf : aC Γ d cx o f) (hs : iF Γ d cx es g) (hc : bB Γ d (.ref fa) F) :
  aC Γ d cx (.Call (.Attribute o x apos) es [] pos) (X.bind f λ v => X.bind (X.lift (tP c k v)) λ v => X.bind g λ vs => X.lift (F (v :: vs))) := λ A env μ ρ σ s v σ' Q E r H R e cc => by
 subst hx
 obtain ⟨a, σ₁, e1, e⟩ := X.bind_some e
 obtain ⟨a', σ₂, e2, e⟩ := X.bind_some e
 have e2 := X.lQ e2
 refine BU he (hf A env μ ρ σ s a σ₁ _ E r H R e1 λ u aJ s₁ H₁ S₁ cQ pl => ?_)
 unfold tP at e2
 split at e2
 case h_2 => cases e2
 rename_i c' i
 split at e2
 case isFalse => cases e2
 rename_i hcc
 subst hcc
 obtain ⟨l, hl, e2⟩ := Option.bind_eq_some_iff.mp e2
 split at e2 <;> cases e2
 rename_i hno
 obtain ⟨_, rfl, hi, ho⟩ := cQ.Ix
 obtain ⟨od, kvs, I, ho', hd, hr, look⟩ := Fn H₁ hl ho
 have hno' := (hr.get k).2 hno
 refine method_fn (KX.keeps H₁.base) I O.ga O.gt hfi ht (by show (lookIn (Γ.nm k) od).map (·.isSome) = some false; rw [look k, hno']; rfl) ?_
 exact mH (MI := [.inst _ _]) hk hp hs hc r H₁ (R.step H S₁) (.cons (.inst hi ho) .nil) e λ u' bA s₂ cP S₂ eZ => cc u' bA s₂ cP (S₁.then S₂) eZ
end
section
variable {Γ : gT} {cx cy : Cx} {d : Nat} {env : Env} {μ aJ bA : Nat → Addr} {n n₁ n₂ : Nat} {ρ : Loc} {s s₁ s₂ : Shared} {σ σ₁ : St}
theorem rE {σ : St} {j : Nat} {o : O} : (σ.set j o).length = σ.length := by simp
theorem oP (H : aY Γ μ σ s.heap) {j : Nat} (hj : j < σ.length) {items : Array Value} {k : Nat} (hL : IsL s.heap (μ j) items k) (f : Array Value → Array Value) {l' : List V} (hs : VRs Γ μ σ.length s.heap l' (f items).toList) (t : Nat) :
  aY Γ μ (σ.set j (.list l')) (s.heap.update (μ j) (Obj.mapSeq f)) ∧ Step (Own μ σ.length) μ σ.length s μ (σ.set j (.list l')).length { s with heap := s.heap.update (μ j) (Obj.mapSeq f), toks := t } := by
 have same : Heap.SameBut (μ j) s.heap (s.heap.update (μ j) (Obj.mapSeq f)) := Heap.SameBut.update ..
 have hL' := hL.update f
 rw [rE]
 exact ⟨H.set hj same λ kf => ⟨_, _, hL', hs.mono kf (λ _ _ => rfl) (Nat.le_refl _)⟩, Step.set ⟨j, hj, rfl⟩ same ⟨_, hL'⟩ t⟩
theorem aY.LB {h h' : Heap} (H : aY Γ μ σ h) {i : Nat} {o : O} (hi : i < σ.length) (x : ∀ b o, b ≠ μ i → h.get? b = some o → h'.get? b = some o) (hO : cL h h' → OR Γ μ σ.length h' (μ i) o) : aY Γ μ (σ.set i o) h' := by
 have hlen : (σ.set i o).length = σ.length := by simp
 have hz : ∀ o, h.get? (μ i) = some o → fz o = false := λ o e => H.wV ⟨i, hi, rfl⟩ e
 have kf : cL h h' := λ b o e f => x b o (by rintro rfl; rw [hz o e] at f; cases f) e
 refine ⟨λ b o' e => ?_, λ j o' e => ?_, by rw [hlen]; exact H.inj, by rw [hlen]; exact H.lo⟩
 ·exact x b o' (by rintro rfl; rw [H.lo i hi] at e; cases e) (H.base b o' e)
 ·rw [hlen]
  by_cases hj : j = i
  ·subst hj
   simp [hi] at e; subst e
   exact hO kf
  ·rw [List.getElem?_set_ne (Ne.symm hj)] at e
   have hlt := (List.getElem?_eq_some_iff.mp e).1
   exact (H.objs j o' e).mono (λ _ e' => x _ _ (λ q => hj (H.inj j i hlt hi q)) e') kf (λ _ _ => rfl) (Nat.le_refl _)
theorem Step.LB {own : Addr → Prop} {s' : Shared} {i : Nat} (hi : own (μ i)) (a : Alike s s') (x : ∀ b o, b ≠ μ i → s.heap.get? b = some o → s'.heap.get? b = some o) (hl : ∃ o, s'.heap.get? (μ i) = some o) : Step own μ n s μ n s' :=
 ⟨λ b o e q => x b o (by rintro rfl; exact q hi) e, λ b o e => by
  by_cases hb : b = μ i
  ·subst hb; exact hl
  ·exact ⟨o, x b o hb e⟩, λ _ _ => rfl, Nat.le_refl _, λ _ h1 h2 => absurd h2 (Nat.not_lt.mpr h1), a.gens, a.drawn, a.os⟩
noncomputable def bY (g : V → St → Option (V × St)) : FF := λ vs σ => match vs with | [a] => g a σ | _ => none
noncomputable def tJ (g : V → V → St → Option (V × St)) : FF := λ vs σ => match vs with | [a, b] => g a b σ | _ => none
theorem IU {g : V → St → Option (V × St)} {vs : List V} {r : V × St} (e : bY g vs σ = some r) : ∃ a, vs = [a] ∧ g a σ = some r := by
 cases vs with
 | nil => cases e
 | cons a l => cases l with
  | nil => exact ⟨a, rfl, e⟩
  | cons => cases e
theorem IQ {g : V → V → St → Option (V × St)} {vs : List V} {r : V × St} (e : tJ g vs σ = some r) : E2 λ a b => A3 (vs = [a, b]) (g a b σ = some r) True := by
 cases vs with
 | nil => cases e
 | cons a l => cases l with
  | nil => cases e
  | cons b l => cases l with
   | nil => exact ⟨a, b, rfl, e, trivial⟩
   | cons => cases e
theorem bB.one {fv : Value} {g : V → St → Option (V × St)} (h : ∀ (A : Around) (μ : Nat → Addr) (σ : St) (s : Shared) (a : V) (ua : Value) (v : V) (σ' : St) (Q : Value → Shared → Prop) (E : Value → Shared → Prop),
  fX A d → aY Γ μ σ s.heap → VR Γ μ σ.length s.heap a ua → g a σ = some (v, σ') → Cont Γ μ σ s v σ' Q → wpAny Γ.M A (call fv [ua]) Q E s) :
  bB Γ d fv (bY g) := λ A μ σ s vs us v σ' Q E r H V e c => by
 obtain ⟨a, rfl, e⟩ := IU e
 obtain ⟨u, rfl, V1⟩ := V.LH
 exact h A μ σ s a u v σ' Q E r H V1 e c
theorem bB.two {fv : Value} {g : V → V → St → Option (V × St)} (h : ∀ (A : Around) (μ : Nat → Addr) (σ : St) (s : Shared) (a b : V) (ua ub : Value) (v : V) (σ' : St) (Q : Value → Shared → Prop) (E : Value → Shared → Prop),
  fX A d → aY Γ μ σ s.heap → VR Γ μ σ.length s.heap a ua → VR Γ μ σ.length s.heap b ub → g a b σ = some (v, σ') → Cont Γ μ σ s v σ' Q → wpAny Γ.M A (call fv [ua, ub]) Q E s) :
  bB Γ d fv (tJ g) := λ A μ σ s vs us v σ' Q E r H V e c => by
 obtain ⟨a, b, rfl, e, _⟩ := IQ e
 obtain ⟨u, w, rfl, V1, V2⟩ := V.MW
 exact h A μ σ s a b u w v σ' Q E r H V1 V2 e c
noncomputable def objOf : V → Option Nat
 | .obj j => some j
 | _ => none
theorem rI {a : V} {j : Nat} (e : objOf a = some j) : a = .obj j := by cases a <;> cases e; rfl
noncomputable def Kq (a v : V) (σ : St) : Option (V × St) := (objOf a).bind λ j => (getL σ j).bind λ l => if l.length ≤ 100000 then some (.none, σ.set j (.list (l ++ [v]))) else none
noncomputable def eF : FF := tJ Kq
theorem bB.append : bB Γ d (.builtin "list.append") eF := .two λ A μ σ s a b ua ub v σ' Q E r H V W e c => by
 obtain ⟨j, hj, e0⟩ := Option.bind_eq_some_iff.mp e
 clear e
 cases rI hj
 obtain ⟨l, hl, e⟩ := Option.bind_eq_some_iff.mp e0
 clear e0
 obtain ⟨hlen, e1⟩ := cK e
 cases e1
 cases V.kE.1
 exact vN H hl hlen W λ h' H' S' => c _ μ _ H' (by rw [rE]; exact S') .none
noncomputable def Ph (a : V) (σ : St) : Option (V × St) := (objOf a).bind λ j => (getL σ j).bind λ l => if l.length ≤ 100000 then l.getLast?.map λ v => (v, σ.set j (.list l.dropLast)) else none
noncomputable def FA : FF := bY Ph
theorem bB.pop : bB Γ d (.builtin "list.pop") FA := .one λ A μ σ s a ua v σ' Q E r H V e c => by
 obtain ⟨j, hj, e0⟩ := Option.bind_eq_some_iff.mp e
 clear e
 cases rI hj
 obtain ⟨l, hl, e⟩ := Option.bind_eq_some_iff.mp e0
 clear e0
 obtain ⟨hlen, e1⟩ := cK e
 obtain ⟨v', hv', e2⟩ := Option.map_eq_some_iff.mp e1
 cases e2
 cases V.kE.1
 obtain ⟨hj, items, k, hL, hs⟩ := H.list hl
 have hsl := hs.length.trans Array.length_toList
 rw [List.getLast?_eq_getElem?] at hv'
 obtain ⟨u, hu, hvr⟩ := hs.get hv'
 rw [hsl, Array.getElem?_toList] at hu
 refine call_meets PySem.F.slot_list_pop ⟨_, hL, rfl⟩ PySem.F.entry_list_pop (PySem.F.args_list_pop_1 _) (PySem.MeetsSeq.list_pop_last _ items k u hu (by rw [sizeLine_eq]; lia)) ⟨hL, ?_⟩
 have hlt := (Array.getElem?_eq_some_iff.mp hu).1
 obtain ⟨H', S'⟩ := oP H hj hL (λ xs => xs.eraseIdxIfInBounds (items.size - 1)) (l' := l.dropLast) (by
  show VRs _ _ _ _ _ (items.eraseIdxIfInBounds (items.size - 1)).toList
  unfold Array.eraseIdxIfInBounds
  rw [dif_pos hlt, Array.toList_eraseIdx, List.eraseIdx_eq_take_drop_succ, List.drop_eq_nil_of_le (by rw [Array.length_toList]; exact Nat.le_of_eq (Nat.sub_add_cancel (Nat.lt_of_le_of_lt (Nat.zero_le _) hlt)).symm), List.append_nil, List.dropLast_eq_take, ← hsl]
  exact hs.take _) s.toks
 exact c _ μ _ H' S' (hvr.mono (S'.Om H) (λ _ _ => rfl) (by rw [rE]; exact Nat.le_refl _))
noncomputable def rangeInts (a b : Int) : List Int := (List.range (b - a).toNat).map λ i => a + (i : Nat)
theorem Ef {R : Result → Shared → Prop} {A : Around} (hh : A.handled = none) (S I : Addr) (hSI : S ≠ I) (res : Value) (a : Int) (n : Nat) :
  ∀ (k i : Nat) (s : Shared) (acc : Array Value) (c : Nat), n - i = k → i ≤ n → acc.size + k ≤ 200000 → IsRangeIter s.heap I (a + ((i : Nat) : Int) * 1) ((n : Int) - ((i : Nat) : Int)) 1 → s.heap.get? S = some { cls := .type "list", dict := none, data := .seq acc c, slots := #[] } →
  (∀ s' ys c', Alike s s' → (∀ b o, b ≠ S → b ≠ I → s.heap.get? b = some o → s'.heap.get? b = some o) → s'.heap.get? S = some { cls := .type "list", dict := none, data := .seq (acc ++ (ys : List Value).toArray) c', slots := #[] } →
   IntsAre ys ((List.range k).map λ j => a + ((i + j : Nat) : Int)) → R (.ok (.ret res)) s') →
  codeAny Γ.M A (.builtin "list.extend.loop" ⟨[.ref S, .ref I, res], []⟩) R s := by
 intro k
 induction k with
 | zero =>
  intro i s acc c hk hi hz hst hS hR
  refine codeAny_builtin PySem.F.entry_extend_loop ?_
  rw [Around.under_plainId PySem.F.plain_extend_loop _]
  show wpAny _ A.in1 (pyNext (.ref I) >>= _) _ _ s
  refine wpAny_bind (wpAny_pyNext_range_end hh hst (Int.sub_nonpos_of_le (Int.ofNat_le.mpr (Nat.sub_eq_zero_iff_le.mp hk))) λ h' he' => ?_)
  exact wpAny_pure (hR { s with heap := h' } [] c ⟨rfl, rfl, rfl⟩ (λ b o _ h2 e => he' b o h2 e) (by simpa using he' _ _ hSI hS) .nil)
 | succ k ih =>
  intro i s acc c hk hi hz hst hS hR
  have hlt : i < n := Nat.lt_of_sub_eq_succ hk
  refine codeAny_builtin PySem.F.entry_extend_loop ?_
  rw [Around.under_plainId PySem.F.plain_extend_loop _]
  show wpAny _ A.in1 (pyNext (.ref I) >>= _) _ _ s
  refine wpAny_bind (wpAny_pyNext_range_item hst (Int.sub_pos_of_lt (Int.ofNat_lt.mpr hlt)) λ h' hit' hs' => ?_)
  have hS' := hs'.extBut S _ hSI hS
  have hsz : acc.size ≤ sizeLine := Nat.le_trans (Nat.le_trans (Nat.le_add_right _ _) hz) (by rw [sizeLine_eq]; decide)
  show wpAny _ A.in1 (updateSeq S (·.push _) >>= _) _ _ _
  refine wpAny_bind ?_
  refine wpAny_updateSeq hS' rfl (wpAny_pure ⟨plainId_quiet PySem.F.plain_extend_loop _, ih (i + 1) _ (acc.push _) _ (by rw [Nat.sub_succ, hk]; rfl) hlt (by rw [Array.size_push, Nat.add_assoc, Nat.add_comm 1]; exact hz) ?_ (Heap.get?_update_self _ hS' rfl) λ s'' ys c' al hk'' hS'' O7 => ?_⟩)
   hsz (by rw [Array.size_push]; exact Nat.succ_le_succ hsz)
  ·have e1 : a + ((i + 1 : Nat) : Int) * 1 = a + (i : Int) * 1 + 1 := by rw [Int.mul_one, Int.mul_one, Int.natCast_add, ← Int.add_assoc]; rfl
   have e2 : (n : Int) - ((i + 1 : Nat) : Int) = (n : Int) - (i : Int) - 1 := by rw [Int.natCast_add, Int.sub_sub]; rfl
   rw [e1, e2]
   exact (Heap.get?_update_other _ _ hSI).trans hit'
  ·refine hR s'' (.int (a + (i : Int) * 1) s.toks :: ys) c' ⟨al.gens, al.drawn, al.os⟩ (λ b o h1 h2 e => hk'' b o h1 h2 ((Heap.get?_update_other _ _ (Ne.symm h1)).trans (hs'.extBut b o h2 e))) ?_ ?_
   ·rw [hS'']; congr 3; simp
   ·rw [List.range_succ_eq_map, List.map_cons, List.map_map]
    have e0 : a + ((i + 0 : Nat) : Int) = a + (i : Int) * 1 := by rw [Int.mul_one]; rfl
    rw [e0]
    refine .cons _ _ ?_
    have e : ((λ j : Nat => a + ((i + j : Nat) : Int)) ∘ Nat.succ) = λ j => a + ((i + 1 + j : Nat) : Int) := funext λ j => by
     show a + ((i + (j + 1) : Nat) : Int) = _
     exact congrArg (λ z : Nat => a + (z : Int)) (by rw [Nat.add_assoc, Nat.add_comm 1 j])
    rw [e]; exact O7
theorem tS {h : Heap} : ∀ {l : List Int} {us : List Value}, IntsAre us l → VRs Γ μ n h (l.map .int) us
 | [], _, x => by cases x; exact .nil
 | _ :: _, _, x => by cases x with | cons _ t r => exact .cons (.int _ _) (tS r)
theorem Fa {α : Type} {a b : Option α} {r : α} (e : (a <|> b) = some r) : a = some r ∨ b = some r := by
 cases a with
 | none => exact .inr e
 | some x => exact .inl e
noncomputable def FT : V → Option (Int × Int)
 | .range a b => some (a, b)
 | _ => none
theorem Dz {a : V} {p : Int × Int} (e : FT a = some p) : a = .range p.1 p.2 := by cases a <;> cases e; rfl
noncomputable def Kp (a b : V) (σ : St) : Option (V × St) := (objOf a).bind λ j => (getL σ j).bind λ l => ((objOf b).bind λ k => (getL σ k).bind λ m => if l.length ≤ 100000 ∧ m.length ≤ 100000 then some (.none, σ.set j (.list (l ++ m))) else none) <|>
 ((FT b).bind λ p => if l.length ≤ 100000 ∧ (p.2 - p.1).toNat ≤ 1000 ∧ Builtin.Range.small p.1 p.2 1 = true then some (.none, σ.set j (.list (l ++ (rangeInts p.1 p.2).map .int))) else none)
noncomputable def uY : FF := tJ Kp
theorem C5 {A : Around} {E : Value → Shared → Prop} {Q : Value → Shared → Prop} {r : Addr} {a b : Int} {t u v : Tok} (hh : A.handled = none) (hr : IsRange s.heap r a b 1 t u v) (hsmall : Builtin.Range.small a b 1 = true) (hlen : (b - a).toNat ≤ 1000)
  (S : Addr) (items : Array Value) (c₀ : Nat) (hz : items.size ≤ 100000) (hS : s.heap.get? S = some { cls := .type "list", dict := none, data := .seq items c₀, slots := #[] })
  (hR : ∀ s' ys c', Alike s s' → (∀ b o, b ≠ S → s.heap.get? b = some o → s'.heap.get? b = some o) → s'.heap.get? S = some { cls := .type "list", dict := none, data := .seq (items ++ (ys : List Value).toArray) c', slots := #[] } → IntsAre ys (rangeInts a b) → Q .none s') :
  wpAny Γ.M A (call (.builtin "list.extend") [.ref S, .ref r]) Q E s := by
 have hSr : S ≠ r := λ e => by rw [e, hr] at hS; simp at hS
 have hSlt : S < s.heap.objs.size := Heap.lt_size hS
 have hSI : S ≠ s.heap.objs.size := Nat.ne_of_lt hSlt
 refine wpAny_call (codeAny_call_builtin PySem.F.slot_list_extend.plain PySem.F.entry_list_extend (PySem.F.slot_list_extend.check _ _ _ _ _ _ _ _ ⟨_, hS, rfl⟩ (PySem.F.args_list_extend_2 _ _) ?_))
 show wpAny _ _ (Builtin.List.listExtendWith (.ref S) (.ref r) .none) _ _ _
 have hn := PyProof.Rows.rangeSize_nat a b
 have key : ∀ (R : Result → Shared → Prop), (∀ s', Q .none s' → R (.ok (.ret .none)) s') → ∀ (h : Heap) (c₁ tk : Nat), IsRangeIter h s.heap.objs.size (a + ((0 : Nat) : Int) * 1) (((b - a).toNat : Int) - ((0 : Nat) : Int)) 1 → (∀ b o, b ≠ S → s.heap.get? b = some o → h.get? b = some o) →
   h.get? S = some { cls := .type "list", dict := none, data := .seq items c₁, slots := #[] } → codeAny Γ.M A (.builtin "list.extend.loop" ⟨[.ref S, .ref s.heap.objs.size, .none], []⟩) R { s with heap := h, toks := tk } := by
  intro R Qd h c₁ tk hit hk hS₁
  refine Ef hh S _ hSI .none a (b - a).toNat (b - a).toNat 0 _ items c₁ (by lia) (by lia) (by lia) hit hS₁ λ s' ys c' al hk' hS' hi => ?_
  refine Qd _ (hR s' ys c' ⟨al.gens, al.drawn, al.os⟩ (λ b o hb e => hk' b o hb (λ z => Nat.lt_irrefl _ (z ▸ Heap.lt_size e)) (hk b o hb e)) hS' ?_)
  unfold rangeInts
  simpa using hi
 unfold Builtin.List.listExtendWith
 refine wpAny_bind (wpAny_typeOf (T := "range") ⟨_, hr, rfl⟩ ?_)
 have h1 : Builtin.List.listSameRef (.ref S) (.ref r) = false := by simp [Builtin.List.listSameRef, hSr]
 have h2 : (Value.type "range" == Value.type "list") = false := by decide
 have h3 : (Value.type "range" == Value.type "tuple") = false := by decide
 simp only [h1, h2, h3, Bool.or_false, Bool.false_eq_true, if_false]
 refine wpAny_bind (wpAny_pyIter_range hr hsmall ?_)
 refine wpAny_bind (wpAny_holding (wpAny_hint_range (n := (b - a).toNat) (Heap.get?_push_of_some _ hr) hn (by lia) ?_))
 have hit₁ : IsRangeIter (s.heap.push { cls := .type "range_iterator", data := .fields #[rawInt a, rawInt (Builtin.Range.rangeSize a b 1), rawInt 1] }) s.heap.objs.size (a + ((0 : Nat) : Int) * 1) (((b - a).toNat : Int) - ((0 : Nat) : Int)) 1 := by
  show IsRangeIter _ _ _ _ _; rw [hn]; simpa using Heap.get?_push_size _ rfl
 have hS₁ := Heap.get?_push_of_some { cls := .type "range_iterator", data := .fields #[rawInt a, rawInt (Builtin.Range.rangeSize a b 1), rawInt 1] } hS
 refine wpAny_ite_split (λ _ => ?_) (λ _ => wpAny_pure ⟨plainId_quiet PySem.F.plain_extend_loop _, key _ (λ _ x => x) _ c₀ _ hit₁ (λ b o _ e => Heap.get?_push_of_some _ e) hS₁⟩)
 refine wpAny_bind (wpAny_rule ?_)
 refine wpAny_bind ?_
 show wpAny _ _ (updateSeq S (·.push .none) >>= λ _ => updateSeq S (·.pop)) _ _ _
 refine wpAny_bind (wpAny_updateSeq hS₁ rfl ?_ (by rw [sizeLine_eq]; lia) (by rw [Array.size_push, sizeLine_eq]; lia))
 have hS₂ := Heap.get?_update_self (Obj.mapSeq (·.push Value.none)) hS₁ rfl
 refine wpAny_updateSeq (hz := by rw [Array.size_push, sizeLine_eq]; lia) (_hz' := by simp; rw [sizeLine_eq]; lia) hS₂ rfl ?_
 have hS₃ := Heap.get?_update_self (Obj.mapSeq (·.pop)) hS₂ rfl
 refine wpAny_pure ⟨plainId_quiet PySem.F.plain_extend_loop _, key _ (λ _ x => x) _ _ _ ?_ (λ b o hb e => ?_) (by simpa [Obj.mapSeq] using hS₃)⟩
 ·exact (Heap.get?_update_other _ _ hSI).trans ((Heap.get?_update_other _ _ hSI).trans hit₁)
 ·exact (Heap.get?_update_other _ _ (Ne.symm hb)).trans ((Heap.get?_update_other _ _ (Ne.symm hb)).trans (Heap.get?_push_of_some _ e))
theorem bB.extend : bB Γ d (.builtin "list.extend") uY := .two λ A μ σ s a b ua ub v σ' Q E r H V W e c => by
 obtain ⟨j, hj, e0⟩ := Option.bind_eq_some_iff.mp e
 clear e
 cases rI hj
 obtain ⟨l, hl, e⟩ := Option.bind_eq_some_iff.mp e0
 clear e0
 cases V.kE.1
 obtain ⟨hj, items, k, hL, hs⟩ := H.list hl
 have e1 := hs.length.trans Array.length_toList
 rcases Fa e with e | e
 ·obtain ⟨j2, hj2, e2⟩ := Option.bind_eq_some_iff.mp e
  clear e
  cases rI hj2
  obtain ⟨m, hm, e3⟩ := Option.bind_eq_some_iff.mp e2
  obtain ⟨hz, e4⟩ := cK e3
  cases e4
  cases W.kE.1
  obtain ⟨hj2, items2, k2, hL2, hs2⟩ := H.list hm
  have e2 := hs2.length.trans Array.length_toList
  refine call_meets PySem.F.slot_list_extend ⟨_, hL, rfl⟩ PySem.F.entry_list_extend (PySem.F.args_list_extend_2 _ _)
   (PySem.AutoSeq1.list_extend_list_list_0 _ items k _ items2 k2 (by unfold Builtin.List.listTooLong; rw [sizeLine_eq]; simp; intro _; lia) (by rw [sizeLine_eq]; lia) (by rw [sizeLine_eq]; lia)) ⟨hL, hL2, ?_⟩
  obtain ⟨H', S'⟩ := oP H hj hL (λ x => x ++ items2) (by rw [Array.toList_append]; exact hs.append hs2) s.toks
  exact c _ μ _ H' S' .none
 ·obtain ⟨⟨x, y⟩, hp, e2⟩ := Option.bind_eq_some_iff.mp e
  clear e
  cases Dz hp
  obtain ⟨hz, e3⟩ := cK e2
  cases e3
  obtain ⟨_, _, _, _, rfl, hr⟩ := W.HN
  refine C5 r.handled hr hz.2.2 hz.2.1 _ items k (e1 ▸ hz.1) hL λ s' ys c' al hk hS' hi => c _ μ s' (H.LB hj hk λ kf => ⟨_, c', hS', ?_⟩) (by rw [rE]; exact Step.LB ⟨_, hj, rfl⟩ al hk ⟨_, hS'⟩) .none
  rw [Array.toList_append]
  exact (hs.mono kf (λ _ _ => rfl) (Nat.le_refl _)).append (tS hi)
end
section
variable {Γ : gT} {cx cy : Cx} {d : Nat} {env : Env} {μ aJ bA : Nat → Addr} {n n₁ n₂ : Nat} {ρ : Loc} {s s₁ s₂ : Shared} {σ σ₁ : St}
theorem kept {h' : Heap} (H : aY Γ μ σ s.heap) (hk : ∀ b o, s.heap.get? b = some o → h'.get? b = some o) (t : Nat) :
  aY Γ μ σ h' ∧ Step (Own μ σ.length) μ σ.length s μ σ.length { s with heap := h', toks := t } ∧ cL s.heap h' := by
 have kf : cL s.heap h' := λ a o e _ => hk a o e
 exact ⟨⟨λ b o e => hk b o (H.base b o e), λ i o e => (H.objs i o e).mono (λ ob e' => hk _ _ e') kf (λ _ _ => rfl) (Nat.le_refl _), H.inj, H.lo⟩,
  ⟨λ b o e _ => hk b o e, λ b o e => ⟨o, hk b o e⟩, λ _ _ => rfl, Nat.le_refl _, λ _ h1 h2 => absurd h2 (Nat.not_lt.mpr h1), rfl, rfl, rfl⟩, kf⟩
theorem i0 {h' : Heap} {v : V} {u : Value} {Q : Value → Shared → Prop} (H : aY Γ μ σ s.heap) (hk : ∀ b o, s.heap.get? b = some o → h'.get? b = some o) (t : Nat) (V : VR Γ μ σ.length h' v u) (c : Cont Γ μ σ s v σ Q) : Q u { s with heap := h', toks := t } :=
 have k := kept H hk t
 c u μ _ k.1 k.2.1 V
noncomputable def gR (a : V) (σ : St) : Option (V × St) := match a with
 | .obj i => (σ[i]?).bind λ o => match o with
  | .list l => if l.length ≤ 1000000 then some (.int l.length, σ) else none
  | .bX l => if l.length ≤ 1000000 then some (.int l.length, σ) else none
  | _ => none
 | .tup l => if l.length ≤ 1000000 then some (.int l.length, σ) else none
 | _ => none
theorem bB.len (G : m8 Γ) : bB Γ d (.builtin "len") (bY gR) := .one λ A μ σ s a ua v σ' Q E r H V e c => by
 cases a with
 | obj i =>
  obtain ⟨rfl, hi⟩ := V.kE
  obtain ⟨o, hl, e⟩ := Option.bind_eq_some_iff.mp e
  cases o with
  | list l =>
   obtain ⟨hlen, e⟩ := cK e
   cases e
   obtain ⟨hj, items, k, hL, hs⟩ := H.list (yR hl)
   have e1 := hs.length.trans Array.length_toList
   refine PySem.Calls.call_len_list hL.isList (by lia) ?_
   rw [← e1]
   exact c _ μ _ H (.toks _) (.int _ _)
  | bX l =>
   obtain ⟨hlen, e⟩ := cK e
   cases e
   obtain ⟨hj, kvs, hd, hr⟩ := H.bX (yT hl)
   have e1 := hr.length
   refine call_len_dict (H.CN G hj) hd (by lia) ?_
   rw [e1]
   exact c _ μ _ H (.toks _) (.int _ _)
  | aW _ => exact nS e
 | tup _ =>
  obtain ⟨hlen, e⟩ := cK e
  cases e
  obtain ⟨_, _, _, rfl, ht, hs⟩ := V.tupI
  have e1 := hs.length.trans Array.length_toList
  refine PyProof.Rows.len_tuple ⟨_, ht, rfl, _, rfl⟩ (by lia) ?_
  rw [← e1]
  exact c _ μ _ H (.toks _) (.int _ _)
 | _ => exact nS e
noncomputable def cW (a : V) (σ : St) : Option (V × St) := match a with | .int b => some (.range 0 b, σ) | _ => none
noncomputable def oV (a b : V) (σ : St) : Option (V × St) := match a, b with | .int a, .int b => some (.range a b, σ) | _, _ => none
theorem bB.gW : bB Γ d (.type "range") (bY cW) := .one λ A μ σ s a ua v σ' Q E r H V e c => by
 obtain ⟨x, rfl, e2⟩ := La e
 cases e2
 obtain ⟨_, rfl⟩ := V.gA
 refine call_range_1 ?_
 exact i0 H (λ b o e => Heap.get?_push_of_some _ e) _ (.range (Heap.get?_push_size _ rfl)) c
theorem bB.CJ : bB Γ d (.type "range") (tJ oV) := .two λ A μ σ s a b ua ub v σ' Q E r H V W e c => by
 obtain ⟨x, y, rfl, rfl, e2⟩ := nH e
 cases e2
 obtain ⟨_, rfl⟩ := V.gA
 obtain ⟨_, rfl⟩ := W.gA
 refine call_range_2 ?_
 exact i0 H (λ b o e => Heap.get?_push_of_some _ e) _ (.range (Heap.get?_push_size _ rfl)) c
noncomputable def NU (a b : V) (σ : St) : Option (V × St) := match a, b with | .int a, .int b => some (.int (if b < a then b else a), σ) | _, _ => none
noncomputable def NV (a b : V) (σ : St) : Option (V × St) := match a, b with | .int a, .int b => some (.int (if b > a then b else a), σ) | _, _ => none
theorem bB.min : bB Γ d (.builtin "min") (tJ NU) := .two λ A μ σ s a b ua ub v σ' Q E r H V W e c => by
 obtain ⟨x, y, rfl, rfl, e2⟩ := nH e
 cases e2
 obtain ⟨_, rfl⟩ := V.gA
 obtain ⟨_, rfl⟩ := W.gA
 refine min_two_ints r.handled λ h' tk hk => i0 H hk tk ?_ c
 split <;> exact .int _ _
theorem bB.max : bB Γ d (.builtin "max") (tJ NV) := .two λ A μ σ s a b ua ub v σ' Q E r H V W e c => by
 obtain ⟨x, y, rfl, rfl, e2⟩ := nH e
 cases e2
 obtain ⟨_, rfl⟩ := V.gA
 obtain ⟨_, rfl⟩ := W.gA
 refine max_two_ints r.handled λ h' tk hk => i0 H hk tk ?_ c
 split <;> exact .int _ _
noncomputable def Mn (a : V) (σ : St) : Option (V × St) := match a with | .int a => some (.int (if a < 0 then -a else a), σ) | _ => none
theorem bB.abs : bB Γ d (.builtin "abs") (bY Mn) := .one λ A μ σ s a ua v σ' Q E r H V e c => by
 obtain ⟨x, rfl, e2⟩ := La e
 cases e2
 obtain ⟨_, rfl⟩ := V.gA
 exact call_abs_int λ u tk => c _ μ _ H (.toks _) (.int _ _)
noncomputable def intsOf : List V → Option (List Int)
 | [] => some []
 | .int i :: l => (intsOf l).map (i :: ·)
 | _ :: _ => none
theorem DW {v : V} {l : List V} {ns : List Int} (e : intsOf (v :: l) = some ns) : E2 λ i ms => A3 (v = .int i) (intsOf l = some ms) (ns = i :: ms) := by
 cases v with
 | int _ =>
  obtain ⟨ms, hm, e⟩ := Option.map_eq_some_iff.mp e
  exact ⟨_, _, rfl, hm, e.symm⟩
 | _ => exact nS e
theorem tE {h : Heap} {l : List V} : ∀ {us : List Value} {ns : List Int}, VRs Γ μ n h l us → intsOf l = some ns → IntsAre us ns := by
 induction l with
 | nil => intro us ns x e; cases x.Fi; cases e; exact .nil
 | cons v l ih =>
  intro us ns x e
  obtain ⟨i, ms, rfl, hm, rfl⟩ := DW e
  obtain ⟨_, _, rfl, a, b⟩ := x.xF
  obtain ⟨_, rfl⟩ := a.gA
  exact .cons _ _ (ih b hm)
noncomputable def vS (l : List Int) : Int := l.foldl (· + ·) 0
noncomputable def Fw (a : V) (σ : St) : Option (V × St) := match a with
 | .obj i => (getL σ i).bind λ l => (intsOf l).bind λ ns => if ns.length ≤ 1000 ∧ ns.all (λ i => decide (-1000000000 ≤ i ∧ i ≤ 1000000000)) = true then some (.int (vS ns), σ) else none
 | _ => none
theorem wU (ns : List Int) : ∀ j, j ≤ ns.length → preSum (λ i => ns.getD i 0) j = vS (ns.take j)
 | 0, _ => by simp [preSum, vS]
 | j + 1, h => by
  have hj : j < ns.length := h
  rw [preSum, wU ns j (Nat.le_of_lt hj), List.take_succ_eq_append_getElem hj]
  unfold vS
  rw [List.foldl_append]
  simp [hj]
theorem uB {val : Nat → Int} {n : Nat} (h : ∀ i, i < n → -1000000000 ≤ val i ∧ val i ≤ 1000000000) : ∀ j, j ≤ n → -(1000000000 * (j : Int)) ≤ preSum val j ∧ preSum val j ≤ 1000000000 * (j : Int)
 | 0, _ => by simp [preSum]
 | j + 1, hj => by
  have a := uB h j (by lia)
  have b := h j hj
  unfold preSum
  push_cast
  lia
theorem isList {h : Heap} {a : Addr} {items : Array Value} {k : Nat} (x : IsL h a items k) : h.IsList a items := ⟨_, x, rfl, _, rfl⟩
theorem bB.sum : bB Γ d (.builtin "sum") (bY Fw) := .one λ A μ σ s a ua v σ' Q E r H V e c => by
 unfold Fw at e
 split at e
 case h_2 => cases e
 obtain ⟨l, hl, e⟩ := Option.bind_eq_some_iff.mp e
 obtain ⟨ns, hns, e⟩ := Option.bind_eq_some_iff.mp e
 split at e
 case isFalse => cases e
 rename_i hz
 cases e
 obtain ⟨rfl, hi⟩ := V.kE
 obtain ⟨hj, items, k, hL, hs⟩ := H.list hl
 have hI := tE hs hns
 have hlen := hI.length
 simp only [Array.length_toList] at hlen
 have hlt := Heap.lt_size hL
 have hne : μ _ ≠ s.heap.objs.size := Nat.ne_of_lt hlt
 refine call_sum_walk ?_
 refine wpAny_pyIter_list (isList hL) ⟨_, _, _, _, _, _, λ i => ns.getD i 0, rfl, Walks.list (A := A.in1) r.handled s.heap.objs.size _ hne items, ?_, ?_, ?_, ?_, ?_⟩
 ·exact ⟨⟨_, Heap.get?_push_size _ rfl, rfl, rfl⟩, ⟨_, Heap.get?_push_of_some _ hL, rfl, _, rfl⟩⟩
 ·intro b hb
  show b < (s.heap.objs.push _).size
  rw [Array.size_push]
  simp at hb
  rcases hb with rfl | rfl <;> first | exact Nat.lt_succ_self _ | exact Nat.lt_succ_of_lt hlt
 ·intro i v hv
  rw [← Array.getElem?_toList] at hv
  exact hI.int_at i v hv
 ·have hb : ∀ i, i < items.size → -1000000000 ≤ ns.getD i 0 ∧ ns.getD i 0 ≤ 1000000000 := λ i hi => by
   have hm : ns.getD i 0 ∈ ns := by
    have hi' : i < ns.length := by lia
    simp [hi']
   simpa using List.all_eq_true.mp hz.2 _ hm
  intro j hj
  have q := uB hb (j + 1) hj
  have q2 := hb j hj
  unfold InLong
  dsimp only
  constructor <;> constructor <;> lia
 ·intro h' tk t' hk
  have e3 : preSum (λ i => ns.getD i 0) items.size = vS ns := by
   rw [hlen]; exact (wU ns _ (Nat.le_refl _)).trans (by rw [List.take_length])
  rw [e3]
  refine i0 H (λ b o e => hk b o (λ z => ?_) (Heap.get?_push_of_some _ e)) tk (.int _ _) c
  simp at z
  rw [z] at e
  exact Nat.lt_irrefl _ (Heap.lt_size e)
end
end Mine
end
section
open PySem PySem.W PyProof.Rows PySem.Spec
namespace Mine
section
variable {prog : Program} {w : World} {A : Around} {E : Value → Shared → Prop} {s : Shared}
theorem zF {l S : Addr} {items : Array Value} {ns : List Int} {led : Bool} {odict : Option Addr} {oslots : Array (Option Value)} {nl : Nat} {R : Value → Shared → Prop} (hh : A.handled = none) (hS : s.heap.get? S = some { cls := .type "set", dict := none, data := .set #[] 0 (.fresh 0 0 led) }) (hz : s.heap.objs.size = S + 1)
  (hol : s.heap.get? l = some { cls := .type "tuple", dict := odict, data := .seq items nl, slots := oslots }) (hlS : l < S) (hi : PyProof.Rows.IntsAre items.toList ns) (hb : items.size + 1 < scanBound)
  (hR : ∀ (h' : Heap) (tk : Nat), h'.SetOf (intKind prog w) S (λ k' => (PyProof.Rows.firstMet (λ i => ns.getD i 0) items.size).any (· == k')) (PyProof.Rows.firstMet (λ i => ns.getD i 0) items.size).length → (∀ b o, b < S → s.heap.get? b = some o → h'.get? b = some o) → R .none { s with heap := h', toks := tk }) :
  wpAny (model prog w) A.in1.in1 (Builtin.«set.__init__» ⟨[.ref S, .ref l], []⟩) (λ fin s' => match fin with | .done f => wants R E (.ok f) s' | .again c' => c'.quiet = true ∧ codeAny (model prog w) A.in1 c' (wants R E) s') (λ e s' => wants R E (.error e) s') s := by
 have hsls := PySem.F.sub_tuple_set
 have hslf := PySem.F.sub_tuple_frozenset
 have hne : (Value.type "tuple" == Value.type "dict") = false := by decide
 have hl1 : s.heap.IsTuple l items := ⟨_, hol, rfl, nl, rfl⟩
 unfold Builtin.«set.__init__» noKeywords Builtin.Frozenset.updateFrom
 generalize hPI : pyIter = PI
 wp_walk
 subst hPI
 refine wpAny_pyIter_tuple hl1 ?_
 refine wpAny_bind (wpAny_runValue ?_)
 have hh3 : A.in1.in1.in1.handled = none := by simp [hh]
 have hneI : l ≠ s.heap.objs.size := by
  rw [hz]; exact Nat.ne_of_lt (Nat.lt_succ_of_lt hlS)
 have hSf : S ∉ [s.heap.objs.size, l] := by
  rw [hz]
  exact λ z => (List.mem_cons.mp z).elim (Nat.ne_of_lt (Nat.lt_succ_self _)) λ z => Nat.ne_of_gt hlS (List.mem_singleton.mp z)
 have hval : ∀ (i : Nat) (v : Value), items[i]? = some v → ∃ t, v = .int ((λ i => ns.getD i 0) i) t := λ i v hv =>
  PyProof.Rows.IntsAre.int_at hi i v (by rw [Array.getElem?_toList]; exact hv)
 refine PyProof.Rows.codeAny_set_update_loopS ((Walks.tuple hh3 _ l hneI items).toS) S
  hSf (λ i => ns.getD i 0) hval hb (items.size - 0) 0 _ (by lia) (Nat.zero_le _)
  ⟨⟨_, Heap.get?_push_size _ rfl, rfl, rfl⟩, (hl1.push _)⟩ ?hS0 ?hR
 case hS0 =>
  have hget : (s.heap.push { cls := .type "tuple_iterator", data := .fields #[.ref l, .int 0 0] }).get? S
    = some { cls := .type "set", dict := none, data := .set #[] 0 (.fresh 0 0 led) } := Heap.get?_push_of_some _ hS
  exact PyProof.Rows.SetOf_congr ((PyProof.Rows.setObjOf_fresh (knd := intKind prog w) led).setOf hget (by unfold scanBound; lia)) (λ _ => rfl) rfl
 case hR =>
  intro s' hm hS'
  obtain ⟨h', g', d', tk', os'⟩ := s'
  have eg : g' = s.gens := hm.gens
  have ed : d' = s.drawn := hm.drawn
  have eo : os' = s.os := hm.os
  subst eg; subst ed; subst eo
  show wpAny _ _ _ _ _ _
  refine wpAny_pure ?_
  show wpAny _ _ (ret Value.none) _ _ _
  refine wpAny_pure (hR h' tk' hS' λ b o hb e => ?_)
  have hb1 : b ≠ S := Nat.ne_of_lt hb
  have hb2 : b ≠ s.heap.objs.size := by
   rw [hz]; exact Nat.ne_of_lt (Nat.lt_succ_of_lt hb)
  exact hm.heap b o (λ z => (List.mem_cons.mp z).elim hb1 λ z => hb2 (List.mem_singleton.mp z)) (Heap.get?_push_of_some _ e)
theorem AK {l : Addr} {items : Array Value} {ns : List Int} {Q : Value → Shared → Prop}
  (hh : A.handled = none) (hl : s.heap.IsTuple l items) (hi : PyProof.Rows.IntsAre items.toList ns) (hb : items.size + 1 < scanBound)
  (h : ∀ (h' : Heap) (tk : Nat), h'.SetOf (intKind prog w) s.heap.objs.size (λ k' => (PyProof.Rows.firstMet (λ i => ns.getD i 0) items.size).any (· == k')) (PyProof.Rows.firstMet (λ i => ns.getD i 0) items.size).length →
   (∀ b o, b < s.heap.objs.size → s.heap.get? b = some o → h'.get? b = some o) → Q (.ref s.heap.objs.size) { s with heap := h', toks := tk }) :
  wpAny (model prog w) A (call (.type "set") [.ref l]) Q E s := by
 obtain ⟨c, tl, hmro⟩ := F.called_set.mro
 have hmade := F.called_set.made
 have hsub := F.called_set.sub
 refine wpAny_call (codeAny_of_tree ?_)
 show wpAny _ _ (callAny (.type "set") _) _ _ _
 refine wpAny_pure ⟨Code.quiet_builtin _ (by decide +kernel), codeAny_builtin F.entry_type_call ?_⟩
 rw [Around.under_plain (weight_type_call_type "set" [.ref l] []) rfl]
 have h1 := F.called_set.notType
 have h2 := F.called_set.canCreate
 have hct := F.typeCall_set_1 (.ref l)
 repeat (any_goals (first | assumption | wp_step))
 refine codeAny_mono (code_set_new_1 (.ref l) (E := E) (Q₁ := λ obj s₁ => ∃ led : Bool, obj = .ref s.heap.objs.size ∧ s₁ = { s with heap := s.heap.push { cls := .type "set", dict := none, data := .set #[] 0 (.fresh 0 0 led) } }) λ led => ⟨led, rfl, rfl⟩) λ r s₁ hr => ?_
 cases r with
 | error e => exact hr
 | ok fl =>
  cases fl with
  | ret obj =>
   obtain ⟨led, rfl, rfl⟩ := hr
   have hS : (s.heap.push { cls := .type "set", dict := none, data := .set #[] 0 (.fresh 0 0 led) }).get? s.heap.objs.size = some { cls := .type "set", dict := none, data := .set #[] 0 (.fresh 0 0 led) } := Heap.get?_push_size _ rfl
   have hT : Shared.TypeIs { s with heap := s.heap.push { cls := .type "set", dict := none, data := .set #[] 0 (.fresh 0 0 led) } } (.ref s.heap.objs.size) "set" := ⟨_, hS, rfl⟩
   have hk1 : ∀ b o, s.heap.get? b = some o → (s.heap.push { cls := .type "set", dict := none, data := .set #[] 0 (.fresh 0 0 led) }).get? b = some o := λ b o e => Heap.get?_push_of_some _ e
   have hz1 : (s.heap.push { cls := .type "set", dict := none, data := .set #[] 0 (.fresh 0 0 led) }).objs.size = s.heap.objs.size + 1 := Heap.size_push ..
   generalize s.heap.push { cls := .type "set", dict := none, data := .set #[] 0 (.fresh 0 0 led) } = h1 at hS hT hk1 hz1 ⊢
   have hli := F.called_set.init.lookup
   have hbi := F.called_set.init.bind (.ref s.heap.objs.size)
   repeat (any_goals (first | assumption | wp_step))
   refine codeAny_mono (codeAny_call_builtin (R := wants (λ r s₂ => r = .none ∧ ∃ h' tk, s₂ = { s with heap := h', toks := tk } ∧
     h'.SetOf (intKind prog w) s.heap.objs.size (λ k' => (PyProof.Rows.firstMet (λ i => ns.getD i 0) items.size).any (· == k')) (PyProof.Rows.firstMet (λ i => ns.getD i 0) items.size).length ∧
     (∀ b o, b < s.heap.objs.size → s.heap.get? b = some o → h'.get? b = some o)) E) F.called_set.init.plain F.entry_set_init (check_set_init_1 hT ?_)) λ r₂ s₂ hr₂ => ?_
   ·obtain ⟨ol, hol, hcl, nl, hdl⟩ := hl
    obtain ⟨ocls, odict, odata, oslots⟩ := ol
    simp only at hcl hdl
    subst hcl; subst hdl
    have hol' : h1.get? l = some { cls := .type "tuple", dict := odict, data := .seq items nl, slots := oslots } := hk1 _ _ hol
    exact zF hh hS hz1 hol' (Heap.lt_size hol) hi hb λ h' tk hS' hk => ⟨rfl, h', tk, rfl, hS', λ b o hb e => hk b o hb (hk1 b o e)⟩
   ·cases r₂ with
    | error e => exact hr₂
    | ok fl₂ =>
     cases fl₂ with
     | ret r =>
      obtain ⟨rfl, h', tk, rfl, hS', hk'⟩ := hr₂
      repeat (any_goals (first | assumption | wp_step))
      exact h _ _ hS' hk'
     | _ => exact hr₂.elim
  | _ => exact hr.elim
end
section
variable {Γ : gT} {cx cy : Cx} {d : Nat} {env : Env} {μ aJ bA : Nat → Addr} {n n₁ n₂ : Nat} {ρ : Loc} {s s₁ s₂ : Shared} {σ σ₁ : St}
noncomputable def LJ (ns : List Int) : List Int := ns.foldl step_dedup []
theorem C3 (ns : List Int) : firstMet (λ i => ns.getD i 0) ns.length = LJ ns := by
 unfold firstMet LJ
 congr 1
 apply List.ext_getElem
 ·simp
 ·intro i h1 h2
  simp at h1
  simp [h1]
noncomputable def itemsOf (v : V) (σ : St) : Option (List V) := match v with
 | .obj i => getL σ i
 | .tup l => some l
 | _ => none
noncomputable def oW (v : V) (σ : St) : Option (V × St) := (itemsOf v σ).bind λ l => (intsOf l).bind λ ns => if ns.length ≤ 30 then some (.int (LJ ns).length, σ) else none
theorem CR {A : Around} {E : Value → Shared → Prop} {Q : Value → Shared → Prop} {v r : V} {u : Value} {σ' : St} (hh : A.handled = none) (H : aY Γ μ σ s.heap) (V : VR Γ μ σ.length s.heap v u) (e : oW v σ = some (r, σ')) (c : Cont Γ μ σ s r σ' Q) :
  wpAny Γ.M A (call (.type "set") [u]) (λ S s' => (∀ b o, Γ.h₀.get? b = some o → s'.heap.get? b = some o) ∧ wpAny Γ.M A (call (.builtin "len") [S]) Q E s') E s := by
 unfold oW at e
 obtain ⟨l, hl, e⟩ := Option.bind_eq_some_iff.mp e
 obtain ⟨ns, hns, e⟩ := Option.bind_eq_some_iff.mp e
 split at e
 case isFalse => cases e
 rename_i hz
 cases e
 have fin : ∀ (items : Array Value) (h' : Heap) (tk : Nat), items.size = ns.length → h'.SetOf (intKind Γ.prog Γ.w) s.heap.objs.size (λ k' => (firstMet (λ i => ns.getD i 0) items.size).any (· == k')) (firstMet (λ i => ns.getD i 0) items.size).length →
   (∀ b o, b < s.heap.objs.size → s.heap.get? b = some o → h'.get? b = some o) → (∀ b o, Γ.h₀.get? b = some o → h'.get? b = some o) ∧ wpAny Γ.M A (call (.builtin "len") [.ref s.heap.objs.size]) Q E { s with heap := h', toks := tk } := by
  intro items h' tk hsz hS hk
  have hk' : ∀ b o, s.heap.get? b = some o → h'.get? b = some o := λ b o e => hk b o (Heap.lt_size e) e
  refine ⟨λ b o e => hk' b o (H.base b o e), ?_⟩
  obtain ⟨o, es, ep, t, ho, hex, hd, _, _, hb, hf, hn⟩ := hS
  refine call_len_set ho hex hd hf (by have : scanBound < 2 ^ 62 := (by decide); lia) ?_
  rw [hn, hsz, C3]
  exact i0 H hk' _ (.int _ _) c
 unfold itemsOf at hl
 split at hl
 ·cases V with
  | obj hi =>
   obtain ⟨hj, items, k, hL, hs⟩ := H.list hl
   have hI := tE hs hns
   have hlen := hI.length
   rw [Array.length_toList] at hlen
   exact call_set_list hh (isList hL) hI (by have : 40 < scanBound := (by decide); lia) λ h' tk hS hk => fin items h' tk hlen hS hk
 ·cases hl
  obtain ⟨_, _, _, rfl, ht, hs⟩ := V.tupI
  rename_i items k
  have hI := tE hs hns
  have hlen := hI.length
  rw [Array.length_toList] at hlen
  exact AK hh ⟨_, ht, rfl, _, rfl⟩ hI (by have : 40 < scanBound := (by decide); lia) λ h' tk hS hk => fin items h' tk hlen hS hk
 ·cases hl
theorem plain1 {e : PySem.Expr} (h : ∀ env, starEach [e] env = [(false, eval e env)]) : Plain [e] := λ env => by rw [h]; rfl
theorem aC.tC {x y : Str} {p p2 pos pos2 : Pos} {e : PySem.Expr} {f : X V} (Nl : cY Γ x (.builtin "len")) (Ns : cY Γ y (.type "set")) (h1 : cx.sc.names.lookup x = some .globalImplicit) (h2 : cx.sc.names.lookup y = some .globalImplicit) (hd1 : (x == ("__debug__" : Str)) = false) (hd2 : (y == ("__debug__" : Str)) = false)
  (s1 : ∀ env, starEach [.Call (.Name y p2) [e] [] pos2] env = [(false, eval (.Call (.Name y p2) [e] [] pos2) env)]) (s2 : ∀ env, starEach [e] env = [(false, eval e env)]) (hf : aC Γ d cx e f) :
  aC Γ d cx (.Call (.Name x p) [.Call (.Name y p2) [e] [] pos2] [] pos) (X.bind f λ v => X.lift (oW v)) := λ A env μ ρ σ s v σ' Q E r H R ee c => by
 obtain ⟨a, σ₁, e1, ee⟩ := X.bind_some ee
 refine wpAny_Call_NameR (mW Nl h1 hd1 H R ?_)
 refine callWith_of (P := λ h => ∀ b o, Γ.h₀.get? b = some o → h.get? b = some o) (by rw [mI, plain1 s1 env]; rfl) kK.builtin (kH (plain1 s1) ?_)
 refine args_cons ?_ (s1 env)
 refine wpAny_Call_NameR (mW Ns h2 hd2 H R ?_)
 refine callWith_of (P := λ h => ∀ b o, Γ.h₀.get? b = some o → h.get? b = some o) (by rw [mI, plain1 s2 env]; rfl) kK.type (kH (plain1 s2) ?_)
 refine args_cons ?_ (s2 env)
 refine hf A env μ ρ σ s a σ₁ _ E r H R e1 λ u aJ s₁ H₁ S₁ cQ => args_nil ⟨H₁.base, ?_⟩
 refine wpAny_mono (CR r.handled H₁ cQ ee λ u bA s₂ cP S₂ eZ => c u bA s₂ cP (S₁.then S₂) eZ) (λ S s' q => args_nil q) λ _ _ q => q
noncomputable def boolsOf : List V → Option (List Bool)
 | [] => some []
 | .bool i :: l => (boolsOf l).map (i :: ·)
 | _ :: _ => none
theorem Db {v : V} {l : List V} {ns : List Bool} (e : boolsOf (v :: l) = some ns) : E2 λ i ms => A3 (v = .bool i) (boolsOf l = some ms) (ns = i :: ms) := by
 cases v with
 | bool _ =>
  obtain ⟨ms, hm, e⟩ := Option.map_eq_some_iff.mp e
  exact ⟨_, _, rfl, hm, e.symm⟩
 | _ => exact nS e
theorem FE {h : Heap} {l : List V} : ∀ {us : List Value} {ns : List Bool}, VRs Γ μ n h l us → boolsOf l = some ns → us.length = ns.length ∧ ∀ (i : Nat) (v : Value), us[i]? = some v → v = .bool (ns.getD i false) := by
 induction l with
 | nil => intro us ns x e; cases x.Fi; cases e; exact ⟨rfl, λ i v h => by cases h⟩
 | cons v l ih =>
  intro us ns x e
  obtain ⟨i, ms, rfl, hm, rfl⟩ := Db e
  obtain ⟨_, _, rfl, a, b⟩ := x.xF
  cases a.vC
  obtain ⟨h1, h2⟩ := ih b hm
  refine ⟨congrArg (· + 1) h1, λ i v hv => ?_⟩
  cases i with
  | zero => cases hv; rfl
  | succ i => exact h2 i v hv
noncomputable def IL (a : V) (σ : St) : Option (V × St) := match a with
 | .obj i => (getL σ i).bind λ l => (boolsOf l).bind λ ns => if ns.length ≤ 100000 then some (.bool (ns.all id), σ) else none
 | _ => none
theorem range_all (ns : List Bool) : (List.range ns.length).all (λ i => ns.getD i false) = ns.all id := by
 rw [Bool.eq_iff_iff]
 simp only [List.all_eq_true, List.mem_range]
 constructor
 ·intro h b hb
  obtain ⟨i, hi, rfl⟩ := List.getElem_of_mem hb
  have := h i hi
  simpa [hi] using this
 ·intro h i hi
  have := h ns[i] (List.getElem_mem hi)
  simpa [hi] using this
theorem bB.all : bB Γ d (.builtin "all") (bY IL) := .one λ A μ σ s a ua v σ' Q E r H V e c => by
 unfold IL at e
 split at e
 case h_2 => cases e
 obtain ⟨l, hl, e⟩ := Option.bind_eq_some_iff.mp e
 obtain ⟨ns, hns, e⟩ := Option.bind_eq_some_iff.mp e
 split at e
 case isFalse => cases e
 rename_i hz
 cases e
 obtain ⟨rfl, hi⟩ := V.kE
 obtain ⟨hj, items, k, hL, hs⟩ := H.list hl
 obtain ⟨hlen, hI⟩ := FE hs hns
 simp only [Array.length_toList] at hlen
 have hlt := Heap.lt_size hL
 have hne : μ _ ≠ s.heap.objs.size := Nat.ne_of_lt hlt
 refine call_all_walk ?_
 refine wpAny_pyIter_list (isList hL) ⟨_, _, _, _, _, _, λ i => ns.getD i false, rfl, Walks.list (A := A.in1) r.handled s.heap.objs.size _ hne items, ?_, ?_, ?_⟩
 ·exact ⟨⟨_, Heap.get?_push_size _ rfl, rfl, rfl⟩, ⟨_, Heap.get?_push_of_some _ hL, rfl, _, rfl⟩⟩
 ·intro i v s Q E hv hQ
  rw [← Array.getElem?_toList] at hv
  rw [hI i v hv]
  exact wpAny_truthy_bool hQ
 ·intro h' tk hk
  rw [hlen, range_all]
  refine i0 H (λ b o e => hk b o (λ z => ?_) (Heap.get?_push_of_some _ e)) tk (.bool _) c
  simp at z
  rw [z] at e
  exact Nat.lt_irrefl _ (Heap.lt_size e)
theorem vA {h' : Heap} {l : List V} {items : Array Value} {Q : Value → Shared → Prop} (H : aY Γ μ σ s.heap) (hk : ∀ b o, s.heap.get? b = some o → h'.get? b = some o) (hl : VRs Γ μ σ.length s.heap l items.toList) (c : Cont Γ μ σ s (.tup l) σ Q) (t : Nat) :
  Q (.ref h'.objs.size) { s with heap := h'.push { cls := .type "tuple", data := .seq items }, toks := t } :=
 have k := kept H hk t
 i0 H (λ b o e => Heap.get?_push_of_some _ (hk b o e)) t (.tup (IsT.new _ _) ((hl.mono k.2.2 (λ _ _ => rfl) (Nat.le_refl _)).mono (.push _ _) (λ _ _ => rfl) (Nat.le_refl _))) c
theorem Bw {A : Around} {E : Value → Shared → Prop} {R : List Value → Shared → Prop} {r : Addr} {a b : Int} {t u v : Tok} (hh : A.handled = none) (hr : IsRange s.heap r a b 1 t u v) (hsmall : Builtin.Range.small a b 1 = true) (hlen : (b - a).toNat ≤ 1000)
  (h : ∀ (h' : Heap) (tk : Nat) (acc : Array Value), (∀ b o, s.heap.get? b = some o → h'.get? b = some o) → ItemsOf (λ i v => ∃ t, v = .int (a + i * 1) t) acc (b - a).toNat → R acc.toList { s with heap := h', toks := tk }) :
  wpAny Γ.M A (collect (.ref r)) R E s := by
 unfold collect
 refine wpAny_bind (wpAny_runValue (codeAny_builtin entry_proto_collect' ?_))
 rw [Around.under_plainId PySem.F.plain_proto_collect _]
 show wpAny _ A.in1 (newList [] >>= λ l => again (.builtin "list.__iadd__" ⟨[l, .ref r], []⟩)) _ _ s
 refine wpAny_bind (wpAny_newObj_type ?_)
 refine wpAny_pure ⟨plainId_quiet PySem.F.plain_list_iadd _, codeAny_builtin entry_list_iadd' ?_⟩
 rw [Around.under_plainId PySem.F.plain_list_iadd _]
 have hS₁ : (s.heap.push { cls := .type "list", data := .seq ([] : List Value).toArray }).get? s.heap.objs.size = some { cls := .type "list", data := .seq #[] } := Heap.get?_push_size _ rfl
 show wpAny _ A.in1 (Builtin.List.listExtendWith (.ref s.heap.objs.size) (.ref r) (.ref s.heap.objs.size)) _ _ _
 have key := wpAny_extend_range (prog := Γ.prog) (w := Γ.w) (A := A) (s := { s with heap := s.heap.push { cls := .type "list", data := .seq ([] : List Value).toArray } }) (n := (b - a).toNat)
  (R := λ (q : Result) (s' : Shared) => ∃ (h' : Heap) (tk : Nat) (acc' : Array Value) (c' : Nat), q = .ok (.ret (.ref s.heap.objs.size)) ∧ s' = { s with heap := h', toks := tk } ∧
   (∀ b o, s.heap.get? b = some o → h'.get? b = some o) ∧ h'.get? s.heap.objs.size = some { cls := .type "list", dict := none, data := .seq acc' c', slots := #[] } ∧ ItemsOf (λ i v => ∃ t, v = .int (a + i * 1) t) acc' (b - a).toNat)
  hh (Heap.get?_push_of_some _ hr) hsmall (PyProof.Rows.rangeSize_nat a b) (by lia) s.heap.objs.size (.ref s.heap.objs.size) 0 hS₁
  (λ h' tk acc' c' hk hS' hacc => ⟨h', tk, acc', c', rfl, rfl, λ b o e => hk b o (Nat.ne_of_lt (Heap.lt_size e)) (Heap.get?_push_of_some _ e), hS', hacc⟩)
 refine wpAny_mono key (λ fin s' x => ?_) λ e s' x => ?_
 ·cases fin with
  | done f =>
   obtain ⟨h', tk, acc', c', e, rfl, hk, hS', hacc⟩ := x
   cases e
   show wpAny _ A (load s.heap.objs.size >>= _) _ _ _
   refine wpAny_bind (wpAny_load hS' ?_)
   exact wpAny_pure (h h' tk acc' hk hacc)
  | again c₁ =>
   refine ⟨x.1, codeAny_mono x.2 λ q s₂ y => ?_⟩
   obtain ⟨h', tk, acc', c', rfl, rfl, hk, hS', hacc⟩ := y
   show wpAny _ A (load s.heap.objs.size >>= _) _ _ _
   refine wpAny_bind (wpAny_load hS' ?_)
   exact wpAny_pure (h h' tk acc' hk hacc)
 ·obtain ⟨_, _, _, _, e', _⟩ := x
  cases e'
end
end Mine
end
section
open PySem PySem.W PyProof.Rows
open AutoSeq1 (wpAny_loadPart')
namespace Mine
section
variable {Γ : gT} {cx cy : Cx} {d : Nat} {env : Env} {μ aJ bA : Nat → Addr} {n n₁ n₂ : Nat} {ρ : Loc} {s s₁ s₂ : Shared} {σ σ₁ : St}
theorem G6 {a : Int} : ∀ (m : Nat) (acc : Array Value), ItemsOf (λ i v => ∃ t, v = .int (a + i * 1) t) acc m → IntsAre acc.toList ((List.range m).map λ i => a + (i : Nat)) := by
 intro m acc h
 obtain ⟨h1, h2⟩ := h
 have key : ∀ (l : List Value) (k : Nat), (∀ (j : Nat) (v : Value), l[j]? = some v → ∃ t, v = .int (a + ((k + j : Nat) : Int)) t) → IntsAre l ((List.range l.length).map λ i => a + ((k + i : Nat) : Int)) := by
  intro l
  induction l with
  | nil => intro k h; exact .nil
  | cons v l ih =>
   intro k h
   obtain ⟨t, ht⟩ := h 0 v rfl
   subst ht
   rw [List.length_cons, List.range_succ_eq_map, List.map_cons, List.map_map]
   refine .cons _ _ ?_
   have e : ((λ i : Nat => a + ((k + i : Nat) : Int)) ∘ Nat.succ) = λ i => a + ((k + 1 + i : Nat) : Int) := funext λ j => by
    show a + ((k + (j + 1) : Nat) : Int) = _
    congr 2; lia
   rw [e]
   refine ih (k + 1) λ j v hv => ?_
   obtain ⟨t, ht⟩ := h (j + 1) v (by simpa using hv)
   exact ⟨t, by rw [ht]; congr 3; lia⟩
 have := key acc.toList 0 λ j v hv => by
  obtain ⟨t, ht⟩ := h2 j v (by rw [← Array.getElem?_toList]; exact hv)
  exact ⟨t, by rw [ht]; simp⟩
 rw [Array.length_toList, h1] at this
 simpa using this
theorem tuple_range {A : Around} {E : Value → Shared → Prop} {Q : Value → Shared → Prop} {r : Addr} {a b : Int} {t u v : Tok} (hh : A.handled = none) (hr : IsRange s.heap r a b 1 t u v) (hsmall : Builtin.Range.small a b 1 = true) (hlen : (b - a).toNat ≤ 1000)
  (h : ∀ (h' : Heap) (tk : Nat) (acc : Array Value), (∀ b o, s.heap.get? b = some o → h'.get? b = some o) → IntsAre acc.toList (rangeInts a b) → Q (.ref h'.objs.size) { s with heap := h'.push { cls := .type "tuple", data := .seq acc }, toks := tk }) :
  wpAny Γ.M A (call (.type "tuple") [.ref r]) Q E s := by
 refine callType_codes (Q₁ := λ obj s₁ => s₁.TypeIs obj "tuple" ∧ Q obj s₁) PySem.F.called_tuple (PySem.F.typeCall_tuple_1 _) PySem.F.entry_object_init ?_ λ obj s₁ h₁ => ⟨h₁.1, PySem.F.args_object_init_2 obj _, object_init_meets PySem.F.called_tuple.init.lookup PySem.F.called_tuple.made (by decide) Γ.prog Γ.w A.in1 _ s₁ ⟨h₁.1, rfl, h₁.2⟩⟩
 refine codeAny_of_tree ?_
 show wpAny _ _ (do checkBuiltinCall "tuple.__new__" ⟨[.type "tuple", .ref r], []⟩; again (.builtin "tuple.__new__" ⟨[.type "tuple", .ref r], []⟩)) _ _ s
 refine wpAny_bind (wpAny_of_eq (PySem.F.newCall_tuple_1 _) (wpAny_pure ⟨plainId_quiet PySem.F.plain_tuple_new _, codeAny_builtin PySem.F.entry_tuple_new ?_⟩))
 rw [Around.under_plainId PySem.F.plain_tuple_new _]
 have hsub := sub_tuple_self
 have hinit := init_tuple_lookup
 have hmh := madeHere_tuple
 have hTI : s.TypeIs (.ref r) "range" := ⟨_, hr, rfl⟩
 wp_walk using wpAny_typeOf hTI, Bw (by assumption) hr hsmall hlen
 intro h' tk acc hk hacc
 show wpAny _ _ (Builtin.Tuple.tupleExact acc.toList.toArray >>= λ v => ret v) _ _ _
 unfold Builtin.Tuple.tupleExact
 refine wpAny_bind (wpAny_newObj_type ?_ (by show acc.toList.toArray.size ≤ sizeLine; simp only [Array.toArray_toList]; rw [hacc.1, sizeLine_eq]; lia))
 refine wpAny_pure ?_
 have e : acc.toList.toArray = acc := by simp
 rw [e]
 exact ⟨⟨_, Heap.get?_push_size _ rfl, rfl⟩, h h' tk acc hk (G6 _ _ hacc)⟩
noncomputable def g7 (a : V) (σ : St) : Option (V × St) := match a with
 | .obj i => (getL σ i).bind λ l => if l.length ≤ 100000 then some (.tup l, σ) else none
 | .tup l => some (.tup l, σ)
 | .range a b => if Builtin.Range.small a b 1 = true ∧ (b - a).toNat ≤ 1000 then some (.tup ((rangeInts a b).map .int), σ) else none
 | _ => none
theorem bB.tuple : bB Γ d (.type "tuple") (bY g7) := .one λ A μ σ s a ua v σ' Q E r H V e c => by
 cases a with
 | obj _ =>
  obtain ⟨l, hl, e⟩ := Option.bind_eq_some_iff.mp e
  obtain ⟨hz, e⟩ := cK e
  cases e
  obtain ⟨rfl, hi⟩ := V.kE
  obtain ⟨hj, items, k, hL, hs⟩ := H.list hl
  have e1 := hs.length
  simp only [Array.length_toList] at e1
  exact call_tuple_list (isList hL) (λ h' hk => vA H hk hs c s.toks) (by rw [sizeLine_eq]; lia)
 | tup _ =>
  cases e
  obtain ⟨_, _, _, rfl, ht, hs⟩ := V.tupI
  exact call_tuple_tup ⟨_, ht, rfl, _, rfl⟩ (c _ μ s H .refl (.tup ht hs))
 | range _ _ =>
  obtain ⟨hz, e⟩ := cK e
  cases e
  cases V with
  | range hr => exact tuple_range r.handled hr hz.1 hz.2 λ h' tk acc hk hI => vA H hk (tS hI) c tk
 | _ => exact nS e
theorem sP {h' : Heap} {l : List V} {items : Array Value} {k : Nat} {b : Addr} {Q : Value → Shared → Prop} (H : aY Γ μ σ s.heap) (hk : ∀ b o, s.heap.get? b = some o → h'.get? b = some o) (hn : s.heap.get? b = none) (hb : IsL h' b items k) (hl : VRs Γ μ σ.length s.heap l items.toList) (c : Cont Γ μ σ s (.obj σ.length) (σ ++ [.list l]) Q) (t : Nat) :
  Q (.ref b) { s with heap := h', toks := t } := by
 have len : (σ ++ [O.list l]).length = σ.length + 1 := by simp
 have e0 : Value.ref b = .ref (fD μ σ.length b σ.length) := by rw [c9]
 have ne : ∀ i, i < σ.length → μ i ≠ b := λ i hi z => by
  obtain ⟨ob, e, _⟩ := H.at hi
  rw [z, hn] at e; cases e
 have hb0 : Γ.h₀.get? b = none := by
  cases q : Γ.h₀.get? b with
  | none => rfl
  | some o => rw [H.base _ _ q] at hn; cases hn
 have kf : cL s.heap h' := λ a o e _ => hk a o e
 rw [e0]
 refine c _ (fD μ σ.length b) { s with heap := h', toks := t } ⟨λ b o e => hk b o (H.base b o e), λ i o e => ?_, λ i j hi hj e => ?_, λ i hi => ?_⟩ ?_ (.obj (by rw [len]; lia))
 ·rw [len]
  by_cases hi : i < σ.length
  ·rw [List.getElem?_append_left hi] at e
   rw [cA hi]
   exact (H.objs i o e).mono (λ _ e' => hk _ _ e') kf (λ _ hj => cA hj) (Nat.le_succ _)
  ·have hlt := (List.getElem?_eq_some_iff.mp e).1
   have : i = σ.length := by rw [len] at hlt; lia
   subst this
   simp at e; subst e
   rw [c9]
   exact ⟨items, k, hb, hl.mono kf (λ _ hj => cA hj) (Nat.le_succ _)⟩
 ·rw [len] at hi hj
  by_cases h1 : i < σ.length <;> by_cases h2 : j < σ.length
  ·rw [cA h1, cA h2] at e; exact H.inj i j h1 h2 e
  ·have : j = σ.length := by lia
   subst this
   rw [cA h1, c9] at e
   exact absurd e (ne _ h1)
  ·have : i = σ.length := by lia
   subst this
   rw [cA h2, c9] at e
   exact absurd e.symm (ne _ h2)
  ·lia
 ·rw [len] at hi
  by_cases h1 : i < σ.length
  ·rw [cA h1]; exact H.lo i h1
  ·have : i = σ.length := by lia
   subst this
   rw [c9]; exact hb0
 ·rw [len]
  exact ⟨λ b o e _ => hk b o e, λ b o e => ⟨o, hk b o e⟩, λ i hi => cA hi, Nat.le_succ _, λ i h1 h2 => by
   have : i = σ.length := by lia
   subst this
   rw [c9]; exact hn, rfl, rfl, rfl⟩
noncomputable def uV (a : V) (σ : St) : Option (V × St) := match a with
 | .obj i => (getL σ i).bind λ l => if l.length ≤ 100000 then some (.obj σ.length, σ ++ [.list l]) else none
 | _ => none
theorem bB.list : bB Γ d (.type "list") (bY uV) := .one λ A μ σ s a ua v σ' Q E r H V e c => by
 unfold uV at e
 split at e
 case h_2 => cases e
 obtain ⟨l, hl, e⟩ := Option.bind_eq_some_iff.mp e
 split at e
 case isFalse => cases e
 rename_i hz
 cases e
 obtain ⟨rfl, hi⟩ := V.kE
 obtain ⟨hj, items, k, hL, hs⟩ := H.list hl
 have e1 := hs.length
 simp only [Array.length_toList] at e1
 exact call_list_seq _ (.inl rfl) hL rfl rfl (λ h' c' hk hb => sP H hk (fC _) hb hs c s.toks) (by rw [sizeLine_eq]; lia)
end
end Mine
end
section
open PySem PySem.W PyProof.Rows
namespace Mine
section
noncomputable def ins (a : Int) : List Int → List Int
 | [] => [a]
 | b :: l => if a ≤ b then a :: b :: l else b :: ins a l
noncomputable def cM : List Int → List Int
 | [] => []
 | a :: l => ins a (cM l)
theorem Aq (a : Int) : ∀ l, (ins a l).Perm (a :: l)
 | [] => .refl _
 | b :: l => by
  unfold ins
  split
  ·exact .refl _
  ·exact ((Aq a l).cons b).trans (.swap ..)
theorem mA : ∀ l, (cM l).Perm l
 | [] => .refl _
 | a :: l => (Aq a _).trans ((mA l).cons a)
theorem Ap (a : Int) : ∀ l, l.Pairwise (· ≤ ·) → (ins a l).Pairwise (· ≤ ·)
 | [], _ => by simp [ins]
 | b :: l, h => by
  rw [List.pairwise_cons] at h
  unfold ins
  split
  ·rename_i q
   rw [List.pairwise_cons, List.pairwise_cons]
   exact ⟨λ c hc => by
    rcases List.mem_cons.mp hc with rfl | hc
    ·exact q
    ·have := h.1 c hc; lia, h⟩
  ·rename_i q
   rw [List.pairwise_cons]
   refine ⟨λ c hc => ?_, Ap a l h.2⟩
   rcases List.mem_cons.mp ((Aq a l).mem_iff.mp hc) with rfl | hc
   ·lia
   ·exact h.1 c hc
theorem oR : ∀ l, (cM l).Pairwise (· ≤ ·)
 | [] => .nil
 | a :: l => Ap a _ (oR l)
theorem wR : ∀ {l m : List Int}, l.Perm m → l.Pairwise (· ≤ ·) → m.Pairwise (· ≤ ·) → l = m
 | [], m, p, _, _ => (List.nil_perm.mp p).symm
 | a :: l, [], p, _, _ => absurd p.length_eq (by simp)
 | a :: l, b :: m, p, h1, h2 => by
  rw [List.pairwise_cons] at h1 h2
  have e : a = b := by
   have x : a ∈ b :: m := p.mem_iff.mp List.mem_cons_self
   have y : b ∈ a :: l := p.mem_iff.mpr List.mem_cons_self
   rcases List.mem_cons.mp x with x | x
   ·exact x
   ·rcases List.mem_cons.mp y with y | y
    ·exact y.symm
    ·have := h2.1 a x
     have := h1.1 b y
     lia
  subst e
  rw [wR (List.perm_cons a |>.mp p) h1.2 h2.2]
end
section
variable {Γ : gT} {cx cy : Cx} {d : Nat} {env : Env} {μ aJ bA : Nat → Addr} {n n₁ n₂ : Nat} {ρ : Loc} {s s₁ s₂ : Shared} {σ σ₁ : St}
noncomputable def mX (a : V) (σ : St) : Option (V × St) := match a with
 | .obj i => (eJ σ i).bind λ l => if l.length ≤ 60 then some (.obj σ.length, σ ++ [.list ((cM (l.map (·.1))).map .int)]) else none
 | _ => none
theorem Hk {h : Heap} {a : Addr} {kvs : List (Int × Value)} (x : h.DictOf (intKind Γ.prog Γ.w) a kvs) : ∃ ep, h.DictAt (intKind Γ.prog Γ.w) a kvs ep := x.dictAt
theorem Iu {kvs : List (Int × Value)} {acc : Array Value} (h : ItemsOf (λ i v => ∃ k x, kvs[i]? = some (k, x) ∧ (intKind Γ.prog Γ.w).is k v = true) acc kvs.length) : IntsAre acc.toList (kvs.map (·.1)) := by
 obtain ⟨h1, h2⟩ := h
 have key : ∀ (l : List Value) (m : List (Int × Value)), l.length = m.length → (∀ (j : Nat) (v : Value), l[j]? = some v → ∃ k x, m[j]? = some (k, x) ∧ (intKind Γ.prog Γ.w).is k v = true) → IntsAre l (m.map (·.1)) := by
  intro l
  induction l with
  | nil => intro m e _; cases m with
   | nil => exact .nil
   | cons _ _ => cases e
  | cons v l ih =>
   intro m e h
   cases m with
   | nil => cases e
   | cons p m =>
    obtain ⟨k, x, e1, e2⟩ := h 0 v rfl
    simp at e1; subst e1
    obtain ⟨t, rfl⟩ := PySem.Value.isInt_shape e2
    exact .cons _ _ (ih m (by simpa using e) λ j v hv => by simpa using h (j + 1) v (by simpa using hv))
 exact key acc.toList kvs (by simpa using h1) λ j v hv => h2 j v (by rw [← Array.getElem?_toList]; exact hv)
theorem bB.sorted (G : m8 Γ) : bB Γ d (.builtin "sorted") (bY mX) := .one λ A μ σ s a ua v σ' Q E r H V e c => by
 unfold mX at e
 split at e
 case h_2 => cases e
 obtain ⟨l, hl, e⟩ := Option.bind_eq_some_iff.mp e
 split at e
 case isFalse => cases e
 rename_i hz
 cases e
 obtain ⟨rfl, hi⟩ := V.kE
 obtain ⟨hj, kvs, hd, hr⟩ := H.bX hl
 obtain ⟨ep, hat⟩ := Hk hd
 have e1 := hr.length
 refine Calls.call_function_entry kind_sorted plain_sorted entry_sorted (args_sorted1 _) ?_
 unfold Builtin.«sorted»
 refine wpAny_bind (m := checkCount "sorted" 1 1 _) (wpAny_pure ?_)
 refine wpAny_bind (kdu_collect (A := A.in1) (kdl_dict (knd := intKind Γ.prog Γ.w) (kvs := kvs) (ep := ep) (H.CN G hj)) r.handled hat (by rw [sizeLine_eq]; lia) λ h' tk acc hk hacc => ?_)
 have hI := Iu hacc
 have h64 : acc.toList.length < 64 := by rw [Array.length_toList, hacc.1]; lia
 refine wpAny_bind (wpAny_newList ?_ (by rw [sizeLine_eq]; lia))
 have hoL : (h'.push (seqObj "list" acc.toList.toArray 0)).get? h'.objs.size = some (seqObj "list" acc.toList.toArray 0) := Heap.get?_push_size _ rfl
 refine wpAny_bind (wpAny_holding (wpAny_call_entry slot_list_sort ⟨_, hoL, rfl⟩ entry_list_sort (list_sort_tree hoL hI h64 λ out ns' a1 a2 a3 => ⟨_, rfl, ?_⟩) (args_list_sort _)))
 refine wpAny_pure ⟨_, rfl, ?_⟩
 obtain ⟨e, he⟩ := sortedHeap_at (vs := acc.toList) (out := out) hoL
 have hne : ∀ b o, s.heap.get? b = some o → (sortedHeap (h'.push (seqObj "list" acc.toList.toArray 0)) h'.objs.size acc.toList out).get? b = some o := λ b o eb => by
  have q := hk b o eb
  have hlt := Heap.lt_size q
  rw [sortedHeap_old (Nat.ne_of_lt hlt) (by rw [size_push']; exact Nat.lt_succ_of_lt hlt)]
  exact Heap.get?_push_of_some _ q
 have hn : s.heap.get? h'.objs.size = none := by
  cases q : s.heap.get? h'.objs.size with
  | none => rfl
  | some o => exact absurd (Heap.lt_size (hk _ _ q)) (Nat.lt_irrefl _)
 have e2 : ns' = cM (l.map (·.1)) := by
  refine wR (a2.trans ?_) a3 (oR _)
  rw [hr.1]
  exact (mA _).symm
 refine sP (l := (cM (l.map (·.1))).map .int) (items := out) H hne hn he ?_ c tk
 rw [← e2]
 exact tS a1
end
section
variable {Γ : gT} {cx cy : Cx} {d : Nat} {env : Env} {μ aJ bA : Nat → Addr} {n n₁ n₂ : Nat} {ρ : Loc} {s s₁ s₂ : Shared} {σ σ₁ : St}
theorem b9.mul : b9 Γ d (binaryOp .Mult) xY := λ A μ σ s a b v ua ub σ' Q E r H xa xb e c => by
 cases a with
 | int _ => cases b with
  | int _ =>
   obtain ⟨h, e⟩ := cK e
   cases e
   rw [Bool.and_eq_true] at h
   obtain ⟨_, rfl⟩ := xa.gA
   obtain ⟨_, rfl⟩ := xb.gA
   exact PyProof.Rows.mul_int (c _ μ _ H (.toks _) (.int _ _)) (IntMulOk.of_left (wS h.1))
  | _ => exact nS e
 | obj i => cases b with
  | int x =>
   obtain ⟨l, hl, e⟩ := Option.bind_eq_some_iff.mp e
   cases l with
   | nil => exact nS e
   | cons y l =>
   cases l with
   | cons _ _ => exact nS e
   | nil =>
   obtain ⟨hx, e⟩ := cK e
   cases e
   cases xa.kE.1
   obtain ⟨u, rfl⟩ := xb.gA
   obtain ⟨hj, items, k, hL, hs⟩ := H.list hl
   obtain ⟨lst⟩ := items
   obtain ⟨uy, rfl, hs1⟩ := VRs.LH hs
   have hbig : ¬ (#[uy] : Array Value).size * x.toNat > (2 ^ 63 - 1) / 8 := by
    have e1 : (#[uy] : Array Value).size = 1 := rfl
    rw [e1]; lia
   refine wpAny_binaryOp_repeat_ref (T := "list") (U := "int") (by decide) ⟨_, hL, rfl⟩ (λ s' => typeIs_int s' x u) noFill_list_mul PySem.F.fills_int_mul PySem.F.slot_int_rmul repeat_list PySem.F.slot_int_index.lookup
    (call_meets PySem.F.slot_int_rmul (typeIs_int s x u) PySem.F.entry_int_rmul (PySem.F.args_int_rmul_2 _ _) (int___rmul___int_list x u _ #[uy] k)
     ⟨hL, rfl, ⟨_, hL, rfl⟩, call_meets PySem.F.slot_list_mul ⟨_, hL, rfl⟩ PySem.F.entry_list_mul (PySem.F.args_list_mul_2 _ _)
      (AutoListH.list___mul___list_int_3 _ #[uy] k x u (by simp [Builtin.List.listFitsIndex]; lia) hbig (by simp [Builtin.List.listTooLong, sizeLine]; lia))
      ⟨hL, ?_⟩⟩)
   have e1 : List.foldl (λ x1 x2 => x1 ++ x2) (#[] : Array Value) (List.replicate (if (#[uy] : Array Value).isEmpty = true then 0 else x.toNat) #[uy]) = (List.replicate x.toNat uy).toArray := by
    have g : ∀ (m : Nat) (acc : Array Value), List.foldl (λ x1 x2 => x1 ++ x2) acc (List.replicate m #[uy]) = acc ++ (List.replicate m uy).toArray := by
     intro m
     induction m with
     | zero => intro acc; simp
     | succ m ih =>
      intro acc
      rw [List.replicate_succ, List.foldl_cons, ih, List.replicate_succ, Array.append_assoc]
      congr 1
      exact (List.toArray_cons ..).symm
    rw [g]; simp
   rw [e1]
   refine lI H ?_ c s.toks
   have q : ∀ m, VRs Γ μ σ.length s.heap (List.replicate m y) (List.replicate m uy) := by
    intro m
    induction m with
    | zero => exact .nil
    | succ m ih => exact .cons hs1 ih
   exact q _
  | _ => exact nS e
 | _ => exact nS e
theorem sX {A : Around} {E : Value → Shared → Prop} {l : Addr} {items : Array Value} {n : Nat} {k : Int} {t : Tok} {v : Value} {Q : Unit → Shared → Prop} {j : Nat} (hL : IsL s.heap l items n) (hn : j < items.size) (hk : k = (j : Int) ∧ k < 2 ^ 63 ∨ k = -1 ∧ j + 1 = items.size)
  (hQ : Q () { s with heap := s.heap.update l (Obj.mapSeq (·.setIfInBounds j v)) }) :
  wpAny Γ.M A (setItem (.ref l) (.int k t) v) Q E s := by
 have hl := hL.isList
 unfold setItem
 try with_reducible refine wpAny_holding ?_
 first | refine wpAny_bind (wpAny_pure ?_) | skip
 refine wpAny_bind (wpAny_sequenceKey hl.typeIs (by decide) ?_)
 refine wpAny_bind (wpAny_callSpecial?_slot (name := Str.ofString "__setitem__") hl.typeIs slot_list_setitem
  (wpAny_call_entry slot_list_setitem hl.typeIs entry_list_setitem ?_ (args_list_setitem _ _ _)))
 show wpAny _ _ (Builtin.List.listSubscript? (.int k t) >>= _) _ _ s
 have hx : items[j]? = some items[j] := Array.getElem?_eq_getElem hn
 have fin : wpAny Γ.M A.in1 (setSeqItemAt l j v >>= λ _ => ret .none) (λ fin s' => ∃ v, fin = .done (.ret v) ∧ wpAny Γ.M A (pure (some v) >>= λ _ => pure ()) Q E s') E s :=
  wpAny_bind (wpAny_setSeqItemAt hL rfl (wpAny_pure ⟨.none, rfl, wpAny_bind (wpAny_pure (wpAny_pure hQ))⟩))
 have hfit : Builtin.List.listFitsIndex k = true := by
  rcases hk with ⟨h1, h2⟩ | ⟨h1, _⟩
  ·exact fitsIndex_of (by lia) h2
  ·rw [h1]; unfold Builtin.List.listFitsIndex; simp
 have hk' : k = (j : Int) ∨ k = -1 ∧ j + 1 = items.size := hk.imp (λ x => x.1) id
 clear hk
 refine wpAny_bind (wpAny_listSubscript_int hfit ?_)
 clear hfit
 rcases hk' with rfl | ⟨rfl, hj⟩
 ·show wpAny _ _ ((seqItemAt l j >>= λ r => pure (r.map (j, ·))) >>= _) _ _ s
  refine wpAny_bind (wpAny_bind (wpAny_seqItemAt hL rfl (wpAny_pure ?_)))
  rw [hx]
  exact fin
 ·show wpAny _ _ ((Builtin.List.listItems (.ref l) >>= λ xs => pure ((seqIndex? (-1) xs.size).bind λ j => xs[j]?.map (j, ·))) >>= _) _ _ s
  refine wpAny_bind (wpAny_bind (listItems_at hL rfl (wpAny_pure ?_)))
  have e1 : seqIndex? (-1) items.size = some j := by
   unfold seqIndex?
   simp
   lia
  rw [e1, Option.bind_some, hx]
  exact fin
noncomputable def mL (a b v : V) (σ : St) : Option St := match a, b with
 | .obj i, .int k => (σ[i]?).bind λ o => match o with
  | .list l => if 0 ≤ k ∧ k < 100000 ∧ k.toNat < l.length then some (σ.set i (.list (l.set k.toNat v))) else if k = -1 ∧ 0 < l.length then some (σ.set i (.list (l.set (l.length - 1) v))) else none
  | .bX l => if l.length ≤ 100000 then some (σ.set i (.bX (fF l k v))) else none
  | _ => none
 | .obj i, .str k => (bV σ i).bind λ l => if l.length ≤ 100000 then some (σ.set i (.aW (fF l k v))) else none
 | _, _ => none
theorem Ba {A : Around} {a b v : V} {ua ub u : Value} {σ' : St} {Q : Unit → Shared → Prop} {E : Value → Shared → Prop} (H : aY Γ μ σ s.heap) (Va : VR Γ μ σ.length s.heap a ua) (Vb : VR Γ μ σ.length s.heap b ub) (V : VR Γ μ σ.length s.heap v u)
   (e : mL a b v σ = some σ') (cc : ∀ s', aY Γ μ σ' s'.heap → Step (Own μ σ.length) μ σ.length s μ σ'.length s' → Q () s') : wpAny Γ.M A (setItem ua ub u) Q E s := by
 refine byC λ hG => ?_
 cases a with
 | obj i => cases b with
  | int k =>
   cases Va.kE.1
   obtain ⟨t, rfl⟩ := Vb.gA
   obtain ⟨o, hl, e⟩ := Option.bind_eq_some_iff.mp e
   cases o with
   | list l =>
    obtain ⟨hi, items, kk, hL, hs⟩ := H.list (yR hl)
    have hsz := hs.length.trans Array.length_toList
    have fin : ∀ j, j < l.length → (k = (j : Int) ∧ k < 2 ^ 63 ∨ k = -1 ∧ j + 1 = items.size) → σ.set i (.list (l.set j v)) = σ' → False := by
     intro j hj hk e
     subst e
     obtain ⟨H', S'⟩ := oP H hi hL (·.setIfInBounds j u) (l' := l.set j v) (by rw [Array.toList_setIfInBounds]; exact hs.set j V) s.toks
     exact hG (sX hL (hsz ▸ hj) hk (cc _ H' S'))
    clear hG cc
    replace e : (if 0 ≤ k ∧ k < 100000 ∧ k.toNat < l.length then some (σ.set i (.list (l.set k.toNat v))) else if k = -1 ∧ 0 < l.length then some (σ.set i (.list (l.set (l.length - 1) v))) else none) = some σ' := e
    by_cases h : 0 ≤ k ∧ k < 100000 ∧ k.toNat < l.length
    ·rw [if_pos h] at e
     exact fin k.toNat h.2.2 (.inl ⟨(Int.toNat_of_nonneg h.1).symm, Int.lt_trans h.2.1 (by decide)⟩) (Option.some.inj e)
    ·rw [if_neg h] at e
     obtain ⟨h, e⟩ := cK e
     exact fin (l.length - 1) (Nat.sub_lt h.2 (by decide)) (.inr ⟨h.1, (Nat.sub_add_cancel h.2).trans hsz⟩) (Option.some.inj e)
   | bX l =>
    obtain ⟨hlen, e⟩ := cK e
    cases e
    obtain ⟨hi, kvs, hd, hr⟩ := H.bX (yT hl)
    exact hG (wpAny_setItem_pairs (intKind_is _ _ _ _) hd (λ h' hd' hs' => cc _ (H.set hi hs' λ kf => ⟨_, hd', (hr.set k V).1, (hr.set k V).2.mono kf (λ _ _ => rfl) (Nat.le_refl _)⟩) (by rw [rE]; exact Step.set (s := s) ⟨i, hi, rfl⟩ hs' (let ⟨o, _, _, ho, _⟩ := hd'; ⟨o, ho⟩) _)) (by rw [sizeLine_eq, hr.length]; lia))
   | aW _ => exact nS e
  | str k =>
   cases Va.kE.1
   obtain ⟨t, rfl⟩ := Vb.HD
   obtain ⟨l, hl, e⟩ := Option.bind_eq_some_iff.mp e
   obtain ⟨hlen, e⟩ := cK e
   cases e
   obtain ⟨hi, kvs, hd, hr⟩ := H.aW hl
   exact hG (wpAny_setItem_pairs (knd := PySem.strKind Γ.prog Γ.w) (k := Γ.nm k) (strKind_is _ _ _ _) hd (λ h' hd' hs' => cc _ (H.set hi hs' λ kf => ⟨_, hd', (hr.set k V).1, (hr.set k V).2.mono kf (λ _ _ => rfl) (Nat.le_refl _)⟩) (by rw [rE]; exact Step.set (s := s) ⟨i, hi, rfl⟩ hs' (let ⟨o, _, _, ho, _⟩ := hd'; ⟨o, ho⟩) _)) (by rw [sizeLine_eq, hr.length]; lia))
  | _ => exact nS e
 | _ => exact nS e
noncomputable def XA.item (f g : X V) : XA := λ v ρ σ => match f ρ σ with
 | some (a, σ₁) => match g ρ σ₁ with
  | some (b, σ₂) => (mL a b v σ₂).map λ σ' => (ρ, σ')
  | none => none
 | none => none
theorem eG.item {o i : PySem.Expr} {pos : Pos} {f g : X V} (hf : aC Γ d cx o f) (hg : aC Γ d cx i g) : eG Γ d cx (.Subscript o i pos) (XA.item f g) := λ A env μ ρ σ s v u cJ σ' Q E r H R V e c => by
 unfold XA.item at e
 split at e
 case h_2 => cases e
 rename_i a σ₁ e1
 split at e
 case h_2 => cases e
 rename_i b σ₂ e2
 obtain ⟨j9, e3, e⟩ := Option.map_eq_some_iff.mp e
 cases e
 rw [arm_assign_Subscript]
 refine wpAny_bind (wpAny_holding (hf A env μ ρ σ s a σ₁ _ E r H R e1 λ ua aJ s₁ H₁ S₁ cQ => ?_))
 refine wpAny_bind (wpAny_holding (hg A env aJ ρ σ₁ s₁ b σ₂ _ E r H₁ (R.step H S₁) e2 λ ub bA s₂ cP S₂ eZ => ?_))
 refine wpAny_bind (wpAny_standAt (wpAny_bind (wpAny_holding (Ba cP (S₂.vr H₁ cQ) eZ ((S₁.then S₂).vr H V) e3 λ s₃ gG iG => ?_))))
 have S := (S₁.then S₂).then iG
 exact wpAny_release' (c _ _ gG S.tT (R.step H S))
noncomputable def XA.attr (c k : Nat) (f : X V) : XA := λ v ρ σ => match f ρ σ with
 | some (a, σ₁) => (vQ c k a v σ₁).map λ σ' => (ρ, σ')
 | none => none
theorem eG.attr {K : Frag} {c k : Nat} {x : Str} {o : PySem.Expr} {pos : Pos} {f : X V} (hx : Γ.nm k = x) (KX : K.In Γ.h₀) (O : pL Γ K (Γ.cls c)) (hk : takerIn K (Γ.cls c) x = some Option.none) (hf : aC Γ d cx o f) :
  eG Γ d cx (.Attribute o x pos) (XA.attr c k f) := λ A env μ ρ σ s v u cJ σ' Q E r H R V e cc => by
 subst hx
 unfold XA.attr at e
 split at e
 case h_2 => cases e
 rename_i a σ₁ e1
 obtain ⟨j9, e3, e⟩ := Option.map_eq_some_iff.mp e
 cases e
 rw [arm_assign_Attribute]
 refine wpAny_bind (wpAny_holding (hf A env μ ρ σ s a σ₁ _ E r H R e1 λ ua aJ s₁ H₁ S₁ cQ => ?_))
 refine wpAny_bind (wpAny_standAt (wpAny_bind (wpAny_holding (Bb KX O hk H₁ cQ (S₁.vr H V) e3 λ s₃ gG iG => ?_))))
 have S := S₁.then iG
 exact wpAny_release' (cc _ _ gG S.tT (R.step H S))
end
section
variable {Γ : gT} {cx cy : Cx} {d : Nat} {env : Env} {μ aJ bA : Nat → Addr} {n n₁ n₂ : Nat} {ρ : Loc} {s s₁ s₂ : Shared} {σ σ₁ : St}
theorem aC.neg {e : PySem.Expr} {pos : Pos} {f : X V} (hf : aC Γ d cx e f) : aC Γ d cx (.UnaryOp .USub e pos) (X.bind f λ v => X.lift λ σ => match v with | .int a => some (.int (-a), σ) | _ => Option.none) := λ A env μ ρ σ s v σ' Q E r H R e c => by
 obtain ⟨a, σ₁, e1, e⟩ := X.bind_some e
 have e := X.lQ e
 refine wpAny_UnaryOp (hf A env μ ρ σ s a σ₁ _ E r H R e1 λ u aJ s₁ H₁ S₁ cQ => ?_)
 split at e <;> cases e
 obtain ⟨_, rfl⟩ := cQ.gA
 exact PyProof.Rows.neg_int (c _ aJ _ H₁ (S₁.trans (zZ := λ _ => False) (.toks _) λ _ x => x.elim) (.int _ _))
theorem adopt {D : Addr} {h' : Heap} {o : O} (H : aY Γ μ σ s.heap) (H₁ : aY Γ aJ σ₁ s₁.heap) (S : Step (Own μ σ.length) μ σ.length s aJ σ₁.length s₁) (hD : s.heap.get? D = none) (hne : ∀ i, i < σ₁.length → aJ i ≠ D)
  (x : ∀ b ob, b ≠ D → s₁.heap.get? b = some ob → h'.get? b = some ob) (hfz : ∀ ob, s₁.heap.get? D = some ob → fz ob = false) (hO : cL s₁.heap h' → OR Γ (fD aJ σ₁.length D) (σ₁.length + 1) h' D o) (t : Nat) :
  aY Γ (fD aJ σ₁.length D) (σ₁ ++ [o]) h' ∧ Step (Own μ σ.length) μ σ.length s (fD aJ σ₁.length D) (σ₁ ++ [o]).length { s₁ with heap := h', toks := t } := by
 have len : (σ₁ ++ [o]).length = σ₁.length + 1 := by simp
 have hb0 : Γ.h₀.get? D = none := by
  cases q : Γ.h₀.get? D with
  | none => rfl
  | some o => rw [H.base _ _ q] at hD; cases hD
 have kf : cL s₁.heap h' := λ a ob e f => by
  by_cases hb : a = D
  ·subst hb; rw [hfz ob e] at f; cases f
  ·exact x a ob hb e
 refine ⟨⟨λ b ob e => ?_, λ i ob e => ?_, λ i j hi hj e => ?_, λ i hi => ?_⟩, ?_⟩
 ·exact x b ob (by rintro rfl; rw [hb0] at e; cases e) (H₁.base b ob e)
 ·rw [len]
  by_cases hi : i < σ₁.length
  ·rw [List.getElem?_append_left hi] at e
   rw [cA hi]
   exact (H₁.objs i ob e).mono (λ _ e' => x _ _ (hne i hi) e') kf (λ _ hj => cA hj) (Nat.le_succ _)
  ·have hlt := (List.getElem?_eq_some_iff.mp e).1
   have : i = σ₁.length := by rw [len] at hlt; lia
   subst this
   simp at e; subst e
   rw [c9]
   exact hO kf
 ·rw [len] at hi hj
  by_cases h1 : i < σ₁.length <;> by_cases h2 : j < σ₁.length
  ·rw [cA h1, cA h2] at e; exact H₁.inj i j h1 h2 e
  ·have : j = σ₁.length := by lia
   subst this
   rw [cA h1, c9] at e
   exact absurd e (hne _ h1)
  ·have : i = σ₁.length := by lia
   subst this
   rw [cA h2, c9] at e
   exact absurd e.symm (hne _ h2)
  ·lia
 ·rw [len] at hi
  by_cases h1 : i < σ₁.length
  ·rw [cA h1]; exact H₁.lo i h1
  ·have : i = σ₁.length := by lia
   subst this
   rw [c9]; exact hb0
 ·rw [len]
  have nD : ∀ b ob, s.heap.get? b = some ob → b ≠ D := by rintro b ob e rfl; rw [hD] at e; cases e
  refine ⟨λ b ob e q => x b ob (nD b ob e) (S.uA b ob e q), λ b ob e => ?_, λ i hi => ?_, Nat.le_succ_of_le S.le, λ i h1 h2 => ?_, S.gens, S.drawn, S.os⟩
  ·obtain ⟨o', e'⟩ := S.live b ob e
   exact ⟨o', x b o' (nD b ob e) e'⟩
  ·rw [cA (Nat.lt_of_lt_of_le hi S.le)]; exact S.agree i hi
  ·by_cases h : i < σ₁.length
   ·rw [cA h]; exact S.fresh i h1 h
   ·have : i = σ₁.length := by lia
    subst this
    rw [c9]; exact hD
theorem aC.qK {pos : Pos} : aC Γ d cx (.Dict [] [] pos) (X.lift λ σ => some (.obj σ.length, σ ++ [.bX []])) := λ A env μ ρ σ s v σ' Q E r H R e c => by
 cases X.lQ e
 have len : (σ ++ [Mine.O.bX []]).length = σ.length + 1 := by simp
 refine wpAny_Dict_empty ?_
 have e0 : Value.ref s.heap.objs.size = .ref (fD μ σ.length s.heap.objs.size σ.length) := by rw [c9]
 rw [e0]
 exact c _ _ _ (H.alloc _ _ ⟨[], Heap.DictOf.new _, rfl, .nil⟩) (by rw [len]; exact .alloc _ rfl) (.obj (by rw [len]; lia))
noncomputable def mkPairs (pos : Pos) (env : Env) (l : List (PySem.Expr × PySem.Expr)) : List (Sem Value × Sem Value) := l.map λ p => (eval p.1 env, do let x ← eval p.2 env; standAt pos; pure x)
noncomputable def iP (Γ : gT) (d : Nat) (cx : Cx) (l : List (PySem.Expr × PySem.Expr)) (f : X (List (V × V))) : Prop :=
 ∀ (A : Around) (env : Env) (pos : Pos) (μ : Nat → Addr) (ρ : Loc) (σ : St) (s : Shared) (vs : List (V × V)) (σ' : St) (Q : List (Value × Value) → Shared → Prop) (E : Value → Shared → Prop),
  fX A d → aY Γ μ σ s.heap → dN Γ cx env μ σ.length ρ s.heap → f ρ σ = some (vs, σ') →
  (∀ us dY s', aY Γ dY σ' s'.heap → Step (Own μ σ.length) μ σ.length s dY σ'.length s' → VRs Γ dY σ'.length s'.heap (vs.map (·.1)) (us.map (·.1)) → VRs Γ dY σ'.length s'.heap (vs.map (·.2)) (us.map (·.2)) → Q us s') →
  wpAny Γ.M A (evalPairs (mkPairs pos env l)) Q E s
theorem iP.nil : iP Γ d cx [] (X.pure []) := λ A env pos μ ρ σ s vs σ' Q E r H R e c => by
 cases e; exact wpAny_pure (c _ μ _ H .refl .nil .nil)
theorem iP.cons {k v : PySem.Expr} {l : List (PySem.Expr × PySem.Expr)} {f g : X V} {h : X (List (V × V))} (hf : aC Γ d cx k f) (hg : aC Γ d cx v g) (hh : iP Γ d cx l h) :
  iP Γ d cx ((k, v) :: l) (X.bind f λ a => X.bind g λ b => X.bind h λ r => X.pure ((a, b) :: r)) := λ A env pos μ ρ σ s vs σ' Q E r H R e c => by
 obtain ⟨a, σ₁, e1, e⟩ := X.bind_some e
 obtain ⟨b, σ₂, e2, e⟩ := X.bind_some e
 obtain ⟨w, j9, e3, e⟩ := X.bind_some e
 cases e
 show wpAny _ _ (eval k env >>= λ kv => holding [kv] (do let x ← eval v env; standAt pos; pure x) >>= λ vv => holding [kv, vv] (evalPairs (mkPairs pos env l)) >>= λ r => pure ((kv, vv) :: r)) _ _ _
 refine wpAny_bind (hf A env μ ρ σ s a σ₁ _ E r H R e1 λ ua aJ s₁ H₁ S₁ cQ => ?_)
 refine wpAny_bind (wpAny_holding (wpAny_bind (hg A env aJ ρ σ₁ s₁ b σ₂ _ E r H₁ (R.step H S₁) e2 λ ub bA s₂ cP S₂ eZ => wpAny_bind (wpAny_standAt (wpAny_pure ?_)))))
 have iV := (R.step H S₁).step H₁ S₂
 refine wpAny_bind (wpAny_holding (hh A env pos bA ρ σ₂ s₂ w _ _ E r cP iV e3 λ us f6 s₃ gG iG Pz V₃ => wpAny_pure ?_))
 exact c _ f6 s₃ gG ((S₁.then S₂).then iG) (.cons ((S₂.then iG).vr H₁ cQ) Pz) (.cons (iG.vr cP eZ) V₃)
noncomputable def intKeys : List (V × V) → Option (List (Int × V))
 | [] => some []
 | (.int k, v) :: l => (intKeys l).map ((k, v) :: ·)
 | _ :: _ => none
noncomputable def strKeys : List (V × V) → Option (List (Nat × V))
 | [] => some []
 | (.str k, v) :: l => (strKeys l).map ((k, v) :: ·)
 | _ :: _ => none
noncomputable def qJ {K : Type} [DecidableEq K] (l : List (K × V)) : List (K × V) := l.foldl (λ acc p => fF acc p.1 p.2) []
theorem CV {k v : V} {vs : List (V × V)} {l : List (Int × V)} (e : intKeys ((k, v) :: vs) = some l) : E2 λ i ms => A3 (k = .int i) (intKeys vs = some ms) (l = (i, v) :: ms) := by
 cases k with
 | int i =>
  obtain ⟨ms, hm, e⟩ := Option.map_eq_some_iff.mp e
  exact ⟨_, _, rfl, hm, e.symm⟩
 | _ => exact nS e
theorem DX {h : Heap} {vs : List (V × V)} : ∀ {us : List (Value × Value)} {l : List (Int × V)}, VRs Γ μ n h (vs.map (·.1)) (us.map (·.1)) → VRs Γ μ n h (vs.map (·.2)) (us.map (·.2)) → intKeys vs = some l → ∃ kvs, Carries (intKind Γ.prog Γ.w) us kvs ∧ kvs.map (·.1) = l.map (·.1) ∧ VRs Γ μ n h (l.map (·.2)) (kvs.map (·.2)) := by
 induction vs with
 | nil =>
  intro us l x y e
  cases e
  cases List.map_eq_nil_iff.mp x.Fi
  exact ⟨[], trivial, rfl, .nil⟩
 | cons p vs ih =>
  intro us l x y e
  obtain ⟨k, v⟩ := p
  obtain ⟨i, ms, rfl, hm, rfl⟩ := CV e
  cases us with
  | nil => cases x
  | cons u us =>
   obtain ⟨u1, u2⟩ := u
   obtain ⟨x1, x⟩ := VRs.both x
   obtain ⟨y1, y⟩ := VRs.both y
   obtain ⟨kvs, a, b, c⟩ := ih x y hm
   obtain ⟨_, rfl⟩ := VR.gA x1
   exact ⟨(_, u2) :: kvs, ⟨intKind_is _ _ _ _, rfl, a⟩, congrArg (_ :: ·) b, .cons y1 c⟩
theorem Ct {k v : V} {vs : List (V × V)} {l : List (Nat × V)} (e : strKeys ((k, v) :: vs) = some l) : E2 λ i ms => A3 (k = .str i) (strKeys vs = some ms) (l = (i, v) :: ms) := by
 cases k with
 | str i =>
  obtain ⟨ms, hm, e⟩ := Option.map_eq_some_iff.mp e
  exact ⟨_, _, rfl, hm, e.symm⟩
 | _ => exact nS e
theorem Do {h : Heap} {vs : List (V × V)} : ∀ {us : List (Value × Value)} {l : List (Nat × V)}, VRs Γ μ n h (vs.map (·.1)) (us.map (·.1)) → VRs Γ μ n h (vs.map (·.2)) (us.map (·.2)) → strKeys vs = some l → ∃ kvs, Carries (PySem.strKind Γ.prog Γ.w) us kvs ∧ kvs.map (·.1) = l.map (λ p => Γ.nm p.1) ∧ VRs Γ μ n h (l.map (·.2)) (kvs.map (·.2)) := by
 induction vs with
 | nil =>
  intro us l x y e
  cases e
  cases List.map_eq_nil_iff.mp x.Fi
  exact ⟨[], trivial, rfl, .nil⟩
 | cons p vs ih =>
  intro us l x y e
  obtain ⟨k, v⟩ := p
  obtain ⟨i, ms, rfl, hm, rfl⟩ := Ct e
  cases us with
  | nil => cases x
  | cons u us =>
   obtain ⟨u1, u2⟩ := u
   obtain ⟨x1, x⟩ := VRs.both x
   obtain ⟨y1, y⟩ := VRs.both y
   obtain ⟨kvs, a, b, c⟩ := ih x y hm
   obtain ⟨_, rfl⟩ := VR.HD x1
   exact ⟨(_, u2) :: kvs, ⟨strKind_is _ _ _ _, rfl, a⟩, congrArg (_ :: ·) b, .cons y1 c⟩
theorem Fq {h : Heap} : ∀ (l : List (Int × V)) (kvs : List (Int × Value)) (a : List (Int × V)) (b : List (Int × Value)), Hr Γ μ n h a b → kvs.map (·.1) = l.map (·.1) → VRs Γ μ n h (l.map (·.2)) (kvs.map (·.2)) →
  Hr Γ μ n h (l.foldl (λ acc p => fF acc p.1 p.2) a) (merged b kvs) := by
 intro l
 induction l with
 | nil =>
  intro kvs a b x e v
  cases List.map_eq_nil_iff.mp e
  exact x
 | cons p l ih =>
  intro kvs a b x e v
  cases kvs with
  | nil => cases e
  | cons q kvs =>
   obtain ⟨e1, e2⟩ := List.cons.inj e
   obtain ⟨v1, v⟩ := VRs.both v
   show Hr Γ μ n h (l.foldl _ (fF a p.1 p.2)) (merged (stored b q.1 q.2) kvs)
   rw [show q.1 = _ from e1]
   exact ih kvs _ _ (x.set p.1 v1) e2 v
theorem EQ {h : Heap} : ∀ (l : List (Nat × V)) (kvs : List (Str × Value)) (a : List (Nat × V)) (b : List (Str × Value)), SDR Γ μ n h a b → kvs.map (·.1) = l.map (λ p => Γ.nm p.1) → VRs Γ μ n h (l.map (·.2)) (kvs.map (·.2)) →
  SDR Γ μ n h (l.foldl (λ acc p => fF acc p.1 p.2) a) (merged b kvs) := by
 intro l
 induction l with
 | nil =>
  intro kvs a b x e v
  cases List.map_eq_nil_iff.mp e
  exact x
 | cons p l ih =>
  intro kvs a b x e v
  cases kvs with
  | nil => cases e
  | cons q kvs =>
   obtain ⟨e1, e2⟩ := List.cons.inj e
   obtain ⟨v1, v⟩ := VRs.both v
   show SDR Γ μ n h (l.foldl _ (fF a p.1 p.2)) (merged (stored b q.1 q.2) kvs)
   rw [show q.1 = _ from e1]
   exact ih kvs _ _ (x.set p.1 v1) e2 v
noncomputable def oF (keys : List (Option PySem.Expr)) (values : List PySem.Expr) (pos : Pos) (l : List (PySem.Expr × PySem.Expr)) : Prop := ∀ env, (evalEachOpt keys env).zip ((evalEach values env).map λ v => do let x ← v; standAt pos; pure x) = (mkPairs pos env l).map λ p => (some p.1, p.2)
theorem AD {K : Type} [DecidableEq K] {knd : KeyKind Γ.prog Γ.w K} {Ol : List (V × V) → Option Mine.O} {keys : List (Option PySem.Expr)} {values : List PySem.Expr} {pos : Pos} {l : List (PySem.Expr × PySem.Expr)} {f : X (List (V × V))} (hsh : oF keys values pos l) (h0 : l ≠ []) (hlen : l.length ≤ 15) (hf : iP Γ d cx l f)
  (hO : ∀ (μ : Nat → Addr) (n : Nat) (h : Heap) (vs : List (V × V)) (us : List (Value × Value)) (o : Mine.O), VRs Γ μ n h (vs.map (·.1)) (us.map (·.1)) → VRs Γ μ n h (vs.map (·.2)) (us.map (·.2)) → Ol vs = some o →
   ∃ kvs, Carries knd us kvs ∧ ∀ dY n' h' D, cL h h' → (∀ i, i < n → dY i = μ i) → n ≤ n' → h'.DictOf knd D (merged [] kvs) → OR Γ dY n' h' D o) :
  aC Γ d cx (.Dict keys values pos) (X.bind f λ vs => X.lift λ σ => (Ol vs).map λ o => (.obj σ.length, σ ++ [o])) := λ A env μ ρ σ s v σ' Q E r H R e c => by
 obtain ⟨vs, σ₁, e1, e⟩ := X.bind_some e
 obtain ⟨o, ho, e⟩ := Option.map_eq_some_iff.mp (X.lQ e)
 cases e
 have hl2 : (mkPairs pos env l).length = l.length := by simp [mkPairs]
 have hp : Step (Own μ σ.length) μ σ.length s μ σ.length { s with heap := s.heap.push { cls := .type "dict", data := .dict #[] } } := .push _
 refine wpAny_Dict_pairs (knd := knd) (hsh env) (by intro z; rw [z] at hl2; exact h0 (List.length_eq_zero_iff.mp hl2.symm)) (by lia) ?_
 refine hf A env pos μ ρ σ _ vs σ₁ _ E r (H.push _) (R.step H hp) e1 λ us aJ s₁ H₁ S₁ K₁ cQ => ?_
 obtain ⟨kvs, hc, hor⟩ := hO aJ _ s₁.heap vs us o K₁ cQ ho
 have hD0 : s.heap.get? s.heap.objs.size = none := fC _
 have hDn : ∀ i, i < σ.length → μ i ≠ s.heap.objs.size := λ i hi => H.qB hi
 have Lj : s₁.heap.get? s.heap.objs.size = some { cls := .type "dict", data := .dict #[] } := S₁.uA _ _ (Heap.get?_push_size _ rfl) λ ⟨i, hi, z⟩ => hDn i hi z
 have Mj : ∀ i, i < σ₁.length → aJ i ≠ s.heap.objs.size := λ i hi z => by
  by_cases hlt : i < σ.length
  ·rw [S₁.agree i hlt] at z; exact hDn i hlt z
  ·have := S₁.fresh i (Nat.not_lt.mp hlt) hi
   rw [z] at this
   have q := (Heap.get?_push_size s.heap (o := { cls := .type "dict", data := .dict #[] }) rfl)
   rw [q] at this; cases this
 refine ⟨kvs, hc, ?_, λ h' hd' hs' => ?_⟩
 ·obtain ⟨o, es, ep, ho, rr⟩ := (Heap.DictOf.new (knd := knd) s.heap)
  have q := (Heap.get?_push_size s.heap (o := { cls := .type "dict", data := .dict #[] }) rfl)
  rw [q] at ho; cases ho
  exact ⟨_, es, ep, Lj, rr⟩
 ·obtain ⟨HH, SS⟩ := adopt (o := o) (h' := h') H H₁ (hp.then S₁) hD0 Mj hs'.extBut (λ ob e => by rw [Lj] at e; cases e; rfl) (λ kf => hor _ _ h' _ kf (λ i hi => cA hi) (Nat.le_succ _) hd') (s₁.toks + us.length)
  have e0 : Value.ref s.heap.objs.size = .ref (fD aJ σ₁.length s.heap.objs.size σ₁.length) := by rw [c9]
  rw [e0]
  exact c _ _ _ HH SS (.obj (by simp))
theorem aC.Cc {keys : List (Option PySem.Expr)} {values : List PySem.Expr} {pos : Pos} (l : List (PySem.Expr × PySem.Expr)) {f : X (List (V × V))} (hsh : oF keys values pos l) (h0 : l ≠ []) (hlen : l.length ≤ 15) (hf : iP Γ d cx l f) :
  aC Γ d cx (.Dict keys values pos) (X.bind f λ vs => X.lift λ σ => ((intKeys vs).map λ l => Mine.O.bX (qJ l)).map λ o => (.obj σ.length, σ ++ [o])) :=
 AD (knd := intKind Γ.prog Γ.w) (Ol := λ vs => (intKeys vs).map λ l => Mine.O.bX (qJ l)) hsh h0 hlen hf λ μ n h vs us o K V e => by
  obtain ⟨m, hm, rfl⟩ := Option.map_eq_some_iff.mp e
  obtain ⟨kvs, a, b, c⟩ := DX K V hm
  refine ⟨kvs, a, λ dY n' h' D kf hμ hn hd => ⟨_, hd, ?_⟩⟩
  exact Fq m kvs [] [] ⟨rfl, .nil⟩ b (c.mono kf hμ hn)
theorem aC.xC {keys : List (Option PySem.Expr)} {values : List PySem.Expr} {pos : Pos} (l : List (PySem.Expr × PySem.Expr)) {f : X (List (V × V))} (hsh : oF keys values pos l) (h0 : l ≠ []) (hlen : l.length ≤ 15) (hf : iP Γ d cx l f) :
  aC Γ d cx (.Dict keys values pos) (X.bind f λ vs => X.lift λ σ => ((strKeys vs).map λ l => Mine.O.aW (qJ l)).map λ o => (.obj σ.length, σ ++ [o])) :=
 AD (knd := PySem.strKind Γ.prog Γ.w) (Ol := λ vs => (strKeys vs).map λ l => Mine.O.aW (qJ l)) hsh h0 hlen hf λ μ n h vs us o K V e => by
  obtain ⟨m, hm, rfl⟩ := Option.map_eq_some_iff.mp e
  obtain ⟨kvs, a, b, c⟩ := Do K V hm
  refine ⟨kvs, a, λ dY n' h' D kf hμ hn hd => ⟨_, hd, ?_⟩⟩
  exact EQ m kvs [] [] ⟨rfl, .nil⟩ b (c.mono kf hμ hn)
end
section
variable {Γ : gT} {cx cy : Cx} {d : Nat} {env : Env} {μ aJ bA : Nat → Addr} {n n₁ n₂ : Nat} {ρ : Loc} {s s₁ s₂ : Shared} {σ σ₁ : St}
theorem fX.make {A : Around} {C : Addr} {rest : List Value} (r : fX A (d + 1)) : fX (A.under (.builtin "type.__call__" ⟨.ref C :: rest, []⟩)) d := by
 have h1 : (Code.builtin "type.__call__" ⟨.ref C :: rest, []⟩).weight = 1 := by kernel_rfl
 have h2 : (Code.builtin "type.__call__" ⟨.ref C :: rest, []⟩).cUnits = 1 := by kernel_rfl
 refine ⟨r.handled, ?_, ?_⟩
 ·have := r.depth
  show A.depth + (Code.builtin "type.__call__" ⟨.ref C :: rest, []⟩).weight + 10 * d < 900
  rw [h1]; lia
 ·have := r.units
  show A.units + (Code.builtin "type.__call__" ⟨.ref C :: rest, []⟩).cUnits + 20 * d + 100 < 9900
  rw [h2]; lia
noncomputable def fNew (c : Nat) (F : FF) : FF := λ vs σ => match F (.inst c σ.length :: vs) (σ ++ [.aW []]) with
 | some (.none, σ') => some (.inst c σ.length, σ')
 | _ => none
theorem bB.cls {K : Frag} {c : Nat} {fI : Addr} {F : FF} (KX : K.In Γ.h₀) (hm : makesIn K (Γ.cls c) = true) (hi : findIn K (.ref (Γ.cls c)) "__init__" = some (some (.ref fI))) (ht : typeIn K (.ref fI) = some (.type "function")) (hF : dX Γ d fI F) :
  bB Γ (d + 1) (.ref (Γ.cls c)) (fNew c F) := λ A μ σ s vs us v σ' Q E r H V e cc => by
 obtain ⟨σ₂, e1, e⟩ : ∃ σ₂, F (.inst c σ.length :: vs) (σ ++ [.aW []]) = some (.none, σ₂) ∧ some (Mine.V.inst c σ.length, σ₂) = some (v, σ') := by
  unfold fNew at e
  cases h : F (.inst c σ.length :: vs) (σ ++ [.aW []]) with
  | none => rw [h] at e; exact nS e
  | some q =>
   obtain ⟨w, σ₂⟩ := q
   rw [h] at e
   cases w with
   | none => exact ⟨σ₂, rfl, e⟩
   | _ => exact nS e
 cases e
 refine wpAny_call ?_
 have XX := KX.keeps H.base
 have H1 : aY Γ (fD μ σ.length s.heap.objs.size) (σ ++ [.aW []]) (s.heap.push emptyDict) := H.alloc _ _ ⟨[], Heap.DictOf.new _, rfl, .nil⟩
 have len : (σ ++ [Mine.O.aW []]).length = σ.length + 1 := by simp
 have S1 : Step (Own μ σ.length) μ σ.length s (fD μ σ.length s.heap.objs.size) (σ ++ [Mine.O.aW []]).length { s with heap := s.heap.push emptyDict } := by rw [len]; exact .alloc _ rfl
 have H2 := H1.push (instObj (Γ.cls c) s.heap.objs.size)
 have S2 : Step (Own (fD μ σ.length s.heap.objs.size) (σ ++ [Mine.O.aW []]).length) (fD μ σ.length s.heap.objs.size) (σ ++ [Mine.O.aW []]).length { s with heap := s.heap.push emptyDict } (fD μ σ.length s.heap.objs.size) (σ ++ [Mine.O.aW []]).length { s with heap := (s.heap.push emptyDict).push (instObj (Γ.cls c) s.heap.objs.size) } := .push _
 have S12 := S1.then S2
 have hself : ((s.heap.push emptyDict).push (instObj (Γ.cls c) s.heap.objs.size)).get? (s.heap.objs.size + 1) = some (instObj (Γ.cls c) (fD μ σ.length s.heap.objs.size σ.length)) := by
  rw [c9]
  have := Heap.get?_push_size (s.heap.push emptyDict) (o := instObj (Γ.cls c) s.heap.objs.size) rfl
  rwa [Heap.size_push] at this
 have Vs : VR Γ (fD μ σ.length s.heap.objs.size) (σ ++ [Mine.O.aW []]).length ((s.heap.push emptyDict).push (instObj (Γ.cls c) s.heap.objs.size)) (.inst c σ.length) (.ref (s.heap.objs.size + 1)) := .inst (by rw [len]; lia) hself
 have Va := S12.MS H V
 obtain ⟨hh, g, dd, t, os⟩ := s
 refine make_core (makes_of XX hm) (looks_findIn XX hi) (λ self => bind_fn XX self ht) (.inl rfl) ?_
 refine hF _ _ _ ⟨(hh.push emptyDict).push (instObj (Γ.cls c) hh.objs.size), g, dd, t, os⟩ (.inst c σ.length :: vs) (.ref (hh.objs.size + 1) :: us) _ _ _ r.make H2 (.cons Vs Va) e1 λ u f6 s₃ gG iG V₃ => ?_
 cases V₃.FW
 exact ⟨rfl, cc _ f6 s₃ gG (S12.then iG) (iG.vr H2 Vs)⟩
structure Gx (Γ : gT) (K : Frag) (fA fP : Addr) (c D : Nat) (fd : FuncData) (body : List Stmt) (x y slf row : Str) (k : Nat) : Prop where
 lk : ∃ oc od osl, K.lookup fA = some ⟨oc, od, .func fd, osl⟩
 body : fd.body = .stmts body
 globals : fd.globals = mainGlobals
 builtins : fd.builtins = builtinsNs
 code : codeIn K fd.code fd.qualname = true
 bind : ∀ us : Value × Value, bindArgs fd ⟨[us.1, us.2], []⟩ = pure [(slf, us.1), (row, us.2)]
 names : slf ≠ row
 hself : fd.scope.names.lookup slf = some .local
 hrow : fd.scope.names.lookup row = some .local
 cells : ∀ x ∈ fd.scope.names, x.2 ≠ .cell
 co : fd.scope.isCoroutine = false
 gen : fd.scope.isGenerator = false
 kind : fd.scope.kind = .function
 hks : fd.scope.names.lookup ("super" : Str) = some .globalImplicit
 hkc : fd.scope.names.lookup ("__class__" : Str) = some .free
 clo : ∃ cc, fd.closure.lookup ("__class__" : Str) = some cc ∧ ∃ cl cld csl, K.lookup cc = some ⟨cl, cld, .cell (some (.ref (Γ.cls D))), csl⟩
 par : ∃ ar, (fd.params.posonlyargs ++ fd.params.args).head? = some ar ∧ ar.arg = slf
 file : ∃ cda ccl cdd vs ccs file tf, fd.code = .ref cda ∧ K.lookup cda = some ⟨ccl, cdd, .fields vs, ccs⟩ ∧ vs[2]? = some (.str file tf) ∧ ((Γ.prog.main.file : Str) == file) = true
 top : (Γ.prog.main.scope.names.lookup ("super" : Str)).isSome = false
 cD : ∃ cdD, clsIn K (Γ.cls D) = some cdD
 sub : subIn K (.ref (Γ.cls c)) (.ref (Γ.cls D)) = some true
 any : nsIn K cStatics "thirdparty.any" = some none
 meth : ks_superIn K (Γ.cls c) (Γ.cls D) y = some (some (.ref fP))
 typ : typeIn K (.ref fP) = some (.type "function")
 fnP : fnIn K fP = true
 hy : (y == ("__class__" : Str)) = false
 hx : Γ.nm k = x
theorem El {K : Frag} {a : Addr} {cd : ClassData} (h : clsIn K a = some cd) : ∃ o, K.lookup a = some o ∧ o.data = .cls cd := by
 unfold clsIn at h
 cases ho : K.lookup a with
 | none => rw [ho] at h; exact nS h
 | some o =>
  rw [ho] at h
  obtain ⟨cc, di, dd, sl⟩ := o
  cases dd with
  | cls _ => cases h; exact ⟨_, rfl, rfl⟩
  | _ => exact nS h
theorem GG {K : Frag} {a : Addr} {v : Value} (h : typeIn K (.ref a) = some v) : ∃ o, K.lookup a = some o ∧ o.cls = v :=
 Option.map_eq_some_iff.mp h
theorem Ez {A : Around} {E : Value → Shared → Prop} {e : PySem.Expr} {all rest : List PySem.Expr} {pos : Pos} {Q : List Value → Shared → Prop} (he : starEach all env = (false, eval e env) :: starEach rest env)
  (h : wpAny Γ.M A (eval e env) (λ v s₁ => wpAny Γ.M A (spliced (backTo pos (starEach rest env))) (λ vs s₂ => Q (v :: vs) s₂) E s₁) E s) : wpAny Γ.M A (spliced (backTo pos (starEach all env))) Q E s := by
 rw [he]; exact PySem.Calls.spliced_cons h
theorem dX.super {K : Frag} {fA fP : Addr} {c D k : Nat} {fd : FuncData} {x y slf row : Str} {p0 p1 p2 p3 p4 p5 p6 : Pos} {kk : Nat} {args Lp : List PySem.Expr} {F : FF} (KX : K.In Γ.h₀) (hlim : Γ.h₀.NoLimit)
  (SX : Gx Γ K fA fP c D fd [.Expr (.Call (.Attribute (.Call (.Name "super" p0) [] [] p1) y p2) args [] p5) p6] x y slf row k)
  (Ns : cY Γ "super" (.type "super"))
  (hd : (row == ("__debug__" : Str)) = false)
  (hsw : ∀ env, swapsWith (.Call (.Attribute (.Call (.Name "super" p0) [] [] p1) y p2) args [] p5) none p6.line env = pure false)
  (hform : ∀ env, ∃ pl, eval (.Call (.Attribute (.Call (.Name "super" p0) [] [] p1) y p2) args [] p5) env = (do
   let ov ← attributeBase (.Call (.Name "super" p0) [] [] p1) y env (eval (.Call (.Name "super" p0) [] [] p1) env)
   standAt p2.atName
   let (f, first) ← holding [ov] (getMethod ov y pl)
   callWith p5 f first (backTo p5 (starEach args env)) []))
  (Ny : ∀ env, starEach args env = (false, eval (.Name row p3) env) :: starEach Lp env)
  (hst2 : ∀ env, starEach Lp env = (false, eval (.Constant (.str x) kk p4) env) :: starEach [] env)
  (hF : dX Γ d fP F) :
  dX Γ (d + 1) fA (λ vs σ => match vs with
   | [.inst c' i, v] => if c' = c then (match F [.inst c' i, v, .str k] σ with | some (_, σ') => some (.none, σ') | none => none) else none
   | _ => none) := λ A μ σ s vs us v σ' R r H V e cc => by
 refine byC λ hG => ?_
 obtain ⟨i, w1, v2, σ₂, rfl, e1, e2⟩ : ∃ i w1 v2 σ₂, vs = [.inst c i, w1] ∧ F [.inst c i, w1, .str k] σ = some (v2, σ₂) ∧ some (Mine.V.none, σ₂) = some (v, σ') := by
  cases vs with
  | nil => exact nS e
  | cons a vs => cases vs with
  | nil => cases a <;> exact nS e
  | cons w1 vs => cases vs with
  | cons _ _ => cases a <;> exact nS e
  | nil => cases a with
  | inst c' i =>
   obtain ⟨hc, e⟩ := cK e
   cases hc
   cases h : F [.inst c i, w1, .str k] σ with
   | none => rw [h] at e; exact nS e
   | some q => rw [h] at e; exact ⟨i, w1, _, _, rfl, h, e⟩
  | _ => exact nS e
 clear e
 cases e2
 obtain ⟨us1, Oh, rfl, V1, V2⟩ := V.MW
 clear V
 obtain ⟨a, rfl, hi, ho⟩ := V1.Ix
 obtain ⟨oc, od, osl, hlk⟩ := SX.lk
 obtain ⟨ce, hclo, cl, cld, csl, hcell⟩ := SX.clo
 obtain ⟨ar, OV, har⟩ := SX.par
 obtain ⟨cda, ccl, cdd, vs, ccs, file, tf, hcode, Pc, hvs, hfile⟩ := SX.file
 obtain ⟨cdD, hcD⟩ := SX.cD
 obtain ⟨pl, hform⟩ := hform (callEnv fd s.heap.objs.size fA)
 obtain ⟨oD, hD1, hD2⟩ := El hcD
 obtain ⟨of, hof, hofc⟩ := GG SX.typ
 obtain ⟨cd, hcd, hm⟩ := Option.bind_eq_some_iff.mp SX.meth
 obtain ⟨mg, hg, N⟩ := Ns
 have XX := KX.keeps H.base
 have hxC : a ≠ Γ.cls c := λ z => by
  obtain ⟨oC, hC1, hC2⟩ := El hcd
  have := XX _ _ hC1
  rw [← z, ho] at this
  cases this
  cases hC2
 have hk : (callEnv fd s.heap.objs.size fA).scope.kind = .function := SX.kind
 have b1 : [(slf, Value.ref a), (row, Oh)].reverse.lookup slf = some (.ref a) := by
  have : (slf == row) = false := by simpa using SX.names
  simp [List.lookup_cons, this]
 have b2 : [(slf, Value.ref a), (row, Oh)].reverse.lookup row = some Oh := by simp
 have hp : Plain args := λ env => by rw [Ny, hst2]; rfl
 have VI : VR Γ μ σ.length s.heap (.inst c i) (.ref a) := V1
 obtain ⟨hh, g, dd, t, os⟩ := s
 clear V1
 refine hG (ks_codeAny_call_defAt (fd := fd) (by have := r.depth; show A.depth < 1000; lia) (XX _ _ hlk) rfl (hlim.keeps H.base) (codeRec_of XX SX.code) SX.body (BindsTo.of_eq (SX.bind (.ref a, Oh))) SX.cells (λ q hq => ?_) (λ h1 hns hk1 => ?_) SX.co SX.gen SX.kind)
 ·rcases List.mem_cons.mp hq with rfl | hq
  ·exact SX.hself
  ·cases List.mem_singleton.mp hq; exact SX.hrow
 clear hG
 have K1 := kept H hk1 (t + 2)
 have X1 := XX.keeps hk1
 refine ks_wpAt_execs_cons (ks_wpAt_Expr_any ?_ (by show (fd.scope.kind == .module && _) = false; rw [SX.kind]; rfl) (hsw _))
 refine ks_wpAt_MethodCall ?_ hform
 refine ks_wpAt_super_base (env := callEnv fd hh.objs.size fA) SX.hks SX.hkc SX.hy rfl (X1 _ _ hlk) rfl OV hcode (X1 _ _ Pc) rfl hvs hfile SX.top ?_
 have N1 : ∀ (Q : Value → Shared → Prop) (E : Value → Shared → Prop) (t : Nat), Q (.type "super") ⟨h1, g, dd, t, os⟩ → wpAny Γ.M (A.deeper (callEnv fd hh.objs.size fA)) (loadName (callEnv fd hh.objs.size fA) "super") Q E ⟨h1, g, dd, t, os⟩ := by
  intro Q E t hq
  refine ks_loadName_global hk SX.hks ?_
  have hg' : h1.Ns (callEnv fd hh.objs.size fA).globals mg := by
   show h1.Ns fd.globals mg
   rw [SX.globals]; exact hg.keeps K1.1.base
  rcases N with N | ⟨N, mb, hb, N'⟩
  ·exact Calls.loadGlobal_global hg' N hq
  ·exact Calls.loadGlobal_builtin hg' N (by show h1.Ns fd.builtins mb; rw [SX.builtins]; exact hb.keeps K1.1.base) N' hq
 refine N1 _ _ _ ⟨rfl, ?_⟩
 clear N1
 refine wpAny_loadName_free hk SX.hkc hclo ⟨_, X1 _ _ hcell, rfl⟩ ?_
 rw [har]
 have ho1 := hk1 _ _ ho
 refine wpAny_loadName_local hk SX.hself hns b1 (ks_wpAny_isType_cls (X1 _ _ hD1) hD2 ⟨rfl, ks_wpAny_call_super (X1 _ _ hD1) hD2 ho1 rfl (λ c e => by cases e) (looks_subIn X1 SX.sub) λ h2 e2 k2 => ?_⟩)
 have X2 := X1.keeps k2
 refine ks_wpAny_getMethod_super e2 (looks_opaque X2 SX.any) (l₀ := cd.mro) (λ A Q E s k q => wpAny_bind ((looks_clsIn X2 hcd) A _ E s k (wpAny_pure q))) rfl X2 hm (X2 _ _ hof) hofc hxC SX.hy ?_
 have hq : (h2.push { cls := .type "method", data := .fields #[.ref fP, .ref a] }).get? h2.objs.size = some (methodObj (.ref fP) (.ref a)) := Heap.get?_push_size _ rfl
 have k3 : ∀ b o, hh.get? b = some o → (h2.push { cls := .type "method", data := .fields #[.ref fP, .ref a] }).get? b = some o := λ b o e => Heap.get?_push_of_some _ (k2 b o (hk1 b o e))
 have X3 := XX.keeps k3
 refine callWith_of (P := MethP K h2.objs.size fP (.ref a)) (by rw [mI, hp _]; rfl) (keeps_M SX.fnP) (kH hp (Ez (Ny _) (wpAny_Name (wpAny_loadName_local hk SX.hrow (hns.keeps λ b o e => Heap.get?_push_of_some _ (k2 b o e)) b2 ?_) hd)))
 refine Ez (hst2 _) (Calls.Constant_str (args_nil ⟨⟨hq, X3⟩, wpAny_call (ks_codeAny_call_bound hq ?_)⟩))
 have q3 := λ tk => kept (s := ⟨hh, g, dd, t, os⟩) H k3 tk
 refine hF _ μ σ _ _ _ _ _ _ (r.deeper _) (q3 0).1 (.cons (VI.mono (q3 0).2.2 (λ _ _ => rfl) (Nat.le_refl _)) (.cons (V2.mono (q3 0).2.2 (λ _ _ => rfl) (Nat.le_refl _)) (.cons (by rw [← SX.hx]; exact .str _ _) .nil))) e1 λ u pT s₄ oE mN V₄ => wpAt_of_wpAny (wpAny_pure (cc _ pT s₄ oE ((q3 _).2.1.then mN) .none))
end
end Mine
end
section
open PySem PySem.W PyProof.Rows
open AutoSeq1 (wpAny_loadPart')
namespace Mine
section
variable {prog : Program} {w : World} {A : Around} {E : Value → Shared → Prop} {s : Shared}
theorem uI {it t : Addr} {i : Nat} {items : Array Value} {x : Value} {Q : Value → Shared → Prop} (hit : s.heap.IsTupleIter it t i) (ht : s.heap.IsTuple t items) (hx : items[i]? = some x)
  (hQ : ∀ h', h'.IsTupleIter it t (i + 1) → Heap.SameBut it s.heap h' → Q x { s with heap := h' }) : wpAny (model prog w) A (Builtin.SmallTypes.nextOf (.ref it)) Q E s := by
 obtain ⟨o, ho, hc, hd⟩ := id hit
 obtain ⟨ol, hol, _, nl, hdl⟩ := ht
 unfold Builtin.SmallTypes.nextOf
 refine wpAny_bind (wpAny_callSpecial?_slot (name := Str.ofString "__next__") hit.typeIs PySem.F.slot_tuple_iterator_next
  (wpAny_call_entry PySem.F.slot_tuple_iterator_next hit.typeIs PySem.F.entry_tuple_iterator_next ?_ (PySem.F.args_tuple_iterator_next_1 _)))
 show wpAny _ _ (field (.ref it) 0 >>= _) _ _ s
 refine wpAny_bind (wpAny_field ho hd (x := .ref t) rfl ?_)
 show wpAny _ _ (if (Value.ref t == Value.none) = true then _ else _) _ _ s
 rw [if_neg (show ¬ ((Value.ref t == Value.none) = true) from Bool.false_ne_true)]
 show wpAny _ _ (field (.ref it) 1 >>= _) _ _ s
 refine wpAny_bind (wpAny_field ho hd (x := .int i 0) rfl ?_)
 show wpAny _ _ (seqItems? (.ref t) >>= _) _ _ s
 refine wpAny_bind (wpAny_seqItems hol hdl ?_)
 simp only [Int.toNat_natCast, hx]
 refine wpAny_bind (wpAny_setField ho hd (by simp) (wpAny_pure ⟨x, rfl, wpAny_pure (hQ _ ?_ (Heap.SameBut.update ..))⟩))
 exact ⟨_, Heap.get?_update_self _ ho (Obj.isFreed_of_fields (Obj.data_mapFields hd _)), (Obj.cls_mapFields ..).trans hc, by
  rw [Obj.data_mapFields hd]; simp [rawInt]⟩
theorem v9 {it t : Addr} {i : Nat} {items : Array Value} {Q : Value → Shared → Prop} (hh : A.handled = none) (hit : s.heap.IsTupleIter it t i) (ht : s.heap.IsTuple t items) (hx : items[i]? = none)
  (hE : ∀ h' e, Heap.ExtBut it s.heap h' → (∃ o, h'.get? e = some o ∧ o.cls = .type "StopIteration") → E (.ref e) { s with heap := h' }) :
  wpAny (model prog w) A (Builtin.SmallTypes.nextOf (.ref it)) Q E s := by
 obtain ⟨o, ho, hc, hd⟩ := id hit
 obtain ⟨ol, hol, _, nl, hdl⟩ := ht
 unfold Builtin.SmallTypes.nextOf
 refine wpAny_bind (wpAny_callSpecial?_slot (name := Str.ofString "__next__") hit.typeIs PySem.F.slot_tuple_iterator_next
  (wpAny_call_entry PySem.F.slot_tuple_iterator_next hit.typeIs PySem.F.entry_tuple_iterator_next ?_ (PySem.F.args_tuple_iterator_next_1 _)))
 show wpAny _ _ (field (.ref it) 0 >>= _) _ _ s
 refine wpAny_bind (wpAny_field ho hd (x := .ref t) rfl ?_)
 show wpAny _ _ (if (Value.ref t == Value.none) = true then _ else _) _ _ s
 rw [if_neg (show ¬ ((Value.ref t == Value.none) = true) from Bool.false_ne_true)]
 show wpAny _ _ (field (.ref it) 1 >>= _) _ _ s
 refine wpAny_bind (wpAny_field ho hd (x := .int i 0) rfl ?_)
 show wpAny _ _ (seqItems? (.ref t) >>= _) _ _ s
 refine wpAny_bind (wpAny_seqItems hol hdl ?_)
 simp only [Int.toNat_natCast, hx]
 refine wpAny_bind (wpAny_rule (wpAny_bind (wpAny_setField ho hd (by simp) ?_)))
 show wpAny _ _ (newExc (.type "StopIteration") [] >>= _) _ _ _
 refine wpAny_bind ?_
 simp only [newExc, newTuple]
 refine wpAny_bind (wpAny_newObj_type ?_ (by size_fits))
 refine wpAny_bind (m := firstArgMember _ _) (wpAny_of_eq (a := Value.none) (by first | rfl | (simp only [firstArgMember]; rfl)) ?_)
 refine wpAny_newObj_type ?_ (by size_fits)
 refine wpAny_bind (wpAny_handled ?_)
 first | rw [show A.in1.handled = none from hh] | rw [hh]
 refine wpAny_bind (wpAny_pure (wpAny_throw ?_))
 exact hE _ _ (((Heap.SameBut.update ..).extBut.push _).push _) ⟨_, Heap.get?_push_size _ rfl, rfl⟩
theorem AB (hh : A.handled = none) (it l : Addr) (hne : l ≠ it) (items : Array Value) :
  Draws prog w A it [it, l] items.size (λ i v => items[i]? = some v) (λ i h => h.IsTupleIter it l i ∧ h.IsTuple l items) where
 live := λ _ _ st => let ⟨o, ho, _⟩ := st.1; ⟨o, ho⟩
 frame := λ _ _ _ st hk => ⟨st.1.at λ o e => hk it (by simp) o e, st.2.at λ o e => hk l (by simp) o e⟩
 item := λ i s Q E hi st hQ => by
  refine uI st.1 st.2 (x := items[i]) (by simp [hi]) λ h' hit' hs' => ?_
  exact hQ _ h' s.toks (by simp [hi]) ⟨hit', st.2.at λ o e => hs'.extBut _ o hne e⟩ hs'
 done := λ s Q E st hE => v9 hh st.1 st.2 (by simp) hE
theorem Dg {M : Model} {A : Around} {b : Bool} {Q : Bool → Shared → Prop} {E : Value → Shared → Prop} {s : Shared} (h : ∀ b, Q b s) : wpAny M A (pure b) Q E s := wpAny_pure (h b)
theorem Aj (l : Addr) (items : Array Value) (n : Nat) :
  Meets (Builtin.«enumerate.__new__» ⟨[.type "enumerate", .ref l], []⟩) (λ _ R s => s.heap.get? l = some { cls := .type "tuple", dict := none, data := .seq items n, slots := #[] } ∧
   R (.ok (.ret (.ref (s.heap.push { cls := .type "tuple_iterator", data := .fields #[.ref l, .int 0 0] }).objs.size)))
    { s with heap := (s.heap.push { cls := .type "tuple_iterator", data := .fields #[.ref l, .int 0 0] }).push { cls := .type "enumerate", data := .fields #[.none, .bool false, .ref s.heap.objs.size, rawInt 0, .none, .none] } }) :=
 .of_wp λ prog w A R s h => by
  obtain ⟨hp, g, d, tk, os⟩ := s; obtain ⟨hl, h⟩ := h
  have hsub := sub_enumerate
  have hL : Heap.IsTuple (Shared.heap ⟨hp, g, d, tk, os⟩) l items := ⟨_, hl, rfl, n, rfl⟩
  wp_walk using wpAny_loadPart' hl
  refine wpAny_stack_any λ st => Dg λ b => ?_
  cases b
  ·wp_walk using wpAny_loadPart' hl, wpAny_pyIter_tuple hL
   exact ⟨_, rfl, h⟩
  ·wp_walk using wpAny_loadPart' hl, wpAny_pyIter_tuple hL
   exact ⟨_, rfl, h⟩
theorem I5 {l : Addr} {items : Array Value} {n : Nat} {Q : Value → Shared → Prop} (hL : IsT s.heap l items n)
  (h : ∀ h', IsEnum h' (s.heap.objs.size + 1) s.heap.objs.size 0 .none → h'.IsTupleIter s.heap.objs.size l 0 → h'.objs.size = s.heap.objs.size + 2 →
   (∀ b o, s.heap.get? b = some o → h'.get? b = some o) → Q (.ref (s.heap.objs.size + 1)) { s with heap := h' }) :
  wpAny (model prog w) A (call (.type "enumerate") [.ref l]) Q E s := by
 refine callType_new PySem.F.called_enumerate (by decide) (PySem.F.typeCall_enumerate_1 _) (PySem.F.newCall_enumerate_1 _) (λ obj => PySem.F.args_object_init_2 obj _) PySem.F.entry_enumerate_new
  (Aj l items n) ⟨hL, ?_⟩
 have hz : (s.heap.push { cls := .type "tuple_iterator", data := .fields #[.ref l, .int 0 0] }).objs.size = s.heap.objs.size + 1 := Heap.size_push ..
 show _ ∧ _
 rw [hz]
 have he : IsEnum ((s.heap.push { cls := .type "tuple_iterator", data := .fields #[.ref l, .int 0 0] }).push
   { cls := .type "enumerate", data := .fields #[.none, .bool false, .ref s.heap.objs.size, rawInt 0, .none, .none] }) (s.heap.objs.size + 1) s.heap.objs.size 0 .none := by
  have := Heap.get?_push_size (s.heap.push { cls := .type "tuple_iterator", data := .fields #[.ref l, .int 0 0] })
   (o := { cls := .type "enumerate", data := .fields #[.none, .bool false, .ref s.heap.objs.size, rawInt 0, .none, .none] }) rfl
  rw [hz] at this; exact this
 refine ⟨⟨_, he, rfl⟩, h _ he ⟨_, Heap.get?_push_of_some _ (Heap.get?_push_size _ rfl), rfl, rfl⟩ (by rw [Heap.size_push, hz]) λ b o x => Heap.get?_push_of_some _ (Heap.get?_push_of_some _ x)⟩
end
section
variable {Γ : gT} {cx cy : Cx} {d : Nat} {env : Env} {μ aJ bA : Nat → Addr} {n n₁ n₂ : Nat} {ρ : Loc} {s s₁ s₂ : Shared} {σ σ₁ : St}
noncomputable def oY (v : V) (σ : St) (k : Nat) : Option (Option V) := match v with
 | .tup l => some (l[k]?.map λ x => .tup [.int k, x])
 | .obj i => (getL σ i).map λ l => l[k]?.map λ x => .tup [.int k, x]
 | _ => none
inductive GB (Γ : gT) (it : Addr) (μ : Nat → Addr) (n : Nat) (h : Heap) (k : Nat) : V → Prop
 | tup {l : List V} {t : Addr} {items : Array Value} {kk : Nat} (hle : k ≤ items.size) (ht : IsT h t items kk) (hs : VRs Γ μ n h l items.toList) (hi : h.IsTupleIter it t k) : GB Γ it μ n h k (.tup l)
 | obj {i : Nat} (hi : i < n) (hl : h.IsListIter it (μ i) k) : GB Γ it μ n h k (.obj i)
structure FC (Γ : gT) (v : V) (en it : Addr) (μ : Nat → Addr) (n : Nat) (h : Heap) (k : Nat) : Prop where
 intro ::
 h1 : Γ.h₀.get? en = none
 h2 : Γ.h₀.get? it = none
 h3 : en ≠ it
 he : ∃ old, IsEnum h en it k old
 x : GB Γ it μ n h k v
theorem B9 {v : V} {en it : Addr} {h : Heap} {k : Nat} (x : FC Γ v en it μ n h k) : ∀ b ∈ [en, it], Γ.h₀.get? b = none ∧ ∃ o vs, h.get? b = some o ∧ o.data = .fields vs ∧ fz o = false := λ b hb => by
 obtain ⟨h1, h2, _, ⟨old, he⟩, x⟩ := x
 rcases List.mem_cons.mp hb with rfl | hb
 ·exact ⟨h1, _, _, he, rfl, rfl⟩
 ·cases List.mem_singleton.mp hb
  cases x with
  | tup _ _ _ hi => exact ⟨h2, pU hi⟩
  | obj _ hi => exact ⟨h2, oQ hi⟩
theorem tup_ne {h : Heap} {t it : Addr} {items : Array Value} {k : Nat} {o : Obj} (ht : IsT h t items k) (ho : h.get? it = some o) {vs : Array Value} (hd : o.data = .fields vs) : t ≠ it := λ z => by
 rw [← z, ht] at ho; cases ho; cases hd
theorem Hi (v : V) (en it : Addr) : Iter Γ d (λ t => ∃ elts k pos, t = .Tuple elts k pos) en [en, it] (oY v) (FC Γ v en it) where
 keep := λ {μ n h dY n' h' k} ⟨a, b, c, ⟨old, he⟩, x⟩ hk kf hμ hn => by
  have hk2 := hk it (.tail _ (.head _))
  refine ⟨a, b, c, ⟨old, hk en (.head _) _ he⟩, ?_⟩
  cases x with
  | tup hle ht hs hi => exact .tup hle (kf _ _ ht rfl) (hs.mono kf hμ hn) (hi.at hk2)
  | obj hi hl => exact .obj (Nat.lt_of_lt_of_le hi hn) (hμ _ hi ▸ hl.at hk2)
 objs := λ {μ n h k} x => B9 x
 item := λ {A μ σ s k v' Q E} r H x e c => by
  refine byC λ hG => ?_
  have ob := B9 x
  obtain ⟨h1, h2, h3, ⟨old, he⟩, x⟩ := x
  have ml : en < s.heap.objs.size := Heap.lt_size he
  have fin : ∀ (xu : Value) (h' : Heap) (tk : Nat) (xv : V), VR Γ μ σ.length s.heap xv xu → .tup [.int k, xv] = v' → IsEnumOut h' en it ((k : Int) + 1) xu s.heap.objs.size →
    h'.get? s.heap.objs.size = some { cls := .type "tuple", data := .seq #[.int k tk, xu] } → (∀ b o, b ≠ en → b ≠ it → s.heap.get? b = some o → h'.get? b = some o) →
    (∀ h'', (∀ b o, b ≠ en → h'.get? b = some o → h''.get? b = some o) → cL s.heap h'' → GB Γ it μ σ.length h'' (k + 1) v) → Q (some (.ref s.heap.objs.size)) { s with heap := h', toks := tk + 1 } := by
   intro xu h' tk xv hv ev ho hT hk hIR
   subst ev
   refine c _ _ λ target Hp E₂ ht q => ?_
   obtain ⟨elts, kk, pos, rfl⟩ := ht
   refine wpAny_letOwnedTupleGo_enum ho λ h'' he'' hs'' => ?_
   have kb : jG [en, it] s.heap h'' := λ b o hb e => hs''.extBut b o (λ z => hb (z ▸ .head _)) (hk b o (λ z => hb (z ▸ .head _)) (λ z => hb (z ▸ .tail _ (.head _))) e)
   have kf : cL s.heap h'' := kb.fz (Γ := Γ) ob
   exact q { s with heap := h'', toks := tk + 1 } kb ⟨rfl, rfl, rfl⟩ ⟨h1, h2, h3, ⟨_, he''⟩, hIR h'' (λ b o hb e => hs''.extBut b o hb e) kf⟩ (.tup (k := 0) (items := #[.int k tk, xu]) (hs''.extBut _ _ (Nat.ne_of_gt ml) hT) (.cons (.int _ _) (.cons (hv.mono kf (λ _ _ => rfl) (Nat.le_refl _)) .nil)))
  clear c
  cases x with
  | tup hle ht hs hi =>
   obtain ⟨xv, hxv, e⟩ := Option.map_eq_some_iff.mp (Option.some.inj e)
   obtain ⟨xu, hu, hv⟩ := hs.get hxv
   rw [Array.getElem?_toList] at hu
   have hlt := (Array.getElem?_eq_some_iff.mp hu).1
   have hte := tup_ne ht he rfl
   obtain ⟨o, ho, _, hd⟩ := id hi
   refine hG (wpAny_pyNext_enum_itemD (AB (A := A.in1) r.handled it _ (tup_ne ht ho hd) _) he ⟨hi, ⟨_, ht, rfl, _, rfl⟩⟩ hlt h3 (λ z => (List.mem_cons.mp z).elim h3 λ z => hte (List.mem_singleton.mp z).symm) λ x' h' tk hP ho hs' hT hsz hk => ?_)
   rw [hu] at hP; cases hP
   exact fin xu h' tk xv hv e ho hT hk λ h'' hk'' kf => .tup hlt (kf _ _ ht rfl) (hs.mono kf (λ _ _ => rfl) (Nat.le_refl _)) (hs'.1.at λ o e => hk'' _ o (Ne.symm h3) e)
  | obj hi hit =>
   obtain ⟨l, hl, e⟩ := Option.map_eq_some_iff.mp e
   obtain ⟨xv, hxv, e⟩ := Option.map_eq_some_iff.mp e
   obtain ⟨_, items, kk, hL, hs⟩ := H.list hl
   obtain ⟨xu, hu, hv⟩ := hs.get hxv
   rw [Array.getElem?_toList] at hu
   exact hG (wpAny_pyNext_enum_item he hit (isList hL) hu h3 λ h' ho hit' hT hsz hk => fin xu h' s.toks xv hv e ho hT hk λ h'' hk'' kf => .obj hi (hit'.at λ o e => hk'' _ o (Ne.symm h3) e))
 stop := λ {A μ σ s k Q E} r H x e c => by
  refine byC λ hG => ?_
  obtain ⟨h1, h2, h3, ⟨old, he⟩, x⟩ := x
  have kb : ∀ h', Heap.ExtBut it s.heap h' → jG [en, it] s.heap h' := λ h' hs b o hb e => hs b o (λ z => hb (z ▸ .tail _ (.head _))) e
  cases x with
  | tup hle ht hs hi =>
   have e := hs.none (Option.map_eq_none_iff.mp (Option.some.inj e))
   obtain ⟨o, ho, _, hd⟩ := id hi
   cases Nat.le_antisymm hle (Array.getElem?_eq_none_iff.mp e)
   exact hG (wpAny_pyNext_enum_endD (AB (A := A.in1) r.handled it _ (tup_ne ht ho hd) _) he ⟨hi, ⟨_, ht, rfl, _, rfl⟩⟩ λ h' hx => c _ (kb h' hx) ⟨rfl, rfl, rfl⟩)
  | obj hi hit =>
   obtain ⟨l, hl, e⟩ := Option.map_eq_some_iff.mp e
   obtain ⟨_, items, kk, hL, hs⟩ := H.list hl
   exact hG (wpAny_pyNext_enum_end r.handled he hit (isList hL) (hs.none (Option.map_eq_none_iff.mp e)) λ h' hx => c _ (kb h' hx) ⟨rfl, rfl, rfl⟩)
noncomputable def XS.j6 (f : X V) (a : XA) (g : XS) (fuel : Nat) : XS := λ ρ σ => match f ρ σ with
 | some (v, σ₁) => XS.uW (oY v) a g fuel 0 ρ σ₁
 | none => none
theorem FB {v : V} {u : Value} {A : Around} {Q : Value → Shared → Prop} {E : Value → Shared → Prop} {o : Option V} (H : aY Γ μ σ s.heap) (V : VR Γ μ σ.length s.heap v u) (e : oY v σ 0 = some o)
  (c : ∀ h', (∀ b o, s.heap.get? b = some o → h'.get? b = some o) → FC Γ v (s.heap.objs.size + 1) s.heap.objs.size μ σ.length h' 0 → Q (.ref (s.heap.objs.size + 1)) { s with heap := h' }) : wpAny Γ.M A (call (.type "enumerate") [u]) Q E s := by
 have nb : ∀ b, s.heap.objs.size ≤ b → Γ.h₀.get? b = none := λ b hb => by
  cases q : Γ.h₀.get? b with
  | none => rfl
  | some o => exact absurd (Heap.lt_size (H.base _ _ q)) (Nat.not_lt.mpr hb)
 cases v with
 | tup _ =>
  obtain ⟨_, items, _, rfl, ht, hs⟩ := V.tupI
  exact I5 ht λ h' he hi _ hk => c h' hk ⟨nb _ (Nat.le_succ _), nb _ (Nat.le_refl _), Nat.succ_ne_self _, ⟨_, he⟩, .tup (Nat.zero_le _) (hk _ _ ht) (hs.mono (λ a o e _ => hk a o e) (λ _ _ => rfl) (Nat.le_refl _)) hi⟩
 | obj _ =>
  cases V.kE.1
  obtain ⟨l, hl, e⟩ := Option.map_eq_some_iff.mp e
  obtain ⟨hi, items, kk, hL, hs⟩ := H.list hl
  exact call_enumerate_list (isList hL) λ h' he hit _ hk => c h' hk ⟨nb _ (Nat.le_succ _), nb _ (Nat.le_refl _), Nat.succ_ne_self _, ⟨_, he⟩, .obj hi hit⟩
 | _ => exact nS e
theorem aM.j6 {x : Str} {elts : List PySem.Expr} {e : PySem.Expr} {kk : Nat} {tpos p pos2 pos : Pos} {b : List Stmt} {f : X V} {a : XA} {g : XS} (fuel : Nat) (N : cY Γ x (.type "enumerate")) (hx : cx.sc.names.lookup x = some .globalImplicit) (hd : (x == ("__debug__" : Str)) = false) (he : ∀ env, starEach [e] env = [(false, eval e env)])
  (hf : aC Γ d cx e f) (ha : eG Γ d cx (.Tuple elts kk tpos) a) (hg : aE Γ d cx b g) (hs : ∀ env v, foldedSetIterable (.Call (.Name x p) [e] [] pos2) env v = pure v) :
  aM Γ d cx (.For (.Tuple elts kk tpos) (.Call (.Name x p) [e] [] pos2) b [] pos) (XS.j6 f a g fuel) := λ A env μ ρ σ s fl cJ σ' Q E r H R e' c => by
 unfold XS.j6 at e'
 split at e'
 case h_2 => cases e'
 rename_i v σ₁ e1
 obtain ⟨o, ho⟩ := Ec e'
 refine wpAny_For ?_ (hs env)
 refine wpAny_Call_NameR (mW N hx hd H R ?_)
 refine callWith_of (P := λ h => ∀ b o, Γ.h₀.get? b = some o → h.get? b = some o) (by rw [mI, plain1 he env]; rfl) kK.type (kH (plain1 he) ?_)
 refine args_cons ?_ (he env)
 refine hf A env μ ρ σ s v σ₁ _ E r H R e1 λ u aJ s₁ H₁ S₁ cQ => args_nil ⟨H₁.base, ?_⟩
 refine FB H₁ cQ ho λ h' hk x => ?_
 obtain ⟨old, hen⟩ := x.he
 refine wpAny_pyIter_enum hen ?_
 obtain ⟨cP, T, _⟩ := kept H₁ hk s₁.toks
 have S₂ := S₁.tT (Γ := Γ) (cx := cx) (env := env) |>.fN T.tT
 refine B4 (Hi v _ _) ⟨_, _, _, rfl⟩ ha hg r s μ σ.length (λ b hb => ?_) fuel 0 S₂ cP ((R.step H S₁).step H₁ T) x e' λ w dY s' H' S' R' V' => c w dY s' H' S' R' V'
 have hlt : s₁.heap.objs.size ≤ b := by
  simp only [List.mem_cons, List.not_mem_nil, or_false] at hb
  rcases hb with rfl | rfl
  ·exact Nat.le_succ _
  ·exact Nat.le_refl _
 cases q : s.heap.get? b with
 | none => rfl
 | some o => obtain ⟨o', e'⟩ := S₁.live _ _ q; exact absurd (Heap.lt_size e') (Nat.not_lt.mpr hlt)
end
end Mine
end
section
open PySem PySem.W PyProof.Rows
namespace Mine
theorem jP {α : Type} {l : List α} {a : α} (n : Nat) (h : l[n]? = some a) : a ∈ l := List.mem_of_getElem? h
noncomputable def env0 (sc : Scope) : Env := { scope := sc, locals := 0, globals := 0, cells := [] }
theorem oH {env : Env} {sc : Scope} (h : env.scope = sc) (ts : List PySem.Expr) (v : PySem.Expr) (l : Nat) : swapsWithSole ts v l env = swapsWithSole ts v l (env0 sc) := by
 subst h
 match ts with
 | [] => rfl
 | [t] => rfl
 | _ :: _ :: _ => rfl
theorem dZ {env : Env} {sc : Scope} (h : env.scope = sc) (ts : List PySem.Expr) (v : PySem.Expr) : swappedStores ts v env = swappedStores ts v (env0 sc) := by
 subst h
 rfl
namespace X
noncomputable def bin (o : V → V → St → Option (V × St)) (f g : X V) : X V := X.bind f λ a => X.bind g λ b => X.lift (o a b)
noncomputable def eX (f : X (List V)) : X V := X.bind f λ vs => X.bind (iY vs) λ vs => X.pure (.tup vs)
noncomputable def iU (f : X (List V)) : X V := X.bind f λ vs => X.bind (iY vs) λ vs => X.lift λ σ => some (.obj σ.length, σ ++ [.list vs])
noncomputable def aH : X (List V) := X.pure []
noncomputable def aB (f : X V) (g : X (List V)) : X (List V) := X.bind f λ v => X.bind g λ vs => X.pure (v :: vs)
noncomputable def qR (o o' : V → V → St → Option (V × St)) (f g h : X V) : X Bool := X.bind f λ a => X.bind g λ b => X.bind (X.bind (X.lift (o a b)) X.truth) λ t => if t then X.bind (X.bind h λ c => X.lift (o' b c)) X.truth else X.pure false
noncomputable def oN (f : X Bool) : X Bool := X.bind f λ b => X.pure (!b)
noncomputable def LL (f : X V) : X V := X.bind (X.bind f X.truth) λ b => X.pure (.bool (!b))
noncomputable def test (f : X V) : X Bool := X.bind f X.truth
noncomputable def i8 (f g : X Bool) : X Bool := X.bind f λ b => if b == (BoolOp.And == .And) then g else X.pure b
noncomputable def pQ (f g : X Bool) : X Bool := X.bind f λ b => if b == (BoolOp.Or == .And) then g else X.pure b
noncomputable def wJ : X Bool := X.pure (BoolOp.And == .And)
noncomputable def orZ : X Bool := X.pure (BoolOp.Or == .And)
noncomputable def Kz (f g : X V) : X V := X.bind (X.bind f X.truth) λ b => if b == (BoolOp.And == .And) then g else X.pure (.bool b)
noncomputable def L0 (f : X Bool) (g h : X V) : X V := X.bind f λ c => if c then g else h
noncomputable def sub (f g : X V) : X V := X.bind f λ x => X.bind g λ y => X.lift (i6 x y)
noncomputable def slice (f : X V) (g h : Option (X V)) : X V := X.bind f λ x => X.bind (yX g) λ l => X.bind (yX h) λ u => X.lift (gX x l u)
noncomputable def attr (c k : Nat) (f : X V) : X V := X.bind f λ v => X.lift (wX c k v)
noncomputable def call (F : FF) (g : X (List V)) : X V := X.bind g λ vs => X.lift (F vs)
noncomputable def fH (F : FF) (f : X V) (g : X (List V)) : X V := X.bind f λ v => X.bind (X.lift (asList v)) λ v => X.bind g λ vs => X.lift (F (v :: vs))
noncomputable def cV (c k : Nat) (F : FF) (f : X V) (g : X (List V)) : X V := X.bind f λ v => X.bind (X.lift (tP c k v)) λ v => X.bind g λ vs => X.lift (F (v :: vs))
noncomputable def neg (f : X V) : X V := X.bind f λ v => X.lift λ σ => match v with | .int a => some (.int (-a), σ) | _ => Option.none
noncomputable def tC (f : X V) : X V := X.bind f λ v => X.lift (oW v)
noncomputable def qK : X V := X.lift λ σ => some (.obj σ.length, σ ++ [.bX []])
noncomputable def HR : X (List (V × V)) := X.pure []
noncomputable def lX (f g : X V) (h : X (List (V × V))) : X (List (V × V)) := X.bind f λ a => X.bind g λ b => X.bind h λ r => X.pure ((a, b) :: r)
noncomputable def Cc (f : X (List (V × V))) : X V := X.bind f λ vs => X.lift λ σ => ((intKeys vs).map λ l => Mine.O.bX (qJ l)).map λ o => (.obj σ.length, σ ++ [o])
noncomputable def xC (f : X (List (V × V))) : X V := X.bind f λ vs => X.lift λ σ => ((strKeys vs).map λ l => Mine.O.aW (qJ l)).map λ o => (.obj σ.length, σ ++ [o])
noncomputable def f9 (locs : List Nat) (f : X V) (a : XA) (t : Option (X Bool)) (e : X V) (fuel : Nat) : X V := X.comp locs f (.list []) a t (XC.emit e) fuel
noncomputable def CU (locs : List Nat) (f : X V) (a : XA) (t : Option (X Bool)) (f2 : X V) (a2 : XA) (t2 : Option (X Bool)) (e : X V) (fuel : Nat) : X V := X.comp locs f (.list []) a t (XC.nest f2 a2 t2 (XC.emit e) fuel) fuel
noncomputable def Gm (locs : List Nat) (f : X V) (a : XA) (t : Option (X Bool)) (k v : X V) (fuel : Nat) : X V := X.comp locs f (.bX []) a t (XC.uZ k v) fuel
end X
noncomputable def XS.fail : XS := λ _ _ => none
noncomputable def IS (c k : Nat) (F : FF) : FF := λ vs σ => match vs with
 | [.inst c' i, v] => if c' = c then (match F [.inst c' i, v, .str k] σ with | some (_, σ') => some (.none, σ') | none => none) else none
 | _ => none
section
variable {Γ : gT} {d : Nat}
noncomputable def iM (a b : V) (σ : St) : Option (V × St) := match a, b with
 | .obj i, .obj j => match getL σ i, getL σ j with
  | some l, some m => if l.length ≠ m.length ∧ l.length ≤ 100000 ∧ m.length ≤ 100000 then some (.bool true, σ) else oNe a b σ
  | _, _ => oNe a b σ
 | _, _ => oNe a b σ
theorem HV {a b : V} {σ : St} {r : V × St} (e : iM a b σ = some r) : oNe a b σ = some r ∨ ∃ i j l m, a = .obj i ∧ A5 (b = .obj j) (getL σ i = some l) (getL σ j = some m) (l.length ≠ m.length ∧ l.length ≤ 100000 ∧ m.length ≤ 100000) (some (Mine.V.bool true, σ) = some r) := by
 cases a with
 | obj i => cases b with
  | obj j =>
   unfold iM at e
   dsimp only at e
   cases h1 : getL σ i with
   | none => rw [h1] at e; exact .inl e
   | some l => cases h2 : getL σ j with
    | none => rw [h1, h2] at e; exact .inl e
    | some m =>
     rw [h1, h2] at e
     by_cases hz : l.length ≠ m.length ∧ l.length ≤ 100000 ∧ m.length ≤ 100000
     ·exact .inr ⟨i, j, l, m, rfl, rfl, h1, h2, hz, (if_pos hz).symm.trans e⟩
     ·exact .inl ((if_neg hz).symm.trans e)
  | _ => exact .inl e
 | _ => exact .inl e
theorem b9.EG (G : m8 Γ) : b9 Γ d (compareOp .NotEq) iM := λ A μ σ s a b v ua ub σ' Q E r H xa xb e c => by
 obtain e | ⟨i, j, l, m, rfl, rfl, hl, hm, hz, e2⟩ := HV e
 ·exact b9.ne G A μ σ s a b v ua ub σ' Q E r H xa xb e c
 clear e
 cases e2
 cases xa.kE.1; cases xb.kE.1
 obtain ⟨_, it1, k1, hL1, hs1⟩ := H.list hl
 obtain ⟨_, it2, k2, hL2, hs2⟩ := H.list hm
 have e1 := hs1.length.trans Array.length_toList
 have e2 := hs2.length.trans Array.length_toList
 have hu := r.units
 exact PySem.SeqAt.RcNeAt.lists_lengths (isList hL1) (isList hL2) (by simp; lia) (by show A.units < 9900; lia) Γ.prog Γ.w E Q (c _ μ _ H .refl (.bool _))
theorem aC.Mv {cx : Cx} {keys : List (Option PySem.Expr)} {values : List PySem.Expr} {pos : Pos} (l : List (PySem.Expr × PySem.Expr)) {f : X (List (V × V))} (_hk : keys = l.map λ p => some p.1) (_hv : values = l.map (·.2)) (hsh : oF keys values pos l) (h0 : l ≠ []) (hlen : l.length ≤ 15) (hf : iP Γ d cx l f) :
 aC Γ d cx (.Dict keys values pos) (X.Cc f) := .Cc l hsh h0 hlen hf
theorem aC.Jd {cx : Cx} {keys : List (Option PySem.Expr)} {values : List PySem.Expr} {pos : Pos} (l : List (PySem.Expr × PySem.Expr)) {f : X (List (V × V))} (_hk : keys = l.map λ p => some p.1) (_hv : values = l.map (·.2)) (hsh : oF keys values pos l) (h0 : l ≠ []) (hlen : l.length ≤ 15) (hf : iP Γ d cx l f) :
 aC Γ d cx (.Dict keys values pos) (X.xC f) := .xC l hsh h0 hlen hf
end
noncomputable def Ex : XS := XS.seq (XS.assign (X.iU X.aH) (XA.name 1)) (XS.seq (XS.for (X.var 0) (XA.tup [XA.name 2, XA.name 3]) (XS.seq (XS.drop (X.fH uY (X.var 1) (X.aB (X.call (tJ oV) (X.aB (X.var 2) (X.aB (X.bin eR (X.var 3) (X.pure (.int 1))) X.aH))) X.aH))) XS.nil) 1000) (XS.seq (XS.ret (X.var 1)) XS.nil))
noncomputable def rB : FF := eV 1 3 Ex
noncomputable def Gs : XS := XS.seq (XS.ret (X.call (bY g7) (X.aB (X.f9 [2, 3] (X.var 0) (XA.tup [XA.name 2, XA.name 3]) (some (X.test (X.bin oLe (X.var 2) (X.var 1)))) (X.eX (X.aB (X.var 2) (X.aB (X.call (tJ NU) (X.aB (X.var 3) (X.aB (X.var 1) X.aH))) X.aH))) 1000) X.aH))) XS.nil
noncomputable def yW : FF := eV 2 2 Gs
noncomputable def Cm : XS := XS.seq (XS.ret (X.call (bY g7) (X.aB (X.f9 [2, 3] (X.var 0) (XA.tup [XA.name 2, XA.name 3]) (some (X.test (X.bin oGe (X.var 3) (X.var 1)))) (X.eX (X.aB (X.call (tJ NV) (X.aB (X.var 2) (X.aB (X.var 1) X.aH))) (X.aB (X.var 3) X.aH))) 1000) X.aH))) XS.nil
noncomputable def rT : FF := eV 2 2 Cm
noncomputable def Cl : XS := XS.seq (XS.ret (X.bin eR (X.call yW (X.aB (X.var 0) (X.aB (X.bin rY (X.var 1) (X.pure (.int 1))) X.aH))) (X.call rT (X.aB (X.var 0) (X.aB (X.bin eR (X.var 1) (X.pure (.int 1))) X.aH))))) XS.nil
noncomputable def wM : FF := eV 2 0 Cl
noncomputable def Ey : XS := XS.seq (XS.assign (X.eX (X.aB (X.sub (X.var 0) (X.pure (.int 1))) (X.aB (X.sub (X.var 0) (X.pure (.int 2))) X.aH))) (XA.swap [(2, 6), (3, 4)])) (XS.seq (XS.ite (X.test (X.bin oEq (X.var 2) (X.pure (.str 9)))) (XS.seq (XS.ret (X.call yW (X.aB (X.var 1) (X.aB (X.var 3) X.aH)))) XS.nil) XS.nil) (XS.seq (XS.ite (X.test (X.bin oEq (X.var 2) (X.pure (.str 8)))) (XS.seq (XS.ret (X.call rT (X.aB (X.var 1) (X.aB (X.var 3) X.aH)))) XS.nil) XS.nil) (XS.seq (XS.ret (X.L0 (X.test (X.bin oEq (X.var 2) (X.pure (.str 7)))) X.fail (X.call wM (X.aB (X.var 1) (X.aB (X.var 3) X.aH))))) XS.nil)))
noncomputable def AV : FF := eV 2 2 Ey
noncomputable def o3 : XS := XS.seq (XS.assign (X.iU X.aH) (XA.attr 0 19 (X.var 0))) (XS.seq (XS.assign (X.iU X.aH) (XA.attr 0 18 (X.var 0))) (XS.seq (XS.assign (X.iU X.aH) (XA.attr 0 17 (X.var 0))) (XS.seq (XS.assign (X.iU X.aH) (XA.attr 0 16 (X.var 0))) (XS.seq (XS.assign X.qK (XA.attr 0 15 (X.var 0))) (XS.seq (XS.assign (X.neg (X.pure (.int 1))) (XA.attr 0 14 (X.var 0))) (XS.seq (XS.assign (X.pure (.bool false)) (XA.attr 0 13 (X.var 0))) (XS.seq (XS.assign (X.eX X.aH) (XA.attr 0 12 (X.var 0))) XS.nil)))))))
noncomputable def iC : FF := eV 1 0 o3
noncomputable def vM : XS := XS.seq (XS.assign (X.pure (.bool true)) (XA.attr 0 13 (X.var 0))) (XS.seq (XS.assign (X.call (bY g7) (X.aB (X.var 1) X.aH)) (XA.attr 0 12 (X.var 0))) (XS.seq (XS.ret (X.pure (.bool false))) XS.nil))
noncomputable def iD : FF := eV 2 0 vM
noncomputable def pH : XS := XS.seq (XS.drop (X.fH eF (X.attr 0 19 (X.var 0)) (X.aB (X.var 1) X.aH))) (XS.seq (XS.drop (X.fH eF (X.attr 0 18 (X.var 0)) (X.aB (X.var 1) X.aH))) (XS.seq (XS.ite (X.test (X.bin oEq (X.var 1) (X.eX X.aH))) (XS.seq (XS.drop (X.cV 0 22 iD (X.var 0) (X.aB (X.eX X.aH) X.aH))) XS.nil) XS.nil) (XS.seq (XS.ret (X.bin rY (X.call (bY gR) (X.aB (X.attr 0 19 (X.var 0)) X.aH)) (X.pure (.int 1)))) XS.nil)))
noncomputable def fB : FF := eV 2 0 pH
noncomputable def vK : XS := XS.seq (XS.ret (X.call (bY gR) (X.aB (X.attr 0 19 (X.var 0)) X.aH))) XS.nil
noncomputable def o7 : FF := eV 1 0 vK
noncomputable def xM : XS := XS.seq (XS.ret (X.sub (X.attr 0 19 (X.var 0)) (X.var 1))) XS.nil
noncomputable def kM : FF := eV 2 0 xM
noncomputable def pI : XS := XS.seq (XS.ret (X.sub (X.attr 0 18 (X.var 0)) (X.var 1))) XS.nil
noncomputable def kX : FF := eV 2 0 pI
noncomputable def sS : XS := XS.seq (XS.assign (X.sub (X.var 1) (X.pure (.int 0))) (XA.name 4)) (XS.seq (XS.assign (X.sub (X.attr 0 19 (X.var 0)) (X.var 4)) (XA.name 5)) (XS.seq (XS.assign (X.call AV (X.aB (X.var 1) (X.aB (X.var 5) X.aH))) (XA.name 6)) (XS.seq (XS.ite (X.test (X.bin oEq (X.var 6) (X.eX X.aH))) (XS.seq XS.fail XS.nil) XS.nil) (XS.seq (XS.ite (X.test (X.bin oEq (X.var 6) (X.var 5))) (XS.seq (XS.ret (X.pure (.bool true))) XS.nil) XS.nil) (XS.seq (XS.drop (X.fH eF (X.attr 0 17 (X.var 0)) (X.aB (X.eX (X.aB (X.var 4) (X.aB (X.var 5) (X.aB (X.var 1) (X.aB (X.var 2) (X.aB (X.var 3) X.aH)))))) X.aH))) (XS.seq (XS.assign (X.var 6) (XA.item (X.attr 0 19 (X.var 0)) (X.var 4))) (XS.seq (XS.assign (X.pure (.bool true)) (XA.item (X.attr 0 15 (X.var 0)) (X.var 4))) (XS.seq (XS.ret (X.pure (.bool true))) XS.nil))))))))
noncomputable def j8 : FF := eV 4 3 sS
noncomputable def qX : XS := XS.seq (XS.ret (X.cV 0 26 j8 (X.var 0) (X.aB (X.var 1) (X.aB (X.call (bY g7) (X.aB (X.var 2) X.aH)) (X.aB (X.attr 0 14 (X.var 0)) X.aH))))) XS.nil
noncomputable def hV : FF := eV 3 0 qX
noncomputable def qY : XS := XS.seq (XS.ret (X.cV 0 26 j8 (X.var 0) (X.aB (X.var 1) (X.aB (X.pure .none) (X.aB (X.neg (X.pure (.int 1))) X.aH))))) XS.nil
noncomputable def jJ : FF := eV 2 0 qY
noncomputable def vL : XS := XS.seq (XS.drop (X.fH eF (X.attr 0 16 (X.var 0)) (X.aB (X.call (bY gR) (X.aB (X.attr 0 17 (X.var 0)) X.aH)) X.aH))) XS.nil
noncomputable def lK : FF := eV 1 0 vL
noncomputable def xL : XS := XS.seq (XS.ite (X.test (X.bin oLt (X.var 1) (X.pure (.int 1)))) (XS.seq (XS.ret (X.pure .none)) XS.nil) XS.nil) (XS.seq (XS.assign (X.sub (X.attr 0 16 (X.var 0)) (X.bin rY (X.call (bY gR) (X.aB (X.attr 0 16 (X.var 0)) X.aH)) (X.var 1))) (XA.name 2)) (XS.seq (XS.assign (X.slice (X.attr 0 16 (X.var 0)) none (some (X.bin rY (X.call (bY gR) (X.aB (X.attr 0 16 (X.var 0)) X.aH)) (X.var 1)))) (XA.attr 0 16 (X.var 0))) (XS.seq (XS.jS (X.test (X.bin KK (X.call (bY gR) (X.aB (X.attr 0 17 (X.var 0)) X.aH)) (X.var 2))) (XS.seq (XS.assign (X.fH FA (X.attr 0 17 (X.var 0)) X.aH) (XA.name 3)) (XS.seq (XS.assign (X.sub (X.var 3) (X.pure (.int 1))) (XA.item (X.attr 0 19 (X.var 0)) (X.sub (X.var 3) (X.pure (.int 0))))) XS.nil)) 1000) (XS.seq (XS.assign X.qK (XA.attr 0 15 (X.var 0))) (XS.seq (XS.assign (X.bin oIn (X.eX X.aH) (X.attr 0 18 (X.var 0))) (XA.attr 0 13 (X.var 0))) (XS.seq (XS.assign (X.eX X.aH) (XA.attr 0 12 (X.var 0))) XS.nil))))))
noncomputable def m9 : FF := eV 2 2 xL
noncomputable def m5 : XS := XS.seq (XS.assign (X.neg (X.pure (.int 1))) (XA.attr 2 32 (X.var 0))) (XS.seq (XS.assign (X.call (bY g7) (X.aB (X.var 1) X.aH)) (XA.attr 2 31 (X.var 0))) (XS.seq (XS.assign (X.var 2) (XA.attr 2 30 (X.var 0))) XS.nil))
noncomputable def jK : FF := eV 3 0 m5
noncomputable def bZ : FF := IS 2 99 jK
noncomputable def pK : XS := XS.seq (XS.assign (X.f9 [3] (X.var 2) (XA.name 3) none (X.call rB (X.aB (X.cV 0 36 kM (X.var 1) (X.aB (X.var 3) X.aH)) X.aH)) 1000) (XA.attr 1 37 (X.var 0))) (XS.seq (XS.assign (X.bin xY (X.iU (X.aB (X.pure .none) X.aH)) (X.call (bY gR) (X.aB (X.var 2) X.aH))) (XA.attr 1 34 (X.var 0))) (XS.seq (XS.assign X.qK (XA.attr 1 33 (X.var 0))) XS.nil))
noncomputable def iS : FF := eV 3 1 pK
noncomputable def mJ : XS := XS.seq (XS.jS (X.test (X.bin jD (X.var 1) (X.pure .none))) (XS.seq (XS.assign (X.sub (X.var 2) (X.var 1)) (XA.name 3)) (XS.seq (XS.assign (X.sub (X.attr 1 34 (X.var 0)) (X.var 3)) (XA.name 4)) (XS.seq (XS.assign (X.var 1) (XA.item (X.attr 1 34 (X.var 0)) (X.var 3))) (XS.seq (XS.assign (X.var 3) (XA.item (X.attr 1 33 (X.var 0)) (X.var 1))) (XS.seq (XS.assign (X.var 4) (XA.name 1)) XS.nil))))) 1000) XS.nil
noncomputable def f5 : FF := eV 3 2 mJ
noncomputable def pJ : XS := XS.seq (XS.assign (X.eX (X.aB X.qK (X.aB (X.iU (X.aB (X.var 1) X.aH)) (X.aB (X.pure (.int 0)) X.aH)))) (XA.swap [(2, 40), (3, 41), (4, 4)])) (XS.seq (XS.jS (X.test (X.bin oLt (X.var 4) (X.call (bY gR) (X.aB (X.var 3) X.aH)))) (XS.seq (XS.for (X.sub (X.attr 1 37 (X.var 0)) (X.sub (X.var 3) (X.var 4))) (XA.name 5) (XS.seq (XS.ite (X.test (X.bin dK (X.var 5) (X.var 2))) (XS.seq (XS.assign (X.sub (X.var 3) (X.var 4)) (XA.item (X.var 2) (X.var 5))) (XS.seq (XS.ite (X.test (X.bin dK (X.var 5) (X.attr 1 33 (X.var 0)))) (XS.seq (XS.drop (X.cV 1 42 f5 (X.var 0) (X.aB (X.var 5) (X.aB (X.var 2) X.aH)))) (XS.seq (XS.ret (X.pure .none)) XS.nil)) XS.nil) (XS.seq (XS.drop (X.fH eF (X.var 3) (X.aB (X.sub (X.attr 1 33 (X.var 0)) (X.var 5)) X.aH))) XS.nil))) XS.nil) XS.nil) 1000) (XS.seq (XS.assign (X.bin eR (X.var 4) (X.pure (.int 1))) (XA.name 4)) XS.nil)) 1000) (XS.seq (XS.ret (X.eX (X.aB (X.var 3) (X.aB (X.call (bY mX) (X.aB (X.var 2) X.aH)) X.aH)))) XS.nil))
noncomputable def iR : FF := eV 2 4 pJ
noncomputable def jF : XS := XS.seq (XS.assign (X.eX (X.aB (X.iU X.aH) (X.aB (X.Cc (X.lX (X.var 1) (X.pure (.bool true)) X.HR)) (X.aB (X.iU (X.aB (X.var 1) X.aH)) X.aH)))) (XA.swap [(2, 41), (3, 44), (4, 45)])) (XS.seq (XS.jS (X.test (X.bin iM (X.var 4) (X.iU X.aH))) (XS.seq (XS.assign (X.fH FA (X.var 4) X.aH) (XA.name 5)) (XS.seq (XS.ite (X.test (X.bin dK (X.var 5) (X.attr 1 33 (X.var 0)))) (XS.seq (XS.ret (X.pure .none)) XS.nil) XS.nil) (XS.seq (XS.drop (X.fH eF (X.var 2) (X.aB (X.sub (X.attr 1 33 (X.var 0)) (X.var 5)) X.aH))) (XS.seq (XS.for (X.sub (X.attr 1 37 (X.var 0)) (X.sub (X.attr 1 33 (X.var 0)) (X.var 5))) (XA.name 6) (XS.seq (XS.ite (X.test (X.bin dK (X.var 6) (X.var 3))) (XS.seq (XS.assign (X.pure (.bool true)) (XA.item (X.var 3) (X.var 6))) (XS.seq (XS.drop (X.fH eF (X.var 4) (X.aB (X.var 6) X.aH))) XS.nil)) XS.nil) XS.nil) 1000) XS.nil)))) 1000) (XS.seq (XS.ret (X.eX (X.aB (X.var 2) (X.aB (X.call (bY mX) (X.aB (X.var 3) X.aH)) X.aH)))) XS.nil))
noncomputable def dM : FF := eV 2 5 jF
noncomputable def iE : XS := XS.seq (XS.ret (X.eX (X.aB (X.pure (.str 48)) (X.aB (X.attr 2 31 (X.var 0)) (X.aB (X.attr 2 30 (X.var 0)) X.aH))))) XS.nil
noncomputable def dQ : FF := eV 1 0 iE
noncomputable def hU : XS := XS.seq (XS.ret (X.bin oEq (X.call (bY gR) (X.aB (X.Gm [2] (X.var 1) (XA.name 2) none (X.var 2) (X.pure (.bool true)) 1000) X.aH)) (X.call (bY gR) (X.aB (X.var 1) X.aH)))) XS.nil
noncomputable def cX : FF := eV 2 1 hU
noncomputable def hJ : XS := XS.seq (XS.assign (X.iU X.aH) (XA.name 4)) (XS.seq (XS.for (X.var 2) (XA.name 5) (XS.seq (XS.assign (X.sub (X.attr 2 31 (X.var 0)) (X.var 5)) (XA.name 6)) (XS.seq (XS.drop (X.fH uY (X.var 4) (X.aB (X.iU (X.aB (X.eX (X.aB (X.var 6) (X.aB (X.pure (.str 8)) (X.aB (X.sub (X.var 3) (X.pure (.int 0))) X.aH)))) (X.aB (X.eX (X.aB (X.var 6) (X.aB (X.pure (.str 9)) (X.aB (X.sub (X.var 3) (X.neg (X.pure (.int 1)))) X.aH)))) X.aH))) X.aH))) (XS.seq (XS.for (X.call rB (X.aB (X.cV 0 49 kX (X.var 1) (X.aB (X.var 6) X.aH)) X.aH)) (XA.name 7) (XS.seq (XS.ite (X.i8 (X.qR oLt oLt (X.sub (X.var 3) (X.pure (.int 0))) (X.var 7) (X.sub (X.var 3) (X.neg (X.pure (.int 1))))) (X.i8 (X.test (X.bin dK (X.var 7) (X.var 3))) X.wJ)) (XS.seq (XS.drop (X.fH eF (X.var 4) (X.aB (X.eX (X.aB (X.var 6) (X.aB (X.pure (.str 51)) (X.aB (X.var 7) X.aH)))) X.aH))) XS.nil) XS.nil) XS.nil) 1000) XS.nil))) 1000) (XS.seq (XS.ret (X.call (bY g7) (X.aB (X.var 4) X.aH))) XS.nil))
noncomputable def bU : FF := eV 4 4 hJ
noncomputable def fU : XS := XS.seq (XS.ite (X.test (X.attr 0 13 (X.var 1))) (XS.seq (XS.ret (X.pure (.bool false))) XS.nil) XS.nil) (XS.seq (XS.ite (X.oN (X.test (X.cV 2 59 cX (X.var 0) (X.aB (X.attr 2 31 (X.var 0)) X.aH)))) (XS.seq (XS.ret (X.cV 0 22 iD (X.var 1) (X.aB (X.eX X.aH) X.aH))) XS.nil) XS.nil) (XS.seq (XS.assign (X.call (fNew 1 iS) (X.aB (X.var 1) (X.aB (X.attr 2 31 (X.var 0)) X.aH))) (XA.name 2)) (XS.seq (XS.for (X.call (bY cW) (X.aB (X.call (bY gR) (X.aB (X.attr 2 31 (X.var 0)) X.aH)) X.aH)) (XA.name 3) (XS.seq (XS.assign (X.cV 1 58 iR (X.var 2) (X.aB (X.var 3) X.aH)) (XA.name 4)) (XS.seq (XS.ite (X.test (X.bin jD (X.var 4) (X.pure .none))) (XS.seq (XS.ret (X.cV 0 22 iD (X.var 1) (X.aB (X.cV 2 55 bU (X.var 0) (X.aB (X.var 1) (X.aB (X.sub (X.var 4) (X.pure (.int 0))) (X.aB (X.sub (X.var 4) (X.pure (.int 1))) X.aH)))) X.aH))) XS.nil) XS.nil) XS.nil)) 1000) (XS.seq (XS.assign X.qK (XA.name 5)) (XS.seq (XS.for (X.call (bY cW) (X.aB (X.call (bY gR) (X.aB (X.attr 2 31 (X.var 0)) X.aH)) X.aH)) (XA.name 3) (XS.seq (XS.for (X.sub (X.attr 1 37 (X.var 2)) (X.var 3)) (XA.name 6) (XS.seq (XS.ite (X.test (X.bin dK (X.var 6) (X.var 5))) (XS.seq (XS.assign (X.cV 1 56 dM (X.var 2) (X.aB (X.var 6) X.aH)) (XA.item (X.var 5) (X.var 6))) XS.nil) XS.nil) (XS.seq (XS.ite (X.i8 (X.test (X.bin jD (X.sub (X.var 5) (X.var 6)) (X.pure .none))) (X.i8 (X.test (X.bin dK (X.var 3) (X.sub (X.sub (X.var 5) (X.var 6)) (X.pure (.int 0))))) X.wJ)) (XS.seq (XS.assign (X.cV 2 55 bU (X.var 0) (X.aB (X.var 1) (X.aB (X.sub (X.sub (X.var 5) (X.var 6)) (X.pure (.int 0))) (X.aB (X.sub (X.sub (X.var 5) (X.var 6)) (X.pure (.int 1))) X.aH)))) (XA.name 7)) (XS.seq (XS.ite (X.oN (X.test (X.cV 0 54 hV (X.var 1) (X.aB (X.eX (X.aB (X.sub (X.attr 2 31 (X.var 0)) (X.var 3)) (X.aB (X.pure (.str 51)) (X.aB (X.var 6) X.aH)))) (X.aB (X.var 7) X.aH))))) (XS.seq (XS.ret (X.pure (.bool false))) XS.nil) XS.nil) XS.nil)) XS.nil) XS.nil)) 1000) XS.nil) 1000) (XS.seq (XS.ret (X.pure (.bool true))) XS.nil))))))
noncomputable def bT : FF := eV 2 6 fU
noncomputable def xH : XS := XS.seq (XS.assign (X.sub (X.var 0) (X.pure (.str 63))) (XA.name 2)) (XS.seq (XS.assign (X.bin eR (X.var 2) (X.pure (.int 1))) (XA.item (X.var 0) (X.pure (.str 63)))) (XS.seq (XS.ite (X.test (X.bin oLt (X.var 2) (X.call (bY gR) (X.aB (X.sub (X.var 0) (X.pure (.str 64))) X.aH)))) (XS.seq (XS.ret (X.bin oMod (X.sub (X.sub (X.var 0) (X.pure (.str 64))) (X.var 2)) (X.var 1))) XS.nil) XS.nil) (XS.seq (XS.assign (X.bin oMod (X.bin eR (X.bin xY (X.sub (X.var 0) (X.pure (.str 61))) (X.pure (.int 7919))) (X.pure (.int 4099))) (X.pure (.int 1000003))) (XA.item (X.var 0) (X.pure (.str 61)))) (XS.seq (XS.ret (X.bin oMod (X.bin cI (X.sub (X.var 0) (X.pure (.str 61))) (X.pure (.int 8))) (X.var 1))) XS.nil))))
noncomputable def cE : FF := eV 2 1 xH
noncomputable def vJ : XS := XS.seq (XS.ret (X.call (bY Fw) (X.aB (X.f9 [1] (X.call (bY cW) (X.aB (X.pure (.int 5)) X.aH)) (XA.name 1) none (X.bin oMod (X.bin cI (X.var 0) (X.bin i3 (X.pure (.int 2)) (X.var 1))) (X.pure (.int 2))) 1000) X.aH))) XS.nil
noncomputable def f4 : FF := eV 1 1 vJ
noncomputable def sR : XS := XS.seq (XS.assign (X.iU X.aH) (XA.name 2)) (XS.seq (XS.for (X.call (bY cW) (X.aB (X.pure (.int 5)) X.aH)) (XA.name 3) (XS.seq (XS.ite (X.i8 (X.test (X.bin oEq (X.bin oMod (X.bin cI (X.var 0) (X.bin i3 (X.pure (.int 2)) (X.var 3))) (X.pure (.int 2))) (X.pure (.int 1)))) (X.i8 (X.test (X.bin oEq (X.bin oMod (X.bin cI (X.bin xY (X.var 0) (X.pure (.int 2))) (X.bin i3 (X.pure (.int 2)) (X.var 3))) (X.pure (.int 2))) (X.pure (.int 1)))) X.wJ)) (XS.seq (XS.assign (X.eX (X.aB (X.sub (X.sub (X.var 2) (X.neg (X.pure (.int 1)))) (X.pure (.int 0))) (X.aB (X.bin eR (X.var 1) (X.var 3)) X.aH))) (XA.item (X.var 2) (X.neg (X.pure (.int 1))))) XS.nil) (XS.seq (XS.ite (X.test (X.bin oEq (X.bin oMod (X.bin cI (X.var 0) (X.bin i3 (X.pure (.int 2)) (X.var 3))) (X.pure (.int 2))) (X.pure (.int 1)))) (XS.seq (XS.drop (X.fH eF (X.var 2) (X.aB (X.eX (X.aB (X.bin eR (X.var 1) (X.var 3)) (X.aB (X.bin eR (X.var 1) (X.var 3)) X.aH))) X.aH))) XS.nil) XS.nil) XS.nil)) XS.nil) 1000) (XS.seq (XS.ret (X.call (bY g7) (X.aB (X.var 2) X.aH))) XS.nil))
noncomputable def gD : FF := eV 2 2 sR
noncomputable def AS : XS := XS.seq (XS.ret (X.call (bY Fw) (X.aB (X.CU [2, 3, 4] (X.var 0) (XA.tup [XA.name 2, XA.name 3]) none (X.call (tJ oV) (X.aB (X.var 2) (X.aB (X.bin eR (X.var 3) (X.pure (.int 1))) X.aH))) (XA.name 4) none (X.bin i3 (X.pure (.int 2)) (X.bin rY (X.var 4) (X.var 1))) 1000) X.aH))) XS.nil
noncomputable def mR : FF := eV 2 3 AS
noncomputable def xJ : XS := XS.seq (XS.ret (X.f9 [2] (X.call (bY cW) (X.aB (X.cV 0 71 o7 (X.var 0) X.aH) X.aH)) (XA.name 2) none (X.call mR (X.aB (X.cV 0 36 kM (X.var 0) (X.aB (X.var 2) X.aH)) (X.aB (X.var 1) X.aH))) 1000)) XS.nil
noncomputable def d6 : FF := eV 2 1 xJ
noncomputable def xI : XS := XS.seq (XS.assign (X.pure (.int 0)) (XA.name 3)) (XS.seq (XS.for (X.call (bY cW) (X.aB (X.pure (.int 5)) X.aH)) (XA.name 4) (XS.seq (XS.assign (X.eX (X.aB (X.bin eR (X.var 2) (X.var 4)) (X.aB (X.sub (X.var 1) (X.pure (.int 2))) X.aH))) (XA.swap [(5, 5), (6, 73)])) (XS.seq (XS.assign (X.sub (X.xC (X.lX (X.pure (.str 9)) (X.bin oLe (X.var 5) (X.var 6)) (X.lX (X.pure (.str 8)) (X.bin oGe (X.var 5) (X.var 6)) (X.lX (X.pure (.str 7)) (X.bin oEq (X.var 5) (X.var 6)) (X.lX (X.pure (.str 51)) (X.bin iM (X.var 5) (X.var 6)) X.HR))))) (X.sub (X.var 1) (X.pure (.int 1)))) (XA.name 7)) (XS.seq (XS.ite (X.i8 (X.test (X.var 7)) (X.i8 (X.test (X.bin oEq (X.bin oMod (X.bin cI (X.var 0) (X.bin i3 (X.pure (.int 2)) (X.var 4))) (X.pure (.int 2))) (X.pure (.int 1)))) X.wJ)) (XS.seq (XS.assign (X.bin eR (X.var 3) (X.bin i3 (X.pure (.int 2)) (X.var 4))) (XA.name 3)) XS.nil) XS.nil) XS.nil))) 1000) (XS.seq (XS.ret (X.var 3)) XS.nil))
noncomputable def f0 : FF := eV 3 5 xI
noncomputable def qW : XS := XS.seq (XS.ite (X.test (X.bin oLt (X.tC (X.var 0)) (X.call (bY gR) (X.aB (X.var 0) X.aH)))) (XS.seq (XS.ret (X.pure (.bool false))) XS.nil) XS.nil) (XS.seq (XS.for (X.call (tJ oV) (X.aB (X.pure (.int 1)) (X.aB (X.bin i3 (X.pure (.int 2)) (X.call (bY gR) (X.aB (X.var 0) X.aH))) X.aH))) (XA.name 2) (XS.seq (XS.assign (X.eX (X.aB (X.pure (.int 0)) (X.aB (X.pure (.int 0)) X.aH))) (XA.tup [XA.name 3, XA.name 4])) (XS.seq (XS.j6 (X.var 0) (XA.tup [XA.name 5, XA.name 6]) (XS.seq (XS.ite (X.test (X.bin oEq (X.bin oMod (X.bin cI (X.var 2) (X.bin i3 (X.pure (.int 2)) (X.var 5))) (X.pure (.int 2))) (X.pure (.int 1)))) (XS.seq (XS.assign (X.eX (X.aB (X.bin OD (X.var 3) (X.sub (X.var 1) (X.var 6))) (X.aB (X.bin eR (X.var 4) (X.pure (.int 1))) X.aH))) (XA.swap [(3, 75), (4, 62)])) XS.nil) XS.nil) XS.nil) 1000) (XS.seq (XS.ite (X.test (X.bin oLt (X.call f4 (X.aB (X.var 3) X.aH)) (X.var 4))) (XS.seq (XS.ret (X.pure (.bool false))) XS.nil) XS.nil) XS.nil))) 1000) (XS.seq (XS.ret (X.pure (.bool true))) XS.nil))
noncomputable def fW : FF := eV 2 5 qW
noncomputable def qU : XS := XS.seq (XS.assign (X.iU X.aH) (XA.name 2)) (XS.seq (XS.for (X.call (bY cW) (X.aB (X.call (bY gR) (X.aB (X.var 1) X.aH)) X.aH)) (XA.name 3) (XS.seq (XS.assign (X.eX (X.aB (X.pure (.int 0)) (X.aB (X.f9 [8] (X.var 0) (XA.name 8) (some (X.test (X.bin iM (X.var 8) (X.var 3)))) (X.var 8) 1000) X.aH))) (XA.swap [(4, 65), (5, 78)])) (XS.seq (XS.for (X.call (bY cW) (X.aB (X.pure (.int 5)) X.aH)) (XA.name 6) (XS.seq (XS.ite (X.i8 (X.test (X.bin oEq (X.bin oMod (X.bin cI (X.sub (X.var 1) (X.var 3)) (X.bin i3 (X.pure (.int 2)) (X.var 6))) (X.pure (.int 2))) (X.pure (.int 1)))) (X.i8 (X.test (X.call fW (X.aB (X.var 5) (X.aB (X.f9 [7] (X.var 1) (XA.name 7) none (X.bin J7 (X.var 7) (X.bin rY (X.pure (.int 31)) (X.bin i3 (X.pure (.int 2)) (X.var 6)))) 1000) X.aH)))) X.wJ)) (XS.seq (XS.assign (X.bin eR (X.var 4) (X.bin i3 (X.pure (.int 2)) (X.var 6))) (XA.name 4)) XS.nil) XS.nil) XS.nil) 1000) (XS.seq (XS.drop (X.fH eF (X.var 2) (X.aB (X.var 4) X.aH))) XS.nil))) 1000) (XS.seq (XS.ret (X.var 2)) XS.nil))
noncomputable def mQ : FF := eV 2 7 qU
noncomputable def xK : XS := XS.seq (XS.assign (X.call (bY uV) (X.aB (X.var 1) X.aH)) (XA.name 4)) (XS.seq (XS.for (X.var 2) (XA.name 5) (XS.seq (XS.assign (X.call f0 (X.aB (X.sub (X.var 4) (X.sub (X.var 5) (X.pure (.int 0)))) (X.aB (X.var 5) (X.aB (X.var 3) X.aH)))) (XA.item (X.var 4) (X.sub (X.var 5) (X.pure (.int 0))))) XS.nil) 1000) (XS.seq (XS.ret (X.LL (X.call fW (X.aB (X.var 0) (X.aB (X.var 4) X.aH))))) XS.nil))
noncomputable def kL : FF := eV 4 2 xK
noncomputable def vI : XS := XS.seq (XS.ret (X.call (bY IL) (X.aB (X.f9 [3] (X.var 0) (XA.name 3) none (X.bin oEq (X.call f0 (X.aB (X.sub (X.var 1) (X.sub (X.var 3) (X.pure (.int 0)))) (X.aB (X.var 3) (X.aB (X.var 2) X.aH)))) (X.sub (X.var 1) (X.sub (X.var 3) (X.pure (.int 0))))) 1000) X.aH))) XS.nil
noncomputable def jI : FF := eV 3 1 vI
noncomputable def jR : XS := XS.seq (XS.for (X.slice (X.attr 0 17 (X.var 0)) (some (X.var 1)) none) (XA.tup [XA.name 6, XA.name 7, XA.name 8, XA.name 9, XA.name 10]) (XS.seq (XS.ite (X.pQ (X.test (X.bin iM (X.call mR (X.aB (X.var 7) (X.aB (X.var 4) X.aH))) (X.sub (X.var 2) (X.var 6)))) (X.pQ (X.oN (X.test (X.call jI (X.aB (X.var 9) (X.aB (X.var 2) (X.aB (X.var 4) X.aH)))))) X.orZ)) (XS.seq (XS.ret (X.pure (.bool false))) XS.nil) XS.nil) (XS.seq (XS.assign (X.call f0 (X.aB (X.sub (X.var 2) (X.var 6)) (X.aB (X.var 8) (X.aB (X.var 4) X.aH)))) (XA.name 11)) (XS.seq (XS.assign (X.call (bY uV) (X.aB (X.var 3) X.aH)) (XA.name 12)) (XS.seq (XS.assign (X.bin rY (X.sub (X.var 12) (X.var 6)) (X.call f0 (X.aB (X.sub (X.var 12) (X.var 6)) (X.aB (X.var 8) (X.aB (X.var 4) X.aH))))) (XA.item (X.var 12) (X.var 6))) (XS.seq (XS.ite (X.oN (X.test (X.call kL (X.aB (X.var 5) (X.aB (X.var 12) (X.aB (X.var 9) (X.aB (X.var 4) X.aH))))))) (XS.seq (XS.ret (X.pure (.bool false))) XS.nil) XS.nil) (XS.seq (XS.assign (X.bin eR (X.bin eR (X.slice (X.var 2) none (some (X.var 6))) (X.iU (X.aB (X.var 11) X.aH))) (X.slice (X.var 2) (some (X.bin eR (X.var 6) (X.pure (.int 1)))) none)) (XA.name 2)) XS.nil)))))) 1000) (XS.seq (XS.ite (X.test (X.bin iM (X.var 2) (X.call d6 (X.aB (X.var 0) (X.aB (X.var 4) X.aH))))) (XS.seq (XS.ret (X.pure (.bool false))) XS.nil) XS.nil) (XS.seq (XS.ite (X.oN (X.test (X.attr 0 13 (X.var 0)))) (XS.seq (XS.ret (X.pure (.bool true))) XS.nil) XS.nil) (XS.seq (XS.ret (X.Kz (X.call jI (X.aB (X.attr 0 12 (X.var 0)) (X.aB (X.var 2) (X.aB (X.var 4) X.aH)))) (X.call kL (X.aB (X.var 5) (X.aB (X.var 3) (X.aB (X.attr 0 12 (X.var 0)) (X.aB (X.var 4) X.aH))))))) XS.nil)))
noncomputable def gH : FF := eV 6 7 jR
noncomputable def pG : XS := XS.seq (XS.assign (X.eX (X.aB (X.call d6 (X.aB (X.var 0) (X.aB (X.var 3) X.aH))) (X.aB (X.call (bY gR) (X.aB (X.attr 0 17 (X.var 0)) X.aH)) X.aH))) (XA.swap [(5, 76), (6, 27)])) (XS.seq (XS.assign (X.call (fNew 0 iC) X.aH) (XA.name 7)) (XS.seq (XS.for (X.var 5) (XA.name 8) (XS.seq (XS.drop (X.cV 0 89 fB (X.var 7) (X.aB (X.call gD (X.aB (X.var 8) (X.aB (X.var 3) X.aH))) X.aH))) XS.nil) 1000) (XS.seq (XS.assign (X.call fW (X.aB (X.var 4) (X.aB (X.var 5) X.aH))) (XA.name 9)) (XS.seq (XS.ite (X.pQ (X.test (X.bin jD (X.cV 2 86 bT (X.var 1) (X.aB (X.var 0) X.aH)) (X.var 9))) (X.pQ (X.test (X.bin jD (X.cV 2 86 bT (X.call (fNew 2 bZ) (X.aB (X.var 4) X.aH)) (X.aB (X.var 7) X.aH)) (X.var 9))) X.orZ)) (XS.seq (XS.ret (X.pure (.bool false))) XS.nil) XS.nil) (XS.seq (XS.ite (X.pQ (X.test (X.bin Oj (X.attr 0 13 (X.var 0)) (X.var 9))) (X.pQ (X.oN (X.test (X.call gH (X.aB (X.var 0) (X.aB (X.var 6) (X.aB (X.var 5) (X.aB (X.var 2) (X.aB (X.var 3) (X.aB (X.var 4) X.aH))))))))) X.orZ)) (XS.seq (XS.ret (X.pure (.bool false))) XS.nil) XS.nil) (XS.seq (XS.ite (X.oN (X.test (X.var 9))) (XS.seq (XS.ret (X.pure (.bool true))) XS.nil) XS.nil) (XS.seq (XS.assign (X.call d6 (X.aB (X.var 0) (X.aB (X.var 3) X.aH))) (XA.name 10)) (XS.seq (XS.ite (X.pQ (X.test (X.bin iM (X.var 10) (X.call mQ (X.aB (X.var 4) (X.aB (X.var 5) X.aH))))) (X.pQ (X.test (X.bin iM (X.call d6 (X.aB (X.var 7) (X.aB (X.var 3) X.aH))) (X.var 10))) X.orZ)) (XS.seq (XS.ret (X.pure (.bool false))) XS.nil) XS.nil) (XS.seq (XS.assign (X.call (bY gR) (X.aB (X.attr 0 17 (X.var 0)) X.aH)) (XA.name 6)) (XS.seq (XS.ret (X.Kz (X.cV 2 86 bT (X.var 1) (X.aB (X.var 0) X.aH)) (X.bin oEq (X.call (bY gR) (X.aB (X.attr 0 17 (X.var 0)) X.aH)) (X.var 6)))) XS.nil))))))))))
noncomputable def d8 : FF := eV 5 6 pG
noncomputable def mZ : XS := XS.seq (XS.ret (X.bin oEq (X.CU [1, 2] (X.call (bY cW) (X.aB (X.call (bY gR) (X.aB (X.var 0) X.aH)) X.aH)) (XA.name 1) none (X.call (bY cW) (X.aB (X.var 1) X.aH)) (XA.name 2) (some (X.test (X.bin oEq (X.sub (X.var 0) (X.var 2)) (X.sub (X.var 0) (X.var 1))))) (X.var 2) 1000) (X.iU X.aH))) XS.nil
noncomputable def gP : FF := eV 1 2 mZ
noncomputable def Lo : XS := XS.seq (XS.assign (X.f9 [22] (X.slice (X.var 0) none (some (X.pure (.int 30)))) (XA.name 22) none (X.bin oMod (X.call (bY Mn) (X.aB (X.var 22) X.aH)) (X.pure (.int 1000003))) 1000) (XA.name 1)) (XS.seq (XS.assign (X.xC (X.lX (X.pure (.str 64)) (X.var 1) (X.lX (X.pure (.str 63)) (X.pure (.int 0)) (X.lX (X.pure (.str 61)) (X.bin eR (X.pure (.int 17)) (X.bin oMod (X.call (bY Fw) (X.aB (X.var 1) X.aH)) (X.pure (.int 1000003)))) X.HR)))) (XA.name 2)) (XS.seq (XS.assign (X.eX (X.aB (X.bin eR (X.pure (.int 3)) (X.call cE (X.aB (X.var 2) (X.aB (X.pure (.int 2)) X.aH)))) (X.aB (X.bin rY (X.call cE (X.aB (X.var 2) (X.aB (X.pure (.int 5)) X.aH))) (X.pure (.int 2))) X.aH))) (XA.tup [XA.name 3, XA.name 4])) (XS.seq (XS.assign (X.f9 [21] (X.call (bY cW) (X.aB (X.var 3) X.aH)) (XA.name 21) none (X.bin eR (X.pure (.int 1)) (X.call cE (X.aB (X.var 2) (X.aB (X.pure (.int 31)) X.aH)))) 1000) (XA.name 5)) (XS.seq (XS.assign (X.call cE (X.aB (X.var 2) (X.aB (X.var 3) X.aH))) (XA.name 6)) (XS.seq (XS.assign (X.bin eR (X.call (bY g7) (X.aB (X.call (tJ oV) (X.aB (X.var 6) (X.aB (X.var 3) X.aH))) X.aH)) (X.call (bY g7) (X.aB (X.call (bY cW) (X.aB (X.var 6) X.aH)) X.aH))) (XA.name 7)) (XS.seq (XS.ite (X.test (X.bin oEq (X.call cE (X.aB (X.var 2) (X.aB (X.pure (.int 14)) X.aH))) (X.pure (.int 13)))) (XS.seq (XS.assign (X.bin eR (X.var 7) (X.slice (X.var 7) none (some (X.pure (.int 1))))) (XA.name 7)) XS.nil) XS.nil) (XS.seq (XS.assign (X.eX (X.aB (X.call (fNew 0 iC) X.aH) (X.aB (X.call (fNew 2 bZ) (X.aB (X.var 7) X.aH)) X.aH))) (XA.swap [(8, 70), (9, 85)])) (XS.seq (XS.for (X.var 5) (XA.name 10) (XS.seq (XS.drop (X.cV 0 89 fB (X.var 8) (X.aB (X.call gD (X.aB (X.var 10) (X.aB (X.var 4) X.aH))) X.aH))) XS.nil) 1000) (XS.seq (XS.assign (X.call (bY g7) (X.aB (X.f9 [20] (X.var 7) (XA.name 20) none (X.call cE (X.aB (X.var 2) (X.aB (X.pure (.int 4)) X.aH))) 1000) X.aH)) (XA.name 11)) (XS.seq (XS.ite (X.pQ (X.test (X.bin jD (X.cV 2 59 cX (X.var 9) (X.aB (X.var 11) X.aH)) (X.call gP (X.aB (X.var 11) X.aH)))) (X.pQ (X.test (X.bin iM (X.attr 2 31 (X.var 9)) (X.var 7))) X.orZ)) (XS.seq (XS.ret (X.pure (.bool false))) XS.nil) XS.nil) (XS.seq (XS.ite (X.pQ (X.test (X.bin iM (X.cV 2 98 dQ (X.var 9) X.aH) (X.eX (X.aB (X.pure (.str 48)) (X.aB (X.var 7) (X.aB (X.pure (.str 99)) X.aH)))))) (X.pQ (X.oN (X.test (X.call d8 (X.aB (X.var 8) (X.aB (X.var 9) (X.aB (X.var 5) (X.aB (X.var 4) (X.aB (X.var 7) X.aH)))))))) X.orZ)) (XS.seq (XS.ret (X.pure (.bool false))) XS.nil) XS.nil) (XS.seq (XS.assign (X.iU X.aH) (XA.name 12)) (XS.seq (XS.for (X.call (bY cW) (X.aB (X.bin rY (X.pure (.int 6)) (X.var 3)) X.aH)) (XA.name 13) (XS.seq (XS.assign (X.call d6 (X.aB (X.var 8) (X.aB (X.var 4) X.aH))) (XA.name 14)) (XS.seq (XS.assign (X.f9 [19] (X.call (bY cW) (X.aB (X.var 3) X.aH)) (XA.name 19) (some (X.test (X.bin KK (X.call f4 (X.aB (X.sub (X.var 14) (X.var 19)) X.aH)) (X.pure (.int 1))))) (X.var 19) 1000) (XA.name 15)) (XS.seq (XS.ite (X.i8 (X.test (X.bin iM (X.var 12) (X.iU X.aH))) (X.i8 (X.pQ (X.test (X.attr 0 13 (X.var 8))) (X.pQ (X.test (X.bin oEq (X.var 15) (X.iU X.aH))) (X.pQ (X.test (X.bin oEq (X.call cE (X.aB (X.var 2) (X.aB (X.pure (.int 3)) X.aH))) (X.pure (.int 0)))) X.orZ))) X.wJ)) (XS.seq (XS.drop (X.cV 0 95 m9 (X.var 8) (X.aB (X.pure (.int 1)) X.aH))) (XS.seq (XS.ite (X.pQ (X.test (X.attr 0 13 (X.var 8))) (X.pQ (X.test (X.bin iM (X.call d6 (X.aB (X.var 8) (X.aB (X.var 4) X.aH))) (X.fH FA (X.var 12) X.aH))) X.orZ)) (XS.seq (XS.ret (X.pure (.bool false))) XS.nil) XS.nil) XS.nil)) (XS.seq (XS.ite (X.pQ (X.test (X.attr 0 13 (X.var 8))) (X.pQ (X.test (X.bin oEq (X.var 15) (X.iU X.aH))) X.orZ)) (XS.seq (XS.ret (X.pure (.bool true))) XS.nil) (XS.seq (XS.assign (X.sub (X.var 15) (X.call cE (X.aB (X.var 2) (X.aB (X.call (bY gR) (X.aB (X.var 15) X.aH)) X.aH)))) (XA.name 16)) (XS.seq (XS.assign (X.f9 [18] (X.call (bY cW) (X.aB (X.pure (.int 5)) X.aH)) (XA.name 18) (some (X.test (X.bin oEq (X.bin oMod (X.bin cI (X.sub (X.var 14) (X.var 16)) (X.bin i3 (X.pure (.int 2)) (X.var 18))) (X.pure (.int 2))) (X.pure (.int 1))))) (X.bin eR (X.var 4) (X.var 18)) 1000) (XA.name 17)) (XS.seq (XS.drop (X.fH eF (X.var 12) (X.aB (X.var 14) X.aH))) (XS.seq (XS.drop (X.cV 0 97 lK (X.var 8) X.aH)) (XS.seq (XS.ite (X.oN (X.test (X.cV 0 96 jJ (X.var 8) (X.aB (X.eX (X.aB (X.var 16) (X.aB (X.pure (.str 51)) (X.aB (X.sub (X.var 17) (X.call cE (X.aB (X.var 2) (X.aB (X.call (bY gR) (X.aB (X.var 17) X.aH)) X.aH)))) X.aH)))) X.aH)))) (XS.seq (XS.ret (X.pure (.bool false))) XS.nil) XS.nil) XS.nil)))))) XS.nil)) (XS.seq (XS.ite (X.oN (X.test (X.call d8 (X.aB (X.var 8) (X.aB (X.var 9) (X.aB (X.var 5) (X.aB (X.var 4) (X.aB (X.var 7) X.aH)))))))) (XS.seq (XS.ret (X.pure (.bool false))) XS.nil) XS.nil) XS.nil)))) 1000) (XS.seq (XS.ret (X.pure (.bool true))) XS.nil))))))))))))))
noncomputable def EE : FF := eV 1 22 Lo
end Mine
end
section
open PySem
namespace Mine
theorem Gl {a b : Int} : AW (.int a) (.int b) = (a == b) := rfl
theorem yM {k : Nat} {i : Int} : okV k (.int i) = true := by cases k <;> rfl
theorem Ed {σ : St} {i : Nat} : flat σ (.obj i) = (getL σ i).map λ l => (true, .tup l) := rfl
theorem CK {σ : St} {i j : Nat} {l m : List V} (h : getL σ i = some l) (h' : getL σ j = some m) : iM (.obj i) (.obj j) σ = if l.length ≠ m.length ∧ l.length ≤ 100000 ∧ m.length ≤ 100000 then some (.bool true, σ) else oNe (.obj i) (.obj j) σ := by
 unfold iM
 dsimp only
 rw [h, h']
theorem I3 {σ : St} {l m : List V} (hl : okV 6 (.tup l) = true) (hm : okV 6 (.tup m) = true) : Ll (.tup l) (.tup m) σ = some (AW (.tup l) (.tup m)) := by
 show (if (okV 6 (.tup l) && okV 6 (.tup m)) = true then some (false == false && AW (.tup l) (.tup m)) else none) = _
 rw [hl, hm]; rfl
theorem C6 {σ : St} {i j : Nat} {l m : List V} (h : getL σ i = some l) (h' : getL σ j = some m) (hl : l.all (okV 5) = true) (hm : m.all (okV 5) = true) : Ll (.obj i) (.obj j) σ = some (yC l m) := by
 have e1 : flat σ (.obj i) = some (true, .tup l) := by rw [Ed, h]; rfl
 have e2 : flat σ (.obj j) = some (true, .tup m) := by rw [Ed, h']; rfl
 unfold Ll
 rw [e1, e2]
 show (if (l.all (okV 5) && m.all (okV 5)) = true then some (true == true && yC l m) else none) = _
 rw [hl, hm]; rfl
noncomputable def wp {α : Type} (r : Option (α × St)) (Q : α → St → Prop) : Prop := E2 λ a σ => r = some (a, σ) ∧ Q a σ
noncomputable def xp {α : Type} (f : X α) (ρ : Loc) (σ : St) (Q : α → St → Prop) : Prop := wp (f ρ σ) Q
noncomputable def sp (g : XS) (ρ : Loc) (σ : St) (Q : Fl → Loc → St → Prop) : Prop := E3 λ fl cJ σ' => g ρ σ = some (fl, cJ, σ') ∧ Q fl cJ σ'
noncomputable def ap (a : XA) (v : V) (ρ : Loc) (σ : St) (Q : Loc → St → Prop) : Prop := E2 λ cJ σ' => a v ρ σ = some (cJ, σ') ∧ Q cJ σ'
section
variable {α β : Type} {ρ : Loc} {σ : St} {Q : α → St → Prop}
theorem wp_some {a : α} : wp (some (a, σ)) Q ↔ Q a σ := ⟨λ ⟨_, _, e, q⟩ => by cases e; exact q, λ q => ⟨_, _, rfl, q⟩⟩
theorem wp_mono {r : Option (α × St)} {Q Q' : α → St → Prop} (h : wp r Q) (hq : ∀ a σ, Q a σ → Q' a σ) : wp r Q' := let ⟨a, s, e, q⟩ := h; ⟨a, s, e, hq _ _ q⟩
end
section
variable {ρ : Loc} {σ : St} {Q : Fl → Loc → St → Prop}
noncomputable def nx (Q : Fl → Loc → St → Prop) (N : Loc → St → Prop) : Fl → Loc → St → Prop := λ fl ρ σ => match fl with
 | .next => N ρ σ
 | fl => Q fl ρ σ
theorem jB {f g : XS} (h0 : sp f ρ σ (nx Q λ cJ σ' => sp g cJ σ' Q)) : sp (XS.seq f g) ρ σ Q := by
 unfold sp XS.seq
 obtain ⟨fl, r, s, e, q⟩ := h0
 cases fl with
 | next => rw [e]; exact q
 | ret v => rw [e]; exact ⟨_, _, _, rfl, q⟩
theorem Ly {f : X V} (h0 : xp f ρ σ λ v σ' => Q (.ret v) ρ σ') : sp (XS.ret f) ρ σ Q := by
 unfold sp XS.ret
 obtain ⟨a, s, e, q⟩ := h0
 rw [e]; exact ⟨_, _, _, rfl, q⟩
theorem Cz {f : X Bool} {g h : XS} (h0 : xp f ρ σ λ b σ' => if b = true then sp g ρ σ' Q else sp h ρ σ' Q) : sp (XS.ite f g h) ρ σ Q := by
 unfold sp XS.ite
 obtain ⟨a, s, e, q⟩ := h0
 rw [e]
 cases a
 ·rw [if_neg (by simp)] at q; exact q
 ·rw [if_pos rfl] at q; exact q
theorem JN {f : X V} (h0 : xp f ρ σ λ v σ' => XS.isRef v = false ∧ Q .next ρ σ') : sp (XS.drop f) ρ σ Q := by
 unfold sp XS.drop
 obtain ⟨a, s, e, h, q⟩ := h0
 rw [e]; dsimp only; rw [h]; exact ⟨_, _, _, rfl, q⟩
theorem GK {f : X V} {a : XA} (h0 : xp f ρ σ λ v aT => ap a v ρ aT λ o8 bH => Q .next o8 bH) : sp (XS.assign f a) ρ σ Q := by
 unfold sp XS.assign
 obtain ⟨v, s, e, r2, s2, e2, q⟩ := h0
 rw [e]; dsimp only; rw [e2]; exact ⟨_, _, _, rfl, q⟩
variable {P : Loc → St → Prop} {v : V}
theorem FR {get : St → Nat → Option (Option V)} {a : XA} {g : XS} {l : List V} (I : Nat → Loc → St → Prop) (Mc : ∀ k ρ σ, I k ρ σ → k ≤ l.length → get σ k = some l[k]?)
  (step : ∀ k x ρ σ, l[k]? = some x → I k ρ σ → ap a x ρ σ λ Cq aT => sp g Cq aT (nx Q (I (k + 1)))) (done : ∀ ρ σ, I l.length ρ σ → Q .next ρ σ) :
  ∀ (fuel k : Nat) (ρ : Loc) (σ : St), I k ρ σ → k ≤ l.length → l.length - k < fuel → sp (XS.uW get a g fuel k) ρ σ Q := by
 intro fuel
 induction fuel with
 | zero => intro k ρ σ _ _ h; exact (Nat.not_lt_zero _ h).elim
 | succ fuel ih =>
  intro k ρ σ hI hk hf
  have hs := Mc k ρ σ hI hk
  by_cases hlt : k < l.length
  ·have hx : l[k]? = some l[k] := List.getElem?_eq_getElem hlt
   obtain ⟨r1, s1, e1, fl, r2, s2, e2, q⟩ := step k _ ρ σ hx hI
   cases fl with
   | next =>
    obtain ⟨fl, r3, s3, e3, q3⟩ := ih (k + 1) r2 s2 q hlt (Nat.lt_of_lt_of_le (Nat.sub_succ_lt_self _ _ hlt) (Nat.le_of_lt_succ hf))
    refine ⟨fl, r3, s3, ?_, q3⟩
    unfold XS.uW
    rw [hs, hx]; dsimp only; rw [e1]; dsimp only; rw [e2]; exact e3
   | ret v =>
    refine ⟨.ret v, r2, s2, ?_, q⟩
    unfold XS.uW
    rw [hs, hx]; dsimp only; rw [e1]; dsimp only; rw [e2]
  ·have : k = l.length := Nat.le_antisymm hk (Nat.not_lt.mp hlt)
   subst this
   have hx : l[l.length]? = none := by simp
   refine ⟨.next, ρ, σ, ?_, done ρ σ hI⟩
   unfold XS.uW
   rw [hs, hx]
theorem EL {f : X V} {a : XA} {g : XS} {fuel : Nat}
  (h : xp f ρ σ λ v aT => E2 λ (l : List V) (I : Nat → Loc → St → Prop) => A5 (I 0 ρ aT) (l.length < fuel) (∀ k ρ σ, I k ρ σ → k ≤ l.length → gV v σ k = some l[k]?) (∀ k x ρ σ, l[k]? = some x → I k ρ σ → ap a x ρ σ λ Cq aT => sp g Cq aT (nx Q (I (k + 1)))) (∀ ρ σ, I l.length ρ σ → Q .next ρ σ)) : sp (XS.for f a g fuel) ρ σ Q := by
 obtain ⟨v, s1, e, l, I, h1, h2, h3, h4, h5⟩ := h
 obtain ⟨fl, r, s, e2, q⟩ := FR I h3 h4 h5 fuel 0 ρ s1 h1 (Nat.zero_le _) (by lia)
 refine ⟨fl, r, s, ?_, q⟩
 unfold XS.for
 rw [e]; exact e2
theorem EK {f : X V} {a : XA} {g : XS} {fuel : Nat}
  (h : xp f ρ σ λ v aT => E2 λ (l : List V) (I : Nat → Loc → St → Prop) => A5 (I 0 ρ aT) (l.length < fuel) (∀ k ρ σ, I k ρ σ → k ≤ l.length → oY v σ k = some l[k]?) (∀ k x ρ σ, l[k]? = some x → I k ρ σ → ap a x ρ σ λ Cq aT => sp g Cq aT (nx Q (I (k + 1)))) (∀ ρ σ, I l.length ρ σ → Q .next ρ σ)) : sp (XS.j6 f a g fuel) ρ σ Q := by
 obtain ⟨v, s1, e, l, I, h1, h2, h3, h4, h5⟩ := h
 obtain ⟨fl, r, s, e2, q⟩ := FR I h3 h4 h5 fuel 0 ρ s1 h1 (Nat.zero_le _) (by lia)
 refine ⟨fl, r, s, ?_, q⟩
 unfold XS.j6
 rw [e]; exact e2
theorem zB {f : X Bool} {g : XS} (I : Nat → Loc → St → Prop) (step : ∀ m ρ σ, I m ρ σ → xp f ρ σ λ b aT => if b = true then sp g ρ aT (nx Q λ o8 bH => ∃ m', m' < m ∧ I m' o8 bH) else Q .next ρ aT) :
  ∀ (fuel m : Nat) (ρ : Loc) (σ : St), I m ρ σ → m < fuel → sp (XS.jS f g fuel) ρ σ Q := by
 intro fuel
 induction fuel with
 | zero => intro m ρ σ _ h; lia
 | succ fuel ih =>
  intro m ρ σ hI hm
  obtain ⟨b, s1, e1, q⟩ := step m ρ σ hI
  cases b with
  | false =>
   rw [if_neg (by simp)] at q
   refine ⟨.next, ρ, s1, ?_, q⟩
   unfold XS.jS
   rw [e1]
  | true =>
   rw [if_pos rfl] at q
   obtain ⟨fl, r2, s2, e2, q⟩ := q
   cases fl with
   | next =>
    obtain ⟨m', hlt, hI'⟩ := q
    obtain ⟨fl, r3, s3, e3, q3⟩ := ih m' r2 s2 hI' (by lia)
    refine ⟨fl, r3, s3, ?_, q3⟩
    unfold XS.jS
    rw [e1]; dsimp only; rw [e2]; exact e3
   | ret v =>
    refine ⟨.ret v, r2, s2, ?_, q⟩
    unfold XS.jS
    rw [e1]; dsimp only; rw [e2]
end
section
variable {ρ : Loc} {σ : St}
noncomputable def lp (g : XC) (j : Nat) (ρ : Loc) (σ : St) (Q : Loc → St → Prop) : Prop := E2 λ cJ σ' => g j ρ σ = some (cJ, σ') ∧ Q cJ σ'
theorem CP {f : X V} {j : Nat} {Q : Loc → St → Prop} (h0 : xp f ρ σ λ v aT => ∃ l, A3 (getL aT j = some l) (l.length ≤ 100000) (Q ρ (aT.set j (.list (l ++ [v]))))) : lp (XC.emit f) j ρ σ Q := by
 unfold lp XC.emit
 obtain ⟨v, s1, e, l, hl, hz, q⟩ := h0
 rw [e]; dsimp only; rw [hl]; dsimp only; rw [if_pos hz]; exact ⟨_, _, rfl, q⟩
theorem Ik {f g : X V} {j : Nat} {Q : Loc → St → Prop} (h0 : xp f ρ σ λ k aT => ∃ i, k = .int i ∧ xp g ρ aT λ v bH => ∃ l, A3 (eJ bH j = some l) (l.length ≤ 100000) (Q ρ (bH.set j (.bX (fF l i v))))) : lp (XC.uZ f g) j ρ σ Q := by
 unfold lp XC.uZ
 obtain ⟨k, s1, e, i, rfl, v, s2, e2, l, hl, hz, q⟩ := h0
 rw [e]; dsimp only; rw [e2]; dsimp only; rw [hl]; dsimp only; rw [if_pos hz]; exact ⟨_, _, rfl, q⟩
theorem Gc {get : St → Nat → Option (Option V)} {a : XA} {t : Option (X Bool)} {g : XC} {j : Nat} {l : List V} {Q : Loc → St → Prop} (I : Nat → Loc → St → Prop) (Mc : ∀ k ρ σ, I k ρ σ → k ≤ l.length → get σ k = some l[k]?)
  (step : ∀ k x ρ σ, l[k]? = some x → I k ρ σ → ap a x ρ σ λ Cq aT => xp (XC.test t) Cq aT λ b bH => if b = true then lp g j Cq bH (I (k + 1)) else I (k + 1) Cq bH) (done : ∀ ρ σ, I l.length ρ σ → Q ρ σ) :
  ∀ (fuel k : Nat) (ρ : Loc) (σ : St), I k ρ σ → k ≤ l.length → l.length - k < fuel → lp (XC.loop get a t g fuel k) j ρ σ Q := by
 intro fuel
 induction fuel with
 | zero => intro k ρ σ _ _ h; lia
 | succ fuel ih =>
  intro k ρ σ hI hk hf
  have hs := Mc k ρ σ hI hk
  by_cases hlt : k < l.length
  ·have hx : l[k]? = some l[k] := List.getElem?_eq_getElem hlt
   obtain ⟨r1, s1, e1, b, s2, e2, q⟩ := step k _ ρ σ hx hI
   cases b with
   | false =>
    rw [if_neg (by simp)] at q
    obtain ⟨r3, s3, e3, q3⟩ := ih (k + 1) r1 s2 q hlt (by lia)
    refine ⟨r3, s3, ?_, q3⟩
    unfold XC.loop
    rw [hs, hx]; dsimp only; rw [e1]; dsimp only; rw [e2]; exact e3
   | true =>
    rw [if_pos rfl] at q
    obtain ⟨r4, s4, e4, q⟩ := q
    obtain ⟨r3, s3, e3, q3⟩ := ih (k + 1) r4 s4 q hlt (by lia)
    refine ⟨r3, s3, ?_, q3⟩
    unfold XC.loop
    rw [hs, hx]; dsimp only; rw [e1]; dsimp only; rw [e2]; dsimp only; rw [e4]; exact e3
  ·have : k = l.length := by lia
   subst this
   have hx : l[l.length]? = none := by simp
   refine ⟨ρ, σ, ?_, done ρ σ hI⟩
   unfold XC.loop
   rw [hs, hx]
theorem Kb {f : X V} {a : XA} {t : Option (X Bool)} {g : XC} {fuel j : Nat} {Q : Loc → St → Prop} (h0 : xp f ρ σ λ v aT => lp (XC.loop (gV v) a t g fuel 0) j ρ aT Q) : lp (XC.nest f a t g fuel) j ρ σ Q := by
 unfold lp XC.nest
 obtain ⟨v, s1, e, r, s, e2, q⟩ := h0
 rw [e]; exact ⟨_, _, e2, q⟩
theorem tR {locs : List Nat} {f : X V} {new : O} {a : XA} {t : Option (X Bool)} {g : XC} {fuel : Nat} {Q : V → St → Prop}
  (h : xp f ρ σ λ v aT => E2 λ (l : List V) (I : Nat → Loc → St → Prop) => A6 (I 0 (Ln locs ρ) (aT ++ [new])) (l.length < fuel) (gV v aT 0 = some l[0]?) (∀ k ρ σ, I k ρ σ → k ≤ l.length → gV v σ k = some l[k]?) (∀ k x ρ σ, l[k]? = some x → I k ρ σ → ap a x ρ σ λ Cq bH => xp (XC.test t) Cq bH λ b dT => if b = true then lp g aT.length Cq dT (I (k + 1)) else I (k + 1) Cq dT) (∀ ρ σ, I l.length ρ σ → Q (.obj aT.length) σ)) :
  xp (X.comp locs f new a t g fuel) ρ σ Q := by
 obtain ⟨v, s1, e, l, I, h1, h2, h0, h3, h4, h5⟩ := h
 obtain ⟨r, s, e2, q⟩ := Gc I h3 h4 h5 fuel 0 (Ln locs ρ) (s1 ++ [new]) h1 (Nat.zero_le _) (by lia)
 refine ⟨.obj s1.length, s, ?_, q⟩
 unfold X.comp
 rw [e]; dsimp only; rw [h0]; dsimp only; rw [e2]
theorem wp_runF {np k : Nat} {g : XS} {vs : List V} {Q : V → St → Prop} (hn : vs.length = np) (h : sp g (vs.map some ++ List.replicate k none) σ λ fl _ σ' => match fl with | .ret v => Q v σ' | .next => Q .none σ') : wp (eV np k g vs σ) Q := by
 obtain ⟨fl, r, s, e, q⟩ := h
 unfold eV
 rw [if_pos hn, e]
 cases fl with
 | next => exact wp_some.mpr q
 | ret v => exact wp_some.mpr q
end
section
variable {ρ o8 : Loc} {σ aT bH dT : St} {Q : Fl → Loc → St → Prop}
theorem aQ {o : V → V → St → Option (V × St)} {f g : X V} {a b : V} {r : V × St} (h1 : f ρ σ = some (a, aT)) (h2 : g ρ aT = some (b, bH)) (h3 : o a b bH = some r) : X.bin o f g ρ σ = some r := by
 unfold X.bin X.bind; simp only [h1, h2, X.lift, h3]
theorem bO {f g : X V} {a b : V} {r : V × St} (h1 : f ρ σ = some (a, aT)) (h2 : g ρ aT = some (b, bH)) (h3 : i6 a b bH = some r) : X.sub f g ρ σ = some r := by
 unfold X.sub X.bind; simp only [h1, h2, X.lift, h3]
theorem bQ {c k : Nat} {f : X V} {a : V} {r : V × St} (h1 : f ρ σ = some (a, aT)) (h2 : wX c k a aT = some r) : X.attr c k f ρ σ = some r := by
 unfold X.attr X.bind; simp only [h1, X.lift, h2]
theorem aN {F : FF} {g : X (List V)} {l : List V} {r : V × St} (h1 : g ρ σ = some (l, aT)) (h2 : F l aT = some r) : X.call F g ρ σ = some r := by
 unfold X.call X.bind; simp only [h1, X.lift, h2]
theorem aI {f : X V} {g : X (List V)} {a : V} {l : List V} (h1 : f ρ σ = some (a, aT)) (h2 : g ρ aT = some (l, bH)) : X.aB f g ρ σ = some (a :: l, bH) := by
 unfold X.aB X.bind; simp only [h1, h2, X.pure]
theorem fM {F : FF} {f : X V} {g : X (List V)} {v v' : V} {l : List V} {r : V × St} (h1 : f ρ σ = some (v, aT)) (h2 : asList v aT = some (v', bH)) (h3 : g ρ bH = some (l, dT)) (h4 : F (v' :: l) dT = some r) : X.fH F f g ρ σ = some r := by
 unfold X.fH X.bind; simp only [h1, X.lift, h2, h3, h4]
theorem rO {f g : X V} {a : V} {n : Int} {r : V × St} (h1 : f ρ σ = some (a, aT)) (h2 : g ρ aT = some (.int n, bH)) (h3 : gX a none (some n) bH = some r) : X.slice f none (some g) ρ σ = some r := by
 unfold X.slice X.bind; simp only [h1, yX, X.pure, X.bind, h2, X.lift, h3]
theorem aP {f : X V} {b : Bool} (h1 : f ρ σ = some (.bool b, aT)) : X.test f ρ σ = some (b, aT) := by
 unfold X.test X.bind; simp only [h1]; rfl
theorem fY {f : X V} {a : XA} {g : XS} {v : V} (h1 : f ρ σ = some (v, aT)) (h2 : a v ρ aT = some (o8, bH)) (k : sp g o8 bH Q) : sp (XS.seq (XS.assign f a) g) ρ σ Q :=
 jB (GK ⟨v, aT, h1, o8, bH, h2, k⟩)
theorem c6 {f : X Bool} {s : XS} {g : XS} (h1 : f ρ σ = some (false, aT)) (k : sp g ρ aT Q) : sp (XS.seq (XS.ite f s XS.nil) g) ρ σ Q :=
 jB (Cz ⟨false, aT, h1, by dsimp only; rw [if_neg (by simp)]; exact ⟨_, _, _, rfl, k⟩⟩)
theorem kY {f : X Bool} {s r g : XS} (h1 : f ρ σ = some (true, aT)) (k : sp s ρ aT (nx Q λ cJ σ' => sp g cJ σ' Q)) : sp (XS.seq (XS.ite f s r) g) ρ σ Q :=
 jB (Cz ⟨true, aT, h1, by dsimp only; rw [if_pos rfl]; exact k⟩)
theorem Mp {f : X Bool} {g h : X V} {r : V × St} (h1 : f ρ σ = some (false, aT)) (h2 : h ρ aT = some r) : X.L0 f g h ρ σ = some r := by
 unfold X.L0 X.bind; simp only [h1]; exact h2
theorem IX {o o' : V → V → St → Option (V × St)} {f g h : X V} {a b : V} (h1 : f ρ σ = some (a, aT)) (h2 : g ρ aT = some (b, bH)) (h3 : o a b bH = some (.bool false, dT)) : X.qR o o' f g h ρ σ = some (false, dT) := by
 unfold X.qR X.bind; simp only [h1, h2, X.lift, h3]; rfl
theorem Ay {o o' : V → V → St → Option (V × St)} {f g h : X V} {a b c : V} {t : Bool} {k8 pM : St} (h1 : f ρ σ = some (a, aT)) (h2 : g ρ aT = some (b, bH)) (h3 : o a b bH = some (.bool true, dT)) (h4 : h ρ dT = some (c, k8)) (h5 : o' b c k8 = some (.bool t, pM)) : X.qR o o' f g h ρ σ = some (t, pM) := by
 unfold X.qR X.bind; simp only [h1, h2, X.lift, h3]
 show X.bind (X.bind h λ c => X.lift (o' b c)) X.truth ρ dT = _
 unfold X.bind; simp only [h4, X.lift, h5]; rfl
theorem Eh {f : X V} {v : V} {r : V × St} (h1 : f ρ σ = some (v, aT)) (h2 : oW v aT = some r) : X.tC f ρ σ = some r := by
 unfold X.tC X.bind; simp only [h1, X.lift, h2]
theorem Mo {f : X V} {b : Bool} (h1 : f ρ σ = some (.bool b, aT)) : X.LL f ρ σ = some (.bool (!b), aT) := by
 unfold X.LL X.bind; simp only [h1]; rfl
theorem xA {f g : X V} {a : V} {n : Int} {r : V × St} (h1 : f ρ σ = some (a, aT)) (h2 : g ρ aT = some (.int n, bH)) (h3 : gX a (some n) none bH = some r) : X.slice f (some g) none ρ σ = some r := by
 unfold X.slice X.bind; simp only [h1, yX, X.pure, X.bind, h2, X.lift, h3]
theorem s9 {np k : Nat} {f : X V} {g : XS} {vs : List V} {v : V} (h : f (vs.map some ++ List.replicate k none) σ = some (v, aT)) (hn : vs.length = np := by rfl) : eV np k (XS.seq (XS.ret f) g) vs σ = some (v, aT) := by
 unfold eV XS.seq XS.ret; simp only [if_pos hn, h]
theorem FS {f : X Bool} {s r g : XS} (h1 : f ρ σ = some (false, aT)) (k : sp r ρ aT (nx Q λ cJ σ' => sp g cJ σ' Q)) : sp (XS.seq (XS.ite f s r) g) ρ σ Q :=
 jB (Cz ⟨false, aT, h1, by dsimp only; rw [if_neg (by simp)]; exact k⟩)
theorem dJ (k : Q .next ρ σ) : sp XS.nil ρ σ Q := ⟨_, _, _, rfl, k⟩
theorem Jr {c k : Nat} {f : X V} {v w : V} (h1 : f ρ σ = some (w, aT)) (h2 : vQ c k w v aT = some bH) : XA.attr c k f v ρ σ = some (ρ, bH) := by
 unfold XA.attr; simp only [h1, h2]; rfl
theorem Gw {f g : X V} {v a b : V} (h1 : f ρ σ = some (a, aT)) (h2 : g ρ aT = some (b, bH)) (h3 : mL a b v bH = some dT) : XA.item f g v ρ σ = some (ρ, dT) := by
 unfold XA.item; simp only [h1, h2, h3]; rfl
theorem dC {c k : Nat} {F : FF} {f : X V} {g : X (List V)} {v v' : V} {l : List V} {r : V × St} (h1 : f ρ σ = some (v, aT)) (h2 : tP c k v aT = some (v', bH)) (h3 : g ρ bH = some (l, dT)) (h4 : F (v' :: l) dT = some r) : X.cV c k F f g ρ σ = some r := by
 unfold X.cV X.bind; simp only [h1, X.lift, h2, h3, h4]
theorem kT {f : X Bool} {b : Bool} (h1 : f ρ σ = some (b, aT)) : X.oN f ρ σ = some (!b, aT) := by
 unfold X.oN X.bind; simp only [h1]; rfl
theorem gB {f g : X Bool} {r : Bool × St} (h1 : f ρ σ = some (false, aT)) (h2 : g ρ aT = some r) : X.pQ f g ρ σ = some r := by
 unfold X.pQ X.bind; simp only [h1]; exact h2
theorem Eg {f g : X Bool} (h1 : f ρ σ = some (true, aT)) : X.pQ f g ρ σ = some (true, aT) := by
 unfold X.pQ X.bind; simp only [h1]; rfl
theorem eY {f g : X Bool} {r : Bool × St} (h1 : f ρ σ = some (true, aT)) (h2 : g ρ aT = some r) : X.i8 f g ρ σ = some r := by
 unfold X.i8 X.bind; simp only [h1]; exact h2
theorem jX {f g : X Bool} (h1 : f ρ σ = some (false, aT)) : X.i8 f g ρ σ = some (false, aT) := by
 unfold X.i8 X.bind; simp only [h1]; rfl
theorem IY {f g : X V} {r : V × St} (h1 : f ρ σ = some (.bool true, aT)) (h2 : g ρ aT = some r) : X.Kz f g ρ σ = some r := by
 unfold X.Kz X.bind; simp only [h1]; exact h2
theorem k5 {f : X (List V)} {l : List V} (h1 : f ρ σ = some (l, aT)) (hl : l.length ≤ 1000) : X.eX f ρ σ = some (.tup l, aT) := by
 unfold X.eX X.bind; simp only [h1, iY, if_pos hl]; rfl
theorem mY {f : X (List V)} {l : List V} (h1 : f ρ σ = some (l, aT)) (hl : l.length ≤ 1000) : X.iU f ρ σ = some (.obj aT.length, aT ++ [.list l]) := by
 unfold X.iU X.bind; simp only [h1, iY, if_pos hl]; rfl
theorem lW {f : X V} {g : XS} {v : V} (h1 : f ρ σ = some (v, aT)) (k : Q (.ret v) ρ aT) : sp (XS.seq (XS.ret f) g) ρ σ Q :=
 jB (Ly ⟨v, aT, h1, k⟩)
theorem jO {f : X V} {g : XS} {v : V} (h1 : f ρ σ = some (v, aT)) (hr : XS.isRef v = false) (k : sp g ρ aT Q) : sp (XS.seq (XS.drop f) g) ρ σ Q :=
 jB (JN ⟨v, aT, h1, hr, k⟩)
theorem zQ {f : X Bool} {e : X V} {s g : XS} {v : V} (h1 : f ρ σ = some (true, aT)) (h2 : e ρ aT = some (v, bH)) (k : Q (.ret v) ρ bH) : sp (XS.seq (XS.ite f (XS.seq (XS.ret e) s) XS.nil) g) ρ σ Q :=
 jB (Cz ⟨true, aT, h1, by dsimp only; rw [if_pos rfl]; exact lW h2 k⟩)
theorem JS {f : X V} {a : XA} {g r : XS} {fuel : Nat} {v : V} (l : List V) (I : Nat → Loc → St → Prop) (h1 : f ρ σ = some (v, aT)) (h2 : I 0 ρ aT) (h3 : l.length < fuel) (h4 : ∀ k ρ σ, I k ρ σ → k ≤ l.length → gV v σ k = some l[k]?)
  (h5 : ∀ k x ρ σ, l[k]? = some x → I k ρ σ → E2 λ o8 bH => a x ρ σ = some (o8, bH) ∧ ∀ Q', (∀ cJ σ', I (k + 1) cJ σ' → Q' .next cJ σ') → (∀ v cJ σ', Q (.ret v) cJ σ' → Q' (.ret v) cJ σ') → sp g o8 bH Q') (h6 : ∀ cJ σ', I l.length cJ σ' → sp r cJ σ' Q) : sp (XS.seq (XS.for f a g fuel) r) ρ σ Q := by
 refine jB (EL ⟨v, aT, h1, l, I, h2, h3, h4, λ k x ρ σ hx hI => ?_, h6⟩)
 obtain ⟨o8, bH, e, q⟩ := h5 k x ρ σ hx hI
 exact ⟨o8, bH, e, q _ (λ _ _ h => h) λ _ _ _ h => h⟩
inductive N7 (f : X Bool) (g r : XS) (I : Nat → Loc → St → Prop) (Q : Fl → Loc → St → Prop) (m : Nat) (ρ : Loc) (σ : St) : Prop
 | stop {aT : St} (h : f ρ σ = some (false, aT)) (k : sp r ρ aT Q)
 | go {aT : St} (h : f ρ σ = some (true, aT)) (k : ∀ Q' : Fl → Loc → St → Prop, (∀ m' cJ σ', m' < m → I m' cJ σ' → Q' .next cJ σ') → (∀ v cJ σ', Q (.ret v) cJ σ' → Q' (.ret v) cJ σ') → sp g ρ aT Q')
theorem HJ {f : X Bool} {g r : XS} {fuel : Nat} (I : Nat → Loc → St → Prop) (m : Nat) (h2 : I m ρ σ) (h3 : m < fuel) (h5 : ∀ m ρ σ, I m ρ σ → N7 f g r I Q m ρ σ) : sp (XS.seq (XS.jS f g fuel) r) ρ σ Q := by
 refine jB (zB I (λ m ρ σ hI => ?_) fuel m ρ σ h2 h3)
 cases h5 m ρ σ hI with
 | stop h k => exact ⟨_, _, h, k⟩
 | go h k => exact ⟨_, _, h, by dsimp only; rw [if_pos rfl]; exact k _ (λ m' _ _ h h' => ⟨m', h, h'⟩) λ _ _ _ h => h⟩
end
noncomputable def Ext (M : Nat → Prop) (σ σ' : St) : Prop := σ.length ≤ σ'.length ∧ ∀ i, i < σ.length → ¬ M i → σ'[i]? = σ[i]?
noncomputable abbrev bW := Ext (λ _ => False)
section
variable {M M' : Nat → Prop} {σ σ' aT bH : St} {i j : Nat}
theorem Ext.refl : Ext M σ σ := ⟨Nat.le_refl _, λ _ _ _ => rfl⟩
theorem Ext.trans (a : Ext M σ aT) (b : Ext M' aT bH) (h : ∀ i, M' i → M i ∨ σ.length ≤ i) : Ext M σ bH := by
 refine ⟨Nat.le_trans a.1 b.1, λ i hi hm => ?_⟩
 rw [b.2 i (Nat.lt_of_lt_of_le hi a.1) λ z => ?_, a.2 i hi hm]
 rcases h i z with h | h
 ·exact hm h
 ·lia
theorem Ext.then (a : Ext M σ aT) (b : Ext M aT bH) : Ext M σ bH := a.trans b λ _ h => .inl h
theorem Ext.wP (a : Ext M σ aT) (b : bW aT bH) : Ext M σ bH := a.trans b λ _ h => h.elim
theorem Ext.mono (a : Ext M σ aT) (h : ∀ i, M i → M' i) : Ext M' σ aT := ⟨a.1, λ i hi hm => a.2 i hi λ z => hm (h i z)⟩
theorem Ext.of0 (a : bW σ aT) : Ext M σ aT := a.mono λ _ h => h.elim
theorem Ext.push (o : O) : Ext M σ (σ ++ [o]) := ⟨by simp, λ i hi _ => List.getElem?_append_left hi⟩
theorem Ext.EW (l : List O) : Ext M σ (σ ++ l) := ⟨by simp, λ i hi _ => List.getElem?_append_left hi⟩
theorem Ext.set (o : O) (h : M j) : Ext M σ (σ.set j o) := ⟨by simp, λ i hi hm => List.getElem?_set_ne (λ (z : j = i) => hm (z ▸ h))⟩
theorem Ext.get (a : Ext M σ σ') (hi : i < σ.length) (hm : ¬ M i) : σ'[i]? = σ[i]? := a.2 i hi hm
theorem bE {l : List V} (h : getL σ i = some l) : i < σ.length := (List.getElem?_eq_some_iff.mp (j5 h)).1
theorem iQ {l : List (Int × V)} (h : eJ σ i = some l) : i < σ.length := (List.getElem?_eq_some_iff.mp (lH h)).1
theorem fL {l : List (Nat × V)} (h : bV σ i = some l) : i < σ.length := (List.getElem?_eq_some_iff.mp (yQ h)).1
theorem Ext.getL (a : Ext M σ σ') {l : List V} (h : getL σ i = some l) (hm : ¬ M i) : Mine.getL σ' i = some l := by
 unfold Mine.getL at *; rw [a.get (bE h) hm]; exact h
theorem Ext.eJ (a : Ext M σ σ') {l : List (Int × V)} (h : eJ σ i = some l) (hm : ¬ M i) : Mine.eJ σ' i = some l := by
 unfold Mine.eJ at *; rw [a.get (iQ h) hm]; exact h
theorem Ext.bV (a : Ext M σ σ') {l : List (Nat × V)} (h : bV σ i = some l) (hm : ¬ M i) : Mine.bV σ' i = some l := by
 unfold Mine.bV at *; rw [a.get (fL h) hm]; exact h
theorem c8 {l : List V} (h : i < σ.length) : getL (σ.set i (.list l)) i = some l := by unfold getL; simp [h]
theorem mB {l : List (Int × V)} (h : i < σ.length) : eJ (σ.set i (.bX l)) i = some l := by unfold eJ; simp [h]
theorem kG {l : List (Nat × V)} (h : i < σ.length) : bV (σ.set i (.aW l)) i = some l := by unfold bV; simp [h]
theorem cH {l : List V} : getL (σ ++ [.list l]) σ.length = some l := by unfold getL; simp
theorem uU {l : List (Int × V)} : eJ (σ ++ [.bX l]) σ.length = some l := by unfold eJ; simp
theorem Aw {l : List (Nat × V)} : bV (σ ++ [.aW l]) σ.length = some l := by unfold bV; simp
theorem bS {o : O} (h : i ≠ j) : getL (σ.set j o) i = getL σ i := by unfold getL; rw [List.getElem?_set_ne (Ne.symm h)]
theorem lG {o : O} (h : i ≠ j) : eJ (σ.set j o) i = eJ σ i := by unfold eJ; rw [List.getElem?_set_ne (Ne.symm h)]
theorem oU {o : O} (h : i ≠ j) : bV (σ.set j o) i = bV σ i := by unfold bV; rw [List.getElem?_set_ne (Ne.symm h)]
end
section
variable {σ : St} {Q : V → St → Prop}
end
section
variable {σ : St} {i j : Nat} {k : Int} {n : Nat} {v : V}
theorem fS {K : Type} [DecidableEq K] {k a : K} {b : V} {l : List (K × V)} : fT ((a, b) :: l) k = if a = k then some b else fT l k := by
 unfold fT
 by_cases h : a = k <;> simp [h]
theorem K9 {a : V} {l : List V} (h : getL σ i = some l) : MM a (.obj i) σ = if okV 6 a && l.all (okV 6) then some (l.any λ y => AW y a) else none := by
 show (σ[i]?).bind _ = _
 rw [j5 h]; rfl
theorem Gg {l : List (Int × V)} (h : eJ σ i = some l) : MM (.int k) (.obj i) σ = some (fT l k).isSome := by
 show (σ[i]?).bind _ = _
 rw [lH h]; rfl
theorem l7 {l : List V} (h : getL σ i = some l) : i6 (.obj i) (.int k) σ = (pick l k).map λ v => (v, σ) := by
 show (σ[i]?).bind _ = _
 rw [j5 h]; rfl
theorem CM {l : List (Int × V)} (h : eJ σ i = some l) : i6 (.obj i) (.int k) σ = (fT l k).map λ v => (v, σ) := by
 show (σ[i]?).bind _ = _
 rw [lH h]; rfl
theorem HW {l : List (Nat × V)} (h : bV σ i = some l) : i6 (.obj i) (.str n) σ = (fT l n).map λ v => (v, σ) := by
 show (bV σ i).bind _ = _
 rw [h]; rfl
theorem Fe {l : List V} : i6 (.tup l) (.int k) σ = (pick l k).map λ v => (v, σ) := rfl
theorem vO {l : List V} (h : getL σ i = some l) (h1 : 0 ≤ k) (h2 : k < 100000) (h3 : k.toNat < l.length) : mL (.obj i) (.int k) v σ = some (σ.set i (.list (l.set k.toNat v))) := by
 show (σ[i]?).bind _ = _
 rw [j5 h]; exact if_pos ⟨h1, h2, h3⟩
theorem vP {l : List (Int × V)} (h : eJ σ i = some l) (h1 : l.length ≤ 100000) : mL (.obj i) (.int k) v σ = some (σ.set i (.bX (fF l k v))) := by
 show (σ[i]?).bind _ = _
 rw [lH h]; exact if_pos h1
theorem Gv {l : List (Nat × V)} (h : bV σ i = some l) (h1 : l.length ≤ 100000) : mL (.obj i) (.str n) v σ = some (σ.set i (.aW (fF l n v))) := by
 show (bV σ i).bind _ = _
 rw [h]; exact if_pos h1
theorem jW {l : List V} (h : getL σ i = some l) (h1 : l.length ≤ 1000000) : gR (.obj i) σ = some (.int l.length, σ) := by
 show (σ[i]?).bind _ = _
 rw [j5 h]; exact if_pos h1
theorem Ml {l : List (Int × V)} (h : eJ σ i = some l) (h1 : l.length ≤ 1000000) : gR (.obj i) σ = some (.int l.length, σ) := by
 show (σ[i]?).bind _ = _
 rw [lH h]; exact if_pos h1
theorem wA {l : List V} (h1 : l.length ≤ 1000000) : gR (.tup l) σ = some (.int l.length, σ) := by
 unfold gR; simp [h1]
theorem d9 {l : List V} (h : getL σ i = some l) : asList (.obj i) σ = some (.obj i, σ) := by show (getL σ i).map _ = _; rw [h]; rfl
theorem gC {c : Nat} {l : List (Nat × V)} (h : bV σ i = some l) (h1 : fT l n = none) : tP c n (.inst c i) σ = some (.inst c i, σ) := by unfold tP; simp [h, h1]
theorem bC {c : Nat} {l : List (Nat × V)} (h : bV σ i = some l) (h1 : fT l n = some v) : wX c n (.inst c i) σ = some (v, σ) := by unfold wX; simp [h, h1]
theorem j7 {c : Nat} {l : List (Nat × V)} (h : bV σ i = some l) (h1 : l.length ≤ 100) : vQ c n (.inst c i) v σ = some (σ.set i (.aW (fF l n v))) := by unfold vQ; simp [h, h1]
theorem fR {l : List V} (h : getL σ i = some l) (h1 : l.length ≤ 100000) : eF [.obj i, v] σ = some (.none, σ.set i (.list (l ++ [v]))) := by show (getL σ i).bind _ = _; rw [h]; exact if_pos h1
theorem iK {l : List V} {m : Nat} (h : m < l.length) (h1 : m < 1000000) : pick l (m : Int) = some l[m] := by
 unfold pick
 rw [if_pos (by lia), if_pos (by lia)]
 simp [h]
end
structure Od (σ : St) (p c : Nat) (spot mixed : Int) (cells : List Int) : Prop where
 pen : bV σ p = some [(64, .obj c), (63, .int spot), (61, .int mixed)]
 ne : c ≠ p
 list : getL σ c = some (cells.map .int)
 KI : 0 ≤ spot
 LW : 0 ≤ mixed
 LV : mixed < 2000000
 nonneg : ∀ x ∈ cells, 0 ≤ x
 len : cells.length ≤ 1000
noncomputable def o6 (σ : St) (p c : Nat) : Prop := E3 λ spot mixed cells => Od σ p c spot mixed cells
section
variable {σ : St}
theorem oM {i n : Nat} {l : List (Nat × V)} {v : V} (h : bV σ i = some l) (h1 : fT l n = some v) : i6 (.obj i) (.str n) σ = some (v, σ) := by rw [HW h, h1]; rfl
theorem z8 {a b : Int} (hb : 0 < b) : oMod (.int a) (.int b) σ = some (.int (a % b), σ) := by
 unfold oMod
 dsimp only
 rw [if_neg (Int.ne_of_gt hb), Int.fmod_eq_emod_of_nonneg _ (Int.le_of_lt hb)]
theorem ON {a b : Int} (h : a < b) : oLt (.int a) (.int b) σ = some (.bool true, σ) := congrArg (λ b => some (V.bool b, σ)) (decide_eq_true h)
theorem ltF {a b : Int} (h : ¬ a < b) : oLt (.int a) (.int b) σ = some (.bool false, σ) := congrArg (λ b => some (V.bool b, σ)) (decide_eq_false h)
end
theorem lN {σ : St} {p c : Nat} {many : Int} (hp : o6 σ p c) (hm : 0 < many) :
  wp (cE [.obj p, .int many] σ) λ r σ' => ∃ x, A6 (r = .int x) (0 ≤ x) (x < many) (o6 σ' p c) (Ext (λ i => i = p) σ σ') (σ'.length = σ.length) := by
 refine byC λ hG => ?_
 obtain ⟨spot, mixed, cells, P⟩ := hp
 have hlt := fL P.pen
 have hl : (cells.map V.int).length = cells.length := List.length_map _
 have hl6 : (cells.map V.int).length ≤ 1000000 := by rw [hl]; exact Nat.le_trans P.len (by decide)
 obtain ⟨k, rfl⟩ := Int.eq_ofNat_of_zero_le P.KI
 have i1 : mL (.obj p) (.str 63) (.int ((k : Int) + 1)) σ = some (σ.set p (.aW [(64, .obj c), (63, .int ((k : Int) + 1)), (61, .int mixed)])) := Gv P.pen (Nat.le_of_ble_eq_true rfl)
 have g1 : bV (σ.set p (.aW [(64, .obj c), (63, .int ((k : Int) + 1)), (61, .int mixed)])) p = some [(64, .obj c), (63, .int ((k : Int) + 1)), (61, .int mixed)] := kG hlt
 have g2 : getL (σ.set p (.aW [(64, .obj c), (63, .int ((k : Int) + 1)), (61, .int mixed)])) c = some (cells.map .int) := by rw [bS P.ne]; exact P.list
 have E1 : Ext (λ i => i = p) σ (σ.set p (.aW [(64, .obj c), (63, .int ((k : Int) + 1)), (61, .int mixed)])) := .set _ rfl
 have l1 : (σ.set p (.aW [(64, .obj c), (63, .int ((k : Int) + 1)), (61, .int mixed)])).length = σ.length := List.length_set ..
 have k1 : (0 : Int) ≤ (k : Int) + 1 := Int.le_add_one (Int.natCast_nonneg k)
 generalize σ.set p (.aW [(64, .obj c), (63, .int ((k : Int) + 1)), (61, .int mixed)]) = aT at i1 g1 g2 E1 l1
 have eL := jW g2 hl6
 rw [hl] at eL
 by_cases hc : (k : Int) < (cells.length : Nat)
 ·have hk := Int.ofNat_lt.mp hc
  have e1 : i6 (.obj c) (.int (k : Nat)) aT = some (.int cells[k], aT) := by
   rw [l7 g2, iK (by rw [hl]; exact hk) (Nat.lt_of_lt_of_le hk (Nat.le_trans P.len (by decide))), List.getElem_map]; rfl
  exact hG (wp_runF rfl (fY (bO rfl rfl (oM P.pen rfl)) rfl (fY rfl (Gw rfl rfl i1) (zQ (aP (aQ rfl (aN (aI (bO rfl rfl (oM g1 rfl)) rfl) eL) (ON hc))) (aQ (bO (bO rfl rfl (oM g1 rfl)) rfl e1) rfl (z8 hm)) ⟨_, rfl, Int.emod_nonneg _ (Int.ne_of_gt hm), Int.emod_lt_of_pos _ hm, ⟨(k : Int) + 1, mixed, cells, g1, P.ne, g2, k1, P.LW, P.LV, P.nonneg, P.len⟩, E1, l1⟩))))
 ·have m0 := P.LW
  have m1 := P.LV
  have hmul : xY (.int mixed) (.int 7919) aT = some (.int (mixed * 7919), aT) := by
   unfold xY
   dsimp only
   have hs : pW mixed = true := Bool.and_eq_true_iff.mpr ⟨decide_eq_true (Int.lt_of_lt_of_le (by decide) m0), decide_eq_true (Int.lt_trans m1 (by decide))⟩
   rw [if_pos (Bool.and_eq_true_iff.mpr ⟨hs, by decide⟩)]
  have q0 := Int.emod_nonneg (mixed * 7919 + 4099) (show (1000003 : Int) ≠ 0 by decide)
  have q1 := Int.lt_trans (Int.emod_lt_of_pos (mixed * 7919 + 4099) (show (0 : Int) < 1000003 by decide)) (by decide : (1000003 : Int) < 2000000)
  have qm := z8 (σ := aT) (a := mixed * 7919 + 4099) (show (0 : Int) < 1000003 by decide)
  generalize (mixed * 7919 + 4099) % 1000003 = z at q0 q1 qm
  have i2 : mL (.obj p) (.str 61) (.int z) aT = some (aT.set p (.aW [(64, .obj c), (63, .int ((k : Int) + 1)), (61, .int z)])) := Gv g1 (Nat.le_of_ble_eq_true rfl)
  have g3 : bV (aT.set p (.aW [(64, .obj c), (63, .int ((k : Int) + 1)), (61, .int z)])) p = some [(64, .obj c), (63, .int ((k : Int) + 1)), (61, .int z)] := kG (l1.symm ▸ hlt)
  have g4 : getL (aT.set p (.aW [(64, .obj c), (63, .int ((k : Int) + 1)), (61, .int z)])) c = some (cells.map .int) := by rw [bS P.ne]; exact g2
  have E2 : Ext (λ i => i = p) σ (aT.set p (.aW [(64, .obj c), (63, .int ((k : Int) + 1)), (61, .int z)])) := E1.then (.set _ rfl)
  have l2 : (aT.set p (.aW [(64, .obj c), (63, .int ((k : Int) + 1)), (61, .int z)])).length = σ.length := (List.length_set ..).trans l1
  generalize aT.set p (.aW [(64, .obj c), (63, .int ((k : Int) + 1)), (61, .int z)]) = bH at i2 g3 g4 E2 l2
  have qd : cI (.int z) (.int 8) bH = some (.int (z.fdiv 8), bH) := by
   unfold cI
   dsimp only
   rw [if_neg (by decide)]
  exact hG (wp_runF rfl (fY (bO rfl rfl (oM P.pen rfl)) rfl (fY rfl (Gw rfl rfl i1) (c6 (aP (aQ rfl (aN (aI (bO rfl rfl (oM g1 rfl)) rfl) eL) (ltF hc))) (fY (aQ (aQ (aQ (bO rfl rfl (oM g1 rfl)) rfl hmul) rfl rfl) rfl qm) (Gw rfl rfl i2) (lW (aQ (aQ (bO rfl rfl (oM g3 rfl)) rfl qd) rfl (z8 hm)) ⟨_, rfl, Int.emod_nonneg _ (Int.ne_of_gt hm), Int.emod_lt_of_pos _ hm, ⟨(k : Int) + 1, z, cells, g3, P.ne, g4, k1, q0, q1, P.nonneg, P.len⟩, E2, l2⟩))))))
noncomputable def Src (v : V) (σ : St) (l : List V) : Prop := ∀ σ', bW σ σ' → ∀ k, k ≤ l.length → gV v σ' k = some l[k]?
theorem Src.tup {l : List V} {σ : St} : Src (.tup l) σ l := λ _ _ _ _ => rfl
theorem Src.list {l : List V} {σ : St} {i : Nat} (h : getL σ i = some l) : Src (.obj i) σ l := λ σ' e k _ => by
 show (getL σ' i).map _ = _
 rw [e.getL h λ z => z.elim]; rfl
theorem Src.range {σ : St} {a b : Int} (h1 : -1000000 ≤ a) (h2 : a ≤ 1000000) (h3 : -1000000 ≤ b) (h4 : b ≤ 1000000) : Src (.range a b) σ ((rangeInts a b).map .int) := λ σ' _ k hk => by
 unfold gV
 dsimp only
 rw [if_pos ⟨Int.le_trans (by decide) h1, Int.le_trans h4 (by decide), Int.le_trans h2 (by decide), Int.le_trans (by decide) h3⟩]
 congr 1
 unfold rangeInts at *
 simp only [List.length_map, List.length_range] at hk
 by_cases h : a + k < b
 ·rw [if_pos h]
  simp only [List.getElem?_map]
  rw [List.getElem?_range (Int.lt_toNat.mpr (Int.lt_sub_left_of_add_lt h))]
  simp
 ·rw [if_neg h]
  simp only [List.getElem?_map]
  rw [List.getElem?_eq_none (by rw [List.length_range]; exact Int.toNat_le.mpr (Int.sub_left_le_of_le_add (Int.not_lt.mp h)))]
  simp
section
variable {ρ : Loc} {σ aT : St}
inductive JD (t : Option (X Bool)) (a : XA) (e : X V) (L : Loc → Prop) (w : V) (o : Option V) (ρ : Loc) (σ : St) : Prop
 | skip {o8 : Loc} {bH dT : St} (h1 : a w ρ σ = some (o8, bH)) (hL : L o8) (h2 : XC.test t o8 bH = some (false, dT)) (ho : o = none) (E : bW σ dT)
 | put {o8 : Loc} {bH dT k8 : St} {u : V} (h1 : a w ρ σ = some (o8, bH)) (hL : L o8) (h2 : XC.test t o8 bH = some (true, dT)) (h3 : e o8 dT = some (u, k8)) (ho : o = some u) (E : bW σ k8)
inductive sU (a : XA) (g : XS) (J : Loc → St → Prop) (Q : Fl → Loc → St → Prop) (w : V) (ρ : Loc) (σ : St) : Prop
 | mk {o8 : Loc} {bH : St} (h : a w ρ σ = some (o8, bH)) (k : ∀ Q' : Fl → Loc → St → Prop, (∀ cJ σ', J cJ σ' → Q' .next cJ σ') → (∀ v cJ σ', Q (.ret v) cJ σ' → Q' (.ret v) cJ σ') → sp g o8 bH Q')
theorem nR {α : Type} {f : X V} {a : XA} {g r : XS} {fuel : Nat} {v : V} {Q : Fl → Loc → St → Prop} (l : List α) (inj : α → V) (I : Nat → Loc → St → Prop) (h1 : f ρ σ = some (v, aT)) (h2 : I 0 ρ aT) (h3 : l.length < fuel) (h4 : ∀ k ρ σ, I k ρ σ → k ≤ l.length → gV v σ k = some (l.map inj)[k]?)
  (h5 : ∀ k x ρ σ, l[k]? = some x → I k ρ σ → sU a g (I (k + 1)) Q (inj x) ρ σ) (h6 : ∀ cJ σ', I l.length cJ σ' → sp r cJ σ' Q) : sp (XS.seq (XS.for f a g fuel) r) ρ σ Q := by
 have e : (l.map inj).length = l.length := List.length_map _
 refine JS (l.map inj) I h1 h2 (e ▸ h3) (λ k ρ σ hI h => h4 k ρ σ hI (e ▸ h)) (λ k x ρ σ hx hI => ?_) (e ▸ h6)
 rw [List.getElem?_map] at hx
 obtain ⟨y, hy, rfl⟩ := Option.map_eq_some_iff.mp hx
 obtain ⟨h, q⟩ := h5 k y ρ σ hy hI
 exact ⟨_, _, h, q⟩
theorem HL {f : X V} {a : XA} {g r : XS} {fuel : Nat} {v : V} {Q : Fl → Loc → St → Prop} (l : List V) (I : Nat → Loc → St → Prop) (h1 : f ρ σ = some (v, aT)) (h2 : I 0 ρ aT) (h3 : l.length < fuel) (h4 : ∀ k ρ σ, I k ρ σ → oY v σ k = some ((l.mapIdx λ k x => V.tup [.int (k : Nat), x])[k]?))
  (h5 : ∀ k x ρ σ, l[k]? = some x → I k ρ σ → sU a g (I (k + 1)) Q (.tup [.int (k : Nat), x]) ρ σ) (h6 : ∀ cJ σ', I l.length cJ σ' → sp r cJ σ' Q) : sp (XS.seq (XS.j6 f a g fuel) r) ρ σ Q := by
 have e : (l.mapIdx λ k x => V.tup [.int (k : Nat), x]).length = l.length := List.length_mapIdx
 refine jB (EK ⟨v, aT, h1, _, I, h2, e ▸ h3, λ k ρ σ hI _ => h4 k ρ σ hI, λ k x ρ σ hx hI => ?_, e ▸ h6⟩)
 rw [List.getElem?_mapIdx] at hx
 obtain ⟨y, hy, rfl⟩ := Option.map_eq_some_iff.mp hx
 obtain ⟨h, q⟩ := h5 k y ρ σ hy hI
 exact ⟨_, _, h, q _ (λ _ _ h => h) λ _ _ _ h => h⟩
theorem take_snoc {α β : Type} {l : List α} {k : Nat} {x : α} (h : l[k]? = some x) (g : α → Option β) : (l.take (k + 1)).filterMap g = (l.take k).filterMap g ++ (g x).toList := by
 obtain ⟨hlt, e⟩ := List.getElem?_eq_some_iff.mp h
 rw [List.take_succ_eq_append_getElem hlt, e, List.filterMap_append, List.filterMap_cons]
 cases g x <;> rfl
theorem C2 {α β : Type} {l : List α} {n : Nat} (g : α → Option β) (h : l.length ≤ n) : (l.filterMap g).length ≤ n := Nat.le_trans (List.length_filterMap_le g l) h
theorem Ca {α : Type} {t : Option (X Bool)} {a : XA} {e : X V} {L : Loc → Prop} {x : α} {w : V} {out : α → Option V} {l : List α} {acc : List V} {j k : Nat} {Ls : St} (hj : Ls.length ≤ j) (c : JD t a e L w (out x) ρ σ) (E : bW Ls σ) (hx : l[k]? = some x) (g : getL σ j = some (acc ++ (l.take k).filterMap out)) (hz : acc.length + l.length ≤ 100000) :
  ap a w ρ σ λ Cq bH => xp (XC.test t) Cq bH λ b dT => if b = true then lp (XC.emit e) j Cq dT (λ ρ σ => A3 (L ρ) (bW Ls σ) (getL σ j = some (acc ++ (l.take (k + 1)).filterMap out))) else A3 (L Cq) (bW Ls dT) (getL dT j = some (acc ++ (l.take (k + 1)).filterMap out)) := by
 rw [take_snoc hx, ← List.append_assoc]
 cases c with
 | skip h1 hL h2 ho E2 =>
  rw [ho]
  exact ⟨_, _, h1, _, _, h2, hL, E.then E2, (List.append_nil _).symm ▸ E2.getL g id⟩
 | put h1 hL h2 h3 ho E2 =>
  have g2 := E2.getL g id
  rw [ho]
  refine ⟨_, _, h1, _, _, h2, CP ⟨_, _, h3, _, g2, ?_, hL, (E.then E2).trans (M' := λ i => i = j) (.set _ rfl) (λ i h => .inr (h ▸ hj)), c8 (bE g2)⟩⟩
  rw [List.length_append]
  exact Nat.le_trans (Nat.add_le_add_left (C2 out (List.length_take_le' k l)) _) hz
theorem evMap {α : Type} {G : Prop} (L : Loc → Prop) {locs : List Nat} {f : X V} {a : XA} {t : Option (X Bool)} {e : X V} {fuel : Nat} {v : V} (l : List α) (inj : α → V) (out : α → Option V) (hL : L (Ln locs ρ)) (h3 : l.length ≤ 1000) (hs : Src v aT (l.map inj))
  (k : ∀ σ', X.f9 locs f a t e fuel ρ σ = some (.obj aT.length, σ') → bW aT σ' → getL σ' aT.length = some (l.filterMap out) → G) (h1 : f ρ σ = some (v, aT)) (h2 : l.length < fuel) (step : ∀ x cJ σ', x ∈ l → L cJ → bW aT σ' → JD t a e L (inj x) (out x) cJ σ') : G := by
 have : xp (X.f9 locs f a t e fuel) ρ σ λ r σ' => A3 (r = .obj aT.length) (bW aT σ') (getL σ' aT.length = some (l.filterMap out)) := by
  refine tR ⟨v, aT, h1, l.map inj, λ k ρ σ => A3 (L ρ) (bW aT σ) (getL σ aT.length = some ((l.take k).filterMap out)), ⟨hL, .push _, cH⟩, by rw [List.length_map]; exact h2, hs aT .refl 0 (Nat.zero_le _), λ k ρ σ I hk => hs σ I.h2 k hk, λ k x ρ σ hx I => ?_, λ ρ σ I => ⟨rfl, I.h2, ?_⟩⟩
  ·rw [List.getElem?_map] at hx
   obtain ⟨x, hy, rfl⟩ := Option.map_eq_some_iff.mp hx
   exact Ca (acc := []) (Nat.le_refl _) (step x ρ σ (List.mem_of_getElem? hy) I.h1 I.h2) I.h2 hy I.h3 ((Nat.zero_add _).symm ▸ Nat.le_trans h3 (by decide))
  ·have := I.h3; rw [List.length_map, List.take_length] at this; exact this
 obtain ⟨_, σ', e, rfl, E, g⟩ := this
 exact k σ' e E g
end
noncomputable def vR (p : Int × Int) : V := .tup [.int p.1, .int p.2]
noncomputable def dv (rs : List (Int × Int)) : V := .tup (rs.map vR)
noncomputable def aX (rs : List (Int × Int)) : List Int := rs.flatMap λ p => rangeInts p.1 (p.2 + 1)
structure Small (rs : List (Int × Int)) : Prop where
 len : rs.length ≤ 20
 lo : ∀ p ∈ rs, -100 ≤ p.1 ∧ p.1 ≤ 100
 hi : ∀ p ∈ rs, -100 ≤ p.2 ∧ p.2 ≤ 100
theorem mem_rangeInts {a b x : Int} : x ∈ rangeInts a b ↔ a ≤ x ∧ x < b := by
 unfold rangeInts
 simp only [List.mem_map, List.mem_range]
 constructor
 ·rintro ⟨i, hi, rfl⟩
  exact ⟨Int.le_add_of_nonneg_right (Int.natCast_nonneg i), Int.add_lt_of_lt_sub_left (Int.lt_toNat.mp hi)⟩
 ·rintro ⟨h1, h2⟩
  refine ⟨(x - a).toNat, (Int.toNat_lt_toNat (Int.sub_pos_of_lt (Int.lt_of_le_of_lt h1 h2))).mpr (Int.sub_lt_sub_right h2 a), ?_⟩
  rw [Int.toNat_of_nonneg (Int.sub_nonneg_of_le h1), Int.add_comm, Int.sub_add_cancel]
theorem gY {rs : List (Int × Int)} {x : Int} : x ∈ aX rs ↔ ∃ p ∈ rs, p.1 ≤ x ∧ x ≤ p.2 := by
 unfold aX
 simp only [List.mem_flatMap, mem_rangeInts]
 constructor
 ·rintro ⟨p, hp, h1, h2⟩; exact ⟨p, hp, h1, Int.le_of_lt_add_one h2⟩
 ·rintro ⟨p, hp, h1, h2⟩; exact ⟨p, hp, h1, Int.lt_add_one_of_le h2⟩
noncomputable def upto (rs : List (Int × Int)) (k : Int) : List (Int × Int) := rs.flatMap λ p => if p.1 ≤ k then [(p.1, if k < p.2 then k else p.2)] else []
noncomputable def dH (rs : List (Int × Int)) (k : Int) : List (Int × Int) := rs.flatMap λ p => if k ≤ p.2 then [(if k > p.1 then k else p.1, p.2)] else []
theorem rM {α : Type} {P : Prop} [Decidable P] {x a : α} : x ∈ (if P then [a] else []) ↔ P ∧ x = a := by
 by_cases p : P
 ·rw [if_pos p, List.mem_singleton]; exact ⟨λ h => ⟨p, h⟩, λ h => h.2⟩
 ·rw [if_neg p]; exact ⟨λ h => (List.not_mem_nil h).elim, λ h => absurd h.1 p⟩
theorem uL {rs : List (Int × Int)} {k : Int} {p : Int × Int} : p ∈ upto rs k ↔ ∃ q ∈ rs, q.1 ≤ k ∧ p = (q.1, if k < q.2 then k else q.2) := by
 unfold upto
 simp only [List.mem_flatMap, rM]
theorem oO {rs : List (Int × Int)} {k : Int} {p : Int × Int} : p ∈ dH rs k ↔ ∃ q ∈ rs, k ≤ q.2 ∧ p = (if k > q.1 then k else q.1, q.2) := by
 unfold dH
 simp only [List.mem_flatMap, rM]
theorem Mb (k y : Int) : A3 ((if k < y then k else y) ≤ y) ((if k < y then k else y) ≤ k) (∀ x, x ≤ k → x ≤ y → x ≤ if k < y then k else y) := by
 by_cases h : k < y
 ·rw [if_pos h]; exact ⟨Int.le_of_lt h, Int.le_refl _, λ _ a _ => a⟩
 ·rw [if_neg h]; exact ⟨Int.le_refl _, Int.not_lt.mp h, λ _ _ a => a⟩
theorem Ma (k y : Int) : A3 (y ≤ if k > y then k else y) (k ≤ if k > y then k else y) (∀ x, k ≤ x → y ≤ x → (if k > y then k else y) ≤ x) := by
 by_cases h : k > y
 ·rw [if_pos h]; exact ⟨Int.le_of_lt h, Int.le_refl _, λ _ a _ => a⟩
 ·rw [if_neg h]; exact ⟨Int.le_refl _, Int.not_lt.mp h, λ _ _ a => a⟩
theorem qG {σ : St} {i : Nat} {l : List V} (h : getL σ i = some l) (h1 : l.length ≤ 100000) : g7 (.obj i) σ = some (.tup l, σ) := by show (getL σ i).bind _ = _; rw [h]; exact if_pos h1
theorem Ee {α : Type} {rs : List (Int × Int)} {f : Int × Int → List α} (h : ∀ p, (f p).length ≤ 1) : (rs.flatMap f).length ≤ rs.length := by
 induction rs with
 | nil => simp
 | cons p rs ih =>
  rw [List.flatMap_cons, List.length_append, List.length_cons]
  have := h p
  lia
theorem Hx (rs : List (Int × Int)) (k : Int) : (upto rs k).length ≤ rs.length := Ee λ p => by split <;> simp
theorem Fy (rs : List (Int × Int)) (k : Int) : (dH rs k).length ≤ rs.length := Ee λ p => by split <;> simp
theorem Hw (rs : List (Int × Int)) (k : Int) : rs.filterMap (λ p => if p.1 ≤ k then some (vR (p.1, if k < p.2 then k else p.2)) else none) = (upto rs k).map vR := by
 induction rs with
 | nil => rfl
 | cons p rs ih =>
  show _ = List.map vR ((if p.1 ≤ k then _ else _) ++ upto rs k)
  rw [List.filterMap_cons, ih]
  by_cases h : p.1 ≤ k
  ·rw [if_pos h, if_pos h]; rfl
  ·rw [if_neg h, if_neg h]; rfl
theorem Fx (rs : List (Int × Int)) (k : Int) : rs.filterMap (λ p => if k ≤ p.2 then some (vR (if k > p.1 then k else p.1, p.2)) else none) = (dH rs k).map vR := by
 induction rs with
 | nil => rfl
 | cons p rs ih =>
  show _ = List.map vR ((if k ≤ p.2 then _ else _) ++ dH rs k)
  rw [List.filterMap_cons, ih]
  by_cases h : k ≤ p.2
  ·rw [if_pos h, if_pos h]; rfl
  ·rw [if_neg h, if_neg h]; rfl
theorem I8 {rs : List (Int × Int)} {n m : Nat} (h : rs.length ≤ n) (h' : n ≤ m) : (rs.map vR).length ≤ m := by rw [List.length_map]; exact Nat.le_trans h h'
theorem EH {σ : St} {rs : List (Int × Int)} {k : Int} (hs : Small rs) : wp (yW [dv rs, .int k] σ) λ r σ' => r = dv (upto rs k) ∧ bW σ σ' := by
 refine evMap (ρ := [some (dv rs), some (.int k), none, none]) (σ := σ) (λ ρ => E2 λ u v => ρ = [some (dv rs), some (.int k), u, v]) rs vR _ ⟨none, none, rfl⟩ (Nat.le_trans hs.len (by decide)) .tup (λ σ' e E g => ⟨_, _, s9 (aN (aI e rfl) (qG g ?_)), (congrArg V.tup (Hw rs k)), E⟩) rfl (Nat.lt_of_le_of_lt hs.len (by decide)) ?_
 ·exact C2 _ (Nat.le_trans hs.len (by decide))
 ·rintro p _ σ' _ ⟨u, v, rfl⟩ _
  by_cases h : p.1 ≤ k
  ·exact .put rfl ⟨_, _, rfl⟩ (aP (aQ rfl rfl (congrArg (λ b => some (V.bool b, σ')) (decide_eq_true h)))) rfl (if_pos h) .refl
  ·exact .skip rfl ⟨_, _, rfl⟩ (aP (aQ rfl rfl (congrArg (λ b => some (V.bool b, σ')) (decide_eq_false h)))) (if_neg h) .refl
theorem C1 {σ : St} {rs : List (Int × Int)} {k : Int} (hs : Small rs) : wp (rT [dv rs, .int k] σ) λ r σ' => r = dv (dH rs k) ∧ bW σ σ' := by
 refine evMap (ρ := [some (dv rs), some (.int k), none, none]) (σ := σ) (λ ρ => E2 λ u v => ρ = [some (dv rs), some (.int k), u, v]) rs vR _ ⟨none, none, rfl⟩ (Nat.le_trans hs.len (by decide)) .tup (λ σ' e E g => ⟨_, _, s9 (aN (aI e rfl) (qG g ?_)), (congrArg V.tup (Fx rs k)), E⟩) rfl (Nat.lt_of_le_of_lt hs.len (by decide)) ?_
 ·exact C2 _ (Nat.le_trans hs.len (by decide))
 ·rintro p _ σ' _ ⟨u, v, rfl⟩ _
  by_cases h : k ≤ p.2
  ·exact .put rfl ⟨_, _, rfl⟩ (aP (aQ rfl rfl (congrArg (λ b => some (V.bool b, σ')) (decide_eq_true h)))) rfl (if_pos h) .refl
  ·exact .skip rfl ⟨_, _, rfl⟩ (aP (aQ rfl rfl (congrArg (λ b => some (V.bool b, σ')) (decide_eq_false h)))) (if_neg h) .refl
theorem Cr {σ : St} {rs : List (Int × Int)} {v : Int} (hs : Small rs) : wp (wM [dv rs, .int v] σ) λ r σ' => r = dv (upto rs (v - 1) ++ dH rs (v + 1)) ∧ bW σ σ' := by
 obtain ⟨_, aT, e1, rfl, E1⟩ := EH (σ := σ) (k := v - 1) hs
 obtain ⟨_, bH, e2, rfl, E2⟩ := C1 (σ := aT) (k := v + 1) hs
 refine ⟨_, _, s9 (aQ (aN rfl e1) (aN rfl e2) ?_), rfl, E1.then E2⟩
 unfold eR dv
 dsimp only
 rw [if_pos ?_, List.map_append]
 have h1 := Hx rs (v - 1)
 have h2 := Fy rs (v + 1)
 have h3 := hs.len
 rw [List.length_map, List.length_map]; lia
structure Good (rs : List (Int × Int)) : Prop where
 each : ∀ p ∈ rs, p.1 ≤ p.2 ∧ -50 ≤ p.1 ∧ p.2 ≤ 50
 order : rs.Pairwise λ p q => p.2 < q.1
theorem CA (a b : Int) : (rangeInts a b).Pairwise (· < ·) := by
 unfold rangeInts
 rw [List.pairwise_map]
 refine List.Pairwise.imp ?_ List.pairwise_lt_range
 intro i j h; lia
theorem Good.sorted {rs : List (Int × Int)} (g : Good rs) : (aX rs).Pairwise (· < ·) := by
 obtain ⟨ge, go⟩ := g
 induction rs with
 | nil => exact .nil
 | cons p rs ih =>
  rw [List.pairwise_cons] at go
  have ih := ih (λ q hq => ge q (.tail _ hq)) go.2
  show (rangeInts p.1 (p.2 + 1) ++ aX rs).Pairwise (· < ·)
  rw [List.pairwise_append]
  refine ⟨CA _ _, ih, λ x hx y hy => ?_⟩
  rw [mem_rangeInts] at hx
  obtain ⟨q, hq, h1, _⟩ := gY.mp hy
  have := go.1 q hq
  lia
theorem zC : ∀ {l m : List Int}, l.Pairwise (· < ·) → m.Pairwise (· < ·) → (∀ x, x ∈ l ↔ x ∈ m) → l = m
 | [], [], _, _, _ => rfl
 | [], b :: m, _, _, h => absurd ((h b).mpr (.head _)) (by simp)
 | a :: l, [], _, _, h => absurd ((h a).mp (.head _)) (by simp)
 | a :: l, b :: m, h1, h2, h => by
  rw [List.pairwise_cons] at h1 h2
  have e : a = b := by
   rcases List.mem_cons.mp ((h a).mp (.head _)) with x | x
   ·exact x
   ·rcases List.mem_cons.mp ((h b).mpr (.head _)) with y | y
    ·exact y.symm
    ·have := h1.1 b y
     have := h2.1 a x
     lia
  subst e
  congr 1
  refine zC h1.2 h2.2 λ x => ?_
  constructor
  ·intro hx
   rcases List.mem_cons.mp ((h x).mp (.tail _ hx)) with z | z
   ·have := h1.1 x hx; lia
   ·exact z
  ·intro hx
   rcases List.mem_cons.mp ((h x).mpr (.tail _ hx)) with z | z
   ·have := h2.1 x hx; lia
   ·exact z
theorem iX {rs : List (Int × Int)} {v x : Int} : x ∈ aX (upto rs (v - 1) ++ dH rs (v + 1)) ↔ x ∈ aX rs ∧ x ≠ v := by
 simp only [gY, List.mem_append]
 constructor
 ·rintro ⟨p, hp | hp, h1, h2⟩
  ·obtain ⟨q, hq, hk, rfl⟩ := uL.mp hp
   exact ⟨⟨q, hq, h1, Int.le_trans h2 (Mb _ _).h1⟩, Int.ne_of_lt (Int.lt_of_le_sub_one (Int.le_trans h2 (Mb _ _).h2))⟩
  ·obtain ⟨q, hq, hk, rfl⟩ := oO.mp hp
   exact ⟨⟨q, hq, Int.le_trans (Ma _ _).h1 h1, h2⟩, (Int.ne_of_lt (Int.lt_of_add_one_le (Int.le_trans (Ma _ _).h2 h1))).symm⟩
 ·rintro ⟨⟨q, hq, h1, h2⟩, hne⟩
  by_cases h : x ≤ v - 1
  ·exact ⟨_, .inl (uL.mpr ⟨q, hq, Int.le_trans h1 h, rfl⟩), h1, (Mb _ _).h3 _ h h2⟩
  ·have h' : v + 1 ≤ x := by lia
   exact ⟨_, .inr (oO.mpr ⟨q, hq, Int.le_trans h' h2, rfl⟩), (Ma _ _).h3 _ h' h1, h2⟩
theorem HO {α : Type} {R : α → α → Prop} {P : Prop} [Decidable P] {a : α} : (if P then [a] else []).Pairwise R := by
 by_cases p : P
 ·rw [if_pos p]; exact List.pairwise_singleton ..
 ·rw [if_neg p]; exact .nil
theorem Good.without {rs : List (Int × Int)} (g : Good rs) (v : Int) : Good (upto rs (v - 1) ++ dH rs (v + 1)) := by
 constructor
 ·intro p hp
  rcases List.mem_append.mp hp with hp | hp
  ·obtain ⟨q, hq, hk, rfl⟩ := uL.mp hp
   have e := g.each q hq
   exact ⟨(Mb _ _).h3 _ hk e.1, e.2.1, Int.le_trans (Mb _ _).h1 e.2.2⟩
  ·obtain ⟨q, hq, hk, rfl⟩ := oO.mp hp
   have e := g.each q hq
   exact ⟨(Ma _ _).h3 _ hk e.1, Int.le_trans e.2.1 (Ma _ _).h1, e.2.2⟩
 ·refine List.pairwise_append.mpr ⟨List.pairwise_flatMap.mpr ⟨λ _ _ => HO, g.order.imp λ h x hx y hy => ?_⟩, List.pairwise_flatMap.mpr ⟨λ _ _ => HO, g.order.imp λ h x hx y hy => ?_⟩, λ p hp q hq => ?_⟩
  ·obtain ⟨_, rfl⟩ := rM.mp hx
   obtain ⟨_, rfl⟩ := rM.mp hy
   exact Int.lt_of_le_of_lt (Mb _ _).h1 h
  ·obtain ⟨_, rfl⟩ := rM.mp hx
   obtain ⟨_, rfl⟩ := rM.mp hy
   exact Int.lt_of_lt_of_le h (Ma _ _).h1
  ·obtain ⟨_, _, _, rfl⟩ := uL.mp hp
   obtain ⟨_, _, _, rfl⟩ := oO.mp hq
   exact Int.lt_of_le_of_lt (Mb _ _).h2 (Int.lt_of_lt_of_le (Int.lt_trans (Int.sub_one_lt_of_le (Int.le_refl v)) (Int.lt_add_one_of_le (Int.le_refl v))) (Ma _ _).h2)
theorem Good.small {rs : List (Int × Int)} (g : Good rs) (h : (aX rs).length ≤ 20) : Small rs := by
 refine ⟨?_, λ p hp => ?_, λ p hp => ?_⟩
 ·refine Nat.le_trans ?_ h
  obtain ⟨ge, go⟩ := g
  clear h go
  induction rs with
  | nil => simp
  | cons p rs ih =>
   show rs.length + 1 ≤ (rangeInts p.1 (p.2 + 1) ++ aX rs).length
   rw [List.length_append]
   have h1 := ge p (.head _)
   have h2 := ih λ q hq => ge q (.tail _ hq)
   exact Nat.le_trans (Nat.le_of_eq (Nat.add_comm _ _)) (Nat.add_le_add (List.length_pos_of_mem (mem_rangeInts.mpr ⟨Int.le_refl p.1, Int.lt_add_one_of_le h1.1⟩)) h2)
 ·have e := g.each p hp; exact ⟨Int.le_trans (by decide) e.2.1, Int.le_trans e.1 (Int.le_trans e.2.2 (by decide))⟩
 ·have e := g.each p hp; exact ⟨Int.le_trans (by decide) (Int.le_trans e.2.1 e.1), Int.le_trans e.2.2 (by decide)⟩
theorem Hf {σ : St} {j : Nat} {l : List V} {a b : Int} (h : getL σ j = some l) (h1 : l.length ≤ 100000) (ha : -1000 ≤ a ∧ a ≤ 1000) (hb : -1000 ≤ b ∧ b ≤ 1000) (h2 : b - a ≤ 1000) :
  uY [.obj j, .range a b] σ = some (.none, σ.set j (.list (l ++ (rangeInts a b).map .int))) := by
 show (getL σ j).bind _ = _
 rw [h, Option.bind_some]
 show (none <|> _) = _
 exact if_pos ⟨h1, Int.toNat_le.mpr h2, small_one (Int.le_trans (by decide) ha.1) (Int.lt_of_le_of_lt ha.2 (by decide)) (Int.le_trans (by decide) hb.1) (Int.lt_of_le_of_lt hb.2 (by decide))⟩
inductive Pl (rs : List (Int × Int)) (σ : St) (k : Nat) (ρ : Loc) (σ' : St) : Prop
 | intro (e : E2 λ x y => ρ = [some (dv rs), some (.obj σ.length), x, y]) (E : bW σ σ') (g : getL σ' σ.length = some ((aX (rs.take k)).map .int))
theorem wO {σ : St} {rs : List (Int × Int)} (hs : Small rs) (hlen : (aX rs).length ≤ 1000) : wp (rB [dv rs] σ) λ r σ' => ∃ j, A4 (r = .obj j) (σ.length ≤ j) (getL σ' j = some ((aX rs).map .int)) (bW σ σ') := by
 refine wp_runF rfl (fY (mY rfl (Nat.zero_le _)) rfl (nR rs vR (Pl rs σ) rfl ⟨⟨_, _, rfl⟩, .push _, cH⟩ (Nat.lt_of_le_of_lt hs.len (by decide)) (λ k ρ σ' _ _ => rfl) ?_ ?_))
 ·rintro k p ρ σ' hp ⟨⟨u, v, rfl⟩, E, hl⟩
  have hpm := List.mem_of_getElem? hp
  have hlo := hs.lo p hpm
  have hhi := hs.hi p hpm
  have hvt : aX (rs.take (k + 1)) = aX (rs.take k) ++ rangeInts p.1 (p.2 + 1) := by
   obtain ⟨hlt, e⟩ := List.getElem?_eq_some_iff.mp hp
   rw [List.take_succ_eq_append_getElem hlt, e]; unfold aX; rw [List.flatMap_append, List.flatMap_singleton]
  have hle : (aX (rs.take k)).length ≤ 1000 := by
   have : aX rs = aX (rs.take k) ++ aX (rs.drop k) := by
    unfold aX; rw [← List.flatMap_append, List.take_append_drop]
   rw [this, List.length_append] at hlen
   exact Nat.le_trans (Nat.le_add_right _ _) hlen
  have e := Hf (a := p.1) (b := p.2 + 1) hl (by rw [List.length_map]; exact Nat.le_trans hle (by decide)) ⟨Int.le_trans (by decide) hlo.1, Int.le_trans hlo.2 (by decide)⟩ ⟨Int.le_trans (by decide : (-1000 : Int) ≤ -100 + 1) (Int.add_le_add_right hhi.1 1), Int.le_trans (Int.add_le_add_right hhi.2 1) (by decide)⟩ (Int.le_trans (Int.sub_le_sub (Int.add_le_add_right hhi.2 1) hlo.1) (by decide))
  exact ⟨rfl, λ Q' hn _ => jO (fM rfl (d9 hl) rfl e) rfl (dJ (hn _ _ ⟨⟨_, _, rfl⟩, E.trans (M' := λ i => i = σ.length) (.set _ rfl) (λ i h => .inr (h ▸ Nat.le_refl _)), by rw [c8 (bE hl), hvt, List.map_append]⟩))⟩
 ·rintro ρ σ' ⟨⟨u, v, rfl⟩, E, hl⟩
  rw [List.take_length] at hl
  exact lW rfl ⟨_, rfl, Nat.le_refl _, hl, E⟩
structure kN (b : Int) (rs : List (Int × Int)) (m : Nat) : Prop where
 good : Good rs
 mem : ∀ x, x ∈ aX rs ↔ ∃ k, k < 5 ∧ m.testBit k = true ∧ x = b + (k : Nat)
noncomputable def vm (b : Int) (m : Nat) : List Int := ((List.range 5).filter λ k => m.testBit k).map λ k => b + (k : Nat)
theorem BE (b : Int) (m : Nat) : (vm b m).Pairwise (· < ·) := by
 unfold vm
 rw [List.pairwise_map]
 refine List.Pairwise.imp ?_ (List.Pairwise.filter _ List.pairwise_lt_range)
 intro i j h; lia
theorem fE {b x : Int} {m : Nat} : x ∈ vm b m ↔ ∃ k, k < 5 ∧ m.testBit k = true ∧ x = b + (k : Nat) := by
 unfold vm
 simp only [List.mem_map, List.mem_filter, List.mem_range]
 constructor
 ·rintro ⟨k, ⟨h1, h2⟩, rfl⟩; exact ⟨k, h1, h2, rfl⟩
 ·rintro ⟨k, h1, h2, rfl⟩; exact ⟨k, ⟨h1, h2⟩, rfl⟩
theorem kN.vals {b : Int} {rs : List (Int × Int)} {m : Nat} (h : kN b rs m) : aX rs = vm b m := zC h.good.sorted (BE b m) λ x => by rw [h.mem, fE]
theorem Cs (b : Int) (m : Nat) : (vm b m).length ≤ 5 := by
 unfold vm
 rw [List.length_map]
 exact Nat.le_trans (List.length_filter_le _ _) (by simp)
theorem kN.small {b : Int} {rs : List (Int × Int)} {m : Nat} (h : kN b rs m) : Small rs := h.good.small (by rw [h.vals]; have := Cs b m; lia)
noncomputable def dE (m k : Nat) : Nat := m &&& (31 - 2 ^ k)
theorem iI : ∀ m k j : Nat, k < 5 → j < 5 → (dE m k).testBit j = (m.testBit j && decide (j ≠ k)) := by
 intro m k j hk hj
 unfold dE
 rw [Nat.testBit_and]
 congr 1
 have : ∀ k < 5, ∀ j < 5, (31 - 2 ^ k).testBit j = decide (j ≠ k) := by decide
 exact this k hk j hj
theorem kN.without {b : Int} {rs : List (Int × Int)} {m k : Nat} (h : kN b rs m) (hk : k < 5) : kN b (upto rs (b + k - 1) ++ dH rs (b + k + 1)) (dE m k) := by
 refine ⟨h.good.without _, λ x => ?_⟩
 rw [iX, h.mem]
 constructor
 ·rintro ⟨⟨j, h1, h2, rfl⟩, hne⟩
  exact ⟨j, h1, by rw [iI m k j hk h1, h2]; simp; lia, rfl⟩
 ·rintro ⟨j, h1, h2, rfl⟩
  rw [iI m k j hk h1] at h2
  simp at h2
  exact ⟨⟨j, h1, h2.1, rfl⟩, by lia⟩
theorem J6 (k : Nat) (p : Int × Int) : okV (k + 2) (vR p) = true := by
 show (okV (k + 1) (.int p.1) && (okV (k + 1) (.int p.2) && true)) = true
 rw [yM, yM]; rfl
theorem Fb (k : Nat) (rs : List (Int × Int)) : okV (k + 3) (dv rs) = true := by
 show (rs.map vR).all (okV (k + 2)) = true
 rw [List.all_map, List.all_eq_true]
 intro p _
 exact J6 _ _
theorem I2 : ∀ a b : List (Int × Int), AW (dv a) (dv b) = decide (a = b) := by
 intro a b
 show yC (a.map vR) (b.map vR) = _
 induction a generalizing b with
 | nil => cases b <;> rfl
 | cons p a ih =>
  cases b with
  | nil => rfl
  | cons q b =>
   obtain ⟨p1, p2⟩ := p
   obtain ⟨q1, q2⟩ := q
   show (((p1 == q1) && ((p2 == q2) && true)) && yC (a.map vR) (b.map vR)) = _
   rw [ih, Bool.eq_iff_iff]
   simp
theorem NW {σ : St} {a b : List (Int × Int)} : oEq (dv a) (dv b) σ = some (.bool (decide (a = b)), σ) := by
 have h1 := Fb 3 a
 have h2 := Fb 3 b
 have h3 := I2 a b
 unfold oEq
 rw [show Ll (dv a) (dv b) σ = some (AW (dv a) (dv b)) from I3 h1 h2, h3]; rfl
theorem cU {α : Type} [DecidableEq α] : ∀ {l m : List α}, l.Nodup → (∀ x ∈ l, x ∈ m) → l.length ≤ m.length
 | [], _, _, _ => Nat.zero_le _
 | a :: l, m, h, hs => by
  rw [List.nodup_cons] at h
  have ha : a ∈ m := hs a (.head _)
  have := cU (l := l) (m := m.erase a) h.2 λ x hx => (List.mem_erase_of_ne (by rintro rfl; exact h.1 hx)).mpr (hs x (.tail _ hx))
  have h2 := List.length_erase_of_mem ha
  have h3 := List.length_pos_of_mem ha
  simp only [List.length_cons]
  lia
noncomputable def mP (l : List (Int × V)) : Prop := (∀ p ∈ l, -100 ≤ p.1 ∧ p.1 < 100) ∧ (l.map (·.1)).Nodup
theorem mP.len {l : List (Int × V)} (h : mP l) : l.length ≤ 200 := by
 have := cU (m := (List.range 200).map λ i => ((i : Nat) : Int) - 100) h.2 λ x hx => by
  obtain ⟨p, hp, rfl⟩ := List.mem_map.mp hx
  have := h.1 p hp
  exact List.mem_map.mpr ⟨(p.1 + 100).toNat, by simp; lia, by lia⟩
 simpa using this
theorem mP.set {l : List (Int × V)} (h : mP l) {x : Int} (v : V) (h0 : -100 ≤ x) (h1 : x < 100) : mP (fF l x v) := by
 unfold fF
 split
 ·refine ⟨λ p hp => ?_, ?_⟩
  ·obtain ⟨q, hq, rfl⟩ := List.mem_map.mp hp
   split <;> exact h.1 q hq
  ·rw [List.map_map]
   have : ((λ x : Int × V => x.1) ∘ λ p => if p.1 = x then (p.1, v) else p) = λ p => p.1 := funext λ p => by
    simp only [Function.comp]; split <;> rfl
   rw [this]; exact h.2
 ·rename_i hany
  refine ⟨λ p hp => ?_, ?_⟩
  ·rcases List.mem_append.mp hp with hp | hp
   ·exact h.1 p hp
   ·simp only [List.mem_singleton] at hp; subst hp; exact ⟨h0, h1⟩
  ·rw [List.map_append, List.nodup_append]
   refine ⟨h.2, by simp, λ a ha b hb => ?_⟩
   simp at hb; subst hb
   rintro rfl
   obtain ⟨q, hq, e⟩ := List.mem_map.mp ha
   exact hany (List.any_eq_true.mpr ⟨q, hq, by simpa using e⟩)
noncomputable def sd (a f t mk nw : Nat) (failed : Bool) (clash : List V) : List (Nat × V) := [(19, .obj a), (18, .obj f), (17, .obj t), (16, .obj mk), (15, .obj nw), (14, .int (-1)), (13, .bool failed), (12, .tup clash)]
structure SV (σ : St) (i a f t mk nw : Nat) (doms firsts : List (List (Int × Int))) (trail marks : List V) (failed : Bool) (clash : List V) : Prop where
 hs : bV σ i = some (sd a f t mk nw failed clash)
 hd : getL σ a = some (doms.map dv)
 hf : getL σ f = some (firsts.map dv)
 ht : getL σ t = some trail
 hm : getL σ mk = some marks
 hn : ∃ l, eJ σ nw = some l ∧ mP l
 ne : [i, a, f, t, mk, nw].Nodup
section
variable {σ σ' : St} {i a f t mk nw : Nat} {doms firsts : List (List (Int × Int))} {trail marks : List V} {failed : Bool} {clash : List V} {M : Nat → Prop}
theorem SV.ext (s : SV σ i a f t mk nw doms firsts trail marks failed clash) (e : Ext M σ σ') (h : ∀ j ∈ [i, a, f, t, mk, nw], ¬ M j) : SV σ' i a f t mk nw doms firsts trail marks failed clash := by
 simp only [List.mem_cons, List.not_mem_nil, or_false, forall_eq_or_imp, forall_eq] at h
 obtain ⟨h1, h2, h3, h4, h5, h6⟩ := h
 obtain ⟨l, hl, hn⟩ := s.hn
 exact ⟨e.bV s.hs h1, e.getL s.hd h2, e.getL s.hf h3, e.getL s.ht h4, e.getL s.hm h5, ⟨l, e.eJ hl h6, hn⟩, s.ne⟩
theorem SV.d5 (s : SV σ i a f t mk nw doms firsts trail marks failed clash) (e : bW σ σ') : SV σ' i a f t mk nw doms firsts trail marks failed clash := s.ext e λ _ _ h => h
theorem SV.attr {Q : V → St → Prop} (s : SV σ i a f t mk nw doms firsts trail marks failed clash) {k : Nat} {v : V} (h : fT (sd a f t mk nw failed clash) k = some v) : wp (wX 0 k (.inst 0 i) σ) Q ↔ Q v σ := by
 rw [bC s.hs h, wp_some]
theorem SV.inst (s : SV σ i a f t mk nw doms firsts trail marks failed clash) {k : Nat} (h : fT (sd a f t mk nw failed clash) k = none) : tP 0 k (.inst 0 i) σ = some (.inst 0 i, σ) := gC s.hs h
structure Jz (i a f t m n : Nat) : Prop where
 ia : i ≠ a
 jf : i ≠ f
 it : i ≠ t
 im : i ≠ m
 jn : i ≠ n
 af : a ≠ f
 ta : t ≠ a
 am : a ≠ m
 an : a ≠ n
 ft : f ≠ t
 fm : f ≠ m
 fn : f ≠ n
 tm : t ≠ m
 tn : t ≠ n
 mn : m ≠ n
theorem SV.nq (s : SV σ i a f t mk nw doms firsts trail marks failed clash) : Jz i a f t mk nw := by
 have hne := s.ne
 simp only [List.nodup_cons, List.mem_cons, List.not_mem_nil, or_false, not_or] at hne
 obtain ⟨⟨h1, h2, h3, h4, h5⟩, ⟨h6, h7, h8, h9⟩, ⟨h10, h11, h12⟩, ⟨h13, h14⟩, h15, _⟩ := hne
 exact ⟨h1, h2, h3, h4, h5, h6, Ne.symm h7, h8, h9, h10, h11, h12, h13, h14, h15⟩
theorem SV.JQ (s : SV σ i a f t mk nw doms firsts trail marks failed clash) (b : Bool) (c : List V) : SV (σ.set i (.aW (sd a f t mk nw b c))) i a f t mk nw doms firsts trail marks b c :=
 let n := s.nq
 let ⟨l, hl, ok⟩ := s.hn
 ⟨kG (fL s.hs), (bS n.ia.symm).trans s.hd, (bS n.jf.symm).trans s.hf, (bS n.it.symm).trans s.ht, (bS n.im.symm).trans s.hm, ⟨l, (lG n.jn.symm).trans hl, ok⟩, s.ne⟩
theorem SV.LC {d : List (List (Int × Int))} {l : List V} (s : SV σ i a f t mk nw doms firsts trail marks failed clash) (e : l = d.map dv) : SV (σ.set a (.list l)) i a f t mk nw d firsts trail marks failed clash :=
 let n := s.nq
 let ⟨l, hl, ok⟩ := s.hn
 e ▸ ⟨(oU n.ia).trans s.hs, c8 (bE s.hd), (bS n.af.symm).trans s.hf, (bS n.ta).trans s.ht, (bS n.am.symm).trans s.hm, ⟨l, (lG n.an.symm).trans hl, ok⟩, s.ne⟩
theorem SV.Oy {d : List (List (Int × Int))} {l : List V} (s : SV σ i a f t mk nw doms firsts trail marks failed clash) (e : l = d.map dv) : SV (σ.set f (.list l)) i a f t mk nw doms d trail marks failed clash :=
 let n := s.nq
 let ⟨l, hl, ok⟩ := s.hn
 e ▸ ⟨(oU n.jf).trans s.hs, (bS n.af).trans s.hd, c8 (bE s.hf), (bS n.ft.symm).trans s.ht, (bS n.fm.symm).trans s.hm, ⟨l, (lG n.fn.symm).trans hl, ok⟩, s.ne⟩
theorem SV.M1 (s : SV σ i a f t mk nw doms firsts trail marks failed clash) (l : List V) : SV (σ.set t (.list l)) i a f t mk nw doms firsts l marks failed clash :=
 let n := s.nq
 let ⟨l, hl, ok⟩ := s.hn
 ⟨(oU n.it).trans s.hs, (bS n.ta.symm).trans s.hd, (bS n.ft).trans s.hf, c8 (bE s.ht), (bS n.tm.symm).trans s.hm, ⟨l, (lG n.tn.symm).trans hl, ok⟩, s.ne⟩
theorem SV.setM (s : SV σ i a f t mk nw doms firsts trail marks failed clash) (l : List V) : SV (σ.set mk (.list l)) i a f t mk nw doms firsts trail l failed clash :=
 let n := s.nq
 let ⟨l, hl, ok⟩ := s.hn
 ⟨(oU n.im).trans s.hs, (bS n.am).trans s.hd, (bS n.fm).trans s.hf, (bS n.tm).trans s.ht, c8 (bE s.hm), ⟨l, (lG n.mn.symm).trans hl, ok⟩, s.ne⟩
theorem SV.Ox {l l' : List (Int × V)} (s : SV σ i a f t mk nw doms firsts trail marks failed clash) (h : eJ σ nw = some l') (ok : mP l) : SV (σ.set nw (.bX l)) i a f t mk nw doms firsts trail marks failed clash :=
 let n := s.nq
 ⟨(oU n.jn).trans s.hs, (bS n.an).trans s.hd, (bS n.fn).trans s.hf, (bS n.tn).trans s.ht, (bS n.mn).trans s.hm, ⟨l, mB (iQ h), ok⟩, s.ne⟩
theorem IK {α : Type} {g : α → V} {j : Nat} {l : List α} (h : getL σ j = some (l.map g)) (h1 : l.length ≤ 1000) : gR (.obj j) σ = some (.int l.length, σ) := by
 rw [jW h (by rw [List.length_map]; exact Nat.le_trans h1 (by decide)), List.length_map]
theorem JP (s : SV σ i a f t mk nw doms firsts trail marks failed clash) (h : doms.length ≤ 1000) : o7 [.inst 0 i] σ = some (.int doms.length, σ) :=
 s9 (aN (aI (bQ rfl (bC s.hs rfl)) rfl) (IK s.hd h))
theorem z9 {l : List (List (Int × Int))} {j x : Nat} (g : getL σ j = some (l.map dv)) (hx : x < l.length) (h : l.length ≤ 1000) : i6 (.obj j) (.int x) σ = some (dv l[x], σ) := by
 rw [l7 g, iK (by rw [List.length_map]; exact hx) (Nat.lt_of_lt_of_le hx (Nat.le_trans h (by decide))), List.getElem_map]; rfl
theorem Ei (s : SV σ i a f t mk nw doms firsts trail marks failed clash) {x : Nat} (hx : x < doms.length) (h : doms.length ≤ 1000) : wp (kM [.inst 0 i, .int x] σ) λ r σ' => r = dv doms[x] ∧ σ' = σ :=
 ⟨_, _, s9 (bO (bQ rfl (bC s.hs rfl)) rfl (z9 s.hd hx h)), rfl, rfl⟩
theorem CW (s : SV σ i a f t mk nw doms firsts trail marks failed clash) {x : Nat} (hx : x < firsts.length) (h : firsts.length ≤ 1000) : wp (kX [.inst 0 i, .int x] σ) λ r σ' => r = dv firsts[x] ∧ σ' = σ :=
 ⟨_, _, s9 (bO (bQ rfl (bC s.hs rfl)) rfl (z9 s.hf hx h)), rfl, rfl⟩
theorem B6 (s : SV σ i a f t mk nw doms firsts trail marks failed clash) (rs : List V) : wp (iD [.inst 0 i, .tup rs] σ) λ r σ' => A3 (r = .bool false) (SV σ' i a f t mk nw doms firsts trail marks true rs) (Ext (λ j => j = i) σ σ') :=
 have s1 := s.JQ true clash
 wp_runF rfl (fY rfl (Jr rfl (j7 s.hs (Nat.le_of_ble_eq_true rfl))) (fY (aN rfl rfl) (Jr rfl (j7 s1.hs (Nat.le_of_ble_eq_true rfl))) (lW rfl ⟨rfl, s1.JQ true rs, .then (.set _ rfl) (.set _ rfl)⟩)))
theorem Dm {rs : List (Int × Int)} {x v : Int} (hs : Small rs) : wp (AV [.tup [.int x, .str 51, .int v], dv rs] σ) λ r σ' => r = dv (upto rs (v - 1) ++ dH rs (v + 1)) ∧ bW σ σ' :=
 let ⟨_, _, e, h, E⟩ := Cr hs
 wp_runF rfl (fY rfl rfl (c6 rfl (c6 rfl (lW (Mp rfl (aN rfl e)) ⟨h, E⟩))))
end
section
variable {σ σ' : St} {i a f t mk nw : Nat} {doms firsts : List (List (Int × Int))} {trail marks : List V} {failed : Bool} {clash : List V} {M : Nat → Prop}
theorem SV.neq (s : SV σ i a f t mk nw doms firsts trail marks failed clash) : (i ≠ a ∧ i ≠ f ∧ i ≠ t ∧ i ≠ mk ∧ i ≠ nw) ∧ (a ≠ f ∧ a ≠ t ∧ a ≠ mk ∧ a ≠ nw) ∧ (f ≠ t ∧ f ≠ mk ∧ f ≠ nw) ∧ (t ≠ mk ∧ t ≠ nw) ∧ mk ≠ nw :=
 let n := s.nq
 ⟨⟨n.ia, n.jf, n.it, n.im, n.jn⟩, ⟨n.af, n.ta.symm, n.am, n.an⟩, ⟨n.ft, n.fm, n.fn⟩, ⟨n.tm, n.tn⟩, n.mn⟩
theorem eqF {a b : List (Int × Int)} (h : a ≠ b) : oEq (dv a) (dv b) σ = some (.bool false, σ) := by rw [NW, decide_eq_false h]
theorem Dq {α : Type} {g : α → V} {l : List α} {x : α} : l.map g ++ [g x] = (l ++ [x]).map g := by rw [List.map_append]; rfl
theorem Gd {α : Type} {g : α → V} {l : List α} {n m : Nat} (h : l.length ≤ n) (h' : n ≤ m) : (l.map g).length ≤ m := by rw [List.length_map]; exact Nat.le_trans h h'
theorem CO (s : SV σ i a f t mk nw doms firsts trail marks failed clash) {rs : List (Int × Int)} (h0 : rs ≠ []) (h1 : doms.length ≤ 100) (h2 : firsts.length ≤ 100) :
  wp (fB [.inst 0 i, dv rs] σ) λ r σ' => A3 (∃ x, r = .int x) (SV σ' i a f t mk nw (doms ++ [rs]) (firsts ++ [rs]) trail marks failed clash) (Ext (λ j => j = a ∨ j = f) σ σ') :=
 have s1 := s.LC (d := doms ++ [rs]) Dq
 have s2 := s1.Oy (d := firsts ++ [rs]) Dq
 have hl : (doms ++ [rs]).length ≤ 1000 := by rw [List.length_append]; exact Nat.le_trans (Nat.add_le_add_right h1 1) (by decide)
 wp_runF rfl (jO (fM (bQ rfl (bC s.hs rfl)) (d9 s.hd) rfl (fR s.hd (Gd h1 (by decide)))) rfl
  (jO (fM (bQ rfl (bC s1.hs rfl)) (d9 s1.hf) rfl (fR s1.hf (Gd h2 (by decide)))) rfl
  (c6 (aP (aQ rfl rfl (eqF (b := []) h0))) (lW (aQ (aN (aI (bQ rfl (bC s2.hs rfl)) rfl) (IK s2.hd hl)) rfl rfl) ⟨⟨_, rfl⟩, s2, .then (.set _ (.inl rfl)) (.set _ (.inr rfl))⟩))))
theorem I9 {K : Type} [DecidableEq K] (l : List (K × V)) (k : K) (v : V) : (fF l k v).length ≤ l.length + 1 := by
 unfold fF; split <;> simp
theorem Az (s : SV σ i a f t mk nw doms firsts trail marks failed clash) {x : Nat} {rs : List (Int × Int)} {v sp : Int} {rF : V} (hx : doms[x]? = some rs) (hs : Small rs) (h1 : doms.length ≤ 100) (h2 : trail.length ≤ 1000)
  (hk : upto rs (v - 1) ++ dH rs (v + 1) ≠ []) (hd : upto rs (v - 1) ++ dH rs (v + 1) ≠ rs) :
  wp (j8 [.inst 0 i, .tup [.int x, .str 51, .int v], rF, .int sp] σ) λ r σ' => A3 (r = .bool true) (SV σ' i a f t mk nw (doms.set x (upto rs (v - 1) ++ dH rs (v + 1))) firsts (trail ++ [.tup [.int x, dv rs, .tup [.int x, .str 51, .int v], rF, .int sp]]) marks failed clash) (Ext (λ j => j = a ∨ j = t ∨ j = nw) σ σ') := by
 obtain ⟨hlt, rfl⟩ := List.getElem?_eq_some_iff.mp hx
 obtain ⟨_, aT, e1, rfl, E1⟩ := Dm (σ := σ) (x := x) hs
 have s1 := s.d5 E1
 have s2 := s1.M1 (trail ++ [.tup [.int x, dv doms[x], .tup [.int x, .str 51, .int v], rF, .int sp]])
 have s3 := s2.LC (d := doms.set x (upto doms[x] (v - 1) ++ dH doms[x] (v + 1))) List.map_set.symm
 obtain ⟨nl, hn, ok⟩ := s3.hn
 have hx1 := Nat.lt_of_lt_of_le hlt h1
 have hx2 : (x : Int) < 100 := Int.ofNat_lt.mpr hx1
 have e3 : mL (.obj a) (.int x) (dv (upto doms[x] (v - 1) ++ dH doms[x] (v + 1))) _ = some _ := vO s2.hd (Int.natCast_nonneg x) (Int.lt_trans hx2 (by decide)) (by rw [List.length_map]; exact hlt)
 refine wp_runF rfl (fY rfl rfl (fY (bO (bQ rfl (bC s.hs rfl)) rfl (z9 s.hd hlt (Nat.le_trans h1 (by decide)))) rfl (fY (aN rfl e1) rfl (c6 (aP (aQ rfl rfl (eqF (b := []) hk))) (c6 (aP (aQ rfl rfl (eqF hd)))
  (jO (fM (bQ rfl (bC s1.hs rfl)) (d9 s1.ht) rfl (fR s1.ht (Nat.le_trans h2 (by decide)))) rfl (fY rfl (Gw (bQ rfl (bC s2.hs rfl)) rfl e3)
  (fY rfl (Gw (bQ rfl (bC s3.hs rfl)) rfl (vP hn (Nat.le_trans ok.len (by decide)))) (lW rfl ⟨rfl, s3.Ox hn (ok.set (.bool true) (Int.le_trans (by decide) (Int.natCast_nonneg x)) hx2), E1.of0.then (.then (.set _ (.inr (.inl rfl))) (.then (.set _ (.inl rfl)) (.set _ (.inr (.inr rfl)))))⟩)))))))))
theorem Dn (s : SV σ i a f t mk nw doms firsts trail marks failed clash) {x : Nat} {rs : List (Int × Int)} {v : Int} {rF : List V} (hx : doms[x]? = some rs) (hs : Small rs) (h1 : doms.length ≤ 100) (h2 : trail.length ≤ 1000)
  (hk : upto rs (v - 1) ++ dH rs (v + 1) ≠ []) (hd : upto rs (v - 1) ++ dH rs (v + 1) ≠ rs) :
  wp (hV [.inst 0 i, .tup [.int x, .str 51, .int v], .tup rF] σ) λ r σ' => A3 (r = .bool true) (SV σ' i a f t mk nw (doms.set x (upto rs (v - 1) ++ dH rs (v + 1))) firsts (trail ++ [.tup [.int x, dv rs, .tup [.int x, .str 51, .int v], .tup rF, .int (-1)]]) marks failed clash) (Ext (λ j => j = a ∨ j = t ∨ j = nw) σ σ') :=
 let ⟨_, _, e, h⟩ := Az s hx hs h1 h2 hk hd
 ⟨_, _, s9 (dC rfl (s.inst rfl) (aI rfl (aI (aN rfl rfl) (aI (bQ rfl (bC s.hs rfl)) rfl))) e), h⟩
theorem Ej (s : SV σ i a f t mk nw doms firsts trail marks failed clash) {x : Nat} {rs : List (Int × Int)} {v : Int} (hx : doms[x]? = some rs) (hs : Small rs) (h1 : doms.length ≤ 100) (h2 : trail.length ≤ 1000)
  (hk : upto rs (v - 1) ++ dH rs (v + 1) ≠ []) (hd : upto rs (v - 1) ++ dH rs (v + 1) ≠ rs) :
  wp (jJ [.inst 0 i, .tup [.int x, .str 51, .int v]] σ) λ r σ' => A3 (r = .bool true) (SV σ' i a f t mk nw (doms.set x (upto rs (v - 1) ++ dH rs (v + 1))) firsts (trail ++ [.tup [.int x, dv rs, .tup [.int x, .str 51, .int v], .none, .int (-1)]]) marks failed clash) (Ext (λ j => j = a ∨ j = t ∨ j = nw) σ σ') :=
 let ⟨_, _, e, h⟩ := Az s hx hs h1 h2 hk hd
 ⟨_, _, s9 (dC rfl (s.inst rfl) rfl e), h⟩
theorem GX (s : SV σ i a f t mk nw doms firsts trail marks failed clash) (h1 : trail.length ≤ 1000) (h2 : marks.length ≤ 1000) :
  wp (lK [.inst 0 i] σ) λ r σ' => A3 (r = .none) (SV σ' i a f t mk nw doms firsts trail (marks ++ [.int trail.length]) failed clash) (Ext (λ j => j = mk) σ σ') :=
 wp_runF rfl (jO (fM (bQ rfl (bC s.hs rfl)) (d9 s.hm) (aI (aN (aI (bQ rfl (bC s.hs rfl)) rfl) (jW s.ht (Nat.le_trans h1 (by decide)))) rfl) (fR s.hm (Nat.le_trans h2 (by decide)))) rfl
  (dJ ⟨rfl, s.setM _, .set _ rfl⟩))
end
inductive Tr (D0 : List (List (Int × Int))) : List V → List (List (Int × Int)) → Prop
 | nil : Tr D0 [] D0
 | snoc {es : List V} {D : List (List (Int × Int))} {x : Nat} {old new : List (Int × Int)} {lit rs sp : V} : Tr D0 es D → D[x]? = some old → Tr D0 (es ++ [.tup [.int x, dv old, lit, rs, sp]]) (D.set x new)
theorem Tr.length {D0 D : List (List (Int × Int))} {es : List V} (h : Tr D0 es D) : D.length = D0.length := by
 induction h with
 | nil => rfl
 | snoc _ _ ih => simpa using ih
theorem Tr.nil_eq {D0 D : List (List (Int × Int))} (h : Tr D0 [] D) : D = D0 := by
 generalize e : ([] : List V) = es at h
 cases h with
 | nil => rfl
 | snoc _ _ => simp at e
theorem Tr.append {D0 D1 D2 : List (List (Int × Int))} {es fs : List V} (h : Tr D0 es D1) (g : Tr D1 fs D2) : Tr D0 (es ++ fs) D2 := by
 induction g with
 | nil => simpa using h
 | snoc _ e ih => rw [← List.append_assoc]; exact .snoc ih e
theorem Tr.last {D0 D : List (List (Int × Int))} {es : List V} (h : Tr D0 es D) (hne : es ≠ []) : ∃ es' D' x old lit rs sp, es = es' ++ [.tup [.int (x : Nat), dv old, lit, rs, sp]] ∧ x < D'.length ∧ D.set x old = D' ∧ Tr D0 es' D' := by
 cases h with
 | nil => exact absurd rfl hne
 | snoc h' e =>
  rename_i es' D' x old new lit rs sp
  obtain ⟨hlt, he⟩ := List.getElem?_eq_some_iff.mp e
  refine ⟨es', D', x, old, lit, rs, sp, rfl, hlt, ?_, h'⟩
  rw [List.set_set]
  apply List.ext_getElem?
  intro j
  by_cases hj : j = x
  ·subst hj; simp [hlt, he]
  ·rw [List.getElem?_set_ne (Ne.symm hj)]
section
variable {σ σ' : St} {i a f t mk nw : Nat} {doms firsts : List (List (Int × Int))} {trail marks : List V} {failed : Bool} {clash : List V} {M : Nat → Prop}
theorem G7 {j : Nat} (h : getL σ j = some (firsts.map dv)) (h0 : ∀ r ∈ firsts, r ≠ []) : oIn (.tup []) (.obj j) σ = some (.bool false, σ) := by
 have h1 : (firsts.map dv).all (okV 6) = true := by
  simp only [List.all_map, List.all_eq_true]
  intro r _
  exact Fb 3 r
 have h2 : (firsts.map dv).any (λ y => AW y (.tup [])) = false := by
  rw [List.any_eq_false]
  intro y hy
  obtain ⟨r, hr, rfl⟩ := List.mem_map.mp hy
  have := I2 r []
  show ¬ (AW (dv r) (.tup []) = true)
  rw [show (V.tup [] : V) = dv [] from rfl, this]
  simp [h0 r hr]
 unfold oIn
 rw [K9 h, h1, h2]; rfl
theorem SV.lt {σ : St} {i a f t mk nw : Nat} {doms firsts : List (List (Int × Int))} {trail marks : List V} {failed : Bool} {clash : List V} (s : SV σ i a f t mk nw doms firsts trail marks failed clash) : ∀ z ∈ [i, a, f, t, mk, nw], z < σ.length := by
 obtain ⟨nl, hnl, _⟩ := s.hn
 intro z hz
 simp only [List.mem_cons, List.not_mem_nil, or_false] at hz
 rcases hz with rfl | rfl | rfl | rfl | rfl | rfl
 ·exact fL s.hs
 ·exact bE s.hd
 ·exact bE s.hf
 ·exact bE s.ht
 ·exact bE s.hm
 ·exact iQ hnl
theorem Jz.nodup {m n : Nat} (h : Jz i a f t m n) : [i, a, f, t, m, n].Nodup := by
 obtain ⟨h1, h2, h3, h4, h5, h6, h7, h8, h9, h10, h11, h12, h13, h14, h15⟩ := h
 simp only [List.nodup_cons, List.mem_cons, List.not_mem_nil, or_false, not_or]
 exact ⟨⟨h1, h2, h3, h4, h5⟩, ⟨h6, Ne.symm h7, h8, h9⟩, ⟨h10, h11, h12⟩, ⟨h13, h14⟩, h15, id, .nil⟩
theorem SV.OJ (s : SV σ i a f t mk nw doms firsts trail marks failed clash) (l : List V) : SV ((σ ++ [O.list l]).set i (.aW (sd a f t σ.length nw failed clash))) i a f t σ.length nw doms firsts trail l failed clash :=
 let n := s.nq
 let ⟨_, hl, ok⟩ := s.hn
 have s1 := s.d5 (.push (O.list l))
 have li := fL s.hs
 have ne {j : Nat} (h : j < σ.length) : j ≠ σ.length := Nat.ne_of_lt h
 ⟨kG (fL s1.hs), (bS n.ia.symm).trans s1.hd, (bS n.jf.symm).trans s1.hf, (bS n.it.symm).trans s1.ht, (bS (Ne.symm (ne li))).trans cH, ⟨_, (lG n.jn.symm).trans (Ext.eJ (.push (M := λ _ => False) (O.list l)) hl id), ok⟩,
  Jz.nodup ⟨n.ia, n.jf, n.it, ne li, n.jn, n.af, n.ta, ne (bE s.hd), n.an, n.ft, ne (bE s.hf), n.fn, ne (bE s.ht), n.tn, Ne.symm (ne (iQ hl))⟩⟩
theorem SV.OI (s : SV σ i a f t mk nw doms firsts trail marks failed clash) : SV ((σ ++ [O.bX []]).set i (.aW (sd a f t mk σ.length failed clash))) i a f t mk σ.length doms firsts trail marks failed clash :=
 let n := s.nq
 have s1 := s.d5 (.push (O.bX []))
 have li := fL s.hs
 have ne {j : Nat} (h : j < σ.length) : j ≠ σ.length := Nat.ne_of_lt h
 ⟨kG (fL s1.hs), (bS n.ia.symm).trans s1.hd, (bS n.jf.symm).trans s1.hf, (bS n.it.symm).trans s1.ht, (bS n.im.symm).trans s1.hm, ⟨_, (lG (Ne.symm (ne li))).trans uU, λ _ h => (List.not_mem_nil h).elim, .nil⟩,
  Jz.nodup ⟨n.ia, n.jf, n.it, n.im, ne li, n.af, n.ta, n.am, ne (bE s.hd), n.ft, n.fm, ne (bE s.hf), n.tm, ne (bE s.ht), ne (bE s.hm)⟩⟩
theorem IT {j : Nat} {l : List V} {v : V} (h : getL σ j = some (l ++ [v])) (h1 : (l ++ [v]).length ≤ 100000) : FA [.obj j] σ = some (v, σ.set j (.list l)) := by
 show (getL σ j).bind _ = _
 rw [h, Option.bind_some, if_pos h1, List.getLast?_concat, List.dropLast_concat]; rfl
theorem Qf {x : Int} : KK (.int x) (.int x) σ = some (.bool false, σ) := congrArg (λ b => some (V.bool b, σ)) (decide_eq_false (Int.lt_irrefl x))
theorem Qe {x y : Int} (h : y < x) : KK (.int x) (.int y) σ = some (.bool true, σ) := congrArg (λ b => some (V.bool b, σ)) (decide_eq_true h)
inductive Pw (D0 firsts : List (List (Int × Int))) (σ : St) (i a f t nw : Nat) (trail marks : List V) (failed : Bool) (clash : List V) (m : Nat) (ρ : Loc) (σ' : St) (es : List V) (D : List (List (Int × Int))) (u : Option V) : Prop
 | intro (e : ρ = [some (.inst 0 i), some (.int 1), some (.int trail.length), u]) (m : es.length = m) (T : Tr D0 es D) (len : (trail ++ es).length ≤ 900) (d : D.length ≤ 900) (s : SV σ' i a f t σ.length nw D firsts (trail ++ es) marks failed clash) (E : Ext (λ j => j = i ∨ j = a ∨ j = t) σ σ')
theorem HQ {D0 : List (List (Int × Int))} {es : List V} (s : SV σ i a f t mk nw doms firsts (trail ++ es) (marks ++ [.int trail.length]) failed clash) (h : Tr D0 es doms) (h1 : (trail ++ es).length ≤ 900) (h2 : marks.length ≤ 900) (h3 : doms.length ≤ 900) (h0 : ∀ r ∈ firsts, r ≠ []) :
  wp (m9 [.inst 0 i, .int 1] σ) λ r σ' => A3 (r = .none) (E2 λ mk' Bq => A3 (σ.length ≤ mk') (σ.length ≤ Bq) (SV σ' i a f t mk' Bq D0 firsts trail marks false [])) (Ext (λ j => j = i ∨ j = a ∨ j = t) σ σ') := by
 have hml : (marks ++ [V.int trail.length]).length = marks.length + 1 := List.length_append
 have h4 : marks.length < 1000 := Nat.lt_of_le_of_lt h2 (by decide)
 have ea := bC (c := 0) (n := 16) s.hs rfl
 have el : X.bin rY (X.call (bY gR) (X.aB (X.attr 0 16 (X.var 0)) X.aH)) (X.var 1) [some (.inst 0 i), some (.int 1), none, none] σ = some (.int (marks.length : Nat), σ) :=
  aQ (aN (aI ea rfl) (jW s.hm (by rw [hml]; exact Nat.le_trans h4 (by decide)))) rfl (by rw [hml, ← Int.add_sub_cancel (marks.length : Int) 1]; rfl)
 have e3 : i6 (.obj mk) (.int (marks.length : Nat)) σ = some (.int trail.length, σ) := by
  rw [l7 s.hm, iK (by rw [hml]; exact Nat.lt_succ_self _) (Nat.lt_trans h4 (by decide)), List.getElem_concat_length rfl]; rfl
 have hsl : gX (.obj mk) none (some ((marks.length : Nat) : Int)) σ = some (.obj σ.length, σ ++ [O.list marks]) := by
  unfold gX
  simp only [s.hm, Option.bind_some]
  rw [if_pos (by rw [hml]; lia)]
  simp [sliceOf]
 have s2 := s.OJ marks
 refine wp_runF rfl (c6 rfl (fY (bO ea el e3) rfl (fY (rO ea el hsl) (Jr rfl (j7 (s.d5 (.push _)).hs (Nat.le_of_ble_eq_true rfl))) ?_)))
 refine HJ (λ m ρ σ' => E3 (Pw D0 firsts σ i a f t nw trail marks failed clash m ρ σ')) es.length ⟨es, doms, none, rfl, rfl, h, h1, h3, s2, .then (.push _) (.set _ (.inl rfl))⟩ (by rw [List.length_append] at h1; lia) ?_
 rintro m ρ dT ⟨es, D, u, rfl, hm, hT, hle, hD, s3, E3⟩
 have ht := bC (c := 0) (n := 17) s3.hs rfl
 have hl := aN (ρ := [some (.inst 0 i), some (.int 1), some (.int trail.length), u]) (g := X.aB (X.attr 0 17 (X.var 0)) X.aH) (F := bY gR) (aI ht rfl) (jW s3.ht (Nat.le_trans hle (by decide)))
 clear ea el e3 hsl s2 s h h1 h2 h3 hml h4
 by_cases hes : es = []
 ·subst hes
  cases hT.nil_eq
  rw [List.append_nil] at s3 hl
  have s4 := s3.OI
  have s5 := s4.JQ false clash
  exact .stop (aP (aQ hl rfl Qf)) (fY rfl (Jr rfl (j7 (s3.d5 (.push _)).hs (Nat.le_of_ble_eq_true rfl))) (fY (aQ rfl (bQ rfl (bC s4.hs rfl)) (G7 s4.hf h0)) (Jr rfl (j7 s4.hs (Nat.le_of_ble_eq_true rfl))) (fY rfl (Jr rfl (j7 s5.hs (Nat.le_of_ble_eq_true rfl)))
   (dJ ⟨rfl, ⟨σ.length, dT.length, Nat.le_refl _, E3.1, s5.JQ false []⟩, E3.then (.then (.push _) (.then (.set _ (.inl rfl)) (.then (.set _ (.inl rfl)) (.set _ (.inl rfl)))))⟩))))
 ·obtain ⟨es', D', x, old, lit, rs, sp, rfl, hx, ID, hT'⟩ := hT.last hes
  have hla : (trail ++ (es' ++ [V.tup [.int (x : Nat), dv old, lit, rs, sp]])).length = trail.length + (es'.length + 1) := by rw [List.length_append, List.length_append]; rfl
  rw [← List.append_assoc] at s3
  have s4 := s3.M1 (trail ++ es')
  have hxl := hx
  rw [← ID, List.length_set] at hx
  have s5 := s4.LC (d := D') (l := (D.map dv).set x (dv old)) (by rw [← ID]; exact List.map_set.symm)
  have hx2 := Nat.lt_of_lt_of_le hx hD
  refine .go (aP (aQ hl rfl (Qe (by rw [hla]; exact Int.ofNat_lt.mpr (Nat.lt_add_of_pos_right (Nat.succ_pos _)))))) λ Q' hn _ => fY (fM ht (d9 s3.ht) rfl (IT s3.ht (by rw [List.append_assoc]; exact Nat.le_trans hle (by decide)))) rfl (fY rfl (Gw (bQ rfl (bC s4.hs rfl)) rfl (vO s4.hd (Int.natCast_nonneg x) (Int.ofNat_lt.mpr (Nat.lt_trans hx2 (by decide))) (by rw [List.length_map]; exact hx))) (dJ ?_))
  rw [hla] at hle
  exact hn es'.length _ _ (by rw [← hm, List.length_append]; exact Nat.lt_succ_self _) ⟨es', D', _, rfl, rfl, hT', by rw [List.length_append]; exact Nat.le_of_succ_le hle, by rw [← ID, List.length_set]; exact hD, s5, E3.then (.then (.set _ (.inr (.inr rfl))) (.set _ (.inr (.inl rfl))))⟩
end
noncomputable def md (c m o : Nat) : List (Nat × V) := [(37, .obj c), (34, .obj m), (33, .obj o)]
noncomputable def G1 : Option Int → V
 | none => .none
 | some v => .int v
structure MV (σ : St) (j c m o : Nat) (ids : List Nat) (cs : List (List Int)) (aZ : Nat → Option Int) (own : Int → Option Nat) : Prop where
 hs : bV σ j = some (md c m o)
 hc : getL σ c = some (ids.map .obj)
 hlen : ids.length = cs.length
 uR : ∀ (p id : Nat) (l : List Int), ids[p]? = some id → cs[p]? = some l → A5 (getL σ id = some (l.map .int)) (id ≠ j) (id ≠ c) (id ≠ m) (id ≠ o)
 hm : getL σ m = some ((List.range cs.length).map λ p => G1 (aZ p))
 ho : ∃ l, A3 (eJ σ o = some l) (mP l) (∀ v, fT l v = (own v).map λ p => .int (p : Nat))
 ne : [j, c, m, o].Nodup
 small : cs.length ≤ 10
 vals : ∀ l ∈ cs, ∀ v ∈ l, -100 ≤ v ∧ v < 100
 lens : ∀ l ∈ cs, l.length ≤ 100
section
variable {σ σ' : St} {j c m o : Nat} {ids : List Nat} {cs : List (List Int)} {aZ : Nat → Option Int} {own : Int → Option Nat} {M : Nat → Prop}
theorem MV.neq (s : MV σ j c m o ids cs aZ own) : (j ≠ c ∧ j ≠ m ∧ j ≠ o) ∧ (c ≠ m ∧ c ≠ o) ∧ m ≠ o := by
 have hne := s.ne
 simpa only [List.nodup_cons, List.mem_cons, List.not_mem_nil, or_false, not_or, not_false_eq_true, List.nodup_nil, and_true, ne_eq] using hne
theorem MV.ext (s : MV σ j c m o ids cs aZ own) (e : Ext M σ σ') (h : ∀ i ∈ [j, c, m, o], ¬ M i) (h' : ∀ i ∈ ids, ¬ M i) : MV σ' j c m o ids cs aZ own := by
 simp only [List.mem_cons, List.not_mem_nil, or_false, forall_eq_or_imp, forall_eq] at h
 obtain ⟨h1, h2, h3, h4⟩ := h
 obtain ⟨l, hl, hn, hd⟩ := s.ho
 refine ⟨e.bV s.hs h1, e.getL s.hc h2, s.hlen, λ p id l hp hl => ?_, e.getL s.hm h3, ⟨l, e.eJ hl h4, hn, hd⟩, s.ne, s.small, s.vals, s.lens⟩
 obtain ⟨a, b1, b2, b3, b4⟩ := s.uR p id l hp hl
 exact ⟨e.getL a (h' id (List.mem_of_getElem? hp)), b1, b2, b3, b4⟩
theorem MV.d5 (s : MV σ j c m o ids cs aZ own) (e : bW σ σ') : MV σ' j c m o ids cs aZ own := s.ext e (λ _ _ h => h) λ _ _ h => h
noncomputable def upd {α β : Type} [DecidableEq α] (f : α → β) (a : α) (b : β) : α → β := λ x => if x = a then b else f x
theorem jT {α β : Type} [DecidableEq α] (f : α → β) (a : α) (b : β) : upd f a b a = b := if_pos rfl
theorem iT {α β : Type} [DecidableEq α] (f : α → β) {a x : α} (b : β) (h : x ≠ a) : upd f a b x = f x := if_neg h
theorem rP {K : Type} [DecidableEq K] (l : List (K × V)) (k k' : K) (v : V) : fT (fF l k v) k' = if k' = k then some v else fT l k' := by
 unfold fF
 split
 ·rename_i h
  induction l with
  | nil => simp at h
  | cons p l ih =>
   rw [List.map_cons]
   by_cases hp : p.1 = k
   ·rw [if_pos hp, fS]
    by_cases hk : k' = k
    ·subst hk; simp [hp]
    ·rw [if_neg (by rw [hp]; exact Ne.symm hk), if_neg hk]
     have : fT (p :: l) k' = fT l k' := by
      obtain ⟨a, b⟩ := p
      rw [fS, if_neg (by dsimp only at hp; rw [hp]; exact Ne.symm hk)]
     rw [this]
     clear ih h this
     induction l with
     | nil => rfl
     | cons q l ih2 =>
      rw [List.map_cons]
      obtain ⟨a, b⟩ := q
      by_cases hq : a = k
      ·rw [if_pos hq, fS, fS, if_neg (by rw [hq]; exact Ne.symm hk), if_neg (by rw [hq]; exact Ne.symm hk), ih2]
      ·rw [if_neg hq, fS, fS, ih2]
   ·rw [if_neg hp]
    obtain ⟨a, b⟩ := p
    rw [fS, fS]
    by_cases ha : a = k'
    ·rw [if_pos ha, if_pos ha]
     dsimp only at hp
     rw [if_neg (by rw [← ha]; exact hp)]
    ·rw [if_neg ha, if_neg ha]
     apply ih
     rw [List.any_cons, Bool.or_eq_true] at h
     rcases h with h | h
     ·exact absurd (by simpa using h) hp
     ·exact h
 ·rename_i h
  induction l with
  | nil =>
   by_cases hk : k' = k
   ·subst hk; simp [fT]
   ·simp [fT, hk, Ne.symm hk]
  | cons p l ih =>
   obtain ⟨a, b⟩ := p
   rw [List.any_cons, Bool.or_eq_true, not_or] at h
   rw [List.cons_append, fS, fS, ih h.2]
   by_cases ha : a = k'
   ·rw [if_pos ha, if_pos ha, if_neg (by rintro rfl; exact h.1 (by simpa using ha))]
   ·rw [if_neg ha, if_neg ha]
theorem Hy (aZ : Nat → Option Int) (n p : Nat) (v : Int) : ((List.range n).map λ q => G1 (aZ q)).set p (.int v) = (List.range n).map λ q => G1 (upd aZ p (some v) q) := by
 apply List.ext_getElem
 ·simp only [List.length_set, List.length_map]
 ·intro i h1 h2
  rw [List.getElem_set, List.getElem_map, List.getElem_map, List.getElem_range]
  by_cases h : p = i
  ·subst h; rw [if_pos rfl, jT]; rfl
  ·rw [if_neg h, iT _ _ (Ne.symm h)]
theorem MV.give (s : MV σ j c m o ids cs aZ own) {p : Nat} (hp : p < cs.length) {v : Int} (hv : -100 ≤ v ∧ v < 100) :
  E2 λ aT bH => A5 (mL (.obj m) (.int p) (.int v) σ = some aT) (wX 1 33 (.inst 1 j) aT = some (.obj o, aT)) (mL (.obj o) (.int v) (.int p) aT = some bH) (MV bH j c m o ids cs (upd aZ p (some v)) (upd own v (some p))) (Ext (λ i => i = m ∨ i = o) σ bH) := by
 obtain ⟨⟨j1, j2, j3⟩, ⟨c1, c2⟩, m1⟩ := s.neq
 obtain ⟨l, hl, hn, hd⟩ := s.ho
 have hx := Nat.lt_of_lt_of_le hp s.small
 have g1 : eJ (σ.set m (.list (((List.range cs.length).map λ q => G1 (aZ q)).set p (.int v)))) o = some l := (lG (Ne.symm m1)).trans hl
 have g0 : bV (σ.set m (.list (((List.range cs.length).map λ q => G1 (aZ q)).set p (.int v)))) j = some (md c m o) := (oU j2).trans s.hs
 refine ⟨_, _, vO s.hm (Int.natCast_nonneg p) (Int.ofNat_lt.mpr (Nat.lt_trans hx (by decide))) (by rw [List.length_map, List.length_range]; exact hp), bC g0 rfl, vP g1 (Nat.le_trans hn.len (by decide)),
  ⟨(oU j3).trans g0, ?_, s.hlen, λ q id l' hq hl' => ?_, (bS m1).trans ((c8 (bE s.hm)).trans (congrArg some (Hy ..))), ⟨_, mB (iQ g1), hn.set _ hv.1 hv.2, λ w => ?_⟩, s.ne, s.small, s.vals, s.lens⟩, .then (.set _ (.inl rfl)) (.set _ (.inr rfl))⟩
 ·rw [bS c2, bS c1]; exact s.hc
 ·obtain ⟨a, b1, b2, b3, b4⟩ := s.uR q id l' hq hl'
  exact ⟨(bS b4).trans ((bS b3).trans a), b1, b2, b3, b4⟩
 ·rw [rP, hd]
  by_cases hw : w = v
  ·subst hw; rw [if_pos rfl, jT]; rfl
  ·rw [if_neg hw, iT _ _ hw]
end
structure c0 (cs : List (List Int)) (aZ : Nat → Option Int) (own : Int → Option Nat) : Prop where
 iff : ∀ p v, aZ p = some v ↔ own v = some p
 lt : ∀ p v, own v = some p → p < cs.length
 mem : ∀ (p : Nat) (v : Int) (l : List Int), aZ p = some v → cs[p]? = some l → v ∈ l
structure JF (cs : List (List Int)) (own : Int → Option Nat) (cm : Int → Option Nat) (K : List Int) (P : List Nat) (place : Nat) : Prop where
 len : P.length = K.length
 head : P[0]? = some place
 came : ∀ (i : Nat) (v : Int), K[i]? = some v → E3 λ (q p : Nat) (l : List Int) => A5 (q ≤ i) (P[q]? = some p) (cm v = some p) (cs[p]? = some l) (v ∈ l)
 next : ∀ (i : Nat) (v : Int) (p : Nat), K[i]? = some v → P[i + 1]? = some p → own v = some p
 Ac : K.Nodup
 nV : P.Nodup
 lt : ∀ p ∈ P, p < cs.length
theorem rK {α : Type} {l : List α} (h : l.Nodup) {i j : Nat} {a : α} (hi : l[i]? = some a) (hj : l[j]? = some a) : i = j :=
 (List.getElem?_inj (List.getElem?_eq_some_iff.mp hi).1 h).mp (hi.trans hj.symm)
section
variable {σ σ' : St} {j c m o : Nat} {ids : List Nat} {cs : List (List Int)} {aZ : Nat → Option Int} {own : Int → Option Nat} {M : Nat → Prop}
theorem MV.Ka (s : MV σ j c m o ids cs aZ own) {p : Nat} (hp : p < cs.length) : i6 (.obj m) (.int p) σ = some (G1 (aZ p), σ) := by
 have := s.small
 rw [l7 s.hm, iK (by simpa using hp) (by lia)]
 simp
structure Turn (cs : List (List Int)) (aZ : Nat → Option Int) (ks : List Int) (ps : List Nat) (place : Nat) (q : Nat) (w : Int) (cS : Nat → Option Int) (own' : Int → Option Nat) : Prop where
 hw : ks[q]? = some w
 iff : ∀ p u, u ≠ w → (cS p = some u ↔ own' u = some p)
 no : ∀ p, cS p ≠ some w
 old : ∀ i p, i ≤ q → ps[i]? = some p → cS p = aZ p
 lt : ∀ p u, own' u = some p → p < cs.length
 mem : ∀ (p : Nat) (u : Int) (l : List Int), cS p = some u → cs[p]? = some l → u ∈ l
structure Kept (aZ : Nat → Option Int) (place : Nat) (cS : Nat → Option Int) : Prop where
 all : ∀ p, aZ p ≠ none → cS p ≠ none
 none : ∀ p, p ≠ place → aZ p = none → cS p = none
theorem FQ {cS : Nat → Option Int} {own' : Int → Option Nat} {w : Int} {p : Nat} (i1 : ∀ p u, u ≠ w → (cS p = some u ↔ own' u = some p)) (i1' : ∀ p, cS p ≠ some w) (p' : Nat) (u : Int) (hu : cS p ≠ some u) : upd cS p (some w) p' = some u ↔ upd own' w (some p) u = some p' := by
 by_cases hpp : p' = p
 ·subst hpp
  rw [jT]
  by_cases hu' : u = w
  ·subst hu'; rw [jT]; exact ⟨λ _ => rfl, λ _ => rfl⟩
  ·rw [iT _ _ hu']
   exact ⟨λ e => absurd (Option.some.inj e).symm hu', λ e => absurd ((i1 p' u hu').mpr e) hu⟩
 ·rw [iT _ _ hpp]
  by_cases hu' : u = w
  ·subst hu'; rw [jT]; exact ⟨λ e => absurd e (i1' p'), λ e => absurd (Option.some.inj e).symm hpp⟩
  ·rw [iT _ _ hu']; exact i1 p' u hu'
theorem Turn.step {ks : List Int} {ps : List Nat} {place q q0 p : Nat} {w : Int} {cS : Nat → Option Int} {own' : Int → Option Nat} {cm : Int → Option Nat} {l : List Int} (S : Turn cs aZ ks ps place q w cS own') (K : c0 cs aZ own) (T : JF cs own cm ks ps place) (h0 : aZ place = none) (B : Kept aZ place cS)
  (hq0 : q0 ≤ q) (hp : ps[q0]? = some p) (hl : cs[p]? = some l) (hwl : w ∈ l) :
  Kept aZ place (upd cS p (some w)) ∧ ((cS p = none ∧ c0 cs (upd cS p (some w)) (upd own' w (some p)) ∧ upd cS p (some w) place ≠ none) ∨ E2 λ q1 w1 => A3 (q1 < q) (cS p = some w1) (Turn cs aZ ks ps place q1 w1 (upd cS p (some w)) (upd own' w (some p)))) := by
 have At := T.lt p (List.mem_of_getElem? hp)
 have hmp := S.old q0 p hq0 hp
 have i4 : ∀ p' u, upd own' w (some p) u = some p' → p' < cs.length := λ p' u h => by
  by_cases hu : u = w
  ·subst hu; rw [jT] at h; cases h; exact At
  ·rw [iT _ _ hu] at h; exact S.lt p' u h
 have i5 : ∀ p' u l', upd cS p (some w) p' = some u → cs[p']? = some l' → u ∈ l' := λ p' u l' h hl' => by
  by_cases hpp : p' = p
  ·subst hpp; rw [jT] at h; cases h; rw [hl] at hl'; cases hl'; exact hwl
  ·rw [iT _ _ hpp] at h; exact S.mem p' u l' h hl'
 have k1 : ∀ p', aZ p' ≠ none → upd cS p (some w) p' ≠ none := λ p' h => by
  by_cases hpp : p' = p
  ·subst hpp; rw [jT]; exact Option.some_ne_none w
  ·rw [iT _ _ hpp]; exact B.all p' h
 cases q0 with
 | zero =>
  cases Option.some.inj (hp.symm.trans T.head)
  have e := hmp.trans h0
  refine ⟨⟨k1, λ p' h1 h2 => by rw [iT _ _ h1]; exact B.none p' h1 h2⟩, .inl ⟨e, ⟨λ p' u => FQ S.iff S.no p' u (by rw [e]; exact λ z => by cases z), i4, i5⟩, by rw [jT]; exact Option.some_ne_none w⟩⟩
 | succ q1 =>
  have hq1 : q1 < ks.length := Nat.lt_of_succ_lt_succ (Nat.lt_succ_of_lt (T.len ▸ (List.getElem?_eq_some_iff.mp hp).1))
  have hw1 : ks[q1]? = some ks[q1] := List.getElem?_eq_getElem hq1
  have ho1 := T.next q1 _ p hw1 hp
  have hm1 := (K.iff p _).mpr ho1
  have e := hmp.trans hm1
  have hne : ks[q1] ≠ w := λ z => Nat.lt_irrefl _ (Nat.lt_of_lt_of_le (Nat.lt_succ_self q1) ((rK T.Ac hw1 (S.hw.trans (congrArg some z.symm))) ▸ hq0))
  refine ⟨⟨k1, λ p' h1 h2 => by rw [iT _ _ (λ z => by rw [z, hm1] at h2; cases h2)]; exact B.none p' h1 h2⟩, .inr ⟨q1, ks[q1], hq0, e, hw1, λ p' u hu => FQ S.iff S.no p' u (by rw [e]; exact λ z => hu (Option.some.inj z).symm), λ p' h => ?_, λ i p' hi hp' => ?_, i4, i5⟩⟩
  ·by_cases hpp : p' = p
   ·subst hpp; rw [jT] at h; exact hne (Option.some.inj h).symm
   ·rw [iT _ _ hpp] at h
    exact hpp (Option.some.inj (((S.iff p' _ hne).mp h).symm.trans ((S.iff p _ hne).mp e)))
  ·rw [iT _ _ λ z => by subst z; exact Nat.lt_irrefl _ (Nat.le_trans (Nat.le_of_eq (rK T.nV hp hp')) hi)]
   exact S.old i p' (Nat.le_trans hi (Nat.le_of_lt hq0)) hp'
inductive Og (cs : List (List Int)) (aZ : Nat → Option Int) (ks : List Int) (ps : List Nat) (place : Nat) (σ : St) (j c m o : Nat) (ids : List Nat) (cj : Nat) (t : Nat) (ρ : Loc) (σ' : St) : Prop
 | go {cS : Nat → Option Int} {own' : Int → Option Nat} {q : Nat} {w : Int} {x y : Option V} (e : ρ = [some (.inst 1 j), some (.int w), some (.obj cj), x, y]) (ht : q + 1 = t) (s : MV σ' j c m o ids cs cS own') (B : Kept aZ place cS) (E : Ext (λ i => i = m ∨ i = o) σ σ') (S : Turn cs aZ ks ps place q w cS own')
 | stop {cS : Nat → Option Int} {own' : Int → Option Nat} {x y : Option V} (e : ρ = [some (.inst 1 j), some .none, some (.obj cj), x, y]) (s : MV σ' j c m o ids cs cS own') (B : Kept aZ place cS) (E : Ext (λ i => i = m ∨ i = o) σ σ') (K : c0 cs cS own') (h : cS place ≠ none)
theorem CX (s : MV σ j c m o ids cs aZ own) {cj : Nat} {cl : List (Int × V)} {cm : Int → Option Nat} (hcj : eJ σ cj = some cl) (hcm : ∀ v, fT cl v = (cm v).map λ p => .int (p : Nat)) (hne : cj ≠ m ∧ cj ≠ o)
  (K : c0 cs aZ own) {ks : List Int} {ps : List Nat} {place : Nat} (T : JF cs own cm ks ps place) (h0 : aZ place = none) {v : Int} (hv : ks.getLast? = some v) (hfree : own v = none) :
  wp (f5 [.inst 1 j, .int v, .obj cj] σ) λ r σ' => r = .none ∧ E2 λ cS own' => A6 (MV σ' j c m o ids cs cS own') (c0 cs cS own') (∀ p, aZ p ≠ none → cS p ≠ none) (∀ p, p ≠ place → aZ p = none → cS p = none) (cS place ≠ none) (Ext (λ i => i = m ∨ i = o) σ σ') := by
 rw [List.getLast?_eq_getElem?] at hv
 have Le : ks.length ≤ 10 := by
  rw [← T.len]
  have := cU (m := List.range cs.length) T.nV λ p hp => List.mem_range.mpr (T.lt p hp)
  rw [List.length_range] at this
  exact Nat.le_trans this s.small
 refine wp_runF rfl (HJ (Og cs aZ ks ps place σ j c m o ids cj) (ks.length - 1 + 1) (.go rfl rfl s ⟨λ _ h => h, λ _ _ h => h⟩ .refl ⟨hv, λ p u _ => K.iff p u, λ p e => ?_, λ _ _ _ _ => rfl, λ p u => K.lt p u, λ p u l => K.mem p u l⟩) (Nat.lt_of_le_of_lt (Nat.add_le_add_right (Nat.le_trans (Nat.sub_le _ _) Le) 1) (by decide)) ?_)
 ·have := (K.iff p v).mp e
  rw [hfree] at this; cases this
 clear s hv hfree Le
 intro t ρ aT H
 cases H with
 | stop e s B E K h => subst e; exact .stop (aP (aQ rfl rfl (b := .none) (r := (.bool false, aT)) rfl)) (dJ ⟨rfl, _, _, s, K, B.all, B.none, h, E⟩)
 | @go cS own' q w x y e ht s1 B E S =>
  subst e
  obtain ⟨q0, p, l, hq0, hp, hc, hl, hwl⟩ := T.came q w S.hw
  have At := T.lt p (List.mem_of_getElem? hp)
  obtain ⟨bH, dT, g1, g2, g3, s3, E3⟩ := s1.give At (s1.vals l (List.mem_of_getElem? hl) w hwl)
  have e2 : i6 (.obj cj) (.int w) aT = some (.int (p : Nat), aT) := by rw [CM (E.eJ hcj λ h => h.elim hne.1 hne.2), hcm, hc]; rfl
  have ea := bC (c := 1) (n := 34) s1.hs rfl
  obtain ⟨B', h⟩ := S.step K T h0 B hq0 hp hl hwl
  refine .go (aP (aQ rfl rfl (b := .none) (r := (.bool true, aT)) rfl)) λ Q' hn _ => fY (bO rfl rfl e2) rfl (fY (bO (bQ rfl ea) rfl (s1.Ka At)) rfl (fY rfl (Gw (bQ rfl ea) rfl g1) (fY rfl (Gw (bQ rfl g2) rfl g3) (fY rfl rfl (dJ ?_)))))
  clear g1 g2 g3 e2 ea s1 S
  rcases h with ⟨e, K', h⟩ | ⟨q1, w1, hlt, e, S'⟩
  ·rw [e]; exact hn 0 _ _ (ht ▸ Nat.succ_pos q) (.stop rfl s3 B' (E.then E3) K' h)
  ·rw [e]; exact hn (q1 + 1) _ _ (ht ▸ Nat.succ_lt_succ hlt) (.go rfl rfl s3 B' (E.then E3) S')
end
theorem wF {K : Type} [DecidableEq K] {l : List (K × V)} {k : K} {v : V} (h : k ∉ l.map (·.1)) : (fF l k v).map (·.1) = l.map (·.1) ++ [k] := by
 unfold fF
 rw [if_neg]
 ·simp
 ·intro z
  obtain ⟨p, hp, e⟩ := List.any_eq_true.mp z
  exact h (List.mem_map.mpr ⟨p, hp, by simpa using e⟩)
theorem sH {K : Type} [DecidableEq K] {l : List (K × V)} {k : K} : fT l k = none ↔ k ∉ l.map (·.1) := by
 induction l with
 | nil => simp [fT]
 | cons p l ih =>
  obtain ⟨a, b⟩ := p
  rw [fS]
  by_cases h : a = k
  ·simp [h]
  ·rw [if_neg h, ih]; simp [Ne.symm h]
structure yL (σ : St) (cj : Nat) (ks : List Int) (cm : Int → Option Nat) : Prop where
 at_ : ∃ cl, A4 (eJ σ cj = some cl) (mP cl) (cl.map (·.1) = ks) (∀ v, fT cl v = (cm v).map λ p => .int (p : Nat))
section
variable {σ σ' : St} {j c m o : Nat} {ids : List Nat} {cs : List (List Int)} {aZ : Nat → Option Int} {own : Int → Option Nat} {M : Nat → Prop} {cj : Nat} {ks : List Int} {cm : Int → Option Nat}
theorem yL.ext (h : yL σ cj ks cm) (e : Ext M σ σ') (hm : ¬ M cj) : yL σ' cj ks cm := let ⟨cl, a, b, c, d⟩ := h.at_; ⟨cl, e.eJ a hm, b, c, d⟩
theorem yL.mem (h : yL σ cj ks cm) (v : Int) : cm v = none ↔ v ∉ ks := by
 obtain ⟨cl, a, b, rfl, d⟩ := h.at_
 rw [← sH, d]
 cases cm v <;> simp
theorem FV {i : Nat} {l : List (Int × V)} (h : eJ σ i = some l) (v : Int) : dK (.int v) (.obj i) σ = some (.bool (decide (v ∉ l.map (·.1))), σ) := by
 unfold dK
 rw [Gg h]
 show some (V.bool (!(fT l v).isSome), σ) = _
 have := sH (l := l) (k := v)
 cases e : fT l v with
 | none => rw [decide_eq_true (this.mp e)]; rfl
 | some w => rw [decide_eq_false (λ h => by rw [this.mpr h] at e; cases e)]; rfl
theorem yL.p9 (h : yL σ cj ks cm) (v : Int) : dK (.int v) (.obj cj) σ = some (.bool (decide (v ∉ ks)), σ) := by
 obtain ⟨cl, a, b, rfl, d⟩ := h.at_
 exact FV a v
theorem yL.set (h : yL σ cj ks cm) {v : Int} {p : Nat} (hv : v ∉ ks) (h0 : -100 ≤ v ∧ v < 100) : ∃ aT, mL (.obj cj) (.int v) (.int (p : Nat)) σ = some aT ∧ yL aT cj (ks ++ [v]) (upd cm v (some p)) ∧ Ext (λ i => i = cj) σ aT := by
 obtain ⟨cl, a, b, rfl, d⟩ := h.at_
 have lt := iQ a
 refine ⟨_, vP a (by have := b.len; lia), ⟨fF cl v (.int p), mB lt, b.set _ h0.1 h0.2, wF hv, λ w => ?_⟩, Ext.set _ rfl⟩
 rw [rP, d]
 by_cases hw : w = v
 ·subst hw; rw [if_pos rfl, jT]; rfl
 ·rw [if_neg hw, iT _ _ hw]
theorem MV.HS (s : MV σ j c m o ids cs aZ own) (v : Int) : dK (.int v) (.obj o) σ = some (.bool (decide (own v = none)), σ) := by
 obtain ⟨l, hl, hn, hd⟩ := s.ho
 unfold dK
 rw [Gg hl, hd]
 cases own v <;> simp
theorem MV.EZ (s : MV σ j c m o ids cs aZ own) {v : Int} {p : Nat} (h : own v = some p) : i6 (.obj o) (.int v) σ = some (.int (p : Nat), σ) := by
 obtain ⟨l, hl, hn, hd⟩ := s.ho
 rw [CM hl, hd, h]; rfl
theorem MV.choice (s : MV σ j c m o ids cs aZ own) {p : Nat} {l : List Int} (h : cs[p]? = some l) : ∃ id, A3 (ids[p]? = some id) (i6 (.obj c) (.int (p : Nat)) σ = some (.obj id, σ)) (A5 (getL σ id = some (l.map .int)) (id ≠ j) (id ≠ c) (id ≠ m) (id ≠ o)) := by
 have hlt := (List.getElem?_eq_some_iff.mp h).1
 have hsm := s.small
 have hlt' : p < ids.length := by rw [s.hlen]; exact hlt
 have hid : ids[p]? = some ids[p] := List.getElem?_eq_getElem hlt'
 refine ⟨ids[p], hid, ?_, s.uR p _ l hid h⟩
 rw [l7 s.hc, iK (by simpa using hlt') (by lia)]
 simp
structure Jt (cs : List (List Int)) (ps : List Nat) (ks : List Int) : Prop where
 len : ps.length = ks.length + 1
 Ac : ks.Nodup
 nV : ps.Nodup
 lt : ∀ p ∈ ps, p < cs.length
 sub : ∀ p ∈ ps, ∀ l, cs[p]? = some l → ∀ v ∈ l, v ∈ ks
structure m6 (cs : List (List Int)) (own : Int → Option Nat) (cm : Int → Option Nat) (ks : List Int) (ps : List Nat) (place : Nat) : Prop where
 len : ps.length = ks.length + 1
 head : ps[0]? = some place
 came : ∀ (i : Nat) (v : Int), ks[i]? = some v → E3 λ (q p : Nat) (l : List Int) => A5 (q ≤ i) (ps[q]? = some p) (cm v = some p) (cs[p]? = some l) (v ∈ l)
 next : ∀ (i : Nat) (v : Int), ks[i]? = some v → own v = ps[i + 1]?
 Ac : ks.Nodup
 nV : ps.Nodup
 lt : ∀ p ∈ ps, p < cs.length
theorem m6.xX {ps : List Nat} {place : Nat} (h : m6 cs own cm ks ps place) : ps.length ≤ cs.length := by
 have := cU (m := List.range cs.length) h.nV λ p hp => List.mem_range.mpr (h.lt p hp)
 simpa using this
theorem m6.grow {ps : List Nat} {place p k : Nat} {v : Int} {q : Nat} {l : List Int} (h : m6 cs own cm ks ps place) (K : c0 cs aZ own) (h0 : aZ place = none) (hv : v ∉ ks) (ho : own v = some p) (hk : ps[k]? = some q) (hl : cs[q]? = some l) (hvl : v ∈ l) :
  m6 cs own (upd cm v (some q)) (ks ++ [v]) (ps ++ [p]) place := by
 have hkl := (List.getElem?_eq_some_iff.mp hk).1
 have hlen := h.len
 have hp0 : 0 < ps.length := by lia
 refine ⟨by simp [h.len], by rw [List.getElem?_append_left hp0]; exact h.head, λ i w hi => ?_, λ i w hi => ?_, ?_, ?_, λ p' hp' => ?_⟩
 ·by_cases hlt : i < ks.length
  ·rw [List.getElem?_append_left hlt] at hi
   obtain ⟨q', p', l', a, b, c', d, e⟩ := h.came i w hi
   refine ⟨q', p', l', a, by rw [List.getElem?_append_left (by lia)]; exact b, ?_, d, e⟩
   rw [iT _ _ (by rintro rfl; exact hv (List.mem_of_getElem? hi))]; exact c'
  ·have hlt2 := (List.getElem?_eq_some_iff.mp hi).1
   simp at hlt2
   have : i = ks.length := by lia
   subst this
   simp at hi; subst hi
   refine ⟨k, q, l, by lia, by rw [List.getElem?_append_left hkl]; exact hk, jT _ _ _, hl, hvl⟩
 ·by_cases hlt : i < ks.length
  ·rw [List.getElem?_append_left hlt] at hi
   rw [h.next i w hi, List.getElem?_append_left (by lia)]
  ·have hlt2 := (List.getElem?_eq_some_iff.mp hi).1
   simp at hlt2
   have : i = ks.length := by lia
   subst this
   simp at hi; subst hi
   rw [ho, ← hlen]; simp
 ·rw [List.nodup_append]
  exact ⟨h.Ac, by simp, λ a ha b hb => by simp at hb; subst hb; rintro rfl; exact hv ha⟩
 ·rw [List.nodup_append]
  refine ⟨h.nV, by simp, λ a ha b hb => ?_⟩
  simp at hb; subst hb
  rintro rfl
  obtain ⟨i, hi⟩ := List.getElem?_of_mem ha
  cases i with
  | zero =>
   rw [h.head] at hi; cases hi
   have := (K.iff _ v).mpr ho
   rw [h0] at this; cases this
  | succ i =>
   have hlt := (List.getElem?_eq_some_iff.mp hi).1
   have hki : ks[i]? = some ks[i] := List.getElem?_eq_getElem (by lia)
   have h1 := h.next i _ hki
   rw [hi] at h1
   have a1 := (K.iff _ _).mpr h1
   have a2 := (K.iff _ _).mpr ho
   rw [a1] at a2
   exact hv (Option.some.inj a2 ▸ List.mem_of_getElem? hki)
 ·rcases List.mem_append.mp hp' with hp' | hp'
  ·exact h.lt p' hp'
  ·simp at hp'; subst hp'; exact K.lt _ _ ho
theorem m6.tree {ps : List Nat} {place k : Nat} {v : Int} {q : Nat} {l : List Int} (h : m6 cs own cm ks ps place) (hv : v ∉ ks) (hk : ps[k]? = some q) (hl : cs[q]? = some l) (hvl : v ∈ l) :
  JF cs own (upd cm v (some q)) (ks ++ [v]) ps place := by
 have hkl := (List.getElem?_eq_some_iff.mp hk).1
 have hlen := h.len
 refine ⟨by simp [h.len], h.head, λ i w hi => ?_, λ i w p hi hp => ?_, ?_, h.nV, h.lt⟩
 ·by_cases hlt : i < ks.length
  ·rw [List.getElem?_append_left hlt] at hi
   obtain ⟨q', p', l', a, b, c', d, e⟩ := h.came i w hi
   refine ⟨q', p', l', a, b, ?_, d, e⟩
   rw [iT _ _ (by rintro rfl; exact hv (List.mem_of_getElem? hi))]; exact c'
  ·have hlt2 := (List.getElem?_eq_some_iff.mp hi).1
   simp at hlt2
   have : i = ks.length := by lia
   subst this
   simp at hi; subst hi
   exact ⟨k, q, l, by lia, hk, jT _ _ _, hl, hvl⟩
 ·have hlt := (List.getElem?_eq_some_iff.mp hp).1
  rw [List.getElem?_append_left (by lia)] at hi
  rw [h.next i w hi, hp]
 ·rw [List.nodup_append]
  exact ⟨h.Ac, by simp, λ a ha b hb => by simp at hb; subst hb; rintro rfl; exact hv ha⟩
end
section
variable {σ σ' : St} {j c m o : Nat} {ids : List Nat} {cs : List (List Int)} {aZ : Nat → Option Int} {own : Int → Option Nat} {M : Nat → Prop}
theorem p7 {l : List Int} {x : Int} : x ∈ cM l ↔ x ∈ l := (mA l).mem_iff
theorem Hd {σ : St} {cj : Nat} {ks : List Int} {cm : Int → Option Nat} (h : yL σ cj ks cm) (hl : ks.length ≤ 60) : mX (.obj cj) σ = some (.obj σ.length, σ ++ [.list ((cM ks).map .int)]) := by
 obtain ⟨cl, a, b, rfl, d⟩ := h.at_
 unfold mX
 simp only [a, Option.bind_some]
 rw [if_pos (by simpa using hl)]
noncomputable def Gz (σ σ' : St) (j c m o : Nat) (ids : List Nat) (cs : List (List Int)) (aZ : Nat → Option Int) (own : Int → Option Nat) (place : Nat) (r : V) : Prop :=
 (r = .none ∧ E2 λ cS own' => A6 (MV σ' j c m o ids cs cS own') (c0 cs cS own') (∀ p, aZ p ≠ none → cS p ≠ none) (∀ p, p ≠ place → aZ p = none → cS p = none) (cS place ≠ none) (Ext (λ i => i = m ∨ i = o) σ σ')) ∨
 (E4 λ pj kj ps ks => A6 (r = .tup [.obj pj, .obj kj]) (getL σ' pj = some (ps.map λ p => .int (p : Nat))) (getL σ' kj = some ((cM ks).map .int)) (Jt cs ps ks) (place ∈ ps) (bW σ σ'))
structure Pq (σ σ' : St) (cs : List (List Int)) (own : Int → Option Nat) (place : Nat) (ks : List Int) (ps : List Nat) (cm : Int → Option Nat) : Prop where
 ext : bW σ σ'
 came : yL σ' σ.length ks cm
 pl : getL σ' (σ.length + 1) = some (ps.map λ p => .int (p : Nat))
 inv : m6 cs own cm ks ps place
noncomputable def Ob (j place n k : Nat) (x : Option V) : Loc := [some (.inst 1 j), some (.int place), some (.obj n), some (.obj (n + 1)), some (.int (k : Nat)), x]
noncomputable def SDone (cs : List (List Int)) (ps : List Nat) (ks : List Int) (k : Nat) : Prop := ∀ i p l, i < k → ps[i]? = some p → cs[p]? = some l → ∀ v ∈ l, v ∈ ks
noncomputable def Pr (σ : St) (j : Nat) (cs : List (List Int)) (own : Int → Option Nat) (place t : Nat) (ρ : Loc) (σ' : St) : Prop := E5 λ k ks ps cm x => A5 (t = cs.length - k) (ρ = Ob j place σ.length k x) (Pq σ σ' cs own place ks ps cm) (k ≤ ps.length) (SDone cs ps ks k)
noncomputable def Ps (σ : St) (j : Nat) (cs : List (List Int)) (own : Int → Option Nat) (place k q : Nat) (l : List Int) (t : Nat) (ρ : Loc) (σ' : St) : Prop := E4 λ ks ps cm x => A5 (ρ = Ob j place σ.length k x) (Pq σ σ' cs own place ks ps cm) (ps[k]? = some q) (SDone cs ps ks k) (∀ v ∈ l.take t, v ∈ ks)
theorem zY {σ' : St} {z : Nat} {ps : List Nat} {k q : Nat} (h : getL σ' z = some (ps.map λ p => .int (p : Nat))) (hq : ps[k]? = some q) (hk : k < 1000000) : i6 (.obj z) (.int (k : Nat)) σ' = some (.int (q : Nat), σ') := by
 obtain ⟨h1, h2⟩ := List.getElem?_eq_some_iff.mp hq
 rw [l7 h, iK (by rw [List.length_map]; exact h1) hk, List.getElem_map, h2]; rfl
noncomputable def Jl : XS := (XS.seq (XS.ite (X.test (X.bin dK (X.var 5) (X.var 2))) (XS.seq (XS.assign (X.sub (X.var 3) (X.var 4)) (XA.item (X.var 2) (X.var 5))) (XS.seq (XS.ite (X.test (X.bin dK (X.var 5) (X.attr 1 33 (X.var 0)))) (XS.seq (XS.drop (X.cV 1 42 f5 (X.var 0) (X.aB (X.var 5) (X.aB (X.var 2) X.aH)))) (XS.seq (XS.ret (X.pure .none)) XS.nil)) XS.nil) (XS.seq (XS.drop (X.fH eF (X.var 3) (X.aB (X.sub (X.attr 1 33 (X.var 0)) (X.var 5)) X.aH))) XS.nil))) XS.nil) XS.nil)
theorem GO {Q : Fl → Loc → St → Prop} {place k q t : Nat} {l : List Int} {v : Int} {ρ : Loc} (s : MV σ j c m o ids cs aZ own) (K : c0 cs aZ own) (h0 : aZ place = none) (hl : cs[q]? = some l) (hv : l[t]? = some v) (h : Ps σ j cs own place k q l t ρ σ')
  (hn : ∀ ρ σ', Ps σ j cs own place k q l (t + 1) ρ σ' → Q .next ρ σ') (hr : ∀ ρ xN, Gz σ xN j c m o ids cs aZ own place .none → Q (.ret .none) ρ xN) : ap (XA.name 5) (.int v) ρ σ' λ o8 bH => sp Jl o8 bH Q := by
 obtain ⟨ks, ps, cm, x, rfl, H, hq, hd, hdt⟩ := h
 refine ⟨_, _, rfl, ?_⟩
 have hvl : v ∈ l := List.mem_of_getElem? hv
 have hvr := s.vals l (List.mem_of_getElem? hl) v hvl
 have hk2 := (List.getElem?_eq_some_iff.mp hq).1
 have OU := H.inv.xX
 have hlen2 := H.inv.len
 have hsm := s.small
 have DZ : ∀ u ∈ l.take (t + 1), u ∈ ks ∨ u = v := by
  intro u hu
  obtain ⟨hlt, e⟩ := List.getElem?_eq_some_iff.mp hv
  rw [List.take_succ_eq_append_getElem hlt, List.mem_append, List.mem_singleton, e] at hu
  exact hu.imp (hdt u) λ h => h
 have hni := H.came.p9 v
 by_cases hin : v ∈ ks
 ·rw [decide_eq_false (λ h => h hin)] at hni
  exact c6 (aP (aQ rfl rfl hni)) (dJ (hn _ _ ⟨ks, ps, cm, _, rfl, H, hq, hd, λ u hu => (DZ u hu).elim (λ h => h) λ e => e ▸ hin⟩))
 rw [decide_eq_true hin] at hni
 refine kY (aP (aQ rfl rfl hni)) ?_
 have hk3 : k < 1000000 := by lia
 have Qi := zY H.pl hq hk3
 obtain ⟨dT, e3, hC3, E3⟩ := H.came.set (p := q) hin hvr
 have hP3 := E3.getL H.pl (Nat.succ_ne_self _)
 have PD : bW σ dT := H.ext.trans E3 λ _ e => .inr (e ▸ Nat.le_refl _)
 have s3 := s.d5 PD
 have hon := s3.HS v
 refine fY (bO rfl rfl Qi) (Gw rfl rfl e3) ?_
 cases ho : own v with
 | some p =>
  rw [ho] at hon
  have lP := bE hP3
  have E4 : Ext (λ i => i = σ.length + 1) dT (dT.set (σ.length + 1) (.list ((ps.map λ p => V.int ((p : Nat) : Int)) ++ [.int (p : Nat)]))) := Ext.set _ rfl
  have hG := H.inv.grow K h0 hin ho hq hl hvl
  refine c6 (aP (aQ rfl (bQ rfl (bC s3.hs rfl)) hon)) (jO (fM rfl (d9 hP3) (aI (bO (bQ rfl (bC s3.hs rfl)) rfl (s3.EZ ho)) rfl) (fR hP3 (by rw [List.length_map]; lia))) rfl (dJ (dJ (hn _ _ ⟨ks ++ [v], ps ++ [p], upd cm v (some q), _, rfl, ⟨PD.trans E4 λ _ e => .inr (e ▸ Nat.le_succ _), hC3.ext E4 (Nat.ne_of_lt (Nat.lt_succ_self _)), ?_, hG⟩, ?_, λ i p' l' hi hp' hl' u hu => ?_, λ u hu => (DZ u hu).elim (List.mem_append_left _) λ e => e ▸ List.mem_append_right _ (.head _)⟩))))
  ·rw [c8 lP, List.map_append]; rfl
  ·rw [List.getElem?_append_left hk2]; exact hq
  ·rw [List.getElem?_append_left (Nat.lt_trans hi hk2)] at hp'
   exact List.mem_append_left _ (hd i p' l' hi hp' hl' u hu)
 | none =>
  rw [ho] at hon
  obtain ⟨cl, b1, _, b3, b4⟩ := hC3.at_
  have lj := fL s.hs
  have lm := bE s.hm
  obtain ⟨ol, hol, _⟩ := s.ho
  obtain ⟨_, k8, e4, rfl, cS, own', c1, c2, c3, Qp, c4, c5⟩ := CX s3 b1 b4 ⟨Ne.symm (Nat.ne_of_lt lm), Ne.symm (Nat.ne_of_lt (iQ hol))⟩ K (H.inv.tree hin hq hl hvl) h0 (by simp) ho
  exact kY (aP (aQ rfl (bQ rfl (bC s3.hs rfl)) hon)) (jO (dC rfl (gC (n := 42) s3.hs rfl) rfl e4) rfl (lW rfl (hr _ _ (.inl ⟨rfl, cS, own', c1, c2, c3, Qp, c4, PD.of0.then c5⟩))))
theorem GP (s : MV σ j c m o ids cs aZ own) (K : c0 cs aZ own) {place : Nat} (hp : place < cs.length) (h0 : aZ place = none) :
  wp (iR [.inst 1 j, .int place] σ) λ r σ' => Gz σ σ' j c m o ids cs aZ own place r := by
 have hsm := s.small
 have S0 : Pq σ (σ ++ [.bX [], .list [.int place]]) cs own place [] [place] (λ _ => none) := by
  refine ⟨Ext.EW _, ⟨[], ?_, ⟨(λ p hp => by cases hp), .nil⟩, rfl, λ v => rfl⟩, ?_, ⟨rfl, rfl, (λ i v h => by cases h), (λ i v h => by cases h), .nil, List.nodup_cons.mpr ⟨by simp, .nil⟩, λ p hp' => (List.mem_singleton.mp hp').symm ▸ hp⟩⟩
  ·unfold eJ; simp
  ·unfold getL; simp
 refine wp_runF rfl (fY (v := .tup [.obj σ.length, .obj (σ.length + 1), .int 0]) (aT := σ ++ [.bX [], .list [.int place]]) ?_ rfl ?_)
 ·have e1 := mY (f := X.aB (X.var 1) X.aH) (ρ := [some (.inst 1 j), some (.int (place : Nat)), none, none, none, none, none, none, none]) (σ := σ ++ [O.bX []]) (aI rfl rfl) (Nat.le_of_ble_eq_true rfl)
  rw [List.length_append, List.append_assoc] at e1
  exact k5 (aI rfl (aI e1 (aI rfl rfl))) (Nat.le_of_ble_eq_true rfl)
 refine jB (zB (Pr σ j cs own place) ?_ 1000 (cs.length - 0) _ _ ⟨0, [], [place], λ _ => none, none, rfl, rfl, S0, Nat.zero_le _, λ i p l h => absurd h (Nat.not_lt_zero _)⟩ (by lia))
 rintro t ρ aT ⟨k, ks, ps, cm, x, rfl, rfl, H, hk, hdone⟩
 have s1 := s.d5 H.ext
 have hpl := H.inv.xX
 have hlen := H.inv.len
 have hml : (ps.map λ p => V.int (p : Nat)).length = ps.length := List.length_map _
 have hgl : gR (.obj (σ.length + 1)) aT = some (.int (ps.length : Nat), aT) := by rw [jW H.pl (by lia), hml]
 refine ⟨decide ((k : Int) < (ps.length : Nat)), aT, aP (aQ rfl (aN rfl hgl) rfl), ?_⟩
 by_cases hkl : k < ps.length
 ·rw [decide_eq_true (Int.ofNat_lt.mpr hkl)]
  dsimp only
  rw [if_pos rfl]
  have hq : ps[k]? = some ps[k] := List.getElem?_eq_getElem hkl
  generalize ps[k] = q at hq
  have OT := H.inv.lt q (List.mem_of_getElem? hq)
  have hl : cs[q]? = some cs[q] := List.getElem?_eq_getElem OT
  generalize cs[q] = l at hl
  obtain ⟨id, hid, hcg, O6, _⟩ := s1.choice hl
  have NL : getL σ id = some (l.map .int) := (s.uR q id l hid hl).h1
  have hll := s.lens l (List.mem_of_getElem? hl)
  refine jB (EL ⟨.obj id, aT, bO (bQ rfl (bC s1.hs rfl)) (bO rfl rfl (zY H.pl hq (by lia))) hcg, l.map .int, Ps σ j cs own place k q l, ⟨ks, ps, cm, x, rfl, H, hq, hdone, (λ v hv => by cases hv)⟩, by rw [List.length_map]; lia, ?_, ?_, ?_⟩)
  ·rintro t ρ bH ⟨ks, ps, cm, x, rfl, H2, _⟩ ht
   exact Src.list (H2.ext.getL NL λ z => z) bH .refl t ht
  ·intro t vv ρ bH hvv h2
   rw [List.getElem?_map] at hvv
   obtain ⟨v, hv, rfl⟩ := Option.map_eq_some_iff.mp hvv
   exact GO s K h0 hl hv h2 (λ _ _ h => h) λ _ _ h => h
  ·rintro ρ bH ⟨ks, ps, cm, x, rfl, H2, hq2, hd2, hdt⟩
   have hk2 := (List.getElem?_eq_some_iff.mp hq2).1
   have OU := H2.inv.xX
   refine fY rfl rfl (dJ ⟨cs.length - (k + 1), by lia, k + 1, ks, ps, cm, _, rfl, rfl, H2, hk2, λ i p l' hi hp hl' v hv => ?_⟩)
   by_cases hik : i < k
   ·exact hd2 i p l' hik hp hl' v hv
   ·have e : i = k := by lia
    rw [e, hq2] at hp; cases hp
    rw [hl] at hl'; cases hl'
    exact hdt v (by rw [List.length_map, List.take_length]; exact hv)
 ·rw [decide_eq_false (λ h => hkl (Int.ofNat_lt.mp h))]
  dsimp only
  rw [if_neg (λ h => by cases h)]
  have hke : k = ps.length := by lia
  subst hke
  refine lW (k5 (aI rfl (aI (aN rfl (Hd H.came (by lia))) rfl)) (Nat.le_of_ble_eq_true rfl)) (.inr ⟨_, _, ps, ks, rfl, (Ext.push (M := λ _ => False) _).getL H.pl λ h => h, cH, ⟨hlen, H.inv.Ac, H.inv.nV, H.inv.lt, λ p hp l hl v hv => ?_⟩, List.mem_of_getElem? H.inv.head, H.ext.then (Ext.push _)⟩)
  obtain ⟨i, hi⟩ := List.getElem?_of_mem hp
  exact hdone i p l (List.getElem?_eq_some_iff.mp hi).1 hi hl v hv
end
inductive Reach (cs : List (List Int)) (own : Int → Option Nat) (v : Int) : Int → Prop
 | refl : Reach cs own v v
 | step {u w : Int} {p : Nat} {l : List Int} : Reach cs own v u → own u = some p → cs[p]? = some l → w ∈ l → Reach cs own v w
structure wL (σ : St) (cj : Nat) (ks : List Int) : Prop where
 at_ : ∃ cl, A3 (eJ σ cj = some cl) (mP cl) (cl.map (·.1) = ks)
structure rC (cs : List (List Int)) (own : Int → Option Nat) (v : Int) (ps : List Nat) (ks : List Int) : Prop where
 start : v ∈ ks
 Ac : ks.Nodup
 nV : ps.Nodup
 len : ps.length = ks.length
 lt : ∀ p ∈ ps, p < cs.length
 own1 : ∀ p ∈ ps, ∃ u ∈ ks, own u = some p
 own2 : ∀ u ∈ ks, ∃ p ∈ ps, own u = some p
 sub : ∀ p ∈ ps, ∀ l, cs[p]? = some l → ∀ u ∈ l, u ∈ ks
 reach : ∀ u ∈ ks, Reach cs own v u
section
variable {σ σ' : St} {j c m o : Nat} {ids : List Nat} {cs : List (List Int)} {aZ : Nat → Option Int} {own : Int → Option Nat} {M : Nat → Prop} {cj : Nat} {ks : List Int}
theorem wL.ext (h : wL σ cj ks) (e : Ext M σ σ') (hm : ¬ M cj) : wL σ' cj ks := let ⟨cl, a, b, c⟩ := h.at_; ⟨cl, e.eJ a hm, b, c⟩
theorem wL.len (h : wL σ cj ks) : ks.length ≤ 200 := by
 obtain ⟨cl, a, b, rfl⟩ := h.at_
 simpa using b.len
theorem wL.p9 (h : wL σ cj ks) (v : Int) : dK (.int v) (.obj cj) σ = some (.bool (decide (v ∉ ks)), σ) := by
 obtain ⟨cl, a, b, rfl⟩ := h.at_
 exact FV a v
theorem wL.set (h : wL σ cj ks) {v : Int} {x : V} (hv : v ∉ ks) (h0 : -100 ≤ v ∧ v < 100) : ∃ aT, mL (.obj cj) (.int v) x σ = some aT ∧ wL aT cj (ks ++ [v]) ∧ Ext (λ i => i = cj) σ aT := by
 obtain ⟨cl, a, b, rfl⟩ := h.at_
 have lt := iQ a
 exact ⟨_, vP a (by have := b.len; lia), ⟨fF cl v x, mB lt, b.set _ h0.1 h0.2, wF hv⟩, Ext.set _ rfl⟩
theorem wL.sorted (h : wL σ cj ks) (hl : ks.length ≤ 60) : mX (.obj cj) σ = some (.obj σ.length, σ ++ [.list ((cM ks).map .int)]) := by
 obtain ⟨cl, a, b, rfl⟩ := h.at_
 unfold mX
 simp only [a, Option.bind_some]
 rw [if_pos (by simpa using hl)]
theorem Ih {i : Nat} {l : List Int} (h : getL σ i = some (l.map .int)) (hl : l.length ≤ 1000) : iM (.obj i) (.obj σ.length) (σ ++ [.list []]) = some (.bool (decide (l ≠ [])), σ ++ [.list []]) := by
 have h1 := (Ext.push (M := λ _ => False) (.list [])).getL h λ h => h
 have h2 : getL (σ ++ [.list []]) σ.length = some [] := cH
 rw [CK h1 h2]
 cases l with
 | nil =>
  rw [if_neg (by simp)]
  unfold oNe
  rw [C6 h1 h2 rfl rfl]; rfl
 | cons a l => rw [if_pos (by simp at hl ⊢; lia)]; simp
structure wN (cs : List (List Int)) (own : Int → Option Nat) (v : Int) (ks : List Int) (ps : List Nat) (dn st : List Int) : Prop where
 Ac : ks.Nodup
 len : ks.length = dn.length + st.length
 mem : ∀ x, x ∈ ks ↔ x ∈ dn ∨ x ∈ st
 LN : (dn ++ st).Nodup
 xX : ps.length = dn.length
 ow : ∀ (i : Nat) (w : Int), dn[i]? = some w → own w = ps[i]?
 reach : ∀ u ∈ ks, Reach cs own v u
 start : v ∈ ks
theorem wN.nV {ps : List Nat} {v : Int} {dn st : List Int} (h : wN cs own v ks ps dn st) (K : c0 cs aZ own) : ps.Nodup := by
 rw [List.nodup_iff_pairwise_ne] at *
 rw [List.pairwise_iff_getElem]
 intro a b ha hb hab e
 have hpl := h.xX
 have d1 : dn[a]? = some dn[a] := List.getElem?_eq_getElem (by lia)
 have d2 : dn[b]? = some dn[b] := List.getElem?_eq_getElem (by lia)
 have o1 := h.ow a _ d1
 have o2 := h.ow b _ d2
 rw [List.getElem?_eq_getElem ha] at o1
 rw [List.getElem?_eq_getElem hb] at o2
 have m1 := (K.iff _ _).mpr o1
 have m2 := (K.iff _ _).mpr o2
 rw [e, m2] at m1
 have hnd := (List.nodup_append.mp h.LN).1
 rw [Option.some.inj m1] at d2
 have := rK hnd d1 d2
 lia
theorem wN.JX {ps : List Nat} {v : Int} {dn st : List Int} (h : wN cs own v ks ps dn st) {p : Nat} (hp : p ∈ ps) : ∃ u ∈ dn, own u = some p := by
 obtain ⟨i, hi⟩ := List.getElem?_of_mem hp
 have hlt := (List.getElem?_eq_some_iff.mp hi).1
 have hpl := h.xX
 have d1 : dn[i]? = some dn[i] := List.getElem?_eq_getElem (by lia)
 exact ⟨_, List.mem_of_getElem? d1, by rw [h.ow i _ d1, hi]⟩
theorem wN.NY {ps : List Nat} {v : Int} {dn st : List Int} (h : wN cs own v ks ps dn st) (K : c0 cs aZ own) : dn.length ≤ cs.length := by
 have := cU (m := List.range cs.length) (h.nV K) λ p hp => by
  obtain ⟨u, _, hu⟩ := h.JX hp
  exact List.mem_range.mpr (K.lt _ _ hu)
 rw [← h.xX]; simpa using this
noncomputable def Hq (σ σ' : St) (cs : List (List Int)) (own : Int → Option Nat) (v : Int) (r : V) : Prop :=
 bW σ σ' ∧ ((r = .none ∧ ∃ u, Reach cs own v u ∧ own u = none) ∨
 (E4 λ pj kj ps ks => A6 (r = .tup [.obj pj, .obj kj]) (getL σ' pj = some (ps.map λ p => .int (p : Nat))) (getL σ' kj = some ((cM ks).map .int)) (rC cs own v ps ks) (σ.length ≤ pj) (σ.length ≤ kj)))
theorem wN.move {ps : List Nat} {v w : Int} {dn st : List Int} {p : Nat} (h : wN cs own v ks ps dn (st ++ [w])) (ho : own w = some p) : wN cs own v ks (ps ++ [p]) (dn ++ [w]) st := by
 have hl := h.len
 have hpl := h.xX
 rw [List.length_append] at hl
 refine ⟨h.Ac, by rw [List.length_append]; lia, λ x => ?_, ?_, by rw [List.length_append, List.length_append, hpl]; rfl, λ i u hi => ?_, h.reach, h.start⟩
 ·rw [h.mem x, List.mem_append, List.mem_append]
  exact ⟨λ h => h.elim (λ h => .inl (.inl h)) λ h => h.elim .inr λ h => .inl (.inr h), λ h => h.elim (λ h => h.elim .inl λ h => .inr (.inr h)) λ h => .inr (.inl h)⟩
 ·have : ((dn ++ [w]) ++ st).Perm (dn ++ (st ++ [w])) := by rw [List.append_assoc]; exact List.perm_append_comm.append_left dn
  exact this.nodup_iff.mpr h.LN
 ·by_cases hlt : i < dn.length
  ·rw [List.getElem?_append_left hlt] at hi
   rw [h.ow i u hi, List.getElem?_append_left (by lia)]
  ·have hlt2 := (List.getElem?_eq_some_iff.mp hi).1
   rw [List.length_append] at hlt2
   have e : i = dn.length := by have : [w].length = 1 := rfl; lia
   rw [e, List.getElem?_concat_length] at hi
   cases hi
   rw [ho, e, ← hpl, List.getElem?_concat_length]
theorem wN.grow {ps : List Nat} {v u w : Int} {dn st : List Int} {p : Nat} {l : List Int} (h : wN cs own v ks ps dn st) (hin : u ∉ ks) (hw : w ∈ dn) (ho : own w = some p) (hl : cs[p]? = some l) (hu : u ∈ l) : wN cs own v (ks ++ [u]) ps dn (st ++ [u]) := by
 have hlen := h.len
 refine ⟨?_, by rw [List.length_append, List.length_append, hlen, Nat.add_assoc], λ x => ?_, ?_, h.xX, h.ow, λ z hz => ?_, List.mem_append_left _ h.start⟩
 ·rw [List.nodup_append]
  exact ⟨h.Ac, List.nodup_cons.mpr ⟨by simp, .nil⟩, λ a ha b hb e => hin (List.mem_singleton.mp hb ▸ e ▸ ha)⟩
 ·rw [List.mem_append, List.mem_append, h.mem x, or_assoc]
 ·rw [← List.append_assoc, List.nodup_append]
  exact ⟨h.LN, List.nodup_cons.mpr ⟨by simp, .nil⟩, λ a ha b hb e => hin (List.mem_singleton.mp hb ▸ e ▸ (h.mem a).mpr (List.mem_append.mp ha))⟩
 ·rcases List.mem_append.mp hz with hz | hz
  ·exact h.reach z hz
  ·rw [List.mem_singleton.mp hz]
   exact .step (h.reach w ((h.mem w).mpr (.inl hw))) ho hl hu
noncomputable def Seen (cs : List (List Int)) (own : Int → Option Nat) (dn ks : List Int) : Prop := ∀ w ∈ dn, ∀ p l, own w = some p → cs[p]? = some l → ∀ u ∈ l, u ∈ ks
structure JE (σ σ' : St) (cs : List (List Int)) (own : Int → Option Nat) (v : Int) (ks : List Int) (ps : List Nat) (dn st : List Int) : Prop where
 ext : bW σ σ'
 keys : wL σ' (σ.length + 1) ks
 pl : getL σ' σ.length = some (ps.map λ p => .int (p : Nat))
 sl : getL σ' (σ.length + 1 + 1) = some (st.map .int)
 inv : wN cs own v ks ps dn st
theorem JE.d5 {v : Int} {xN : St} {ps : List Nat} {dn st : List Int} (h : JE σ σ' cs own v ks ps dn st) (e : bW σ' xN) : JE σ xN cs own v ks ps dn st := ⟨h.ext.then e, h.keys.ext e λ z => z, e.getL h.pl λ z => z, e.getL h.sl λ z => z, h.inv⟩
theorem JE.fresh {v : Int} {ps : List Nat} {dn st : List Int} (h : JE σ σ' cs own v ks ps dn st) {z : Nat} {o : O} (hz : σ.length ≤ z) : bW σ (σ'.set z o) := h.ext.trans (M' := λ i => i = z) (Ext.set _ rfl) λ _ e => .inr (e ▸ hz)
noncomputable def KD (j n : Nat) (v : Int) (x y : Option V) : Loc := [some (.inst 1 j), some (.int v), some (.obj n), some (.obj (n + 1)), some (.obj (n + 1 + 1)), x, y]
noncomputable def PE (σ : St) (j : Nat) (cs : List (List Int)) (own : Int → Option Nat) (v : Int) (t : Nat) (ρ : Loc) (σ' : St) : Prop := E6 λ ks ps dn st x y => A4 (t = cs.length + 1 - dn.length) (ρ = KD j σ.length v x y) (JE σ σ' cs own v ks ps dn st) (Seen cs own dn ks)
noncomputable def CIn (σ : St) (j : Nat) (cs : List (List Int)) (own : Int → Option Nat) (v w : Int) (ps : List Nat) (dn l : List Int) (t : Nat) (ρ : Loc) (σ' : St) : Prop := E3 λ ks st y => A4 (ρ = KD j σ.length v (some (.int w)) y) (JE σ σ' cs own v ks ps (dn ++ [w]) st) (Seen cs own dn ks) (∀ u ∈ l.take t, u ∈ ks)
theorem C9 {Q : Fl → Loc → St → Prop} {v w : Int} {ps : List Nat} {dn l ks : List Int} {st : List Int} {p : Nat} {y : Option V} (s : MV σ j c m o ids cs aZ own) (K : c0 cs aZ own) (ho : own w = some p) (hl : cs[p]? = some l) (h : JE σ σ' cs own v ks ps (dn ++ [w]) st) (hd : Seen cs own dn ks)
  (hQ : ∀ xN ks st y, JE σ xN cs own v ks ps (dn ++ [w]) st → Seen cs own (dn ++ [w]) ks → Q .next (KD j σ.length v (some (.int w)) y) xN) :
  sp (XS.for (X.sub (X.attr 1 37 (X.var 0)) (X.sub (X.attr 1 33 (X.var 0)) (X.var 5))) (XA.name 6) (XS.seq (XS.ite (X.test (X.bin dK (X.var 6) (X.var 3))) (XS.seq (XS.assign (X.pure (.bool true)) (XA.item (X.var 3) (X.var 6))) (XS.seq (XS.drop (X.fH eF (X.var 4) (X.aB (X.var 6) X.aH))) XS.nil)) XS.nil) XS.nil) 1000) (KD j σ.length v (some (.int w)) y) σ' Q := by
 have s3 := s.d5 h.ext
 obtain ⟨id, hid, hcg, O6, _⟩ := s3.choice hl
 have uR := (s.uR p id l hid hl).1
 have hll := s.lens l (List.mem_of_getElem? hl)
 refine EL ⟨.obj id, σ', bO (bQ rfl (bC s3.hs rfl)) (bO (bQ rfl (bC s3.hs rfl)) rfl (s3.EZ ho)) hcg, l.map .int, CIn σ j cs own v w ps dn l, ⟨ks, st, y, rfl, h, hd, (λ u hu => by cases hu)⟩, by rw [List.length_map]; lia, ?_, ?_, ?_⟩
 ·rintro t ρ k8 ⟨ks, st, y, rfl, h4, _⟩ ht
  exact Src.list (h4.ext.getL uR λ z => z) k8 .refl t ht
 ·rintro t vv ρ k8 hvv ⟨ks, st, y, rfl, h4, hd4, ht4⟩
  rw [List.getElem?_map] at hvv
  obtain ⟨u, hu, rfl⟩ := Option.map_eq_some_iff.mp hvv
  have hul : u ∈ l := List.mem_of_getElem? hu
  have hur := s.vals l (List.mem_of_getElem? hl) u hul
  have DZ : ∀ z ∈ l.take (t + 1), z ∈ ks ∨ z = u := by
   intro z hz
   obtain ⟨hlt, e⟩ := List.getElem?_eq_some_iff.mp hu
   rw [List.take_succ_eq_append_getElem hlt, List.mem_append, List.mem_singleton, e] at hz
   exact hz.imp (ht4 z) λ h => h
  refine ⟨_, _, rfl, ?_⟩
  have hni := h4.keys.p9 u
  by_cases hin : u ∈ ks
  ·rw [decide_eq_false (λ h => h hin)] at hni
   exact c6 (aP (aQ rfl rfl hni)) (dJ ⟨ks, st, _, rfl, h4, hd4, λ z hz => (DZ z hz).elim (λ h => h) λ e => e ▸ hin⟩)
  ·rw [decide_eq_true hin] at hni
   obtain ⟨pM, e5, hK5, E5⟩ := h4.keys.set (x := .bool true) hin hur
   have hS5 := E5.getL h4.sl (Nat.succ_ne_self _)
   have hP5 := E5.getL h4.pl (Nat.ne_of_lt (Nat.lt_succ_self _))
   have hlen4 := h4.inv.len
   have hkl4 := h4.keys.len
   have E6 : Ext (λ i => i = σ.length + 1 + 1) pM (pM.set (σ.length + 1 + 1) (.list (st.map .int ++ [.int u]))) := Ext.set _ rfl
   have E05 : bW σ pM := h4.ext.trans E5 λ _ e => .inr (e ▸ Nat.le_succ _)
   refine kY (aP (aQ rfl rfl hni)) (fY rfl (Gw rfl rfl e5) (jO (fM rfl (d9 hS5) rfl (fR hS5 (by rw [List.length_map]; lia))) rfl (dJ (dJ ⟨ks ++ [u], st ++ [u], _, rfl, ⟨E05.trans E6 λ _ e => .inr (e ▸ Nat.le_trans (Nat.le_succ _) (Nat.le_succ _)), hK5.ext E6 (Nat.ne_of_lt (Nat.lt_succ_self _)), E6.getL hP5 (Nat.ne_of_lt (Nat.lt_succ_of_lt (Nat.lt_succ_self _))), ?_, h4.inv.grow hin (List.mem_append_right _ (.head _)) ho hl hul⟩, λ w' hw' p' l' ho' hl' z hz => List.mem_append_left _ (hd4 w' hw' p' l' ho' hl' z hz), λ z hz => (DZ z hz).elim (List.mem_append_left _) λ e => e ▸ List.mem_append_right _ (.head _)⟩))))
   rw [c8 (bE hS5), List.map_append]; rfl
 ·rintro ρ k8 ⟨ks, st, y, rfl, h4, hd4, ht4⟩
  refine hQ k8 ks st y h4 λ w' hw' p' l' ho' hl' z hz => ?_
  rcases List.mem_append.mp hw' with hw' | hw'
  ·exact hd4 w' hw' p' l' ho' hl' z hz
  ·rw [List.mem_singleton.mp hw', ho] at ho'; cases ho'
   rw [hl] at hl'; cases hl'
   exact ht4 z (by rw [List.length_map, List.take_length]; exact hz)
theorem FD {v : Int} {ps : List Nat} {dn : List Int} (h : JE σ σ' cs own v ks ps dn []) (K : c0 cs aZ own) (hd : Seen cs own dn ks) : rC cs own v ps ks := by
 have hI := h.inv
 have hdk : ∀ u, u ∈ ks ↔ u ∈ dn := λ u => (hI.mem u).trans ⟨λ h => h.elim (λ h => h) (λ h => by cases h), .inl⟩
 refine ⟨hI.start, hI.Ac, hI.nV K, hI.xX.trans (by rw [hI.len]; rfl), λ p hp => ?_, λ p hp => ?_, λ u hu => ?_, λ p hp l hl u hu => ?_, hI.reach⟩
 ·obtain ⟨u, _, h⟩ := hI.JX hp; exact K.lt _ _ h
 ·obtain ⟨u, h1, h2⟩ := hI.JX hp; exact ⟨u, (hdk u).mpr h1, h2⟩
 ·obtain ⟨i, hi⟩ := List.getElem?_of_mem ((hdk u).mp hu)
  have hlt := (List.getElem?_eq_some_iff.mp hi).1
  have hpl := hI.xX
  have hpi : ps[i]? = some ps[i] := List.getElem?_eq_getElem (by lia)
  exact ⟨_, List.mem_of_getElem? hpi, by rw [hI.ow i u hi, hpi]⟩
 ·obtain ⟨w, h1, h2⟩ := hI.JX hp
  exact hd w h1 p l h2 hl u hu
theorem Ku {ρ : Loc} {σ aT : St} {f : X (List (V × V))} {vs : List (V × V)} {l : List (Int × V)} (h : f ρ σ = some (vs, aT)) (hl : intKeys vs = some l) : X.Cc f ρ σ = some (.obj aT.length, aT ++ [.bX (qJ l)]) := by
 unfold X.Cc X.bind; simp only [h, X.lift, hl]; rfl
theorem Em (s : MV σ j c m o ids cs aZ own) (K : c0 cs aZ own) {v : Int} (hv : -100 ≤ v ∧ v < 100) :
  wp (dM [.inst 1 j, .int v] σ) λ r σ' => Hq σ σ' cs own v r := by
 have hsm := s.small
 have C0 : JE σ (σ ++ [.list [], .bX [(v, .bool true)], .list [.int v]]) cs own v [v] [] [] [v] := by
  refine ⟨Ext.EW _, ⟨[(v, .bool true)], ?_, ⟨(λ p hp => by rw [List.mem_singleton.mp hp]; exact hv), List.nodup_cons.mpr ⟨by simp, .nil⟩⟩, rfl⟩, ?_, ?_, ⟨List.nodup_cons.mpr ⟨by simp, .nil⟩, rfl, (λ x => by simp), List.nodup_cons.mpr ⟨by simp, .nil⟩, rfl, (λ i w h => by cases h), (λ u hu => by rw [List.mem_singleton.mp hu]; exact .refl), .head _⟩⟩
  ·unfold eJ; simp
  ·unfold getL; simp
  ·unfold getL; rw [List.getElem?_append_right (by lia), show σ.length + 1 + 1 - σ.length = 2 by lia]; rfl
 refine wp_runF rfl (fY (v := .tup [.obj σ.length, .obj (σ.length + 1), .obj (σ.length + 1 + 1)]) (aT := σ ++ [.list [], .bX [(v, .bool true)], .list [.int v]]) ?_ rfl ?_)
 ·have e1 := Ku (f := X.lX (X.var 1) (X.pure (.bool true)) X.HR) (ρ := [some (.inst 1 j), some (.int v), none, none, none, none, none]) (σ := σ ++ [O.list []]) rfl rfl
  have e2 := mY (f := X.aB (X.var 1) X.aH) (ρ := [some (.inst 1 j), some (.int v), none, none, none, none, none]) (σ := σ ++ [O.list []] ++ [O.bX [(v, .bool true)]]) (aI rfl rfl) (Nat.le_of_ble_eq_true rfl)
  rw [List.length_append] at e1
  rw [show (σ ++ [O.list []] ++ [O.bX [(v, .bool true)]]).length = σ.length + 1 + 1 by rw [List.length_append, List.length_append]; rfl] at e2
  have e := k5 (aI (mY (f := X.aH) rfl (Nat.zero_le _)) (aI e1 (aI (g := X.aH) (l := []) e2 rfl))) (Nat.le_of_ble_eq_true rfl)
  rw [List.append_assoc, List.append_assoc] at e
  exact e
 refine jB (zB (PE σ j cs own v) ?_ 1000 (cs.length + 1 - 0) _ _ ⟨[v], [], [], [v], none, none, rfl, rfl, C0, (λ w h => by cases h)⟩ (by lia))
 rintro t ρ aT ⟨ks, ps, dn, st, x, y, rfl, rfl, h, hd⟩
 have hlen := h.inv.len
 have hdl := h.inv.NY K
 have hkl := h.keys.len
 have hP1 : bW aT (aT ++ [O.list []]) := Ext.push _
 have hne := Ih h.sl (by lia)
 have h1 := h.d5 hP1
 refine ⟨decide (st ≠ []), _, aP (aQ rfl (mY rfl (Nat.zero_le _)) hne), ?_⟩
 generalize aT ++ [O.list []] = bH at h1 hP1
 by_cases hst : st = []
 ·subst hst
  have hso := h1.keys.sorted (by rw [hlen]; have : ([] : List Int).length = 0 := rfl; lia)
  refine lW (k5 (aI rfl (aI (aN rfl hso) rfl)) (Nat.le_of_ble_eq_true rfl)) ⟨h1.ext.then (Ext.push _), .inr ⟨_, _, ps, ks, rfl, (Ext.push (M := λ _ => False) _).getL h1.pl λ z => z, cH, FD h1 K hd, Nat.le_refl _, h1.ext.1⟩⟩
 ·obtain ⟨st', w, rfl⟩ : ∃ st' w, st = st' ++ [w] := ⟨st.dropLast, st.getLast hst, (List.dropLast_concat_getLast hst).symm⟩
  rw [decide_eq_true hst, if_pos rfl]
  have hwk : w ∈ ks := (h1.inv.mem w).mpr (.inr (List.mem_append_right _ (.head _)))
  have hS1 := h1.sl
  have Kj : FA [.obj (σ.length + 1 + 1)] bH = some (.int w, bH.set (σ.length + 1 + 1) (.list (st'.map .int))) := by
   show (getL bH _).bind _ = _
   rw [hS1, Option.bind_some, if_pos (by rw [List.length_map]; lia)]
   simp
  have E2 : Ext (λ i => i = σ.length + 1 + 1) bH (bH.set (σ.length + 1 + 1) (.list (st'.map .int))) := Ext.set _ rfl
  have hS2 : getL (bH.set (σ.length + 1 + 1) (.list (st'.map .int))) (σ.length + 1 + 1) = some (st'.map .int) := c8 (bE hS1)
  have hP3 := E2.getL h1.pl (Nat.ne_of_lt (Nat.lt_succ_of_lt (Nat.lt_succ_self _)))
  have hK3 := h1.keys.ext E2 (Nat.ne_of_lt (Nat.lt_succ_self _))
  have E02 := h1.fresh (o := .list (st'.map .int)) (Nat.le_trans (Nat.le_succ _) (Nat.le_succ (σ.length + 1)))
  refine fY (fM rfl (d9 hS1) rfl Kj) rfl ?_
  clear Kj E2
  generalize bH.set (σ.length + 1 + 1) (O.list (st'.map V.int)) = dT at hS2 hP3 hK3 E02
  have s2 := s.d5 E02
  have hon := s2.HS w
  cases ho : own w with
  | none =>
   rw [ho] at hon
   exact zQ (aP (aQ rfl (bQ rfl (bC s2.hs rfl)) hon)) rfl ⟨E02, .inl ⟨rfl, w, h.inv.reach w hwk, ho⟩⟩
  | some p =>
   rw [ho] at hon
   have At := K.lt _ _ ho
   have hl : cs[p]? = some cs[p] := List.getElem?_eq_getElem At
   generalize cs[p] = l at hl
   have lP := bE hP3
   have E3 : Ext (λ i => i = σ.length) dT (dT.set σ.length (.list ((ps.map λ p => V.int ((p : Nat) : Int)) ++ [.int (p : Nat)]))) := Ext.set _ rfl
   have hpl := h.inv.xX
   refine c6 (aP (aQ rfl (bQ rfl (bC s2.hs rfl)) hon)) (jO (fM rfl (d9 hP3) (aI (bO (bQ rfl (bC s2.hs rfl)) rfl (s2.EZ ho)) rfl) (fR hP3 (by rw [List.length_map]; lia))) rfl (jB (C9 (ps := ps ++ [p]) (dn := dn) (st := st') (ks := ks) s K ho hl ⟨E02.trans E3 λ _ e => .inr (e ▸ Nat.le_refl _), hK3.ext E3 (Nat.succ_ne_self _), ?_, E3.getL hS2 (Ne.symm (Nat.ne_of_lt (Nat.lt_succ_of_lt (Nat.lt_succ_self _)))), h.inv.move ho⟩ hd ?_)))
   ·rw [c8 lP, List.map_append]; rfl
   ·intro k8 Qa P0 y4 h4 hd4
    have Pa := h4.inv.NY K
    rw [List.length_append] at Pa
    refine dJ ⟨cs.length + 1 - (dn ++ [w]).length, ?_, Qa, ps ++ [p], dn ++ [w], P0, _, _, rfl, rfl, h4, hd4⟩
    rw [List.length_append]
    have : [w].length = 1 := rfl
    lia
end
noncomputable def MG (cs : List (List Int)) : Prop := ∀ (S : List Nat) (T : List Int), S.Nodup → (∀ q ∈ S, q < cs.length) → (∀ q ∈ S, ∀ l, cs[q]? = some l → ∀ u ∈ l, u ∈ T) → S.length ≤ T.length
noncomputable def jH (cs : List (List Int)) (p : Nat) (v : Int) : Prop := ∀ (S : List Nat) (T : List Int), S.Nodup → (∀ q ∈ S, q < cs.length ∧ q ≠ p) → (∀ q ∈ S, ∀ l, cs[q]? = some l → ∀ u ∈ l, u ≠ v → u ∈ T) → S.length ≤ T.length
noncomputable def AU (cs : List (List Int)) (own : Int → Option Nat) (p : Nat) (v : Int) : Prop := ∃ w, Reach cs own v w ∧ (own w = none ∨ own w = some p)
noncomputable def Full (cs : List (List Int)) (aZ : Nat → Option Int) : Prop := ∀ p, p < cs.length → ∃ v, aZ p = some v
section
variable {cs : List (List Int)} {aZ : Nat → Option Int} {own : Int → Option Nat}
noncomputable def k0 (aZ : Nat → Option Int) (S : List Nat) : List Int := S.filterMap aZ
theorem rN (hf : Full cs aZ) {S : List Nat} (hS : ∀ q ∈ S, q < cs.length) : (k0 aZ S).length = S.length := by
 unfold k0
 induction S with
 | nil => rfl
 | cons q S ih =>
  obtain ⟨v, hv⟩ := hf q (hS q (.head _))
  rw [List.filterMap_cons, hv]
  simp [ih λ q hq => hS q (.tail _ hq)]
theorem jV {S : List Nat} {v : Int} : v ∈ k0 aZ S ↔ ∃ q ∈ S, aZ q = some v := by
 unfold k0; simp [List.mem_filterMap]
theorem w6 (K : c0 cs aZ own) {S : List Nat} (h : S.Nodup) : (k0 aZ S).Nodup := by
 unfold k0
 induction S with
 | nil => simp
 | cons q S ih =>
  rw [List.nodup_cons] at h
  rw [List.filterMap_cons]
  cases hv : aZ q with
  | none => exact ih h.2
  | some v =>
   dsimp only
   rw [List.nodup_cons]
   refine ⟨λ hm => ?_, ih h.2⟩
   obtain ⟨q', hq', e⟩ := jV.mp hm
   have a := (K.iff q v).mp hv
   have b := (K.iff q' v).mp e
   rw [a] at b; cases b
   exact h.1 hq'
theorem Gh (K : c0 cs aZ own) (hf : Full cs aZ) : MG cs := by
 intro S T hn hS hT
 rw [← rN hf hS]
 refine cU (w6 K hn) λ v hv => ?_
 obtain ⟨q, hq, e⟩ := jV.mp hv
 have hl : cs[q]? = some (cs[q]'(hS q hq)) := List.getElem?_eq_getElem (hS q hq)
 exact hT q hq _ hl v (K.mem q v _ e hl)
theorem lR (K : c0 cs aZ own) (hf : Full cs aZ) {p : Nat} {v : Int} (g : AU cs own p v) : jH cs p v := by
 intro S T hn hS hT
 have hS' : ∀ q ∈ S, q < cs.length := λ q hq => (hS q hq).1
 have hB := rN hf hS'
 have hBn := w6 K hn
 refine Classical.byContradiction λ hlt => ?_
 rw [Nat.not_le] at hlt
 have MZ : ∀ b ∈ k0 aZ S, b ≠ v → b ∈ T := by
  intro b hb hne
  obtain ⟨q, hq, e⟩ := jV.mp hb
  have hl : cs[q]? = some (cs[q]'(hS' q hq)) := List.getElem?_eq_getElem (hS' q hq)
  exact hT q hq _ hl b (K.mem q b _ e hl) hne
 have hv : v ∈ k0 aZ S := by
  refine Classical.byContradiction λ h => ?_
  have := cU hBn λ b hb => MZ b hb (by rintro rfl; exact h hb)
  rw [hB] at this
  exact absurd this (Nat.not_le.mpr hlt)
 have hE : ((k0 aZ S).erase v).length = S.length - 1 := by rw [List.length_erase_of_mem hv, hB]
 have hEn : ((k0 aZ S).erase v).Nodup := hBn.erase v
 have Ov : ∀ b ∈ (k0 aZ S).erase v, b ∈ T := λ b hb => by
  rw [hBn.mem_erase_iff] at hb
  exact MZ b hb.2 hb.1
 have closed : ∀ q ∈ S, ∀ l, cs[q]? = some l → ∀ u ∈ l, u ∈ k0 aZ S := by
  intro q hq l hl u hu
  by_cases huv : u = v
  ·subst huv; exact hv
  ·refine Classical.byContradiction λ h => ?_
   have huT := hT q hq l hl u hu huv
   have := cU (l := u :: (k0 aZ S).erase v) (m := T) (by
    rw [List.nodup_cons]; exact ⟨λ z => h (List.mem_of_mem_erase z), hEn⟩) λ x hx => by
     rcases List.mem_cons.mp hx with rfl | hx
     ·exact huT
     ·exact Ov x hx
   rw [List.length_cons, hE] at this
   exact absurd (Nat.le_trans (Nat.le_add_of_sub_le (Nat.le_refl _)) this) (Nat.not_le.mpr hlt)
 obtain ⟨w, hr, hend⟩ := g
 have key : ∀ w, Reach cs own v w → w ∈ k0 aZ S := by
  intro w hr
  induction hr with
  | refl => exact hv
  | step _ ho hl hm ih =>
   obtain ⟨q, hq, e⟩ := jV.mp ih
   have := (K.iff _ _).mp e
   rw [ho] at this; cases this
   exact closed _ hq _ hl _ hm
 obtain ⟨q, hq, e⟩ := jV.mp (key w hr)
 have := (K.iff _ _).mp e
 rcases hend with h | h
 ·rw [h] at this; cases this
 ·rw [h] at this; cases this
  exact (hS _ hq).2 rfl
theorem AI {ps : List Nat} {ks : List Int} {p : Nat} {v : Int} (h : rC cs own v ps ks) (hp : p ∉ ps) : ¬ jH cs p v := by
 intro H
 have := H ps (ks.erase v) h.nV (λ q hq => ⟨h.lt q hq, by rintro rfl; exact hp hq⟩) λ q hq l hl u hu hne => (List.mem_erase_of_ne hne).mpr (h.sub q hq l hl u hu)
 rw [List.length_erase_of_mem h.start, h.len] at this
 have := List.length_pos_of_mem h.start
 lia
theorem En {ps : List Nat} {ks : List Int} {p : Nat} {v : Int} (h : rC cs own v ps ks) (hp : p ∈ ps) : AU cs own p v := by
 obtain ⟨u, hu, ho⟩ := h.own1 p hp
 exact ⟨u, h.reach u hu, .inr ho⟩
theorem Hu {ps : List Nat} {ks : List Int} (h : Jt cs ps ks) : ¬ MG cs := by
 intro H
 have := H ps ks h.nV h.lt h.sub
 have := h.len
 lia
theorem Reach.trans {u v w : Int} (a : Reach cs own u v) (b : Reach cs own v w) : Reach cs own u w := by
 induction b with
 | refl => exact a
 | step _ ho hl hm ih => exact .step ih ho hl hm
open Classical in
theorem Ha (K : c0 cs aZ own) (hf : Full cs aZ) {p : Nat} {v : Int} (H : jH cs p v) : AU cs own p v := by
 refine Classical.byContradiction λ hg => ?_
 have hown : ∀ w, Reach cs own v w → ∃ q, own w = some q ∧ q ≠ p := by
  intro w hr
  cases ho : own w with
  | none => exact absurd ⟨w, hr, .inl ho⟩ hg
  | some q => exact ⟨q, rfl, by rintro rfl; exact hg ⟨w, hr, .inr ho⟩⟩
 let S := (List.range cs.length).filter λ q => decide (∃ w, Reach cs own v w ∧ own w = some q)
 have Ij : ∀ q, q ∈ S ↔ ∃ w, Reach cs own v w ∧ own w = some q := by
  intro q
  simp only [S, List.mem_filter, List.mem_range, decide_eq_true_eq]
  exact ⟨λ h => h.2, λ ⟨w, a, b⟩ => ⟨K.lt _ _ b, w, a, b⟩⟩
 have hSn : S.Nodup := (List.nodup_range).sublist List.filter_sublist
 have hS' : ∀ q ∈ S, q < cs.length := λ q hq => by
  obtain ⟨w, _, b⟩ := (Ij q).mp hq; exact K.lt _ _ b
 have hvS : v ∈ k0 aZ S := by
  obtain ⟨q, ho, _⟩ := hown v .refl
  exact jV.mpr ⟨q, (Ij q).mpr ⟨v, .refl, ho⟩, (K.iff _ _).mpr ho⟩
 have := H S ((k0 aZ S).erase v) hSn (λ q hq => ⟨hS' q hq, λ z => by
  obtain ⟨w, a, b⟩ := (Ij q).mp hq
  obtain ⟨q', c, d⟩ := hown w a
  rw [b] at c; cases c; exact d z⟩) λ q hq l hl u hu hne => by
   obtain ⟨w, a, b⟩ := (Ij q).mp hq
   have hru : Reach cs own v u := .step a b hl hu
   obtain ⟨q', c, _⟩ := hown u hru
   exact (List.mem_erase_of_ne hne).mpr (jV.mpr ⟨q', (Ij q').mpr ⟨u, hru, c⟩, (K.iff _ _).mpr c⟩)
 rw [List.length_erase_of_mem hvS, rN hf hS'] at this
 have h2 := List.length_pos_of_mem hvS
 rw [rN hf hS'] at h2
 lia
theorem second (K : c0 cs aZ own) (hf : Full cs aZ) {cs' : List (List Int)} (hlen : cs'.length = cs.length) (hcs : ∀ (p : Nat) (l l' : List Int), cs[p]? = some l → cs'[p]? = some l' → ∀ v, v ∈ l' ↔ v ∈ l ∧ jH cs p v) :
  c0 cs' aZ own ∧ Full cs' aZ ∧ ∀ (p : Nat) (l' : List Int) (v : Int), cs'[p]? = some l' → v ∈ l' → jH cs' p v := by
 have get : ∀ {p : Nat} {l' : List Int}, cs'[p]? = some l' → ∃ l, cs[p]? = some l := λ {p l'} h => by
  have := (List.getElem?_eq_some_iff.mp h).1
  exact ⟨_, List.getElem?_eq_getElem (by lia)⟩
 have get' : ∀ {p : Nat} {l : List Int}, cs[p]? = some l → ∃ l', cs'[p]? = some l' := λ {p l} h => by
  have := (List.getElem?_eq_some_iff.mp h).1
  exact ⟨_, List.getElem?_eq_getElem (by lia)⟩
 have K' : c0 cs' aZ own := ⟨K.iff, λ p v h => by rw [hlen]; exact K.lt p v h, λ p v l' h hl' => by
  obtain ⟨l, hl⟩ := get hl'
  exact (hcs p l l' hl hl' v).mpr ⟨K.mem p v l h hl, lR K hf ⟨v, .refl, .inr ((K.iff _ _).mp h)⟩⟩⟩
 have hf' : Full cs' aZ := λ p hp => hf p (by lia)
 refine ⟨K', hf', λ p l' v hl' hv => ?_⟩
 obtain ⟨l, hl⟩ := get hl'
 obtain ⟨hvl, hH⟩ := (hcs p l l' hl hl' v).mp hv
 obtain ⟨z, hr, hend⟩ := Ha K hf hH
 have key : ∀ u, Reach cs own v u → Reach cs own u z → Reach cs' own v u := by
  intro u hu
  induction hu with
  | refl => intro _; exact .refl
  | step hu0 ho O0 hm ih =>
   rename_i u0 u q lq
   intro huz
   have h1 : Reach cs own u0 z := Reach.trans (.step .refl ho O0 hm) huz
   obtain ⟨lq', NG⟩ := get' O0
   refine .step (ih h1) ho NG ((hcs q lq lq' O0 NG u).mpr ⟨hm, lR K hf ?_⟩)
   rcases hend with h | h
   ·exact ⟨z, huz, .inl h⟩
   ·exact ⟨u0, (Reach.trans huz (.step .refl h hl hvl)).trans hu0, .inr ho⟩
 exact lR K' hf' ⟨z, key z hr .refl, hend⟩
end
theorem wp_fNew {c : Nat} {F : FF} {vs : List V} {σ : St} {Q : V → St → Prop} (h : wp (F (.inst c σ.length :: vs) (σ ++ [.aW []])) λ r σ' => r = .none ∧ Q (.inst c σ.length) σ') : wp (fNew c F vs σ) Q := by
 obtain ⟨r, s, e, rfl, q⟩ := h
 unfold fNew
 rw [e]; exact wp_some.mpr q
noncomputable def aK (l : List Nat) : List V := l.map λ x => .int (x : Nat)
theorem PZ {a b c d : Nat} (h1 : a < b) (h2 : b < c) (h3 : c < d) : [a, b, c, d].Nodup := by
 simp only [List.nodup_cons, List.mem_cons, List.not_mem_nil, or_false, not_or]
 exact ⟨⟨Nat.ne_of_lt h1, Nat.ne_of_lt (Nat.lt_trans h1 h2), Nat.ne_of_lt (Nat.lt_trans h1 (Nat.lt_trans h2 h3))⟩, ⟨Nat.ne_of_lt h2, Nat.ne_of_lt (Nat.lt_trans h2 h3)⟩, Nat.ne_of_lt h3, id, .nil⟩
section
variable {σ σ' : St} {i a f t mk nw : Nat} {doms firsts : List (List (Int × Int))} {trail marks : List V} {failed : Bool} {clash : List V}
inductive Lq (aT : St) (doms : List (List (Int × Int))) (scope : List Nat) (a b c : Option V) (k : Nat) (ρ : Loc) (σ' : St) (x : Option V) (ids : List Nat) : Prop
 | intro (e : ρ = [a, b, c, x]) (E : bW aT σ') (len : ids.length = k) (g : getL σ' aT.length = some (ids.map .obj)) (h : ∀ (p id x : Nat), ids[p]? = some id → scope[p]? = some x → getL σ' id = some ((aX (doms.getD x [])).map .int) ∧ aT.length < id)
theorem Da (s : SV σ i a f t mk nw doms firsts trail marks failed clash) {scope : List Nat} {l0 : Option V} (h0 : scope.length ≤ 10) (h1 : doms.length ≤ 100) (hsc : ∀ x ∈ scope, x < doms.length) (hg : ∀ rs ∈ doms, Good rs ∧ (aX rs).length ≤ 20) :
  xp (X.f9 [3] (X.var 2) (XA.name 3) none (X.call rB (X.aB (X.cV 0 36 kM (X.var 1) (X.aB (X.var 3) X.aH)) X.aH)) 1000) [l0, some (.inst 0 i), some (.tup (aK scope)), none] σ λ r σ' => r = .obj σ.length ∧ E2 λ x ids => Lq σ doms scope l0 (some (.inst 0 i)) (some (.tup (aK scope))) scope.length [l0, some (.inst 0 i), some (.tup (aK scope)), x] σ' x ids := by
 have hsl : (aK scope).length = scope.length := List.length_map _
 refine tR ⟨_, _, rfl, aK scope, λ k ρ σ' => E2 (Lq σ doms scope l0 (some (.inst 0 i)) (some (.tup (aK scope))) k ρ σ'), ⟨none, [], rfl, .push _, rfl, cH, λ p id x h => by cases h⟩, hsl ▸ Nat.lt_of_le_of_lt h0 (by decide), rfl, λ k ρ σ' _ _ => rfl, λ k xx ρ bH hx I => ?_, λ ρ σ' I => ?_⟩
 ·obtain ⟨y, ids, rfl, E2, hk, hL, uR⟩ := I
  unfold aK at hx
  rw [List.getElem?_map] at hx
  obtain ⟨x, hx', rfl⟩ := Option.map_eq_some_iff.mp hx
  have hxd := hsc x (List.mem_of_getElem? hx')
  have hks := (List.getElem?_eq_some_iff.mp hx').1
  have hgd := hg doms[x] (List.getElem_mem hxd)
  have NN : doms.getD x [] = doms[x] := by rw [List.getD_eq_getElem?_getD, List.getElem?_eq_getElem hxd]; rfl
  have s2 := s.d5 E2
  obtain ⟨_, dT, e3, rfl, rfl⟩ := Ei s2 hxd (Nat.le_trans h1 (by decide))
  obtain ⟨_, k8, e4, id, rfl, hid, hv, E4⟩ := wO (σ := dT) (hgd.1.small hgd.2) (Nat.le_trans hgd.2 (by decide))
  have hL4 := E4.getL hL λ h => h
  have l3 := bE hL
  have hi := Nat.lt_of_lt_of_le l3 hid
  have hb : (ids.map V.obj).length ≤ 100000 := by rw [List.length_map, hk]; exact Nat.le_trans (Nat.le_of_lt hks) (Nat.le_trans h0 (by decide))
  refine ⟨_, _, rfl, true, _, rfl, CP ⟨_, _, aN (aI (dC rfl (s2.inst rfl) rfl e3) rfl) e4, _, hL4, hb, ⟨_, ids ++ [id], rfl, (E2.wP E4).trans (M' := λ i => i = σ.length) (.set _ rfl) (λ i h => .inr (h ▸ Nat.le_refl _)), by rw [List.length_append, hk]; rfl, by rw [c8 (bE hL4), List.map_append]; rfl, λ p id' x' hp hx2 => ?_⟩⟩⟩
  by_cases hlt : p < ids.length
  ·rw [List.getElem?_append_left hlt] at hp
   obtain ⟨g1, g2⟩ := uR p id' x' hp hx2
   exact ⟨(bS (Nat.ne_of_gt g2)).trans (E4.getL g1 λ h => h), g2⟩
  ·have hp2 := (List.getElem?_eq_some_iff.mp hp).1
   rw [List.length_append] at hp2
   have : p = ids.length := Nat.le_antisymm (Nat.lt_succ_iff.mp hp2) (Nat.le_of_not_lt hlt)
   subst this
   rw [List.getElem?_concat_length] at hp; cases hp
   rw [hk, hx'] at hx2; cases hx2
   exact ⟨(bS (Nat.ne_of_gt hi)).trans (hv.trans (by rw [NN])), hi⟩
 ·obtain ⟨x, ids, rfl, E, len, g, h⟩ := I
  exact ⟨rfl, x, ids, rfl, E, len.trans hsl, g, h⟩
theorem Br (s : SV σ i a f t mk nw doms firsts trail marks failed clash) {scope : List Nat} (h0 : scope.length ≤ 10) (h1 : doms.length ≤ 100) (hsc : ∀ x ∈ scope, x < doms.length) (hg : ∀ rs ∈ doms, Good rs ∧ (aX rs).length ≤ 20) :
  wp (fNew 1 iS [.inst 0 i, .tup (aK scope)] σ) λ r σ' => E5 λ j c m o ids => A4 (r = .inst 1 j) ((∀ z ∈ [j, c, m, o], σ.length ≤ z) ∧ ∀ z ∈ ids, σ.length ≤ z) (MV σ' j c m o ids (scope.map λ x => aX (doms.getD x [])) (λ _ => none) (λ _ => none)) (bW σ σ') := by
 have P1 : bW σ (σ ++ [O.aW []]) := .push _
 have hsl : (aK scope).length = scope.length := List.length_map _
 obtain ⟨_, bH, e2, rfl, x, ids, _, E2, hk, hL, uR⟩ := Da (l0 := some (.inst 1 σ.length)) (s.d5 P1) h0 h1 hsc hg
 have hj2 : bV bH σ.length = some [] := E2.bV Aw id
 have lc : (σ ++ [O.aW []]).length = σ.length + 1 := List.length_append
 have lL := bE hL
 rw [lc] at uR e2 lL hL
 have lj := fL hj2
 have q3 : bV (bH.set σ.length (.aW [(37, .obj (σ.length + 1))])) σ.length = some [(37, .obj (σ.length + 1))] := kG lj
 have E3 : Ext (λ i => i = σ.length) bH (bH.set σ.length (.aW [(37, .obj (σ.length + 1))])) := .set _ rfl
 have l3 : (bH.set σ.length (.aW [(37, .obj (σ.length + 1))])).length = bH.length := List.length_set
 have a2 : vQ 1 37 (.inst 1 σ.length) (.obj (σ.length + 1)) bH = some (bH.set σ.length (.aW [(37, .obj (σ.length + 1))])) := j7 hj2 (Nat.zero_le _)
 generalize bH.set σ.length (.aW [(37, .obj (σ.length + 1))]) = dT at q3 E3 l3 a2
 have l4 : (dT ++ [O.list [V.none]]).length = bH.length + 1 := by rw [List.length_append, l3]; rfl
 have hmul : xY (.obj dT.length) (.int (scope.length : Nat)) (dT ++ [O.list [V.none]]) = some (.obj (bH.length + 1), dT ++ [O.list [V.none]] ++ [O.list (List.replicate scope.length V.none)]) := by
  unfold xY
  dsimp only
  rw [cH (σ := dT)]
  dsimp only [Option.bind]
  rw [if_pos ⟨by lia, by lia⟩]
  simp [l3]
 have g5 : getL (dT ++ [O.list [V.none]] ++ [O.list (List.replicate scope.length V.none)]) (bH.length + 1) = some (List.replicate scope.length V.none) := l4 ▸ cH
 have E5 : Ext (λ i => i = σ.length) bH (dT ++ [O.list [V.none]] ++ [O.list (List.replicate scope.length V.none)]) := E3.then (.then (.push _) (.push _))
 have q5 : bV (dT ++ [O.list [V.none]] ++ [O.list (List.replicate scope.length V.none)]) σ.length = some [(37, .obj (σ.length + 1))] := (Ext.push (M := λ _ => False) _).bV ((Ext.push (M := λ _ => False) _).bV q3 id) id
 have l5 : (dT ++ [O.list [V.none]] ++ [O.list (List.replicate scope.length V.none)]).length = bH.length + 2 := by rw [List.length_append, l4]; rfl
 generalize dT ++ [O.list [V.none]] ++ [O.list (List.replicate scope.length V.none)] = pM at hmul g5 E5 q5 l5
 have a5 : vQ 1 34 (.inst 1 σ.length) (.obj (bH.length + 1)) pM = some (pM.set σ.length (.aW [(37, .obj (σ.length + 1)), (34, .obj (bH.length + 1))])) := j7 q5 (Nat.le_of_ble_eq_true rfl)
 have q6 : bV (pM.set σ.length (.aW [(37, .obj (σ.length + 1)), (34, .obj (bH.length + 1))])) σ.length = some [(37, .obj (σ.length + 1)), (34, .obj (bH.length + 1))] := kG (fL q5)
 have l6 : (pM.set σ.length (.aW [(37, .obj (σ.length + 1)), (34, .obj (bH.length + 1))])).length = bH.length + 2 := List.length_set.trans l5
 have E6 : Ext (λ i => i = σ.length) bH (pM.set σ.length (.aW [(37, .obj (σ.length + 1)), (34, .obj (bH.length + 1))])) := E5.then (.set _ rfl)
 have n3 : σ.length < σ.length + 1 := Nat.lt_succ_self _
 have nm : σ.length < bH.length + 1 := Nat.lt_succ_of_lt lj
 have g6 : getL (pM.set σ.length (.aW [(37, .obj (σ.length + 1)), (34, .obj (bH.length + 1))])) (bH.length + 1) = some (List.replicate scope.length V.none) := (bS (Nat.ne_of_gt nm)).trans g5
 generalize pM.set σ.length (.aW [(37, .obj (σ.length + 1)), (34, .obj (bH.length + 1))]) = oG at a5 q6 l6 E6 g6
 have q7 : bV (oG ++ [O.bX []]) σ.length = some [(37, .obj (σ.length + 1)), (34, .obj (bH.length + 1))] := (Ext.push (M := λ _ => False) _).bV q6 id
 have a7 : vQ 1 33 (.inst 1 σ.length) (.obj oG.length) (oG ++ [O.bX []]) = some ((oG ++ [O.bX []]).set σ.length (.aW (md (σ.length + 1) (bH.length + 1) oG.length))) := j7 q7 (Nat.le_of_ble_eq_true rfl)
 have E8 : Ext (λ i => i = σ.length) oG ((oG ++ [O.bX []]).set σ.length (.aW (md (σ.length + 1) (bH.length + 1) oG.length))) := .then (.push _) (.set _ rfl)
 have no : bH.length + 1 < oG.length := by rw [l6]; exact Nat.lt_succ_self _
 have hN := Nat.lt_trans nm no
 refine wp_fNew (wp_runF rfl (fY e2 (Jr rfl a2) (fY (aQ (mY rfl (Nat.le_of_ble_eq_true rfl)) (aN rfl (wA (by rw [hsl]; exact Nat.le_trans h0 (by decide)))) (hsl.symm ▸ hmul)) (Jr rfl a5) (fY rfl (Jr rfl a7) (dJ ⟨rfl, σ.length, σ.length + 1, bH.length + 1, oG.length, ids, rfl, ⟨?_, λ z hz => ?_⟩,
  ⟨kG (fL q7), (E6.then E8).getL hL (Nat.succ_ne_self _), by rw [List.length_map, hk], λ p id l hp hl => ?_, ?_, ⟨[], (lG (Nat.ne_of_gt hN)).trans uU, ⟨λ _ h => (List.not_mem_nil h).elim, .nil⟩, λ v => rfl⟩, PZ n3 (Nat.lt_succ_of_lt lL) no, by rw [List.length_map]; exact h0, λ l hl v hv => ?_, λ l hl => ?_⟩, (P1.then E2).trans (E6.then E8) λ i h => .inr (h ▸ Nat.le_refl _)⟩)))))
 ·intro z hz
  rcases List.mem_cons.mp hz with rfl | hz
  ·exact Nat.le_refl _
  ·rcases List.mem_cons.mp hz with rfl | hz
   ·exact Nat.le_succ _
   ·rcases List.mem_cons.mp hz with rfl | hz
    ·exact Nat.le_of_lt nm
    ·cases List.mem_singleton.mp hz; exact Nat.le_of_lt hN
 ·obtain ⟨p, hp⟩ := List.getElem?_of_mem hz
  have hps := hk ▸ (List.getElem?_eq_some_iff.mp hp).1
  exact Nat.le_of_lt (Nat.lt_trans n3 (uR p z _ hp (List.getElem?_eq_getElem hps)).2)
 ·rw [List.getElem?_map] at hl
  obtain ⟨x, hx, rfl⟩ := Option.map_eq_some_iff.mp hl
  obtain ⟨g1, g2⟩ := uR p id x hp hx
  have g3 := bE g1
  have n0 := Nat.ne_of_gt (Nat.lt_trans n3 g2)
  exact ⟨(E6.then E8).getL g1 n0, n0, Nat.ne_of_gt g2, Nat.ne_of_lt (Nat.lt_succ_of_lt g3), Nat.ne_of_lt (Nat.lt_trans (Nat.lt_succ_of_lt g3) no)⟩
 ·refine (E8.getL g6 (Nat.ne_of_gt nm)).trans (congrArg some ?_)
  rw [List.length_map]
  exact (List.eq_replicate_iff.mpr ⟨by rw [List.length_map, List.length_range], λ b hb => by obtain ⟨_, _, rfl⟩ := List.mem_map.mp hb; rfl⟩).symm
 ·obtain ⟨x, hx, rfl⟩ := List.mem_map.mp hl
  have hxd := hsc x hx
  rw [List.getD_eq_getElem?_getD, List.getElem?_eq_getElem hxd] at hv
  obtain ⟨p, hp, h1, h2⟩ := gY.mp hv
  have := (hg _ (List.getElem_mem hxd)).1.each p hp
  exact ⟨Int.le_trans (by decide) (Int.le_trans this.2.1 h1), Int.lt_of_le_of_lt (Int.le_trans h2 this.2.2) (by decide)⟩
 ·obtain ⟨x, hx, rfl⟩ := List.mem_map.mp hl
  have hxd := hsc x hx
  rw [List.getD_eq_getElem?_getD, List.getElem?_eq_getElem hxd]
  exact Nat.le_trans (hg _ (List.getElem_mem hxd)).2 (by decide)
end
noncomputable def ad (scope : List Nat) : List (Nat × V) := [(32, .int (-1)), (31, .tup (aK scope)), (30, .str 99)]
noncomputable def Io (x : Nat) (v : Int) : V := .tup [.int x, .str 51, .int v]
noncomputable def uO (x : Nat) (v : Int) : V := .tup [.int x, .str 8, .int v]
noncomputable def uN (x : Nat) (v : Int) : V := .tup [.int x, .str 9, .int v]
noncomputable def jA (vals few : List Int) (lo hi : Int) (x : Nat) : List V :=
 [uO x lo, uN x hi] ++ (vals.filter λ v => decide (lo < v) && decide (v < hi) && decide (v ∉ few)).map (Io x)
theorem yZ (vals few : List Int) (lo hi : Int) (x : Nat) : (jA vals few lo hi x).length ≤ vals.length + 2 := by
 unfold jA
 rw [List.length_append, List.length_map]
 have := List.length_filter_le (λ v => decide (lo < v) && decide (v < hi) && decide (v ∉ few)) vals
 show 2 + _ ≤ _
 lia
section
variable {σ σ' : St} {i a f t mk nw r : Nat} {doms firsts : List (List (Int × Int))} {trail marks : List V} {failed : Bool} {clash : List V} {scope : List Nat}
theorem tA {kj : Nat} {few : List Int} (h : getL σ kj = some (few.map .int)) (v : Int) : dK (.int v) (.obj kj) σ = some (.bool (decide (v ∉ few)), σ) := by
 unfold dK
 rw [K9 h]
 have h1 : (few.map V.int).all (okV 6) = true := by simp [yM]
 have h2 : (few.map V.int).any (λ y => AW y (.int v)) = decide (v ∈ few) := by
  rw [Bool.eq_iff_iff, List.any_eq_true, decide_eq_true_eq]
  constructor
  ·rintro ⟨y, hy, e⟩
   obtain ⟨u, hu, rfl⟩ := List.mem_map.mp hy
   rw [Gl] at e
   cases eq_of_beq e; exact hu
  ·intro hv; exact ⟨_, List.mem_map.mpr ⟨v, hv, rfl⟩, by rw [Gl]; exact beq_self_eq_true v⟩
 rw [h1, h2, yM]
 simp
theorem Hg {j k : Nat} {l l' : List V} (h : getL σ j = some l) (h' : getL σ k = some l') (h1 : l.length ≤ 100000) (h2 : l'.length ≤ 100000) : uY [.obj j, .obj k] σ = some (.none, σ.set j (.list (l ++ l'))) := by
 show (getL σ j).bind _ = _
 rw [h, Option.bind_some]
 show (((getL σ k).bind _) <|> none) = _
 rw [h', Option.bind_some, if_pos ⟨h1, h2⟩]; rfl
theorem BN {l : List V} (h : l ≠ []) : pick l (-1) = some (l.getLast h) := by
 have hl : 0 < l.length := List.length_pos_iff.mpr h
 unfold pick
 rw [if_neg (by lia), if_pos (by lia), show (-1 + (l.length : Int)).toNat = l.length - 1 from (congrArg Int.toNat (Int.add_comm _ _)).trans (Int.toNat_sub l.length 1), List.getLast_eq_getElem h]
 exact List.getElem?_eq_getElem (Nat.sub_lt hl (by decide))
theorem BZ {k : Nat} {few : List Int} {lo : Int} (h : getL σ k = some (few.map .int)) (h0 : few[0]? = some lo) : i6 (.obj k) (.int 0) σ = some (.int lo, σ) := by
 rw [l7 h]
 cases few with
 | nil => cases h0
 | cons a l => cases h0; rfl
theorem Ea {k : Nat} {few : List Int} {hi : Int} (h : getL σ k = some (few.map .int)) (h1 : few.getLast? = some hi) : i6 (.obj k) (.int (-1)) σ = some (.int hi, σ) := by
 obtain ⟨l, rfl⟩ := List.getLast?_eq_some_iff.mp h1
 rw [l7 h, List.map_append]
 show (pick (l.map V.int ++ [V.int hi]) (-1)).map _ = _
 rw [BN (List.append_ne_nil_of_right_ne_nil _ (List.cons_ne_nil _ _)), List.getLast_concat]; rfl
theorem Dh {vals few : List Int} {lo hi v : Int} {x t : Nat} (hv : vals[t]? = some v) : jA (vals.take (t + 1)) few lo hi x = jA (vals.take t) few lo hi x ++ (if lo < v ∧ v < hi ∧ v ∉ few then [Io x v] else []) := by
 obtain ⟨hlt, e⟩ := List.getElem?_eq_some_iff.mp hv
 rw [List.take_succ_eq_append_getElem hlt, e]
 unfold jA
 rw [List.filter_append, List.map_append, ← List.append_assoc, List.append_cancel_left_eq]
 by_cases c1 : lo < v <;> by_cases c2 : v < hi <;> by_cases c3 : v ∈ few <;> simp [c1, c2, c3]
theorem BA {W : Nat → List V} {l : List Nat} (h : ∀ p ∈ l, (W p).length ≤ 22) : (l.flatMap W).length ≤ 22 * l.length := by
 induction l with
 | nil => exact Nat.zero_le _
 | cons q l ih =>
  rw [List.flatMap_cons, List.length_append, List.length_cons, Nat.mul_succ, Nat.add_comm]
  exact Nat.add_le_add (ih λ p hp => h p (.tail _ hp)) (h q (.head _))
structure N6 (W : Nat → List V) (σ : St) (a b c d : Option V) (ps : List Nat) (k : Nat) (ρ : Loc) (σ' : St) : Prop where
 e : E3 λ x y z => ρ = [a, b, c, d, some (.obj σ.length), x, y, z]
 E : bW σ σ'
 g : getL σ' σ.length = some ((ps.take k).flatMap W)
structure Js (σ : St) (a b c d e f : Option V) (vals few : List Int) (lo hi : Int) (x : Nat) (acc : List V) (id : Nat) (t : Nat) (ρ : Loc) (σ' : St) : Prop where
 e : ∃ z, ρ = [a, b, c, d, some (.obj σ.length), e, f, z]
 E : bW σ σ'
 h : getL σ' id = some (vals.map .int)
 g : getL σ' σ.length = some (acc ++ jA (vals.take t) few lo hi x)
theorem ltB (x y : Int) : oLt (.int x) (.int y) σ = some (.bool (decide (x < y)), σ) := rfl
noncomputable def Ji : XS := (XS.seq (XS.ite (X.i8 (X.qR oLt oLt (X.sub (X.var 3) (X.pure (.int 0))) (X.var 7) (X.sub (X.var 3) (X.neg (X.pure (.int 1))))) (X.i8 (X.test (X.bin dK (X.var 7) (X.var 3))) X.wJ)) (XS.seq (XS.drop (X.fH eF (X.var 4) (X.aB (X.eX (X.aB (X.var 6) (X.aB (X.pure (.str 51)) (X.aB (X.var 7) X.aH)))) X.aH))) XS.nil) XS.nil) XS.nil)
theorem GE {Q : Fl → Loc → St → Prop} {a b c e : Option V} {kj : Nat} {few vals : List Int} {acc : List V} {lo hi v : Int} {x id t : Nat} {ρ : Loc} {oG : St} (hk : getL σ kj = some (few.map .int)) (h0 : few[0]? = some lo) (h1 : few.getLast? = some hi) (hid : σ.length < id) (hb : acc.length ≤ 1000) (hvs : vals.length ≤ 20) (hv : vals[t]? = some v)
  (I : Js σ a b c (some (.obj kj)) e (some (.int (x : Nat))) vals few lo hi x acc id t ρ oG) : sU (XA.name 7) Ji (Js σ a b c (some (.obj kj)) e (some (.int (x : Nat))) vals few lo hi x acc id (t + 1)) Q (.int v) ρ oG := by
 obtain ⟨⟨z, rfl⟩, E6, h6, Mi⟩ := I
 have k6 := E6.getL hk λ h => h
 have e0 := BZ k6 h0
 have e1 := Ea k6 h1
 refine ⟨rfl, λ Q' hn _ => ?_⟩
 have hs := Dh (few := few) (lo := lo) (hi := hi) (x := x) hv
 have hno : ¬ (lo < v ∧ v < hi ∧ v ∉ few) → Q' .next [a, b, c, some (.obj kj), some (.obj σ.length), e, some (.int (x : Nat)), some (.int v)] oG := λ h => hn _ _ ⟨⟨_, rfl⟩, E6, h6, by rw [hs, if_neg h, List.append_nil]; exact Mi⟩
 by_cases c1 : lo < v
 ·have q1 := (ltB (σ := oG) lo v).trans (by rw [decide_eq_true c1])
  by_cases c2 : v < hi
  ·have q2 := (ltB (σ := oG) v hi).trans (by rw [decide_eq_true c2])
   by_cases c3 : v ∈ few
   ·exact c6 (eY (Ay (bO rfl rfl e0) rfl q1 (bO rfl rfl e1) q2) (jX (aP (aQ rfl rfl ((tA k6 v).trans (by rw [decide_eq_false (λ h => h c3)])))))) (dJ (hno λ h => h.2.2 c3))
   ·have hl : (acc ++ jA (vals.take t) few lo hi x).length ≤ 100000 := by
     have h9 := yZ (vals.take t) few lo hi x
     have h10 : (vals.take t).length ≤ vals.length := List.length_take_le' ..
     rw [List.length_append]
     lia
    refine kY (eY (Ay (bO rfl rfl e0) rfl q1 (bO rfl rfl e1) q2) (eY (aP (aQ rfl rfl ((tA k6 v).trans (by rw [decide_eq_true c3])))) rfl)) (jO (fM rfl (d9 Mi) rfl (fR Mi hl)) rfl (dJ (dJ (hn _ _ ⟨⟨_, rfl⟩, E6.trans (M' := λ i => i = σ.length) (.set _ rfl) (λ i h => .inr (h ▸ Nat.le_refl _)), (bS (Nat.ne_of_gt hid)).trans h6, ?_⟩))))
    rw [c8 (bE Mi), hs, if_pos ⟨c1, c2, c3⟩, ← List.append_assoc]; rfl
  ·exact c6 (jX (Ay (bO rfl rfl e0) rfl q1 (bO rfl rfl e1) ((ltB (σ := oG) v hi).trans (by rw [decide_eq_false c2])))) (dJ (hno λ h => c2 h.2.1))
 ·exact c6 (jX (IX (bO rfl rfl e0) rfl ((ltB (σ := oG) lo v).trans (by rw [decide_eq_false c1])))) (dJ (hno λ h => c1 h.1))
theorem yY (s : SV σ i a f t mk nw doms firsts trail marks failed clash) (hr : bV σ r = some (ad scope)) {pj kj : Nat} {ps : List Nat} {few : List Int} (hp : getL σ pj = some (ps.map λ p => .int (p : Nat))) (hk : getL σ kj = some (few.map .int)) {lo hi : Int} (h0 : few[0]? = some lo) (h1 : few.getLast? = some hi)
  (hps : ∀ p ∈ ps, p < scope.length) (hsc : ∀ x ∈ scope, x < firsts.length) (hg : ∀ rs ∈ firsts, Good rs ∧ (aX rs).length ≤ 20) (b1 : ps.length ≤ 10) (b2 : scope.length ≤ 10) (b3 : firsts.length ≤ 100) (b4 : few.length ≤ 100) :
  wp (bU [.inst 2 r, .inst 0 i, .obj pj, .obj kj] σ) λ v σ' => v = .tup (ps.flatMap λ p => jA (aX (firsts.getD (scope.getD p 0) [])) few lo hi (scope.getD p 0)) ∧ bW σ σ' := by
 have get {p : Nat} (h : p < scope.length) : scope[p]? = some (scope.getD p 0) := by rw [List.getD_eq_getElem?_getD, List.getElem?_eq_getElem h]; rfl
 have Mk {p : Nat} (h : p < scope.length) : ∃ (x : Nat) (hx : x < firsts.length), scope.getD p 0 = x ∧ firsts.getD x [] = firsts[x] := by
  have hx := hsc _ (List.mem_of_getElem? (get h))
  exact ⟨_, hx, rfl, by rw [List.getD_eq_getElem?_getD, List.getElem?_eq_getElem hx]; rfl⟩
 have hWl : ∀ p ∈ ps, ((λ p => jA (aX (firsts.getD (scope.getD p 0) [])) few lo hi (scope.getD p 0)) p).length ≤ 22 := λ p hp => by
  obtain ⟨x, hx, e, e2⟩ := Mk (hps p hp)
  dsimp only
  rw [e, e2]
  exact Nat.le_trans (yZ _ _ _ _ _) (Nat.add_le_add_right (hg _ (List.getElem_mem hx)).2 2)
 generalize hW : (λ p => jA (aX (firsts.getD (scope.getD p 0) [])) few lo hi (scope.getD p 0)) = W at hWl ⊢
 refine wp_runF rfl (fY (mY rfl (Nat.zero_le _)) rfl (nR ps (λ p => .int (p : Nat)) (N6 W σ (some (.inst 2 r)) (some (.inst 0 i)) (some (.obj pj)) (some (.obj kj)) ps) rfl ⟨⟨_, _, _, rfl⟩, .push _, cH⟩ (Nat.lt_of_le_of_lt b1 (by decide)) (λ k ρ σ' I hk => Src.list (I.E.getL hp id) σ' .refl k (by rw [List.length_map]; exact hk)) ?_ ?_))
 ·rintro k p ρ bH hpk ⟨⟨x0, y0, z0, rfl⟩, E2, hL⟩
  have hpm := List.mem_of_getElem? hpk
  have At := hps p hpm
  obtain ⟨x, hxm, hxD, hgD⟩ := Mk At
  have hx := get At
  rw [hxD] at hx
  have s2 := s.d5 E2
  have r2 := E2.bV hr id
  have k2 := E2.getL hk id
  have IF : ((ps.take k).flatMap W).length ≤ 1000 := Nat.le_trans (BA λ p hp => hWl p (List.mem_of_mem_take hp)) (Nat.le_trans (Nat.mul_le_mul_left 22 (Nat.le_trans (List.length_take_le' ..) b1)) (by decide))
  have hWp : W p = jA (aX firsts[x]) few lo hi x := by rw [← hW]; dsimp only; rw [hxD, hgD]
  have hnext : ((ps.take (k + 1)).flatMap W) = ((ps.take k).flatMap W) ++ jA (aX firsts[x]) few lo hi x := by
   obtain ⟨hlt, e⟩ := List.getElem?_eq_some_iff.mp hpk
   rw [List.take_succ_eq_append_getElem hlt, List.flatMap_append, List.flatMap_singleton, e, hWp]
  have Mq : i6 (.tup (aK scope)) (.int (p : Nat)) bH = some (.int (x : Nat), bH) := by
   rw [Fe, aK, iK (by rw [List.length_map]; exact At) (Nat.lt_trans (Nat.lt_of_lt_of_le At b2) (by decide)), List.getElem_map, (List.getElem?_eq_some_iff.mp hx).2]; rfl
  have hgx := hg _ (List.getElem_mem hxm)
  clear hWl hW hg hsc hps Mk get hpm hx hgD
  generalize (ps.take k).flatMap W = acc at hL IF hnext
  have q1 : getL (bH ++ [O.list [uO x lo, uN x hi]]) σ.length = some acc := (Ext.push (M := λ _ => False) _).getL hL id
  have e5 := Hg q1 cH (Nat.le_trans IF (by decide)) (Nat.le_of_ble_eq_true rfl)
  have E3 : bW σ ((bH ++ [O.list [uO x lo, uN x hi]]).set σ.length (.list (acc ++ [uO x lo, uN x hi]))) := (E2.then (.push _)).trans (M' := λ i => i = σ.length) (.set _ rfl) (λ i h => .inr (h ▸ Nat.le_refl _))
  have q3 : getL ((bH ++ [O.list [uO x lo, uN x hi]]).set σ.length (.list (acc ++ [uO x lo, uN x hi]))) σ.length = some (acc ++ [uO x lo, uN x hi]) := c8 (bE q1)
  have PO := bE q3
  generalize (bH ++ [O.list [uO x lo, uN x hi]]).set σ.length (.list (acc ++ [uO x lo, uN x hi])) = dT at e5 E3 q3 PO
  have s3 := s.d5 E3
  obtain ⟨_, k8, e4, rfl, rfl⟩ := CW s3 hxm (Nat.le_trans b3 (by decide))
  obtain ⟨_, pM, e6, id, rfl, hid, hvl, E5⟩ := wO (σ := k8) (hgx.1.small hgx.2) (Nat.le_trans hgx.2 (by decide))
  refine ⟨rfl, λ Q' hn _ => fY (bO (bQ rfl (bC r2 rfl)) rfl Mq) rfl (jO (fM rfl (d9 hL) (aI (mY (aI (k5 (aI rfl (aI rfl (aI (bO rfl rfl (BZ k2 h0)) rfl))) (Nat.le_of_ble_eq_true rfl)) (aI (k5 (aI rfl (aI rfl (aI (bO rfl rfl (Ea k2 h1)) rfl))) (Nat.le_of_ble_eq_true rfl)) rfl)) (Nat.le_of_ble_eq_true rfl)) rfl) e5) rfl ?_)⟩
  refine nR (aX firsts[x]) .int (Js σ (some (.inst 2 r)) (some (.inst 0 i)) (some (.obj pj)) (some (.obj kj)) (some (.int (p : Nat))) (some (.int (x : Nat))) (aX firsts[x]) few lo hi x acc id) (aN (aI (dC rfl (s3.inst rfl) rfl e4) rfl) e6) ⟨⟨_, rfl⟩, E3.then E5, hvl, E5.getL q3 λ z => z⟩ (Nat.lt_of_le_of_lt hgx.2 (by decide)) (λ k ρ σ' I hk => Src.list I.h σ' .refl k (by rw [List.length_map]; exact hk))
   (λ t v ρ oG hv I => GE hk h0 h1 (Nat.lt_of_lt_of_le PO hid) IF hgx.2 hv I) ?_
  rintro ρ oG ⟨⟨z, rfl⟩, E6, h6, Mi⟩
  rw [List.take_length, ← hnext] at Mi
  exact dJ (hn _ _ ⟨⟨_, _, _, rfl⟩, E6, Mi⟩)
 ·rintro ρ bH ⟨⟨x0, y0, z0, rfl⟩, E2, hL⟩
  rw [List.take_length] at hL
  exact lW (aN rfl (qG hL (Nat.le_trans (BA hWl) (Nat.le_trans (Nat.mul_le_mul_left 22 b1) (by decide))))) ⟨rfl, E2⟩
end
theorem Cb {α : Type} [DecidableEq α] : ∀ {l : List α}, ¬ l.Nodup → ∃ a l1 l2, l = l1 ++ a :: l2 ∧ a ∈ l1 ++ l2
 | [], h => absurd List.nodup_nil h
 | a :: l, h => by
  by_cases ha : a ∈ l
  ·exact ⟨a, [], l, rfl, ha⟩
  ·have : ¬ l.Nodup := λ z => h (List.nodup_cons.mpr ⟨ha, z⟩)
   obtain ⟨b, l1, l2, e, hb⟩ := Cb this
   exact ⟨b, a :: l1, l2, by rw [e]; rfl, List.mem_cons_of_mem _ hb⟩
theorem sE {α : Type} [DecidableEq α] {ks l : List α} (hn : ks.Nodup) (hm : ∀ x, x ∈ ks ↔ x ∈ l) : ks.length = l.length ↔ l.Nodup := by
 constructor
 ·intro e
  refine Classical.byContradiction λ h => ?_
  obtain ⟨a, l1, l2, rfl, ha⟩ := Cb h
  have := cU (m := l1 ++ l2) hn λ x hx => by
   rcases List.mem_append.mp ((hm x).mp hx) with h | h
   ·exact List.mem_append_left _ h
   ·rcases List.mem_cons.mp h with rfl | h
    ·exact ha
    ·exact List.mem_append_right _ h
  simp at e this
  lia
 ·intro h
  have a := cU hn λ x hx => (hm x).mp hx
  have b := cU h λ x hx => (hm x).mpr hx
  lia
theorem C7 {K : Type} [DecidableEq K] {l : List (K × V)} {k : K} {v : V} (h : k ∈ l.map (·.1)) : (fF l k v).map (·.1) = l.map (·.1) := by
 unfold fF
 rw [if_pos]
 ·rw [List.map_map]
  congr 1
  funext p
  simp only [Function.comp]
  split <;> rfl
 ·obtain ⟨p, hp, e⟩ := List.mem_map.mp h
  exact List.any_eq_true.mpr ⟨p, hp, by simpa using e⟩
theorem eq_int {σ : St} {a b : Int} : oEq (.int a) (.int b) σ = some (.bool (decide (a = b)), σ) := by
 show some (V.bool (false == false && (a == b)), σ) = _
 exact congrArg (λ b => some (V.bool b, σ)) (by rw [Bool.eq_iff_iff]; simp)
section
variable {σ σ' : St}
inductive JC (σ : St) (a b : Option V) (xs : List Int) (k : Nat) (ρ : Loc) (σ' : St) (cl : List (Int × V)) : Prop
 | intro (e : ∃ x, ρ = [a, b, x]) (E : bW σ σ') (g : eJ σ' σ.length = some cl) (n : (cl.map (·.1)).Nodup) (m : ∀ x, x ∈ cl.map (·.1) ↔ x ∈ xs.take k) (c : cl.length ≤ k)
theorem It {cl : List (Int × V)} {xs : List Int} {k : Nat} {v : Int} {w : V} (hv : xs[k]? = some v) (hn : (cl.map (·.1)).Nodup) (hm : ∀ x, x ∈ cl.map (·.1) ↔ x ∈ xs.take k) : ((fF cl v w).map (·.1)).Nodup ∧ ∀ x, x ∈ (fF cl v w).map (·.1) ↔ x ∈ xs.take (k + 1) := by
 obtain ⟨hlt, e⟩ := List.getElem?_eq_some_iff.mp hv
 rw [List.take_succ_eq_append_getElem hlt, e]
 by_cases hin : v ∈ cl.map (·.1)
 ·rw [C7 hin]
  refine ⟨hn, λ x => (hm x).trans ⟨List.mem_append_left _, λ h => ?_⟩⟩
  rcases List.mem_append.mp h with h | h
  ·exact h
  ·cases List.mem_singleton.mp h; exact (hm _).mp hin
 ·rw [wF hin, List.nodup_append]
  refine ⟨⟨hn, List.nodup_cons.mpr ⟨List.not_mem_nil, .nil⟩, λ a ha b hb e => hin (List.mem_singleton.mp hb ▸ e ▸ ha)⟩, λ x => ?_⟩
  rw [List.mem_append, List.mem_append, hm x]
theorem AJ {r : Nat} {xs : List Int} (hx : xs.length ≤ 100) : wp (cX [.inst 2 r, .tup (xs.map .int)] σ) λ v σ' => v = .bool (decide xs.Nodup) ∧ bW σ σ' := by
 have hl : (xs.map V.int).length = xs.length := List.length_map _
 have : xp (X.Gm [2] (X.var 1) (XA.name 2) none (X.var 2) (X.pure (.bool true)) 1000) [some (.inst 2 r), some (.tup (xs.map .int)), none] σ λ v σ' => v = .obj σ.length ∧ E2 λ ρ cl => JC σ (some (.inst 2 r)) (some (.tup (xs.map .int))) xs xs.length ρ σ' cl := by
  refine tR ⟨_, _, rfl, xs.map .int, λ k ρ σ' => ∃ cl, JC σ (some (.inst 2 r)) (some (.tup (xs.map .int))) xs k ρ σ' cl, ⟨[], ⟨_, rfl⟩, .push _, uU, .nil, λ _ => .rfl, Nat.le_refl _⟩, hl ▸ Nat.lt_of_le_of_lt hx (by decide), rfl, λ k ρ σ' _ _ => rfl, λ k vv ρ bH hvv I => ?_, λ ρ σ' ⟨cl, I⟩ => ⟨rfl, ρ, cl, hl ▸ I⟩⟩
  obtain ⟨cl, ⟨x, rfl⟩, E, g, n, m, c⟩ := I
  rw [List.getElem?_map] at hvv
  obtain ⟨v, hv, rfl⟩ := Option.map_eq_some_iff.mp hvv
  have hk := Nat.lt_of_lt_of_le (List.getElem?_eq_some_iff.mp hv).1 hx
  obtain ⟨n', m'⟩ := It (w := .bool true) hv n m
  exact ⟨_, _, rfl, true, _, rfl, Ik ⟨_, _, rfl, v, rfl, _, _, rfl, cl, g, Nat.le_trans c (Nat.le_trans (Nat.le_of_lt hk) (by decide)), fF cl v (.bool true), ⟨_, rfl⟩, E.trans (M' := λ i => i = σ.length) (.set _ rfl) (λ i h => .inr (h ▸ Nat.le_refl _)), mB (iQ g), n', m', Nat.le_trans (I9 cl v (.bool true)) (Nat.succ_le_succ c)⟩⟩
 obtain ⟨_, bH, e, rfl, ρ, cl, ⟨⟩, E, g, n, m, c⟩ := this
 refine ⟨_, _, s9 (aQ (aN (aI e rfl) (Ml g (Nat.le_trans c (Nat.le_trans hx (by decide))))) (aN rfl (wA (by rw [hl]; exact Nat.le_trans hx (by decide)))) eq_int), congrArg V.bool ?_, E⟩
 rw [List.take_length] at m
 have h1 := sE n m
 rw [List.length_map] at h1
 rw [hl, decide_eq_decide, ← h1]
 exact Int.ofNat_inj
end
noncomputable def eK (doms : List (List (Int × Int))) (scope : List Nat) : List (List Int) := scope.map λ x => aX (doms.getD x [])
noncomputable def mM (firsts : List (List (Int × Int))) (scope : List Nat) (ps : List Nat) (few : List Int) (lo hi : Int) : List V :=
 ps.flatMap λ p => jA (aX (firsts.getD (scope.getD p 0) [])) few lo hi (scope.getD p 0)
section
variable {σ σ' : St} {i a f t mk nw r j c m o : Nat} {doms firsts : List (List (Int × Int))} {trail marks : List V} {clash : List V} {scope ids : List Nat} {cs : List (List Int)}
theorem DF {σ : St} : jD .none .none σ = some (.bool false, σ) := rfl
theorem Fd {σ : St} {l : List V} : jD (.tup l) .none σ = some (.bool true, σ) := rfl
noncomputable def Cg : XS := (XS.seq (XS.assign (X.cV 1 58 iR (X.var 2) (X.aB (X.var 3) X.aH)) (XA.name 4)) (XS.seq (XS.ite (X.test (X.bin jD (X.var 4) (X.pure .none))) (XS.seq (XS.ret (X.cV 0 22 iD (X.var 1) (X.aB (X.cV 2 55 bU (X.var 0) (X.aB (X.var 1) (X.aB (X.sub (X.var 4) (X.pure (.int 0))) (X.aB (X.sub (X.var 4) (X.pure (.int 1))) X.aH)))) X.aH))) XS.nil) XS.nil) XS.nil))
structure FO (σ : St) (r i j c m o : Nat) (ids : List Nat) (cs : List (List Int)) (k : Nat) (ρ : Loc) (σ' : St) (aZ : Nat → Option Int) (own : Int → Option Nat) : Prop where
 e : E2 λ x y => ρ = [some (.inst 2 r), some (.inst 0 i), some (.inst 1 j), x, y, none, none, none]
 M : MV σ' j c m o ids cs aZ own
 K : c0 cs aZ own
 h1 : ∀ p, p < k → aZ p ≠ none
 h2 : ∀ p, k ≤ p → aZ p = none
 E : Ext (λ z => z = m ∨ z = o) σ σ'
theorem oK {n : Nat} (h : n ≤ 1000000) : Src (.range 0 (n : Nat)) σ ((List.range n).map λ k => .int (k : Nat)) := by
 have := Src.range (σ := σ) (a := 0) (b := (n : Nat)) (by decide) (by decide) (Int.le_trans (by decide) (Int.natCast_nonneg n)) (Int.ofNat_le.mpr h)
 unfold rangeInts at this
 rw [List.map_map] at this
 have e : ((n : Int) - 0).toNat = n := by rw [Int.sub_zero]; rfl
 rw [e] at this
 have e2 : (V.int ∘ λ i : Nat => (0 : Int) + i) = λ k : Nat => V.int (k : Nat) := funext λ k => congrArg V.int (Int.zero_add _)
 rw [e2] at this
 exact this
theorem EO {Q : Fl → Loc → St → Prop} (s : SV σ i a f t mk nw doms firsts trail marks false clash) (hr : bV σ r = some (ad scope)) (hcs : cs.length = scope.length)
  (hmz : ∀ z ∈ [i, a, f, t, mk, nw, r], ¬ (z = m ∨ z = o)) (hne : ∀ l ∈ cs, l ≠ []) (hsc : ∀ x ∈ scope, x < firsts.length) (hg : ∀ rs ∈ firsts, Good rs ∧ (aX rs).length ≤ 20) (b2 : scope.length ≤ 10) (b3 : firsts.length ≤ 100)
  (hfail : ∀ ρ σ' ps ks lo hi, Jt cs ps ks → (cM ks)[0]? = some lo → (cM ks).getLast? = some hi → SV σ' i a f t mk nw doms firsts trail marks true (mM firsts scope ps (cM ks) lo hi) → Ext (λ z => z = i ∨ z = m ∨ z = o) σ σ' → Q (.ret (.bool false)) ρ σ')
  {k : Nat} {ρ : Loc} {bH : St} {aZ : Nat → Option Int} {own : Int → Option Nat} (hk : k < scope.length) (I : FO σ r i j c m o ids cs k ρ bH aZ own) : sU (XA.name 3) Cg (λ ρ σ' => E2 (FO σ r i j c m o ids cs (k + 1) ρ σ')) Q (.int (k : Nat)) ρ bH := by
 obtain ⟨⟨x, y, rfl⟩, M2, K, h1, h2, E⟩ := I
 have s2 := s.ext E λ z hz => hmz z (List.mem_append_left [r] hz)
 have r2 : bV bH r = some (ad scope) := E.bV hr (hmz r (List.mem_append_right [i, a, f, t, mk, nw] (.head _)))
 obtain ⟨v, dT, e3, h⟩ := GP M2 K (hcs ▸ hk) (h2 k (Nat.le_refl _))
 have ek := dC (ρ := [some (.inst 2 r), some (.inst 0 i), some (.inst 1 j), some (.int (k : Nat)), y, none, none, none]) (f := X.var 2) (g := X.aB (X.var 3) X.aH) rfl (gC (n := 58) M2.hs rfl) rfl e3
 refine ⟨rfl, λ Q' hn hr => fY ek rfl ?_⟩
 rcases h with ⟨rfl, cS, own', M3, K3, k1, k2, k3, E3⟩ | ⟨pj, kj, ps, ks, rfl, hpj, hkj, hW, hpl, E3⟩
 ·refine c6 (aP (aQ rfl rfl (b := .none) (r := (.bool false, dT)) rfl)) (dJ (hn _ _ ⟨cS, own', ⟨_, _, rfl⟩, M3, K3, λ p hp => ?_, λ p hp => k2 p (Nat.ne_of_gt hp) (h2 p (Nat.le_of_lt hp)), E.then E3⟩))
  by_cases hpk : p = k
  ·subst hpk; exact k3
  ·exact k1 p (h1 p (Nat.lt_of_le_of_ne (Nat.le_of_lt_succ hp) hpk))
 ·clear ek e3 h1 h2 hn M2 K
  have hkc : k < cs.length := hcs.symm ▸ hk
  have hl := List.getElem?_eq_getElem hkc
  have Mf : ks ≠ [] := λ z => by
   cases e : cs[k] with
   | nil => exact hne _ (List.mem_of_getElem? hl) e
   | cons u l => have := hW.sub k hpl _ hl u (e ▸ .head _); rw [z] at this; cases this
  have Au := (mA ks).length_eq
  have Fs : cM ks ≠ [] := λ z => by rw [z] at Au; exact Mf (List.length_eq_zero_iff.mp Au.symm)
  have Lf : ps.length ≤ 10 := by
   have h10 := cU (m := List.range cs.length) hW.nV λ p hp => List.mem_range.mpr (hW.lt p hp)
   rw [List.length_range, hcs] at h10
   exact Nat.le_trans h10 b2
  have hkl : ks.length ≤ 100 := Nat.le_trans (Nat.le_succ _) (Nat.le_trans (Nat.le_of_eq hW.len.symm) (Nat.le_trans Lf (by decide)))
  have e0 : (cM ks)[0]? = some ((cM ks)[0]'(List.length_pos_iff.mpr Fs)) := List.getElem?_eq_getElem _
  have e1 : (cM ks).getLast? = some ((cM ks).getLast Fs) := List.getLast?_eq_some_getLast Fs
  have s3 := s2.d5 E3
  have r3 := E3.bV r2 λ h => h
  obtain ⟨_, k8, e4, rfl, E4⟩ := yY s3 r3 hpj hkj e0 e1 (λ p hp => hcs ▸ hW.lt p hp) hsc hg Lf b2 b3 (Au.symm ▸ hkl)
  have s4 := s3.d5 E4
  obtain ⟨_, pM, e5, rfl, s5, E5⟩ := B6 s4 (mM firsts scope ps (cM ks) _ _)
  exact kY (aP (aQ rfl rfl (b := .none) (r := (.bool true, dT)) rfl)) (lW (dC rfl (s3.inst rfl) (aI (dC rfl (gC (n := 55) r3 rfl) (aI rfl (aI (bO rfl rfl rfl) (aI (bO rfl rfl rfl) rfl))) e4) rfl) e5) (hr _ _ _ (hfail _ pM ps ks _ _ hW e0 e1 s5 ((((E.mono λ z h => .inr h).wP E3).wP E4).then (E5.mono λ z h => .inl h)))))
theorem EP {g : XS} {Q : Fl → Loc → St → Prop} (s : SV σ i a f t mk nw doms firsts trail marks false clash) (hr : bV σ r = some (ad scope)) (M0 : MV σ j c m o ids cs (λ _ => none) (λ _ => none)) (hcs : cs.length = scope.length)
  (hmz : ∀ z ∈ [i, a, f, t, mk, nw, r], ¬ (z = m ∨ z = o)) (hne : ∀ l ∈ cs, l ≠ []) (hsc : ∀ x ∈ scope, x < firsts.length) (hg : ∀ rs ∈ firsts, Good rs ∧ (aX rs).length ≤ 20) (b2 : scope.length ≤ 10) (b3 : firsts.length ≤ 100)
  (hfail : ∀ ρ σ' ps ks lo hi, Jt cs ps ks → (cM ks)[0]? = some lo → (cM ks).getLast? = some hi → SV σ' i a f t mk nw doms firsts trail marks true (mM firsts scope ps (cM ks) lo hi) → Ext (λ z => z = i ∨ z = m ∨ z = o) σ σ' → Q (.ret (.bool false)) ρ σ')
  (hok : ∀ σ' aZ own x y, MV σ' j c m o ids cs aZ own → c0 cs aZ own → Full cs aZ → Ext (λ z => z = m ∨ z = o) σ σ' → sp g [some (.inst 2 r), some (.inst 0 i), some (.inst 1 j), x, y, none, none, none] σ' Q) :
  sp (XS.seq (XS.for (X.call (bY cW) (X.aB (X.call (bY gR) (X.aB (X.attr 2 31 (X.var 0)) X.aH)) X.aH)) (XA.name 3) Cg 1000) g) [some (.inst 2 r), some (.inst 0 i), some (.inst 1 j), none, none, none, none, none] σ Q := by
 have hsl : (aK scope).length = scope.length := List.length_map _
 have hl : (List.range scope.length).length = scope.length := List.length_range
 refine nR (List.range scope.length) (λ k => .int (k : Nat)) (λ k ρ σ' => E2 (FO σ r i j c m o ids cs k ρ σ')) (aN (aI (aN (aI (bQ rfl (bC (n := 31) hr rfl)) rfl) (wA (hsl.symm ▸ Nat.le_trans b2 (by decide)))) rfl) (by rw [hsl]; rfl)) ⟨_, _, ⟨_, _, rfl⟩, M0, ⟨λ p v => ⟨λ e => by (cases e), λ e => by (cases e)⟩, λ p v h => (by cases h), λ p v l h => (by cases h)⟩, λ p h => absurd h (Nat.not_lt_zero _), λ _ _ => rfl, .refl⟩
  (hl.symm ▸ Nat.lt_of_le_of_lt b2 (by decide)) (λ k ρ σ' _ hk => oK (σ := σ') (Nat.le_trans b2 (by decide)) σ' .refl k (by rw [List.length_map]; exact hk)) ?_ ?_
 ·rintro k x ρ bH hx ⟨aZ, own, I⟩
  obtain ⟨hk, e⟩ := List.getElem?_eq_some_iff.mp hx
  rw [List.getElem_range] at e
  subst e
  exact EO s hr hcs hmz hne hsc hg b2 b3 hfail (hl ▸ hk) I
 ·rintro ρ bH ⟨aZ, own, ⟨x, y, rfl⟩, M2, K, h1, h2, E⟩
  rw [hl] at h1
  refine hok bH aZ own x y M2 K (λ p hp => ?_) E
  cases e : aZ p with
  | none => exact absurd e (h1 p (hcs ▸ hp))
  | some v => exact ⟨v, rfl⟩
end
noncomputable def JH (F : List Nat) (σ : St) (cs : List (List Int)) (own : Int → Option Nat) (v : Int) (w : V) : Prop :=
 (w = .none ∧ ∃ u, Reach cs own v u ∧ own u = none) ∨
 (E4 λ pj kj ps ks => A6 (w = .tup [.obj pj, .obj kj]) (getL σ pj = some (ps.map λ p => .int (p : Nat))) (getL σ kj = some ((cM ks).map .int)) (rC cs own v ps ks) (pj ∉ F) (kj ∉ F))
structure q9 (F : List Nat) (σ : St) (nd : Nat) (cs : List (List Int)) (own : Int → Option Nat) : Prop where
 at_ : ∃ nl, A3 (eJ σ nd = some nl) (mP nl) (∀ v w, fT nl v = some w → JH F σ cs own v w)
inductive o5 (cs : List (List Int)) (own : Int → Option Nat) (scope : List Nat) (firsts D0 : List (List (Int × Int))) : List V → List (List (Int × Int)) → Prop
 | nil : o5 cs own scope firsts D0 [] D0
 | snoc {es : List V} {D : List (List (Int × Int))} {p x : Nat} {v lo hi : Int} {rs : List (Int × Int)} {l ks : List Int} {ps : List Nat} : o5 cs own scope firsts D0 es D → scope[p]? = some x → D[x]? = some rs → v ∈ aX rs → cs[p]? = some l → v ∈ l → rC cs own v ps ks → p ∉ ps →
  (cM ks)[0]? = some lo → (cM ks).getLast? = some hi →
  o5 cs own scope firsts D0 (es ++ [.tup [.int (x : Nat), dv rs, Io x v, .tup (mM firsts scope ps (cM ks) lo hi), .int (-1)]]) (D.set x (upto rs (v - 1) ++ dH rs (v + 1)))
structure Mid (cs : List (List Int)) (scope : List Nat) (doms D : List (List (Int × Int))) (done : Nat → Int → Prop) : Prop where
 len : D.length = doms.length
 at_ : ∀ (q x : Nat) (l : List Int), scope[q]? = some x → cs[q]? = some l → ∃ rs, A3 (D[x]? = some rs) (Good rs) (∀ u, u ∈ aX rs ↔ u ∈ l ∧ (done q u → jH cs q u))
 I7 : ∀ x, x ∉ scope → D[x]? = doms[x]?
section
variable {M : Nat → Prop} {F : List Nat} {σ σ' : St} {nd : Nat} {cs : List (List Int)} {own : Int → Option Nat}
theorem JH.ext {v : Int} {w : V} (h : JH F σ cs own v w) (e : Ext M σ σ') (hm : ∀ z, M z → z ∈ F) : JH F σ' cs own v w := by
 rcases h with h | ⟨pj, kj, ps, ks, h1, h2, h3, h4, h5, h6⟩
 ·exact .inl h
 ·exact .inr ⟨pj, kj, ps, ks, h1, e.getL h2 λ z => h5 (hm _ z), e.getL h3 λ z => h6 (hm _ z), h4, h5, h6⟩
theorem q9.ext (h : q9 F σ nd cs own) (e : Ext M σ σ') (hm : ∀ z, M z → z ∈ F) (hn : ¬ M nd) : q9 F σ' nd cs own := by
 obtain ⟨nl, a, b, c⟩ := h.at_
 exact ⟨nl, e.eJ a hn, b, λ v w hv => (c v w hv).ext e hm⟩
theorem q9.set (h : q9 F σ nd cs own) (hF : nd ∈ F) {v : Int} {w : V} (hw : JH F σ cs own v w) (h0 : -100 ≤ v ∧ v < 100) : ∃ aT, A5 (mL (.obj nd) (.int v) w σ = some aT) (q9 F aT nd cs own) (i6 (.obj nd) (.int v) aT = some (w, aT)) (JH F aT cs own v w) (Ext (λ z => z = nd) σ aT) := by
 obtain ⟨nl, a, b, c⟩ := h.at_
 have lt := iQ a
 have E : Ext (λ z => z = nd) σ (σ.set nd (.bX (fF nl v w))) := Ext.set _ rfl
 have hE : ∀ z, (λ z => z = nd) z → z ∈ F := λ z hz => by dsimp only at hz; rw [hz]; exact hF
 refine ⟨_, vP a (Nat.le_trans b.len (by decide)), ⟨fF nl v w, mB lt, b.set _ h0.1 h0.2, λ u x hu => ?_⟩, ?_, hw.ext E hE, E⟩
 ·rw [rP] at hu
  by_cases huv : u = v
  ·subst huv; rw [if_pos rfl] at hu; cases hu; exact hw.ext E hE
  ·rw [if_neg huv] at hu; exact (c u x hu).ext E hE
 ·rw [CM (mB lt), rP, if_pos rfl]; rfl
theorem q9.look (h : q9 F σ nd cs own) (v : Int) : (dK (.int v) (.obj nd) σ = some (.bool true, σ)) ∨ (∃ w, A3 (dK (.int v) (.obj nd) σ = some (.bool false, σ)) (i6 (.obj nd) (.int v) σ = some (w, σ)) (JH F σ cs own v w)) := by
 obtain ⟨nl, a, b, c⟩ := h.at_
 cases e : fT nl v with
 | none => left; unfold dK; rw [Gg a, e]; rfl
 | some w => right; exact ⟨w, by unfold dK; rw [Gg a, e]; rfl, by rw [CM a, e]; rfl, c v w e⟩
theorem o5.tr {scope : List Nat} {firsts D0 D : List (List (Int × Int))} {es : List V} (h : o5 cs own scope firsts D0 es D) : Tr D0 es D := by
 induction h with
 | nil => exact .nil
 | snoc _ _ hr _ _ _ _ _ _ _ ih => exact .snoc ih hr
end
section
variable {cs : List (List Int)} {scope : List Nat} {doms D : List (List (Int × Int))} {done : Nat → Int → Prop}
noncomputable def AC (done : Nat → Int → Prop) (p : Nat) (v : Int) : Nat → Int → Prop := λ q u => done q u ∨ (q = p ∧ u = v)
theorem Mid.keep {p : Nat} {v : Int} (h : Mid cs scope doms D done) (hH : jH cs p v) : Mid cs scope doms D (AC done p v) := by
 refine ⟨h.len, λ q x l hx hl => ?_, h.I7⟩
 obtain ⟨rs, a, b, c⟩ := h.at_ q x l hx hl
 refine ⟨rs, a, b, λ u => ?_⟩
 rw [c u]
 constructor
 ·rintro ⟨h1, h2⟩
  refine ⟨h1, ?_⟩
  rintro (h3 | ⟨rfl, rfl⟩)
  ·exact h2 h3
  ·exact hH
 ·rintro ⟨h1, h2⟩
  exact ⟨h1, λ h3 => h2 (.inl h3)⟩
theorem Mid.strike {p x : Nat} {v : Int} {l : List Int} {rs : List (Int × Int)} (h : Mid cs scope doms D done) (hn : scope.Nodup) (hx : scope[p]? = some x) (hl : cs[p]? = some l) (hrs : D[x]? = some rs) (hH : ¬ jH cs p v) :
  Mid cs scope doms (D.set x (upto rs (v - 1) ++ dH rs (v + 1))) (AC done p v) := by
 have hxD := (List.getElem?_eq_some_iff.mp hrs).1
 refine ⟨by simp [h.len], λ q y l' hy hl' => ?_, λ y hy => ?_⟩
 ·obtain ⟨rs', a, b, c⟩ := h.at_ q y l' hy hl'
  by_cases hyx : y = x
  ·subst hyx
   have hqp : q = p := rK hn hy hx
   subst hqp
   rw [hrs] at a; cases a
   rw [hl] at hl'; cases hl'
   refine ⟨_, by simp [hxD], b.without v, λ u => ?_⟩
   rw [iX, c u]
   constructor
   ·rintro ⟨⟨h1, h2⟩, h3⟩
    refine ⟨h1, ?_⟩
    rintro (h4 | ⟨_, h4⟩)
    ·exact h2 h4
    ·exact absurd h4 h3
   ·rintro ⟨h1, h2⟩
    refine ⟨⟨h1, λ h3 => h2 (.inl h3)⟩, ?_⟩
    rintro rfl
    exact hH (h2 (.inr ⟨rfl, rfl⟩))
  ·refine ⟨rs', by rw [List.getElem?_set_ne (Ne.symm hyx)]; exact a, b, λ u => ?_⟩
   rw [c u]
   have hqp : q ≠ p := by rintro rfl; rw [hx] at hy; cases hy; exact hyx rfl
   constructor
   ·rintro ⟨h1, h2⟩
    refine ⟨h1, ?_⟩
    rintro (h4 | ⟨h4, _⟩)
    ·exact h2 h4
    ·exact absurd h4 hqp
   ·rintro ⟨h1, h2⟩
    exact ⟨h1, λ h3 => h2 (.inl h3)⟩
 ·have hxs : x ∈ scope := List.mem_of_getElem? hx
  rw [List.getElem?_set_ne (by rintro rfl; exact hy hxs)]
  exact h.I7 y hy
theorem Mid.left {p x : Nat} {v u0 : Int} {l : List Int} {rs : List (Int × Int)} (h : Mid cs scope doms D done) (hx : scope[p]? = some x) (hl : cs[p]? = some l) (hrs : D[x]? = some rs) (hv : v ∈ l) (hd : ¬ done p v) (hu : u0 ∈ l) (hH : jH cs p u0) (hne : u0 ≠ v) :
  v ∈ aX rs ∧ upto rs (v - 1) ++ dH rs (v + 1) ≠ [] ∧ upto rs (v - 1) ++ dH rs (v + 1) ≠ rs := by
 obtain ⟨rs', a, b, c⟩ := h.at_ p x l hx hl
 rw [hrs] at a; cases a
 have h1 : v ∈ aX rs := (c v).mpr ⟨hv, λ z => absurd z hd⟩
 have h2 : u0 ∈ aX (upto rs (v - 1) ++ dH rs (v + 1)) := iX.mpr ⟨(c u0).mpr ⟨hu, λ _ => hH⟩, hne⟩
 refine ⟨h1, λ z => ?_, λ z => ?_⟩
 ·rw [z] at h2; cases h2
 ·have := iX (rs := rs) (v := v) (x := v)
  rw [z] at this
  exact (this.mp h1).2 rfl
end
theorem Aa {σ : St} {kj : Nat} {ps : List Nat} (h : getL σ kj = some (ps.map λ p => .int (p : Nat))) (v : Nat) : dK (.int (v : Nat)) (.obj kj) σ = some (.bool (decide (v ∉ ps)), σ) := by
 have h' : getL σ kj = some ((ps.map λ p : Nat => (p : Int)).map .int) := by rw [h, List.map_map]; rfl
 rw [tA h']
 have : ((v : Int) ∉ ps.map λ p : Nat => (p : Int)) ↔ v ∉ ps := by
  rw [List.mem_map]
  exact not_congr ⟨λ ⟨x, h1, h2⟩ => by rw [show v = x by lia]; exact h1, λ h => ⟨v, h, rfl⟩⟩
 simp only [this]
set_option genInjectivity false in
set_option genSizeOfSpec false in
structure P2 where
 new ::
 Ls : St
 i : Nat
 a : Nat
 f : Nat
 t : Nat
 mK : Nat
 nw : Nat
 r : Nat
 nd : Nat
 j : Nat
 c : Nat
 m : Nat
 o : Nat
 ids : List Nat
 scope : List Nat
 doms : List (List (Int × Int))
 firsts : List (List (Int × Int))
 trail : List V
 marks : List V
 clash : List V
 cs : List (List Int)
 aZ : Nat → Option Int
 own : Int → Option Nat
section
variable {P : P2} {σ : St}
noncomputable def P2.F (P : P2) : List Nat := [P.i, P.a, P.f, P.t, P.mK, P.nw, P.nd]
noncomputable def P2.E (P : P2) (z : Nat) : Prop := z = P.a ∨ z = P.t ∨ z = P.nw
noncomputable def P2.ρ (P : P2) (x3 x4 x6 x7 : Option V) : Loc := [some (.inst 2 P.r), some (.inst 0 P.i), some (.inst 1 P.j), x3, x4, some (.obj P.nd), x6, x7]
structure m7 (P : P2) (σ : St) (done : Nat → Int → Prop) (cnt : Nat) : Prop where
 ex : E2 λ D es => A4 (SV σ P.i P.a P.f P.t P.mK P.nw D P.firsts (P.trail ++ es) P.marks false P.clash) (Mid P.cs P.scope P.doms D done) (o5 P.cs P.own P.scope P.firsts P.doms es D) (es.length ≤ cnt)
 hr : bV σ P.r = some (ad P.scope)
 mv : MV σ P.j P.c P.m P.o P.ids P.cs P.aZ P.own
 Nq : q9 P.F σ P.nd P.cs P.own
 ext : Ext P.E P.Ls σ
structure Oo (P : P2) : Prop where
 K : c0 P.cs P.aZ P.own
 hf : Full P.cs P.aZ
 hn : P.scope.Nodup
 hcs : P.cs.length = P.scope.length
 hcn : ∀ l ∈ P.cs, l.Nodup ∧ l.length ≤ 5
 hsc : ∀ x ∈ P.scope, x < P.firsts.length
 hg : ∀ rs ∈ P.firsts, Good rs ∧ (aX rs).length ≤ 20
 b2 : P.scope.length ≤ 10
 b3 : P.firsts.length ≤ 100
 b4 : P.doms.length ≤ 100
 b5 : P.trail.length ≤ 900
 hr : ¬ P.E P.r
 hnd : ¬ P.E P.nd
 hM : ∀ z, P.E z ∨ z = P.nd → z ∉ [P.j, P.c, P.m, P.o] ∧ z ∉ P.ids
 hnd2 : ∀ z ∈ [P.i, P.a, P.f, P.t, P.mK, P.nw, P.r], z ≠ P.nd
 OY : P.Ls.length ≤ P.nd
noncomputable def wI : XS := (XS.seq (XS.ite (X.test (X.bin dK (X.var 6) (X.var 5))) (XS.seq (XS.assign (X.cV 1 56 dM (X.var 2) (X.aB (X.var 6) X.aH)) (XA.item (X.var 5) (X.var 6))) XS.nil) XS.nil) (XS.seq (XS.ite (X.i8 (X.test (X.bin jD (X.sub (X.var 5) (X.var 6)) (X.pure .none))) (X.i8 (X.test (X.bin dK (X.var 3) (X.sub (X.sub (X.var 5) (X.var 6)) (X.pure (.int 0))))) X.wJ)) (XS.seq (XS.assign (X.cV 2 55 bU (X.var 0) (X.aB (X.var 1) (X.aB (X.sub (X.sub (X.var 5) (X.var 6)) (X.pure (.int 0))) (X.aB (X.sub (X.sub (X.var 5) (X.var 6)) (X.pure (.int 1))) X.aH)))) (XA.name 7)) (XS.seq (XS.ite (X.oN (X.test (X.cV 0 54 hV (X.var 1) (X.aB (X.eX (X.aB (X.sub (X.attr 2 31 (X.var 0)) (X.var 3)) (X.aB (X.pure (.str 51)) (X.aB (X.var 6) X.aH)))) (X.aB (X.var 7) X.aH))))) (XS.seq (XS.ret (X.pure (.bool false))) XS.nil) XS.nil) XS.nil)) XS.nil) XS.nil))
theorem G4 {g : XS} {v : Int} {x3 x4 x7 : Option V} {Q : Fl → Loc → St → Prop} (hF : ∀ z ∈ P.F, z < σ.length) (M : MV σ P.j P.c P.m P.o P.ids P.cs P.aZ P.own) (K : c0 P.cs P.aZ P.own) (N : q9 P.F σ P.nd P.cs P.own) (hv : -100 ≤ v ∧ v < 100)
  (hQ : ∀ σ' w, q9 P.F σ' P.nd P.cs P.own → i6 (.obj P.nd) (.int v) σ' = some (w, σ') → JH P.F σ' P.cs P.own v w → Ext (λ z => z = P.nd) σ σ' → sp g (P.ρ x3 x4 (some (.int v)) x7) σ' Q) :
  sp (XS.seq (XS.ite (X.test (X.bin dK (X.var 6) (X.var 5))) (XS.seq (XS.assign (X.cV 1 56 dM (X.var 2) (X.aB (X.var 6) X.aH)) (XA.item (X.var 5) (X.var 6))) XS.nil) XS.nil) g) (P.ρ x3 x4 (some (.int v)) x7) σ Q := by
 rcases N.look v with e | ⟨w, e, g, hA⟩
 ·obtain ⟨w, aT, e1, E1, h1⟩ := Em M K hv
  have hA : JH P.F aT P.cs P.own v w := by
   rcases h1 with h1 | ⟨pj, kj, ps, ks, h1, h2, h3, h4, h5, h6⟩
   ·exact .inl h1
   ·exact .inr ⟨pj, kj, ps, ks, h1, h2, h3, h4, λ z => Nat.lt_irrefl _ (Nat.lt_of_lt_of_le (hF _ z) h5), λ z => Nat.lt_irrefl _ (Nat.lt_of_lt_of_le (hF _ z) h6)⟩
  obtain ⟨bH, e2, N2, g2, A2, E2⟩ := (N.ext E1 (λ _ h => h.elim) λ h => h).set (List.mem_append_right [P.i, P.a, P.f, P.t, P.mK, P.nw] (.head _)) hA hv
  exact kY (aP (aQ rfl rfl e)) (fY (dC rfl (gC (n := 56) M.hs rfl) rfl e1) (Gw rfl rfl e2) (dJ (hQ bH w N2 g2 A2 ((Ext.of0 E1).then E2))))
 ·exact c6 (aP (aQ rfl rfl e)) (hQ σ w N g hA .refl)
theorem Good.nodup {rs : List (Int × Int)} (g : Good rs) : (aX rs).Nodup := g.sorted.imp λ h => Int.ne_of_lt h
theorem rC.Nw {cs : List (List Int)} {own : Int → Option Nat} {v : Int} {ps : List Nat} {ks : List Int} (h : rC cs own v ps ks) (hc : cs.length ≤ 10) : ps.length ≤ 10 := by
 have := cU (m := List.range cs.length) h.nV λ p hp => List.mem_range.mpr (h.lt p hp)
 rw [List.length_range] at this; exact Nat.le_trans this hc
theorem GR {scope : List Nat} {k x : Nat} (hx : scope[k]? = some x) (hl : scope.length ≤ 10) : i6 (.tup (aK scope)) (.int (k : Nat)) σ = some (.int (x : Nat), σ) := by
 obtain ⟨h1, h2⟩ := List.getElem?_eq_some_iff.mp hx
 rw [Fe, aK, iK (by rw [List.length_map]; exact h1) (Nat.lt_of_lt_of_le h1 (Nat.le_trans hl (by decide))), List.getElem_map, h2]; rfl
theorem Jq {k x : Nat} {v : Int} {l : List Int} {x4 x7 : Option V} {w : V} {done : Nat → Int → Prop} {cnt : Nat} {Q : Fl → Loc → St → Prop} (A : Oo P) (L : m7 P σ done cnt) (hx : P.scope[k]? = some x) (hl : P.cs[k]? = some l) (hv : v ∈ l) (hd : ¬ done k v) (hc2 : cnt ≤ 100)
  (g : i6 (.obj P.nd) (.int v) σ = some (w, σ)) (hA : JH P.F σ P.cs P.own v w)
  (hQ : ∀ σ' y7, m7 P σ' (AC done k v) (cnt + 1) → Q .next (P.ρ (some (.int (k : Nat))) x4 (some (.int v)) y7) σ') :
  sp (XS.seq (XS.ite (X.i8 (X.test (X.bin jD (X.sub (X.var 5) (X.var 6)) (X.pure .none))) (X.i8 (X.test (X.bin dK (X.var 3) (X.sub (X.sub (X.var 5) (X.var 6)) (X.pure (.int 0))))) X.wJ)) (XS.seq (XS.assign (X.cV 2 55 bU (X.var 0) (X.aB (X.var 1) (X.aB (X.sub (X.sub (X.var 5) (X.var 6)) (X.pure (.int 0))) (X.aB (X.sub (X.sub (X.var 5) (X.var 6)) (X.pure (.int 1))) X.aH)))) (XA.name 7)) (XS.seq (XS.ite (X.oN (X.test (X.cV 0 54 hV (X.var 1) (X.aB (X.eX (X.aB (X.sub (X.attr 2 31 (X.var 0)) (X.var 3)) (X.aB (X.pure (.str 51)) (X.aB (X.var 6) X.aH)))) (X.aB (X.var 7) X.aH))))) (XS.seq (XS.ret (X.pure (.bool false))) XS.nil) XS.nil) XS.nil)) XS.nil) XS.nil) (P.ρ (some (.int (k : Nat))) x4 (some (.int v)) x7) σ Q := by
 obtain ⟨D, es, s, hm, hS, hc⟩ := L.ex
 have keep : jH P.cs k v → Q .next (P.ρ (some (.int (k : Nat))) x4 (some (.int v)) x7) σ := λ h => hQ σ x7 ⟨⟨D, es, s, hm.keep h, hS, Nat.le_succ_of_le hc⟩, L.hr, L.mv, L.Nq, L.ext⟩
 rcases hA with ⟨rfl, u, hu, ho⟩ | ⟨pj, kj, ps, ks, rfl, hpj, hkj, hC, n1, n2⟩
 ·exact c6 (jX (aP (aQ (bO rfl rfl g) rfl DF))) (dJ (keep (lR A.K A.hf ⟨u, hu, .inl ho⟩)))
 have gt := aP (aQ (ρ := P.ρ (some (.int (k : Nat))) x4 (some (.int v)) x7) (f := X.sub (X.var 5) (X.var 6)) (g := X.pure .none) (bO rfl rfl g) rfl Fd)
 by_cases hk : k ∈ ps
 ·exact c6 (eY gt (jX (aP (aQ rfl (bO (bO rfl rfl g) rfl rfl) ((Aa hpj k).trans (by rw [decide_eq_false (λ h => h hk)])))))) (dJ (keep (lR A.K A.hf (En hC hk))))
 clear keep
 have hbad := AI hC hk
 have Mf : ks ≠ [] := λ z => List.not_mem_nil (z ▸ hC.start)
 have Au := (mA ks).length_eq
 have Fs : cM ks ≠ [] := λ z => by rw [z] at Au; exact Mf (List.length_eq_zero_iff.mp Au.symm)
 have e0 : (cM ks)[0]? = some ((cM ks)[0]'(List.length_pos_iff.mpr Fs)) := List.getElem?_eq_getElem _
 have e1 : (cM ks).getLast? = some ((cM ks).getLast Fs) := List.getLast?_eq_some_getLast Fs
 have hpl := hC.Nw (A.hcs ▸ A.b2)
 obtain ⟨u0, hu0⟩ := A.hf k (List.getElem?_eq_some_iff.mp hl).1
 have hH0 : jH P.cs k u0 := lR A.K A.hf ⟨u0, .refl, .inr ((A.K.iff _ _).mp hu0)⟩
 obtain ⟨rs, hrs, hgr, hrm⟩ := hm.at_ k x l hx hl
 obtain ⟨hlv, hln, hlr⟩ := hm.left hx hl hrs hv hd (A.K.mem k u0 l hu0 hl) hH0 λ z => hbad (z ▸ hH0)
 have hsmall : Small rs := hgr.small (Nat.le_trans (cU hgr.nodup λ u hu => ((hrm u).mp hu).1) (Nat.le_trans (A.hcn l (List.mem_of_getElem? hl)).2 (by decide)))
 obtain ⟨_, aT, e2, rfl, E1⟩ := yY s L.hr hpj hkj e0 e1 (λ p hp => A.hcs ▸ hC.lt p hp) A.hsc A.hg hpl A.b2 A.b3 (by rw [Au, ← hC.len]; exact Nat.le_trans hpl (by decide))
 have s1 := s.d5 E1
 have r1 := E1.bV L.hr λ h => h
 obtain ⟨_, bH, e3, rfl, s2, E2⟩ := Dn s1 hrs hsmall (by rw [hm.len]; exact A.b4) (by rw [List.length_append]; exact Nat.add_le_add A.b5 (Nat.le_trans hc hc2)) hln hlr
 have E12 : Ext P.E σ bH := (Ext.of0 E1).then E2
 rw [List.append_assoc] at s2
 refine kY (eY gt (eY (aP (aQ rfl (bO (bO rfl rfl g) rfl rfl) ((Aa hpj k).trans (by rw [decide_eq_true hk])))) rfl)) (fY (dC rfl (gC (n := 55) L.hr rfl) (aI rfl (aI (bO (bO rfl rfl g) rfl rfl) (aI (bO (bO rfl rfl g) rfl rfl) rfl))) e2) rfl (c6 (kT (aP (dC rfl (s1.inst rfl) (aI (k5 (aI (bO (bQ rfl (bC r1 rfl)) rfl (GR hx A.b2)) rfl) (Nat.le_of_ble_eq_true rfl)) rfl) e3))) (dJ (dJ ?_))))
 exact hQ bH _ ⟨⟨_, _, s2, hm.strike A.hn hx hl hrs hbad, hS.snoc hx hrs hlv hl hv hC hk e0 e1, by rw [List.length_append]; exact Nat.add_le_add_right hc 1⟩, E12.bV L.hr A.hr, L.mv.ext E12 (λ z hz h => (A.hM z (.inl h)).1 hz) (λ z hz h => (A.hM z (.inl h)).2 hz),
  L.Nq.ext E12 (λ z h => h.elim (λ e => e ▸ .tail _ (.head _)) λ h => h.elim (λ e => e ▸ .tail _ (.tail _ (.tail _ (.head _)))) λ e => e ▸ .tail _ (.tail _ (.tail _ (.tail _ (.tail _ (.head _)))))) A.hnd, L.ext.then E12⟩
theorem m7.congr {done done' : Nat → Int → Prop} {cnt NZ : Nat} (L : m7 P σ done cnt) (h : ∀ q u l, P.cs[q]? = some l → u ∈ l → (done q u ↔ done' q u)) (hc : cnt ≤ NZ) : m7 P σ done' NZ := by
 obtain ⟨D, es, s, hm, hS, hcc⟩ := L.ex
 refine ⟨⟨D, es, s, ⟨hm.len, λ q x l hx hl => ?_, hm.I7⟩, hS, Nat.le_trans hcc hc⟩, L.hr, L.mv, L.Nq, L.ext⟩
 obtain ⟨rs, h1, h2, h3⟩ := hm.at_ q x l hx hl
 refine ⟨rs, h1, h2, λ u => (h3 u).trans ⟨λ ⟨p1, p2⟩ => ⟨p1, λ z => p2 ((h q u l hl p1).mpr z)⟩, λ ⟨p1, p2⟩ => ⟨p1, λ z => p2 ((h q u l hl p1).mp z)⟩⟩⟩
theorem m7.lt {done : Nat → Int → Prop} {cnt : Nat} (L : m7 P σ done cnt) : ∀ z ∈ P.F, z < σ.length := by
 intro z hz
 obtain ⟨D, es, s, _⟩ := L.ex
 rcases List.mem_append.mp (show z ∈ [P.i, P.a, P.f, P.t, P.mK, P.nw] ++ [P.nd] from hz) with h | h
 ·exact s.lt z h
 ·obtain ⟨ml, hml, _⟩ := L.Nq.at_
  cases List.mem_singleton.mp h
  exact iQ hml
inductive PA (P : P2) (x4 : Option V) (k : Nat) (l : List Int) (n : Nat) (ρ : Loc) (σ : St) : Prop
 | intro (e : E2 λ y6 y7 => ρ = P.ρ (some (.int (k : Nat))) x4 y6 y7) (L : m7 P σ (λ q u => q < k ∨ (q = k ∧ u ∈ l.take n)) (5 * k + n))
theorem Fo {k x n : Nat} {v : Int} {l : List Int} {x4 : Option V} {ρ : Loc} {Q : Fl → Loc → St → Prop} (A : Oo P) (hx : P.scope[k]? = some x) (hl : P.cs[k]? = some l) (hv : l[n]? = some v) (I : PA P x4 k l n ρ σ) : sU (XA.name 6) wI (PA P x4 k l (n + 1)) Q (.int v) ρ σ := by
 obtain ⟨⟨y6, y7, rfl⟩, L2⟩ := I
 have hlm := List.mem_of_getElem? hl
 have hvl : v ∈ l := List.mem_of_getElem? hv
 obtain ⟨hlt, hve⟩ := List.getElem?_eq_some_iff.mp hv
 have htk : l.take (n + 1) = l.take n ++ [v] := by rw [List.take_succ_eq_append_getElem hlt, hve]
 have hvn : v ∉ l.take n := by
  have h1 := (A.hcn l hlm).1.sublist (List.take_sublist (n + 1) l)
  rw [htk, List.nodup_append] at h1
  exact λ hv2 => h1.2.2 v hv2 v (.head _) rfl
 have hk := (List.getElem?_eq_some_iff.mp hx).1
 have hcb : 5 * k + n ≤ 100 := Nat.add_le_add (b := 50) (d := 50) (Nat.mul_le_mul_left 5 (Nat.le_trans (Nat.le_of_lt hk) A.b2)) (Nat.le_trans (Nat.le_of_lt hlt) (Nat.le_trans (A.hcn l hlm).2 (by decide : 5 ≤ 50)))
 refine ⟨rfl, λ Q' hn _ => G4 (x3 := some (.int (k : Nat))) L2.lt L2.mv A.K L2.Nq (L2.mv.vals l hlm v hvl) λ dT w N3 g3 A3 E3 => ?_⟩
 obtain ⟨D, es, s2, hm2, hS2, hc2⟩ := L2.ex
 have L3 : m7 P dT (λ q u => q < k ∨ (q = k ∧ u ∈ l.take n)) (5 * k + n) :=
  ⟨⟨D, es, s2.ext E3 λ z hz => A.hnd2 z (List.mem_append_left [P.r] hz), hm2, hS2, hc2⟩, E3.bV L2.hr (A.hnd2 P.r (List.mem_append_right [P.i, P.a, P.f, P.t, P.mK, P.nw] (.head _))), L2.mv.ext E3 (λ z hz h => (A.hM z (.inr h)).1 hz) (λ z hz h => (A.hM z (.inr h)).2 hz), N3, L2.ext.trans E3 λ z h => .inr (h ▸ A.OY)⟩
 refine Jq A L3 hx hl hvl (λ h => h.elim (Nat.lt_irrefl _) λ h => hvn h.2) hcb g3 A3 λ k8 z7 L4 => hn _ _ ⟨⟨_, _, rfl⟩, L4.congr (λ q u l' hl' hu => ?_) (Nat.le_refl _)⟩
 rw [htk]
 constructor
 ·rintro ((h | ⟨rfl, h⟩) | ⟨rfl, rfl⟩)
  ·exact .inl h
  ·exact .inr ⟨rfl, List.mem_append_left _ h⟩
  ·exact .inr ⟨rfl, List.mem_append_right _ (.head _)⟩
 ·rintro (h | ⟨rfl, h⟩)
  ·exact .inl (.inl h)
  ·rcases List.mem_append.mp h with h | h
   ·exact .inl (.inr ⟨rfl, h⟩)
   ·exact .inr ⟨rfl, List.mem_singleton.mp h⟩
theorem Fp {g : XS} {k x : Nat} {l : List Int} {x4 x6 x7 : Option V} {Q : Fl → Loc → St → Prop} (A : Oo P) (L : m7 P σ (λ q _ => q < k) (5 * k)) (hx : P.scope[k]? = some x) (hl : P.cs[k]? = some l)
  (hQ : ∀ σ' y6 y7, m7 P σ' (λ q _ => q < k + 1) (5 * (k + 1)) → sp g (P.ρ (some (.int (k : Nat))) x4 y6 y7) σ' Q) :
  sp (XS.seq (XS.for (X.sub (X.attr 1 37 (X.var 2)) (X.var 3)) (XA.name 6) wI 1000) g) (P.ρ (some (.int (k : Nat))) x4 x6 x7) σ Q := by
 obtain ⟨id, hid, hcg, _⟩ := L.mv.choice hl
 have hll := (A.hcn l (List.mem_of_getElem? hl)).2
 refine nR l .int (PA P x4 k l) (bO (bQ rfl (bC (n := 37) L.mv.hs rfl)) rfl hcg) ⟨⟨_, _, rfl⟩, L.congr (λ q u l _ _ => ⟨.inl, λ h => h.elim (λ h => h) λ h => (List.not_mem_nil h.2).elim⟩) (Nat.le_refl _)⟩ (Nat.lt_of_le_of_lt hll (by decide)) ?_ (λ n v ρ bH hv I => Fo A hx hl hv I) ?_
 ·rintro n ρ bH ⟨_, L2⟩ hn
  obtain ⟨id', NM, _, h2, _⟩ := L2.mv.choice hl
  rw [hid] at NM; cases NM
  exact Src.list h2 bH .refl n (by rw [List.length_map]; exact hn)
 ·rintro ρ bH ⟨⟨y6, y7, rfl⟩, L2⟩
  refine hQ bH _ _ (L2.congr (λ q u l' hl' hu => ?_) (Nat.add_le_add_left hll _))
  rw [List.take_length]
  refine ⟨λ h => h.elim Nat.lt_succ_of_lt λ h => h.1 ▸ Nat.lt_succ_self _, λ h => ?_⟩
  rcases Nat.lt_or_eq_of_le (Nat.le_of_lt_succ h) with h | rfl
  ·exact .inl h
  ·rw [hl] at hl'; cases hl'; exact .inr ⟨rfl, hu⟩
end
section
variable {P : P2} {σ : St}
inductive Px (P : P2) (x4 : Option V) (k : Nat) (ρ : Loc) (σ : St) : Prop
 | intro (e : E3 λ y3 y6 y7 => ρ = P.ρ y3 x4 y6 y7) (L : m7 P σ (λ q _ => q < k) (5 * k))
theorem E0 {g : XS} {x3 x4 : Option V} {Q : Fl → Loc → St → Prop} (A : Oo P) (L : m7 P σ (λ _ _ => False) 0)
  (hQ : ∀ σ' y3 y6 y7, m7 P σ' (λ _ _ => True) 50 → sp g (P.ρ y3 x4 y6 y7) σ' Q) :
  sp (XS.seq (XS.for (X.call (bY cW) (X.aB (X.call (bY gR) (X.aB (X.attr 2 31 (X.var 0)) X.aH)) X.aH)) (XA.name 3) (XS.seq (XS.for (X.sub (X.attr 1 37 (X.var 2)) (X.var 3)) (XA.name 6) wI 1000) XS.nil) 1000) g) (P.ρ x3 x4 none none) σ Q := by
 have hsl : (aK P.scope).length = P.scope.length := List.length_map _
 have hl : (List.range P.scope.length).length = P.scope.length := List.length_range
 refine nR (List.range P.scope.length) (λ k => .int (k : Nat)) (Px P x4) (aN (aI (aN (aI (bQ rfl (bC (n := 31) L.hr rfl)) rfl) (wA (hsl.symm ▸ Nat.le_trans A.b2 (by decide)))) rfl) (by rw [hsl]; rfl)) ⟨⟨_, _, _, rfl⟩, L.congr (λ q u l _ _ => ⟨False.elim, λ h => (Nat.not_lt_zero _ h).elim⟩) (Nat.le_refl _)⟩
  (hl.symm ▸ Nat.lt_of_le_of_lt A.b2 (by decide)) (λ k ρ σ' _ hk => oK (σ := σ') (Nat.le_trans A.b2 (by decide)) σ' .refl k (by rw [List.length_map]; exact hk)) ?_ ?_
 ·rintro k x ρ bH hx ⟨⟨y3, y6, y7, rfl⟩, L2⟩
  obtain ⟨hk, e⟩ := List.getElem?_eq_some_iff.mp hx
  rw [List.getElem_range] at e
  subst e
  rw [hl] at hk
  exact ⟨rfl, λ Q' hn _ => Fp A L2 (List.getElem?_eq_getElem hk) (List.getElem?_eq_getElem (A.hcs.symm ▸ hk)) λ dT z6 z7 L3 => dJ (hn _ _ ⟨⟨_, _, _, rfl⟩, L3⟩)⟩
 ·rintro ρ bH ⟨⟨y3, y6, y7, rfl⟩, L2⟩
  rw [hl] at L2
  exact hQ bH _ _ _ (L2.congr (λ q u l h _ => ⟨λ _ => trivial, λ _ => A.hcs ▸ (List.getElem?_eq_some_iff.mp h).1⟩) (Nat.mul_le_mul_left 5 A.b2))
end
theorem Ab {l : List Nat} : (l.map λ x : Nat => (x : Int)).Nodup ↔ l.Nodup := by
 unfold List.Nodup
 rw [List.pairwise_map]
 exact ⟨λ h => h.imp λ h e => h (congrArg _ e), λ h => h.imp λ h e => h (Int.ofNat.inj e)⟩
noncomputable def KC (σ σ' : St) (i a f t mk nw : Nat) (doms firsts : List (List (Int × Int))) (trail marks clash : List V) (scope : List Nat) (v : V) : Prop :=
 Ext (λ z => z = i ∨ z = a ∨ z = t ∨ z = nw) σ σ' ∧
 ((A3 (¬ scope.Nodup) (v = .bool false) (SV σ' i a f t mk nw doms firsts trail marks true [])) ∨
  (A3 scope.Nodup (v = .bool false) (E4 λ ps ks lo hi => A4 (Jt (eK doms scope) ps ks) ((cM ks)[0]? = some lo) ((cM ks).getLast? = some hi) (SV σ' i a f t mk nw doms firsts trail marks true (mM firsts scope ps (cM ks) lo hi)))) ∨
  (A3 scope.Nodup (v = .bool true) (E4 λ aZ own D es => A6 (c0 (eK doms scope) aZ own) (Full (eK doms scope) aZ) (SV σ' i a f t mk nw D firsts (trail ++ es) marks false clash) (Mid (eK doms scope) scope doms D (λ _ _ => True)) (o5 (eK doms scope) own scope firsts doms es D) (es.length ≤ 50))))
section
variable {σ : St} {i a f t mk nw r : Nat} {scope : List Nat} {doms firsts : List (List (Int × Int))} {trail marks clash : List V}
theorem f8 {σ : List O} {i j : Nat} {x} {y} (h : bV σ i = some x) (k : getL σ j = some y) : i ≠ j := by
 rintro rfl; have a := yQ h; rw [j5 k] at a; cases a
theorem DR {σ : List O} {i j : Nat} {x} {y} (h : bV σ i = some x) (k : eJ σ j = some y) : i ≠ j := by
 rintro rfl; have a := yQ h; rw [lH k] at a; cases a
theorem B0 {x : Nat} (h : x < doms.length) : doms.getD x [] = doms[x] := by rw [List.getD_eq_getElem?_getD, List.getElem?_eq_getElem h]; rfl
theorem MV.lt {j c m o : Nat} {ids : List Nat} {cs : List (List Int)} {aZ : Nat → Option Int} {own : Int → Option Nat} (M : MV σ j c m o ids cs aZ own) {z : Nat} (h : z ∈ [j, c, m, o] ∨ z ∈ ids) : z < σ.length := by
 rcases h with h | h
 ·obtain ⟨ol, hol, _⟩ := M.ho
  simp only [List.mem_cons, List.not_mem_nil, or_false] at h
  rcases h with rfl | rfl | rfl | rfl
  ·exact fL M.hs
  ·exact bE M.hc
  ·exact bE M.hm
  ·exact iQ hol
 ·obtain ⟨p, hp⟩ := List.getElem?_of_mem h
  exact bE (M.uR p z _ hp (List.getElem?_eq_getElem (M.hlen ▸ (List.getElem?_eq_some_iff.mp hp).1))).h1
theorem OM (hsc : ∀ x ∈ scope, x < doms.length) (hg : ∀ rs ∈ doms, A3 (Good rs) ((aX rs).length ≤ 5) (aX rs ≠ [])) : Mid (eK doms scope) scope doms doms (λ _ _ => False) := by
 refine ⟨rfl, λ q x l hx hl => ?_, λ x _ => rfl⟩
 have hxd := hsc x (List.mem_of_getElem? hx)
 unfold eK at hl
 rw [List.getElem?_map, hx] at hl
 cases hl
 dsimp only
 rw [B0 hxd]
 exact ⟨_, List.getElem?_eq_getElem hxd, (hg _ (List.getElem_mem hxd)).h1, λ u => ⟨λ h => ⟨h, λ z => z.elim⟩, λ h => h.1⟩⟩
theorem qQ (hsc : ∀ x ∈ scope, x < doms.length) (hg : ∀ rs ∈ doms, A3 (Good rs) ((aX rs).length ≤ 5) (aX rs ≠ [])) {l : List Int} (hl : l ∈ eK doms scope) : A3 l.Nodup (l.length ≤ 5) (l ≠ []) := by
 obtain ⟨x, hx, rfl⟩ := List.mem_map.mp hl
 have hxd := hsc x hx
 rw [B0 hxd]
 have := hg _ (List.getElem_mem hxd)
 exact ⟨this.h1.nodup, this.h2, this.h3⟩
theorem zX (s : SV σ i a f t mk nw doms firsts trail marks false clash) (hr : bV σ r = some (ad scope)) (hri : r ≠ i) (hsc : ∀ x ∈ scope, x < doms.length) (hfl : firsts.length = doms.length)
  (hgf : ∀ rs ∈ firsts, Good rs ∧ (aX rs).length ≤ 20) (hg : ∀ rs ∈ doms, A3 (Good rs) ((aX rs).length ≤ 5) (aX rs ≠ [])) (b2 : scope.length ≤ 10) (b4 : doms.length ≤ 100) (b5 : trail.length ≤ 900) :
  wp (bT [.inst 2 r, .inst 0 i] σ) λ v σ' => KC σ σ' i a f t mk nw doms firsts trail marks clash scope v := by
 have hints : aK scope = (scope.map λ x : Nat => (x : Int)).map .int := by unfold aK; rw [List.map_map]; rfl
 obtain ⟨_, aT, e1, rfl, E1⟩ := AJ (σ := σ) (r := r) (xs := scope.map λ x : Nat => (x : Int)) (by rw [List.length_map]; exact Nat.le_trans b2 (by decide))
 rw [← hints, decide_eq_decide.mpr Ab] at e1
 have s1 := s.d5 E1
 refine wp_runF rfl (c6 (aP (bQ rfl (bC (n := 13) s.hs rfl))) ?_)
 have ec := dC (ρ := [some (.inst 2 r), some (.inst 0 i), none, none, none, none, none, none]) (f := X.var 0) rfl (gC (n := 59) hr rfl) (aI (g := X.aH) (bQ (f := X.var 0) rfl (bC (n := 31) hr rfl)) rfl) e1
 by_cases hn : scope.Nodup
 case neg =>
  rw [decide_eq_false hn] at ec
  obtain ⟨_, bH, e2, rfl, s2, E2⟩ := B6 s1 []
  exact zQ (kT (aP ec)) (dC rfl (s1.inst (k := 22) rfl) rfl e2) ⟨(Ext.of0 E1).then (E2.mono λ z h => .inl h), .inl ⟨hn, rfl, s2⟩⟩
 rw [decide_eq_true hn] at ec
 have r1 := E1.bV hr λ h => h
 obtain ⟨_, bH, e2, j, c, m, o, ids, rfl, ⟨hf1, hf2⟩, M2, E2⟩ := Br s1 b2 b4 hsc λ rs h => ⟨(hg rs h).h1, Nat.le_trans (hg rs h).h2 (by decide)⟩
 refine c6 (kT (aP ec)) (fY (aN (aI rfl (aI (bQ rfl (bC (n := 31) r1 rfl)) rfl)) e2) rfl ?_)
 clear ec e1 e2
 have s2 := s1.d5 E2
 have r2 := E2.bV r1 λ h => h
 have E02 := E1.then E2
 have hlow : ∀ z ∈ [i, a, f, t, mk, nw, r], z < aT.length := λ z hz => by
  rcases List.mem_append.mp (show z ∈ [i, a, f, t, mk, nw] ++ [r] from hz) with h | h
  ·exact s1.lt z h
  ·cases List.mem_singleton.mp h; exact fL r1
 have hm1 := hf1 m (.tail _ (.tail _ (.head _)))
 have ho1 := hf1 o (.tail _ (.tail _ (.tail _ (.head _))))
 have hcs : (eK doms scope).length = scope.length := List.length_map _
 have NA : ∀ x ∈ scope, x < firsts.length := λ x hx => hfl ▸ hsc x hx
 have new {z : Nat} (h : z = m ∨ z = o) : aT.length ≤ z := h.elim (λ e => e ▸ hm1) λ e => e ▸ ho1
 refine EP s2 r2 M2 hcs (λ z hz h => Nat.lt_irrefl _ (Nat.lt_of_lt_of_le (hlow z hz) (new h))) (λ l hl => (qQ hsc hg hl).h3) NA hgf b2 (hfl ▸ b4) ?_ ?_
 ·intro ρ dT ps ks lo hi hW e0 e1 s3 E3
  exact ⟨(E02.of0).trans E3 λ z h => h.elim (λ h => .inl (.inl h)) λ h => .inr (Nat.le_trans E1.1 (new h)), .inr (.inl ⟨hn, rfl, ps, ks, lo, hi, hW, e0, e1, s3⟩)⟩
 ·intro dT aZ own x y M3 K3 F3 E3
  have E03 : bW σ dT := E02.trans E3 λ z h => .inr (Nat.le_trans E1.1 (new h))
  have s3 := s.d5 E03
  have r3 := E03.bV hr λ h => h
  have P3 : bW dT (dT ++ [O.bX []]) := .push _
  have s4 := s3.d5 P3
  have Lg : ∀ z ∈ [i, a, f, t, mk, nw, r], z < dT.length := λ z hz => Nat.lt_of_lt_of_le (hlow z hz) (Nat.le_trans E2.1 E3.1)
  obtain ⟨nl, hnl, _⟩ := s3.hn
  have hE : ∀ {z}, z = a ∨ z = t ∨ z = nw → z ∈ [i, a, f, t, mk, nw, r] := λ h => by
   rcases h with rfl | rfl | rfl
   ·exact .tail _ (.head _)
   ·exact .tail _ (.tail _ (.tail _ (.head _)))
   ·exact .tail _ (.tail _ (.tail _ (.tail _ (.tail _ (.head _)))))
  have hMl : ∀ z, z ∈ [j, c, m, o] ∨ z ∈ ids → aT.length ≤ z := λ z h => h.elim (hf1 z) (hf2 z)
  refine fY rfl rfl (E0 (P := ⟨dT, i, a, f, t, mk, nw, r, dT.length, j, c, m, o, ids, scope, doms, firsts, trail, marks, clash, eK doms scope, aZ, own⟩) ⟨K3, F3, hn, hcs, λ l hl => ⟨(qQ hsc hg hl).h1, (qQ hsc hg hl).h2⟩, NA, hgf, b2, hfl ▸ b4, b4, b5, ?_, λ h => Nat.lt_irrefl _ (Lg _ (hE h)), ?_, λ z hz => Nat.ne_of_lt (Lg z hz), Nat.le_refl _⟩
   ⟨⟨doms, [], (List.append_nil trail).symm ▸ s4, OM hsc hg, .nil, Nat.le_refl _⟩, P3.bV r3 λ h => h, M3.d5 P3, ⟨[], uU, ⟨λ _ h => (List.not_mem_nil h).elim, .nil⟩, λ v w h => by cases h⟩, P3.of0⟩ ?_)
  ·rintro (h | h | h)
   ·exact f8 r3 s3.hd h
   ·exact f8 r3 s3.ht h
   ·exact DR r3 hnl h
  ·have key : ∀ z, z ∈ [j, c, m, o] ∨ z ∈ ids → ¬ ((z = a ∨ z = t ∨ z = nw) ∨ z = dT.length) := λ z hz h => h.elim (λ h => Nat.lt_irrefl _ (Nat.lt_of_lt_of_le (hlow z (hE h)) (hMl z hz))) λ h => Nat.lt_irrefl _ (h ▸ M3.lt hz)
   exact λ z h => ⟨λ hm => key z (.inl hm) h, λ hm => key z (.inr hm) h⟩
  ·intro k8 y3 y6 y7 L4
   obtain ⟨D, es, s5, hm5, hS5, hc5⟩ := L4.ex
   exact lW rfl ⟨E03.of0.trans L4.ext (λ z h => .inl (.inr h)), .inr (.inr ⟨hn, rfl, aZ, own, D, es, K3, F3, s5, hm5, hS5, hc5⟩)⟩
end
section
variable {ρ : Loc} {σ : St}
noncomputable def FN (v : V) (l : List V) : Prop := ∀ σ' k, k ≤ l.length → gV v σ' k = some l[k]?
theorem FN.tup {l : List V} : FN (.tup l) l := λ _ _ _ => rfl
theorem FN.range {a b : Int} (h1 : -1000000 ≤ a) (h2 : a ≤ 1000000) (h3 : -1000000 ≤ b) (h4 : b ≤ 1000000) : FN (.range a b) ((rangeInts a b).map .int) := λ σ' k hk =>
 Src.range (σ := σ') h1 h2 h3 h4 σ' .refl k hk
theorem He {α β : Type} (ys : α → List β) (out : α → β → Option V) {l : List α} {m : Nat} (h : ∀ x ∈ l, (ys x).length ≤ m) : (l.flatMap λ x => (ys x).filterMap (out x)).length ≤ m * l.length := by
 induction l with
 | nil => exact Nat.zero_le _
 | cons x l ih =>
  rw [List.flatMap_cons, List.length_append, List.length_cons, Nat.mul_succ, Nat.add_comm]
  exact Nat.add_le_add (ih λ y hy => h y (.tail _ hy)) (C2 _ (h x (.head _)))
inductive Oe {α β : Type} (a : XA) (f2 : X V) (a2 : XA) (t2 : Option (X Bool)) (e : X V) (L2 : α → Loc → Prop) (inj : α → V) (ys : α → List β) (Iy : β → V) (out : α → β → Option V) (aT : St) (x : α) (ρ : Loc) (σ : St) : Prop
 | mk {o8 : Loc} {bH dT : St} {v2 : V} (h1 : a (inj x) ρ σ = some (o8, bH)) (hL : L2 x o8) (h2 : f2 o8 bH = some (v2, dT)) (E : bW σ dT) (hs : FN v2 ((ys x).map Iy)) (k : ∀ y Oq k8, y ∈ ys x → L2 x Oq → bW aT k8 → JD t2 a2 e (L2 x) (Iy y) (out x y) Oq k8)
theorem IW {α β : Type} {G : Prop} {aT : St} (L : Loc → Prop) (L2 : α → Loc → Prop) {locs : List Nat} {f f2 : X V} {a a2 : XA} {t2 : Option (X Bool)} {e : X V} {fuel : Nat} {v : V} (l : List α) (inj : α → V) (ys : α → List β) (Iy : β → V) (out : α → β → Option V) (hL : L (Ln locs ρ)) (hLL : ∀ x ρ, L2 x ρ → L ρ) (h3 : l.length ≤ 1000) (hs : Src v aT (l.map inj)) (hys : ∀ x ∈ l, (ys x).length ≤ 50)
  (k : ∀ σ', X.CU locs f a none f2 a2 t2 e fuel ρ σ = some (.obj aT.length, σ') → bW aT σ' → getL σ' aT.length = some (l.flatMap λ x => (ys x).filterMap (out x)) → G) (h1 : f ρ σ = some (v, aT)) (h2 : l.length < fuel) (h4 : 50 < fuel) (step : ∀ x cJ σ', x ∈ l → L cJ → bW aT σ' → Oe a f2 a2 t2 e L2 inj ys Iy out aT x cJ σ') : G := by
 have : xp (X.CU locs f a none f2 a2 t2 e fuel) ρ σ λ r σ' => A3 (r = .obj aT.length) (bW aT σ') (getL σ' aT.length = some (l.flatMap λ x => (ys x).filterMap (out x))) := by
  refine tR ⟨v, aT, h1, l.map inj, λ k ρ σ => A3 (L ρ) (bW aT σ) (getL σ aT.length = some ((l.take k).flatMap λ x => (ys x).filterMap (out x))), ⟨hL, .push _, cH⟩, by rw [List.length_map]; exact h2, hs aT .refl 0 (Nat.zero_le _), λ k ρ σ I hk => hs σ I.h2 k hk, λ k x ρ σ hx I => ?_, λ ρ σ I => ⟨rfl, I.h2, ?_⟩⟩
  ·rw [List.getElem?_map] at hx
   obtain ⟨x, hy, rfl⟩ := Option.map_eq_some_iff.mp hx
   have hxl := List.mem_of_getElem? hy
   obtain ⟨hlt, e⟩ := List.getElem?_eq_some_iff.mp hy
   obtain ⟨g1, gL, g2, E, gs, gk⟩ := step x ρ σ hxl I.h1 I.h2
   refine ⟨_, _, g1, true, _, rfl, Kb ⟨_, _, g2, Gc (l := (ys x).map Iy) (λ m ρ σ => A3 (L2 x ρ) (bW aT σ) (getL σ aT.length = some (((l.take k).flatMap λ x => (ys x).filterMap (out x)) ++ ((ys x).take m).filterMap (out x)))) (λ m ρ σ _ hm => gs σ m hm) (λ m y ρ σ hy J => ?_) (λ ρ σ J => ⟨hLL _ _ J.h1, J.h2, ?_⟩) fuel 0 _ _ ⟨gL, I.h2.then E, (List.append_nil _).symm ▸ E.getL I.h3 id⟩ (Nat.zero_le _) ?_⟩⟩
   ·rw [List.getElem?_map] at hy
    obtain ⟨y, hy2, rfl⟩ := Option.map_eq_some_iff.mp hy
    refine Ca (Nat.le_refl _) (gk y ρ σ (List.mem_of_getElem? hy2) J.h1 J.h2) J.h2 hy2 J.h3 ?_
    exact Nat.le_trans (Nat.add_le_add (Nat.le_trans (He ys out λ z hz => hys z (List.mem_of_mem_take hz)) (Nat.mul_le_mul_left 50 (Nat.le_trans (List.length_take_le' k l) h3))) (hys x hxl)) (by decide)
   ·have := J.h3
    rw [List.length_map, List.take_length] at this
    rw [this, List.take_succ_eq_append_getElem hlt, e, List.flatMap_append, List.flatMap_singleton]
   ·rw [List.length_map]; exact Nat.lt_of_le_of_lt (hys x hxl) h4
  ·have := I.h3; rw [List.length_map, List.take_length] at this; exact this
 obtain ⟨_, σ', e, rfl, E, g⟩ := this
 exact k σ' e E g
end
noncomputable def sumBits (p : Nat → Bool) : Nat := (if p 0 then 1 else 0) + (if p 1 then 2 else 0) + (if p 2 then 4 else 0) + (if p 3 then 8 else 0) + (if p 4 then 16 else 0)
theorem Df {P : Nat → Prop} (h0 : P 0) (h1 : P 1) (h2 : P 2) (h3 : P 3) (h4 : P 4) : ∀ k, k < 5 → P k
 | 0, _ => h0
 | 1, _ => h1
 | 2, _ => h2
 | 3, _ => h3
 | 4, _ => h4
 | k + 5, h => absurd h (by lia)
theorem mT (p : Nat → Bool) {k : Nat} (hk : k < 5) : (sumBits p).testBit k = p k := by
 unfold sumBits
 generalize h0 : p 0 = a
 generalize h1 : p 1 = b
 generalize h2 : p 2 = c
 generalize h3 : p 3 = d
 generalize h4 : p 4 = e
 revert hk
 refine Df (P := λ k => (((((if a = true then 1 else 0) + if b = true then 2 else 0) + if c = true then 4 else 0) + if d = true then 8 else 0) + if e = true then 16 else 0).testBit k = p k) ?_ ?_ ?_ ?_ ?_ k
 ·rw [h0]; clear h0 h1 h2 h3 h4; revert a b c d e; decide
 ·rw [h1]; clear h0 h1 h2 h3 h4; revert a b c d e; decide
 ·rw [h2]; clear h0 h1 h2 h3 h4; revert a b c d e; decide
 ·rw [h3]; clear h0 h1 h2 h3 h4; revert a b c d e; decide
 ·rw [h4]; clear h0 h1 h2 h3 h4; revert a b c d e; decide
theorem y5 (p : Nat → Bool) : sumBits p < 32 :=
 have : ∀ a b c d e : Bool, (if a then 1 else 0) + (if b then 2 else 0) + (if c then 4 else 0) + (if d then 8 else 0) + (if e then 16 else 0) < 32 := by decide
 this _ _ _ _ _
theorem k9 {m : Nat} (h : m < 32) : sumBits m.testBit = m := by
 have : ∀ m < 32, sumBits m.testBit = m := by decide
 exact this m h
theorem r8 {p q : Nat → Bool} (h : ∀ k, k < 5 → p k = q k) : sumBits p = sumBits q := by
 unfold sumBits
 rw [h 0 (by lia), h 1 (by lia), h 2 (by lia), h 3 (by lia), h 4 (by lia)]
theorem vH {m n : Nat} (hm : m < 32) (hn : n < 32) (h : ∀ k, k < 5 → m.testBit k = n.testBit k) : m = n := by
 rw [← k9 hm, ← k9 hn]; exact r8 h
noncomputable def cnt (m : Nat) : Nat := ((List.range 5).filter λ k => m.testBit k).length
theorem rD {b : Int} {m : Nat} : (vm b m).length = cnt m := by unfold vm cnt; simp
section
variable {ρ : Loc} {σ aT bH : St}
theorem Ky {m k : Nat} : (m : Int) / ((2 ^ k : Nat) : Int) % 2 = if m.testBit k = true then 1 else 0 := by
 rw [Nat.testBit_eq_decide_div_mod_eq, show (m : Int) / ((2 ^ k : Nat) : Int) % 2 = ((m / 2 ^ k % 2 : Nat) : Int) from rfl]
 rcases Nat.mod_two_eq_zero_or_one (m / 2 ^ k) with h | h <;> rw [h] <;> rfl
theorem B7 {f : X V} {k : Nat} (h : f ρ σ = some (.int (k : Nat), aT)) (hk : k ≤ 20) : X.bin i3 (X.pure (.int 2)) f ρ σ = some (.int ((2 ^ k : Nat) : Int), aT) := by
 refine aQ rfl h ?_
 unfold i3
 dsimp only
 rw [if_pos]
 ·rfl
 ·simp [pW]; lia
theorem Lk {f g : X V} {m k : Nat} (hf : f ρ σ = some (.int (m : Nat), aT)) (hg : g ρ aT = some (.int (k : Nat), bH)) (hk : k ≤ 20) : X.bin oMod (X.bin cI f (X.bin i3 (X.pure (.int 2)) g)) (X.pure (.int 2)) ρ σ = some (.int (if m.testBit k = true then 1 else 0), bH) := by
 have hp0 : (0 : Int) < ((2 ^ k : Nat) : Int) := Int.natCast_pos.mpr (Nat.pow_pos (by decide))
 have hp1 : 2 ^ k < 1073741824 := Nat.lt_of_le_of_lt (Nat.pow_le_pow_right (by decide) hk) (by decide)
 refine aQ (aQ hf (B7 hg hk) (r := (.int ((m : Int) / ((2 ^ k : Nat) : Int)), bH)) ?_) rfl ?_
 ·unfold cI
  dsimp only
  rw [if_neg (λ h => h.elim (Int.ne_of_gt hp0) λ h => h hp1), Int.fdiv_eq_ediv_of_nonneg _ (Int.le_of_lt hp0)]
 ·unfold oMod
  dsimp only
  rw [if_neg (by decide), Int.fmod_eq_emod_of_nonneg _ (by decide), Ky]
theorem wE {f g : X V} {m k : Nat} (hf : f ρ σ = some (.int (m : Nat), aT)) (hg : g ρ aT = some (.int (k : Nat), bH)) (hk : k ≤ 20) : X.test (X.bin oEq (X.bin oMod (X.bin cI f (X.bin i3 (X.pure (.int 2)) g)) (X.pure (.int 2))) (X.pure (.int 1))) ρ σ = some (m.testBit k, bH) := by
 refine aP (aQ (Lk hf hg hk) rfl ?_)
 rw [eq_int]
 cases m.testBit k <;> rfl
theorem zW : Src (.range 0 5) σ ((List.range 5).map λ k : Nat => V.int (k : Nat)) := oK (n := 5) (by decide)
theorem ints_of : ∀ l : List Int, intsOf (l.map V.int) = some l
 | [] => rfl
 | a :: l => by
  show (intsOf (l.map V.int)).map (a :: ·) = _
  rw [ints_of l]; rfl
theorem Fv {i : Nat} {ns : List Int} (h : getL σ i = some (ns.map .int)) (h1 : ns.length ≤ 1000) (h2 : ∀ x ∈ ns, -1000000000 ≤ x ∧ x ≤ 1000000000) : Fw (.obj i) σ = some (.int (vS ns), σ) := by
 unfold Fw
 simp only [h, ints_of, Option.bind_some]
 rw [if_pos ⟨h1, by simpa using h2⟩]
theorem JM {m : Nat} : vS ((List.range 5).map λ k : Nat => (if m.testBit k = true then 1 else 0 : Int)) = (cnt m : Nat) := by
 have key : ∀ a b c d e : Bool, vS ([a, b, c, d, e].map λ x => if x = true then (1 : Int) else 0) = (([a, b, c, d, e].filter id).length : Nat) := by decide
 have := key (m.testBit 0) (m.testBit 1) (m.testBit 2) (m.testBit 3) (m.testBit 4)
 refine Eq.trans this (congrArg Int.ofNat ?_)
 show ((List.range 5).map m.testBit |>.filter id).length = _
 rw [List.filter_map, List.length_map]; rfl
theorem AG {m : Nat} : wp (f4 [.int (m : Nat)] σ) λ r σ' => r = .int (cnt m : Nat) ∧ bW σ σ' := by
 refine evMap (ρ := [some (.int (m : Nat)), none]) (σ := σ) (λ ρ => ∃ x, ρ = [some (.int (m : Nat)), x]) (List.range 5) (λ k => .int (k : Nat)) (λ k => some (.int (if m.testBit k = true then 1 else 0))) ⟨none, rfl⟩ (by decide) zW (λ σ' e E g => ⟨_, _, s9 (aN (aI e rfl) (Fv (ns := (List.range 5).map λ k : Nat => (if m.testBit k = true then 1 else 0 : Int)) ?_ (Nat.le_of_ble_eq_true rfl) ?_)), congrArg V.int JM, E⟩) rfl (by decide) ?_
 ·rw [g, List.map_map]; rfl
 ·intro x hx
  obtain ⟨k, _, rfl⟩ := List.mem_map.mp hx
  split <;> decide
 ·rintro k _ σ' hk ⟨x, rfl⟩ E
  exact .put rfl ⟨_, rfl⟩ rfl (Lk rfl rfl (Nat.le_trans (Nat.le_of_lt (List.mem_range.mp hk)) (by decide))) rfl .refl
end
structure yJ (b : Int) (m k : Nat) (rs : List (Int × Int)) : Prop where
 each : ∀ p ∈ rs, p.1 ≤ p.2 ∧ b ≤ p.1 ∧ p.2 < b + (k : Nat)
 order : rs.Pairwise λ p q => p.2 < q.1
 mem : ∀ x, x ∈ aX rs ↔ ∃ j, j < k ∧ m.testBit j = true ∧ x = b + (j : Nat)
 last : ∀ j, k = j + 1 → m.testBit j = true → ∃ p, rs.getLast? = some p ∧ p.2 = b + (j : Nat)
 len : rs.length ≤ k
theorem Ai {rs : List (Int × Int)} {p : Int × Int} {x : Int} : x ∈ aX (rs ++ [p]) ↔ x ∈ aX rs ∨ (p.1 ≤ x ∧ x ≤ p.2) := by
 rw [gY, gY]
 constructor
 ·rintro ⟨q, hq, h⟩
  rcases List.mem_append.mp hq with hq | hq
  ·exact .inl ⟨q, hq, h⟩
  ·cases List.mem_singleton.mp hq; exact .inr h
 ·rintro (⟨q, hq, h⟩ | h)
  ·exact ⟨q, List.mem_append_left _ hq, h⟩
  ·exact ⟨p, List.mem_append_right _ (.head _), h⟩
theorem MU (b : Int) (k : Nat) : b + (k : Nat) < b + ((k + 1 : Nat) : Int) := Int.add_lt_add_left (Int.ofNat_lt.mpr (Nat.lt_succ_self k)) b
theorem zD {rs : List (Int × Int)} {p : Int × Int} (h : rs.Pairwise λ p q => p.2 < q.1) (h' : ∀ q ∈ rs, q.2 < p.1) : (rs ++ [p]).Pairwise λ p q => p.2 < q.1 := by
 rw [List.pairwise_append]
 exact ⟨h, List.pairwise_singleton .., λ q hq r hr => by cases List.mem_singleton.mp hr; exact h' q hq⟩
theorem Gj {b x : Int} {m k : Nat} (hb : m.testBit k = true) : (∃ j, j < k + 1 ∧ m.testBit j = true ∧ x = b + (j : Nat)) ↔ (∃ j, j < k ∧ m.testBit j = true ∧ x = b + (j : Nat)) ∨ x = b + (k : Nat) := by
 constructor
 ·rintro ⟨j, h1, h2, h3⟩
  rcases Nat.lt_or_eq_of_le (Nat.le_of_lt_succ h1) with h | rfl
  ·exact .inl ⟨j, h, h2, h3⟩
  ·exact .inr h3
 ·rintro (⟨j, h1, h2, h3⟩ | h)
  ·exact ⟨j, Nat.lt_succ_of_lt h1, h2, h3⟩
  ·exact ⟨k, Nat.lt_succ_self k, hb, h⟩
theorem yJ.more {b : Int} {m k : Nat} {rs : List (Int × Int)} (h : yJ b m k rs) (hb : m.testBit k = true) : yJ b m (k + 1) (rs ++ [(b + (k : Nat), b + (k : Nat))]) := by
 refine ⟨λ p hp => ?_, zD h.order λ q hq => (h.each q hq).2.2, λ x => ?_, λ j hj hbj => ?_, ?_⟩
 ·rcases List.mem_append.mp hp with hp | hp
  ·obtain ⟨h1, h2, h3⟩ := h.each p hp
   exact ⟨h1, h2, Int.lt_trans h3 (MU b k)⟩
  ·cases List.mem_singleton.mp hp
   exact ⟨Int.le_refl _, Int.le_add_of_nonneg_right (Int.natCast_nonneg k), MU b k⟩
 ·rw [Ai, h.mem, Gj hb]
  exact or_congr_right ⟨λ h => Int.le_antisymm h.2 h.1, λ h => ⟨Int.le_of_eq h.symm, Int.le_of_eq h⟩⟩
 ·cases hj
  exact ⟨_, List.getLast?_concat, rfl⟩
 ·rw [List.length_append]; exact Nat.succ_le_succ h.len
theorem yJ.skip {b : Int} {m k : Nat} {rs : List (Int × Int)} (h : yJ b m k rs) (hb : m.testBit k = false) : yJ b m (k + 1) rs := by
 refine ⟨λ p hp => ?_, h.order, λ x => ?_, λ j hj hbj => ?_, Nat.le_succ_of_le h.len⟩
 ·obtain ⟨h1, h2, h3⟩ := h.each p hp
  exact ⟨h1, h2, Int.lt_trans h3 (MU b k)⟩
 ·rw [h.mem]
  constructor
  ·rintro ⟨j, h1, h2⟩; exact ⟨j, Nat.lt_succ_of_lt h1, h2⟩
  ·rintro ⟨j, h1, h2, h3⟩
   rcases Nat.lt_or_eq_of_le (Nat.le_of_lt_succ h1) with h | rfl
   ·exact ⟨j, h, h2, h3⟩
   ·rw [hb] at h2; cases h2
 ·cases hj; rw [hb] at hbj; cases hbj
theorem yJ.stretch {b : Int} {m k : Nat} {rs : List (Int × Int)} {p : Int × Int} (h : yJ b m (k + 1) (rs ++ [p])) (hp2 : p.2 = b + (k : Nat)) (hb : m.testBit (k + 1) = true) : yJ b m (k + 2) (rs ++ [(p.1, b + ((k + 1 : Nat) : Int))]) := by
 obtain ⟨p1, p2, p3⟩ := h.each p (List.mem_append_right _ (.head _))
 have ho := h.order
 rw [List.pairwise_append] at ho
 refine ⟨λ q hq => ?_, zD ho.1 λ q hq => ho.2.2 q hq p (.head _), λ x => ?_, λ j hj hbj => ?_, ?_⟩
 ·rcases List.mem_append.mp hq with hq | hq
  ·obtain ⟨h1, h2, h3⟩ := h.each q (List.mem_append_left _ hq)
   exact ⟨h1, h2, Int.lt_trans h3 (MU b _)⟩
  ·cases List.mem_singleton.mp hq
   exact ⟨Int.le_trans p1 (Int.le_of_lt p3), p2, MU b _⟩
 ·rw [Gj hb, ← h.mem, Ai, Ai, or_assoc]
  refine or_congr_right ⟨λ ⟨h1, h2⟩ => ?_, λ h => ?_⟩
  ·rcases Int.lt_or_eq_of_le h2 with h3 | h3
   ·refine .inl ⟨h1, hp2 ▸ Int.le_of_lt_add_one ?_⟩
    rw [Int.add_assoc]; exact h3
   ·exact .inr h3
  ·rcases h with ⟨h1, h2⟩ | h
   ·exact ⟨h1, Int.le_of_lt (Int.lt_of_le_of_lt h2 p3)⟩
   ·exact ⟨Int.le_trans p1 (Int.le_of_lt (Int.lt_of_lt_of_le p3 (Int.le_of_eq h.symm))), Int.le_of_eq h⟩
 ·cases hj
  exact ⟨_, List.getLast?_concat, rfl⟩
 ·have := h.len
  rw [List.length_append] at this ⊢
  exact Nat.le_succ_of_le this
theorem yJ.dom {b : Int} {m : Nat} {rs : List (Int × Int)} (h : yJ b m 5 rs) (h1 : -20 ≤ b) (h2 : b ≤ 20) : kN b rs m := by
 refine ⟨⟨λ p hp => ?_, h.order⟩, h.mem⟩
 obtain ⟨q1, q2, q3⟩ := h.each p hp
 exact ⟨q1, Int.le_trans (Int.le_trans (by decide) h1) q2, Int.le_of_lt (Int.lt_of_lt_of_le q3 (Int.le_trans (Int.add_le_add_right h2 _) (by decide)))⟩
inductive Pu (σ : St) (m : Nat) (b : Int) (k : Nat) (ρ : Loc) (σ' : St) : Prop
 | intro (e : ∃ x, ρ = [some (.int (m : Nat)), some (.int b), some (.obj σ.length), x]) (E : bW σ σ') (g : ∃ rs, getL σ' σ.length = some (rs.map vR) ∧ yJ b m k rs)
section
variable {σ : St}
theorem IM {j : Nat} {qs : List (Int × Int)} {p : Int × Int} (h : getL σ j = some ((qs ++ [p]).map vR)) : i6 (.obj j) (.int (-1)) σ = some (vR p, σ) := by
 rw [l7 h, List.map_append]
 show (pick (qs.map vR ++ [vR p]) (-1)).map _ = _
 rw [BN (List.append_ne_nil_of_right_ne_nil _ (List.cons_ne_nil _ _)), List.getLast_concat]; rfl
theorem HG {j : Nat} {qs : List (Int × Int)} {p q : Int × Int} (h : getL σ j = some ((qs ++ [p]).map vR)) : mL (.obj j) (.int (-1)) (vR q) σ = some (σ.set j (.list ((qs ++ [q]).map vR))) := by
 show (σ[j]?).bind _ = _
 rw [j5 h]
 dsimp only [Option.bind]
 rw [if_neg (λ h => absurd h.1 (by decide)), if_pos (by simp), List.length_map, List.length_append]
 show some (σ.set j (.list (((qs ++ [p]).map vR).set qs.length (vR q)))) = _
 rw [List.map_append, List.map_append, List.map_singleton, List.map_singleton, List.set_append_right _ _ (Nat.le_of_eq (List.length_map _)), List.length_map, Nat.sub_self]; rfl
noncomputable def Jm : XS := (XS.seq (XS.ite (X.i8 (X.test (X.bin oEq (X.bin oMod (X.bin cI (X.var 0) (X.bin i3 (X.pure (.int 2)) (X.var 3))) (X.pure (.int 2))) (X.pure (.int 1)))) (X.i8 (X.test (X.bin oEq (X.bin oMod (X.bin cI (X.bin xY (X.var 0) (X.pure (.int 2))) (X.bin i3 (X.pure (.int 2)) (X.var 3))) (X.pure (.int 2))) (X.pure (.int 1)))) X.wJ)) (XS.seq (XS.assign (X.eX (X.aB (X.sub (X.sub (X.var 2) (X.neg (X.pure (.int 1)))) (X.pure (.int 0))) (X.aB (X.bin eR (X.var 1) (X.var 3)) X.aH))) (XA.item (X.var 2) (X.neg (X.pure (.int 1))))) XS.nil) (XS.seq (XS.ite (X.test (X.bin oEq (X.bin oMod (X.bin cI (X.var 0) (X.bin i3 (X.pure (.int 2)) (X.var 3))) (X.pure (.int 2))) (X.pure (.int 1)))) (XS.seq (XS.drop (X.fH eF (X.var 2) (X.aB (X.eX (X.aB (X.bin eR (X.var 1) (X.var 3)) (X.aB (X.bin eR (X.var 1) (X.var 3)) X.aH))) X.aH))) XS.nil) XS.nil) XS.nil)) XS.nil)
theorem JU {m k : Nat} {b : Int} {ρ : Loc} {bH : St} {Q : Fl → Loc → St → Prop} (hm : m < 32) (hk : k < 5) (I : Pu σ m b k ρ bH) : sU (XA.name 3) Jm (Pu σ m b (k + 1)) Q (.int (k : Nat)) ρ bH := by
 obtain ⟨⟨x, rfl⟩, E, rs, hl, R⟩ := I
 have hk2 : k ≤ 20 := Nat.le_trans (Nat.le_of_lt hk) (by decide)
 have lt := bE hl
 have hE : ∀ o : O, bW σ (bH.set σ.length o) := λ o => E.trans (M' := λ i => i = σ.length) (.set _ rfl) λ i h => .inr (h ▸ Nat.le_refl _)
 have b1 := wE (f := X.var 0) (g := X.var 3) (ρ := [some (.int (m : Nat)), some (.int b), some (.obj σ.length), some (.int (k : Nat))]) (σ := bH) rfl rfl hk2
 refine ⟨rfl, λ Q' hn _ => ?_⟩
 cases hb : m.testBit k with
 | false =>
  rw [hb] at b1
  exact FS (jX b1) (c6 b1 (dJ (dJ (hn _ _ ⟨⟨_, rfl⟩, E, rs, hl, R.skip hb⟩))))
 | true =>
  rw [hb] at b1
  have hm2 : xY (.int (m : Nat)) (.int 2) bH = some (.int ((m * 2 : Nat) : Int), bH) := by
   unfold xY
   dsimp only
   rw [if_pos]
   ·rfl
   ·simp [pW]; lia
  have b2 := wE (f := X.bin xY (X.var 0) (X.pure (.int 2))) (g := X.var 3) (ρ := [some (.int (m : Nat)), some (.int b), some (.obj σ.length), some (.int (k : Nat))]) (aQ rfl rfl hm2) rfl hk2
  have new : (m * 2).testBit k = false → sp Jm [some (.int (m : Nat)), some (.int b), some (.obj σ.length), some (.int (k : Nat))] bH Q' := λ h => by
   rw [h] at b2
   exact FS (eY b1 (jX b2)) (kY b1 (jO (fM rfl (d9 hl) rfl (fR hl (I8 R.len (Nat.le_trans (Nat.le_of_lt hk) (by decide))))) rfl (dJ (dJ (dJ (hn _ _ ⟨⟨_, rfl⟩, hE _, rs ++ [(b + (k : Nat), b + (k : Nat))], by rw [c8 lt, List.map_append]; rfl, R.more hb⟩))))))
  cases k with
  | zero => exact new (by rw [Nat.testBit_zero]; exact decide_eq_false (by rw [Nat.mul_mod_left]; decide))
  | succ j =>
   have hbb : (m * 2).testBit (j + 1) = m.testBit j := by rw [Nat.testBit_succ, Nat.mul_div_cancel _ (by decide)]
   cases hj : m.testBit j with
   | false => exact new (hbb.trans hj)
   | true =>
    clear new
    rw [hbb, hj] at b2
    obtain ⟨p, hp, hp2⟩ := R.last j rfl hj
    obtain ⟨qs, rfl⟩ := List.getLast?_eq_some_iff.mp hp
    exact kY (eY b1 (eY b2 rfl)) (fY (k5 (aI (bO (bO rfl rfl (IM hl)) rfl rfl) rfl) (Nat.le_of_ble_eq_true rfl)) (Gw rfl rfl (HG (q := (p.1, b + ((j + 1 : Nat) : Int))) hl)) (dJ (dJ (hn _ _ ⟨⟨_, rfl⟩, hE _, _, c8 lt, R.stretch hp2 hb⟩))))
theorem Dy {m : Nat} {b : Int} (hm : m < 32) (h1 : -20 ≤ b) (h2 : b ≤ 20) : wp (gD [.int (m : Nat), .int b] σ) λ r σ' => ∃ rs, A3 (r = dv rs) (kN b rs m) (bW σ σ') := by
 refine wp_runF rfl (fY (mY rfl (Nat.zero_le _)) rfl (nR (List.range 5) (λ k => .int (k : Nat)) (Pu σ m b) rfl ⟨⟨_, rfl⟩, .push _, [], cH, λ _ h => (List.not_mem_nil h).elim, .nil, λ x => ⟨λ h => (List.not_mem_nil h).elim, λ ⟨j, h, _⟩ => (Nat.not_lt_zero j h).elim⟩, (λ j hj => by cases hj), Nat.le_refl _⟩ (by decide) (λ k ρ σ' _ hk => zW (σ := σ') σ' .refl k (by rw [List.length_map]; exact hk)) ?_ ?_))
 ·intro k x ρ bH hx I
  obtain ⟨hk, e⟩ := List.getElem?_eq_some_iff.mp hx
  rw [List.getElem_range] at e
  subst e
  exact JU hm hk I
 ·rintro ρ bH ⟨⟨x, rfl⟩, E, rs, hl, R⟩
  exact lW (aN rfl (qG hl (I8 R.len (by decide)))) ⟨rs, rfl, R.dom h1 h2, E⟩
end
theorem HB : ∀ m : Nat, m < 32 → vS (((List.range 5).filter λ k => m.testBit k).map λ k => ((2 ^ k : Nat) : Int)) = (m : Int) := by decide
section
variable {σ : St}
theorem Ax {α β : Type} (g : α → β) (l : List α) : l.filterMap (λ x => some (g x)) = l.map g := congrFun (List.filterMap_eq_map' ..) l
theorem BM {a b : Int} : (rangeInts a b).length = (b - a).toNat := by unfold rangeInts; rw [List.length_map, List.length_range]
theorem JW {rs : List (Int × Int)} {b : Int} {m : Nat} (hd : kN b rs m) : (rs.flatMap λ p => (rangeInts p.1 (p.2 + 1)).filterMap λ v => some (V.int ((2 ^ (v - b).toNat : Nat) : Int))) = (((List.range 5).filter λ k => m.testBit k).map λ k => ((2 ^ k : Nat) : Int)).map .int := by
 have : (rs.flatMap λ p => (rangeInts p.1 (p.2 + 1)).filterMap λ v => some (V.int ((2 ^ (v - b).toNat : Nat) : Int))) = (aX rs).map λ v => V.int ((2 ^ (v - b).toNat : Nat) : Int) := by
  unfold aX
  rw [List.map_flatMap]
  exact congrArg (λ f => rs.flatMap f) (funext λ p => Ax ..)
 rw [this, hd.vals]
 unfold vm
 rw [List.map_map, List.map_map]
 refine List.map_congr_left λ k _ => ?_
 have e : b + (k : Nat) - b = (k : Nat) := by rw [Int.add_comm, Int.add_sub_cancel]
 exact congrArg (λ z : Int => V.int ((2 ^ z.toNat : Nat) : Int)) e
theorem DS {rs : List (Int × Int)} {b : Int} {m : Nat} (hd : kN b rs m) (hm : m < 32) (h1 : -20 ≤ b) (h2 : b ≤ 20) : wp (mR [dv rs, .int b] σ) λ r σ' => r = .int (m : Nat) ∧ bW σ σ' := by
 have hsm := hd.small
 refine IW (α := Int × Int) (β := Int) (ρ := [some (dv rs), some (.int b), none, none, none]) (σ := σ) (λ ρ => E3 λ x y z => ρ = [some (dv rs), some (.int b), x, y, z]) (λ p ρ => ∃ z, ρ = [some (dv rs), some (.int b), some (.int p.1), some (.int p.2), z]) rs vR (λ p => rangeInts p.1 (p.2 + 1)) .int (λ p v => some (.int ((2 ^ (v - b).toNat : Nat) : Int))) ⟨none, none, none, rfl⟩ (λ p ρ ⟨z, h⟩ => ⟨_, _, _, h⟩) (Nat.le_trans hsm.len (by decide)) .tup ?_
  (λ σ' e E g => ⟨_, _, s9 (aN (aI e rfl) (Fv (g.trans (congrArg some (JW hd))) ?_ ?_)), congrArg V.int (HB m hm), E⟩) rfl (Nat.lt_of_le_of_lt hsm.len (by decide)) (by decide) ?_
 ·intro p hp
  obtain ⟨a1, a2, a3⟩ := hd.good.each p hp
  obtain ⟨k1, q1, _, q2⟩ := (hd.mem p.1).mp (gY.mpr ⟨p, hp, Int.le_refl _, a1⟩)
  obtain ⟨k2, q3, _, q4⟩ := (hd.mem p.2).mp (gY.mpr ⟨p, hp, a1, Int.le_refl _⟩)
  rw [BM, q2, q4]
  lia
 ·rw [List.length_map]; exact Nat.le_trans (List.length_filter_le _ _) (by decide)
 ·intro x hx
  obtain ⟨k, hk, rfl⟩ := List.mem_map.mp hx
  exact Df (P := λ k => -1000000000 ≤ ((2 ^ k : Nat) : Int) ∧ ((2 ^ k : Nat) : Int) ≤ 1000000000) (by decide) (by decide) (by decide) (by decide) (by decide) k (List.mem_range.mp (List.mem_filter.mp hk).1)
 ·rintro p _ σ' hp ⟨x, y, z, rfl⟩ E
  obtain ⟨a1, a2⟩ := hsm.lo p hp
  obtain ⟨a3, a4⟩ := hsm.hi p hp
  refine ⟨rfl, ⟨_, rfl⟩, rfl, .refl, FN.range (Int.le_trans (by decide) a1) (Int.le_trans a2 (by decide)) (Int.le_trans (by decide) (Int.add_le_add_right a3 1)) (Int.le_trans (Int.add_le_add_right a4 1) (by decide)), ?_⟩
  rintro v _ k8 hv ⟨z, rfl⟩ E4
  obtain ⟨v1, v2⟩ := mem_rangeInts.mp hv
  obtain ⟨k, hk, _, e⟩ := (hd.mem v).mp (gY.mpr ⟨p, hp, v1, Int.le_of_lt_add_one v2⟩)
  have e : v - b = (k : Nat) := by rw [e, Int.add_comm, Int.add_sub_cancel]
  exact .put rfl ⟨_, rfl⟩ rfl (B7 (aQ rfl rfl (congrArg (λ z => some (V.int z, k8)) e)) (Nat.le_trans (Nat.le_of_lt hk) (by decide))) (by rw [e]; rfl) .refl
end
structure eB (b : Int) (doms : List (List (Int × Int))) (ms : List Nat) : Prop where
 len : doms.length = ms.length
 at_ : ∀ (x : Nat) (rs : List (Int × Int)) (m : Nat), doms[x]? = some rs → ms[x]? = some m → kN b rs m
 lt : ∀ m ∈ ms, m < 32
section
variable {σ σ' : St} {i a f t mk nw : Nat} {doms firsts : List (List (Int × Int))} {trail marks clash : List V} {failed : Bool} {b : Int} {ms : List Nat}
theorem getD_some {x : Nat} (h : x < ms.length) : ms[x]? = some (ms.getD x 0) := by rw [List.getD_eq_getElem?_getD, List.getElem?_eq_getElem h]; rfl
theorem range_getD {α : Type} (g : Nat → α) (ms : List Nat) : ((List.range ms.length).filterMap λ k => some (g (ms.getD k 0))) = ms.map g := by
 have h : (List.range ms.length).map (λ k => ms.getD k 0) = ms := by
  apply List.ext_getElem
  ·rw [List.length_map, List.length_range]
  ·intro n h1 h2
   rw [List.getElem_map, List.getElem_range, List.getD_eq_getElem?_getD, List.getElem?_eq_getElem h2]; rfl
 refine (Ax ..).trans ?_
 conv => rhs; rw [← h]
 rw [List.map_map]; rfl
theorem lO (s : SV σ i a f t mk nw doms firsts trail marks failed clash) (hm : eB b doms ms) (hl : ms.length ≤ 100) (h1 : -20 ≤ b) (h2 : b ≤ 20) : wp (d6 [.inst 0 i, .int b] σ) λ r σ' => ∃ j, A4 (r = .obj j) (σ.length ≤ j) (getL σ' j = some (aK ms)) (bW σ σ') := by
 have hdl := hm.len
 have hd1 : doms.length ≤ 1000 := hdl ▸ Nat.le_trans hl (by decide)
 have hn : (List.range ms.length).length = ms.length := List.length_range
 refine evMap (ρ := [some (.inst 0 i), some (.int b), none]) (σ := σ) (λ ρ => ∃ x, ρ = [some (.inst 0 i), some (.int b), x]) (List.range ms.length) (λ k => .int (k : Nat)) (λ k => some (.int (ms.getD k 0 : Nat))) ⟨none, rfl⟩ (Nat.le_trans (Nat.le_of_eq hn) (Nat.le_trans hl (by decide))) (oK (Nat.le_trans hl (by decide)))
  (λ σ' e E g => ⟨_, _, s9 e, _, rfl, Nat.le_refl _, g.trans (congrArg some (range_getD (λ x => V.int (x : Nat)) ms)), E⟩) (aN (aI (dC rfl (s.inst rfl) rfl (JP s hd1)) rfl) (by rw [hdl]; rfl)) (Nat.lt_of_le_of_lt (Nat.le_of_eq hn) (Nat.lt_of_le_of_lt hl (by decide))) ?_
 rintro k _ σ' hk ⟨x, rfl⟩ E
 rw [List.mem_range] at hk
 have s' := s.d5 E
 have hkd := hdl ▸ hk
 obtain ⟨_, bH, e2, rfl, rfl⟩ := Ei s' hkd hd1
 have hmk := getD_some hk
 obtain ⟨_, dT, e3, rfl, E3⟩ := DS (σ := bH) (hm.at_ k _ _ (List.getElem?_eq_getElem hkd) hmk) (hm.lt _ (List.mem_of_getElem? hmk)) h1 h2
 exact .put rfl ⟨_, rfl⟩ rfl (aN (aI (dC rfl (s'.inst (k := 36) rfl) rfl e2) rfl) e3) rfl E3
end
noncomputable def pN (sg : Nat) (v k : Int) : Bool := if sg = 9 then decide (v ≤ k) else if sg = 8 then decide (k ≤ v) else decide (v ≠ k)
noncomputable def dI (b : Int) (m sg : Nat) (k : Int) : Nat := sumBits λ j => m.testBit j && pN sg (b + (j : Nat)) k
noncomputable def upTo (k : Nat) (q : Nat → Bool) : Nat := sumBits λ j => decide (j < k) && q j
theorem BF (q : Nat → Bool) {k : Nat} (hk : k < 5) : upTo (k + 1) q = upTo k q + (if q k = true then 2 ^ k else 0) := by
 have key : ∀ a b c d e : Bool, ∀ k, k < 5 → upTo (k + 1) (λ j => [a, b, c, d, e].getD j false) = upTo k (λ j => [a, b, c, d, e].getD j false) + (if [a, b, c, d, e].getD k false = true then 2 ^ k else 0) := by decide +kernel
 have e : ∀ j, j < 5 → [q 0, q 1, q 2, q 3, q 4].getD j false = q j := Df rfl rfl rfl rfl rfl
 have c : ∀ n, upTo n (λ j => [q 0, q 1, q 2, q 3, q 4].getD j false) = upTo n q := λ n => r8 λ j hj => congrArg _ (e j hj)
 have := key (q 0) (q 1) (q 2) (q 3) (q 4) k hk
 rw [c, c, e k hk] at this
 exact this
theorem rH {b : Int} {m sg : Nat} {k : Int} {j : Nat} (hj : j < 5) : (dI b m sg k).testBit j = (m.testBit j && pN sg (b + (j : Nat)) k) := mT _ hj
theorem uC {b : Int} {m sg : Nat} {k : Int} : dI b m sg k < 32 := y5 _
section
variable {ρ : Loc} {σ aT bH dT : St}
theorem Gk {f : X (List (V × V))} {vs : List (V × V)} {l : List (Nat × V)} (h : f ρ σ = some (vs, aT)) (hl : strKeys vs = some l) : X.xC f ρ σ = some (.obj aT.length, aT ++ [.aW (qJ l)]) := by
 unfold X.xC X.bind; simp only [h, X.lift, hl]; rfl
theorem oX {f g : X V} {h : X (List (V × V))} {a b : V} {l : List (V × V)} (h1 : f ρ σ = some (a, aT)) (h2 : g ρ aT = some (b, bH)) (h3 : h ρ bH = some (l, dT)) : X.lX f g h ρ σ = some ((a, b) :: l, dT) := by
 unfold X.lX X.bind; simp only [h1, h2, h3]; rfl
theorem z5 {a b : Int} : iM (.int a) (.int b) σ = some (.bool (decide (a ≠ b)), σ) := by
 have := eq_int (σ := σ) (a := a) (b := b)
 unfold oEq at this
 obtain ⟨r, hr, e⟩ := Option.map_eq_some_iff.mp this
 cases e
 unfold iM oNe
 rw [hr]
 exact congrArg (λ b => some (V.bool b, σ)) (decide_not ..).symm
theorem OK {a b : Int} (h : a ≠ b) : iM (.int a) (.int b) σ = some (.bool true, σ) := by rw [z5, decide_eq_true h]
theorem Np {a b : Int} (h : a = b) : iM (.int a) (.int b) σ = some (.bool false, σ) := by rw [z5, decide_eq_false (λ z => z h)]
inductive Jy (σ : St) (m sg : Nat) (x kk b : Int) (k : Nat) (ρ : Loc) (σ' : St) : Prop
 | intro (e : E4 λ a1 a2 a3 a4 => ρ = [some (.int (m : Nat)), some (.tup [.int x, .str sg, .int kk]), some (.int b), some (.int (upTo k (λ j => m.testBit j && pN sg (b + (j : Nat)) kk) : Nat)), a1, a2, a3, a4]) (E : bW σ σ')
noncomputable def Jn : XS := (XS.seq (XS.assign (X.eX (X.aB (X.bin eR (X.var 2) (X.var 4)) (X.aB (X.sub (X.var 1) (X.pure (.int 2))) X.aH))) (XA.swap [(5, 5), (6, 73)])) (XS.seq (XS.assign (X.sub (X.xC (X.lX (X.pure (.str 9)) (X.bin oLe (X.var 5) (X.var 6)) (X.lX (X.pure (.str 8)) (X.bin oGe (X.var 5) (X.var 6)) (X.lX (X.pure (.str 7)) (X.bin oEq (X.var 5) (X.var 6)) (X.lX (X.pure (.str 51)) (X.bin iM (X.var 5) (X.var 6)) X.HR))))) (X.sub (X.var 1) (X.pure (.int 1)))) (XA.name 7)) (XS.seq (XS.ite (X.i8 (X.test (X.var 7)) (X.i8 (X.test (X.bin oEq (X.bin oMod (X.bin cI (X.var 0) (X.bin i3 (X.pure (.int 2)) (X.var 4))) (X.pure (.int 2))) (X.pure (.int 1)))) X.wJ)) (XS.seq (XS.assign (X.bin eR (X.var 3) (X.bin i3 (X.pure (.int 2)) (X.var 4))) (XA.name 3)) XS.nil) XS.nil) XS.nil)))
theorem signs_get {sg : Nat} {y kk : Int} (hs : sg = 9 ∨ sg = 8 ∨ sg = 51) : i6 (.obj σ.length) (.str sg) (σ ++ [.aW (qJ [(9, .bool (decide (y ≤ kk))), (8, .bool (decide (kk ≤ y))), (7, .bool (decide (y = kk))), (51, .bool (decide (y ≠ kk)))])]) = some (.bool (pN sg y kk), σ ++ [.aW (qJ [(9, .bool (decide (y ≤ kk))), (8, .bool (decide (kk ≤ y))), (7, .bool (decide (y = kk))), (51, .bool (decide (y ≠ kk)))])]) := by
 rw [HW Aw]
 rcases hs with rfl | rfl | rfl <;> rfl
theorem G0 {m sg k : Nat} {x kk b : Int} {ρ : Loc} {Q : Fl → Loc → St → Prop} (hs : sg = 9 ∨ sg = 8 ∨ sg = 51) (hk : k < 5) (I : Jy σ m sg x kk b k ρ bH) : sU (XA.name 4) Jn (Jy σ m sg x kk b (k + 1)) Q (.int (k : Nat)) ρ bH := by
 obtain ⟨⟨a1, a2, a3, a4, rfl⟩, E⟩ := I
 have hk2 : k ≤ 20 := Nat.le_trans (Nat.le_of_lt hk) (by decide)
 refine ⟨rfl, λ Q' hn _ => fY rfl rfl (fY (bO (Gk (oX rfl rfl (oX rfl rfl (oX rfl (aQ rfl rfl eq_int) (oX rfl (aQ rfl rfl z5) rfl)))) rfl) rfl (signs_get hs)) rfl ?_)⟩
 have up := BF (λ j => m.testBit j && pN sg (b + (j : Nat)) kk) hk
 generalize hu1 : upTo (k + 1) (λ j => m.testBit j && pN sg (b + (j : Nat)) kk) = u1 at up
 have hn' : ∀ a2 a3 a4 σ', bW σ σ' → Q' .next [some (.int (m : Nat)), some (.tup [.int x, .str sg, .int kk]), some (.int b), some (.int (u1 : Nat)), some (.int (k : Nat)), a2, a3, a4] σ' := λ a2 a3 a4 σ' E' => hn _ _ ⟨⟨_, _, _, _, by rw [hu1]⟩, E'⟩
 clear hn
 have b1 := λ u a2 a3 a4 => wE (f := X.var 0) (g := X.var 4) (ρ := [some (.int (m : Nat)), some (.tup [.int x, .str sg, .int kk]), some (.int b), u, some (.int (k : Nat)), a2, a3, a4]) (σ := bH ++ [.aW (qJ [(9, .bool (decide (b + (k : Nat) ≤ kk))), (8, .bool (decide (kk ≤ b + (k : Nat)))), (7, .bool (decide (b + (k : Nat) = kk))), (51, .bool (decide (b + (k : Nat) ≠ kk)))])]) rfl rfl hk2
 cases hl : pN sg (b + (k : Nat)) kk with
 | false =>
  rw [hl, Bool.and_false] at up
  subst up
  exact c6 (jX (aP rfl)) (dJ (hn' _ _ _ _ (E.then (.push _))))
 | true =>
  cases hb : m.testBit k with
  | false =>
   rw [hb] at up b1
   subst up
   exact c6 (eY (aP rfl) (jX (b1 ..))) (dJ (hn' _ _ _ _ (E.then (.push _))))
  | true =>
   rw [hb, hl] at up
   rw [hb] at b1
   subst up
   exact kY (eY (aP rfl) (eY (b1 ..) rfl)) (fY (aQ rfl (B7 rfl hk2) rfl) rfl (dJ (dJ (hn' _ _ _ _ (E.then (.push _))))))
theorem rG {m sg : Nat} {x kk b : Int} (hs : sg = 9 ∨ sg = 8 ∨ sg = 51) : wp (f0 [.int (m : Nat), .tup [.int x, .str sg, .int kk], .int b] σ) λ r σ' => r = .int (dI b m sg kk : Nat) ∧ bW σ σ' := by
 refine wp_runF rfl (fY rfl rfl (nR (List.range 5) (λ k => .int (k : Nat)) (Jy σ m sg x kk b) rfl ⟨⟨_, _, _, _, rfl⟩, .refl⟩ (by decide) (λ k ρ σ' _ hk => zW (σ := σ') σ' .refl k (by rw [List.length_map]; exact hk)) ?_ ?_))
 ·intro k x ρ bH hx I
  obtain ⟨hk, e⟩ := List.getElem?_eq_some_iff.mp hx
  rw [List.getElem_range] at e
  subst e
  exact G0 hs hk I
 ·rintro ρ bH ⟨⟨a1, a2, a3, a4, rfl⟩, E⟩
  exact lW rfl ⟨rfl, E⟩
end
noncomputable def idx (n s : Nat) : List Nat := (List.range n).filter λ k => s.testBit k
noncomputable def orM (X ms : List Nat) (ks : List Nat) : Nat := ks.foldl (λ acc k => acc ||| ms.getD (X.getD k 0) 0) 0
noncomputable def dW (X ms : List Nat) : Bool := decide X.Nodup && (List.range (2 ^ X.length)).all λ s => decide ((idx X.length s).length ≤ cnt (orM X ms (idx X.length s)))
noncomputable def Cp (b : Int) (X ms : List Nat) : Prop := ∀ (S : List Nat) (T : List Int), S.Nodup → (∀ x ∈ S, x ∈ X) → (∀ x ∈ S, ∀ u ∈ vm b (ms.getD x 0), u ∈ T) → S.length ≤ T.length
theorem FU {X ms : List Nat} {j : Nat} : ∀ ks : List Nat, (orM X ms ks).testBit j = true ↔ ∃ k ∈ ks, (ms.getD (X.getD k 0) 0).testBit j = true := by
 have key : ∀ (ks : List Nat) (a : Nat), (ks.foldl (λ acc k => acc ||| ms.getD (X.getD k 0) 0) a).testBit j = true ↔ a.testBit j = true ∨ ∃ k ∈ ks, (ms.getD (X.getD k 0) 0).testBit j = true := by
  intro ks
  induction ks with
  | nil => intro a; simp
  | cons k ks ih =>
   intro a
   rw [List.foldl_cons, ih, Nat.testBit_or, Bool.or_eq_true]
   simp only [List.mem_cons, exists_eq_or_imp, or_assoc]
 intro ks
 unfold orM
 rw [key]; simp
theorem Di (b : Int) (m : Nat) : (vm b m).Nodup := (BE b m).imp λ h => by lia
theorem w9 (P : Nat → Bool) : ∀ n, ∃ s, s < 2 ^ n ∧ ∀ k, k < n → s.testBit k = P k
 | 0 => ⟨0, by simp, λ k h => by lia⟩
 | n + 1 => by
  obtain ⟨s, h1, h2⟩ := w9 P n
  cases hP : P n with
  | false =>
   refine ⟨s, by rw [Nat.pow_succ]; lia, λ k hk => ?_⟩
   by_cases hkn : k = n
   ·subst hkn; rw [hP]; exact Nat.testBit_lt_two_pow h1
   ·exact h2 k (by lia)
  | true =>
   refine ⟨2 ^ n + s, by rw [Nat.pow_succ]; lia, λ k hk => ?_⟩
   by_cases hkn : k = n
   ·subst hkn
    rw [Nat.testBit_two_pow_add_eq, Nat.testBit_lt_two_pow h1, hP]; rfl
   ·rw [Nat.testBit_two_pow_add_gt (by lia), h2 k (by lia)]
theorem nU {α : Type} {l : List α} (hn : l.Nodup) {i j : Nat} (hi : i < l.length) (hj : j < l.length) (e : l[i] = l[j]) : i = j := by
 rcases Nat.lt_trichotomy i j with h | h | h
 ·exact absurd e (List.pairwise_iff_getElem.mp hn i j hi hj h)
 ·exact h
 ·exact absurd e.symm (List.pairwise_iff_getElem.mp hn j i hj hi h)
theorem jY (b : Int) {X ms : List Nat} : dW X ms = true ↔ X.Nodup ∧ Cp b X ms := by
 unfold dW
 rw [Bool.and_eq_true, decide_eq_true_iff, List.all_eq_true]
 refine and_congr_right λ hn => ?_
 constructor
 ·intro h S T hS hX hT
  obtain ⟨s, h1, h2⟩ := w9 (λ k => decide (X.getD k 0 ∈ S)) X.length
  have hs := h s (List.mem_range.mpr h1)
  rw [decide_eq_true_iff] at hs
  refine Nat.le_trans ?_ (Nat.le_trans hs ?_)
  ·have := cU (l := S) (m := (idx X.length s).map λ k => X.getD k 0) hS λ x hx => by
    obtain ⟨k, hk⟩ := List.getElem?_of_mem (hX x hx)
    have hlt := (List.getElem?_eq_some_iff.mp hk).1
    have hg : X.getD k 0 = x := by simp [hk]
    refine List.mem_map.mpr ⟨k, List.mem_filter.mpr ⟨List.mem_range.mpr hlt, ?_⟩, hg⟩
    rw [h2 k hlt, hg]; simpa using hx
   simpa using this
  ·rw [← rD (b := b)]
   refine cU (Di _ _) λ u hu => ?_
   obtain ⟨j, hj, hb, rfl⟩ := fE.mp hu
   obtain ⟨k, hk, hbk⟩ := (FU _).mp hb
   have hk' := List.mem_filter.mp hk
   have hlt := List.mem_range.mp hk'.1
   have := hk'.2
   rw [h2 k hlt, decide_eq_true_iff] at this
   exact hT _ this _ (fE.mpr ⟨j, hj, hbk, rfl⟩)
 ·intro h s _
  rw [decide_eq_true_iff]
  have hnd : ((idx X.length s).map λ k => X.getD k 0).Nodup := by
   have h1 : (idx X.length s).Nodup := List.nodup_range.sublist List.filter_sublist
   have h2 : ∀ k ∈ idx X.length s, k < X.length := λ k hk => List.mem_range.mp (List.mem_filter.mp hk).1
   unfold List.Nodup
   rw [List.pairwise_map]
   refine List.Pairwise.imp_of_mem (λ {p q} hp hq hne e => ?_) h1
   have l1 := h2 p hp
   have l2 := h2 q hq
   simp only [List.getD_eq_getElem?_getD, List.getElem?_eq_getElem l1, List.getElem?_eq_getElem l2, Option.getD_some] at e
   exact hne (nU hn l1 l2 e)
  have := h ((idx X.length s).map λ k => X.getD k 0) (vm b (orM X ms (idx X.length s))) hnd (λ x hx => ?_) (λ x hx u hu => ?_)
  ·rw [List.length_map, rD] at this; exact this
  ·obtain ⟨k, hk, rfl⟩ := List.mem_map.mp hx
   have l1 := List.mem_range.mp (List.mem_filter.mp hk).1
   simp [l1]
  ·obtain ⟨k, hk, rfl⟩ := List.mem_map.mp hx
   obtain ⟨j, hj, hb, rfl⟩ := fE.mp hu
   exact fE.mpr ⟨j, hj, (FU _).mpr ⟨k, hk, hb⟩, rfl⟩
theorem Cp.congr {b : Int} {X ms rL : List Nat} (h : Cp b X ms) (hm : ∀ x ∈ X, ∀ k, k < 5 → (rL.getD x 0).testBit k = (ms.getD x 0).testBit k) : Cp b X rL := by
 intro S T hS hX hT
 refine h S T hS hX λ x hx u hu => ?_
 obtain ⟨j, hj, hb, rfl⟩ := fE.mp hu
 exact hT x hx _ (fE.mpr ⟨j, hj, by rw [hm x (hX x hx) j hj]; exact hb, rfl⟩)
noncomputable def Seq (v : V) (σ : St) (l : List V) : Prop := v = .tup l ∨ ∃ j, v = .obj j ∧ getL σ j = some l
section
variable {σ σ' : St} {v : V} {l : List V}
theorem Seq.tup : Seq (.tup l) σ l := .inl rfl
theorem Seq.list {j : Nat} (h : getL σ j = some l) : Seq (.obj j) σ l := .inr ⟨j, rfl, h⟩
theorem Seq.ext (h : Seq v σ l) (e : bW σ σ') : Seq v σ' l := by
 rcases h with h | ⟨j, h, hl⟩
 ·exact .inl h
 ·exact .inr ⟨j, h, e.getL hl λ z => z⟩
theorem Seq.len (h : Seq v σ l) (hl : l.length ≤ 1000) : gR v σ = some (.int l.length, σ) := by
 rcases h with rfl | ⟨j, rfl, h⟩
 ·exact wA (by lia)
 ·exact jW h (by lia)
theorem Seq.enum (h : Seq v σ l) (k : Nat) : oY v σ k = some ((l.mapIdx λ k x => V.tup [.int (k : Nat), x])[k]?) := by
 rw [List.getElem?_mapIdx]
 rcases h with rfl | ⟨j, rfl, h⟩
 ·rfl
 ·unfold oY; simp [h]
theorem HX (ns : List Int) : (LJ ns).Nodup ∧ ∀ x, x ∈ LJ ns ↔ x ∈ ns := by
 have key : ∀ (ns acc : List Int), acc.Nodup → (ns.foldl PyProof.Rows.step_dedup acc).Nodup ∧ ∀ x, x ∈ ns.foldl PyProof.Rows.step_dedup acc ↔ x ∈ acc ∨ x ∈ ns := by
  intro ns
  induction ns with
  | nil => intro acc h; exact ⟨h, λ x => by simp⟩
  | cons a ns ih =>
   intro acc h
   rw [List.foldl_cons]
   by_cases ha : a ∈ acc
   ·have e : PyProof.Rows.step_dedup acc a = acc := by
     unfold PyProof.Rows.step_dedup
     rw [if_pos (List.any_eq_true.mpr ⟨a, ha, by simp⟩)]
    rw [e]
    obtain ⟨h1, h2⟩ := ih acc h
    refine ⟨h1, λ x => ?_⟩
    rw [h2, List.mem_cons]
    constructor
    ·rintro (h | h)
     ·exact .inl h
     ·exact .inr (.inr h)
    ·rintro (h | rfl | h)
     ·exact .inl h
     ·exact .inl ha
     ·exact .inr h
   ·have e : PyProof.Rows.step_dedup acc a = acc ++ [a] := by
     unfold PyProof.Rows.step_dedup
     rw [if_neg]
     rw [List.any_eq_true]
     rintro ⟨y, hy, hya⟩
     have : y = a := by simpa using hya
     exact ha (this ▸ hy)
    rw [e]
    obtain ⟨h1, h2⟩ := ih (acc ++ [a]) (by
     rw [List.nodup_append]
     exact ⟨h, by simp, λ x hx y hy => by simp at hy; subst hy; rintro rfl; exact ha hx⟩)
    refine ⟨h1, λ x => ?_⟩
    rw [h2, List.mem_append, List.mem_singleton, List.mem_cons, or_assoc]
 have := key ns [] .nil
 refine ⟨this.1, λ x => ?_⟩
 have h2 := this.2 x
 simpa [LJ] using h2
theorem Seq.tC {xs : List Nat} (h : Seq v σ (aK xs)) (hl : xs.length ≤ 30) : ∃ n : Nat, oW v σ = some (.int (n : Nat), σ) ∧ (n < xs.length ↔ ¬ xs.Nodup) := by
 have h1 : ∀ l : List Nat, intsOf (aK l) = some (l.map λ x : Nat => (x : Int)) := by
  intro l; unfold aK; induction l with
  | nil => rfl
  | cons a l ih => simp [intsOf, ih]
 have h2 : itemsOf v σ = some (aK xs) := by
  rcases h with rfl | ⟨j, rfl, h⟩
  ·rfl
  ·exact h
 refine ⟨(LJ (xs.map λ x : Nat => (x : Int))).length, ?_, ?_⟩
 ·unfold oW
  simp only [h2, h1, Option.bind_some]
  rw [if_pos (by simpa using hl)]
 ·obtain ⟨g1, g2⟩ := HX (xs.map λ x : Nat => (x : Int))
  have g3 := sE g1 g2
  rw [Ab, List.length_map] at g3
  have g4 := cU g1 λ x hx => (g2 x).mp hx
  rw [List.length_map] at g4
  rw [← g3]; lia
theorem FI (a b : Nat) : Builtin.bitAnd (a : Int) (b : Int) = ((a &&& b : Nat) : Int) := by
 unfold Builtin.bitAnd
 have h1 : decide (0 ≤ (a : Int)) = true := by simp
 have h2 : decide (0 ≤ (b : Int)) = true := by simp
 rw [h1, h2]; rfl
theorem Hn (a b : Nat) : Builtin.bitOr (a : Int) (b : Int) = ((a ||| b : Nat) : Int) := by
 unfold Builtin.bitOr
 have h1 : decide (0 ≤ Builtin.bitNot (a : Int)) = false := by simp [Builtin.bitNot]; lia
 have h2 : decide (0 ≤ Builtin.bitNot (b : Int)) = false := by simp [Builtin.bitNot]; lia
 have n : ∀ a : Int, Builtin.bitNot (Builtin.bitNot a) = a := λ a => by unfold Builtin.bitNot; lia
 unfold Builtin.bitAnd
 rw [h1, h2]
 dsimp only
 rw [n, n, n]; rfl
theorem GZ {l : List Nat} {x : Nat} (h : x < l.length) (h1 : x < 1000000) : pick (aK l) (x : Int) = some (.int (l.getD x 0 : Nat)) := by
 rw [iK (by unfold aK; simpa using h) h1]
 simp [aK, h]
end
theorem IA (n s : Nat) : idx (n + 1) s = idx n s ++ if s.testBit n = true then [n] else [] := by
 unfold idx
 rw [List.range_succ, List.filter_append]
 congr 1
 simp [List.filter_cons]
theorem HU (W ms ks : List Nat) (k : Nat) : orM W ms (ks ++ [k]) = orM W ms ks ||| ms.getD (W.getD k 0) 0 := by
 unfold orM; rw [List.foldl_append]; rfl
theorem Iz (n : Nat) : idx n 0 = [] := by
 unfold idx; simp
inductive MF (pv : V) (lj : Nat) (W ms : List Nat) (σ : St) (k : Nat) (ρ : Loc) (σ' : St) : Prop
 | intro (e : E5 λ a2 a3 a4 a5 a6 => ρ = [some pv, some (.obj lj), a2, a3, a4, a5, a6]) (E : bW σ σ') (all : ∀ s, s < k + 1 → (idx W.length s).length ≤ cnt (orM W ms (idx W.length s)))
structure Pp (pv : V) (lj : Nat) (W ms : List Nat) (s : Nat) (σ : St) (k : Nat) (ρ : Loc) (σ' : St) : Prop where
 e : E2 λ a5 a6 => ρ = [some pv, some (.obj lj), some (.int (s : Nat)), some (.int (orM W ms (idx k s) : Nat)), some (.int ((idx k s).length : Nat)), a5, a6]
 E : bW σ σ'
section
variable {σ : St} {Q : Fl → Loc → St → Prop} {pv : V} {lj : Nat} {W ms : List Nat}
noncomputable def Go : XS := (XS.seq (XS.ite (X.test (X.bin oEq (X.bin oMod (X.bin cI (X.var 2) (X.bin i3 (X.pure (.int 2)) (X.var 5))) (X.pure (.int 2))) (X.pure (.int 1)))) (XS.seq (XS.assign (X.eX (X.aB (X.bin OD (X.var 3) (X.sub (X.var 1) (X.var 6))) (X.aB (X.bin eR (X.var 4) (X.pure (.int 1))) X.aH))) (XA.swap [(3, 75), (4, 62)])) XS.nil) XS.nil) XS.nil)
theorem gZ {j x : Nat} {l : List Nat} (h : getL σ j = some (aK l)) (hx : x < l.length) (h1 : l.length ≤ 1000) : i6 (.obj j) (.int (x : Nat)) σ = some (.int (l.getD x 0 : Nat), σ) := by
 rw [l7 h, GZ hx (Nat.lt_of_lt_of_le hx (Nat.le_trans h1 (by decide)))]; rfl
theorem GM {g : XS} (hp : Seq pv σ (aK W)) (hl : getL σ lj = some (aK ms)) (hX : ∀ x ∈ W, x < ms.length) (hXl : W.length ≤ 6) (hml : ms.length ≤ 100) (s : Nat) (a5 a6 : Option V)
  (hQ : ∀ σ' a5 a6, bW σ σ' → sp g [some pv, some (.obj lj), some (.int (s : Nat)), some (.int (orM W ms (idx W.length s) : Nat)), some (.int ((idx W.length s).length : Nat)), a5, a6] σ' Q) :
  sp (XS.seq (XS.j6 (X.var 0) (XA.tup [XA.name 5, XA.name 6]) Go 1000) g) [some pv, some (.obj lj), some (.int (s : Nat)), some (.int 0), some (.int 0), a5, a6] σ Q := by
 have hil : (aK W).length = W.length := List.length_map _
 refine HL (aK W) (Pp pv lj W ms s σ) rfl ⟨⟨_, _, rfl⟩, .refl⟩ (hil ▸ Nat.lt_of_le_of_lt hXl (by decide)) (λ k ρ σ' I => (hp.ext I.E).enum k) ?_ ?_
 ·rintro k w ρ bH hw ⟨⟨a5, a6, rfl⟩, E⟩
  unfold aK at hw
  rw [List.getElem?_map] at hw
  obtain ⟨x, hx, rfl⟩ := Option.map_eq_some_iff.mp hw
  have hk := (List.getElem?_eq_some_iff.mp hx).1
  have hg : W.getD k 0 = x := by rw [List.getD_eq_getElem?_getD, hx]; rfl
  have b := wE (f := X.var 2) (g := X.var 5) (ρ := [some pv, some (.obj lj), some (.int (s : Nat)), some (.int (orM W ms (idx k s) : Nat)), some (.int ((idx k s).length : Nat)), some (.int (k : Nat)), some (.int (x : Nat))]) (σ := bH) rfl rfl (Nat.le_trans (Nat.le_of_lt hk) (Nat.le_trans hXl (by decide)))
  refine ⟨rfl, λ Q' hn _ => ?_⟩
  have hi := IA k s
  cases hb : s.testBit k with
  | false =>
   rw [hb] at b hi
   rw [if_neg (by decide), List.append_nil] at hi
   exact c6 b (dJ (hn _ _ ⟨⟨some (.int (k : Nat)), some (.int (x : Nat)), by rw [hi]; rfl⟩, E⟩))
  | true =>
   rw [hb] at b hi
   rw [if_pos rfl] at hi
   refine kY b (fY (k5 (aI (aQ rfl (bO rfl rfl (gZ (E.getL hl id) (hX x (List.mem_of_getElem? hx)) (Nat.le_trans hml (by decide)))) (congrArg (λ z => some (V.int z, bH)) (Hn ..))) (aI rfl rfl)) (Nat.le_of_ble_eq_true rfl)) rfl (dJ (dJ (hn _ _ ⟨⟨some (.int (k : Nat)), some (.int (x : Nat)), ?_⟩, E⟩))))
   rw [hi, HU, hg, List.length_append]; rfl
 ·rintro ρ bH ⟨⟨a5, a6, rfl⟩, E⟩
  exact hil ▸ hQ bH a5 a6 E
theorem gW {n : Nat} (h0 : 0 < n) (h : n ≤ 1000000) : Src (.range 1 (n : Nat)) σ ((List.range (n - 1)).map λ k => .int ((k + 1 : Nat) : Int)) := by
 have := Src.range (σ := σ) (a := 1) (b := (n : Nat)) (by decide) (by decide) (Int.le_trans (by decide) (Int.natCast_nonneg n)) (Int.ofNat_le.mpr h)
 unfold rangeInts at this
 rw [List.map_map, show ((n : Int) - 1).toNat = n - 1 from Int.toNat_sub n 1] at this
 rw [show (λ k : Nat => V.int ((k + 1 : Nat) : Int)) = V.int ∘ λ i : Nat => (1 : Int) + i from funext λ k => congrArg V.int (show ((k + 1 : Nat) : Int) = 1 + (k : Int) from Int.add_comm (k : Int) 1)]
 exact this
noncomputable def Jk : XS := (XS.seq (XS.assign (X.eX (X.aB (X.pure (.int 0)) (X.aB (X.pure (.int 0)) X.aH))) (XA.tup [XA.name 3, XA.name 4])) (XS.seq (XS.j6 (X.var 0) (XA.tup [XA.name 5, XA.name 6]) Go 1000) (XS.seq (XS.ite (X.test (X.bin oLt (X.call f4 (X.aB (X.var 3) X.aH)) (X.var 4))) (XS.seq (XS.ret (X.pure (.bool false))) XS.nil) XS.nil) XS.nil)))
theorem HF {k : Nat} {ρ : Loc} {bH : St} (hp : Seq pv σ (aK W)) (hl : getL σ lj = some (aK ms)) (hX : ∀ x ∈ W, x < ms.length) (hXl : W.length ≤ 6) (hml : ms.length ≤ 100) (hk : k + 1 < 2 ^ W.length) (hR : dW W ms = false → ∀ ρ σ', bW σ σ' → Q (.ret (.bool false)) ρ σ')
  (I : MF pv lj W ms σ k ρ bH) : sU (XA.name 2) Jk (MF pv lj W ms σ (k + 1)) Q (.int ((k + 1 : Nat) : Int)) ρ bH := by
 obtain ⟨⟨a2, a3, a4, a5, a6, rfl⟩, E, hall⟩ := I
 refine ⟨rfl, λ Q' hn hr => fY rfl rfl (GM (hp.ext E) (E.getL hl id) hX hXl hml (k + 1) a5 a6 λ dT b5 b6 E3 => ?_)⟩
 obtain ⟨_, k8, e4, rfl, E4⟩ := AG (σ := dT) (m := orM W ms (idx W.length (k + 1)))
 have E34 := (E.then E3).then E4
 by_cases hc : cnt (orM W ms (idx W.length (k + 1))) < (idx W.length (k + 1)).length
 ·refine zQ (aP (aQ (aN rfl e4) rfl (ON (Int.ofNat_lt.mpr hc)))) rfl (hr _ _ _ (hR ?_ _ _ E34))
  unfold dW
  rw [Bool.and_eq_false_iff, List.all_eq_false]
  exact .inr ⟨k + 1, List.mem_range.mpr hk, λ h => Nat.lt_irrefl _ (Nat.lt_of_lt_of_le hc (of_decide_eq_true h))⟩
 ·refine c6 (aP (aQ (aN rfl e4) rfl (ltF λ h => hc (Int.ofNat_lt.mp h)))) (dJ (hn _ _ ⟨⟨_, _, _, _, _, rfl⟩, E34, λ s hs => ?_⟩))
  rcases Nat.lt_or_eq_of_le (Nat.le_of_lt_succ hs) with h | rfl
  ·exact hall s h
  ·exact Nat.le_of_not_lt hc
theorem o0 (hp : Seq pv σ (aK W)) (hl : getL σ lj = some (aK ms)) (hX : ∀ x ∈ W, x < ms.length) (hXl : W.length ≤ 6) (hml : ms.length ≤ 100) :
  wp (fW [pv, .obj lj] σ) λ r σ' => r = .bool (dW W ms) ∧ bW σ σ' := by
 have hil : (aK W).length = W.length := List.length_map _
 obtain ⟨n, hn1, hn2⟩ := hp.tC (Nat.le_trans hXl (by decide))
 have hlen := hp.len (Nat.le_trans (Nat.le_of_eq hil) (Nat.le_trans hXl (by decide)))
 rw [hil] at hlen
 refine wp_runF rfl ?_
 by_cases hnd : W.Nodup
 case neg =>
  refine zQ (aP (aQ (Eh rfl hn1) (aN rfl hlen) (ON (Int.ofNat_lt.mpr (hn2.mpr hnd))))) rfl ⟨?_, .refl⟩
  unfold dW
  rw [decide_eq_false hnd]; rfl
 have hpow : 2 ^ W.length ≤ 64 := Nat.pow_le_pow_right (n := 2) (j := 6) (by decide) hXl
 have Ld : 0 < 2 ^ W.length := Nat.pow_pos (by decide)
 have hrl : (List.range (2 ^ W.length - 1)).length = 2 ^ W.length - 1 := List.length_range
 refine c6 (aP (aQ (Eh rfl hn1) (aN rfl hlen) (ltF λ h => hn2.mp (Int.ofNat_lt.mp h) hnd))) (nR (List.range (2 ^ W.length - 1)) (λ k => .int ((k + 1 : Nat) : Int)) (MF pv lj W ms σ) (aN (aI rfl (aI (B7 (aN rfl hlen) (Nat.le_trans hXl (by decide))) rfl)) rfl) ⟨⟨_, _, _, _, _, rfl⟩, .refl, λ s hs => ?_⟩
  (Nat.lt_of_le_of_lt (Nat.le_of_eq hrl) (Nat.lt_of_le_of_lt (Nat.le_trans (Nat.sub_le _ _) hpow) (by decide))) (λ k ρ σ' _ hk => gW (σ := σ') Ld (Nat.le_trans hpow (by decide)) σ' .refl k (by rw [List.length_map]; exact hk)) ?_ ?_)
 ·cases Nat.lt_one_iff.mp hs
  rw [Iz]; exact Nat.zero_le _
 ·intro k x ρ bH hx I
  obtain ⟨hk, e⟩ := List.getElem?_eq_some_iff.mp hx
  rw [List.getElem_range] at e
  subst e
  exact HF hp hl hX hXl hml (Nat.add_lt_of_lt_sub (hrl ▸ hk)) (λ h ρ σ' E => ⟨h ▸ rfl, E⟩) I
 ·rintro ρ bH ⟨⟨a2, a3, a4, a5, a6, rfl⟩, E, hall⟩
  rw [hrl, Nat.sub_add_cancel Ld] at hall
  refine lW rfl ⟨?_, E⟩
  unfold dW
  rw [decide_eq_true hnd, List.all_eq_true.mpr λ s hs => decide_eq_true (hall s (List.mem_range.mp hs))]; rfl
end
noncomputable def tB (p : Nat × Nat × Int) : V := .tup [.int (p.1 : Nat), .str p.2.1, .int p.2.2]
noncomputable def Co (n : Nat) (p : Nat × Nat × Int) : Prop := p.1 < n ∧ (p.2.1 = 9 ∨ p.2.1 = 8 ∨ p.2.1 = 51)
noncomputable def stood (b : Int) (ms : List Nat) (lits : List (Nat × Nat × Int)) : Bool := lits.all λ p => decide (dI b (ms.getD p.1 0) p.2.1 p.2.2 = ms.getD p.1 0)
noncomputable def r0 (b : Int) (ms : List Nat) (lits : List (Nat × Nat × Int)) : List Nat := lits.foldl (λ acc p => acc.set p.1 (dI b (acc.getD p.1 0) p.2.1 p.2.2)) ms
theorem Ev {b : Int} : ∀ (lits : List (Nat × Nat × Int)) (ms : List Nat), (r0 b ms lits).length = ms.length := by
 intro lits
 induction lits with
 | nil => intro ms; rfl
 | cons p lits ih => intro ms; show (r0 b (ms.set _ _) lits).length = _; rw [ih, List.length_set]
theorem Ew {b : Int} {j : Nat} (hj : j < 5) : ∀ (lits : List (Nat × Nat × Int)) (ms : List Nat) (x : Nat), x < ms.length → (((r0 b ms lits).getD x 0).testBit j = true ↔ (ms.getD x 0).testBit j = true ∧ ∀ p ∈ lits, p.1 = x → pN p.2.1 (b + (j : Nat)) p.2.2 = true) := by
 intro lits
 induction lits with
 | nil => intro ms x hx; simp [r0]
 | cons p lits ih =>
  intro ms x hx
  show ((r0 b (ms.set p.1 (dI b (ms.getD p.1 0) p.2.1 p.2.2)) lits).getD x 0).testBit j = true ↔ _
  rw [ih _ x (by simpa using hx)]
  simp only [List.mem_cons, forall_eq_or_imp]
  by_cases hpx : p.1 = x
  ·subst hpx
   have : (ms.set p.1 (dI b (ms.getD p.1 0) p.2.1 p.2.2)).getD p.1 0 = dI b (ms.getD p.1 0) p.2.1 p.2.2 := by simp [hx]
   rw [this, rH hj, Bool.and_eq_true]
   simp [and_assoc]
  ·have : (ms.set p.1 (dI b (ms.getD p.1 0) p.2.1 p.2.2)).getD x 0 = ms.getD x 0 := by
    simp only [List.getD_eq_getElem?_getD]; rw [List.getElem?_set_ne hpx]
   rw [this]
   simp [hpx]
section
variable {σ : St} {lj : Nat} {ms : List Nat} {b : Int} {lits : List (Nat × Nat × Int)}
theorem Eo : ∀ l : List Bool, boolsOf (l.map V.bool) = some l
 | [] => rfl
 | a :: l => by
  show (boolsOf (l.map V.bool)).map (a :: ·) = _
  rw [Eo l]; rfl
theorem Mm {i : Nat} {ns : List Bool} (h : getL σ i = some (ns.map .bool)) (h1 : ns.length ≤ 100000) : IL (.obj i) σ = some (.bool (ns.all id), σ) := by
 unfold IL
 simp only [h, Eo, Option.bind_some]
 rw [if_pos h1]
theorem zA (hl : getL σ lj = some (aK ms)) (hml : ms.length ≤ 100) (ho : ∀ p ∈ lits, Co ms.length p) (hn : lits.length ≤ 900) :
  wp (jI [.tup (lits.map tB), .obj lj, .int b] σ) λ r σ' => r = .bool (stood b ms lits) ∧ bW σ σ' := by
 have hm2 := Nat.le_trans hml (by decide : 100 ≤ 1000)
 refine evMap (α := Nat × Nat × Int) (ρ := [some (.tup (lits.map tB)), some (.obj lj), some (.int b), none]) (σ := σ) (λ ρ => ∃ x, ρ = [some (.tup (lits.map tB)), some (.obj lj), some (.int b), x]) lits tB (λ p => some (.bool (decide (dI b (ms.getD p.1 0) p.2.1 p.2.2 = ms.getD p.1 0)))) ⟨none, rfl⟩ (Nat.le_trans hn (by decide)) .tup
  (λ σ' e E g => ⟨_, _, s9 (aN (aI e rfl) (Mm (ns := lits.map λ p => decide (dI b (ms.getD p.1 0) p.2.1 p.2.2 = ms.getD p.1 0)) (g.trans (congrArg some ?_)) ?_)), congrArg V.bool (by unfold stood; rw [List.all_map]; rfl), E⟩) rfl (Nat.lt_of_le_of_lt hn (by decide)) ?_
 ·rw [Ax, List.map_map]; rfl
 ·rw [List.length_map]; exact Nat.le_trans hn (by decide)
 ·rintro p _ σ' hp ⟨x, rfl⟩ E
  obtain ⟨h1, h2⟩ := ho p hp
  have hl' := E.getL hl id
  obtain ⟨_, bH, e2, rfl, E2⟩ := rG (σ := σ') (m := ms.getD p.1 0) (x := (p.1 : Nat)) (kk := p.2.2) (b := b) h2
  exact .put rfl ⟨_, rfl⟩ rfl (aQ (aN (aI (bO rfl (bO rfl rfl rfl) (gZ hl' h1 hm2)) rfl) e2) (bO rfl (bO rfl rfl rfl) (gZ (E2.getL hl' id) h1 hm2)) eq_int) (by rw [decide_eq_decide.mpr Int.ofNat_inj]) E2
inductive PF (pv lv : V) (ej : Nat) (b : Int) (lits : List (Nat × Nat × Int)) (ms : List Nat) (σ : St) (k : Nat) (ρ : Loc) (σ' : St) : Prop
 | intro (e : ∃ a5, ρ = [some pv, some (.obj ej), some lv, some (.int b), some (.obj σ.length), a5]) (E : bW σ σ') (g : getL σ' σ.length = some (aK (r0 b ms (lits.take k))))
theorem Ck {ej : Nat} {W : List Nat} (hl : getL σ ej = some (aK ms)) (hml : ms.length ≤ 100) (ho : ∀ p ∈ lits, Co ms.length p) (hn : lits.length ≤ 900) (hX : ∀ x ∈ W, x < ms.length) (hXl : W.length ≤ 6) :
  wp (kL [.tup (aK W), .obj ej, .tup (lits.map tB), .int b] σ) λ r σ' => r = .bool (!dW W (r0 b ms lits)) ∧ bW σ σ' := by
 have hgl : uV (.obj ej) σ = some (.obj σ.length, σ ++ [.list (aK ms)]) := by
  unfold uV
  simp only [hl, Option.bind_some]
  rw [if_pos (by rw [aK, List.length_map]; exact Nat.le_trans hml (by decide))]
 refine wp_runF rfl (fY (aN rfl hgl) rfl (nR lits tB (PF (.tup (aK W)) (.tup (lits.map tB)) ej b lits ms σ) rfl ⟨⟨_, rfl⟩, .push _, cH⟩ (Nat.lt_of_le_of_lt hn (by decide)) (λ k ρ σ' _ _ => rfl) ?_ ?_))
 ·rintro k p ρ bH hp ⟨⟨a5, rfl⟩, E, hL⟩
  obtain ⟨hk, hpe⟩ := List.getElem?_eq_some_iff.mp hp
  obtain ⟨h1, h2⟩ := ho _ (List.mem_of_getElem? hp)
  have tF := Ev (b := b) (lits.take k) ms
  have hstep : r0 b ms (lits.take (k + 1)) = (r0 b ms (lits.take k)).set p.1 (dI b ((r0 b ms (lits.take k)).getD p.1 0) p.2.1 p.2.2) := by
   rw [List.take_succ_eq_append_getElem hk, hpe]; unfold r0; rw [List.foldl_append]; rfl
  generalize r0 b ms (lits.take k) = mk at tF hstep hL
  rw [← tF] at h1
  obtain ⟨_, dT, e3, rfl, E3⟩ := rG (σ := bH) (m := mk.getD p.1 0) (x := (p.1 : Nat)) (kk := p.2.2) (b := b) h2
  have hL3 := E3.getL hL id
  have hx := Nat.lt_of_lt_of_le h1 (tF ▸ hml)
  refine ⟨rfl, λ Q' hn _ => fY (aN (aI (bO rfl (bO rfl rfl rfl) (gZ hL h1 (tF ▸ Nat.le_trans hml (by decide)))) rfl) e3) (Gw rfl (bO rfl rfl rfl) (vO hL3 (Int.natCast_nonneg _) (Int.ofNat_lt.mpr (Nat.lt_trans hx (by decide))) (by rw [aK, List.length_map]; exact h1))) (dJ (hn _ _ ⟨⟨_, rfl⟩, (E.then E3).trans (M' := λ i => i = σ.length) (.set _ rfl) (λ i h => .inr (h ▸ Nat.le_refl _)), ?_⟩))⟩
  rw [c8 (bE hL3), hstep]
  unfold aK
  rw [List.map_set]; rfl
 ·rintro ρ bH ⟨⟨a5, rfl⟩, E, hL⟩
  rw [List.take_length] at hL
  have tF := Ev (b := b) lits ms
  obtain ⟨_, dT, e3, rfl, E3⟩ := o0 (pv := .tup (aK W)) Seq.tup hL (tF.symm ▸ hX) hXl (tF.symm ▸ hml)
  exact lW (Mo (aN rfl e3)) ⟨rfl, E.then E3⟩
end
noncomputable def jM (W ms : List Nat) (x k : Nat) : Bool := (ms.getD x 0).testBit k && dW (W.filter λ y => decide (y ≠ x)) (ms.map λ m => dE m k)
noncomputable def iJ (W ms : List Nat) : List Nat := (List.range ms.length).map λ x => sumBits λ k => jM W ms x k
inductive Jw (W ms : List Nat) (lj : Nat) (σ : St) (k : Nat) (ρ : Loc) (σ' : St) : Prop
 | intro (e : E4 λ a3 a4 a5 a6 => ρ = [some (.tup (aK W)), some (.obj lj), some (.obj σ.length), a3, a4, a5, a6, none, none]) (E : bW σ σ') (g : getL σ' σ.length = some (aK ((List.range k).map λ x => sumBits λ k => jM W ms x k)))
inductive Jv (W ms : List Nat) (lj fj oj x : Nat) (σ : St) (k : Nat) (ρ : Loc) (σ' : St) : Prop
 | intro (e : ∃ a6, ρ = [some (.tup (aK W)), some (.obj lj), some (.obj fj), some (.int (x : Nat)), some (.int (upTo k (jM W ms x) : Nat)), some (.obj oj), a6, none, none]) (E : bW σ σ')
noncomputable def AR : XS := (XS.seq (XS.ite (X.i8 (X.test (X.bin oEq (X.bin oMod (X.bin cI (X.sub (X.var 1) (X.var 3)) (X.bin i3 (X.pure (.int 2)) (X.var 6))) (X.pure (.int 2))) (X.pure (.int 1)))) (X.i8 (X.test (X.call fW (X.aB (X.var 5) (X.aB (X.f9 [7] (X.var 1) (XA.name 7) none (X.bin J7 (X.var 7) (X.bin rY (X.pure (.int 31)) (X.bin i3 (X.pure (.int 2)) (X.var 6)))) 1000) X.aH)))) X.wJ)) (XS.seq (XS.assign (X.bin eR (X.var 4) (X.bin i3 (X.pure (.int 2)) (X.var 6))) (XA.name 4)) XS.nil) XS.nil) XS.nil)
section
variable {σ : St} {Q : Fl → Loc → St → Prop} {lj fj oj x : Nat} {W ms : List Nat}
theorem GJ {k : Nat} {ρ : Loc} {bH : St} (hl : getL σ lj = some (aK ms)) (ho : getL σ oj = some (aK (W.filter λ y => decide (y ≠ x)))) (hx : x < ms.length) (hX : ∀ x ∈ W, x < ms.length) (hXl : W.length ≤ 6) (hml : ms.length ≤ 100) (hk : k < 5)
  (I : Jv W ms lj fj oj x σ k ρ bH) : sU (XA.name 6) AR (Jv W ms lj fj oj x σ (k + 1)) Q (.int (k : Nat)) ρ bH := by
 obtain ⟨⟨a6, rfl⟩, E⟩ := I
 have hk2 : k ≤ 20 := Nat.le_trans (Nat.le_of_lt hk) (by decide)
 have hl2 := E.getL hl id
 have up := BF (jM W ms x) hk
 generalize hu1 : upTo (k + 1) (jM W ms x) = u1 at up
 refine ⟨rfl, λ Q' hn _ => ?_⟩
 have hn' : ∀ σ', bW σ σ' → Q' .next [some (.tup (aK W)), some (.obj lj), some (.obj fj), some (.int (x : Nat)), some (.int (u1 : Nat)), some (.obj oj), some (.int (k : Nat)), none, none] σ' := λ σ' E' => hn _ _ ⟨⟨_, by rw [hu1]⟩, E'⟩
 clear hn
 have b1 := wE (f := X.sub (X.var 1) (X.var 3)) (g := X.var 6) (ρ := [some (.tup (aK W)), some (.obj lj), some (.obj fj), some (.int (x : Nat)), some (.int (upTo k (jM W ms x) : Nat)), some (.obj oj), some (.int (k : Nat)), none, none]) (bO rfl rfl (gZ hl2 hx (Nat.le_trans hml (by decide)))) rfl hk2
 cases hb : (ms.getD x 0).testBit k with
 | false =>
  rw [hb] at b1
  have hs : jM W ms x k = false := by unfold jM; rw [hb]; rfl
  rw [hs] at up
  subst up
  exact c6 (jX b1) (dJ (hn' _ E))
 | true =>
  rw [hb] at b1
  have hs : jM W ms x k = dW (W.filter λ y => decide (y ≠ x)) (ms.map λ m => dE m k) := by unfold jM; rw [hb]; rfl
  rw [hs] at up
  clear hs hb
  have O5 : (31 : Int) - ((2 ^ k : Nat) : Int) = ((31 - 2 ^ k : Nat) : Int) := Df (P := λ k => (31 : Int) - ((2 ^ k : Nat) : Int) = ((31 - 2 ^ k : Nat) : Int)) (by decide) (by decide) (by decide) (by decide) (by decide) k hk
  refine evMap (locs := [7]) (f := X.var 1) (a := XA.name 7) (t := none) (e := X.bin J7 (X.var 7) (X.bin rY (X.pure (.int 31)) (X.bin i3 (X.pure (.int 2)) (X.var 6)))) (fuel := 1000) (ρ := [some (.tup (aK W)), some (.obj lj), some (.obj fj), some (.int (x : Nat)), some (.int (upTo k (jM W ms x) : Nat)), some (.obj oj), some (.int (k : Nat)), none, none]) (σ := bH) (λ ρ => ∃ a7, ρ = [some (.tup (aK W)), some (.obj lj), some (.obj fj), some (.int (x : Nat)), some (.int (upTo k (jM W ms x) : Nat)), some (.obj oj), some (.int (k : Nat)), a7, none]) ms (λ m => .int (m : Nat)) (λ m => some (.int (dE m k : Nat))) ⟨none, rfl⟩ (Nat.le_trans hml (by decide)) (.list hl2) (λ dT e E3 g => ?_) ?_ ?_ ?_
  ·have g' : getL dT bH.length = some (aK (ms.map λ m => dE m k)) := by rw [g, Ax]; unfold aK; rw [List.map_map]; rfl
   have hf : (ms.map λ m => dE m k).length = ms.length := List.length_map _
   obtain ⟨_, k8, e4, rfl, E4⟩ := o0 (Seq.list (E3.getL (E.getL ho id) id)) g' (λ y hy => hf.symm ▸ hX y (List.mem_filter.mp hy).1) (Nat.le_trans (List.length_filter_le _ _) hXl) (hf.symm ▸ hml)
   have E5 := (E.then E3).then E4
   clear g' g E4
   cases hc : dW (W.filter λ y => decide (y ≠ x)) (ms.map λ m => dE m k) with
   | false =>
    rw [hc] at up e4
    subst up
    exact c6 (eY b1 (jX (aP (aN (aI rfl (aI e rfl)) e4)))) (dJ (hn' _ E5))
   | true =>
    rw [hc] at up e4
    subst up
    exact kY (eY b1 (eY (aP (aN (aI rfl (aI e rfl)) e4)) rfl)) (fY (aQ rfl (B7 rfl hk2) rfl) rfl (dJ (dJ (hn' _ E5))))
  ·rfl
  ·exact Nat.lt_of_le_of_lt hml (by decide)
  ·rintro m _ σ' hm ⟨a7, rfl⟩ E'
   exact .put rfl ⟨_, rfl⟩ rfl (aQ rfl (aQ rfl (B7 rfl hk2) (congrArg (λ z => some (V.int z, σ')) O5)) (congrArg (λ z => some (V.int z, σ')) (FI ..))) rfl .refl
theorem EJ {g : XS} (hl : getL σ lj = some (aK ms)) (ho : getL σ oj = some (aK (W.filter λ y => decide (y ≠ x)))) (hx : x < ms.length) (hX : ∀ x ∈ W, x < ms.length) (hXl : W.length ≤ 6) (hml : ms.length ≤ 100) (a6 : Option V)
  (hQ : ∀ σ' a6, bW σ σ' → sp g [some (.tup (aK W)), some (.obj lj), some (.obj fj), some (.int (x : Nat)), some (.int (sumBits λ k => jM W ms x k : Nat)), some (.obj oj), a6, none, none] σ' Q) :
  sp (XS.seq (XS.for (X.call (bY cW) (X.aB (X.pure (.int 5)) X.aH)) (XA.name 6) AR 1000) g) [some (.tup (aK W)), some (.obj lj), some (.obj fj), some (.int (x : Nat)), some (.int 0), some (.obj oj), a6, none, none] σ Q := by
 refine nR (List.range 5) (λ k => .int (k : Nat)) (Jv W ms lj fj oj x σ) rfl ⟨⟨_, rfl⟩, .refl⟩ (by decide) (λ k ρ σ' _ hk => zW (σ := σ') σ' .refl k (by rw [List.length_map]; exact hk)) ?_ ?_
 ·intro k y ρ bH hy I
  obtain ⟨hk, e⟩ := List.getElem?_eq_some_iff.mp hy
  rw [List.getElem_range] at e
  subst e
  exact GJ hl ho hx hX hXl hml hk I
 ·rintro ρ bH ⟨⟨a6, rfl⟩, E⟩
  exact hQ bH a6 E
theorem others_eq (W : List Nat) (k : Nat) : (W.filterMap λ y => if y ≠ k then some (V.int (y : Nat)) else none) = aK (W.filter λ y => decide (y ≠ k)) := by
 induction W with
 | nil => rfl
 | cons y W ih =>
  rw [List.filterMap_cons, List.filter_cons, ih]
  by_cases h : y ≠ k
  ·rw [if_pos h, if_pos (decide_eq_true h)]; rfl
  ·rw [if_neg h, if_neg λ z => h (of_decide_eq_true z)]
theorem Cu {k : Nat} {ρ : Loc} {bH : St} (hl : getL σ lj = some (aK ms)) (hX : ∀ x ∈ W, x < ms.length) (hXl : W.length ≤ 6) (hml : ms.length ≤ 100) (hk : k < ms.length) (I : Jw W ms lj σ k ρ bH) :
  sU (XA.name 3) (XS.seq (XS.assign (X.eX (X.aB (X.pure (.int 0)) (X.aB (X.f9 [8] (X.var 0) (XA.name 8) (some (X.test (X.bin iM (X.var 8) (X.var 3)))) (X.var 8) 1000) X.aH))) (XA.swap [(4, 65), (5, 78)])) (XS.seq (XS.for (X.call (bY cW) (X.aB (X.pure (.int 5)) X.aH)) (XA.name 6) AR 1000) (XS.seq (XS.drop (X.fH eF (X.var 2) (X.aB (X.var 4) X.aH))) XS.nil))) (Jw W ms lj σ (k + 1)) Q (.int (k : Nat)) ρ bH := by
 obtain ⟨⟨a3, a4, a5, a6, rfl⟩, E, hL⟩ := I
 refine ⟨rfl, λ Q' hn _ => ?_⟩
 refine evMap (aT := bH) (locs := [8]) (f := X.var 0) (a := XA.name 8) (t := some (X.test (X.bin iM (X.var 8) (X.var 3)))) (e := X.var 8) (fuel := 1000) (ρ := [some (.tup (aK W)), some (.obj lj), some (.obj σ.length), some (.int (k : Nat)), a4, a5, a6, none, none]) (σ := bH) (λ ρ => ∃ a8, ρ = [some (.tup (aK W)), some (.obj lj), some (.obj σ.length), some (.int (k : Nat)), a4, a5, a6, none, a8]) W (λ y => .int (y : Nat)) (λ y => if y ≠ k then some (.int (y : Nat)) else none) ⟨none, rfl⟩ (Nat.le_trans hXl (by decide)) .tup (λ dT e E3 g => ?_) ?_ ?_ ?_
 ·rw [others_eq] at g
  refine fY (k5 (aI rfl (aI e rfl)) (Nat.le_of_ble_eq_true rfl)) rfl (EJ (fj := σ.length) ((E.then E3).getL hl id) g hk hX hXl hml a6 λ k8 b6 E4 => ?_)
  have hL4 := E4.getL (E3.getL hL id) id
  refine jO (fM rfl (d9 hL4) rfl (fR hL4 ?_)) rfl (dJ (hn _ _ ⟨⟨_, _, _, _, rfl⟩, ((E.then E3).then E4).trans (M' := λ i => i = σ.length) (.set _ rfl) (λ i h => .inr (h ▸ Nat.le_refl _)), ?_⟩))
  ·rw [aK, List.length_map, List.length_map, List.length_range]
   exact Nat.le_trans (Nat.le_of_lt hk) (Nat.le_trans hml (by decide))
  ·rw [c8 (bE hL4), List.range_succ, List.map_append]
   unfold aK
   rw [List.map_append]; rfl
 ·rfl
 ·exact Nat.lt_of_le_of_lt hXl (by decide)
 ·rintro y _ σ' hy ⟨a8, rfl⟩ E'
  by_cases h : y ≠ k
  ·exact .put rfl ⟨_, rfl⟩ (aP (aQ rfl rfl (OK λ e => h (Int.ofNat.inj e)))) rfl (if_pos h) .refl
  ·exact .skip rfl ⟨_, rfl⟩ (aP (aQ rfl rfl (Np (congrArg _ (Classical.not_not.mp h))))) (if_neg h) .refl
theorem Cv (hl : getL σ lj = some (aK ms)) (hX : ∀ x ∈ W, x < ms.length) (hXl : W.length ≤ 6) (hml : ms.length ≤ 100) :
  wp (mQ [.tup (aK W), .obj lj] σ) λ r σ' => ∃ j, A4 (r = .obj j) (σ.length ≤ j) (getL σ' j = some (aK (iJ W ms))) (bW σ σ') := by
 have hil : (aK ms).length = ms.length := List.length_map _
 have hrl : (List.range ms.length).length = ms.length := List.length_range
 have hl0 := (Ext.push (M := λ _ => False) (O.list [])).getL hl id
 refine wp_runF rfl (fY (mY rfl (Nat.zero_le _)) rfl (nR (List.range ms.length) (λ k => .int (k : Nat)) (Jw W ms lj σ) (aN (aI (aN rfl (jW hl0 (by rw [hil]; exact Nat.le_trans hml (by decide)))) rfl) (by rw [hil]; rfl)) ⟨⟨_, _, _, _, rfl⟩, .push _, cH⟩
  (Nat.lt_of_le_of_lt (Nat.le_of_eq hrl) (Nat.lt_of_le_of_lt hml (by decide))) (λ k ρ σ' _ hk => oK (σ := σ') (Nat.le_trans hml (by decide)) σ' .refl k (by rw [List.length_map]; exact hk)) ?_ ?_))
 ·intro k y ρ bH hy I
  obtain ⟨hk, e⟩ := List.getElem?_eq_some_iff.mp hy
  rw [List.getElem_range] at e
  subst e
  exact Cu hl hX hXl hml (hrl ▸ hk) I
 ·rintro ρ bH ⟨⟨a3, a4, a5, a6, rfl⟩, E, hL⟩
  rw [hrl] at hL
  exact lW rfl ⟨_, rfl, Nat.le_refl _, hL, E⟩
end
section
variable {σ : St}
theorem at_ (σ l : List O) (k : Nat) : (σ ++ l)[σ.length + k]? = l[k]? := by rw [List.getElem?_append_right (Nat.le_add_right _ _), Nat.add_sub_cancel_left]
theorem CZ {l : List O} {d : List (Nat × V)} (k : Nat) (h : l[k]? = some (.aW d)) : bV (σ ++ l) (σ.length + k) = some d := by unfold bV; rw [at_, h]; rfl
theorem yS {l : List O} {d : List V} (k : Nat) (h : l[k]? = some (.list d)) : getL (σ ++ l) (σ.length + k) = some d := by unfold getL; rw [at_, h]; rfl
theorem Kn {l : List O} {d : List (Int × V)} (k : Nat) (h : l[k]? = some (.bX d)) : eJ (σ ++ l) (σ.length + k) = some d := by unfold eJ; rw [at_, h]; rfl
theorem EC {c n : Nat} {v : V} {d : List (Nat × V)} {l : List O} (h : d.length ≤ 100) : vQ c n (.inst c σ.length) v (σ ++ O.aW d :: l) = some (σ ++ O.aW (fF d n v) :: l) := by
 have g : bV (σ ++ O.aW d :: l) σ.length = some d := CZ (l := O.aW d :: l) 0 rfl
 rw [j7 g h, List.set_append_right _ _ (Nat.le_refl _), Nat.sub_self]
 rfl
theorem HK {c n : Nat} {f : X V} {o : O} {d : List (Nat × V)} {l : List O} {r : Loc} {g : XS} {Q : Fl → Loc → St → Prop} (hf : ∀ ρ σ, f ρ σ = some (.obj σ.length, σ ++ [o])) (h : d.length ≤ 100) (k : sp g (some (.inst c σ.length) :: r) (σ ++ O.aW (fF d n (.obj (σ.length + (l.length + 1)))) :: (l ++ [o])) Q) : sp (XS.seq (XS.assign f (XA.attr c n (X.var 0))) g) (some (.inst c σ.length) :: r) (σ ++ O.aW d :: l) Q := by
 have e := hf (some (.inst c σ.length) :: r) (σ ++ O.aW d :: l)
 rw [List.length_append, List.append_assoc] at e
 exact fY e (Jr rfl (EC h)) k
theorem GU {c n : Nat} {f : X V} {v : V} {d : List (Nat × V)} {l : List O} {r : Loc} {g : XS} {Q : Fl → Loc → St → Prop} (e : f (some (.inst c σ.length) :: r) (σ ++ O.aW d :: l) = some (v, σ ++ O.aW d :: l)) (h : d.length ≤ 100) (k : sp g (some (.inst c σ.length) :: r) (σ ++ O.aW (fF d n v) :: l) Q) : sp (XS.seq (XS.assign f (XA.attr c n (X.var 0))) g) (some (.inst c σ.length) :: r) (σ ++ O.aW d :: l) Q :=
 fY e (Jr rfl (EC h)) k
theorem y8 : wp (fNew 0 iC [] σ) λ r σ' => E6 λ i a f t mk nw => A5 (r = .inst 0 i) (σ.length ≤ i) (∀ z ∈ [a, f, t, mk, nw], σ.length ≤ z) (SV σ' i a f t mk nw [] [] [] [] false []) (bW σ σ') := by
 have hL := λ (ρ : Loc) (σ : St) => show X.iU X.aH ρ σ = some (.obj σ.length, σ ++ [.list []]) from rfl
 refine wp_fNew (wp_runF rfl ?_)
 show sp o3 _ (σ ++ O.aW [] :: []) _
 refine HK hL (Nat.le_of_ble_eq_true rfl) ?_
 show sp _ _ (σ ++ O.aW [(19, .obj (σ.length + 1))] :: [O.list []]) _
 refine HK hL (Nat.le_of_ble_eq_true rfl) ?_
 show sp _ _ (σ ++ O.aW [(19, .obj (σ.length + 1)), (18, .obj (σ.length + 2))] :: [O.list [], .list []]) _
 refine HK hL (Nat.le_of_ble_eq_true rfl) ?_
 show sp _ _ (σ ++ O.aW [(19, .obj (σ.length + 1)), (18, .obj (σ.length + 2)), (17, .obj (σ.length + 3))] :: [O.list [], .list [], .list []]) _
 refine HK hL (Nat.le_of_ble_eq_true rfl) ?_
 show sp _ _ (σ ++ O.aW [(19, .obj (σ.length + 1)), (18, .obj (σ.length + 2)), (17, .obj (σ.length + 3)), (16, .obj (σ.length + 4))] :: [O.list [], .list [], .list [], .list []]) _
 refine HK (o := .bX []) (λ _ _ => rfl) (Nat.le_of_ble_eq_true rfl) ?_
 show sp _ _ (σ ++ O.aW [(19, .obj (σ.length + 1)), (18, .obj (σ.length + 2)), (17, .obj (σ.length + 3)), (16, .obj (σ.length + 4)), (15, .obj (σ.length + 5))] :: [O.list [], .list [], .list [], .list [], .bX []]) _
 refine GU rfl (Nat.le_of_ble_eq_true rfl) (GU rfl (Nat.le_of_ble_eq_true rfl) (GU rfl (Nat.le_of_ble_eq_true rfl) (dJ ?_)))
 show _ ∧ E6 λ i a f t mk nw => A5 _ _ _ (SV (σ ++ (O.aW (sd (σ.length + 1) (σ.length + 2) (σ.length + 3) (σ.length + 4) (σ.length + 5) false []) :: [O.list [], .list [], .list [], .list [], .bX []])) i a f t mk nw [] [] [] [] false []) _
 refine ⟨rfl, σ.length, σ.length + 1, σ.length + 2, σ.length + 3, σ.length + 4, σ.length + 5, rfl, Nat.le_refl _, λ z hz => ?_, ⟨CZ 0 rfl, yS 1 rfl, yS 2 rfl, yS 3 rfl, yS 4 rfl, ⟨[], Kn 5 rfl, λ _ h => (List.not_mem_nil h).elim, .nil⟩, ?_⟩, .EW _⟩
 ·obtain ⟨k, _, rfl⟩ := List.mem_map.mp (show z ∈ [1, 2, 3, 4, 5].map (σ.length + ·) from hz)
  exact Nat.le_add_right _ _
 ·show ([0, 1, 2, 3, 4, 5].map (σ.length + ·)).Nodup
  unfold List.Nodup
  rw [List.pairwise_map]
  exact List.Pairwise.imp (λ h e => h (Nat.add_left_cancel e)) (by decide : List.Pairwise (· ≠ ·) [0, 1, 2, 3, 4, 5])
theorem BJ {W : List Nat} (hl : W.length ≤ 100) : wp (fNew 2 bZ [.tup (aK W)] σ) λ r σ' => ∃ j, A4 (r = .inst 2 j) (σ.length ≤ j) (bV σ' j = some (ad W)) (bW σ σ') := by
 have : wp (jK [.inst 2 σ.length, .tup (aK W), .str 99] (σ ++ [.aW []])) λ r σ' => A3 (r = .none) (bV σ' σ.length = some (ad W)) (bW σ σ') :=
  wp_runF rfl (GU rfl (Nat.zero_le _) (GU rfl (Nat.le_of_ble_eq_true rfl) (GU rfl (Nat.le_of_ble_eq_true rfl) (dJ ⟨rfl, CZ 0 rfl, .push _⟩))))
 obtain ⟨r, s, e, rfl, h1, h2⟩ := this
 refine wp_fNew ?_
 unfold bZ IS
 dsimp only
 rw [if_pos rfl, e]
 exact wp_some.mpr ⟨rfl, σ.length, rfl, Nat.le_refl _, h1, h2⟩
theorem GI {r : Nat} {W : List Nat} (hr : bV σ r = some (ad W)) : wp (dQ [.inst 2 r] σ) λ v σ' => v = .tup [.str 48, .tup (aK W), .str 99] ∧ σ' = σ :=
 ⟨_, _, s9 (k5 (aI rfl (aI (bQ rfl (bC hr rfl)) (aI (bQ rfl (bC hr rfl)) rfl))) (Nat.le_of_ble_eq_true rfl)), rfl, rfl⟩
end
theorem Jg {W : List Nat} (hn : W.Nodup) (P : Nat → Prop) (A : Nat → List Int) :
  (∀ (S : List Nat) (T : List Int), S.Nodup → (∀ q ∈ S, q < W.length ∧ P (W.getD q 0)) → (∀ q ∈ S, ∀ u ∈ A (W.getD q 0), u ∈ T) → S.length ≤ T.length) ↔
  (∀ (S : List Nat) (T : List Int), S.Nodup → (∀ x ∈ S, x ∈ W ∧ P x) → (∀ x ∈ S, ∀ u ∈ A x, u ∈ T) → S.length ≤ T.length) := by
 constructor
 ·intro h S T hS hX hT
  have h1 := h ((List.range W.length).filter λ q => decide (W.getD q 0 ∈ S)) T (List.nodup_range.sublist List.filter_sublist) (λ q hq => ?_) (λ q hq u hu => ?_)
  ·refine Nat.le_trans ?_ h1
   have := cU (l := S) (m := ((List.range W.length).filter λ q => decide (W.getD q 0 ∈ S)).map λ q => W.getD q 0) hS λ x hx => by
    obtain ⟨q, hq⟩ := List.getElem?_of_mem (hX x hx).1
    have hlt := (List.getElem?_eq_some_iff.mp hq).1
    have hg : W.getD q 0 = x := by simp [hq]
    exact List.mem_map.mpr ⟨q, List.mem_filter.mpr ⟨List.mem_range.mpr hlt, by rw [hg]; simpa using hx⟩, hg⟩
   simpa using this
  ·have := List.mem_filter.mp hq
   exact ⟨List.mem_range.mp this.1, (hX _ (by simpa using this.2)).2⟩
  ·have := List.mem_filter.mp hq
   exact hT _ (by simpa using this.2) u hu
 ·intro h S T hS hX hT
  have h1 := h (S.map λ q => W.getD q 0) T ?_ (λ x hx => ?_) (λ x hx u hu => ?_)
  ·simpa using h1
  ·unfold List.Nodup
   rw [List.pairwise_map]
   refine List.Pairwise.imp_of_mem (λ {p q} hp hq hne e => ?_) hS
   have l1 := (hX p hp).1
   have l2 := (hX q hq).1
   simp only [List.getD_eq_getElem?_getD, List.getElem?_eq_getElem l1, List.getElem?_eq_getElem l2, Option.getD_some] at e
   exact hne (nU hn l1 l2 e)
  ·obtain ⟨q, hq, rfl⟩ := List.mem_map.mp hx
   have := hX q hq
   refine ⟨?_, this.2⟩
   simp [this.1]
  ·obtain ⟨q, hq, rfl⟩ := List.mem_map.mp hx
   exact hT q hq u hu
noncomputable def qN (b : Int) (W ms : List Nat) : List (List Int) := W.map λ x => vm b (ms.getD x 0)
theorem mG {b : Int} {W ms : List Nat} {q : Nat} {l : List Int} (h : (qN b W ms)[q]? = some l) : q < W.length ∧ l = vm b (ms.getD (W.getD q 0) 0) := by
 unfold qN at h
 rw [List.getElem?_map] at h
 obtain ⟨x, hx, rfl⟩ := Option.map_eq_some_iff.mp h
 exact ⟨(List.getElem?_eq_some_iff.mp hx).1, by simp [hx]⟩
theorem rQ {b : Int} {W ms : List Nat} {q : Nat} (h : q < W.length) : (qN b W ms)[q]? = some (vm b (ms.getD (W.getD q 0) 0)) := by
 unfold qN
 rw [List.getElem?_map, List.getElem?_eq_getElem h]
 simp [h]
theorem iN {b : Int} {W ms : List Nat} : (qN b W ms).length = W.length := by simp [qN]
theorem uS {b : Int} {W ms : List Nat} (hn : W.Nodup) : MG (qN b W ms) ↔ Cp b W ms := by
 have B := Jg hn (λ _ => True) (λ x => vm b (ms.getD x 0))
 constructor
 ·intro h S T hS hX hT
  refine B.mp (λ S T hS hX hT => ?_) S T hS (λ x hx => ⟨hX x hx, trivial⟩) hT
  exact h S T hS (λ q hq => by rw [iN]; exact (hX q hq).1) λ q hq l hl u hu => by
   obtain ⟨_, rfl⟩ := mG hl
   exact hT q hq u hu
 ·intro h S T hS hX hT
  refine B.mpr (λ S T hS hX hT => h S T hS (λ x hx => (hX x hx).1) hT) S T hS (λ q hq => ⟨by have := hX q hq; rwa [iN] at this, trivial⟩) λ q hq u hu => ?_
  exact hT q hq _ (rQ (by have := hX q hq; rwa [iN] at this)) u hu
theorem uK {b : Int} {m k : Nat} (hk : k < 5) {u : Int} : u ∈ vm b (dE m k) ↔ u ∈ vm b m ∧ u ≠ b + (k : Nat) := by
 rw [fE, fE]
 constructor
 ·rintro ⟨j, hj, hb, rfl⟩
  rw [iI m k j hk hj, Bool.and_eq_true, decide_eq_true_iff] at hb
  exact ⟨⟨j, hj, hb.1, rfl⟩, by lia⟩
 ·rintro ⟨⟨j, hj, hb, rfl⟩, hne⟩
  exact ⟨j, hj, by rw [iI m k j hk hj, hb]; simp; lia, rfl⟩
theorem qF {ms : List Nat} {k x : Nat} : (ms.map λ m => dE m k).getD x 0 = dE (ms.getD x 0) k := by
 simp only [List.getD_eq_getElem?_getD, List.getElem?_map]
 cases ms[x]? with
 | none => simp [dE]
 | some m => rfl
theorem Ft {b : Int} {W ms : List Nat} (hn : W.Nodup) {p k : Nat} (hp : p < W.length) (hk : k < 5) : jH (qN b W ms) p (b + (k : Nat)) ↔ Cp b (W.filter λ y => decide (y ≠ W.getD p 0)) (ms.map λ m => dE m k) := by
 have hg : ∀ q, q < W.length → (W.getD q 0 ≠ W.getD p 0 ↔ q ≠ p) := λ q hq => by
  constructor
  ·rintro h rfl; exact h rfl
  ·intro h e
   simp only [List.getD_eq_getElem?_getD, List.getElem?_eq_getElem hq, List.getElem?_eq_getElem hp, Option.getD_some] at e
   exact h (nU hn hq hp e)
 have B := Jg hn (λ y => y ≠ W.getD p 0) (λ x => vm b (dE (ms.getD x 0) k))
 constructor
 ·intro h S T hS hX hT
  refine B.mp (λ S T hS hX hT => ?_) S T hS (λ x hx => ?_) (λ x hx u hu => hT x hx u (by rw [qF]; exact hu))
  ·exact h S T hS (λ q hq => ⟨by rw [iN]; exact (hX q hq).1, (hg q (hX q hq).1).mp (hX q hq).2⟩) λ q hq l hl u hu hne => by
    obtain ⟨_, rfl⟩ := mG hl
    exact hT q hq u ((uK hk).mpr ⟨hu, hne⟩)
  ·have := List.mem_filter.mp (hX x hx)
   exact ⟨this.1, by simpa using this.2⟩
 ·intro h S T hS hX hT
  have hX' : ∀ q ∈ S, q < W.length ∧ q ≠ p := λ q hq => by have := hX q hq; rwa [iN] at this
  refine B.mpr (λ S T hS hX hT => h S T hS (λ x hx => List.mem_filter.mpr ⟨(hX x hx).1, by simpa using (hX x hx).2⟩) λ x hx u hu => hT x hx u (by rw [qF] at hu; exact hu)) S T hS (λ q hq => ⟨(hX' q hq).1, (hg q (hX' q hq).1).mpr (hX' q hq).2⟩) λ q hq u hu => ?_
  obtain ⟨h1, h2⟩ := (uK hk).mp hu
  exact hT q hq _ (rQ (hX' q hq).1) u h1 h2
theorem nK {b : Int} {doms : List (List (Int × Int))} {ms : List Nat} (hm : eB b doms ms) {W : List Nat} (hW : ∀ x ∈ W, x < ms.length) : eK doms W = qN b W ms := by
 unfold eK qN
 apply List.map_congr_left
 intro x hx
 have h1 := hW x hx
 have h2 : x < doms.length := by rw [hm.len]; exact h1
 have := (hm.at_ x _ _ (List.getElem?_eq_getElem h2) (List.getElem?_eq_getElem h1)).vals
 simp [h1, h2, this]
theorem vT {b : Int} {W ms : List Nat} (hn : W.Nodup) {p k : Nat} (hp : p < W.length) (hk : k < 5) : jM W ms (W.getD p 0) k = true ↔ (ms.getD (W.getD p 0) 0).testBit k = true ∧ jH (qN b W ms) p (b + (k : Nat)) := by
 unfold jM
 rw [Bool.and_eq_true, jY b, Ft hn hp hk]
 constructor
 ·rintro ⟨a, _, c⟩; exact ⟨a, c⟩
 ·rintro ⟨a, c⟩; exact ⟨a, hn.sublist List.filter_sublist, c⟩
theorem Ii {b : Int} {W ms rL : List Nat} {doms D : List (List (Int × Int))} (hm : eB b doms ms) (hm' : eB b D rL) (hn : W.Nodup) (hW : ∀ x ∈ W, x < ms.length) (hcov : ∀ x, x < ms.length → x ∈ W)
  (h : Mid (eK doms W) W doms D (λ _ _ => True)) : rL = iJ W ms := by
 have hlen : rL.length = ms.length := by rw [← hm'.len, ← hm.len]; exact h.len
 rw [nK hm hW] at h
 apply List.ext_getElem
 ·simp [iJ, hlen]
 ·intro x h1 h2
  have hx : x < ms.length := by lia
  obtain ⟨p, hp⟩ := List.getElem?_of_mem (hcov x hx)
  have hpl := (List.getElem?_eq_some_iff.mp hp).1
  have hg : W.getD p 0 = x := by simp [hp]
  obtain ⟨rs, hrs, _, hu⟩ := h.at_ p x _ hp (rQ hpl)
  have hd := hm'.at_ x rs _ hrs (List.getElem?_eq_getElem h1)
  refine vH (hm'.lt _ (List.getElem_mem h1)) ?_ λ k hk => ?_
  ·simp [iJ]; exact y5 _
  ·have e1 : (iJ W ms)[x] = sumBits λ k => jM W ms x k := by simp [iJ]
   rw [e1, mT _ hk, Bool.eq_iff_iff]
   have hs := vT (b := b) (ms := ms) hn hpl hk
   rw [hg] at hs
   rw [hs]
   have e2 : rL[x].testBit k = true ↔ b + (k : Nat) ∈ aX rs := by
    rw [hd.mem]
    constructor
    ·intro h; exact ⟨k, hk, h, rfl⟩
    ·rintro ⟨j, _, hb, e⟩
     have : j = k := by lia
     rw [← this]; exact hb
   rw [e2, hu, hg]
   have e3 : b + (k : Nat) ∈ vm b (ms.getD x 0) ↔ (ms.getD x 0).testBit k = true := by
    rw [fE]
    constructor
    ·rintro ⟨j, _, hb, e⟩
     have : j = k := by lia
     rw [← this]; exact hb
    ·intro h; exact ⟨k, hk, h, rfl⟩
   rw [e3]
   constructor
   ·rintro ⟨a, c⟩; exact ⟨a, c trivial⟩
   ·rintro ⟨a, c⟩; exact ⟨a, λ _ => c⟩
noncomputable def kB (firsts : List (List (Int × Int))) (scope : List Nat) (ps : List Nat) (few : List Int) (lo hi : Int) : List (Nat × Nat × Int) :=
 ps.flatMap λ p => [(scope.getD p 0, 8, lo), (scope.getD p 0, 9, hi)] ++ ((aX (firsts.getD (scope.getD p 0) [])).filter λ v => decide (lo < v) && decide (v < hi) && decide (v ∉ few)).map λ v => (scope.getD p 0, 51, v)
theorem BC (firsts : List (List (Int × Int))) (scope ps : List Nat) (few : List Int) (lo hi : Int) : mM firsts scope ps few lo hi = (kB firsts scope ps few lo hi).map tB := by
 unfold mM kB
 rw [List.map_flatMap]
 congr 1
 funext p
 unfold jA
 rw [List.map_append, List.map_map]
 rfl
theorem nW {firsts : List (List (Int × Int))} {scope ps : List Nat} {few : List Int} {lo hi : Int} {z : Nat × Nat × Int} : z ∈ kB firsts scope ps few lo hi ↔ ∃ p ∈ ps, z = (scope.getD p 0, 8, lo) ∨ z = (scope.getD p 0, 9, hi) ∨ ∃ v, v ∈ aX (firsts.getD (scope.getD p 0) []) ∧ lo < v ∧ v < hi ∧ v ∉ few ∧ z = (scope.getD p 0, 51, v) := by
 unfold kB
 rw [List.mem_flatMap]
 refine exists_congr λ p => and_congr_right λ _ => ?_
 simp only [List.mem_append, List.mem_cons, List.not_mem_nil, or_false, List.mem_map, List.mem_filter, Bool.and_eq_true, decide_eq_true_eq, or_assoc]
 refine or_congr_right (or_congr_right ⟨?_, ?_⟩)
 ·rintro ⟨v, ⟨h1, ⟨h2, h3⟩, h4⟩, rfl⟩; exact ⟨v, h1, h2, h3, h4, rfl⟩
 ·rintro ⟨v, h1, h2, h3, h4, rfl⟩; exact ⟨v, ⟨h1, ⟨h2, h3⟩, h4⟩, rfl⟩
theorem BD {firsts : List (List (Int × Int))} {scope : List Nat} {few : List Int} {lo hi : Int} (h : ∀ rs ∈ firsts, (aX rs).length ≤ 20) : ∀ ps : List Nat, (kB firsts scope ps few lo hi).length ≤ 22 * ps.length := by
 intro ps
 induction ps with
 | nil => simp [kB]
 | cons p ps ih =>
  have h1 : (kB firsts scope (p :: ps) few lo hi) = (kB firsts scope [p] few lo hi) ++ kB firsts scope ps few lo hi := by
   unfold kB; rw [List.flatMap_cons, List.flatMap_singleton]
  rw [h1, List.length_append, List.length_cons]
  have h2 : (kB firsts scope [p] few lo hi).length ≤ 22 := by
   unfold kB
   rw [List.flatMap_singleton, List.length_append, List.length_map]
   have := List.length_filter_le (λ v => decide (lo < v) && decide (v < hi) && decide (v ∉ few)) (aX (firsts.getD (scope.getD p 0) []))
   have h3 : (aX (firsts.getD (scope.getD p 0) [])).length ≤ 20 := by
    by_cases hx : scope.getD p 0 < firsts.length
    ·have e : firsts.getD (scope.getD p 0) [] = firsts[scope.getD p 0] := by
      rw [List.getD_eq_getElem?_getD, List.getElem?_eq_getElem hx]; rfl
     rw [e]; exact h _ (List.getElem_mem hx)
    ·have e : firsts.getD (scope.getD p 0) [] = [] := by
      rw [List.getD_eq_getElem?_getD, List.getElem?_eq_none (Nat.not_lt.mp hx)]; rfl
     rw [e]; simp [aX]
   exact Nat.add_le_add_left (Nat.le_trans this h3) 2
  rw [Nat.add_comm]
  exact Nat.add_le_add ih h2
theorem uQ {ks : List Int} {lo hi : Int} (h0 : (cM ks)[0]? = some lo) (h1 : (cM ks).getLast? = some hi) : lo ∈ ks ∧ hi ∈ ks ∧ ∀ u ∈ ks, lo ≤ u ∧ u ≤ hi := by
 have hs := oR ks
 refine ⟨p7.mp (List.mem_of_getElem? h0), p7.mp (List.mem_of_getLast? h1), λ u hu => ?_⟩
 have hu' := p7.mpr hu
 have e1 : (cM ks)[(cM ks).length - 1]? = some hi := by rw [List.getLast?_eq_getElem?] at h1; exact h1
 generalize cM ks = l at *
 obtain ⟨n, hn⟩ := List.getElem?_of_mem hu'
 obtain ⟨ln, en⟩ := List.getElem?_eq_some_iff.mp hn
 obtain ⟨l0, e0⟩ := List.getElem?_eq_some_iff.mp h0
 obtain ⟨l1, e1⟩ := List.getElem?_eq_some_iff.mp e1
 have P := List.pairwise_iff_getElem.mp hs
 constructor
 ·by_cases h : n = 0
  ·subst h; rw [← e0, ← en]; exact Int.le_refl _
  ·have := P 0 n l0 ln (by lia); rw [e0, en] at this; exact this
 ·by_cases h : n = l.length - 1
  ·subst h; rw [← e1, ← en]; exact Int.le_refl _
  ·have := P n (l.length - 1) ln l1 (by lia); rw [e1, en] at this; exact this
section
variable {b : Int} {W ms es mk : List Nat} {firsts : List (List (Int × Int))} {ps : List Nat} {ks : List Int} {lo hi : Int}
theorem FP (hW : ∀ x ∈ W, x < ms.length) (hp : ∀ p ∈ ps, p < W.length) : ∀ z ∈ kB firsts W ps (cM ks) lo hi, Co ms.length z := by
 intro z hz
 obtain ⟨p, hpp, h⟩ := nW.mp hz
 have hx : W.getD p 0 < ms.length := by
  have := hp p hpp
  refine hW _ ?_
  simp [this]
 rcases h with rfl | rfl | ⟨v, _, _, _, _, rfl⟩
 ·exact ⟨hx, .inr (.inl rfl)⟩
 ·exact ⟨hx, .inl rfl⟩
 ·exact ⟨hx, .inr (.inr rfl)⟩
theorem K6 {v k : Int} : pN 8 v k = decide (k ≤ v) := rfl
theorem K5 {v k : Int} : pN 9 v k = decide (v ≤ k) := rfl
theorem CQ {v k : Int} : pN 51 v k = decide (v ≠ k) := rfl
theorem y9 (h0 : (cM ks)[0]? = some lo) (h1 : (cM ks).getLast? = some hi) (hlt : ∀ m ∈ mk, m < 32) (h : ∀ p ∈ ps, ∀ j, j < 5 → (mk.getD (W.getD p 0) 0).testBit j = true → b + (j : Nat) ∈ ks) : stood b mk (kB firsts W ps (cM ks) lo hi) = true := by
 obtain ⟨_, _, hb⟩ := uQ h0 h1
 unfold stood
 rw [List.all_eq_true]
 intro z hz
 rw [decide_eq_true_iff]
 obtain ⟨p, hp, hc⟩ := nW.mp hz
 have hx : z.1 = W.getD p 0 := by rcases hc with rfl | rfl | ⟨v, _, _, _, _, rfl⟩ <;> rfl
 have hm : mk.getD z.1 0 < 32 := by
  by_cases hl : z.1 < mk.length
  ·have : mk.getD z.1 0 = mk[z.1] := by simp [hl]
   rw [this]; exact hlt _ (List.getElem_mem hl)
  ·have : mk.getD z.1 0 = 0 := by rw [List.getD_eq_getElem?_getD, List.getElem?_eq_none (by lia)]; rfl
   rw [this]; decide
 refine vH uC hm λ j hj => ?_
 rw [rH hj]
 cases Pe : (mk.getD z.1 0).testBit j with
 | false => rfl
 | true =>
  rw [Bool.true_and]
  have hu := h p hp j hj (by rw [← hx]; exact Pe)
  have hbu := hb _ hu
  rcases hc with rfl | rfl | ⟨v, _, _, _, hv, rfl⟩
  ·rw [K6, decide_eq_true_iff]; exact hbu.1
  ·rw [K5, decide_eq_true_iff]; exact hbu.2
  ·rw [CQ, decide_eq_true_iff]
   rintro rfl
   exact hv (p7.mpr hu)
theorem BB (he : eB b firsts es) (h0 : (cM ks)[0]? = some lo) (h1 : (cM ks).getLast? = some hi) {q : Nat} (hq : q ∈ ps) (hx : W.getD q 0 < es.length) (hlen : ms.length = es.length) {j : Nat} (hj : j < 5)
  (hsub : (ms.getD (W.getD q 0) 0).testBit j = true → (es.getD (W.getD q 0) 0).testBit j = true) (h : ((r0 b ms (kB firsts W ps (cM ks) lo hi)).getD (W.getD q 0) 0).testBit j = true) : b + (j : Nat) ∈ ks := by
 obtain ⟨hlo, hhi, _⟩ := uQ h0 h1
 obtain ⟨hb, hl⟩ := (Ew hj _ _ _ (by lia)).mp h
 have g1 := hl (W.getD q 0, 8, lo) (nW.mpr ⟨q, hq, .inl rfl⟩) rfl
 have g2 := hl (W.getD q 0, 9, hi) (nW.mpr ⟨q, hq, .inr (.inl rfl)⟩) rfl
 rw [K6, decide_eq_true_iff] at g1
 rw [K5, decide_eq_true_iff] at g2
 dsimp only at g1 g2
 refine Classical.byContradiction λ hn => ?_
 have n1 : b + (j : Nat) ≠ lo := λ e => hn (e ▸ hlo)
 have n2 : b + (j : Nat) ≠ hi := λ e => hn (e ▸ hhi)
 have hv : b + (j : Nat) ∈ aX (firsts.getD (W.getD q 0) []) := by
  have hf : W.getD q 0 < firsts.length := by rw [he.len]; exact hx
  have e1 : firsts.getD (W.getD q 0) [] = firsts[W.getD q 0] := by rw [List.getD_eq_getElem?_getD, List.getElem?_eq_getElem hf]; rfl
  have e2 : es.getD (W.getD q 0) 0 = es[W.getD q 0] := by rw [List.getD_eq_getElem?_getD, List.getElem?_eq_getElem hx]; rfl
  rw [e1]
  refine ((he.at_ _ _ _ (List.getElem?_eq_getElem hf) (List.getElem?_eq_getElem hx)).mem _).mpr ⟨j, hj, ?_, rfl⟩
  rw [← e2]; exact hsub hb
 have g3 := hl (W.getD q 0, 51, b + (j : Nat)) (nW.mpr ⟨q, hq, .inr (.inr ⟨_, hv, by lia, by lia, λ z => hn (p7.mp z), rfl⟩)⟩) rfl
 rw [CQ, decide_eq_true_iff] at g3
 exact g3 rfl
theorem Eu (hn : W.Nodup) {all : List Nat} (ha : all.Nodup) (hal : ∀ q ∈ all, q < W.length) (hlen : ks.length < all.length) (h : ∀ q ∈ all, ∀ j, j < 5 → (mk.getD (W.getD q 0) 0).testBit j = true → b + (j : Nat) ∈ ks) : dW W mk = false := by
 cases hc : dW W mk with
 | false => rfl
 | true =>
  have := ((uS hn).mpr ((jY b).mp hc).2) all ks ha (λ q hq => by rw [iN]; exact hal q hq) λ q hq l hl u hu => by
   obtain ⟨_, rfl⟩ := mG hl
   obtain ⟨j, hj, hb, rfl⟩ := fE.mp hu
   exact h q hq j hj hb
  lia
end
noncomputable def AT (b : Int) (W es m m' : List Nat) (e : V) : Prop := E4 λ (x : Nat) (old : List (Int × Int)) (v : Int) (lits : List (Nat × Nat × Int)) => A9 (e = .tup [.int (x : Nat), dv old, tB (x, 51, v), .tup (lits.map tB), .int (-1)]) (x < m.length) (kN b old (m.getD x 0)) (m.getD x 0 < 32) (∀ z ∈ lits, Co m.length z) (lits.length ≤ 900) (stood b m lits = true) (dW W (r0 b (es.set x (es.getD x 0 - dI b (es.getD x 0) 51 v)) lits) = false) (m' = m.set x (dI b (m.getD x 0) 51 v))
inductive Told (b : Int) (W es : List Nat) : List Nat → List V → List Nat → Prop
 | nil {m : List Nat} : Told b W es m [] m
 | cons {m m1 m2 : List Nat} {e : V} {l : List V} : AT b W es m m1 e → Told b W es m1 l m2 → Told b W es m (e :: l) m2
theorem Told.snoc {b : Int} {W es m m1 m2 : List Nat} {e : V} {l : List V} (h : Told b W es m l m1) (s : AT b W es m1 m2 e) : Told b W es m (l ++ [e]) m2 := by
 induction h with
 | nil => exact .cons s .nil
 | cons s0 _ ih => exact .cons s0 (ih s)
theorem EX {b : Int} {m k : Nat} (hm : m < 32) (hk : k < 5) : dI b m 51 (b + (k : Nat)) = dE m k := by
 refine vH uC ?_ λ j hj => ?_
 ·unfold dE
  have : m &&& (31 - 2 ^ k) ≤ m := Nat.and_le_left
  lia
 ·rw [rH hj, iI m k j hk hj, CQ]
  congr 1
  rw [decide_eq_decide]
  lia
theorem Ou (a0 b0 a1 b1 a2 b2 a3 b3 a4 b4 : Nat) : (a0 + b0) + (a1 + b1) + (a2 + b2) + (a3 + b3) + (a4 + b4) = (a0 + a1 + a2 + a3 + a4) + (b0 + b1 + b2 + b3 + b4) := by
 rw [Nat.add_add_add_comm a0 b0 a1 b1, Nat.add_add_add_comm (a0 + a1), Nat.add_add_add_comm (a0 + a1 + a2), Nat.add_add_add_comm (a0 + a1 + a2 + a3)]
theorem sub_part_bit {b : Int} {m : Nat} {v : Int} (hm : m < 32) {j : Nat} (hj : j < 5) : (m - dI b m 51 v).testBit j = (m.testBit j && decide (b + (j : Nat) = v)) := by
 have key : ∀ p q : Nat → Bool, sumBits p = sumBits (λ j => p j && q j) + sumBits λ j => p j && !q j := by
  intro p q
  have t : ∀ (a c : Bool) (n : Nat), (if a = true then n else 0) = (if (a && c) = true then n else 0) + (if (a && !c) = true then n else 0) := by
   intro a c n; cases a <;> cases c <;> simp
  unfold sumBits
  rw [t (p 0) (q 0), t (p 1) (q 1), t (p 2) (q 2), t (p 3) (q 3), t (p 4) (q 4)]
  exact Ou ..
 have h1 := key m.testBit (λ j => pN 51 (b + (j : Nat)) v)
 rw [k9 hm] at h1
 have h2 : m - dI b m 51 v = sumBits λ j => m.testBit j && !pN 51 (b + (j : Nat)) v := by
  unfold dI
  lia
 rw [h2, mT _ hj, CQ]
 congr 1
 by_cases h : b + (j : Nat) = v <;> simp [h]
theorem J2 {b : Int} {m : Nat} {v : Int} (hm : m < 32) : dI b m 51 v ≤ m := by
 have t : ∀ (a c : Bool) (n : Nat), (if (a && c) = true then n else 0) ≤ (if a = true then n else 0) := by
  intro a c n; cases a <;> cases c <;> simp
 have h : sumBits m.testBit = m := k9 hm
 unfold dI
 conv => rhs; rw [← h]
 unfold sumBits
 have t0 := t (m.testBit 0) (pN 51 (b + (0 : Nat)) v) 1
 have t1 := t (m.testBit 1) (pN 51 (b + (1 : Nat)) v) 2
 have t2 := t (m.testBit 2) (pN 51 (b + (2 : Nat)) v) 4
 have t3 := t (m.testBit 3) (pN 51 (b + (3 : Nat)) v) 8
 have t4 := t (m.testBit 4) (pN 51 (b + (4 : Nat)) v) 16
 exact Nat.add_le_add (Nat.add_le_add (Nat.add_le_add (Nat.add_le_add t0 t1) t2) t3) t4
section
variable {b : Int} {W ms es : List Nat} {doms firsts D : List (List (Int × Int))} {own : Int → Option Nat} {ents : List V}
theorem JJ (he : eB b firsts es) (hm : eB b doms ms) (hlen : es.length = ms.length) (hn : W.Nodup) (hW : ∀ x ∈ W, x < ms.length) (hWl : W.length ≤ 6) (hfl : ∀ rs ∈ firsts, (aX rs).length ≤ 20) (h : o5 (qN b W ms) own W firsts doms ents D) :
  ∃ m', eB b D m' ∧ Told b W es ms ents m' ∧ m'.length = ms.length ∧ ∀ (x j : Nat), (m'.getD x 0).testBit j = true → (ms.getD x 0).testBit j = true := by
 induction h with
 | nil => exact ⟨ms, hm, .nil, rfl, λ _ _ h => h⟩
 | snoc hs hpx hr hv hl hvl hC hp h0 h1 ih =>
  rename_i ents D p x v lo hi rs l ks ps
  obtain ⟨mk, hmk, hT, hml, hsub⟩ := ih
  obtain ⟨hpW, rfl⟩ := mG hl
  have hgp : W.getD p 0 = x := by simp [hpx]
  have hxm : x < ms.length := hW x (List.mem_of_getElem? hpx)
  have hxk : x < mk.length := by lia
  have hgk : mk.getD x 0 = mk[x] := by rw [List.getD_eq_getElem?_getD, List.getElem?_eq_getElem hxk]; rfl
  have hd := hmk.at_ x rs _ hr (List.getElem?_eq_getElem hxk)
  have hlt := hmk.lt _ (List.getElem_mem hxk)
  obtain ⟨j0, hj0, hb0, rfl⟩ := (hd.mem v).mp hv
  have As : ∀ q ∈ ps, q < W.length := λ q hq => by have := hC.lt q hq; rwa [iN] at this
  have hin : ∀ q ∈ ps, ∀ j, j < 5 → (ms.getD (W.getD q 0) 0).testBit j = true → b + (j : Nat) ∈ ks := λ q hq j hj hb =>
   hC.sub q hq _ (rQ (As q hq)) _ (fE.mpr ⟨j, hj, hb, rfl⟩)
  have hxe : x < es.length := by lia
  have hge : es.getD x 0 = es[x] := by rw [List.getD_eq_getElem?_getD, List.getElem?_eq_getElem hxe]; rfl
  have helt : es.getD x 0 < 32 := by rw [hge]; exact he.lt _ (List.getElem_mem hxe)
  have Lc : (es.set x (es.getD x 0 - dI b (es.getD x 0) 51 (b + (j0 : Nat)))).getD x 0 = es.getD x 0 - dI b (es.getD x 0) 51 (b + (j0 : Nat)) := by
   rw [List.getD_eq_getElem?_getD, List.getElem?_set_self hxe]; rfl
  refine ⟨mk.set x (dI b (mk.getD x 0) 51 (b + (j0 : Nat))), ⟨by simp [hmk.len], ?_, ?_⟩, hT.snoc ⟨x, rs, b + (j0 : Nat), kB firsts W ps (cM ks) lo hi, ?_, hxk, by rw [hgk]; exact hd, by rw [hgk]; exact hlt, ?_, ?_, ?_, ?_, rfl⟩, by simp [hml], ?_⟩
  ·intro y ry my hy hmy
   by_cases hyx : x = y
   ·subst hyx
    have hxD := (List.getElem?_eq_some_iff.mp hr).1
    rw [List.getElem?_set_self hxD] at hy
    rw [List.getElem?_set_self hxk] at hmy
    cases hy; cases hmy
    rw [hgk, EX hlt hj0]
    exact hd.without hj0
   ·rw [List.getElem?_set_ne hyx] at hy hmy
    exact hmk.at_ y ry my hy hmy
  ·intro m hm'
   rcases List.mem_or_eq_of_mem_set hm' with h | rfl
   ·exact hmk.lt m h
   ·exact uC
  ·rw [BC]; rfl
  ·rw [hml]; exact FP hW As
  ·have a := BD (scope := W) (few := cM ks) (lo := lo) (hi := hi) hfl ps
   have : ps.length ≤ W.length := by
    have := cU (m := List.range W.length) hC.nV λ q hq => List.mem_range.mpr (As q hq)
    simpa using this
   lia
  ·exact y9 h0 h1 hmk.lt λ q hq j hj hb => hin q hq j hj (hsub _ _ hb)
  ·refine Eu (b := b) (ks := ks) hn (all := p :: ps) (List.nodup_cons.mpr ⟨hp, hC.nV⟩) (λ q hq => ?_) (by rw [List.length_cons, hC.len]; lia) (λ q hq j hj hb => ?_)
   ·rcases List.mem_cons.mp hq with rfl | hq
    ·exact hpW
    ·exact As q hq
   ·rcases List.mem_cons.mp hq with rfl | hq
    ·rw [hgp] at hb
     have h2 := ((Ew hj _ _ _ (by simpa using hxe)).mp hb).1
     rw [Lc, sub_part_bit helt hj, Bool.and_eq_true, decide_eq_true_iff] at h2
     rw [h2.2]; exact hC.start
    ·have hqx : W.getD q 0 < es.length := by
      have := As q hq
      rw [hlen]; refine hW _ ?_
      simp [this]
     refine BB (ms := es.set x (es.getD x 0 - dI b (es.getD x 0) 51 (b + (j0 : Nat)))) he h0 h1 hq hqx (by simp) hj (λ h => ?_) hb
     by_cases hqe : x = W.getD q 0
     ·rw [← hqe] at h ⊢
      rw [Lc, sub_part_bit helt hj, Bool.and_eq_true] at h
      exact h.1
     ·rw [List.getD_eq_getElem?_getD, List.getElem?_set_ne hqe] at h
      exact h
  ·intro y j hb
   by_cases hyx : x = y
   ·subst hyx
    rw [List.getD_eq_getElem?_getD, List.getElem?_set_self hxk] at hb
    refine hsub x j ?_
    by_cases hj : j < 5
    ·have : (dI b (mk.getD x 0) 51 (b + (j0 : Nat))).testBit j = true := hb
     rw [rH hj, Bool.and_eq_true] at this
     exact this.1
    ·have : (dI b (mk.getD x 0) 51 (b + (j0 : Nat))).testBit j = false := Nat.testBit_lt_two_pow (Nat.lt_of_lt_of_le uC (by
      have : 2 ^ 5 ≤ 2 ^ j := Nat.pow_le_pow_right (by lia) (by lia)
      simpa using this))
     rw [show (some (dI b (mk.getD x 0) 51 (b + (j0 : Nat)))).getD 0 = dI b (mk.getD x 0) 51 (b + (j0 : Nat)) from rfl, this] at hb
     cases hb
   ·rw [List.getD_eq_getElem?_getD, List.getElem?_set_ne hyx] at hb
    exact hsub y j hb
end
noncomputable def GC (b : Int) (W ms : List Nat) : Prop := ∀ p k, p < W.length → k < 5 → (ms.getD (W.getD p 0) 0).testBit k = true → jH (qN b W ms) p (b + (k : Nat))
section
variable {b : Int} {W ms es : List Nat} {doms firsts D : List (List (Int × Int))} {own : Int → Option Nat} {aZ : Nat → Option Int}
theorem Hm {x : Nat} (h : dW W ms = true) (hx : x ∈ W) : ms.getD x 0 ≠ 0 := by
 intro h0
 have := ((jY 0).mp h).2 [x] [] (by simp) (by simpa using hx) (λ y hy u hu => by
  simp only [List.mem_singleton] at hy; subst hy
  rw [h0] at hu
  obtain ⟨k, _, hb, _⟩ := fE.mp hu
  simp at hb)
 simp at this
theorem eB.vals (h : eB b doms ms) {rs : List (Int × Int)} (hr : rs ∈ doms) : ∃ m ∈ ms, kN b rs m := by
 obtain ⟨x, hx⟩ := List.getElem?_of_mem hr
 have hl := (List.getElem?_eq_some_iff.mp hx).1
 have hl2 : x < ms.length := by rw [← h.len]; exact hl
 exact ⟨_, List.getElem_mem hl2, h.at_ x _ _ hx (List.getElem?_eq_getElem hl2)⟩
theorem Hv {m : Nat} (hm : m < 32) (h0 : m ≠ 0) : vm b m ≠ [] := by
 intro e
 refine h0 (vH hm (by decide) λ k hk => ?_)
 cases hb : m.testBit k with
 | false => simp
 | true =>
  have : b + (k : Nat) ∈ vm b m := fE.mpr ⟨k, hk, hb, rfl⟩
  rw [e] at this
  cases this
theorem Dp {x k : Nat} (hx : x < ms.length) (hk : k < 5) : ((iJ W ms).getD x 0).testBit k = jM W ms x k := by
 have : (iJ W ms).getD x 0 = sumBits λ k => jM W ms x k := by simp [iJ, hx]
 rw [this, mT _ hk]
theorem HE (K : c0 (qN b W ms) aZ own) (hf : Full (qN b W ms) aZ) (hn : W.Nodup) (hW : ∀ x ∈ W, x < ms.length) : dW W (iJ W ms) = true ∧ GC b W (iJ W ms) := by
 have hWp : ∀ p, p < W.length → W.getD p 0 < ms.length := λ p hp => by
  refine hW _ ?_
  simp [hp]
 obtain ⟨K', hf', hall⟩ := second K hf (cs' := qN b W (iJ W ms)) (by rw [iN, iN]) λ p l l' hl hl' v => by
  obtain ⟨hp, rfl⟩ := mG hl
  obtain ⟨_, rfl⟩ := mG hl'
  have hx := hWp p hp
  rw [fE, fE]
  constructor
  ·rintro ⟨k, hk, hb, rfl⟩
   rw [Dp hx hk, vT (b := b) hn hp hk] at hb
   exact ⟨⟨k, hk, hb.1, rfl⟩, hb.2⟩
  ·rintro ⟨⟨k, hk, hb, rfl⟩, hH⟩
   exact ⟨k, hk, by rw [Dp hx hk, vT (b := b) hn hp hk]; exact ⟨hb, hH⟩, rfl⟩
 refine ⟨(jY b).mpr ⟨hn, (uS hn).mp (Gh K' hf')⟩, λ p k hp hk hb => ?_⟩
 exact hall p _ _ (rQ hp) (fE.mpr ⟨k, hk, hb, rfl⟩)
theorem EI {scope : List Nat} {ents : List V} (hA : GC b W ms) (h : o5 (qN b W ms) own scope firsts doms ents D) : ents = [] := by
 cases h with
 | nil => rfl
 | snoc hs hpx hr hv hl hvl hC hp h0 h1 =>
  obtain ⟨hpW, rfl⟩ := mG hl
  obtain ⟨k, hk, hb, rfl⟩ := fE.mp hvl
  exact absurd (hA _ k hpW hk hb) (AI hC hp)
end
section
variable {σ : St} {i a f t mk nw r : Nat} {b : Int} {W ms es : List Nat} {doms firsts : List (List (Int × Int))} {trail marks clash : List V}
noncomputable def Oc (σ σ' : St) (i a f t mk nw : Nat) (b : Int) (W ms es : List Nat) (doms firsts : List (List (Int × Int))) (trail marks clash : List V) (v : V) : Prop :=
 A3 (Ext (λ z => z = i ∨ z = a ∨ z = t ∨ z = nw) σ σ') (v = .bool (dW W ms)) ((dW W ms = false ∧ ∃ lits, A5 (SV σ' i a f t mk nw doms firsts trail marks true (lits.map tB)) (∀ z ∈ lits, Co ms.length z) (lits.length ≤ 900) (stood b ms lits = true) (dW W (r0 b es lits) = false)) ∨
  (dW W ms = true ∧ E2 λ D ents => A8 (SV σ' i a f t mk nw D firsts (trail ++ ents) marks false clash) (eB b D (iJ W ms)) (Told b W es ms ents (iJ W ms)) (Tr doms ents D) (ents.length ≤ 50) (dW W (iJ W ms) = true) (GC b W (iJ W ms)) (GC b W ms → ents = [])))
theorem v8 (s : SV σ i a f t mk nw doms firsts trail marks false clash) (hm : eB b doms ms) (he : eB b firsts es) (hlen : es.length = ms.length) (hne : ∀ m ∈ ms, m ≠ 0) (hr : bV σ r = some (ad W)) (hri : r ≠ i)
  (hW : ∀ x ∈ W, x < ms.length) (hcov : ∀ x, x < ms.length → x ∈ W) (hWl : W.length ≤ 6) (hml : ms.length ≤ 10) (b5 : trail.length ≤ 900) :
  wp (bT [.inst 2 r, .inst 0 i] σ) λ v σ' => Oc σ σ' i a f t mk nw b W ms es doms firsts trail marks clash v := by
 have hdl := hm.len
 have hfl := he.len
 have hfg : ∀ rs ∈ firsts, Good rs ∧ (aX rs).length ≤ 20 := λ rs h => by
  obtain ⟨m, _, hd⟩ := he.vals h
  refine ⟨hd.good, ?_⟩
  rw [hd.vals]
  exact Nat.le_trans (Cs b m) (by decide)
 refine byC λ hG => ?_
 have hgd : ∀ rs ∈ doms, A3 (Good rs) ((aX rs).length ≤ 5) (aX rs ≠ []) := λ rs h => by
  obtain ⟨m, hmm, hd⟩ := hm.vals h
  refine ⟨hd.good, by rw [hd.vals]; exact Cs b m, ?_⟩
  rw [hd.vals]
  exact Hv (hm.lt m hmm) (hne m hmm)
 ·obtain ⟨v, σ', e, E, h⟩ := zX s hr hri (λ x hx => hdl ▸ hW x hx) (hfl.trans (hlen.trans hdl.symm)) hfg hgd (Nat.le_trans hWl (by decide)) (hdl ▸ Nat.le_trans hml (by decide)) b5
  rw [nK hm hW] at h
  replace hG := λ q => hG ⟨v, σ', e, q⟩
  clear e hgd
  rcases h with ⟨hn, rfl, s'⟩ | ⟨hn, rfl, ps, ks, lo, hi, hw, h0, h1, s'⟩ | ⟨hn, rfl, aZ, own, D, ents, K, hf, s', hM, hS, hc⟩
  ·have hcs : ∀ m, dW W m = false := λ m => by unfold dW; rw [decide_eq_false hn]; rfl
   exact hG ⟨E, by rw [hcs], .inl ⟨hcs _, [], s', λ _ h => (List.not_mem_nil h).elim, Nat.zero_le _, rfl, hcs _⟩⟩
  ·have hcs : dW W ms = false := by
    cases hc : dW W ms with
    | false => rfl
    | true => exact absurd ((uS hn).mpr ((jY b).mp hc).2) (Hu hw)
   have As : ∀ q ∈ ps, q < W.length := λ q hq => by have := hw.lt q hq; rwa [iN] at this
   have hin : ∀ q ∈ ps, ∀ j, j < 5 → (ms.getD (W.getD q 0) 0).testBit j = true → b + (j : Nat) ∈ ks := λ q hq j hj hb =>
    hw.sub q hq _ (rQ (As q hq)) _ (fE.mpr ⟨j, hj, hb, rfl⟩)
   refine hG ⟨E, by rw [hcs], .inl ⟨hcs, kB firsts W ps (cM ks) lo hi, by rw [← BC]; exact s', FP hW As, ?_, y9 h0 h1 hm.lt hin, ?_⟩⟩
   ·have h2 := BD (scope := W) (few := cM ks) (lo := lo) (hi := hi) (λ rs h => (hfg rs h).2) ps
    have : ps.length ≤ W.length := by
     have := cU (m := List.range W.length) hw.nV λ q hq => List.mem_range.mpr (As q hq)
     simpa using this
    lia
   ·refine Eu (b := b) (ks := ks) hn hw.nV As (by rw [hw.len]; lia) λ q hq j hj hb => ?_
    have hqx : W.getD q 0 < es.length := by
     have := As q hq
     rw [hlen]; refine hW _ ?_
     simp [this]
    exact BB he h0 h1 hq hqx rfl hj (λ h => h) hb
  ·have hcs : dW W ms = true := (jY b).mpr ⟨hn, (uS hn).mp (Gh K hf)⟩
   obtain ⟨m', hm', hT, hl', hsub⟩ := JJ he hm hlen hn hW hWl (λ rs h => (hfg rs h).2) hS
   rw [← nK hm hW] at hM
   have hst := Ii hm hm' hn hW hcov hM
   subst hst
   obtain ⟨f1, f2⟩ := HE K hf hn hW
   exact hG ⟨E, by rw [hcs], .inr ⟨hcs, D, ents, s', hm', hT, hS.tr, hc, f1, f2, λ hA => EI hA hS⟩⟩
end
theorem Hh : ∀ l m : List Nat, yC (aK l) (aK m) = decide (l = m) := by
 intro l
 induction l with
 | nil => intro m; cases m <;> rfl
 | cons a l ih =>
  intro m
  cases m with
  | nil => rfl
  | cons c m =>
   show (((a : Int) == (c : Int)) && yC (aK l) (aK m)) = _
   rw [ih, Bool.eq_iff_iff, Bool.and_eq_true, beq_iff_eq, decide_eq_true_iff, decide_eq_true_iff, List.cons.injEq, Int.ofNat_inj]
theorem nT (k : Nat) (l : List Nat) : (aK l).all (okV k) = true := by
 rw [List.all_eq_true]
 intro x hx
 obtain ⟨n, _, rfl⟩ := List.mem_map.mp hx
 cases k <;> rfl
section
variable {σ : St}
theorem uJ {i j : Nat} {l m : List Nat} (h : getL σ i = some (aK l)) (h' : getL σ j = some (aK m)) (hl : l.length ≤ 1000) (hm : m.length ≤ 1000) : iM (.obj i) (.obj j) σ = some (.bool (decide (l ≠ m)), σ) := by
 have e1 : (aK l).length = l.length := by simp [aK]
 have e2 : (aK m).length = m.length := by simp [aK]
 rw [CK h h']
 by_cases hlen : l.length = m.length
 ·rw [if_neg (by rw [e1, e2]; lia)]
  unfold oNe
  rw [C6 h h' (nT 5 l) (nT 5 m), Hh]
  simp
 ·rw [if_pos ⟨by rw [e1, e2]; exact hlen, by lia, by lia⟩]
  have : l ≠ m := by rintro rfl; exact hlen rfl
  simp [this]
theorem Ow {j x : Nat} {l : List V} (h : getL σ j = some l) (hl : l.length ≤ 400) : gX (.obj j) none (some (x : Int)) σ = some (.obj σ.length, σ ++ [.list (l.take x)]) := by
 unfold gX
 simp only [h, Option.bind_some]
 rw [if_pos (by lia)]
 unfold sliceOf
 simp
theorem Lz {j x : Nat} {l : List V} (h : getL σ j = some l) (hl : l.length ≤ 400) : gX (.obj j) (some ((x : Int) + 1)) none σ = some (.obj σ.length, σ ++ [.list (l.drop (x + 1))]) := by
 unfold gX
 simp only [h, Option.bind_some]
 rw [if_pos (by lia)]
 unfold sliceOf
 dsimp only
 rw [if_pos (by lia)]; rfl
theorem N5 {i j : Nat} {l m : List V} (h : getL σ i = some l) (h' : getL σ j = some m) (hl : l.length + m.length ≤ 1000) : eR (.obj i) (.obj j) σ = some (.obj σ.length, σ ++ [.list (l ++ m)]) := by
 show ((getL σ i).bind λ a => (getL σ j).bind λ b => if a.length + b.length ≤ 1000 then some (V.obj σ.length, σ ++ [O.list (a ++ b)]) else none) = _
 rw [h, h']
 exact if_pos hl
theorem splice {lj x : Nat} {l : List V} {w : V} {a0 a1 a3 a4 a5 a7 a8 a9 a10 a12 : Option V} (hl : getL σ lj = some l) (hx : x < l.length) (hlen : l.length ≤ 400) :
  xp (X.bin eR (X.bin eR (X.slice (X.var 2) none (some (X.var 6))) (X.iU (X.aB (X.var 11) X.aH))) (X.slice (X.var 2) (some (X.bin eR (X.var 6) (X.pure (.int 1)))) none))
   [a0, a1, some (.obj lj), a3, a4, a5, some (.int (x : Nat)), a7, a8, a9, a10, some w, a12] σ λ r σ' => ∃ j, A3 (r = .obj j) (getL σ' j = some (l.set x w)) (bW σ σ') := by
 have e1 := Ow (x := x) hl hlen
 have P1 : bW σ (σ ++ [O.list (l.take x)]) := .push _
 have g1 := cH (σ := σ) (l := l.take x)
 generalize σ ++ [O.list (l.take x)] = aT at e1 P1 g1
 have P2 : bW aT (aT ++ [O.list [w]]) := .push _
 have ht : (l.take x).length ≤ 400 := Nat.le_trans (List.length_take_le' ..) hlen
 have e3 := N5 (P2.getL g1 id) cH (Nat.add_le_add ht (Nat.le_of_ble_eq_true rfl : 1 ≤ 600))
 have P3 : bW (aT ++ [O.list [w]]) (aT ++ [O.list [w]] ++ [O.list (l.take x ++ [w])]) := .push _
 have g3 := cH (σ := aT ++ [O.list [w]]) (l := l.take x ++ [w])
 have P03 := P1.then (P2.then P3)
 have e2 := mY (ρ := [a0, a1, some (.obj lj), a3, a4, a5, some (.int (x : Nat)), a7, a8, a9, a10, some w, a12]) (f := X.aB (X.var 11) X.aH) (σ := aT) (l := [w]) rfl (Nat.le_of_ble_eq_true rfl)
 generalize aT ++ [O.list [w]] = bH at e2 e3 P03 g3
 clear P2 P3 P1 g1
 generalize bH ++ [O.list (l.take x ++ [w])] = dT at e3 P03 g3
 have e4 := Lz (x := x) (P03.getL hl id) hlen
 have P4 : bW dT (dT ++ [O.list (l.drop (x + 1))]) := .push _
 have e5 := N5 (P4.getL g3 id) cH (by rw [List.length_append, List.length_drop]; exact Nat.add_le_add (Nat.add_le_add ht (Nat.le_of_ble_eq_true rfl : 1 ≤ 1)) (Nat.le_trans (Nat.sub_le _ _) (Nat.le_trans hlen (by decide : 400 ≤ 599))))
 refine ⟨_, _, aQ (aQ (rO rfl rfl e1) e2 e3) (xA rfl rfl e4) e5, _, rfl, cH.trans (congrArg some ?_), P03.then (P4.then (.push _))⟩
 rw [List.set_eq_take_append_cons_drop, if_pos hx, List.append_assoc]; rfl
end
noncomputable def Jj : XS := (XS.seq (XS.ite (X.pQ (X.test (X.bin iM (X.call mR (X.aB (X.var 7) (X.aB (X.var 4) X.aH))) (X.sub (X.var 2) (X.var 6)))) (X.pQ (X.oN (X.test (X.call jI (X.aB (X.var 9) (X.aB (X.var 2) (X.aB (X.var 4) X.aH)))))) X.orZ)) (XS.seq (XS.ret (X.pure (.bool false))) XS.nil) XS.nil) (XS.seq (XS.assign (X.call f0 (X.aB (X.sub (X.var 2) (X.var 6)) (X.aB (X.var 8) (X.aB (X.var 4) X.aH)))) (XA.name 11)) (XS.seq (XS.assign (X.call (bY uV) (X.aB (X.var 3) X.aH)) (XA.name 12)) (XS.seq (XS.assign (X.bin rY (X.sub (X.var 12) (X.var 6)) (X.call f0 (X.aB (X.sub (X.var 12) (X.var 6)) (X.aB (X.var 8) (X.aB (X.var 4) X.aH))))) (XA.item (X.var 12) (X.var 6))) (XS.seq (XS.ite (X.oN (X.test (X.call kL (X.aB (X.var 5) (X.aB (X.var 12) (X.aB (X.var 9) (X.aB (X.var 4) X.aH))))))) (XS.seq (XS.ret (X.pure (.bool false))) XS.nil) XS.nil) (XS.seq (XS.assign (X.bin eR (X.bin eR (X.slice (X.var 2) none (some (X.var 6))) (X.iU (X.aB (X.var 11) X.aH))) (X.slice (X.var 2) (some (X.bin eR (X.var 6) (X.pure (.int 1)))) none)) (XA.name 2)) XS.nil))))))
section
variable {σ : St} {Q : Fl → Loc → St → Prop} {a0 a1 a6 a7 a8 a9 a10 a11 a12 : Option V} {lj ej : Nat} {b : Int} {W m m' es : List Nat} {e : V}
theorem Ko {j : Nat} {l : List V} (h : getL σ j = some l) (hl : l.length ≤ 1000) : uV (.obj j) σ = some (.obj σ.length, σ ++ [.list l]) := by
 unfold uV
 simp only [h, Option.bind_some]
 rw [if_pos (Nat.le_trans hl (by decide))]
theorem GH (hl : getL σ lj = some (aK m)) (he : getL σ ej = some (aK es)) (hS : AT b W es m m' e) (hlen : es.length = m.length) (hml : m.length ≤ 10) (hes : ∀ x ∈ es, x < 32) (hW : ∀ x ∈ W, x < m.length) (hWl : W.length ≤ 6) (hb1 : -20 ≤ b) (hb2 : b ≤ 20)
  (hQ : ∀ σ' ML a6 a7 a8 a9 a10 a11 a12, bW σ σ' → getL σ' ML = some (aK m') → Q .next [a0, a1, some (.obj ML), some (.obj ej), some (.int b), some (.tup (aK W)), a6, a7, a8, a9, a10, a11, a12] σ') :
  ap (XA.tup [XA.name 6, XA.name 7, XA.name 8, XA.name 9, XA.name 10]) e [a0, a1, some (.obj lj), some (.obj ej), some (.int b), some (.tup (aK W)), a6, a7, a8, a9, a10, a11, a12] σ λ Cq aT => sp Jj Cq aT Q := by
 refine byC λ hG => ?_
 obtain ⟨x, old, v, lits, rfl, hxm, hd, Md, hok, hn, hst, II, rfl⟩ := hS
 have hm1 := Nat.le_trans hml (by decide : 10 ≤ 1000)
 have hm2 := Nat.le_trans hml (by decide : 10 ≤ 100)
 have hxe : x < es.length := hlen ▸ hxm
 have O9 : es.getD x 0 < 32 := by rw [List.getD_eq_getElem?_getD, List.getElem?_eq_getElem hxe]; exact hes _ (List.getElem_mem hxe)
 obtain ⟨_, aT, e1, rfl, E1⟩ := DS (σ := σ) hd Md hb1 hb2
 have hl1 := E1.getL hl id
 have g1 := gZ hl1 hxm hm1
 have n1 := Np (σ := aT) (a := (m.getD x 0 : Nat)) rfl
 obtain ⟨_, bH, e2, rfl, E2⟩ := zA (b := b) hl1 hm2 hok hn
 rw [hst] at e2
 have hl2 := E2.getL hl1 id
 have g2 := gZ hl2 hxm hm1
 obtain ⟨_, dT, e3, rfl, E3⟩ := rG (σ := bH) (m := m.getD x 0) (sg := 51) (x := x) (kk := v) (b := b) (.inr (.inr rfl))
 have E03 := (E1.then E2).then E3
 have he3 := E03.getL he id
 have hgl := Ko he3 (by unfold aK; rw [List.length_map, hlen]; exact hm1)
 have P4 : bW dT (dT ++ [O.list (aK es)]) := .push _
 have g4 : getL (dT ++ [O.list (aK es)]) dT.length = some (aK es) := cH
 have g4x := gZ g4 hxe (hlen ▸ hm1)
 have E04 := E03.then P4
 have h03 := E03.1
 generalize dT ++ [O.list (aK es)] = k8 at hgl g4 g4x E04
 generalize dT.length = rj at hgl g4 g4x h03
 obtain ⟨_, pM, e5, rfl, E5⟩ := rG (σ := k8) (m := es.getD x 0) (sg := 51) (x := x) (kk := v) (b := b) (.inr (.inr rfl))
 have g5 := E5.getL g4 id
 have hsub : rY (.int (es.getD x 0 : Nat)) (.int (dI b (es.getD x 0) 51 v : Nat)) pM = some (.int ((es.getD x 0 - dI b (es.getD x 0) 51 v : Nat) : Int), pM) := congrArg (λ z => some (V.int z, pM)) (Int.ofNat_sub (J2 O9)).symm
 have hil : (aK es).length = es.length := List.length_map _
 have i5 := vO (v := .int ((es.getD x 0 - dI b (es.getD x 0) 51 v : Nat) : Int)) g5 (Int.natCast_nonneg x) (Int.ofNat_lt.mpr (Nat.lt_of_lt_of_le hxm (Nat.le_trans hml (by decide : 10 ≤ 100000)))) (by rw [hil]; exact hxe)
 have ID : (aK es).set (x : Int).toNat (.int ((es.getD x 0 - dI b (es.getD x 0) 51 v : Nat) : Int)) = aK (es.set x (es.getD x 0 - dI b (es.getD x 0) 51 v)) := by
  unfold aK; rw [List.map_set]; rfl
 rw [ID] at i5
 have g6 := c8 (l := aK (es.set x (es.getD x 0 - dI b (es.getD x 0) 51 v))) (bE g5)
 have E06 : bW σ (pM.set rj (.list (aK (es.set x (es.getD x 0 - dI b (es.getD x 0) 51 v))))) := (E04.then E5).trans (M' := λ z => z = rj) (.set _ rfl) (λ z h => .inr (h ▸ h03))
 generalize pM.set rj (.list (aK (es.set x (es.getD x 0 - dI b (es.getD x 0) 51 v)))) = oG at i5 g6 E06
 have hsl : (es.set x (es.getD x 0 - dI b (es.getD x 0) 51 v)).length = m.length := (List.length_set ..).trans hlen
 obtain ⟨_, EF, e7, rfl, E7⟩ := Ck (b := b) g6 (by rw [hsl]; exact hm2) (by rw [hsl]; exact hok) hn (by rw [hsl]; exact hW) hWl
 rw [II] at e7
 have E07 := E06.then E7
 have NK : (aK m).length = m.length := List.length_map _
 obtain ⟨_, Op, e8, ML, rfl, g8, E8⟩ := splice (w := .int (dI b (m.getD x 0) 51 v : Nat)) (a0 := a0) (a1 := a1) (a3 := some (.obj ej)) (a4 := some (.int b)) (a5 := some (.tup (aK W))) (a7 := some (dv old)) (a8 := some (tB (x, 51, v))) (a9 := some (.tup (lits.map tB))) (a10 := some (.int (-1))) (a12 := some (.obj rj)) (E07.getL hl id) (x := x) (by rw [NK]; exact hxm) (by rw [NK]; exact Nat.le_trans hml (by decide))
 have hms : (aK m).set x (.int (dI b (m.getD x 0) 51 v : Nat)) = aK (m.set x (dI b (m.getD x 0) 51 v)) := by
  unfold aK; rw [List.map_set]
 rw [hms] at g8
 exact hG ⟨_, _, rfl, c6 (gB (aP (aQ (aN rfl e1) (bO rfl rfl g1) n1)) (gB (kT (aP (aN rfl e2))) rfl)) (fY (aN (aI (bO rfl rfl g2) rfl) e3) rfl (fY (aN rfl hgl) rfl (fY (aQ (bO rfl rfl g4x) (aN (aI (bO rfl rfl g4x) rfl) e5) hsub) (Gw rfl rfl i5) (c6 (kT (aP (aN rfl e7))) (fY e8 rfl (dJ (hQ Op ML _ _ _ _ _ _ _ (E07.then E8) g8)))))))⟩
end
inductive N9 (st mk : V) (ej : Nat) (b : Int) (W es m' : List Nat) (ents : List V) (n : Nat) (σ : St) (k : Nat) (ρ : Loc) (σ' : St) (lj : Nat) (m : List Nat) : Prop
 | intro (E : bW σ σ') (r : E7 λ a6 a7 a8 a9 a10 a11 a12 => ρ = [some st, some mk, some (.obj lj), some (.obj ej), some (.int b), some (.tup (aK W)), a6, a7, a8, a9, a10, a11, a12]) (g : getL σ' lj = some (aK m)) (n : m.length = n) (T : Told b W es m (ents.drop k) m')
theorem Told.len {b : Int} {W es m m' : List Nat} {l : List V} (h : Told b W es m l m') : m'.length = m.length := by
 induction h with
 | nil => rfl
 | cons s _ ih =>
  obtain ⟨x, old, v, lits, _, _, _, _, _, _, _, _, rfl⟩ := s
  exact ih.trans (List.length_set ..)
section
variable {σ : St} {i a f t mk nw lj ej : Nat} {b : Int} {W ms m' es : List Nat} {D firsts : List (List (Int × Int))} {trail ents marks clash : List V} {failed : Bool}
theorem BG (s : SV σ i a f t mk nw D firsts (trail ++ ents) marks failed clash) (hT : Told b W es ms ents m') (hD : eB b D m') (hl : getL σ lj = some (aK ms)) (he : getL σ ej = some (aK es)) (hlen : es.length = ms.length) (hml : ms.length ≤ 10)
  (hes : ∀ x ∈ es, x < 32) (hW : ∀ x ∈ W, x < ms.length) (hWl : W.length ≤ 6) (hb1 : -20 ≤ b) (hb2 : b ≤ 20) (hen : ents.length ≤ 900) (htr : (trail ++ ents).length ≤ 1000)
  (hf : failed = true → ∃ lits, A5 (clash = lits.map tB) (∀ z ∈ lits, Co ms.length z) (lits.length ≤ 900) (stood b m' lits = true) (dW W (r0 b es lits) = false)) :
  wp (gH [.inst 0 i, .int (trail.length : Nat), .obj lj, .obj ej, .int b, .tup (aK W)] σ) λ r σ' => r = .bool true ∧ bW σ σ' := by
 refine byC λ hG => ?_
 have hml' := hT.len
 have hm1 := Nat.le_trans hml (by decide : 10 ≤ 1000)
 have hm2 := Nat.le_trans hml (by decide : 10 ≤ 100)
 have A1 : gX (.obj t) (some (trail.length : Int)) none σ = some (.obj σ.length, σ ++ [.list ents]) := by
  unfold gX
  simp only [s.ht, Option.bind_some]
  rw [if_pos htr]
  unfold sliceOf
  dsimp only
  rw [if_pos (Int.natCast_nonneg _), Int.toNat_natCast, List.drop_left]; rfl
 have P1 : bW σ (σ ++ [O.list ents]) := .push _
 have g1 : getL (σ ++ [O.list ents]) σ.length = some ents := cH
 have hl1 := P1.getL hl id
 have he1 := P1.getL he id
 have s1 := s.d5 P1
 have E1 := xA (f := X.attr 0 17 (X.var 0)) (g := X.var 1) (ρ := [some (.inst 0 i), some (.int (trail.length : Nat)), some (.obj lj), some (.obj ej), some (.int b), some (.tup (aK W)), none, none, none, none, none, none, none]) (bQ rfl (bC (n := 17) s.hs rfl)) rfl A1
 generalize σ ++ [O.list ents] = aT at P1 g1 hl1 he1 s1 E1
 generalize σ.length = tj at g1 E1
 refine hG (wp_runF rfl (JS ents (λ k ρ σ' => E2 (N9 (.inst 0 i) (.int (trail.length : Nat)) ej b W es m' ents ms.length aT k ρ σ')) E1 ⟨lj, ms, .refl, ⟨_, _, _, _, _, _, _, rfl⟩, hl1, rfl, hT⟩ (Nat.lt_of_le_of_lt hen (by decide)) ?_ ?_ ?_))
 ·rintro k ρ σ' ⟨lj, m, E, _⟩ hk
  exact Src.list g1 σ' E k hk
 ·rintro k e ρ bH he' ⟨lj, m, E, ⟨a6, a7, a8, a9, a10, a11, a12, rfl⟩, hL, hn, hTk⟩
  obtain ⟨hk, hek⟩ := List.getElem?_eq_some_iff.mp he'
  rw [List.drop_eq_getElem_cons hk, hek] at hTk
  cases hTk with
  | cons hS hTk =>
   rename_i m1
   have hn1 : m1.length = m.length := by
    obtain ⟨x, old, v, lits, _, _, _, _, _, _, _, _, rfl⟩ := hS
    exact List.length_set ..
   have := λ Q' => GH (Q := Q') (a0 := some (.inst 0 i)) (a1 := some (.int (trail.length : Nat))) (a6 := a6) (a7 := a7) (a8 := a8) (a9 := a9) (a10 := a10) (a11 := a11) (a12 := a12) hL (E.getL he1 id) hS (hlen.trans hn.symm) (hn ▸ hml) hes (by rw [hn]; exact hW) hWl hb1 hb2
   obtain ⟨o8, dT, e3, _⟩ := this (λ _ _ _ => True) λ _ _ _ _ _ _ _ _ _ _ _ => trivial
   refine ⟨o8, dT, e3, λ Q' hn' _ => ?_⟩
   obtain ⟨Oq, k8, e4, k4⟩ := this Q' λ σ' ML _ _ _ _ _ _ _ E3 hL3 => hn' _ _ ⟨ML, m1, E.then E3, ⟨_, _, _, _, _, _, _, rfl⟩, hL3, hn1.trans hn, hTk⟩
   rw [e3] at e4
   cases e4
   exact k4
 ·rintro ρ bH ⟨lj, m, E, ⟨a6, a7, a8, a9, a10, a11, a12, rfl⟩, hL, hn, hTk⟩
  refine byC λ hG => ?_
  rw [List.drop_length] at hTk
  cases hTk
  have s2 := s1.d5 E
  have h1 : m'.length ≤ 1000 := hn ▸ hm1
  have h2 : m'.length ≤ 100 := hn ▸ hm2
  obtain ⟨_, dT, e3, nj, rfl, _, hN, E3⟩ := lO s2 hD h2 hb1 hb2
  have hL3 := E3.getL hL id
  have n1 := uJ hL3 hN h1 h1
  rw [decide_eq_false (λ h => h rfl)] at n1
  have s3 := s2.d5 E3
  have he3 := (E.then E3).getL he1 id
  have E03 := (P1.then E).then E3
  have a3 := bC (c := 0) (n := 13) s3.hs rfl
  have Qs := bC (c := 0) (n := 12) s3.hs rfl
  cases failed with
  | false => exact hG (c6 (aP (aQ rfl (aN rfl e3) n1)) (zQ (kT (aP (bQ rfl a3))) rfl ⟨rfl, E03⟩))
  | true =>
   obtain ⟨lits, rfl, hok, hln, hst, II⟩ := hf rfl
   obtain ⟨_, k8, e4, rfl, E4⟩ := zA (b := b) hL3 h2 (by rw [hn]; exact hok) hln
   have s4 := s3.d5 E4
   have Qr := bC (c := 0) (n := 12) s4.hs rfl
   obtain ⟨_, pM, e5, rfl, E5⟩ := Ck (b := b) (E4.getL he3 id) (by rw [hlen]; exact hm2) (by rw [hlen]; exact hok) hln (by rw [hlen]; exact hW) hWl
   rw [hst] at e4
   rw [II] at e5
   exact hG (c6 (aP (aQ rfl (aN rfl e3) n1)) (c6 (kT (aP (bQ rfl a3))) (lW (IY (aN (aI (bQ rfl Qs) rfl) e4) (aN (aI rfl (aI rfl (aI (bQ rfl Qr) rfl))) e5)) ⟨rfl, (E03.then E4).then E5⟩)))
end
theorem eB.snoc {b : Int} {doms : List (List (Int × Int))} {ms : List Nat} {rs : List (Int × Int)} {m : Nat} (h : eB b doms ms) (hd : kN b rs m) (hm : m < 32) : eB b (doms ++ [rs]) (ms ++ [m]) := by
 have hl := h.len
 refine ⟨by simp [hl], λ x r n hr hn => ?_, λ n hn => ?_⟩
 ·by_cases hx : x < doms.length
  ·rw [List.getElem?_append_left hx] at hr
   rw [List.getElem?_append_left (by lia)] at hn
   exact h.at_ x r n hr hn
  ·have hx2 : x = doms.length := by
    have := (List.getElem?_eq_some_iff.mp hr).1
    simp at this; lia
   subst hx2
   rw [List.getElem?_concat_length] at hr
   rw [hl, List.getElem?_concat_length] at hn
   cases hr; cases hn; exact hd
 ·rcases List.mem_append.mp hn with h' | h'
  ·exact h.lt n h'
  ·simp only [List.mem_singleton] at h'; subst h'; exact hm
section
variable {σ : St} {i a f t mk nw : Nat} {doms firsts : List (List (Int × Int))} {trail marks clash : List V} {failed : Bool} {b : Int} {m : Nat}
theorem B5 (s : SV σ i a f t mk nw doms firsts trail marks failed clash) (hm : m < 32) (h0 : m ≠ 0) (hb1 : -20 ≤ b) (hb2 : b ≤ 20) (h1 : doms.length ≤ 100) (h2 : firsts.length ≤ 100) :
  wp (gD [.int (m : Nat), .int b] σ) λ rv aT => wp (fB [.inst 0 i, rv] aT) λ r bH => XS.isRef r = false ∧ ∃ rs, A3 (SV bH i a f t mk nw (doms ++ [rs]) (firsts ++ [rs]) trail marks failed clash) (kN b rs m) (Ext (λ j => j = a ∨ j = f) σ bH) := by
 refine wp_mono (Dy hm hb1 hb2) ?_
 rintro _ aT ⟨rs, rfl, hd, E1⟩
 have hne : rs ≠ [] := by
  rintro rfl
  have := Hv (b := b) hm h0
  rw [← hd.vals] at this
  exact this rfl
 refine wp_mono (CO (s.d5 E1) hne h1 h2) ?_
 rintro _ bH ⟨⟨x, rfl⟩, s2, E2⟩
 exact ⟨rfl, rs, s2, hd, (Ext.of0 E1).then E2⟩
end
noncomputable def Lr (PX : Option V → Loc) (σ : St) (i a f t mk nw : Nat) (b : Int) (ms : List Nat) (k : Nat) (ρ : Loc) (σ' : St) : Prop := A3 (Ext (λ j => j = a ∨ j = f) σ σ') (∃ v, ρ = PX v) (∃ doms, SV σ' i a f t mk nw doms doms [] [] false [] ∧ eB b doms (ms.take k))
noncomputable def Jx (σ σ' : St) (i a f t mk nw : Nat) (b : Int) (n : Nat) (doms firsts : List (List (Int × Int))) (trail marks : List V) : Prop := Ext (λ z => z = i ∨ z = a ∨ z = t ∨ z = nw) σ σ' ∧ E5 λ D ents rL failed f3 => A7 (SV σ' i a f t mk nw D firsts (trail ++ ents) marks failed f3) (eB b D rL) (rL.length = n) (∀ m ∈ rL, m ≠ 0) (Tr doms ents D) (ents.length ≤ 50) (failed = false → f3 = [])
theorem lS {W ms : List Nat} : (iJ W ms).length = ms.length := by simp [iJ]
theorem FJ {σ : St} {c : Bool} : jD (.bool c) (.bool c) σ = some (.bool false, σ) := by cases c <;> rfl
section
variable {σ : St} {i a f t mk nw r ej : Nat} {b : Int} {W ms es : List Nat} {doms firsts : List (List (Int × Int))} {trail marks : List V}
theorem G3 {z i a f t mk nw : Nat} (h : z = i ∨ z = a ∨ z = t ∨ z = nw) : z ∈ [i, a, f, t, mk, nw] := by
 rcases h with rfl | rfl | rfl | rfl <;> simp
theorem zS (s : SV σ i a f t mk nw doms firsts trail marks false []) (hm : eB b doms ms) (he : eB b firsts es) (hlen : es.length = ms.length) (hne : ∀ m ∈ ms, m ≠ 0) (hr : bV σ r = some (ad W)) (hri : r ≠ i) (hej : getL σ ej = some (aK es)) (hea : ej ≠ a) (het : ej ≠ t)
  (hW : ∀ x ∈ W, x < ms.length) (hcov : ∀ x, x < ms.length → x ∈ W) (hWl : W.length ≤ 6) (hml : ms.length ≤ 10) (hb1 : -20 ≤ b) (hb2 : b ≤ 20) (b5 : trail.length ≤ 800) :
  wp (d8 [.inst 0 i, .inst 2 r, .obj ej, .int b, .tup (aK W)] σ) λ v σ' => v = .bool true ∧ Jx σ σ' i a f t mk nw b ms.length doms firsts trail marks := by
 refine byC λ hG => ?_
 have tF : ms.length ≤ 100 := Nat.le_trans hml (by decide)
 have NF := s.lt
 obtain ⟨_, aT, e1, lj, rfl, hlj, hl, E1⟩ := lO s hm tF hb1 hb2
 have s1 := s.d5 E1
 have h01 := E1.1
 have el := jW s1.ht (Nat.le_trans b5 (by decide))
 obtain ⟨_, bH, e2, i', a', f', t', mk', Bq, rfl, hi', hz', s2', E2⟩ := y8 (σ := aT)
 have hl2 := E2.getL hl λ z => z
 have hnew : ∀ z ∈ [i', a', f', t', mk', Bq], σ.length ≤ z := by
  intro z hz
  rcases List.mem_cons.mp hz with rfl | hz
  ·exact Nat.le_trans h01 hi'
  ·exact Nat.le_trans h01 (hz' z hz)
 have apart : ∀ z z', z ∈ [i, a, f, t, mk, nw] → z' ∈ [i', a', f', t', mk', Bq] → z ≠ z' := λ z z' h h' e => Nat.lt_irrefl _ (Nat.lt_of_lt_of_le (e ▸ NF z h) (hnew z' h'))
 have Me : ∀ z' ∈ [i', a', f', t', mk', Bq], lj ≠ z' := λ z' h' e => by
  have h1 := bE hl
  rcases List.mem_cons.mp h' with h | h
  ·exact Nat.lt_irrefl _ (Nat.lt_of_lt_of_le h1 (by rw [e, h]; exact hi'))
  ·exact Nat.lt_irrefl _ (Nat.lt_of_lt_of_le h1 (by rw [e]; exact hz' z' h))
 have hil : (aK ms).length = ms.length := List.length_map _
 refine hG (wp_runF rfl (fY (k5 (aI (aN (F := d6) (aT := σ) rfl e1) (aI (aN (aI (bC (c := 0) (n := 17) s1.hs rfl) rfl) el) rfl)) (Nat.le_of_ble_eq_true rfl)) rfl ?_))
 clear hG
 refine fY (aN rfl e2) rfl ?_
 refine JS (aK ms) (Lr (λ v => [some (.inst 0 i), some (.inst 2 r), some (.obj ej), some (.int b), some (.tup (aK W)), some (.obj lj), some (.int (trail.length : Nat)), some (.inst 0 i'), v, none, none]) bH i' a' f' t' mk' Bq b ms) (v := .obj lj) (aT := bH) rfl ⟨.refl, ⟨_, rfl⟩, [], s2', ⟨rfl, λ x r n h => by simp at h, by simp⟩⟩ (by rw [hil]; lia) ?_ ?_ ?_
 ·rintro k ρ σ' ⟨E, _⟩ hk
  exact Src.list (E.getL hl2 λ h => h.elim (Me a' (by simp)) (Me f' (by simp))) σ' .refl k hk
 ·rintro k vv ρ dT hv ⟨E, ⟨v, rfl⟩, Jc, s3, hm3⟩
  rw [aK, List.getElem?_map] at hv
  obtain ⟨m, hm', rfl⟩ := Option.map_eq_some_iff.mp hv
  have hmm := List.mem_of_getElem? hm'
  obtain ⟨hk, hk2⟩ := List.getElem?_eq_some_iff.mp hm'
  have hdl := hm3.len
  rw [List.length_take] at hdl
  obtain ⟨rv, k8, e4, rr, pM, e5, hrr, rs, s5, hd5, E5⟩ := B5 s3 (hm.lt m hmm) (hne m hmm) hb1 hb2 (by lia) (by lia)
  refine ⟨_, _, rfl, λ Q' hn _ => jO (dC rfl (s3.inst (k := 89) rfl) (aI (aN rfl e4) rfl) e5) hrr (dJ (hn _ _ ⟨E.then E5, ⟨_, rfl⟩, _, s5, ?_⟩))⟩
  rw [List.take_succ_eq_append_getElem hk, hk2]
  exact hm3.snoc hd5 (hm.lt m hmm)
 rintro ρ dT ⟨E3, ⟨v, rfl⟩, Jc, s3', hm3⟩
 rw [hil, List.take_length] at hm3
 refine byC λ hG => ?_
 have E13 : bW aT dT := E2.trans E3 λ z h => .inr (h.elim (λ e => e ▸ hz' a' (by simp)) λ e => e ▸ hz' f' (by simp))
 have E03 := E1.then E13
 have hl3 := E13.getL hl λ z => z
 obtain ⟨_, k8, e4, rfl, E4⟩ := o0 (σ := dT) (pv := .tup (aK W)) Seq.tup hl3 hW hWl tF
 have E04 := E03.then E4
 have s4 := s.d5 E04
 have r4 := E04.bV hr λ z => z
 obtain ⟨_, pM, e5, E5, rfl, h5⟩ := v8 s4 hm he hlen hne r4 hri hW hcov hWl hml (Nat.le_trans b5 (by decide))
 have s5' := (s3'.d5 E4).ext E5 λ z hz h => apart z z (G3 h) hz rfl
 obtain ⟨_, oG, e6, r', rfl, OS, r6, E6⟩ := BJ (σ := pM) (W := W) (Nat.le_trans hWl (by decide))
 have P6 := s5'.d5 E6
 obtain ⟨_, EF, e7, E7, rfl, h7⟩ := v8 P6 hm3 hm3 rfl hne r6 (λ e => Nat.lt_irrefl _ (Nat.lt_of_lt_of_le (s5'.lt i' (by simp)) (e ▸ OS))) hW hcov hWl hml (Nat.zero_le _)
 have E05 : Ext (λ z => z = i ∨ z = a ∨ z = t ∨ z = nw) σ pM := E04.of0.then E5
 have E07 : Ext (λ z => z = i ∨ z = a ∨ z = t ∨ z = nw) σ EF := (E05.wP E6).trans E7 λ z h => .inr (hnew z (G3 h))
 have hl7 : getL EF lj = some (aK ms) := E7.getL (E6.getL (E5.getL (E4.getL hl3 λ z => z) λ h => Nat.lt_irrefl _ (Nat.lt_of_lt_of_le (NF lj (G3 h)) hlj)) λ z => z) λ h => Me lj (G3 h) rfl
 obtain ⟨nl, hnl, _⟩ := s.hn
 have Km : getL EF ej = some (aK es) := E07.getL hej λ h => h.elim (λ h => f8 s.hs hej h.symm) λ h => h.elim hea λ h => h.elim het λ h => by
  have := j5 hej; rw [h, lH hnl] at this; cases this
 have OQ : bV EF r = some (ad W) := E07.bV hr λ h => h.elim hri λ h => h.elim (f8 hr s.hd) λ h => h.elim (f8 hr s.ht) (DR hr hnl)
 have NC : ∀ z ∈ [i, a, f, t, mk, nw], ¬ (z = i' ∨ z = a' ∨ z = t' ∨ z = Bq) := λ z hz h => apart z z hz (G3 h) rfl
 refine hG (fY (aN rfl e4) rfl ?_)
 clear hG
 refine c6 (gB (aP (aQ (dC rfl (gC (n := 86) r4 rfl) rfl e5) rfl FJ)) (gB (aP (aQ (dC (aN rfl e6) (gC (n := 86) r6 rfl) rfl e7) rfl FJ)) rfl)) ?_
 refine byC λ hG => ?_
 rcases h5 with ⟨hc, lits, s5, hok, hln, hst, II⟩ | ⟨hc, D, ents, s5, hmD, hT, hTr, hel, hc2, hA, _⟩
 ·have s7 := (s5.d5 E6).ext E7 NC
  obtain ⟨_, Op, e8, rfl, E8⟩ := BG (ents := []) (by rw [List.append_nil]; exact s7) Told.nil hm hl7 Km hlen hml he.lt hW hWl hb1 hb2 (Nat.zero_le _) (by rw [List.append_nil]; exact Nat.le_trans b5 (by decide)) λ _ => ⟨lits, rfl, hok, hln, hst, II⟩
  rw [hc] at hG
  refine hG ?_
  refine c6 (gB (aP (aQ (bC (c := 0) (n := 13) s7.hs rfl) rfl rfl)) (gB (kT (aP (aN rfl e8))) rfl)) (zQ rfl rfl ⟨rfl, E07.wP E8, doms, [], ms, true, lits.map tB, ?_, hm, rfl, hne, .nil, Nat.zero_le _, λ h => by cases h⟩)
  rw [List.append_nil]; exact s7.d5 E8
 ·have s7 := (s5.d5 E6).ext E7 NC
  rcases h7 with ⟨hc', _⟩ | ⟨_, D', ents', P5, OZ, _⟩
  ·rw [hc] at hc'; cases hc'
  have htl : (trail ++ ents).length ≤ 850 := by rw [List.length_append]; lia
  obtain ⟨_, Op, e8, rfl, E8⟩ := BG s7 hT hmD hl7 Km hlen hml he.lt hW hWl hb1 hb2 (Nat.le_trans hel (by decide)) (Nat.le_trans htl (by decide)) λ h => by cases h
  have s8 := s7.d5 E8
  have hsl : (iJ W ms).length ≤ 100 := by rw [lS]; exact tF
  have Ki := Nat.le_trans hsl (show 100 ≤ 1000 by decide)
  obtain ⟨_, σ9, e9, nj, rfl, _, hN, E9⟩ := lO s8 hmD hsl hb1 hb2
  obtain ⟨_, σ10, e10, sj, rfl, _, hS, E10⟩ := Cv (E9.getL (E8.getL hl7 λ z => z) λ z => z) hW hWl tF
  obtain ⟨_, σ11, Qk, fj, rfl, _, hF, E11⟩ := lO (((P5.d5 E8).d5 E9).d5 E10) OZ hsl hb1 hb2
  have NT := E10.getL hN λ z => z
  have E8B := ((E8.then E9).then E10).then E11
  have OA := s7.d5 E8B
  have r11 := E8B.bV OQ λ z => z
  have n1 := uJ NT hS Ki Ki
  have n2 := uJ hF (E11.getL NT λ z => z) Ki Ki
  rw [decide_eq_false (λ h => h rfl)] at n1 n2
  have ND : ∀ m ∈ iJ W ms, m ≠ 0 := by
   intro m hm'
   obtain ⟨x, hx⟩ := List.getElem?_of_mem hm'
   have hxl := (List.getElem?_eq_some_iff.mp hx).1
   have := Hm hc2 (hcov x (by rw [← lS (W := W)]; exact hxl))
   rw [List.getD_eq_getElem?_getD, hx] at this
   exact this
  obtain ⟨_, σ12, PW, E12, rfl, h12⟩ := v8 OA hmD he (by rw [lS]; exact hlen) ND r11 hri (by rw [lS]; exact hW) (by rw [lS]; exact hcov) hWl (by rw [lS]; exact hml) (Nat.le_trans htl (by decide))
  rcases h12 with ⟨hc', _⟩ | ⟨_, D2, ents2, s12, hmD2, _, Pg, _, hc3, _, hnil⟩
  ·rw [hc2] at hc'; cases hc'
  have hen := hnil hA
  subst hen
  have hD2 := Pg.nil_eq
  subst hD2
  rw [List.append_nil] at s12
  rw [hc2] at PW
  rw [hc] at hG
  refine hG ?_
  refine c6 (gB (aP (aQ (bC (c := 0) (n := 13) s7.hs rfl) rfl rfl)) (gB (kT (aP (aN rfl e8))) rfl)) (c6 rfl (fY (aN rfl e9) rfl ?_))
  refine c6 (gB (aP (aQ rfl (aN rfl e10) n1)) (gB (aP (aQ (aN rfl Qk) rfl n2)) rfl)) ?_
  refine fY (aN (aI (bC (c := 0) (n := 17) OA.hs rfl) rfl) (jW OA.ht (Nat.le_trans htl (by decide)))) rfl ?_
  refine lW (IY (dC rfl (gC (n := 86) r11 rfl) rfl PW) (aQ (aN (aI (bC (c := 0) (n := 17) s12.hs rfl) rfl) (jW s12.ht (Nat.le_trans htl (by decide)))) rfl eq_int)) ⟨?_, (E07.wP E8B).then E12, D2, ents, iJ W ms, false, [], s12, hmD, lS, ND, hTr, hel, λ _ => rfl⟩
  rw [decide_eq_true rfl]
end
section
variable {ρ : Loc} {σ σ' : St} {p c : Nat} {M : Nat → Prop}
theorem o6.ext (h : o6 σ p c) (E : Ext M σ σ') (h1 : ¬ M p) (h2 : ¬ M c) : o6 σ' p c := by
 obtain ⟨spot, mixed, cells, P⟩ := h
 exact ⟨spot, mixed, cells, E.bV P.pen h1, P.ne, E.getL P.list h2, P.KI, P.LW, P.LV, P.nonneg, P.len⟩
theorem o6.lt (h : o6 σ p c) : p < σ.length ∧ c < σ.length := by
 obtain ⟨spot, mixed, cells, P⟩ := h
 exact ⟨fL P.pen, bE P.list⟩
inductive Oa (p c : Nat) (lo hi : Int) (a : XA) (e : X V) (L : Loc → Prop) (w : V) (ρ : Loc) (σ : St) : Prop
 | mk {o8 : Loc} {bH : St} {y : Int} (h1 : a w ρ σ = some (o8, σ)) (hL : L o8) (h2 : e o8 σ = some (.int y, bH)) (hp : o6 bH p c) (E : Ext (λ z => z = p) σ bH) (lo : lo ≤ y) (hi : y < hi)
structure Ju (p c : Nat) (lo hi : Int) (L : Loc → Prop) (aT : St) (k : Nat) (ρ : Loc) (σ : St) (ys : List Int) : Prop where
 l : L ρ
 E : Ext (λ z => z = p) aT σ
 pen : o6 σ p c
 n : ys.length = k
 bd : ∀ y ∈ ys, lo ≤ y ∧ y < hi
 g : getL σ aT.length = some (ys.map .int)
theorem Cf {aT : St} {v : V} (L : Loc → Prop) {locs : List Nat} {f : X V} {a : XA} {e : X V} {fuel : Nat} (lo hi : Int) (l : List V) (hL : L (Ln locs ρ)) (h : f ρ σ = some (v, aT)) (hp : o6 aT p c) (h1 : l.length < fuel) (h2 : l.length ≤ 1000) (hs : FN v l)
  (step : ∀ x cJ σ', x ∈ l → L cJ → o6 σ' p c → Oa p c lo hi a e L x cJ σ') : E2 λ σ' ys => X.f9 locs f a none e fuel ρ σ = some (.obj aT.length, σ') ∧ ∃ cJ, Ju p c lo hi L aT l.length cJ σ' ys := by
 obtain ⟨q1, q2⟩ := hp.lt
 have : xp (X.f9 locs f a none e fuel) ρ σ λ r σ' => r = .obj aT.length ∧ E2 λ cJ ys => Ju p c lo hi L aT l.length cJ σ' ys := by
  refine tR ⟨v, aT, h, l, λ k cJ σ' => ∃ ys, Ju p c lo hi L aT k cJ σ' ys, ⟨[], hL, .push _, hp.ext (M := λ _ => False) (.push _) id id, rfl, (λ _ h => (List.not_mem_nil h).elim), cH⟩, h1, hs aT 0 (Nat.zero_le _), λ k ρ σ _ hk => hs σ k hk, λ k x ρ σ hx ⟨ys, I⟩ => ?_, λ ρ σ' ⟨ys, I⟩ => ⟨rfl, ρ, ys, I⟩⟩
  have hk := (List.getElem?_eq_some_iff.mp hx).1
  obtain ⟨g1, gL, g2, gp, E, hlo, hhi⟩ := step x ρ σ (List.mem_of_getElem? hx) I.l I.pen
  rename_i o8 dT y
  have g3 := E.getL I.g (Nat.ne_of_gt q1)
  have hE : Ext (λ z => z = aT.length) dT (dT.set aT.length (.list (ys.map V.int ++ [.int y]))) := .set _ rfl
  refine ⟨o8, σ, g1, true, _, rfl, CP ⟨_, _, g2, _, g3, ?_, ys ++ [y], gL, (I.E.then E).trans hE (λ z h => .inr (h ▸ Nat.le_refl _)), gp.ext hE (Nat.ne_of_lt q1) (Nat.ne_of_lt q2), ?_, λ y' hy' => ?_, ?_⟩⟩
  ·rw [List.length_map, I.n]; exact Nat.le_trans (Nat.le_of_lt hk) (Nat.le_trans h2 (by decide))
  ·rw [List.length_append, I.n]; rfl
  ·rcases List.mem_append.mp hy' with h | h
   ·exact I.bd y' h
   ·cases List.mem_singleton.mp h; exact ⟨hlo, hhi⟩
  ·rw [c8 (bE g3), List.map_append]; rfl
 obtain ⟨_, σ', e, rfl, cJ, ys, I⟩ := this
 exact ⟨σ', ys, e, cJ, I⟩
noncomputable def UnL (xs : List Int) (ρ : Loc) : Prop := E2 λ x y => ρ = [some (.tup (xs.map .int)), x, y]
noncomputable def Pm (xs : List Int) (k : Nat) (ρ : Loc) : Prop := ∃ y, ρ = [some (.tup (xs.map .int)), some (.int (k : Nat)), y]
theorem DB {l : List Int} {x : Nat} (h : x < l.length) (h1 : x < 1000000) : pick (l.map .int) (x : Int) = some (.int (l.getD x 0)) := by
 rw [iK (by simpa using h) h1]
 simp [h]
theorem qI {i j : Nat} {l : List V} (h : getL σ i = some l) (ho : l.all (okV 5) = true) (h' : getL σ j = some []) : oEq (.obj i) (.obj j) σ = some (.bool l.isEmpty, σ) := by
 unfold oEq
 rw [C6 h h' ho rfl]
 cases l <;> rfl
theorem yU {xs : List Int} {j : Nat} (h : j < xs.length) : xs.getD j 0 = xs[j] := by rw [List.getD_eq_getElem?_getD, List.getElem?_eq_getElem h]; rfl
theorem MJ {t : X Bool} {r : Bool × St} {ρ : Loc} (h : t ρ σ = some r) : XC.test (some t) ρ σ = some r := h
theorem Eb {xs : List Int} {k : Nat} (h : k < xs.length) (hl : xs.length ≤ 20) : i6 (.tup (xs.map .int)) (.int (k : Nat)) σ = some (.int (xs.getD k 0), σ) := by rw [Fe, DB h (Nat.lt_of_lt_of_le h (Nat.le_trans hl (Nat.le_of_ble_eq_true rfl)))]; rfl
theorem Kv {xs : List Int} : ((List.range xs.length).flatMap λ k => (List.range k).filterMap λ j => if xs.getD j 0 = xs.getD k 0 then some (V.int (j : Nat)) else none) = [] ↔ xs.Nodup := by
 rw [List.flatMap_eq_nil_iff]
 constructor
 ·intro h
  refine List.pairwise_iff_getElem.mpr λ j k hj hk hjk e => ?_
  have h2 := List.filterMap_eq_nil_iff.mp (h k (List.mem_range.mpr hk)) j (List.mem_range.mpr hjk)
  rw [yU hj, yU hk, if_pos e] at h2
  cases h2
 ·intro h k hk
  have hk := List.mem_range.mp hk
  refine List.filterMap_eq_nil_iff.mpr λ j hj => if_neg λ e => ?_
  have hj := List.mem_range.mp hj
  rw [yU hk, yU (Nat.lt_trans hj hk)] at e
  exact Nat.ne_of_lt hj (nU h _ hk e)
theorem Dj {xs : List Int} (hl : xs.length ≤ 20) : wp (gP [.tup (xs.map .int)] σ) λ r σ' => r = .bool (decide xs.Nodup) ∧ bW σ σ' := by
 have hl2 : (xs.map V.int).length = xs.length := List.length_map _
 have hr : (List.range xs.length).length = xs.length := List.length_range
 refine IW (α := Nat) (β := Nat) (ρ := [some (.tup (xs.map .int)), none, none]) (σ := σ) (UnL xs) (Pm xs) (List.range xs.length) (λ k => .int (k : Nat)) (λ k => List.range k) (λ k => .int (k : Nat)) (λ k j => if xs.getD j 0 = xs.getD k 0 then some (.int (j : Nat)) else none) ⟨none, none, rfl⟩ (λ k ρ ⟨y, h⟩ => ⟨_, _, h⟩) (Nat.le_trans (Nat.le_of_eq hr) (Nat.le_trans hl (by decide))) (oK (Nat.le_trans hl (by decide))) (λ k hk => ?_) (λ σ' e E g => ⟨_, _, s9 (aQ e rfl (qI ((Ext.push (M := λ _ => False) _).getL g id) (List.all_eq_true.mpr ?_) cH)), congrArg V.bool ?_, E.then (.push _)⟩) (aN (aI (aN rfl (wA (by rw [hl2]; exact Nat.le_trans hl (by decide)))) rfl) (by rw [hl2]; rfl)) (Nat.lt_of_le_of_lt (Nat.le_of_eq hr) (Nat.lt_of_le_of_lt hl (by decide))) (by decide) ?_
 ·rw [List.length_range]; exact Nat.le_trans (Nat.le_of_lt (List.mem_range.mp hk)) (Nat.le_trans hl (by decide))
 ·intro x hx
  obtain ⟨k, _, hx⟩ := List.mem_flatMap.mp hx
  obtain ⟨j, _, e⟩ := List.mem_filterMap.mp hx
  split at e
  ·cases e; rfl
  ·cases e
 ·rw [Bool.eq_iff_iff, List.isEmpty_iff, decide_eq_true_iff]; exact Kv
 ·rintro k _ σ' hk ⟨x, y, rfl⟩ E
  have hk := List.mem_range.mp hk
  have hk3 : k ≤ 1000000 := Nat.le_trans (Nat.le_of_lt hk) (Nat.le_trans hl (by decide))
  refine .mk rfl ⟨_, rfl⟩ rfl .refl (λ bH j hj => oK hk3 bH .refl j hj) ?_
  rintro j _ k8 hj ⟨y, rfl⟩ E4
  have hj := List.mem_range.mp hj
  have g1 := Eb (σ := k8) (Nat.lt_trans hj hk) hl
  have g2 := Eb (σ := k8) hk hl
  by_cases h : xs.getD j 0 = xs.getD k 0
  ·exact .put rfl ⟨_, rfl⟩ (MJ (aP (aQ (bO rfl rfl g1) (bO rfl rfl g2) (eq_int.trans (by rw [decide_eq_true h]))))) rfl (if_pos h) .refl
  ·exact .skip rfl ⟨_, rfl⟩ (MJ (aP (aQ (bO rfl rfl g1) (bO rfl rfl g2) (eq_int.trans (by rw [decide_eq_false h]))))) (if_neg h) .refl
end
structure ED where
 id : Nat
 ms : List Nat
 D : List (List (Int × Int))
 tr : List V
inductive Stack (b : Int) (n : Nat) : List ED → List (List (Int × Int)) → List V → Prop
 | nil {D : List (List (Int × Int))} {tr : List V} : Stack b n [] D tr
 | push {ls : List ED} {D0 D : List (List (Int × Int))} {tr0 es : List V} {id : Nat} {Ok : List Nat} : Stack b n ls D0 tr0 → eB b D0 Ok → Ok.length = n → (∀ m ∈ Ok, m ≠ 0) → Tr D0 es D → Stack b n (ls ++ [⟨id, Ok, D0, tr0⟩]) D (tr0 ++ es)
theorem Stack.more {b : Int} {n : Nat} {ls : List ED} {D D' : List (List (Int × Int))} {tr es : List V} (h : Stack b n ls D tr) (g : Tr D es D') : Stack b n ls D' (tr ++ es) := by
 cases h with
 | nil => exact .nil
 | push h1 h2 h3 h4 h5 => rw [List.append_assoc]; exact .push h1 h2 h3 h4 (h5.append g)
theorem Stack.top {b : Int} {n : Nat} {ls : List ED} {D : List (List (Int × Int))} {tr : List V} (h : Stack b n ls D tr) (hne : ls ≠ []) : ∃ ls0 l es, ls = ls0 ++ [l] ∧ Stack b n ls0 l.D l.tr ∧ eB b l.D l.ms ∧ l.ms.length = n ∧ (∀ m ∈ l.ms, m ≠ 0) ∧ Tr l.D es D ∧ tr = l.tr ++ es := by
 cases h with
 | nil => exact absurd rfl hne
 | push h1 h2 h3 h4 h5 => exact ⟨_, _, _, rfl, h1, h2, h3, h4, h5, rfl⟩
noncomputable def yN (ls : List ED) : List V := ls.map λ l => .int (l.tr.length : Nat)
noncomputable def refsOf (ls : List ED) : List V := ls.map λ l => .obj l.id
noncomputable def lists (c ej bj : Nat) (ls : List ED) : List Nat := c :: ej :: bj :: ls.map (·.id)
structure Lap (σ : St) (p c r ej bj i a f t mk nw : Nat) (b : Int) (W es ms : List Nat) (D firsts : List (List (Int × Int))) (trail : List V) (ls : List ED) (failed : Bool) (clash : List V) (N : Nat) : Prop where
 s : SV σ i a f t mk nw D firsts trail (yN ls) failed clash
 fc : failed = false → clash = []
 hm : eB b D ms
 hn : ms.length = es.length
 nz : ∀ m ∈ ms, m ≠ 0
 pen : o6 σ p c
 hr : bV σ r = some (ad W)
 hej : getL σ ej = some (aK es)
 hbj : getL σ bj = some (refsOf ls)
 lv : ∀ l ∈ ls, getL σ l.id = some (aK l.ms)
 st : Stack b es.length ls D trail
 dis : A3 (p ≠ i) (r ≠ i) (r ≠ p)
 lds : ∀ z ∈ lists c ej bj ls, A4 (z ≠ a) (z ≠ f) (z ≠ t) (z ≠ mk)
 N0 : A3 (bj ≠ c) (bj ≠ ej) (∀ l ∈ ls, bj ≠ l.id)
 tl : trail.length ≤ N
 ll : ls.length ≤ N
theorem K2 {σ : St} {i j : Nat} {x : List V} {y : List (Int × V)} (h : getL σ i = some x) (k : eJ σ j = some y) : i ≠ j := by
 rintro rfl; have a := j5 h; rw [lH k] at a; cases a
section
variable {σ σ' : St} {p c r ej bj i a f t mk nw mk' Bq : Nat} {b : Int} {W es ms rL : List Nat} {D D' firsts : List (List (Int × Int))} {trail gU clash f3 : List V} {ls : List ED} {failed iB : Bool} {N N' : Nat} {M : Nat → Prop}
theorem Lap.listAt (L : Lap σ p c r ej bj i a f t mk nw b W es ms D firsts trail ls failed clash N) : ∀ z ∈ lists c ej bj ls, ∃ l, getL σ z = some l := by
 obtain ⟨spot, mixed, cells, P⟩ := L.pen
 intro z hz
 unfold lists at hz
 rcases List.mem_cons.mp hz with rfl | hz
 ·exact ⟨_, P.list⟩
 rcases List.mem_cons.mp hz with rfl | hz
 ·exact ⟨_, L.hej⟩
 rcases List.mem_cons.mp hz with rfl | hz
 ·exact ⟨_, L.hbj⟩
 obtain ⟨l, hl, rfl⟩ := List.mem_map.mp hz
 exact ⟨_, L.lv l hl⟩
theorem Lap.JZ (L : Lap σ p c r ej bj i a f t mk nw b W es ms D firsts trail ls failed clash N) : ∃ l, bV σ p = some l := by
 obtain ⟨spot, mixed, cells, P⟩ := L.pen
 exact ⟨_, P.pen⟩
theorem Lap.EN (L : Lap σ p c r ej bj i a f t mk nw b W es ms D firsts trail ls failed clash N) : ∀ z ∈ lists c ej bj ls, A8 (z ≠ i) (z ≠ a) (z ≠ f) (z ≠ t) (z ≠ mk) (z ≠ nw) (z ≠ p) (z ≠ r) := by
 intro z hz
 obtain ⟨l, hl⟩ := L.listAt z hz
 obtain ⟨d1, d2, d3, d4⟩ := L.lds z hz
 obtain ⟨nl, hnl, _⟩ := L.s.hn
 obtain ⟨pl, hpl⟩ := L.JZ
 exact ⟨Ne.symm (f8 L.s.hs hl), d1, d2, d3, d4, K2 hl hnl, Ne.symm (f8 hpl hl), Ne.symm (f8 L.hr hl)⟩
theorem Lap.sepS (L : Lap σ p c r ej bj i a f t mk nw b W es ms D firsts trail ls failed clash N) : A6 (p ≠ i) (p ≠ a) (p ≠ f) (p ≠ t) (p ≠ mk) (p ≠ nw) ∧ A6 (r ≠ i) (r ≠ a) (r ≠ f) (r ≠ t) (r ≠ mk) (r ≠ nw) := by
 obtain ⟨nl, hnl, _⟩ := L.s.hn
 obtain ⟨pl, hpl⟩ := L.JZ
 exact ⟨⟨L.dis.h1, f8 hpl L.s.hd, f8 hpl L.s.hf, f8 hpl L.s.ht, f8 hpl L.s.hm, DR hpl hnl⟩, ⟨L.dis.h2, f8 L.hr L.s.hd, f8 L.hr L.s.hf, f8 L.hr L.s.ht, f8 L.hr L.s.hm, DR L.hr hnl⟩⟩
theorem Lap.next (L : Lap σ p c r ej bj i a f t mk nw b W es ms D firsts trail ls failed clash N) (E : Ext M σ σ') (hp : ¬ M p) (hr : ¬ M r) (hl : ∀ z ∈ lists c ej bj ls, ¬ M z)
  (s' : SV σ' i a f t mk' Bq D' firsts gU (yN ls) iB f3) (hmk : mk' = mk ∨ σ.length ≤ mk') (Pj : iB = false → f3 = []) (hm' : eB b D' rL) (hn' : rL.length = es.length) (OH : ∀ m ∈ rL, m ≠ 0)
  (st' : Stack b es.length ls D' gU) (tl' : gU.length ≤ N') (P9 : ls.length ≤ N') : Lap σ' p c r ej bj i a f t mk' Bq b W es rL D' firsts gU ls iB f3 N' := by
 refine ⟨s', Pj, hm', hn', OH, L.pen.ext E hp (hl c (by simp [lists])), E.bV L.hr hr, E.getL L.hej (hl ej (by simp [lists])), E.getL L.hbj (hl bj (by simp [lists])), λ l h => E.getL (L.lv l h) (hl _ ?_), st', L.dis, λ z hz => ?_, L.N0, tl', P9⟩
 ·unfold lists
  exact .tail _ (.tail _ (.tail _ (List.mem_map.mpr ⟨l, h, rfl⟩)))
 ·obtain ⟨d1, d2, d3, d4⟩ := L.lds z hz
  refine ⟨d1, d2, d3, ?_⟩
  rcases hmk with rfl | h
  ·exact d4
  ·obtain ⟨l, hl'⟩ := L.listAt z hz
   have := bE hl'
   lia
theorem Lap.d5 (L : Lap σ p c r ej bj i a f t mk nw b W es ms D firsts trail ls failed clash N) (E : bW σ σ') : Lap σ' p c r ej bj i a f t mk nw b W es ms D firsts trail ls failed clash N :=
 L.next E (λ z => z) (λ z => z) (λ _ _ z => z) (L.s.d5 E) (.inl rfl) L.fc L.hm L.hn L.nz L.st L.tl L.ll
theorem Lap.take (L : Lap σ p c r ej bj i a f t mk nw b W es ms D firsts trail ls failed clash N) (E : Ext (λ z => z = p) σ σ') (hp : o6 σ' p c) : Lap σ' p c r ej bj i a f t mk nw b W es ms D firsts trail ls failed clash N := by
 obtain ⟨⟨p1, p2, p3, p4, p5, p6⟩, _⟩ := L.sepS
 refine ⟨L.s.ext E (λ z hz h => ?_), L.fc, L.hm, L.hn, L.nz, hp, E.bV L.hr L.dis.h3, E.getL L.hej ?_, E.getL L.hbj ?_, λ l h => E.getL (L.lv l h) ?_, L.st, L.dis, L.lds, L.N0, L.tl, L.ll⟩
 ·subst h
  simp only [List.mem_cons, List.not_mem_nil, or_false] at hz
  rcases hz with h | h | h | h | h | h
  ·exact p1 h
  ·exact p2 h
  ·exact p3 h
  ·exact p4 h
  ·exact p5 h
  ·exact p6 h
 ·exact (L.EN ej (by simp [lists])).h7
 ·exact (L.EN bj (by simp [lists])).h7
 ·exact (L.EN l.id (by unfold lists; exact .tail _ (.tail _ (.tail _ (List.mem_map.mpr ⟨l, h, rfl⟩))))).h7
theorem Lap.right (L : Lap σ p c r ej bj i a f t mk nw b W es ms D firsts trail ls false clash N) (he : eB b firsts es) (hW : ∀ x ∈ W, x < es.length) (hcov : ∀ x, x < es.length → x ∈ W) (hWl : W.length ≤ 6) (hml : es.length ≤ 10) (hb1 : -20 ≤ b) (hb2 : b ≤ 20) (hN : N ≤ 700) :
  wp (d8 [.inst 0 i, .inst 2 r, .obj ej, .int b, .tup (aK W)] σ) λ v σ' => v = .bool true ∧ E5 λ rL D' gU iB f3 => Lap σ' p c r ej bj i a f t mk nw b W es rL D' firsts gU ls iB f3 (N + 50) ∧ Ext (λ z => z = i ∨ z = a ∨ z = t ∨ z = nw) σ σ' := by
 have hc := L.fc rfl
 subst hc
 have htl := L.tl
 have hn := L.hn
 have hll := L.ll
 have he' := L.lds ej (by simp [lists])
 refine wp_mono (zS L.s L.hm he L.hn.symm L.nz L.hr L.dis.h2 L.hej he'.h1 he'.h3 (by rw [hn]; exact hW) (by rw [hn]; exact hcov) hWl (by lia) hb1 hb2 (by lia)) ?_
 rintro v σ' ⟨rfl, E, D', ents, rL, iB, f3, s', hm', hn', OH, hTr, hel, Pj⟩
 obtain ⟨⟨p1, p2, p3, p4, p5, p6⟩, ⟨r1, r2, r3, r4, r5, r6⟩⟩ := L.sepS
 refine ⟨rfl, rL, D', trail ++ ents, iB, f3, L.next E ?_ ?_ (λ z hz => ?_) s' (.inl rfl) Pj hm' (by lia) OH (L.st.more hTr) (by simp; lia) (by lia), E⟩
 ·rintro (h | h | h | h)
  ·exact p1 h
  ·exact p2 h
  ·exact p4 h
  ·exact p6 h
 ·rintro (h | h | h | h)
  ·exact r1 h
  ·exact r2 h
  ·exact r4 h
  ·exact r6 h
 ·obtain ⟨q1, q2, q3, q4, q5, q6, q7, q8⟩ := L.EN z hz
  rintro (h | h | h | h)
  ·exact q1 h
  ·exact q2 h
  ·exact q4 h
  ·exact q6 h
end
noncomputable def iL (ms : List Nat) : List Nat := (List.range ms.length).filter λ x => decide (1 < cnt (ms.getD x 0))
noncomputable def Gp : XS := (XS.seq (XS.drop (X.cV 0 95 m9 (X.var 8) (X.aB (X.pure (.int 1)) X.aH))) (XS.seq (XS.ite (X.pQ (X.test (X.attr 0 13 (X.var 8))) (X.pQ (X.test (X.bin iM (X.call d6 (X.aB (X.var 8) (X.aB (X.var 4) X.aH))) (X.fH FA (X.var 12) X.aH))) X.orZ)) (XS.seq (XS.ret (X.pure (.bool false))) XS.nil) XS.nil) XS.nil))
noncomputable def Gn : X Bool := (X.i8 (X.test (X.bin iM (X.var 12) (X.iU X.aH))) (X.i8 (X.pQ (X.test (X.attr 0 13 (X.var 8))) (X.pQ (X.test (X.bin oEq (X.var 15) (X.iU X.aH))) (X.pQ (X.test (X.bin oEq (X.call cE (X.aB (X.var 2) (X.aB (X.pure (.int 3)) X.aH))) (X.pure (.int 0)))) X.orZ))) X.wJ))
theorem Ke (q : Nat → Prop) [DecidablePred q] (l : List Nat) : (l.filterMap λ k => if q k then some (V.int (k : Nat)) else none) = aK (l.filter λ k => decide (q k)) := by
 induction l with
 | nil => rfl
 | cons y l ih =>
  rw [List.filterMap_cons, List.filter_cons, ih]
  by_cases h : q y
  ·rw [if_pos h, if_pos (decide_eq_true h)]; rfl
  ·rw [if_neg h, if_neg λ z => h (of_decide_eq_true z)]
section
variable {σ : St} {p c r ej bj i a f t mk nw n lj oj : Nat} {b : Int} {W es ms : List Nat} {D firsts : List (List (Int × Int))} {trail clash : List V} {ls : List ED} {failed : Bool} {N : Nat} {l0 l1 l6 l10 yP w7 Fm Bs yO uP : Option V}
theorem zT : (refsOf ls).length = ls.length := List.length_map _
theorem J9 {j k : Nat} {l : List V} (h : getL σ j = some l) (h' : getL σ k = some []) (hl : l.length ≤ 1000) : iM (.obj j) (.obj k) σ = some (.bool (!l.isEmpty), σ) := by
 rw [CK h h']
 cases l with
 | nil =>
  rw [if_neg λ z => z.1 rfl]
  unfold oNe
  rw [C6 h h' rfl rfl]; rfl
 | cons x l => rw [if_pos ⟨Nat.succ_ne_zero _, Nat.le_trans hl (by decide), Nat.zero_le _⟩]; rfl
theorem DD (hl : getL σ lj = some (aK ms)) (hn : n = ms.length) (hml : ms.length ≤ 100) :
  ∃ σ', A3 (X.f9 [19] (X.call (bY cW) (X.aB (X.var 3) X.aH)) (XA.name 19) (some (X.test (X.bin KK (X.call f4 (X.aB (X.sub (X.var 14) (X.var 19)) X.aH)) (X.pure (.int 1))))) (X.var 19) 1000 [l0, l1, some (.obj p), some (.int (n : Nat)), some (.int b), some (.obj ej), l6, some (.tup (aK W)), some (.inst 0 i), some (.inst 2 r), l10, yP, some (.obj bj), w7, some (.obj lj), Bs, yO, uP, none, none, none, none, none] σ = some (.obj σ.length, σ')) (bW σ σ') (getL σ' σ.length = some (aK (iL ms))) := by
 subst hn
 refine evMap (α := Nat) (λ ρ => ∃ x : Option V, ρ = [l0, l1, some (.obj p), some (.int (ms.length : Nat)), some (.int b), some (.obj ej), l6, some (.tup (aK W)), some (.inst 0 i), some (.inst 2 r), l10, yP, some (.obj bj), w7, some (.obj lj), Bs, yO, uP, none, x, none, none, none]) (List.range ms.length) (λ k => .int (k : Nat)) (λ k => if 1 < cnt (ms.getD k 0) then some (.int (k : Nat)) else none) ⟨none, rfl⟩ (Nat.le_trans (Nat.le_of_eq List.length_range) (Nat.le_trans hml (by decide))) (oK (Nat.le_trans hml (by decide))) (λ σ' e E g => ⟨σ', e, E, g.trans (congrArg some (Ke _ _))⟩) rfl (Nat.lt_of_le_of_lt (Nat.le_of_eq List.length_range) (Nat.lt_of_le_of_lt hml (by decide))) ?_
 rintro k _ σ' hk ⟨x, rfl⟩ E
 have hk := List.mem_range.mp hk
 obtain ⟨_, bH, e2, rfl, E2⟩ := AG (σ := σ') (m := ms.getD k 0)
 have gg : KK (.int (cnt (ms.getD k 0) : Nat)) (.int 1) bH = some (.bool (decide (1 < cnt (ms.getD k 0))), bH) := congrArg (λ b => some (V.bool b, bH)) (decide_eq_decide.mpr Int.ofNat_lt)
 have g1 := gZ (E.getL hl id) hk (Nat.le_trans hml (by decide))
 by_cases h : 1 < cnt (ms.getD k 0)
 ·rw [decide_eq_true h] at gg
  exact .put rfl ⟨_, rfl⟩ (MJ (aP (aQ (aN (aI (bO rfl rfl g1) rfl) e2) rfl gg))) rfl (if_pos h) E2
 ·rw [decide_eq_false h] at gg
  exact .skip rfl ⟨_, rfl⟩ (MJ (aP (aQ (aN (aI (bO rfl rfl g1) rfl) e2) rfl gg))) (if_neg h) E2
theorem Hl (L : Lap σ p c r ej bj i a f t mk nw b W es ms D firsts trail ls failed clash N) (hN : N ≤ 1000) {os : List Nat} (ho : getL σ oj = some (aK os)) :
  E2 λ bb σ' => A4 (Gn [l0, l1, some (.obj p), some (.int (n : Nat)), some (.int b), some (.obj ej), l6, some (.tup (aK W)), some (.inst 0 i), some (.inst 2 r), l10, yP, some (.obj bj), w7, Fm, some (.obj oj), yO, uP, none, none, none, none, none] σ = some (bb, σ')) (Lap σ' p c r ej bj i a f t mk nw b W es ms D firsts trail ls failed clash N) (Ext (λ z => z = p) σ σ') (bb = true → ls ≠ []) := by
 have P1 : bW σ (σ ++ [O.list []]) := .push _
 have L1 := L.d5 P1
 have n1 := J9 L1.hbj cH (by rw [zT]; exact Nat.le_trans L.ll hN)
 have eN : ∀ ρ σ, X.iU X.aH ρ σ = some (.obj σ.length, σ ++ [O.list []]) := λ ρ σ => mY rfl (Nat.zero_le _)
 cases ls with
 | nil => exact ⟨false, _, jX (aP (aQ rfl (eN _ _) n1)), L1, .of0 P1, λ h => by cases h⟩
 | cons lv ls =>
 have hls : ∀ {q : Prop}, q → lv :: ls ≠ [] := λ _ h => by cases h
 have ef := bC (c := 0) (n := 13) L1.s.hs rfl
 cases failed with
 | true => exact ⟨true, _, eY (aP (aQ rfl (eN _ _) n1)) (eY (Eg (aP (bQ rfl ef))) rfl), L1, .of0 P1, hls⟩
 | false =>
 have P2 : bW (σ ++ [O.list []]) (σ ++ [O.list []] ++ [O.list []]) := .push _
 have L2 := L1.d5 P2
 have n2 := qI (P2.getL (P1.getL ho id) id) (nT 5 os) cH
 cases os with
 | nil => exact ⟨true, _, eY (aP (aQ rfl (eN _ _) n1)) (eY (gB (aP (bQ rfl ef)) (Eg (aP (aQ rfl (eN _ _) n2)))) rfl), L2, .of0 (P1.then P2), hls⟩
 | cons o os =>
 obtain ⟨_, dT, e3, y, rfl, _, _, hp3, E3, _⟩ := lN (many := 3) L2.pen (by decide)
 have L3 := L2.take E3 hp3
 have E03 : Ext (λ z => z = p) σ dT := (Ext.of0 (P1.then P2)).then E3
 have ey := eq_int (σ := dT) (a := y) (b := 0)
 by_cases hy : y = 0
 ·rw [decide_eq_true hy] at ey
  exact ⟨true, dT, eY (aP (aQ rfl (eN _ _) n1)) (eY (gB (aP (bQ rfl ef)) (gB (aP (aQ rfl (eN _ _) n2)) (Eg (aP (aQ (aN (aI rfl (aI rfl rfl)) e3) rfl ey))))) rfl), L3, E03, hls⟩
 ·rw [decide_eq_false hy] at ey
  exact ⟨false, dT, eY (aP (aQ rfl (eN _ _) n1)) (jX (gB (aP (bQ rfl ef)) (gB (aP (aQ rfl (eN _ _) n2)) (gB (aP (aQ (aN (aI rfl (aI rfl rfl)) e3) rfl ey)) rfl)))), L3, E03, λ h => by cases h⟩
theorem Ak {l : ED} : yN (ls ++ [l]) = yN ls ++ [.int (l.tr.length : Nat)] := List.map_append
theorem BK {l : ED} : refsOf (ls ++ [l]) = refsOf ls ++ [.obj l.id] := List.map_append
theorem An {l : ED} : lists c ej bj (ls ++ [l]) = lists c ej bj ls ++ [l.id] := congrArg (λ z => c :: ej :: bj :: z) List.map_append
theorem DY {l : ED} (h : l ∈ ls) : l.id ∈ lists c ej bj ls := .tail _ (.tail _ (.tail _ (List.mem_map_of_mem h)))
theorem inB (c ej bj : Nat) (ls : List ED) : bj ∈ lists c ej bj ls := .tail _ (.tail _ (.head _))
theorem LM {x : Nat} (h1 : x ≠ i) (h2 : x ≠ a) (h3 : x ≠ f) (h4 : x ≠ t) (h5 : x ≠ mk) (h6 : x ≠ nw) : ∀ z ∈ [i, a, f, t, mk, nw], ¬ z = x := by
 rintro z hz rfl
 rcases List.mem_cons.mp hz with h | hz
 ·exact h1 h
 rcases List.mem_cons.mp hz with h | hz
 ·exact h2 h
 rcases List.mem_cons.mp hz with h | hz
 ·exact h3 h
 rcases List.mem_cons.mp hz with h | hz
 ·exact h4 h
 rcases List.mem_cons.mp hz with h | hz
 ·exact h5 h
 ·exact h6 (List.mem_singleton.mp hz)
theorem HP (L : Lap σ p c r ej bj i a f t mk nw b W es ms D firsts trail ls failed clash N) (hN : N ≤ 800) (hne : ls ≠ []) (hf0 : ∀ rs ∈ firsts, rs ≠ []) (hel : es.length ≤ 100) (hb1 : -20 ≤ b) (hb2 : b ≤ 20) {Q : Fl → Loc → St → Prop}
  (hQ : ∀ σ' mk' Bq rL D' gU ls', Lap σ' p c r ej bj i a f t mk' Bq b W es rL D' firsts gU ls' false [] N → Q .next [l0, l1, some (.obj p), some (.int (n : Nat)), some (.int b), some (.obj ej), l6, some (.tup (aK W)), some (.inst 0 i), some (.inst 2 r), l10, yP, some (.obj bj), w7, Fm, Bs, yO, uP, none, none, none, none, none] σ') :
  sp Gp [l0, l1, some (.obj p), some (.int (n : Nat)), some (.int b), some (.obj ej), l6, some (.tup (aK W)), some (.inst 0 i), some (.inst 2 r), l10, yP, some (.obj bj), w7, Fm, Bs, yO, uP, none, none, none, none, none] σ Q := by
 obtain ⟨ls0, l, ents, rfl, hst, hm0, hn0, OX, hTr, rfl⟩ := L.st.top hne
 have hll := L.ll
 have htl := L.tl
 have h9 := Nat.le_trans htl (Nat.le_trans hN (by decide : 800 ≤ 900))
 rw [List.length_append] at hll htl
 have hl0 := Nat.le_trans (Nat.le_add_right _ _) hll
 have hN1 := Nat.le_trans hN (by decide : 800 ≤ 1000)
 have s0 := L.s
 rw [Ak] at s0
 obtain ⟨_, aT, e1, rfl, ⟨mk', Bq, NE, hnw', s1⟩, E1⟩ := HQ s0 hTr h9 (Nat.le_trans (Nat.le_of_eq (List.length_map _)) (Nat.le_trans hl0 (Nat.le_trans hN (by decide)))) (by rw [L.hm.len, L.hn]; exact Nat.le_trans hel (by decide)) hf0
 have hlt : ∀ z ∈ lists c ej bj (ls0 ++ [l]), z < σ.length := λ z hz => (L.listAt z hz).elim λ _ h => bE h
 have hkeep : ∀ z ∈ lists c ej bj (ls0 ++ [l]), ¬ (z = i ∨ z = a ∨ z = t) := λ z hz => by
  obtain ⟨q1, q2, _, q4, _⟩ := L.EN z hz
  exact λ h => h.elim q1 λ h => h.elim q2 q4
 have PS := λ l' (h : l' ∈ ls0 ++ [l]) => DY (c := c) (ej := ej) (bj := bj) h
 have IG : l ∈ ls0 ++ [l] := List.mem_append_right _ (.head _)
 have inB := inB c ej bj (ls0 ++ [l])
 obtain ⟨⟨p1, p2, p3, p4, p5, p6⟩, ⟨r1, r2, r3, r4, r5, r6⟩⟩ := L.sepS
 have hsm : l.ms.length ≤ 1000 := by rw [hn0]; exact Nat.le_trans hel (by decide)
 obtain ⟨_, bH, e2, nj, rfl, hnj, hN2, E2⟩ := lO s1 hm0 (by rw [hn0]; exact hel) hb1 hb2
 have hB2 := E2.getL (E1.getL L.hbj (hkeep bj inB)) id
 have hl2 := E2.getL (E1.getL (L.lv l IG) (hkeep _ (PS l IG))) id
 rw [BK] at hB2
 have Kj := IT hB2 (by rw [List.length_append, zT]; exact Nat.le_trans hll (Nat.le_trans hN (by decide)))
 have g3 := c8 (l := refsOf ls0) (bE hB2)
 have E3 : Ext (λ z => z = bj) bH (bH.set bj (.list (refsOf ls0))) := .set _ rfl
 have IH := hlt bj inB
 obtain ⟨bd1, N4, bd3⟩ := L.N0
 have n1 := uJ (E3.getL hN2 (Nat.ne_of_gt (Nat.lt_of_lt_of_le IH (Nat.le_trans E1.1 hnj)))) (E3.getL hl2 (Ne.symm (bd3 l IG))) hsm hsm
 rw [decide_eq_false (λ h => h rfl)] at n1
 obtain ⟨b1, b2, b3, b4, b5, b6, b7, b8⟩ := L.EN bj inB
 have E12 : Ext (λ z => z = i ∨ z = a ∨ z = t) σ bH := E1.wP E2
 have hin : ∀ l' ∈ ls0, l' ∈ ls0 ++ [l] := λ l' h => List.mem_append_left _ h
 refine jO (dC rfl (L.s.inst (k := 95) rfl) (aI rfl rfl) e1) rfl (c6 (gB (aP (bQ rfl (bC (c := 0) (n := 13) s1.hs rfl))) (gB (aP (aQ (aN (aI rfl (aI rfl rfl)) e2) (fM rfl (d9 hB2) rfl Kj) n1)) rfl)) (dJ (hQ _ mk' Bq l.ms l.D l.tr ls0 ⟨(s1.d5 E2).ext E3 (LM b1 b2 b3 b4 (Nat.ne_of_lt (Nat.lt_of_lt_of_le IH NE)) (Nat.ne_of_lt (Nat.lt_of_lt_of_le IH hnw'))), λ _ => rfl, hm0, hn0, OX, (L.pen.ext E12 (λ h => h.elim p1 λ h => h.elim p2 p4) (hkeep c (.head _))).ext E3 (Ne.symm b7) (Ne.symm bd1), E3.bV (E12.bV L.hr λ h => h.elim r1 λ h => h.elim r2 r4) (Ne.symm b8), E3.getL (E12.getL L.hej (hkeep ej (.tail _ (.head _)))) (Ne.symm N4), g3, λ l' h => E3.getL (E12.getL (L.lv l' (hin l' h)) (hkeep _ (PS l' (hin l' h)))) (Ne.symm (bd3 l' (hin l' h))), hst, L.dis, λ z hz => ?_, ⟨bd1, N4, λ l' h => bd3 l' (hin l' h)⟩, Nat.le_trans (Nat.le_add_right _ _) htl, hl0⟩)))
 have hz' : z ∈ lists c ej bj (ls0 ++ [l]) := An ▸ List.mem_append_left _ hz
 obtain ⟨d1, d2, d3, d4⟩ := L.lds z hz'
 exact ⟨d1, d2, d3, Nat.ne_of_lt (Nat.lt_of_lt_of_le (hlt z hz') NE)⟩
end
noncomputable def Et : XS := (XS.seq (XS.assign (X.sub (X.var 15) (X.call cE (X.aB (X.var 2) (X.aB (X.call (bY gR) (X.aB (X.var 15) X.aH)) X.aH)))) (XA.name 16)) (XS.seq (XS.assign (X.f9 [18] (X.call (bY cW) (X.aB (X.pure (.int 5)) X.aH)) (XA.name 18) (some (X.test (X.bin oEq (X.bin oMod (X.bin cI (X.sub (X.var 14) (X.var 16)) (X.bin i3 (X.pure (.int 2)) (X.var 18))) (X.pure (.int 2))) (X.pure (.int 1))))) (X.bin eR (X.var 4) (X.var 18)) 1000) (XA.name 17)) (XS.seq (XS.drop (X.fH eF (X.var 12) (X.aB (X.var 14) X.aH))) (XS.seq (XS.drop (X.cV 0 97 lK (X.var 8) X.aH)) (XS.seq (XS.ite (X.oN (X.test (X.cV 0 96 jJ (X.var 8) (X.aB (X.eX (X.aB (X.var 16) (X.aB (X.pure (.str 51)) (X.aB (X.sub (X.var 17) (X.call cE (X.aB (X.var 2) (X.aB (X.call (bY gR) (X.aB (X.var 17) X.aH)) X.aH)))) X.aH)))) X.aH)))) (XS.seq (XS.ret (X.pure (.bool false))) XS.nil) XS.nil) XS.nil)))))
theorem eB.set {b : Int} {D : List (List (Int × Int))} {ms : List Nat} {x m' : Nat} {rs' : List (Int × Int)} (h : eB b D ms) (hx : x < ms.length) (hd : kN b rs' m') (hm : m' < 32) : eB b (D.set x rs') (ms.set x m') := by
 have hl := h.len
 refine ⟨by simp [hl], λ y ry my hy hmy => ?_, λ m hm' => ?_⟩
 ·by_cases hyx : x = y
  ·subst hyx
   rw [List.getElem?_set_self (by lia)] at hy
   rw [List.getElem?_set_self hx] at hmy
   cases hy; cases hmy; exact hd
  ·rw [List.getElem?_set_ne hyx] at hy hmy
   exact h.at_ y ry my hy hmy
 ·rcases List.mem_or_eq_of_mem_set hm' with h' | rfl
  ·exact h.lt m h'
  ·exact hm
theorem Hz {b v : Int} {m : Nat} (h : 1 < cnt m) : ∃ u ∈ vm b m, u ≠ v := by
 have hl : (vm b m).length = cnt m := rD
 have hn := Di b m
 have h0 : 0 < (vm b m).length := by lia
 have h1 : 1 < (vm b m).length := by lia
 by_cases e : (vm b m)[0] = v
 ·refine ⟨(vm b m)[1], List.getElem_mem h1, λ e1 => ?_⟩
  have := nU hn h0 h1 (by rw [e, e1])
  lia
 ·exact ⟨(vm b m)[0], List.getElem_mem h0, e⟩
section
variable {σ : St} {p c r ej bj i a f t mk nw n lj oj : Nat} {b : Int} {W es ms : List Nat} {D firsts : List (List (Int × Int))} {trail clash : List V} {ls : List ED} {failed : Bool} {N : Nat} {l0 l1 l6 l10 yP w7 Fm Bs yO uP : Option V}
theorem MT (b : Int) (m : Nat) (l : List Nat) : (l.filterMap λ k => if m.testBit k = true then some (V.int (b + (k : Nat))) else none) = ((l.filter λ k => m.testBit k).map λ k => b + (k : Nat)).map .int := by
 induction l with
 | nil => rfl
 | cons y l ih =>
  rw [List.filterMap_cons, List.filter_cons, ih]
  by_cases h : m.testBit y = true
  ·rw [if_pos h, if_pos h]; rfl
  ·rw [if_neg h, if_neg h]
theorem getD_mem {α : Type} {l : List α} {d : α} {k : Nat} (h : k < l.length) : l.getD k d ∈ l := by
 rw [List.getD_eq_getElem?_getD, List.getElem?_eq_getElem h]; exact List.getElem_mem h
theorem IJ {j x : Nat} {l : List Int} (h : getL σ j = some (l.map .int)) (hx : x < l.length) (h1 : l.length ≤ 1000) : i6 (.obj j) (.int (x : Nat)) σ = some (.int (l.getD x 0), σ) := by
 rw [l7 h, DB hx (Nat.lt_of_lt_of_le hx (Nat.le_trans h1 (by decide)))]; rfl
theorem Dl {l : List V} (hp : o6 σ p c) (h : 0 < l.length) : E2 λ σ' k => A4 (cE [.obj p, .int (l.length : Nat)] σ = some (.int (k : Nat), σ')) (k < l.length) (o6 σ' p c) (Ext (λ z => z = p) σ σ') := by
 obtain ⟨_, σ', e, y, rfl, h0, h1, hp', E, _⟩ := lN hp (Int.ofNat_lt.mpr h)
 obtain ⟨k, rfl⟩ := Int.eq_ofNat_of_zero_le h0
 exact ⟨σ', k, e, Int.ofNat_lt.mp h1, hp', E⟩
theorem GL {x : Nat} (hl : getL σ lj = some (aK ms)) (hx : x < ms.length) (hml : ms.length ≤ 100) :
  ∃ σ', A3 ((X.f9 [18] (X.call (bY cW) (X.aB (X.pure (.int 5)) X.aH)) (XA.name 18) (some (X.test (X.bin oEq (X.bin oMod (X.bin cI (X.sub (X.var 14) (X.var 16)) (X.bin i3 (X.pure (.int 2)) (X.var 18))) (X.pure (.int 2))) (X.pure (.int 1))))) (X.bin eR (X.var 4) (X.var 18)) 1000) [l0, l1, some (.obj p), some (.int (n : Nat)), some (.int b), some (.obj ej), l6, some (.tup (aK W)), some (.inst 0 i), some (.inst 2 r), l10, yP, some (.obj bj), w7, some (.obj lj), Bs, some (.int (x : Nat)), uP, none, none, none, none, none] σ = some (.obj σ.length, σ')) (bW σ σ') (getL σ' σ.length = some ((vm b (ms.getD x 0)).map .int)) := by
 refine evMap (α := Nat) (λ ρ => ∃ y : Option V, ρ = [l0, l1, some (.obj p), some (.int (n : Nat)), some (.int b), some (.obj ej), l6, some (.tup (aK W)), some (.inst 0 i), some (.inst 2 r), l10, yP, some (.obj bj), w7, some (.obj lj), Bs, some (.int (x : Nat)), uP, y, none, none, none, none]) (List.range 5) (λ k => .int (k : Nat)) (λ k => if (ms.getD x 0).testBit k = true then some (.int (b + (k : Nat))) else none) ⟨none, rfl⟩ (by decide) zW (λ σ' e E g => ⟨σ', e, E, g.trans (congrArg some (MT ..))⟩) rfl (by decide) ?_
 rintro k _ σ' hk ⟨y, rfl⟩ E
 have b1 := wE (f := X.sub (X.var 14) (X.var 16)) (g := X.var 18) (ρ := [l0, l1, some (.obj p), some (.int (n : Nat)), some (.int b), some (.obj ej), l6, some (.tup (aK W)), some (.inst 0 i), some (.inst 2 r), l10, yP, some (.obj bj), w7, some (.obj lj), Bs, some (.int (x : Nat)), uP, some (.int (k : Nat)), none, none, none, none]) (σ := σ') (bO rfl rfl (gZ (E.getL hl id) hx (Nat.le_trans hml (by decide)))) rfl (Nat.le_trans (Nat.le_of_lt (List.mem_range.mp hk)) (by decide))
 cases hb : (ms.getD x 0).testBit k with
 | true => rw [hb] at b1; exact .put rfl ⟨_, rfl⟩ (MJ b1) rfl (if_pos rfl) .refl
 | false => rw [hb] at b1; exact .skip rfl ⟨_, rfl⟩ (MJ b1) (if_neg Bool.false_ne_true) .refl
theorem GW (L : Lap σ p c r ej bj i a f t mk nw b W es ms D firsts trail ls false clash N) (hN : N ≤ 700) (hel : es.length ≤ 10) (hlj : getL σ lj = some (aK ms)) (Kk : A4 (lj ≠ a) (lj ≠ f) (lj ≠ t) (lj ≠ mk)) (hlb : bj ≠ lj)
  (ho : getL σ oj = some (aK (iL ms))) (hone : iL ms ≠ []) (hb1 : -20 ≤ b) (hb2 : b ≤ 20) {Q : Fl → Loc → St → Prop}
  (hQ : ∀ σ' yO uP rL D' gU PP, Lap σ' p c r ej bj i a f t mk nw b W es rL D' firsts gU (ls ++ [PP]) false clash (N + 1) → Q .next [l0, l1, some (.obj p), some (.int (n : Nat)), some (.int b), some (.obj ej), l6, some (.tup (aK W)), some (.inst 0 i), some (.inst 2 r), l10, yP, some (.obj bj), w7, some (.obj lj), some (.obj oj), yO, uP, none, none, none, none, none] σ') :
  sp Et [l0, l1, some (.obj p), some (.int (n : Nat)), some (.int b), some (.obj ej), l6, some (.tup (aK W)), some (.inst 0 i), some (.inst 2 r), l10, yP, some (.obj bj), w7, some (.obj lj), some (.obj oj), yO, uP, none, none, none, none, none] σ Q := by
 have hn := L.hn
 have hml : ms.length ≤ 10 := by rw [hn]; exact hel
 have hN1 := Nat.le_trans hN (by decide : 700 ≤ 1000)
 have hll := Nat.le_trans L.ll hN1
 have htl := Nat.le_trans L.tl hN1
 obtain ⟨⟨p1, p2, p3, p4, p5, p6⟩, ⟨r1, r2, r3, r4, r5, r6⟩⟩ := L.sepS
 obtain ⟨pl, hpl⟩ := L.JZ
 have NH : lj ≠ p := Ne.symm (f8 hpl hlj)
 obtain ⟨nl, hnl, _⟩ := L.s.hn
 have O1 : lj ≠ nw := K2 hlj hnl
 have hil : (aK (iL ms)).length = (iL ms).length := List.length_map _
 have hol : (iL ms).length ≤ 10 := Nat.le_trans (List.length_filter_le _ _) (by rw [List.length_range]; exact hml)
 obtain ⟨aT, k, e1, hk, hp1, E1⟩ := Dl (l := aK (iL ms)) L.pen (by rw [hil]; exact List.length_pos_iff.mpr hone)
 have L1 := L.take E1 hp1
 have O4 := E1.getL hlj NH
 rw [hil] at hk
 have hxo := getD_mem (d := 0) hk
 have gx := gZ (E1.getL ho (Ne.symm (f8 hpl ho))) hk (Nat.le_trans hol (by decide))
 generalize (iL ms).getD k 0 = x at hxo gx
 have hx := List.mem_filter.mp hxo
 have hxm := List.mem_range.mp hx.1
 have NS := of_decide_eq_true hx.2
 obtain ⟨bH, e2, E2, hsj⟩ := GL (l0 := l0) (l1 := l1) (l6 := l6) (l10 := l10) (yP := yP) (w7 := w7) (Bs := some (.obj oj)) (uP := uP) (p := p) (r := r) (ej := ej) (bj := bj) (i := i) (n := n) (b := b) (W := W) O4 hxm (Nat.le_trans hml (by decide))
 have L2 := L1.d5 E2
 have P7 := bE L2.hbj
 have E3 : Ext (λ z => z = bj) bH (bH.set bj (.list (refsOf ls ++ [.obj lj]))) := .set _ rfl
 have g3 := c8 (l := refsOf ls ++ [.obj lj]) P7
 have inB := inB c ej bj ls
 have Qc : ej ∈ lists c ej bj ls := .tail _ (.head _)
 have hlt : ∀ z ∈ lists c ej bj ls, z < σ.length := λ z hz => (L.listAt z hz).elim λ _ h => bE h
 have hsep := L.EN
 obtain ⟨b1, b2, b3, b4, b5, b6, b7, b8⟩ := hsep bj inB
 obtain ⟨cc1, Qo, cc3, Qn, Qm, Ql, cc7, cc8⟩ := hsep c (.head _)
 obtain ⟨bd1, N4, bd3⟩ := L.N0
 have s3 := L2.s.ext E3 (LM b1 b2 b3 b4 b5 b6)
 have OB := E1.1
 obtain ⟨_, k8, e4, rfl, s4, E4⟩ := GX s3 htl (Nat.le_trans (Nat.le_of_eq (List.length_map _)) hll)
 have hp4 := (L2.pen.ext E3 (Ne.symm b7) (Ne.symm bd1)).ext E4 p5 Qm
 have Nz := E4.getL (E3.getL hsj (Nat.ne_of_gt (Nat.lt_of_lt_of_le (hlt bj inB) OB))) (Nat.ne_of_gt (Nat.lt_of_lt_of_le (L.s.lt mk (.tail _ (.tail _ (.tail _ (.tail _ (.head _)))))) OB))
 have hvl : ((vm b (ms.getD x 0)).map V.int).length = (vm b (ms.getD x 0)).length := List.length_map _
 have hc5 := Nat.le_trans (Cs b (ms.getD x 0)) (by decide : 5 ≤ 1000)
 obtain ⟨pM, k', e5, hk', hp5, E5⟩ := Dl (l := (vm b (ms.getD x 0)).map V.int) hp4 (by rw [hvl, rD]; exact Nat.lt_trans (by decide : 0 < 1) NS)
 rw [hvl] at hk'
 have gv := IJ (E5.getL Nz (Nat.ne_of_gt (Nat.lt_of_lt_of_le (fL hpl) OB))) hk' hc5
 have hvm := getD_mem (d := 0) hk'
 generalize (vm b (ms.getD x 0)).getD k' 0 = v at hvm gv
 obtain ⟨j, hj, hbj, rfl⟩ := fE.mp hvm
 have s5 := s4.ext E5 (LM p1 p2 p3 p4 p5 p6)
 have hDl := L.hm.len
 have hxD : x < D.length := by rw [hDl]; exact hxm
 have hgx : ms.getD x 0 = ms[x] := by rw [List.getD_eq_getElem?_getD, List.getElem?_eq_getElem hxm]; rfl
 have hd := L.hm.at_ x _ _ (List.getElem?_eq_getElem hxD) (List.getElem?_eq_getElem hxm)
 rw [← hgx] at hd
 have Md : ms.getD x 0 < 32 := by rw [hgx]; exact L.hm.lt _ (List.getElem_mem hxm)
 obtain ⟨u, hu, hue⟩ := Hz (b := b) (v := b + (j : Nat)) NS
 rw [← hd.vals] at hu
 have hun : u ∈ aX (upto D[x] (b + (j : Nat) - 1) ++ dH D[x] (b + (j : Nat) + 1)) := iX.mpr ⟨hu, hue⟩
 obtain ⟨_, oG, e6, rfl, s6, E6⟩ := Ej s5 (List.getElem?_eq_getElem hxD) hd.small (by rw [hDl]; exact Nat.le_trans hml (by decide)) htl (λ e => by rw [e] at hun; cases hun) λ e => by
  have : b + (j : Nat) ∈ aX D[x] := by rw [hd.vals]; exact hvm
  rw [← e] at this
  exact (iX.mp this).2 rfl
 have E02 : Ext (λ z => z = p) σ bH := E1.wP E2
 have keep : ∀ z, z ≠ p → z ≠ bj → z ≠ mk → ¬ (z = a ∨ z = t ∨ z = nw) → ∀ l, getL σ z = some l → getL oG z = some l := λ z h1 h2 h3 h4 l hl =>
  E6.getL (E5.getL (E4.getL (E3.getL (E02.getL hl h1) h2) h3) h1) h4
 have K8 : ∀ z ∈ lists c ej bj ls, z ≠ bj → ∀ l, getL σ z = some l → getL oG z = some l := λ z hz hzb => by
  obtain ⟨q1, q2, q3, q4, q5, q6, q7, q8⟩ := hsep z hz
  exact keep z q7 hzb q5 (λ h => h.elim q2 λ h => h.elim q4 q6)
 have O2 := keep lj NH (Ne.symm hlb) Kk.h4 (λ h => h.elim Kk.h1 λ h => h.elim Kk.h3 O1) _ hlj
 have JG := E6.bV (E5.bV (E4.bV (E3.bV (E02.bV L.hr L.dis.h3) (Ne.symm b8)) r5) L.dis.h3) (λ h => h.elim r2 λ h => h.elim r4 r6)
 have Pd := E6.getL (E5.getL (E4.getL g3 b5) b7) (λ h => h.elim b2 λ h => h.elim b4 b6)
 have hclt : dE (ms.getD x 0) j < 32 := Nat.lt_of_le_of_lt Nat.and_le_left Md
 have tr1 := Tr.snoc (D0 := D) (x := x) (new := upto D[x] (b + (j : Nat) - 1) ++ dH D[x] (b + (j : Nat) + 1)) (lit := .tup [.int (x : Nat), .str 51, .int (b + (j : Nat))]) (rs := .none) (sp := .int (-1)) Tr.nil (List.getElem?_eq_getElem hxD)
 have L6 : Lap oG p c r ej bj i a f t mk nw b W es (ms.set x (dE (ms.getD x 0) j)) (D.set x (upto D[x] (b + (j : Nat) - 1) ++ dH D[x] (b + (j : Nat) + 1))) firsts (trail ++ [.tup [.int (x : Nat), dv D[x], .tup [.int (x : Nat), .str 51, .int (b + (j : Nat))], .none, .int (-1)]]) (ls ++ [⟨lj, ms, D, trail⟩]) false clash (N + 1) := by
  refine ⟨by rw [Ak]; exact s6, L.fc, L.hm.set hxm (hd.without hj) hclt, by rw [List.length_set]; exact hn, λ m hm' => ?_, hp5.ext E6 (λ h => h.elim p2 λ h => h.elim p4 p6) (λ h => h.elim Qo λ h => h.elim Qn Ql), JG, K8 ej Qc (Ne.symm N4) _ L.hej, by rw [BK]; exact Pd, λ l' h => ?_, .push L.st L.hm hn L.nz tr1, L.dis, λ z hz => ?_, ⟨bd1, N4, λ l' h => ?_⟩, ?_, ?_⟩
  ·rcases List.mem_or_eq_of_mem_set hm' with h' | rfl
   ·exact L.nz m h'
   ·intro h0
    have : u ∈ vm b (dE (ms.getD x 0) j) := by rw [← (hd.without hj).vals]; exact hun
    rw [h0] at this
    obtain ⟨k, _, hb, _⟩ := fE.mp this
    rw [Nat.zero_testBit] at hb; cases hb
  ·rcases List.mem_append.mp h with h | h
   ·exact K8 _ (DY h) (Ne.symm (bd3 l' h)) _ (L.lv l' h)
   ·cases List.mem_singleton.mp h; exact O2
  ·rw [An] at hz
   rcases List.mem_append.mp hz with h | h
   ·exact L.lds z h
   ·cases List.mem_singleton.mp h; exact Kk
  ·rcases List.mem_append.mp h with h | h
   ·exact bd3 l' h
   ·cases List.mem_singleton.mp h; exact hlb
  ·rw [List.length_append]; exact Nat.succ_le_succ L.tl
  ·rw [List.length_append]; exact Nat.succ_le_succ L.ll
 exact fY (bO rfl (aN (aI rfl (aI (aN (aI rfl rfl) (jW ho (by rw [hil]; exact Nat.le_trans hol (by decide)))) rfl)) e1) gx) rfl (fY e2 rfl (jO (fM rfl (d9 L2.hbj) (aI rfl rfl) (fR L2.hbj (by rw [zT]; exact Nat.le_trans hll (by decide)))) rfl (jO (dC rfl (s3.inst (k := 97) rfl) rfl e4) rfl (c6 (kT (aP (dC rfl (s4.inst (k := 96) rfl) (aI (k5 (aI rfl (aI rfl (aI (bO rfl (aN (aI rfl (aI (aN (aI rfl rfl) (jW Nz (by rw [hvl]; exact Nat.le_trans hc5 (by decide)))) rfl)) e5) gv) rfl))) (Nat.le_of_ble_eq_true rfl)) rfl) e6))) (dJ (hQ _ _ _ _ _ _ _ L6))))))
end
noncomputable def Ch : XS := (XS.seq (XS.ite (X.oN (X.test (X.call d8 (X.aB (X.var 8) (X.aB (X.var 9) (X.aB (X.var 5) (X.aB (X.var 4) (X.aB (X.var 7) X.aH)))))))) (XS.seq (XS.ret (X.pure (.bool false))) XS.nil) XS.nil) XS.nil)
noncomputable def Gq : XS := XS.seq (XS.assign (X.call d6 (X.aB (X.var 8) (X.aB (X.var 4) X.aH))) (XA.name 14)) (XS.seq (XS.assign (X.f9 [19] (X.call (bY cW) (X.aB (X.var 3) X.aH)) (XA.name 19) (some (X.test (X.bin KK (X.call f4 (X.aB (X.sub (X.var 14) (X.var 19)) X.aH)) (X.pure (.int 1))))) (X.var 19) 1000) (XA.name 15)) (XS.seq (XS.ite Gn Gp (XS.seq (XS.ite (X.pQ (X.test (X.attr 0 13 (X.var 8))) (X.pQ (X.test (X.bin oEq (X.var 15) (X.iU X.aH))) X.orZ)) (XS.seq (XS.ret (X.pure (.bool true))) XS.nil) Et) XS.nil)) Ch))
section
variable {σ : St} {p c r ej bj i a f t mk nw n : Nat} {b : Int} {W es ms : List Nat} {D firsts : List (List (Int × Int))} {trail clash : List V} {ls : List ED} {failed : Bool} {N : Nat} {l0 l1 l6 l10 yP w7 Fm Bs yO uP : Option V}
theorem zR (L : Lap σ p c r ej bj i a f t mk nw b W es ms D firsts trail ls false clash N) (he : eB b firsts es) (hW : ∀ x ∈ W, x < es.length) (hcov : ∀ x, x < es.length → x ∈ W) (hWl : W.length ≤ 6) (hml : es.length ≤ 10) (hb1 : -20 ≤ b) (hb2 : b ≤ 20) (hN : N ≤ 700) {Q : Fl → Loc → St → Prop}
  (hQ : ∀ σ' rL D' gU iB f3, Lap σ' p c r ej bj i a f t mk nw b W es rL D' firsts gU ls iB f3 (N + 50) → Q .next [l0, l1, some (.obj p), some (.int (n : Nat)), some (.int b), some (.obj ej), l6, some (.tup (aK W)), some (.inst 0 i), some (.inst 2 r), l10, yP, some (.obj bj), w7, Fm, Bs, yO, uP, none, none, none, none, none] σ') :
  sp Ch [l0, l1, some (.obj p), some (.int (n : Nat)), some (.int b), some (.obj ej), l6, some (.tup (aK W)), some (.inst 0 i), some (.inst 2 r), l10, yP, some (.obj bj), w7, Fm, Bs, yO, uP, none, none, none, none, none] σ Q := by
 obtain ⟨_, σ', e, rfl, rL, D', gU, iB, f3, L', _⟩ := L.right he hW hcov hWl hml hb1 hb2 hN
 exact c6 (kT (aP (aN rfl e))) (dJ (hQ σ' rL D' gU iB f3 L'))
theorem Lap.mono {N' : Nat} (L : Lap σ p c r ej bj i a f t mk nw b W es ms D firsts trail ls failed clash N) (h : N ≤ N') : Lap σ p c r ej bj i a f t mk nw b W es ms D firsts trail ls failed clash N' :=
 ⟨L.s, L.fc, L.hm, L.hn, L.nz, L.pen, L.hr, L.hej, L.hbj, L.lv, L.st, L.dis, L.lds, L.N0, Nat.le_trans L.tl h, Nat.le_trans L.ll h⟩
theorem Ir (L : Lap σ p c r ej bj i a f t mk nw b W es ms D firsts trail ls failed clash N) (he : eB b firsts es) (hnz : ∀ m ∈ es, m ≠ 0) (hn : n = es.length) (hW : ∀ x ∈ W, x < es.length) (hcov : ∀ x, x < es.length → x ∈ W) (hWl : W.length ≤ 6) (hml : es.length ≤ 10) (hb1 : -20 ≤ b) (hb2 : b ≤ 20) (hN : N ≤ 600) {Q : Fl → Loc → St → Prop}
  (hret : ∀ ρ σ', Q (.ret (.bool true)) ρ σ')
  (hQ : ∀ σ' mk' Bq rL D' gU ls' iB f3 Fm Bs yO uP, Lap σ' p c r ej bj i a f t mk' Bq b W es rL D' firsts gU ls' iB f3 (N + 51) → Q .next [l0, l1, some (.obj p), some (.int (n : Nat)), some (.int b), some (.obj ej), l6, some (.tup (aK W)), some (.inst 0 i), some (.inst 2 r), l10, yP, some (.obj bj), w7, Fm, Bs, yO, uP, none, none, none, none, none] σ') :
  sp Gq [l0, l1, some (.obj p), some (.int (n : Nat)), some (.int b), some (.obj ej), l6, some (.tup (aK W)), some (.inst 0 i), some (.inst 2 r), l10, yP, some (.obj bj), w7, Fm, Bs, yO, uP, none, none, none, none, none] σ Q := by
 have hmn := L.hn
 have hf0 : ∀ rs ∈ firsts, rs ≠ [] := λ rs h => by
  obtain ⟨m, hm, hd⟩ := he.vals h
  rintro rfl
  exact Hv (he.lt m hm) (hnz m hm) (by rw [← hd.vals]; rfl)
 have hn2 := hn.trans hmn.symm
 have tF : ms.length ≤ 100 := by rw [hmn]; exact Nat.le_trans hml (by decide)
 have eN : ∀ ρ σ, X.iU X.aH ρ σ = some (.obj σ.length, σ ++ [O.list []]) := λ ρ σ => mY rfl (Nat.zero_le _)
 obtain ⟨_, aT, e1, lj, rfl, NI, hlj, E1⟩ := lO L.s L.hm tF hb1 hb2
 have L1 := L.d5 E1
 obtain ⟨bH, e2, E2, hoj⟩ := DD (l0 := l0) (l1 := l1) (l6 := l6) (l10 := l10) (yP := yP) (w7 := w7) (Bs := Bs) (yO := yO) (uP := uP) (p := p) (r := r) (ej := ej) (bj := bj) (i := i) (n := n) (b := b) (W := W) hlj hn2 tF
 have L2 := L1.d5 E2
 have NJ := E2.getL hlj id
 obtain ⟨bb, dT, e3, L3, E3, hbb⟩ := Hl (l0 := l0) (l1 := l1) (l6 := l6) (l10 := l10) (yP := yP) (w7 := w7) (Fm := some (.obj lj)) (yO := yO) (uP := uP) (n := n) L2 (Nat.le_trans hN (by decide)) hoj
 obtain ⟨pl, hpl⟩ := L2.JZ
 have O3 := E3.getL NJ (Ne.symm (f8 hpl NJ))
 have NB := E3.getL hoj (Ne.symm (f8 hpl hoj))
 refine fY (aN rfl e1) rfl (fY e2 rfl ?_)
 have hN7 := Nat.le_trans hN (by decide : 600 ≤ 700)
 cases bb with
 | true => exact kY e3 (HP L3 (Nat.le_trans hN (by decide)) (hbb rfl) hf0 (Nat.le_trans hml (by decide)) hb1 hb2 λ k8 mk' Bq rL D' gU ls' L4 => zR L4 he hW hcov hWl hml hb1 hb2 hN7 λ pM PN D5 HA Kt My L5 => hQ pM mk' Bq PN D5 HA ls' Kt My _ _ _ _ (L5.mono (Nat.le_succ _)))
 | false =>
 refine FS e3 ?_
 have ef := bC (c := 0) (n := 13) L3.s.hs rfl
 cases failed with
 | true => exact kY (Eg (aP (bQ rfl ef))) (lW rfl (hret _ _))
 | false =>
 have P4 : bW dT (dT ++ [O.list []]) := .push _
 have n4 := qI (P4.getL NB id) (nT 5 _) cH
 cases hos : iL ms with
 | nil =>
  rw [hos] at n4
  exact kY (gB (aP (bQ rfl ef)) (Eg (aP (aQ rfl (eN _ _) n4)))) (lW rfl (hret _ _))
 | cons o os =>
  have hone : iL ms ≠ [] := λ h => by rw [h] at hos; cases hos
  rw [hos] at n4
  have hlt : ∀ z ∈ [i, a, f, t, mk, nw], lj ≠ z := λ z h => Nat.ne_of_gt (Nat.lt_of_lt_of_le (L.s.lt z h) NI)
  exact FS (gB (aP (bQ rfl ef)) (gB (aP (aQ rfl (eN _ _) n4)) rfl)) (GW (L3.d5 P4) hN7 hml (P4.getL O3 id) ⟨hlt a (.tail _ (.head _)), hlt f (.tail _ (.tail _ (.head _))), hlt t (.tail _ (.tail _ (.tail _ (.head _)))), hlt mk (.tail _ (.tail _ (.tail _ (.tail _ (.head _)))))⟩ (Nat.ne_of_lt (Nat.lt_of_lt_of_le (bE L.hbj) NI)) (P4.getL NB id) hone hb1 hb2 λ pM yO uP PN D5 HA PP L5 => dJ (zR L5 he hW hcov hWl hml hb1 hb2 (Nat.succ_le_succ (Nat.le_trans hN (by decide))) λ oG ms6 D6 Lx Ks Mx L6 => hQ oG mk nw ms6 D6 Lx _ Ks Mx _ _ _ _ L6))
end
noncomputable def Es : XS := XS.seq (XS.assign (X.eX (X.aB (X.call (fNew 0 iC) X.aH) (X.aB (X.call (fNew 2 bZ) (X.aB (X.var 7) X.aH)) X.aH))) (XA.swap [(8, 70), (9, 85)])) (XS.seq (XS.for (X.var 5) (XA.name 10) (XS.seq (XS.drop (X.cV 0 89 fB (X.var 8) (X.aB (X.call gD (X.aB (X.var 10) (X.aB (X.var 4) X.aH))) X.aH))) XS.nil) 1000) (XS.seq (XS.assign (X.call (bY g7) (X.aB (X.f9 [20] (X.var 7) (XA.name 20) none (X.call cE (X.aB (X.var 2) (X.aB (X.pure (.int 4)) X.aH))) 1000) X.aH)) (XA.name 11)) (XS.seq (XS.ite (X.pQ (X.test (X.bin jD (X.cV 2 59 cX (X.var 9) (X.aB (X.var 11) X.aH)) (X.call gP (X.aB (X.var 11) X.aH)))) (X.pQ (X.test (X.bin iM (X.attr 2 31 (X.var 9)) (X.var 7))) X.orZ)) (XS.seq (XS.ret (X.pure (.bool false))) XS.nil) XS.nil) (XS.seq (XS.ite (X.pQ (X.test (X.bin iM (X.cV 2 98 dQ (X.var 9) X.aH) (X.eX (X.aB (X.pure (.str 48)) (X.aB (X.var 7) (X.aB (X.pure (.str 99)) X.aH)))))) (X.pQ (X.oN (X.test (X.call d8 (X.aB (X.var 8) (X.aB (X.var 9) (X.aB (X.var 5) (X.aB (X.var 4) (X.aB (X.var 7) X.aH)))))))) X.orZ)) (XS.seq (XS.ret (X.pure (.bool false))) XS.nil) XS.nil) (XS.seq (XS.assign (X.iU X.aH) (XA.name 12)) (XS.seq (XS.for (X.call (bY cW) (X.aB (X.bin rY (X.pure (.int 6)) (X.var 3)) X.aH)) (XA.name 13) Gq 1000) (XS.seq (XS.ret (X.pure (.bool true))) XS.nil)))))))
theorem I1 : ∀ (k : Nat) (v : V), okV k v = true → AW v v = true := by
 have key : ∀ (k : Nat), (∀ v : V, okV k v = true → AW v v = true) → ∀ l : List V, l.all (okV k) = true → yC l l = true := by
  intro k h l
  induction l with
  | nil => intro _; rfl
  | cons a l ih =>
   intro hl
   rw [List.all_cons, Bool.and_eq_true] at hl
   show (AW a a && yC l l) = true
   rw [h a hl.1, ih hl.2]; rfl
 intro k
 induction k with
 | zero => intro v h; cases v <;> first | rfl | exact beq_self_eq_true _ | cases h
 | succ k ih => intro v h; cases v <;> first | rfl | exact beq_self_eq_true _ | exact key k ih _ h | cases h
theorem Gb {σ : St} {l : List V} (h : okV 6 (.tup l) = true) : iM (.tup l) (.tup l) σ = some (.bool false, σ) := by
 show oNe (.tup l) (.tup l) σ = _
 unfold oNe
 rw [I3 h h, I1 6 (.tup l) h]; rfl
section
variable {σ : St} {p c ej n : Nat} {b : Int} {W es : List Nat} {l0 l1 l6 : Option V}
noncomputable def Py (l0 l1 l6 l10 yP : Option V) (n p c r ej bj i a f t : Nat) (b : Int) (W es : List Nat) (firsts : List (List (Int × Int))) (k : Nat) (ρ : Loc) (σ' : St) : Prop :=
 E8 λ mk nw ms D trail ls failed clash => Lap σ' p c r ej bj i a f t mk nw b W es ms D firsts trail ls failed clash (50 + 51 * k) ∧ E5 λ w7 Fm Bs yO uP => ρ = [l0, l1, some (.obj p), some (.int (n : Nat)), some (.int b), some (.obj ej), l6, some (.tup (aK W)), some (.inst 0 i), some (.inst 2 r), l10, yP, some (.obj bj), w7, Fm, Bs, yO, uP, none, none, none, none, none]
theorem eB.nil {b : Int} : eB b [] [] := ⟨rfl, (λ x r n h => by cases h), λ _ h => (List.not_mem_nil h).elim⟩
theorem Iq (hp : o6 σ p c) (he : getL σ ej = some (aK es)) (hn : n = es.length) (hn3 : 3 ≤ n) (hn4 : n ≤ 4) (h32 : ∀ m ∈ es, m < 32) (hnz : ∀ m ∈ es, m ≠ 0) (hW : ∀ x ∈ W, x < es.length) (hcov : ∀ x, x < es.length → x ∈ W) (hWl : W.length ≤ 6) (hb1 : -20 ≤ b) (hb2 : b ≤ 20) {Q : Fl → Loc → St → Prop}
  (hret : ∀ ρ σ', Q (.ret (.bool true)) ρ σ') : sp Es [l0, l1, some (.obj p), some (.int (n : Nat)), some (.int b), some (.obj ej), l6, some (.tup (aK W)), none, none, none, none, none, none, none, none, none, none, none, none, none, none, none] σ Q := by
 refine byC λ hG => ?_
 have hpl := hp.lt
 have hel := bE he
 have hes : es.length ≤ 10 := Nat.le_trans (Nat.le_of_eq hn.symm) (Nat.le_trans hn4 (by decide))
 have hil : (aK es).length = es.length := List.length_map _
 obtain ⟨_, aT, e1, i, a, f, t, mk, nw, rfl, hi, hz, s1, E1⟩ := y8 (σ := σ)
 obtain ⟨_, bH, e2, r, rfl, hrl, hr, E2⟩ := BJ (σ := aT) (W := W) (Nat.le_trans hWl (by decide))
 have s2 := s1.d5 E2
 have E02 := E1.then E2
 have hp2 := hp.ext E02 id id
 have he2 := E02.getL he id
 have hnew : ∀ z ∈ [i, a, f, t, mk, nw], σ.length ≤ z := λ z h => by
  rcases List.mem_cons.mp h with rfl | h
  ·exact hi
  ·exact hz z h
 have ia : a ∈ [i, a, f, t, mk, nw] := .tail _ (.head _)
 have PT : f ∈ [i, a, f, t, mk, nw] := .tail _ (.tail _ (.head _))
 have it : t ∈ [i, a, f, t, mk, nw] := .tail _ (.tail _ (.tail _ (.head _)))
 have im : mk ∈ [i, a, f, t, mk, nw] := .tail _ (.tail _ (.tail _ (.tail _ (.head _))))
 have old : ∀ z, z < σ.length → ∀ y ∈ [i, a, f, t, mk, nw], z ≠ y := λ z h y hy => Nat.ne_of_lt (Nat.lt_of_lt_of_le h (hnew y hy))
 have J5 : ∀ z, z < σ.length → ¬ (z = a ∨ z = f) := λ z h q => q.elim (old z h a ia) (old z h f PT)
 have LI : ∀ z, z < σ.length → ¬ (z = i ∨ z = a ∨ z = t ∨ z = nw) := λ z h q => old z h z (G3 q) rfl
 have hri : r ≠ i := Nat.ne_of_gt (Nat.lt_of_lt_of_le (s1.lt i (.head _)) hrl)
 have hrp : r ≠ p := Nat.ne_of_gt (Nat.lt_of_lt_of_le hpl.1 (Nat.le_trans E1.1 hrl))
 refine hG (fY (k5 (aI (aN rfl e1) (aI (aN (aI rfl rfl) e2) rfl)) (Nat.le_of_ble_eq_true rfl)) rfl ?_)
 clear hG
 refine JS (aK es) (Lr (λ v => [l0, l1, some (.obj p), some (.int (n : Nat)), some (.int b), some (.obj ej), l6, some (.tup (aK W)), some (.inst 0 i), some (.inst 2 r), v, none, none, none, none, none, none, none, none, none, none, none, none]) bH i a f t mk nw b es) (v := .obj ej) (aT := bH) rfl ⟨.refl, ⟨_, rfl⟩, [], s2, .nil⟩ (Nat.lt_of_le_of_lt (Nat.le_of_eq hil) (Nat.lt_of_le_of_lt hes (by decide))) ?_ ?_ ?_
 ·rintro k ρ σ' ⟨E, _⟩ hk
  exact Src.list (E.getL he2 (J5 ej hel)) σ' .refl k hk
 ·rintro k vv ρ dT hv ⟨E, ⟨v, rfl⟩, Jc, s3, hm3⟩
  rw [aK, List.getElem?_map] at hv
  obtain ⟨m, hm', rfl⟩ := Option.map_eq_some_iff.mp hv
  have hmm := List.mem_of_getElem? hm'
  obtain ⟨hk, hk2⟩ := List.getElem?_eq_some_iff.mp hm'
  have hdl := hm3.len
  have Li : Jc.length ≤ 100 := by rw [hdl]; exact Nat.le_trans (List.length_take_le' ..) (Nat.le_trans hes (by decide))
  obtain ⟨rv, k8, e4, rr, pM, e5, hrr, rs, s5, hd5, E5⟩ := B5 s3 (h32 m hmm) (hnz m hmm) hb1 hb2 Li Li
  refine ⟨_, _, rfl, λ Q' hn _ => jO (dC rfl (s3.inst (k := 89) rfl) (aI (aN rfl e4) rfl) e5) hrr (dJ (hn _ _ ⟨E.then E5, ⟨_, rfl⟩, _, s5, ?_⟩))⟩
  rw [List.take_succ_eq_append_getElem hk, hk2]
  exact hm3.snoc hd5 (h32 m hmm)
 rintro ρ dT ⟨E3, ⟨v, rfl⟩, doms, s3, hm3⟩
 rw [hil, List.take_length] at hm3
 refine byC λ hG => ?_
 have hp3 := hp2.ext E3 (J5 p hpl.1) (J5 c hpl.2)
 have he3 := E3.getL he2 (J5 ej hel)
 have hr3 := E3.bV hr (λ h => h.elim (f8 hr s2.hd) (f8 hr s2.hf))
 have hWi : (aK W).length = W.length := List.length_map _
 have Mh : (aK W).length ≤ 10 := by rw [hWi]; exact Nat.le_trans hWl (by decide)
 obtain ⟨k8, ys, e4, _, _, E4, hp4, hys, _, hrow⟩ := Cf (p := p) (c := c) (σ := dT) (aT := dT) (v := .tup (aK W)) (ρ := [l0, l1, some (.obj p), some (.int (n : Nat)), some (.int b), some (.obj ej), l6, some (.tup (aK W)), some (.inst 0 i), some (.inst 2 r), v, none, none, none, none, none, none, none, none, none, none, none, none]) (locs := [20]) (f := X.var 7) (a := XA.name 20) (e := X.call cE (X.aB (X.var 2) (X.aB (X.pure (.int 4)) X.aH))) (fuel := 1000) (λ ρ => ∃ x : Option V, ρ = [l0, l1, some (.obj p), some (.int (n : Nat)), some (.int b), some (.obj ej), l6, some (.tup (aK W)), some (.inst 0 i), some (.inst 2 r), v, none, none, none, none, none, none, none, none, none, x, none, none]) 0 4 (aK W) ⟨none, rfl⟩ rfl hp3 (Nat.lt_of_le_of_lt Mh (by decide)) (Nat.le_trans Mh (by decide)) .tup (by
  rintro x _ σ' _ ⟨y, rfl⟩ hp'
  obtain ⟨_, k8, e4, y', rfl, h1, h2, hp4, E4, _⟩ := lN (many := 4) hp' (by decide)
  exact .mk rfl ⟨_, rfl⟩ (aN (aI rfl (aI rfl rfl)) e4) hp4 E4 h1 h2)
 have IC : ys.length ≤ 10 := hys ▸ Mh
 have s4 := s3.ext E4 λ z h => Ne.symm (old p hpl.1 z h)
 obtain ⟨_, _, _, P3⟩ := hp3
 have he4 := E4.getL he3 (Ne.symm (f8 P3.pen he3))
 have hr4 := E4.bV hr3 hrp
 obtain ⟨_, pM, e5, rfl, E5⟩ := AJ (σ := k8) (r := r) (xs := ys) (Nat.le_trans IC (by decide))
 obtain ⟨_, oG, e6, rfl, E6⟩ := Dj (σ := pM) (xs := ys) (Nat.le_trans IC (by decide))
 have E46 := E5.then E6
 have JG := E46.bV hr4 id
 have s6 := s4.d5 E46
 have he6 := E46.getL he4 id
 have hp6 := hp4.ext E46 id id
 have ok : okV 6 (.tup [.str 48, .tup (aK W), .str 99]) = true := by
  show (true && ((aK W).all (okV 4) && (true && true))) = true
  rw [nT]; rfl
 obtain ⟨_, _, e6', rfl, rfl⟩ := GI JG
 obtain ⟨_, EF, e7, rfl, E7, D, ents, rL, failed, f3, s7, hm7, hn7, OW, hTr, O8, hfc⟩ := zS s6 hm3 hm3 rfl hnz JG hri he6 (old ej hel a ia) (old ej hel t it) hW hcov hWl hes hb1 hb2 (Nat.zero_le _)
 have hp7 := hp6.ext E7 (LI p hpl.1) (LI c hpl.2)
 have he7 := E7.getL he6 (LI ej hel)
 obtain ⟨nl, hnl, _⟩ := s6.hn
 have OQ := E7.bV JG (λ h => h.elim hri λ h => h.elim (f8 JG s6.hd) λ h => h.elim (f8 JG s6.ht) (DR JG hnl))
 have P8 : bW EF (EF ++ [O.list []]) := .push _
 have L8 : Lap (EF ++ [O.list []]) p c r ej EF.length i a f t mk nw b W es rL D doms ents [] failed f3 50 := by
  refine ⟨s7.d5 P8, hfc, hm7, hn7, OW, hp7.ext P8 id id, P8.bV OQ id, P8.getL he7 id, cH, (λ l h => by cases h), .nil, ⟨old p hpl.1 i (.head _), hri, hrp⟩, λ z hz' => ?_, ⟨Nat.ne_of_gt hp7.lt.2, Nat.ne_of_gt (bE he7), (λ l h => by cases h)⟩, O8, Nat.zero_le _⟩
  have q : ∀ z, (∀ y ∈ [i, a, f, t, mk, nw], z ≠ y) → A4 (z ≠ a) (z ≠ f) (z ≠ t) (z ≠ mk) := λ z h => ⟨h a ia, h f PT, h t it, h mk im⟩
  rcases List.mem_cons.mp hz' with rfl | hz'
  ·exact q _ (old _ hpl.2)
  rcases List.mem_cons.mp hz' with rfl | hz'
  ·exact q _ (old _ hel)
  ·cases List.mem_singleton.mp hz'
   exact q _ λ y hy => Nat.ne_of_gt (s7.lt y hy)
 have e6n : (6 : Int) - (n : Int) = ((6 - n : Nat) : Int) := (Int.ofNat_sub (Nat.le_trans hn4 (by decide : 4 ≤ 6))).symm
 have n6 : 6 - n ≤ 3 := Nat.sub_le_sub_left hn3 6
 have hrl : (List.range (6 - n)).length = 6 - n := List.length_range
 refine hG (fY (aN (aI e4 rfl) (qG hrow (by rw [List.length_map]; exact Nat.le_trans IC (by decide)))) rfl (c6 (gB (aP (aQ (dC rfl (gC (n := 59) hr4 rfl) (aI rfl rfl) e5) (aN (aI rfl rfl) e6) FJ)) (gB (aP (aQ (bQ rfl (bC (n := 31) JG rfl)) rfl (Gb (nT 5 W)))) rfl)) (c6 (gB (aP (aQ (dC rfl (gC (n := 98) JG rfl) rfl e6') (k5 (aI rfl (aI rfl (aI rfl rfl))) (Nat.le_of_ble_eq_true rfl)) (Gb ok))) (gB (kT (aP (aN rfl e7))) rfl)) (fY (mY rfl (Nat.zero_le _)) rfl ?_))))
 clear hG
 refine nR (List.range (6 - n)) (λ k => .int (k : Nat)) (Py l0 l1 l6 v (some (.tup (ys.map .int))) n p c r ej EF.length i a f t b W es doms) (v := .range 0 ((6 - n : Nat) : Int)) (aT := EF ++ [O.list []]) (aN (aI (aQ rfl rfl (congrArg (λ z => some (V.int z, EF ++ [O.list []])) e6n)) rfl) rfl) ⟨mk, nw, rL, D, ents, [], failed, f3, L8, _, _, _, _, _, rfl⟩ (Nat.lt_of_le_of_lt (Nat.le_of_eq hrl) (Nat.lt_of_le_of_lt n6 (by decide))) (λ k ρ σ' _ hk => oK (σ := σ') (Nat.le_trans n6 (by decide)) σ' .refl k (by rw [List.length_map]; exact hk)) ?_ ?_
 ·rintro k x ρ σ9 hx ⟨mk, nw, ms9, D9, Lw, ls9, Kr, Mw, L9, w7, Fm, Bs, yO, uP, rfl⟩
  have hk := (List.getElem?_eq_some_iff.mp hx).1
  rw [hrl] at hk
  have hk3 := Nat.le_trans (Nat.le_of_lt hk) n6
  exact ⟨rfl, λ Q' hn' hr' => Ir L9 hm3 hnz hn hW hcov hWl hes hb1 hb2 (Nat.le_trans (Nat.add_le_add_left (Nat.mul_le_mul_left 51 hk3) 50) (by decide)) (λ ρ σ' => hr' _ _ _ (hret ρ σ')) λ σ' mk' Bq OL D10 JI OO IP Kx m14 m15 m16 m17 Qt => hn' _ _ ⟨mk', Bq, OL, D10, JI, OO, IP, Kx, Qt.mono (Nat.le_of_eq (by rw [Nat.mul_succ, Nat.add_assoc])), _, _, _, _, _, rfl⟩⟩
 ·rintro ρ σ9 ⟨mk, nw, ms9, D9, Lw, ls9, Kr, Mw, L9, w7, Fm, Bs, yO, uP, rfl⟩
  exact lW rfl (hret _ _)
end
noncomputable def FL (x : Int) : Int := (if x < 0 then -x else x) % 1000003
theorem KA (x : Int) : 0 ≤ FL x ∧ FL x < 1000003 := ⟨Int.emod_nonneg _ (by decide), Int.emod_lt_of_pos _ (by decide)⟩
noncomputable def rot (t n : Nat) : List Nat := (List.range' t (n - t)) ++ List.range t
theorem uM {t n x : Nat} (h : t ≤ n) : x ∈ rot t n ↔ x < n := by
 unfold rot
 rw [List.mem_append, List.mem_range'_1, List.mem_range, Nat.add_sub_cancel' h]
 exact ⟨λ a => a.elim (λ a => a.2) λ a => Nat.lt_of_lt_of_le a h, λ a => (Nat.lt_or_ge x t).elim .inr λ b => .inl ⟨b, a⟩⟩
theorem JT {t n : Nat} (h : t ≤ n) : (rot t n).length = n := by
 unfold rot
 rw [List.length_append, List.length_range', List.length_range, Nat.sub_add_cancel h]
theorem DV (t n : Nat) : (rangeInts (t : Nat) (n : Nat)).map V.int = aK (List.range' t (n - t)) := by
 unfold rangeInts aK
 rw [List.range'_eq_map_range, List.map_map, List.map_map, show ((n : Int) - (t : Int)).toNat = n - t by lia]
 exact List.map_congr_left λ k _ => rfl
section
variable {σ : St}
theorem Gi {g : V → St → Option (V × St)} {a : V} {r : Option (V × St)} (h : g a σ = r) : bY g [a] σ = r := h
theorem Nt (a : Int) : oMod (.int a) (.int 1000003) σ = some (.int (a % 1000003), σ) := by
 unfold oMod
 dsimp only
 rw [if_neg (by decide), Int.fmod_eq_emod_of_nonneg _ (by decide)]
theorem Dk {x y : Nat} (hx : x ≤ 100) (hy : y ≤ 100) : g7 (.range (x : Nat) (y : Nat)) σ = some (.tup (aK (List.range' x (y - x))), σ) := by
 unfold g7
 dsimp only
 rw [if_pos, DV]
 exact ⟨small_one (Int.le_trans (by decide) (Int.natCast_nonneg x)) (Int.lt_of_le_of_lt (Int.ofNat_le.mpr hx) (by decide)) (Int.le_trans (by decide) (Int.natCast_nonneg y)) (Int.lt_of_le_of_lt (Int.ofNat_le.mpr hy) (by decide)), Nat.le_trans (Nat.le_of_eq (Int.toNat_sub y x)) (Nat.le_trans (Nat.sub_le ..) (Nat.le_trans hy (by decide)))⟩
theorem EB {l m : List Nat} (h : l.length + m.length ≤ 1000) : eR (.tup (aK l)) (.tup (aK m)) σ = some (.tup (aK (l ++ m)), σ) := by
 unfold eR
 dsimp only
 rw [if_pos (by unfold aK; rw [List.length_map, List.length_map]; exact h)]
 unfold aK
 rw [List.map_append]
theorem take_one {l : List Nat} (h0 : 1 < l.length) (h : l.length ≤ 1000) : gX (.tup (aK l)) none (some 1) σ = some (.tup (aK (l.take 1)), σ) := by
 have e : (aK l).length = l.length := List.length_map _
 unfold gX
 dsimp only
 rw [if_pos ⟨by decide, by rw [e]; exact Int.ofNat_lt.mpr h0, by rw [e]; exact h⟩]
 unfold aK
 rw [List.map_take]; rfl
theorem Iw {l : List Int} (h : ∀ u ∈ l, 0 ≤ u) : l.map V.int = aK (l.map Int.toNat) := by
 unfold aK
 rw [List.map_map]
 exact List.map_congr_left λ u hu => congrArg V.int (Int.toNat_of_nonneg (h u hu)).symm
theorem y2 {p c n : Nat} (hp : o6 σ p c) (h : 0 < n) : E2 λ σ' k => A4 (cE [.obj p, .int (n : Nat)] σ = some (.int (k : Nat), σ')) (k < n) (o6 σ' p c) (Ext (λ z => z = p) σ σ') := by
 obtain ⟨_, σ', e, y, rfl, h0, h1, hp', E, _⟩ := lN hp (Int.ofNat_lt.mpr h)
 obtain ⟨k, rfl⟩ := Int.eq_ofNat_of_zero_le h0
 exact ⟨σ', k, e, Int.ofNat_lt.mp h1, hp', E⟩
end
theorem Ip (ns : List Int) (hns : ns.length ≤ 63) : ∃ σ', EE [.zH ns] [] = some (.bool true, σ') := by
 refine byC λ hF => ?_
 have hG : ¬ wp (EE [.zH ns] []) λ v _ => v = .bool true := λ ⟨v, σ', e, h⟩ => hF ⟨σ', h ▸ e⟩
 clear hF
 have tl : (ns.take 30).length ≤ 30 := List.length_take_le ..
 have A0 : gX (.zH ns) none (some 30) [] = some (.obj 0, [.list ((ns.take 30).map .int)]) := by
  unfold gX
  dsimp only
  rw [if_pos ⟨by decide, Nat.le_trans hns (by decide)⟩]
  rfl
 refine evMap (α := Int) (σ := []) (aT := [O.list ((ns.take 30).map V.int)]) (locs := [22]) (f := X.slice (X.var 0) none (some (X.pure (.int 30)))) (a := XA.name 22) (t := none) (e := X.bin oMod (X.call (bY Mn) (X.aB (X.var 22) X.aH)) (X.pure (.int 1000003))) (fuel := 1000) (ρ := [some (.zH ns), none, none, none, none, none, none, none, none, none, none, none, none, none, none, none, none, none, none, none, none, none, none]) (λ ρ => ∃ x : Option V, ρ = [some (.zH ns), none, none, none, none, none, none, none, none, none, none, none, none, none, none, none, none, none, none, none, none, none, x]) (ns.take 30) V.int (λ x => some (.int (FL x))) ⟨none, rfl⟩ (Nat.le_trans tl (by decide)) (Src.list rfl) (λ aT e1 E1 hc1 => ?_) (rO rfl rfl A0) (Nat.lt_of_le_of_lt tl (by decide)) (by
  rintro x _ σ' _ ⟨y, rfl⟩ E
  exact .put rfl ⟨_, rfl⟩ rfl (aQ (aN (aI rfl rfl) rfl) rfl (Nt _)) rfl .refl)
 have hcell : ∀ x ∈ (ns.take 30).map FL, 0 ≤ x ∧ x < 1000003 := λ x hx => by
  obtain ⟨y, _, rfl⟩ := List.mem_map.mp hx
  exact KA y
 have hcl : ((ns.take 30).map FL).length ≤ 30 := by rw [List.length_map]; exact tl
 have hc1 : getL aT 1 = some (((ns.take 30).map FL).map .int) := by rw [List.map_map, ← Ax]; exact hc1
 generalize (ns.take 30).map FL = cells at hcell hcl hc1
 have hcj := bE hc1
 have e2 := Fv hc1 (Nat.le_trans hcl (by decide)) λ x hx => ⟨Int.le_trans (by decide) (hcell x hx).1, Int.le_trans (Int.le_of_lt (hcell x hx).2) (by decide)⟩
 have hm0 := Int.emod_nonneg (vS cells) (show (1000003 : Int) ≠ 0 by decide)
 have hm1 := Int.emod_lt_of_pos (vS cells) (show (0 : Int) < 1000003 by decide)
 have PV := Nt (σ := aT) (vS cells)
 generalize vS cells % 1000003 = mx at hm0 hm1 PV
 have P2 : bW aT (aT ++ [O.aW [(64, V.obj 1), (63, V.int 0), (61, V.int (17 + mx))]]) := .push _
 have hp2 : o6 (aT ++ [O.aW [(64, V.obj 1), (63, V.int 0), (61, V.int (17 + mx))]]) aT.length 1 :=
  ⟨0, 17 + mx, cells, Aw, Nat.ne_of_lt hcj, P2.getL hc1 id, by decide, by lia, by lia, λ x hx => (hcell x hx).1, Nat.le_trans hcl (by decide)⟩
 obtain ⟨dT, y, e3, y1, hp3, E3⟩ := y2 (n := 2) hp2 (by decide)
 have e3n : eR (.int 3) (.int (y : Nat)) dT = some (.int ((3 + y : Nat) : Int), dT) := rfl
 obtain ⟨_, k8, e4, z, rfl, z0, z1, hp4, E4, _⟩ := lN (many := 5) hp3 (by decide)
 have hn3 : 3 ≤ 3 + y := Nat.le_add_right _ _
 have hn4 : 3 + y ≤ 4 := Nat.add_le_add_left (Nat.le_of_lt_succ y1) 3
 have hrl : ((rangeInts 0 ((3 + y : Nat) : Int)).map V.int).length = 3 + y := by rw [List.length_map, BM, Int.sub_zero]; rfl
 obtain ⟨pM, ys, e5, _, _, _, hp5, hyl, hyb, hej⟩ := Cf (p := aT.length) (c := 1) (σ := k8) (aT := k8) (v := .range 0 ((3 + y : Nat) : Int)) (ρ := [some (.zH ns), some (.obj 1), some (.obj aT.length), some (.int ((3 + y : Nat) : Int)), some (.int (z - 2)), none, none, none, none, none, none, none, none, none, none, none, none, none, none, none, none, none, none]) (locs := [21]) (f := X.call (bY cW) (X.aB (X.var 3) X.aH)) (a := XA.name 21) (e := X.bin eR (X.pure (.int 1)) (X.call cE (X.aB (X.var 2) (X.aB (X.pure (.int 31)) X.aH)))) (fuel := 1000) (λ ρ => ∃ x : Option V, ρ = [some (.zH ns), some (.obj 1), some (.obj aT.length), some (.int ((3 + y : Nat) : Int)), some (.int (z - 2)), none, none, none, none, none, none, none, none, none, none, none, none, none, none, none, none, x, none]) 1 32 ((rangeInts 0 ((3 + y : Nat) : Int)).map V.int) ⟨none, rfl⟩ rfl hp4 (by rw [hrl]; exact Nat.lt_of_le_of_lt hn4 (by decide)) (by rw [hrl]; exact Nat.le_trans hn4 (by decide)) (.range (by decide) (by decide) (by lia) (by lia)) (by
  rintro x _ σ' _ ⟨y, rfl⟩ hp'
  obtain ⟨_, pM, e5, w, rfl, w0, w1, hp5, E5, _⟩ := lN (many := 31) hp' (by decide)
  exact .mk rfl ⟨_, rfl⟩ (aQ rfl (aN (aI rfl (aI rfl rfl)) e5) rfl) hp5 E5 (Int.add_le_add_left w0 1) (Int.add_lt_add_left w1 1))
 rw [hrl] at hyl
 rw [Iw λ u hu => Int.le_trans (by decide) (hyb u hu).1] at hej
 have Kl : (ys.map Int.toNat).length = 3 + y := by rw [List.length_map]; exact hyl
 have NP : ∀ m ∈ ys.map Int.toNat, m < 32 := λ m hm => by
  obtain ⟨u, hu, rfl⟩ := List.mem_map.mp hm
  have := hyb u hu; lia
 have NO : ∀ m ∈ ys.map Int.toNat, m ≠ 0 := λ m hm => by
  obtain ⟨u, hu, rfl⟩ := List.mem_map.mp hm
  have := hyb u hu; lia
 generalize ys.map Int.toNat = es at hej Kl NP NO
 obtain ⟨oG, t, e6, ht, hp6, E6⟩ := y2 (n := 3 + y) hp5 (Nat.lt_of_lt_of_le (by decide) hn3)
 have htn := Nat.le_of_lt ht
 have G8 := JT htn
 have Lb := Nat.le_trans htn (Nat.le_trans hn4 (by decide : 4 ≤ 100))
 have g1 := Dk (σ := oG) Lb (Nat.le_trans hn4 (by decide : 4 ≤ 100))
 have g2 := Dk (σ := oG) (Nat.zero_le 100) Lb
 rw [Nat.sub_zero, ← List.range_eq_range'] at g2
 have g3 : eR (.tup (aK (List.range' t (3 + y - t)))) (.tup (aK (List.range t))) oG = some (.tup (aK (rot t (3 + y))), oG) := EB (by
  rw [← List.length_append]; exact Nat.le_trans (Nat.le_of_eq G8) (Nat.le_trans hn4 (by decide)))
 have q1 : X.call (tJ oV) (X.aB (X.var 6) (X.aB (X.var 3) X.aH)) [some (.zH ns), some (.obj 1), some (.obj aT.length), some (.int ((3 + y : Nat) : Int)), some (.int (z - 2)), some (.obj k8.length), some (.int (t : Nat)), none, none, none, none, none, none, none, none, none, none, none, none, none, none, none, none] oG = some (.range (t : Nat) ((3 + y : Nat) : Int), oG) := aN (aI rfl (aI rfl rfl)) rfl
 have q2 : X.call (bY cW) (X.aB (X.var 6) X.aH) [some (.zH ns), some (.obj 1), some (.obj aT.length), some (.int ((3 + y : Nat) : Int)), some (.int (z - 2)), some (.obj k8.length), some (.int (t : Nat)), none, none, none, none, none, none, none, none, none, none, none, none, none, none, none, none] oG = some (.range 0 (t : Nat), oG) := aN (aI rfl rfl) rfl
 have Qj : X.bin eR (X.call (bY g7) (X.aB (X.call (tJ oV) (X.aB (X.var 6) (X.aB (X.var 3) X.aH))) X.aH)) (X.call (bY g7) (X.aB (X.call (bY cW) (X.aB (X.var 6) X.aH)) X.aH)) [some (.zH ns), some (.obj 1), some (.obj aT.length), some (.int ((3 + y : Nat) : Int)), some (.int (z - 2)), some (.obj k8.length), some (.int (t : Nat)), none, none, none, none, none, none, none, none, none, none, none, none, none, none, none, none] oG = _ := aQ (aN (aI q1 rfl) (Gi g1)) (aN (aI q2 rfl) (Gi g2)) g3
 obtain ⟨EF, w, e7, _, hp7, E7⟩ := y2 (n := 14) hp6 (by decide)
 have NQ : k8.length ≠ aT.length := Nat.ne_of_gt hp4.lt.1
 have Km := E7.getL (E6.getL hej NQ) NQ
 have b1 : -20 ≤ z - 2 := by lia
 have b2 : z - 2 ≤ 20 := by lia
 have fin : ∀ W : List Nat, (∀ x ∈ W, x < 3 + y) → (∀ x, x < 3 + y → x ∈ W) → W.length ≤ 6 → ∀ Q : Fl → Loc → St → Prop, (∀ ρ σ', Q (.ret (.bool true)) ρ σ') →
   sp Es [some (.zH ns), some (.obj 1), some (.obj aT.length), some (.int ((3 + y : Nat) : Int)), some (.int (z - 2)), some (.obj k8.length), some (.int (t : Nat)), some (.tup (aK W)), none, none, none, none, none, none, none, none, none, none, none, none, none, none, none] EF Q :=
  λ W h1 h2 h3 Q hQ => Iq hp7 Km Kl.symm hn3 hn4 NP NO (by rw [Kl]; exact h1) (by rw [Kl]; exact h2) h3 b1 b2 hQ
 refine hG (wp_runF rfl (fY e1 rfl (fY (Gk (oX rfl rfl (oX rfl rfl (oX rfl (aQ rfl (aQ (aN (aI rfl rfl) e2) rfl PV) rfl) rfl))) rfl) rfl (fY (k5 (aI (aQ rfl (aN (aI rfl (aI rfl rfl)) e3) e3n) (aI (aQ (aN (aI rfl (aI rfl rfl)) e4) rfl rfl) rfl)) (Nat.le_of_ble_eq_true rfl)) rfl (fY e5 rfl (fY (aN (aI rfl (aI rfl rfl)) e6) rfl (fY Qj rfl ?_)))))))
 clear hG
 have ew := eq_int (σ := EF) (a := (w : Nat)) (b := 13)
 by_cases hw : (w : Int) = 13
 ·rw [decide_eq_true hw] at ew
  refine kY (aP (aQ (aN (aI rfl (aI rfl rfl)) e7) rfl ew)) (fY (aQ rfl (rO rfl rfl (take_one (Nat.lt_of_lt_of_le (by decide) (Nat.le_trans hn3 (Nat.le_of_eq G8.symm))) (Nat.le_trans (Nat.le_of_eq G8) (Nat.le_trans hn4 (by decide))))) (EB ?_)) rfl (dJ (fin _ (λ x hx => ?_) (λ x hx => List.mem_append_left _ ((uM htn).mpr hx)) ?_ _ λ ρ σ' => rfl)))
  ·rw [G8, List.length_take]; exact Nat.le_trans (Nat.add_le_add hn4 (Nat.min_le_left ..)) (by decide)
  ·rcases List.mem_append.mp hx with h | h
   ·exact (uM htn).mp h
   ·exact (uM htn).mp (List.mem_of_mem_take h)
  ·rw [List.length_append, G8, List.length_take]; exact Nat.le_trans (Nat.add_le_add hn4 (Nat.min_le_left ..)) (by decide)
 ·rw [decide_eq_false hw] at ew
  exact c6 (aP (aQ (aN (aI rfl (aI rfl rfl)) e7) rfl ew)) (fin _ (λ x hx => (uM htn).mp hx) (λ x hx => (uM htn).mpr hx) (Nat.le_trans (Nat.le_of_eq G8) (Nat.le_trans hn4 (by decide))) _ λ ρ σ' => rfl)
end Mine
end
section
open PySem PySem.W PyProof.Rows PySem.Calls
namespace Mine
theorem CT {p q : Program} {loose : List Str} {Xt : Shared → Bool} {α : Type} {Yf : Shared → α} {Ya : World → α} {N : Nat} {g0 : Bool} {H₀ : Params → Heap} {gs₀ : Array GenState} {d₀ : Drawn} {k₀ : Nat} {m₀ : Nat} {ann : Option Value}
  (open_ : ∀ w : World, (fencedOpening treeTable p w N).map (λ s => (s.heap, s.gens, s.drawn, s.toks)) = some (H₀ w.params, gs₀, d₀, k₀))
  (size : ∀ w : World, ((H₀ w.params).isNs mainGlobals && gs₀.size == 0, (H₀ w.params).objs.size, (H₀ w.params).nsMap mainGlobals "__annotations__") = (true, m₀, ann))
  (run : ∀ (w : World) (os : OsState), ∃ s₁, topRun treeTable p w m₀ ann N ⟨H₀ w.params, gs₀, d₀, k₀, os⟩ (topStub p) = some s₁ ∧ (staticsOk (importedModules p.main.body) (H₀ w.params) s₁.heap && namesBound p s₁.heap && gensDone s₁ && laidKept (H₀ w.params) s₁.heap) = true ∧
   (openSeen q loose (importedModules p.main.body) Xt g0 s₁, Yf s₁) = (openGood q loose, Ya w)) : LeftO p q loose Xt Yf Ya N g0 := λ w => by
 obtain ⟨⟨h, gs, d, k, os⟩, e, e'⟩ := Option.map_eq_some_iff.mp (open_ w)
 obtain ⟨rfl, rfl, rfl, rfl⟩ : h = H₀ w.params ∧ gs = gs₀ ∧ d = d₀ ∧ k = k₀ := by simpa using e'
 obtain ⟨z1, z2, z3⟩ : _ ∧ _ ∧ _ := by simpa only [Prod.mk.injEq] using size w
 obtain ⟨s₁, r, l1, l2⟩ := run w os
 have t : topFrom treeTable p w N ⟨H₀ w.params, gs, d, k, os⟩ = some s₁ := by
  unfold topFrom
  dsimp only
  rw [z1, z2, z3, r]
  show (match staticsOk (importedModules p.main.body) (H₀ w.params) s₁.heap && namesBound p s₁.heap && gensDone s₁ && laidKept (H₀ w.params) s₁.heap with | true => _ | false => _) = _
  rw [l1]
 unfold openEnds
 rw [e]
 show (topFrom treeTable p w N _).map _ = _
 rw [t]
 exact congrArg some l2
noncomputable abbrev pR : Program := PySem.Challenge.rw_xw0067_01.row.toRowW.1
noncomputable def qV : Program := view pR [0, 2, 3, 4, 5, 6, 7, 8, 9, 10, 11, 12, 13, 14, 16, 17, 19, 20, 22, 23, 24, 25, 26, 27, 28, 29, 30, 31, 32, 33, 34, 35]
noncomputable def Bo : Pos := ⟨0, 0, 0, 0⟩
noncomputable def LG : Pos := ⟨340, 0, 376, 15⟩
noncomputable def I4 : Env := { scope := pR.main.scope, locals := mainNs, globals := mainNs, cells := [], code := .ref 13, frame := some 14 }
noncomputable def OG : Obj := { cls := .type "tuple", data := .seq #[] }
noncomputable def PL : Obj := { cls := .none, data := .fields #[] }
noncomputable def OF : Obj := { cls := .type "code", data := .fields #[.str "<module>" 182, .str "<module>" 183, .str "/claim/cut.py" 184, .int 1 0, .int 0 0, .int 0 0, .int 0 0, .int 0 0, .ref 11, .bool false, .int 181 0, .ref 12, .none, .none, .none, .none, .int 185 0, .int 1 0, .str "/claim/cut.py" 186] }
noncomputable def OE : Obj := { cls := .type "frame", slots := #[some (.ref 13), some (.ref 3), some (.ref 3), none, some (.str "__main__" 164), none, some (.ref 0)] }
noncomputable def Lh (P : Params) : Heap := { objs := #[boot_o_0 P, boot_o_1 P, boot_o_2 P, boot_o_3 P, boot_o_4 P, boot_o_5 P, boot_o_6 P, boot_o_7 P, boot_o_8 P, boot_o_9 P, boot_o_10 P, OG, PL, OF, OE] }
noncomputable def leaf (o : Obj) : BT := .node o .nil .nil
noncomputable def MY (P : Params) : BT :=
 .node (boot_o_0 P) (.node (boot_o_1 P) (.node (boot_o_3 P) (leaf (boot_o_7 P)) (leaf OG)) (.node (boot_o_5 P) (leaf (boot_o_9 P)) (leaf OF)))
  (.node (boot_o_2 P) (.node (boot_o_4 P) (leaf (boot_o_8 P)) (leaf PL)) (.node (boot_o_6 P) (leaf (boot_o_10 P)) (leaf OE)))
noncomputable def qO : Code := .body (behindTheImports pR) I4
noncomputable def sT (w : World) (os : OsState) : SharedT := { tree := MY w.params, n := 15, life := {}, gens := #[], drawn := {}, toks := 187, os := os }
theorem LF : ∀ w : World, (λ os => topGo treeTable pR w 11 (some (.ref 6)) 12 ⟨boot_heap w.params, #[], boot_drawn, boot_toks, os⟩ (topStub pR)) = λ os => some (⟨Lh w.params, #[], {}, 187, os⟩, ⟨denote treeTable qO, qO, Bo, [topFrame Bo]⟩) := λ w => by kernel_rfl
theorem Jp : ∀ w : World, (λ os => segRun treeTable pR w 11 (some (.ref 6)) 1 1 ⟨Lh w.params, #[], {}, 187, os⟩ (blockOf (behindTheImports pR) I4 qO Bo [topFrame Bo])) = λ os => some (.next, (sT w os).abs, qO, Bo) := λ w => by kernel_rfl
theorem J4 : ∀ w : World, (fencedOpening treeTable pR w 5632).map (λ s => (s.heap, s.gens, s.drawn, s.toks)) = some (boot_heap w.params, Array.mk [], boot_drawn, boot_toks) := boot_open (by kernel_rfl) (by decide) (λ s => by kernel_rfl)
theorem JO : ∀ w : World, ((boot_heap w.params).isNs mainGlobals && (Array.mk ([] : List GenState)).size == 0, (boot_heap w.params).objs.size, (boot_heap w.params).nsMap mainGlobals "__annotations__") = (true, 11, some (.ref 6)) := λ w => by kernel_rfl
noncomputable def cN (i : Nat) : Stmt := (PySem.Challenge.pw_xw0067_01.main.body[i]?).getD (.Pass ⟨0, 0, 0, 0⟩)
noncomputable def Mz : Stmt → List Stmt
 | .ClassDef (body := b) .. => b
 | _ => []
noncomputable def eO (i j : Nat) : Stmt := ((Mz (cN i))[j]?).getD (.Pass ⟨0, 0, 0, 0⟩)
noncomputable def cG : Stmt → List Stmt
 | .FunctionDef (body := b) .. => b
 | _ => []
noncomputable def bN : Stmt → Scope
 | .FunctionDef (scope := s) .. => s
 | _ => default
noncomputable def Fz : Stmt → Arguments
 | .FunctionDef (args := s) .. => s
 | _ => default
noncomputable def S (x : String) (t : Nat) : Value := .str (Str.ofString x) t
noncomputable def D (P : Params) (n : Nat) (l : List (String × Nat × Value)) : Obj := { cls := .type "dict", data := .dict (l.map λ e => ⟨PyData.keyHash P (Str.ofString e.1), .str (Str.ofString e.1) e.2.1, e.2.2⟩).toArray n }
noncomputable def fO (st : Stmt) (name qual : String) (m : Value) (code : Nat) (cl : List (String × Nat)) (ct : Value) : Obj :=
 { cls := .type "function", data := .func { name := Str.ofString name, qualname := Str.ofString qual, params := Fz st, body := .stmts (cG st), scope := bN st, globals := 3, closure := cl.map λ x => (Str.ofString x.1, x.2), defaults := .none, kwdefaults := .none, pyModule := m, code := .ref code, closureTuple := ct } }
noncomputable def cO (name qual : String) (t line n : Nat) (x7 x8 x9 x11 x12 PY x14 x15 : Value) (t3 t4 : Nat) : Obj :=
 { cls := .type "code", data := .fields #[S name t, S qual (t + 1), S "/claim/cut.py" (t + 2), .int line 0, .int n 0, .int 0 0, .int 0 0, x7, x8, x9, .int 181 0, x11, x12, PY, x14, x15, .int t3 0, .int line 0, S "/claim/cut.py" t4] }
noncomputable def m0 : Value := S "__main__" 164
noncomputable def m1 : Value := S "fdsolve.domains" 194
noncomputable def m2 : Value := S "fdsolve.store" 301
noncomputable def m3 : Value := S "fdsolve.alldiff" 550
noncomputable def m4 : Value := S "law_xw0067_01" 684
noncomputable def f1 (st : Stmt) (name qual : String) (m : Value) (c : Nat) : Obj := fO st name qual m c [] .none
noncomputable def c5 (name qual : String) (t line n b : Nat) : Obj := cO name qual t line n (.int 3 0) (.ref b) (.bool true) (.ref (b + 1)) .none .none .none (.ref (b + 2)) (t + 3) (t + 4)
noncomputable def c7 (name qual : String) (t line n b k : Nat) : Obj := cO name qual t line n (.int 3 0) (.ref b) (.bool true) (.ref (b + 1)) .none (.ref (b + 2)) (.ref (b + 3)) (.ref (b + 4)) (t + 3 + k) (t + 4 + k)
noncomputable def Nr : List (String × Nat × Value) := [("__doc__", 166, .none), ("__package__", 167, .none), ("__loader__", 168, (.builtin "__main__.__loader__#opaque")), ("__spec__", 169, .none), ("__annotations__", 170, (.ref 6)), ("__builtins__", 171, (.ref 4)), ("__file__", 173, (S "/claim/cut.py" 172)), ("__cached__", 174, .none), ("_wall", 193, (.ref 21)), ("least", 202, (.ref 28)), ("greatest", 209, (.ref 35)), ("next_from", 219, (.ref 42)), ("has", 227, (.ref 49)), ("has_domains", 228, (.ref 49)), ("values", 238, (.ref 56)), ("up_to", 244, (.ref 61)), ("from_on", 250, (.ref 66)), ("without", 258, (.ref 73)), ("meet", 271, (.ref 80)), ("negation", 281, (.ref 87)), ("struck", 291, (.ref 94)), ("said_of", 300, (.ref 101)), ("Store", 494, (.ref 251)), ("Propagator", 549, (.ref 293)), ("Matching", 616, (.ref 333)), ("AllDifferentValues", 683, (.ref 382)), ("_law_take", 694, (.ref 391)), ("_law_count", 700, (.ref 396)), ("_law_ranges", 710, (.ref 403)), ("_law_lot", 716, (.ref 408)), ("_law_lots", 722, (.ref 413)), ("_law_part", 736, (.ref 420)), ("_law_can_sit", 749, (.ref 427)), ("_law_staying", 755, (.ref 432)), ("_law_bars", 767, (.ref 439)), ("_law_stood", 773, (.ref 444)), ("_law_are_told_right", 792, (.ref 451)), ("_law_is_right", 809, (.ref 458)), ("_law_are_unlike", 815, (.ref 463)), ("law", 821, (.ref 468))]
noncomputable def eS : List (String × Nat × Value) := [("__module__", 310, m2), ("__firstlineno__", 314, (.int 59 313)), ("__init__", 321, (.ref 115)), ("new_var", 329, (.ref 122)), ("size", 336, (.ref 129)), ("dom", 344, (.ref 136)), ("initial", 352, (.ref 143)), ("low", 360, (.ref 150)), ("high", 368, (.ref 157)), ("has", 377, (.ref 164)), ("is_fixed", 385, (.ref 171)), ("value", 393, (.ref 178)), ("width", 401, (.ref 185)), ("holds", 409, (.ref 192)), ("enter", 422, (.ref 199)), ("strike", 431, (.ref 206)), ("decide", 439, (.ref 213)), ("fail", 447, (.ref 220)), ("push", 454, (.ref 227)), ("pop", 464, (.ref 234)), ("depth", 471, (.ref 241)), ("changed", 478, (.ref 248)), ("__static_attributes__", 487, (.ref 249)), ("__dict__", 489, (.ref 252)), ("__weakref__", 491, (.ref 253)), ("__doc__", 492, .none)]
noncomputable def eP : List (String × Nat × Value) := [("__module__", 502, m2), ("__firstlineno__", 506, (.int 152 505)), ("__init__", 515, (.ref 269)), ("propagate", 523, (.ref 276)), ("check", 531, (.ref 283)), ("told", 538, (.ref 290)), ("__static_attributes__", 542, (.ref 291)), ("__dict__", 544, (.ref 294)), ("__weakref__", 546, (.ref 295)), ("__doc__", 547, .none)]
noncomputable def eM : List (String × Nat × Value) := [("__module__", 559, m3), ("__firstlineno__", 563, (.int 168 562)), ("__init__", 569, (.ref 309)), ("seat", 581, (.ref 316)), ("hand_on", 592, (.ref 323)), ("closed_from", 605, (.ref 330)), ("__static_attributes__", 609, (.ref 331)), ("__dict__", 611, (.ref 334)), ("__weakref__", 613, (.ref 335)), ("__doc__", 614, .none)]
noncomputable def eA : List (String × Nat × Value) := [("__module__", 624, m3), ("__firstlineno__", 628, (.int 208 627)), ("__init__", 637, (.ref 353)), ("told", 644, (.ref 360)), ("check", 650, (.ref 365)), ("propagate", 664, (.ref 372)), ("walls", 678, (.ref 379)), ("__static_attributes__", 679, (.ref 380)), ("__doc__", 681, .none)]
noncomputable def Qq : List Addr := [2, 3, 55, 56, 60, 61, 65, 66, 72, 73, 79, 80, 86, 87, 93, 94, 114, 115, 121, 122, 128, 129, 135, 136, 142, 143, 198, 199, 205, 206, 212, 213, 219, 220, 226, 227, 233, 234, 250, 251, 268, 269, 292, 293, 308, 309, 315, 316, 322, 323, 329, 330, 332, 333, 341, 352, 353, 359, 360, 364, 365, 371, 372, 378, 379, 381, 382, 390, 391, 395, 396, 402, 403, 407, 408, 412, 413, 419, 420, 426, 427, 431, 432, 438, 439, 443, 444, 450, 451, 457, 458, 462, 463, 467, 468]
noncomputable def KQ (P : Params) : Frag := [
 (2, { cls := .none, data := .dict #[] }),
 (3, D P 41 (("__name__", 165, m4) :: Nr)),
 (55, c7 "values" "values" 229 17 1 50 4),
 (56, f1 (cN 7) "values" "values" m1 55),
 (60, c5 "up_to" "up_to" 239 22 2 57),
 (61, f1 (cN 8) "up_to" "up_to" m1 60),
 (65, c5 "from_on" "from_on" 245 24 2 62),
 (66, f1 (cN 9) "from_on" "from_on" m1 65),
 (72, c7 "without" "without" 251 26 2 67 2),
 (73, f1 (cN 10) "without" "without" m1 72),
 (79, c7 "meet" "meet" 259 28 2 74 7),
 (80, f1 (cN 11) "meet" "meet" m1 79),
 (86, c7 "negation" "negation" 272 39 1 81 4),
 (87, f1 (cN 12) "negation" "negation" m1 86),
 (93, c7 "struck" "struck" 282 46 2 88 4),
 (94, f1 (cN 13) "struck" "struck" m1 93),
 (114, c7 "__init__" "Store.__init__" 315 61 1 109 1),
 (115, f1 (eO 16 0) "__init__" "Store.__init__" m2 114),
 (121, c7 "new_var" "Store.new_var" 322 71 2 116 2),
 (122, f1 (eO 16 1) "new_var" "Store.new_var" m2 121),
 (128, c7 "size" "Store.size" 330 78 1 123 1),
 (129, f1 (eO 16 2) "size" "Store.size" m2 128),
 (135, c7 "dom" "Store.dom" 337 81 2 130 2),
 (136, f1 (eO 16 3) "dom" "Store.dom" m2 135),
 (142, c7 "initial" "Store.initial" 345 84 2 137 2),
 (143, f1 (eO 16 4) "initial" "Store.initial" m2 142),
 (198, c7 "enter" "Store.enter" 410 108 4 193 7),
 (199, f1 (eO 16 12) "enter" "Store.enter" m2 198),
 (205, c7 "strike" "Store.strike" 423 121 3 200 3),
 (206, f1 (eO 16 13) "strike" "Store.strike" m2 205),
 (212, c7 "decide" "Store.decide" 432 124 2 207 2),
 (213, f1 (eO 16 14) "decide" "Store.decide" m2 212),
 (219, c7 "fail" "Store.fail" 440 127 2 214 2),
 (220, f1 (eO 16 15) "fail" "Store.fail" m2 219),
 (226, c7 "push" "Store.push" 448 132 1 221 1),
 (227, f1 (eO 16 16) "push" "Store.push" m2 226),
 (233, c7 "pop" "Store.pop" 455 135 2 228 4),
 (234, f1 (eO 16 17) "pop" "Store.pop" m2 233),
 (250, D P 4 eS),
 (251, { cls := .type "type", data := .cls { name := "Store", bases := [(.type "object")], mro := [(.ref 251), (.type "object")], ns := 250, qualname := "Store", subclasses := [] }, slots := #[none, none, some (S "Store" 303), some (S "Store" 311), some (.builtin "object.__new__"), some (.bool true)] }),
 (268, c7 "__init__" "Propagator.__init__" 507 154 3 263 3),
 (269, f1 (eO 17 0) "__init__" "Propagator.__init__" m2 268),
 (292, D P 4 eP),
 (293, { cls := .type "type", data := .cls { name := "Propagator", bases := [(.type "object")], mro := [(.ref 293), (.type "object")], ns := 292, qualname := "Propagator", subclasses := [(.ref 382)] }, slots := #[none, none, some (S "Propagator" 495), some (S "Propagator" 503), some (.builtin "object.__new__"), some (.bool true)] }),
 (308, c5 "__init__" "Matching.__init__" 564 170 3 305),
 (309, f1 (eO 19 0) "__init__" "Matching.__init__" m3 308),
 (315, c7 "seat" "Matching.seat" 570 175 2 310 6),
 (316, f1 (eO 19 1) "seat" "Matching.seat" m3 315),
 (322, c7 "hand_on" "Matching.hand_on" 582 188 3 317 5),
 (323, f1 (eO 19 2) "hand_on" "Matching.hand_on" m3 322),
 (329, c7 "closed_from" "Matching.closed_from" 593 196 2 324 7),
 (330, f1 (eO 19 3) "closed_from" "Matching.closed_from" m3 329),
 (332, D P 4 eM),
 (333, { cls := .type "type", data := .cls { name := "Matching", bases := [(.type "object")], mro := [(.ref 333), (.type "object")], ns := 332, qualname := "Matching", subclasses := [] }, slots := #[none, none, some (S "Matching" 552), some (S "Matching" 560), some (.builtin "object.__new__"), some (.bool true)] }),
 (341, { cls := .type "cell", data := .cell (some (.ref 382)) }),
 (352, c7 "__init__" "AllDifferentValues.__init__" 629 210 2 347 3),
 (353, fO (eO 20 0) "__init__" "AllDifferentValues.__init__" m3 352 [("__class__", 341)] (.ref 346)),
 (359, c7 "told" "AllDifferentValues.told" 638 213 1 354 1),
 (360, f1 (eO 20 1) "told" "AllDifferentValues.told" m3 359),
 (364, c5 "check" "AllDifferentValues.check" 645 216 2 361),
 (365, f1 (eO 20 2) "check" "AllDifferentValues.check" m3 364),
 (371, c7 "propagate" "AllDifferentValues.propagate" 651 219 2 366 8),
 (372, f1 (eO 20 3) "propagate" "AllDifferentValues.propagate" m3 371),
 (378, c7 "walls" "AllDifferentValues.walls" 665 240 4 373 8),
 (379, f1 (eO 20 4) "walls" "AllDifferentValues.walls" m3 378),
 (381, D P 3 eA),
 (382, { cls := .type "type", data := .cls { name := "AllDifferentValues", bases := [(.ref 293)], mro := [(.ref 382), (.ref 293), (.type "object")], ns := 381, qualname := "AllDifferentValues", subclasses := [] }, slots := #[some (.ref 338), none, some (S "AllDifferentValues" 617), some (S "AllDifferentValues" 625), some (.builtin "object.__new__"), some (.bool true)] }),
 (390, c7 "_law_take" "_law_take" 686 250 2 385 3),
 (391, f1 (cN 22) "_law_take" "_law_take" m4 390),
 (395, c5 "_law_count" "_law_count" 695 257 1 392),
 (396, f1 (cN 23) "_law_count" "_law_count" m4 395),
 (402, c7 "_law_ranges" "_law_ranges" 701 259 2 397 4),
 (403, f1 (cN 24) "_law_ranges" "_law_ranges" m4 402),
 (407, c5 "_law_lot" "_law_lot" 711 267 2 404),
 (408, f1 (cN 25) "_law_lot" "_law_lot" m4 407),
 (412, c5 "_law_lots" "_law_lots" 717 269 2 409),
 (413, f1 (cN 26) "_law_lots" "_law_lots" m4 412),
 (419, c7 "_law_part" "_law_part" 723 271 3 414 8),
 (420, f1 (cN 27) "_law_part" "_law_part" m4 419),
 (426, c7 "_law_can_sit" "_law_can_sit" 737 279 2 421 7),
 (427, f1 (cN 28) "_law_can_sit" "_law_can_sit" m4 426),
 (431, c5 "_law_staying" "_law_staying" 750 290 2 428),
 (432, f1 (cN 29) "_law_staying" "_law_staying" m4 431),
 (438, c7 "_law_bars" "_law_bars" 756 299 4 433 6),
 (439, f1 (cN 30) "_law_bars" "_law_bars" m4 438),
 (443, c5 "_law_stood" "_law_stood" 768 304 3 440),
 (444, f1 (cN 31) "_law_stood" "_law_stood" m4 443),
 (450, c7 "_law_are_told_right" "_law_are_told_right" 774 306 6 445 13),
 (451, f1 (cN 32) "_law_are_told_right" "_law_are_told_right" m4 450),
 (457, c7 "_law_is_right" "_law_is_right" 793 321 5 452 11),
 (458, f1 (cN 33) "_law_is_right" "_law_is_right" m4 457),
 (462, c5 "_law_are_unlike" "_law_are_unlike" 810 338 1 459),
 (463, f1 (cN 34) "_law_are_unlike" "_law_are_unlike" m4 462),
 (467, c5 "law" "law" 816 340 1 464),
 (468, f1 (cN 35) "law" "law" m4 467)]
noncomputable def qD : Hook := kHook KQ Qq (λ _ => by kernel_rfl)
noncomputable def T (l : List Value) : Obj := { cls := .type "tuple", data := .seq l.toArray }
noncomputable def Fc (c : Value) (l : List Value) : Obj := { cls := c, data := .fields l.toArray }
noncomputable def bP : Obj := Fc (.type "builtin_function_or_method") [.builtin "type.__prepare__", .type "type"]
noncomputable def gS (a t : Nat) : List Obj := [Fc (.type "getset_descriptor") [S "__dict__" t, .ref a, .builtin "function.__dict__", .builtin "function.__dict__#set"], Fc (.type "getset_descriptor") [S "__weakref__" (t + 2), .ref a, .builtin "ExceptionGroup.__weakref__", .none]]
noncomputable def sI (a : Nat) : List Obj := [Fc (.type "super") [.ref a, .ref a, .ref a], Fc (.type "builtin_function_or_method") [.builtin "object.__init_subclass__", .ref a]]
noncomputable def nF (l : List Value) : Obj := Fc .none l
noncomputable def pO (st : Stmt) (name qual : String) : Obj :=
 { cls := .none, data := .func { name := Str.ofString name, qualname := Str.ofString qual, params := Fz st, body := .stmts (cG st), scope := bN st, globals := 0, closure := [], defaults := .none, kwdefaults := .none } }
noncomputable def kC (name : String) (t line b : Nat) : Obj :=
 { cls := .type "code", data := .fields #[S name t, S name (t + 1), S "/claim/cut.py" (t + 2), .int line 0, .int 0 0, .int 0 0, .int 0 0, .int 0 0, .ref b, .bool false, .int 181 0, .ref (b + 1), .none, .none, .none, .none, .int (t + 3 : Nat) 0, .int line 0, S "/claim/cut.py" (t + 4)] }
noncomputable def fr (a b : Nat) (m : Value) : Obj := { cls := .type "frame", slots := #[some (.ref a), some (.ref 3), some (.ref b), none, some m, none, some (.ref 0)] }
noncomputable def cl (name : String) (bases mro : List Value) (ns : Nat) (subs : List Value) (z : Option Value) (t1 t2 : Nat) : Obj :=
 { cls := .type "type", data := .cls { name := Str.ofString name, bases := bases, mro := mro, ns := ns, qualname := Str.ofString name, subclasses := subs }, slots := #[z, none, some (S name t1), some (S name t2), some (.builtin "object.__new__"), some (.bool true)] }
noncomputable def dG (st : Stmt) (name qual : String) (m : Value) (b t line n : Nat) : Option (List String) → List Obj
 | none => [T [], nF [], pO st name qual, c5 name qual t line n b, f1 st name qual m (b + 3)]
 | some l => [T [], nF [], T (l.zipIdx.map λ p => S p.1 (t + 3 + p.2)), T [], pO st name qual, c7 name qual t line n b l.length, f1 st name qual m (b + 5)]
noncomputable def Nu : List (Nat × Nat) := [(1, 20), (5, 27), (7, 34), (9, 41), (14, 48), (17, 55), (22, 60), (24, 65), (26, 72), (28, 79), (39, 86), (46, 93), (53, 100), (59, 107), (152, 261), (168, 303), (208, 344)]
noncomputable def h15 (P : Params) (n k j : Nat) (m : Value) : List Obj := [boot_o_0 P, boot_o_1 P, boot_o_2 P, D P n (("__name__", 165, m) :: Nr.take k), boot_o_4 P, boot_o_5 P, boot_o_6 P, boot_o_7 P, boot_o_8 P, boot_o_9 P, boot_o_10 P, OG, nF ((Nu.take j).flatMap λ x => [.int x.1 0, .int 0 0, .ref x.2]), OF, OE]
noncomputable def IV {α : Type} : List α → List α
 | a :: _ :: l => a :: IV l
 | l => l
noncomputable def mkT : Nat → List Obj → BT
 | f + 1, o :: l => .node o (mkT f (IV l)) (mkT f (IV l.tail))
 | _, _ => .nil
noncomputable def KJ (P : Params) : List Obj :=
 dG (cN 0) "_wall" "_wall" m0 15 187 1 1 (some ["k"]) ++
 (dG (cN 2) "least" "least" m1 22 196 5 1 (some ["d"]) ++
 (dG (cN 3) "greatest" "greatest" m1 29 203 7 1 (some ["d"]) ++
 (dG (cN 4) "next_from" "next_from" m1 36 210 9 2 (some ["d", "v", "low", "high"]) ++
 (dG (cN 5) "has" "has" m1 43 220 14 2 (some ["d", "v"]) ++
 (dG (cN 7) "values" "values" m1 50 229 17 1 (some ["d", "found", "low", "high"]) ++
 (dG (cN 8) "up_to" "up_to" m1 57 239 22 2 none ++
 (dG (cN 9) "from_on" "from_on" m1 62 245 24 2 none ++
 (dG (cN 10) "without" "without" m1 67 251 26 2 (some ["d", "v"]) ++
 (dG (cN 11) "meet" "meet" m1 74 259 28 2 (some ["d", "e", "found", "i", "j", "low", "high"]) ++
 (dG (cN 12) "negation" "negation" m1 81 272 39 1 (some ["literal", "x", "sign", "k"]) ++
 (dG (cN 13) "struck" "struck" m1 88 282 46 2 (some ["literal", "d", "sign", "k"]) ++
 (dG (cN 14) "said_of" "said_of" m1 95 292 53 2 (some ["literal", "d", "kept"]) ++
 ([T [], bP, D P 24 (eS.take 1 ++ ("__qualname__", 312, (S "Store" 311)) :: ((eS.drop 1).take 22)), T [], nF [(.int 61 0), (.int 4 0), (.ref 114), (.int 71 0), (.int 4 0), (.ref 121), (.int 78 0), (.int 4 0), (.ref 128), (.int 81 0), (.int 4 0), (.ref 135), (.int 84 0), (.int 4 0), (.ref 142), (.int 87 0), (.int 4 0), (.ref 149), (.int 90 0), (.int 4 0), (.ref 156), (.int 93 0), (.int 4 0), (.ref 163), (.int 96 0), (.int 4 0), (.ref 170), (.int 99 0), (.int 4 0), (.ref 177), (.int 102 0), (.int 4 0), (.ref 184), (.int 105 0), (.int 4 0), (.ref 191), (.int 108 0), (.int 4 0), (.ref 198), (.int 121 0), (.int 4 0), (.ref 205), (.int 124 0), (.int 4 0), (.ref 212), (.int 127 0), (.int 4 0), (.ref 219), (.int 132 0), (.int 4 0), (.ref 226), (.int 135 0), (.int 4 0), (.ref 233), (.int 147 0), (.int 4 0), (.ref 240), (.int 150 0), (.int 4 0), (.ref 247)], kC "Store" 305 59 105, fr 107 104 m2] ++
 (dG (eO 16 0) "__init__" "Store.__init__" m2 109 315 61 1 (some ["self"]) ++
 (dG (eO 16 1) "new_var" "Store.new_var" m2 116 322 71 2 (some ["self", "domain"]) ++
 (dG (eO 16 2) "size" "Store.size" m2 123 330 78 1 (some ["self"]) ++
 (dG (eO 16 3) "dom" "Store.dom" m2 130 337 81 2 (some ["self", "x"]) ++
 (dG (eO 16 4) "initial" "Store.initial" m2 137 345 84 2 (some ["self", "x"]) ++
 (dG (eO 16 5) "low" "Store.low" m2 144 353 87 2 (some ["self", "x"]) ++
 (dG (eO 16 6) "high" "Store.high" m2 151 361 90 2 (some ["self", "x"]) ++
 (dG (eO 16 7) "has" "Store.has" m2 158 369 93 3 (some ["self", "x", "v"]) ++
 (dG (eO 16 8) "is_fixed" "Store.is_fixed" m2 165 378 96 2 (some ["self", "x"]) ++
 (dG (eO 16 9) "value" "Store.value" m2 172 386 99 2 (some ["self", "x"]) ++
 (dG (eO 16 10) "width" "Store.width" m2 179 394 102 2 (some ["self", "x"]) ++
 (dG (eO 16 11) "holds" "Store.holds" m2 186 402 105 2 (some ["self", "literal"]) ++
 (dG (eO 16 12) "enter" "Store.enter" m2 193 410 108 4 (some ["self", "literal", "reasons", "speaker", "x", "old", "fresh"]) ++
 (dG (eO 16 13) "strike" "Store.strike" m2 200 423 121 3 (some ["self", "literal", "reasons"]) ++
 (dG (eO 16 14) "decide" "Store.decide" m2 207 432 124 2 (some ["self", "literal"]) ++
 (dG (eO 16 15) "fail" "Store.fail" m2 214 440 127 2 (some ["self", "reasons"]) ++
 (dG (eO 16 16) "push" "Store.push" m2 221 448 132 1 (some ["self"]) ++
 (dG (eO 16 17) "pop" "Store.pop" m2 228 455 135 2 (some ["self", "n", "mark", "entry"]) ++
 (dG (eO 16 18) "depth" "Store.depth" m2 235 465 147 1 (some ["self"]) ++
 (dG (eO 16 19) "changed" "Store.changed" m2 242 472 150 1 (some ["self"]) ++
 ([T [(S "clash" 479), (S "domains" 480), (S "firsts" 481), (S "is_failed" 482), (S "marks" 483), (S "news" 484), (S "speaker" 485), (S "trail" 486)], D P 4 eS, cl "Store" [(.type "object")] [(.ref 251), (.type "object")] 250 [] none 303 311] ++ (gS 251 488 ++ (sI 251))))))))))))))))))))))))))))))))))))
noncomputable def M6 (P : Params) (subs : List Value) : List Obj :=
 [T [], bP, D P 8 (eP.take 1 ++ ("__qualname__", 504, (S "Propagator" 503)) :: ((eP.drop 1).take 6)), T [], nF [(.int 154 0), (.int 4 0), (.ref 268), (.int 159 0), (.int 4 0), (.ref 275), (.int 162 0), (.int 4 0), (.ref 282), (.int 165 0), (.int 4 0), (.ref 289)], kC "Propagator" 497 152 259, fr 261 258 m2] ++
 (dG (eO 17 0) "__init__" "Propagator.__init__" m2 263 507 154 3 (some ["self", "scope", "strength"]) ++
 (dG (eO 17 1) "propagate" "Propagator.propagate" m2 270 516 159 2 (some ["self", "store"]) ++
 (dG (eO 17 2) "check" "Propagator.check" m2 277 524 162 2 (some ["self", "values"]) ++
 (dG (eO 17 3) "told" "Propagator.told" m2 284 532 165 1 (some ["self"]) ++
 ([T [(S "number" 539), (S "scope" 540), (S "strength" 541)], D P 4 eP, cl "Propagator" [(.type "object")] [(.ref 293), (.type "object")] 292 subs none 495 503] ++ (gS 293 543 ++ (sI 293)) ++ [T [], bP, D P 8 (eM.take 1 ++ ("__qualname__", 561, (S "Matching" 560)) :: ((eM.drop 1).take 6)), T [], nF [(.int 170 0), (.int 4 0), (.ref 308), (.int 175 0), (.int 4 0), (.ref 315), (.int 188 0), (.int 4 0), (.ref 322), (.int 196 0), (.int 4 0), (.ref 329)], kC "Matching" 554 168 301, fr 303 300 m3] ++
 (dG (eO 19 0) "__init__" "Matching.__init__" m3 305 564 170 3 none ++
 (dG (eO 19 1) "seat" "Matching.seat" m3 310 570 175 2 (some ["self", "place", "came", "places", "k", "v"]) ++
 (dG (eO 19 2) "hand_on" "Matching.hand_on" m3 317 582 188 3 (some ["self", "v", "came", "p", "left"]) ++
 (dG (eO 19 3) "closed_from" "Matching.closed_from" m3 324 593 196 2 (some ["self", "v", "places", "seen", "stack", "w", "u"]) ++
 ([T [(S "choices" 606), (S "mate" 607), (S "owner" 608)], D P 4 eM, cl "Matching" [(.type "object")] [(.ref 333), (.type "object")] 332 [] none 552 560] ++ (gS 333 610 ++ (sI 333)) ++ [T [(.ref 293)], bP, D P 10 (eA.take 1 ++ ("__qualname__", 626, (S "AllDifferentValues" 625)) :: ((eA.drop 1).take 7 ++ [("__classcell__", 680, (.ref 341))])), { cls := .type "cell", data := .cell (some (.ref 382)) }, T [], nF [(.int 210 0), (.int 4 0), (.ref 352), (.int 213 0), (.int 4 0), (.ref 359), (.int 216 0), (.int 4 0), (.ref 364), (.int 219 0), (.int 4 0), (.ref 371), (.int 240 0), (.int 4 0), (.ref 378)], kC "AllDifferentValues" 619 208 342, fr 344 340 m3, T [(.ref 341)], T [(S "__class__" 632)], nF [], T [(S "self" 633), (S "row" 634)], T [], pO (eO 20 0) "__init__" "AllDifferentValues.__init__", cO "__init__" "AllDifferentValues.__init__" 629 210 2 (.int 3 0) (.ref 347) (.bool true) (.ref 348) .none (.ref 349) (.ref 350) (.ref 351) 635 636, fO (eO 20 0) "__init__" "AllDifferentValues.__init__" m3 352 [("__class__", 341)] (.ref 346)] ++
 (dG (eO 20 1) "told" "AllDifferentValues.told" m3 354 638 213 1 (some ["self"]) ++
 (dG (eO 20 2) "check" "AllDifferentValues.check" m3 361 645 216 2 none ++
 (dG (eO 20 3) "propagate" "AllDifferentValues.propagate" m3 366 651 219 2 (some ["self", "store", "matching", "place", "answer", "needs", "v", "reasons"]) ++
 (dG (eO 20 4) "walls" "AllDifferentValues.walls" m3 373 665 240 4 (some ["self", "store", "places", "few", "found", "place", "x", "v"]) ++
 ([T [], D P 3 eA, cl "AllDifferentValues" [(.ref 293)] [(.ref 382), (.ref 293), (.type "object")] 381 [] (some (.ref 338)) 617 625] ++ sI 382)))))))))))))))
noncomputable def PJ (w : World) (os : OsState) : SharedT := { tree := mkT 12 (h15 w.params 24 23 14 m2 ++ KJ w.params), n := 256, life := {}, gens := #[], drawn := {}, toks := 495, os := os }
noncomputable def PH (w : World) (os : OsState) : SharedT := { tree := mkT 12 (h15 w.params 27 26 17 m4 ++ (KJ w.params ++ M6 w.params [.ref 382])), n := 385, life := {}, gens := #[], drawn := {}, toks := 686, os := os }
noncomputable def Pi (w : World) (r : Flow × SharedT × Code × Pos) : Option Shared := topRun treeTable pR w 11 (some (.ref 6)) 2 r.2.1.abs ⟨doneF r.1, r.2.2.1, r.2.2.2, [topFrame Bo]⟩
noncomputable def PK : Pos := ⟨59, 0, 151, 16⟩
noncomputable def p22 : Pos := ⟨249, 0, 249, 8⟩
noncomputable def B1 : List Stmt := (behindTheImports pR).take 17
noncomputable def B2 : List Stmt := ((behindTheImports pR).drop 17).take 5
noncomputable def B3 : List Stmt := ((behindTheImports pR).drop 17).drop 5
theorem M5 : ∀ w : World, (λ os => segRunT treeTable pR w 11 (some (.ref 6)) 1 1800 (sT w os) (piecesOf B1 I4 qO Bo [topFrame Bo])) = λ os => some (.next, PJ w os, qO, PK) := λ w => by kernel_rfl
theorem M4 : ∀ w : World, (λ os => segRunT treeTable pR w 11 (some (.ref 6)) 1 1800 (PJ w os) (piecesOf B2 I4 qO PK [topFrame Bo])) = λ os => some (.next, PH w os, qO, p22) := λ w => by kernel_rfl
noncomputable def OC (w : World) (os : OsState) : Option (Flow × SharedT × Code × Pos) := segRunT treeTable pR w 11 (some (.ref 6)) 1 1800 (PH w os) (piecesOf B3 I4 qO p22 [topFrame Bo])
noncomputable def XtR (s : Shared) : Bool := xlAt qV [] s && recOk (RowW.records PySem.Challenge.rw_xw0067_01.row.toRowW) s
noncomputable def K4 (w : World) (s : Shared) : Bool := staticsOk (importedModules pR.main.body) (boot_heap w.params) s.heap && namesBound pR s.heap && gensDone s && laidKept (boot_heap w.params) s.heap
theorem GV : ∀ w : World, (λ os => (OC w os).bind λ r => (Pi w r).map λ s => (r.1, r.2.2, K4 w s, openSeen qV ["has_domains"] (importedModules pR.main.body) XtR true s, qD.obs s)) = λ os => some (.next, (qO, LG), true, openGood qV ["has_domains"], qD.val w) := λ w => by kernel_rfl
theorem Kd : LeftO pR qV ["has_domains"] XtR qD.obs qD.val 5632 := CT J4 JO λ w os => by
 have h := congrFun (GV w) os
 obtain ⟨⟨fl, st, c, ps⟩, hr, h⟩ := Option.bind_eq_some_iff.mp h
 obtain ⟨s, hs, h⟩ := Option.map_eq_some_iff.mp h
 obtain ⟨h1, ⟨h5, h6⟩, h2, h3, h4⟩ : fl = .next ∧ (c = qO ∧ ps = LG) ∧ K4 w s = true ∧ openSeen qV ["has_domains"] (importedModules pR.main.body) XtR true s = openGood qV ["has_domains"] ∧ qD.obs s = qD.val w := by simpa only [Option.some.injEq, Prod.mk.injEq] using h
 subst h1 h5
 refine ⟨s, ?_, h2, by rw [h3, h4]⟩
 have a := segRun_of hr
 have k := piece_app (rest := []) (N := 2) a hs
 have k := piece_app (segRun_of (congrFun (M4 w) os)) k
 have k := piece_app (segRun_of (congrFun (M5 w) os)) k
 have e : B1 ++ (B2 ++ (B3 ++ [])) = behindTheImports pR := by
  rw [List.append_nil]
  unfold B1 B2 B3
  rw [List.take_append_drop, List.take_append_drop]
 rw [e] at k
 have k2 := piece_block (congrFun (Jp w) os) k
 have k3 := go_top (congrFun (LF w) os) k2
 exact topRun_mono 217 _ _ _ _ k3
end Mine
end
section
open PySem PySem.W PyProof.Rows
namespace Mine
section
noncomputable def MK : List Str := [Str.ofString "found", Str.ofString "d", Str.ofString "low", Str.ofString "high", Str.ofString "k", Str.ofString "v", Str.ofString "sign", Str.ofString "=", Str.ofString ">=", Str.ofString "<=", Str.ofString "literal", Str.ofString "self", Str.ofString "clash", Str.ofString "is_failed", Str.ofString "speaker", Str.ofString "news", Str.ofString "marks", Str.ofString "trail", Str.ofString "firsts", Str.ofString "domains", Str.ofString "reasons", Str.ofString "domain", Str.ofString "fail", Str.ofString "x", Str.ofString "fresh", Str.ofString "old", Str.ofString "enter", Str.ofString "mark", Str.ofString "entry", Str.ofString "n", Str.ofString "strength", Str.ofString "scope", Str.ofString "number", Str.ofString "owner", Str.ofString "mate", Str.ofString "store", Str.ofString "dom", Str.ofString "choices", Str.ofString "left", Str.ofString "p", Str.ofString "came", Str.ofString "places", Str.ofString "hand_on", Str.ofString "place", Str.ofString "seen", Str.ofString "stack", Str.ofString "w", Str.ofString "u", Str.ofString "all_different", Str.ofString "initial", Str.ofString "few", Str.ofString "!=", Str.ofString "matching", Str.ofString "needs", Str.ofString "strike", Str.ofString "walls", Str.ofString "closed_from", Str.ofString "answer", Str.ofString "seat", Str.ofString "check", Str.ofString "pen", Str.ofString "mixed", Str.ofString "many", Str.ofString "spot", Str.ofString "cells", Str.ofString "lot", Str.ofString "begin", Str.ofString "ranges", Str.ofString "first", Str.ofString "last", Str.ofString "store_now", Str.ofString "size", Str.ofString "is_let", Str.ofString "edge", Str.ofString "some", Str.ofString "shared", Str.ofString "lots", Str.ofString "own", Str.ofString "others", Str.ofString "y", Str.ofString "literals", Str.ofString "early", Str.ofString "one", Str.ofString "kept", Str.ofString "rest", Str.ofString "rule", Str.ofString "propagate", Str.ofString "late", Str.ofString "due", Str.ofString "new_var", Str.ofString "row", Str.ofString "j", Str.ofString "lap", Str.ofString "opened", Str.ofString "before", Str.ofString "pop", Str.ofString "decide", Str.ofString "push", Str.ofString "told", Str.ofString "values", Str.ofString "turn", Str.ofString "script", Str.ofString "cell"]
noncomputable def dB (k : Nat) : Str := match MK[k]? with | some x => x | none => ⟨Array.replicate (k + 100) 97⟩
theorem G2 : MK.Nodup := by decide +kernel
theorem BS : ∀ x ∈ MK, x.cps.size < 100 := by decide +kernel
theorem LU : ∀ x ∈ MK, PyData.strOk x = true := by decide +kernel
theorem LT (k : Nat) : PyData.strOk (dB k) = true := by
 unfold dB
 split
 ·rename_i x e; exact LU x (List.mem_of_getElem? e)
 ·unfold PyData.strOk
  rw [Array.all_eq_true]
  intro i hi
  simp
theorem J8 : ∀ x y, dB x = dB y → x = y := by
 intro x y e
 unfold dB at e
 cases ha : MK[x]? <;> cases hb : MK[y]? <;> simp only [ha, hb] at e
 ·have := congrArg (λ s : Str => s.cps.size) e
  simp at this
  exact this
 ·rename_i b
  have := BS b (List.mem_of_getElem? hb)
  rw [← e] at this
  simp at this
  lia
 ·rename_i a
  have := BS a (List.mem_of_getElem? ha)
  rw [e] at this
  simp at this
  lia
 ·subst e
  exact (List.getElem?_inj (List.getElem?_eq_some_iff.mp ha).1 G2).mp (ha.trans hb.symm)
noncomputable def Pk (c : Nat) : Addr := if c = 0 then 251 else if c = 1 then 333 else if c = 2 then 382 else 293
noncomputable def KF (w : World) : Frag := KQ w.params
noncomputable def bJ (w : World) (h : Heap) : gT := ⟨PySem.Challenge.rw_xw0067_01.row.prog, w, h, dB, J8, Pk⟩
variable {w : World} {h : Heap}
structure Wd (w : World) (h : Heap) : Prop where
 KX : (KF w).In h
 mg : ∃ mg, h.Ns mainGlobals mg
 mb : ∃ mb, h.Ns builtinsNs mb ∧ ∀ x : Str, x ≠ "__name__" → mb x = bootBuiltins x
 lim : h.NoLimit
 sys : ∃ o, h.get? sysModules = some o
theorem Wd.iH (W : Wd w h) : m8 (bJ w h) := ⟨LT, W.sys⟩
theorem gn (W : Wd w h) {x : Str} {a : Addr} (e : nsIn (KF w) mainGlobals x = some (some (.ref a))) : cY (bJ w h) x (.ref a) := by
 obtain ⟨mg, hg⟩ := W.mg
 exact ⟨mg, hg, .inl (mg_of W.KX hg e)⟩
theorem bn (W : Wd w h) {x : Str} {v : Value} (e : nsIn (KF w) mainGlobals x = some none) (hx : x ≠ "__name__") (hb : bootBuiltins x = some v) : cY (bJ w h) x v := by
 obtain ⟨mg, hg⟩ := W.mg
 obtain ⟨mb, hm, hq⟩ := W.mb
 exact ⟨mg, hg, .inr ⟨mg_none_of W.KX hg e, mb, hm, (hq x hx).trans hb⟩⟩
noncomputable def Pf (K : Frag) (C : Addr) : Bool := (clsIn K C).any (·.hasDict)
theorem AH {K : Frag} {C : Addr} (h1 : Pf K C = true) (h2 : findIn K (.ref C) "__getattribute__" = some (some (.builtin "object.__getattribute__"))) (h3 : findIn K (.ref C) "__getattr__" = some none)
  (h4 : findIn K (.ref C) "__setattr__" = some (some (.builtin "object.__setattr__"))) (h5 : plainOver K C = true) : pL (bJ w h) K C := by
 obtain ⟨cd, a, b⟩ := any_some h1
 exact ⟨⟨cd, a, b⟩, h2, h3, h4, h5⟩
noncomputable def Jf (names : List (Str × NameKind)) (vars : List (Nat × Nat)) : Bool :=
 vars.all (λ p => names.lookup (dB p.2) == some .local || names.lookup (dB p.2) == some .cell) && (vars.all λ p => vars.all λ q => (p.2 == q.2) == (p.1 == q.1))
theorem aR.of {cx : Cx} (e : Jf cx.sc.names cx.vars = true) : aR (bJ w h) cx := by
 unfold Jf at e
 rw [Bool.and_eq_true] at e
 have e2 : ∀ p ∈ cx.vars, ∀ q ∈ cx.vars, (p.2 == q.2) = (p.1 == q.1) := λ p hp q hq => by
  have := List.all_eq_true.mp (List.all_eq_true.mp e.2 p hp) q hq
  exact eq_of_beq this
 refine ⟨λ p hp => ?_, λ p hp q hq z => ?_, λ p hp q hq z => ?_⟩
 ·have := List.all_eq_true.mp e.1 p hp
  rw [Bool.or_eq_true] at this
  exact this.imp eq_of_beq eq_of_beq
 ·have := e2 p hp q hq
  rw [z, beq_self_eq_true] at this
  exact Prod.ext (eq_of_beq this.symm) z
 ·have := e2 p hp q hq
  rw [z, beq_self_eq_true] at this
  exact Prod.ext z (eq_of_beq this)
noncomputable def HC (cx : Cx) (scope : Scope) (vars : List (Nat × Nat)) (locs : List Nat) : Bool :=
 (scope.kind == .function) && Jf (t9 cx scope).names vars &&
 (vars.all λ p => !((t9 cx scope).names.lookup (dB p.2) == some .local) || locs.contains p.1) &&
 (vars.all λ p => !((t9 cx scope).names.lookup (dB p.2) == some .cell) || (cx.vars.contains p && cx.sc.names.lookup (dB p.2) == some .cell && scope.names.contains (dB p.2, .free))) &&
 (scope.names.all λ q => !(q.2 == .free) || cx.vars.any λ p => dB p.2 == q.1 && cx.sc.names.lookup (dB p.2) == some .cell) &&
 (scope.names.all λ q => !(q.2 == .cell)) &&
 (scope.names.all λ q => !(q.2 == .local) || scope.names.lookup q.1 == some .local)
theorem fV.of {cx : Cx} {scope : Scope} (vars : List (Nat × Nat)) (locs : List Nat) (e : HC cx scope vars locs = true) : fV (bJ w h) cx ⟨t9 cx scope, vars, false⟩ scope locs := by
 unfold HC at e
 simp only [Bool.and_eq_true] at e
 obtain ⟨⟨⟨⟨⟨⟨a, b⟩, c⟩, d⟩, e⟩, f⟩, g⟩ := e
 refine ⟨rfl, eq_of_beq a, rfl, aR.of b, λ p hp hk => ?_, λ p hp hk => ?_, λ q hq hk => ?_, λ q hq hk => ?_, λ q hq hk => ?_⟩
 ·have := List.all_eq_true.mp c p hp
  have hk' : (t9 cx scope).names.lookup (dB p.2) = some .local := hk
  rw [hk'] at this
  simpa using this
 ·have := List.all_eq_true.mp d p hp
  have hk' : (t9 cx scope).names.lookup (dB p.2) = some .cell := hk
  rw [hk'] at this
  simp only [beq_self_eq_true, Bool.not_true, Bool.false_or, Bool.and_eq_true] at this
  exact ⟨by simpa using this.1.1, eq_of_beq this.1.2, by show (dB p.2, NameKind.free) ∈ scope.names; simpa using this.2⟩
 ·have := List.all_eq_true.mp e q hq
  rw [hk] at this
  simp only [beq_self_eq_true, Bool.not_true, Bool.false_or] at this
  obtain ⟨p, hp, hq⟩ := List.any_eq_true.mp this
  rw [Bool.and_eq_true] at hq
  exact ⟨p, hp, eq_of_beq hq.1, eq_of_beq hq.2⟩
 ·have := List.all_eq_true.mp f q hq
  rw [hk] at this
  simp at this
 ·have := List.all_eq_true.mp g q hq
  rw [hk] at this
  simpa using this
noncomputable def fnOf (w : World) (a : Addr) : FuncData := match (KF w).lookup a with
 | some ⟨_, _, .func fd, _⟩ => fd
 | _ => default
noncomputable def Gf (w : World) (a : Addr) : Bool := match (KF w).lookup a with
 | some ⟨_, _, .func _, _⟩ => true
 | _ => false
theorem BW {w : World} {a : Addr} (e : Gf w a = true) : ∃ oc od osl, (KF w).lookup a = some ⟨oc, od, .func (fnOf w a), osl⟩ := by
 unfold Gf at e
 unfold fnOf
 cases h : (KF w).lookup a with
 | none => rw [h] at e; cases e
 | some o =>
  rw [h] at e
  obtain ⟨oc, od, dd, osl⟩ := o
  cases dd with
  | func fd => exact ⟨oc, od, osl, rfl⟩
  | _ => cases e
theorem fnAt (W : Wd w h) {a : Addr} {body : List Stmt} (h1 : Gf w a = true) (h2 : codeIn (KF w) (fnOf w a).code (fnOf w a).qualname = true) (h3 : (fnOf w a).body = .stmts body) (h4 : (fnOf w a).globals = mainGlobals) (h5 : (fnOf w a).builtins = builtinsNs)
  (h6 : (fnOf w a).closure = []) (h7 : (fnOf w a).scope.isCoroutine = false) (h8 : (fnOf w a).scope.isGenerator = false) (h9 : (fnOf w a).scope.kind = .function) : FnAt (bJ w h) a (fnOf w a) body := by
 refine ⟨?_, codeRec_of W.KX h2, h3, h4, h5, h6, h7, h8, h9⟩
 obtain ⟨oc, od, osl, e⟩ := BW h1
 exact ⟨_, W.KX _ _ e, rfl⟩
noncomputable def EY (cx : Cx) (names : List Nat) : Bool := (names.zipIdx.all λ p => cx.vars.contains (p.2, p.1)) && decide (names.map dB).Nodup
theorem GA.of' {cx : Cx} {fd : FuncData} {names : List Nat} (hs : cx.sc = fd.scope) (hf : cx.fn = true) (ok : aR (bJ w h) cx) (e : EY cx names = true) (hb : ∀ us : List Value, us.length = names.length → bindArgs fd ⟨us, []⟩ = pure ((names.map dB).zip us)) : GA (bJ w h) cx fd names := by
 unfold EY at e
 rw [Bool.and_eq_true] at e
 refine ⟨hs, hf, ok, λ i k hik => ?_, of_decide_eq_true e.2, hb⟩
 have := List.all_eq_true.mp e.1 (k, i) (by rw [List.mem_zipIdx_iff_getElem?]; simpa using hik)
 simpa using this
theorem G5 {us : List Value} {n : Nat} (e : us.length = n + 1) : ∃ a us', us = a :: us' ∧ us'.length = n := by
 cases us with
 | nil => cases e
 | cons a l => exact ⟨a, l, rfl, Nat.succ.inj e⟩
theorem CS {us : List Value} (e : us.length = 1) : ∃ a, us = [a] := by
 obtain ⟨a, l, rfl, e2⟩ := G5 e
 cases List.eq_nil_of_length_eq_zero e2
 exact ⟨a, rfl⟩
theorem nG {us : List Value} (e : us.length = 2) : ∃ a b, us = [a, b] := by
 obtain ⟨a, l, rfl, e2⟩ := G5 e
 obtain ⟨b, rfl⟩ := CS e2
 exact ⟨a, b, rfl⟩
theorem Fk {us : List Value} (e : us.length = 3) : ∃ a b c, us = [a, b, c] := by
 obtain ⟨a, l, rfl, e2⟩ := G5 e
 obtain ⟨b, c, rfl⟩ := nG e2
 exact ⟨a, b, c, rfl⟩
theorem Kc {us : List Value} (e : us.length = 4) : ∃ a b c d, us = [a, b, c, d] := by
 obtain ⟨a, l, rfl, e2⟩ := G5 e
 obtain ⟨b, c, d, rfl⟩ := Fk e2
 exact ⟨a, b, c, d, rfl⟩
theorem Nv {us : List Value} (e : us.length = 5) : ∃ a b c d f, us = [a, b, c, d, f] := by
 obtain ⟨a, l, rfl, e2⟩ := G5 e
 obtain ⟨b, c, d, f, rfl⟩ := Kc e2
 exact ⟨a, b, c, d, f, rfl⟩
theorem OP {us : List Value} (e : us.length = 6) : ∃ a b c d f g, us = [a, b, c, d, f, g] := by
 obtain ⟨a, l, rfl, e2⟩ := G5 e
 obtain ⟨b, c, d, f, g, rfl⟩ := Nv e2
 exact ⟨a, b, c, d, f, g, rfl⟩
theorem nE : dB 0 = ("found" : Str) := by kernel_rfl
theorem DO : dB 1 = ("d" : Str) := by kernel_rfl
theorem Fg : dB 2 = ("low" : Str) := by kernel_rfl
theorem Ff : dB 3 = ("high" : Str) := by kernel_rfl
theorem gE : dB 4 = ("k" : Str) := by kernel_rfl
theorem gQ : dB 5 = ("v" : Str) := by kernel_rfl
theorem LR : dB 6 = ("sign" : Str) := by kernel_rfl
theorem Ng : dB 7 = ("=" : Str) := by kernel_rfl
theorem LQ : dB 8 = (">=" : Str) := by kernel_rfl
theorem LP : dB 9 = ("<=" : Str) := by kernel_rfl
theorem kZ : dB 10 = ("literal" : Str) := by kernel_rfl
theorem bR : dB 11 = ("self" : Str) := by kernel_rfl
theorem DN : dB 12 = ("clash" : Str) := by kernel_rfl
theorem uH : dB 13 = ("is_failed" : Str) := by kernel_rfl
theorem Ga : dB 14 = ("speaker" : Str) := by kernel_rfl
theorem Id : dB 15 = ("news" : Str) := by kernel_rfl
theorem Ah : dB 16 = ("marks" : Str) := by kernel_rfl
theorem uG : dB 17 = ("trail" : Str) := by kernel_rfl
theorem F9 : dB 18 = ("firsts" : Str) := by kernel_rfl
theorem w5 : dB 19 = ("domains" : Str) := by kernel_rfl
theorem w4 : dB 20 = ("reasons" : Str) := by kernel_rfl
theorem Ic : dB 21 = ("domain" : Str) := by kernel_rfl
theorem Ib : dB 22 = ("fail" : Str) := by kernel_rfl
theorem dR : dB 23 = ("x" : Str) := by kernel_rfl
theorem wZ : dB 24 = ("fresh" : Str) := by kernel_rfl
theorem BR : dB 25 = ("old" : Str) := by kernel_rfl
theorem K0 : dB 26 = ("enter" : Str) := by kernel_rfl
theorem BQ : dB 27 = ("mark" : Str) := by kernel_rfl
theorem Ia : dB 28 = ("entry" : Str) := by kernel_rfl
theorem H9 : dB 29 = ("n" : Str) := by kernel_rfl
theorem H8 : dB 30 = ("strength" : Str) := by kernel_rfl
theorem pB : dB 31 = ("scope" : Str) := by kernel_rfl
theorem No : dB 32 = ("number" : Str) := by kernel_rfl
theorem Ag : dB 33 = ("owner" : Str) := by kernel_rfl
theorem H7 : dB 34 = ("mate" : Str) := by kernel_rfl
theorem uF : dB 35 = ("store" : Str) := by kernel_rfl
theorem KZ : dB 36 = ("dom" : Str) := by kernel_rfl
theorem F8 : dB 37 = ("choices" : Str) := by kernel_rfl
theorem KY : dB 38 = ("left" : Str) := by kernel_rfl
theorem F7 : dB 39 = ("p" : Str) := by kernel_rfl
theorem DM : dB 40 = ("came" : Str) := by kernel_rfl
theorem eW : dB 41 = ("places" : Str) := by kernel_rfl
theorem Nn : dB 42 = ("hand_on" : Str) := by kernel_rfl
theorem uE : dB 43 = ("place" : Str) := by kernel_rfl
theorem H6 : dB 44 = ("seen" : Str) := by kernel_rfl
theorem H5 : dB 45 = ("stack" : Str) := by kernel_rfl
theorem F6 : dB 46 = ("w" : Str) := by kernel_rfl
theorem F5 : dB 47 = ("u" : Str) := by kernel_rfl
theorem KW : dB 48 = ("all_different" : Str) := by kernel_rfl
theorem Nm : dB 49 = ("initial" : Str) := by kernel_rfl
theorem DL : dB 50 = ("few" : Str) := by kernel_rfl
theorem F4 : dB 51 = ("!=" : Str) := by kernel_rfl
theorem F2 : dB 52 = ("matching" : Str) := by kernel_rfl
theorem Af : dB 53 = ("needs" : Str) := by kernel_rfl
theorem Nk : dB 54 = ("strike" : Str) := by kernel_rfl
theorem KV : dB 55 = ("walls" : Str) := by kernel_rfl
theorem Nj : dB 56 = ("closed_from" : Str) := by kernel_rfl
theorem F1 : dB 57 = ("answer" : Str) := by kernel_rfl
theorem Ni : dB 58 = ("seat" : Str) := by kernel_rfl
theorem KU : dB 59 = ("check" : Str) := by kernel_rfl
theorem kF : dB 60 = ("pen" : Str) := by kernel_rfl
theorem F0 : dB 61 = ("mixed" : Str) := by kernel_rfl
theorem qA : dB 62 = ("many" : Str) := by kernel_rfl
theorem Ae : dB 63 = ("spot" : Str) := by kernel_rfl
theorem BP : dB 64 = ("cells" : Str) := by kernel_rfl
theorem pA : dB 65 = ("lot" : Str) := by kernel_rfl
theorem fG : dB 66 = ("begin" : Str) := by kernel_rfl
theorem Nh : dB 67 = ("ranges" : Str) := by kernel_rfl
theorem KT : dB 68 = ("first" : Str) := by kernel_rfl
theorem KS : dB 69 = ("last" : Str) := by kernel_rfl
theorem fQ : dB 70 = ("store_now" : Str) := by kernel_rfl
theorem Nf : dB 71 = ("size" : Str) := by kernel_rfl
theorem KR : dB 72 = ("is_let" : Str) := by kernel_rfl
theorem FZ : dB 73 = ("edge" : Str) := by kernel_rfl
theorem DK : dB 74 = ("some" : Str) := by kernel_rfl
theorem H4 : dB 75 = ("shared" : Str) := by kernel_rfl
theorem fZ : dB 76 = ("lots" : Str) := by kernel_rfl
theorem KP : dB 77 = ("own" : Str) := by kernel_rfl
theorem Nd : dB 78 = ("others" : Str) := by kernel_rfl
theorem H3 : dB 79 = ("y" : Str) := by kernel_rfl
theorem KO : dB 80 = ("literals" : Str) := by kernel_rfl
theorem wY : dB 81 = ("early" : Str) := by kernel_rfl
theorem FY : dB 82 = ("one" : Str) := by kernel_rfl
theorem KN : dB 83 = ("kept" : Str) := by kernel_rfl
theorem DJ : dB 84 = ("rest" : Str) := by kernel_rfl
theorem Ad : dB 85 = ("rule" : Str) := by kernel_rfl
theorem H0 : dB 86 = ("propagate" : Str) := by kernel_rfl
theorem HZ : dB 87 = ("late" : Str) := by kernel_rfl
theorem DI : dB 88 = ("due" : Str) := by kernel_rfl
theorem KM : dB 89 = ("new_var" : Str) := by kernel_rfl
theorem BO : dB 90 = ("row" : Str) := by kernel_rfl
theorem HY : dB 91 = ("j" : Str) := by kernel_rfl
theorem Nc : dB 92 = ("lap" : Str) := by kernel_rfl
theorem DH : dB 93 = ("opened" : Str) := by kernel_rfl
theorem FX : dB 94 = ("before" : Str) := by kernel_rfl
theorem Nb : dB 95 = ("pop" : Str) := by kernel_rfl
theorem Na : dB 96 = ("decide" : Str) := by kernel_rfl
theorem M9 : dB 97 = ("push" : Str) := by kernel_rfl
theorem M8 : dB 98 = ("told" : Str) := by kernel_rfl
theorem KL : dB 99 = ("values" : Str) := by kernel_rfl
theorem Fh : dB 100 = ("turn" : Str) := by kernel_rfl
theorem LS : dB 101 = ("script" : Str) := by kernel_rfl
theorem Ie : dB 102 = ("cell" : Str) := by kernel_rfl
theorem BY (W : Wd w h) : cY (bJ w h) "values" (.ref 56) := gn W (by kernel_rfl)
theorem D4 (W : Wd w h) : cY (bJ w h) "up_to" (.ref 61) := gn W (by kernel_rfl)
theorem Av (W : Wd w h) : cY (bJ w h) "from_on" (.ref 66) := gn W (by kernel_rfl)
theorem Fu (W : Wd w h) : cY (bJ w h) "without" (.ref 73) := gn W (by kernel_rfl)
theorem Hb (W : Wd w h) : cY (bJ w h) "struck" (.ref 94) := gn W (by kernel_rfl)
theorem eE (W : Wd w h) : cY (bJ w h) "_law_take" (.ref 391) := gn W (by kernel_rfl)
theorem sG (W : Wd w h) : cY (bJ w h) "_law_count" (.ref 396) := gn W (by kernel_rfl)
theorem qE (W : Wd w h) : cY (bJ w h) "_law_ranges" (.ref 403) := gn W (by kernel_rfl)
theorem w8 (W : Wd w h) : cY (bJ w h) "_law_lot" (.ref 408) := gn W (by kernel_rfl)
theorem iA (W : Wd w h) : cY (bJ w h) "_law_lots" (.ref 413) := gn W (by kernel_rfl)
theorem lF (W : Wd w h) : cY (bJ w h) "_law_part" (.ref 420) := gn W (by kernel_rfl)
theorem kS (W : Wd w h) : cY (bJ w h) "_law_can_sit" (.ref 427) := gn W (by kernel_rfl)
theorem xZ (W : Wd w h) : cY (bJ w h) "_law_staying" (.ref 432) := gn W (by kernel_rfl)
theorem uT (W : Wd w h) : cY (bJ w h) "_law_bars" (.ref 439) := gn W (by kernel_rfl)
theorem sF (W : Wd w h) : cY (bJ w h) "_law_stood" (.ref 444) := gn W (by kernel_rfl)
theorem oT (W : Wd w h) : cY (bJ w h) "_law_are_told_right" (.ref 451) := gn W (by kernel_rfl)
theorem nX (W : Wd w h) : cY (bJ w h) "_law_is_right" (.ref 458) := gn W (by kernel_rfl)
theorem tG (W : Wd w h) : cY (bJ w h) "_law_are_unlike" (.ref 463) := gn W (by kernel_rfl)
theorem D7 (W : Wd w h) : cY (bJ w h) "Store" (.ref 251) := gn W (by kernel_rfl)
theorem D8 (W : Wd w h) : cY (bJ w h) "Matching" (.ref 333) := gn W (by kernel_rfl)
theorem jQ (W : Wd w h) : cY (bJ w h) "AllDifferentValues" (.ref 382) := gn W (by kernel_rfl)
theorem eU (W : Wd w h) : cY (bJ w h) "len" (.builtin "len") := bn W (by kernel_rfl) (by decide +kernel) (by kernel_rfl)
theorem iO (W : Wd w h) : cY (bJ w h) "tuple" (.type "tuple") := bn W (by kernel_rfl) (by decide +kernel) (by kernel_rfl)
theorem Gr (W : Wd w h) : cY (bJ w h) "list" (.type "list") := bn W (by kernel_rfl) (by decide +kernel) (by kernel_rfl)
theorem MB (W : Wd w h) : cY (bJ w h) "min" (.builtin "min") := bn W (by kernel_rfl) (by decide +kernel) (by kernel_rfl)
theorem MC (W : Wd w h) : cY (bJ w h) "max" (.builtin "max") := bn W (by kernel_rfl) (by decide +kernel) (by kernel_rfl)
theorem ME (W : Wd w h) : cY (bJ w h) "abs" (.builtin "abs") := bn W (by kernel_rfl) (by decide +kernel) (by kernel_rfl)
theorem FH (W : Wd w h) : cY (bJ w h) "sum" (.builtin "sum") := bn W (by kernel_rfl) (by decide +kernel) (by kernel_rfl)
theorem MD (W : Wd w h) : cY (bJ w h) "all" (.builtin "all") := bn W (by kernel_rfl) (by decide +kernel) (by kernel_rfl)
theorem Ci (W : Wd w h) : cY (bJ w h) "sorted" (.builtin "sorted") := bn W (by kernel_rfl) (by decide +kernel) (by kernel_rfl)
theorem dL (W : Wd w h) : cY (bJ w h) "range" (.type "range") := bn W (by kernel_rfl) (by decide +kernel) (by kernel_rfl)
theorem MA (W : Wd w h) : cY (bJ w h) "set" (.type "set") := bn W (by kernel_rfl) (by decide +kernel) (by kernel_rfl)
theorem De (W : Wd w h) : cY (bJ w h) "enumerate" (.type "enumerate") := bn W (by kernel_rfl) (by decide +kernel) (by kernel_rfl)
theorem Jo (W : Wd w h) : cY (bJ w h) "super" (.type "super") := bn W (by kernel_rfl) (by decide +kernel) (by kernel_rfl)
theorem dF (W : Wd w h) : pL (bJ w h) (KF w) ((bJ w h).cls 0) := AH (by kernel_rfl) (by kernel_rfl) (by kernel_rfl) (by kernel_rfl) (by kernel_rfl)
theorem qP (W : Wd w h) : pL (bJ w h) (KF w) ((bJ w h).cls 1) := AH (by kernel_rfl) (by kernel_rfl) (by kernel_rfl) (by kernel_rfl) (by kernel_rfl)
theorem oB (W : Wd w h) : pL (bJ w h) (KF w) ((bJ w h).cls 2) := AH (by kernel_rfl) (by kernel_rfl) (by kernel_rfl) (by kernel_rfl) (by kernel_rfl)
theorem Bv (w : World) : findIn (KF w) (.ref 251) "__init__" = some (some (.ref 115)) := by kernel_rfl
theorem nY (w : World) : findIn (KF w) (.ref 251) "new_var" = some (some (.ref 122)) := by kernel_rfl
theorem Bt (w : World) : findIn (KF w) (.ref 251) "size" = some (some (.ref 129)) := by kernel_rfl
theorem uX (w : World) : findIn (KF w) (.ref 251) "dom" = some (some (.ref 136)) := by kernel_rfl
theorem wB (w : World) : findIn (KF w) (.ref 251) "initial" = some (some (.ref 143)) := by kernel_rfl
theorem qH (w : World) : findIn (KF w) (.ref 251) "enter" = some (some (.ref 199)) := by kernel_rfl
theorem yA (w : World) : findIn (KF w) (.ref 251) "strike" = some (some (.ref 206)) := by kernel_rfl
theorem yB (w : World) : findIn (KF w) (.ref 251) "decide" = some (some (.ref 213)) := by kernel_rfl
theorem nI (w : World) : findIn (KF w) (.ref 251) "fail" = some (some (.ref 220)) := by kernel_rfl
theorem Bu (w : World) : findIn (KF w) (.ref 251) "push" = some (some (.ref 227)) := by kernel_rfl
theorem C4 (w : World) : findIn (KF w) (.ref 251) "pop" = some (some (.ref 234)) := by kernel_rfl
theorem wD (w : World) : findIn (KF w) (.ref 333) "__init__" = some (some (.ref 309)) := by kernel_rfl
theorem wC (w : World) : findIn (KF w) (.ref 333) "seat" = some (some (.ref 316)) := by kernel_rfl
theorem rZ (w : World) : findIn (KF w) (.ref 333) "hand_on" = some (some (.ref 323)) := by kernel_rfl
theorem nZ (w : World) : findIn (KF w) (.ref 333) "closed_from" = some (some (.ref 330)) := by kernel_rfl
theorem mD (w : World) : findIn (KF w) (.ref 382) "__init__" = some (some (.ref 353)) := by kernel_rfl
theorem mC (w : World) : findIn (KF w) (.ref 382) "told" = some (some (.ref 360)) := by kernel_rfl
theorem gM (w : World) : findIn (KF w) (.ref 382) "check" = some (some (.ref 365)) := by kernel_rfl
theorem dP (w : World) : findIn (KF w) (.ref 382) "propagate" = some (some (.ref 372)) := by kernel_rfl
theorem gK (w : World) : findIn (KF w) (.ref 382) "walls" = some (some (.ref 379)) := by kernel_rfl
end
section
variable {w : World} {h : Heap} {d d' : Nat} {cx : Cx} {x : Str} {p pos : Pos} {es : List PySem.Expr} {e o : PySem.Expr} {f g : X V} {G : X (List V)} {F : FF} {k : Nat}
theorem vr (i : Nat) (hx : dB k = x) (O : aR (bJ w h) cx) (hm : cx.vars.contains (i, k) = true := by exact Eq.refl true) (hd : (x == ("__debug__" : Str)) = false := by rfl) : aC (bJ w h) d cx (.Name x pos) (X.var i) := aC.var (Γ := bJ w h) hx (List.contains_iff_mem.mp hm) O hd
theorem an (i : Nat) (hx : dB k = x) (O : aR (bJ w h) cx) (hm : cx.vars.contains (i, k) = true := by exact Eq.refl true) (hf : cx.fn = true := by rfl) : eG (bJ w h) d cx (.Name x pos) (XA.name i) := eG.name (Γ := bJ w h) hx (List.contains_iff_mem.mp hm) O (.inl hf)
theorem am (i : Nat) (hx : dB k = x) (O : aR (bJ w h) cx) (hm : cx.vars.contains (i, k) = true := by exact Eq.refl true) (hf : gF (bJ w h) cx k = some .local := by kernel_rfl) : eG (bJ w h) d cx (.Name x pos) (XA.name i) := eG.name (Γ := bJ w h) hx (List.contains_iff_mem.mp hm) O (.inr hf)
theorem en : iF (bJ w h) d cx [] X.aH := iF.nil
theorem ec (hf : aC (bJ w h) d cx e f) (hg : iF (bJ w h) d cx es G) (he : ∀ env, starEach (e :: es) env = (false, eval e env) :: starEach es env := by exact λ _ => rfl) : iF (bJ w h) d cx (e :: es) (X.aB f G) := iF.cons hf hg he
theorem cC (W : Wd w h) {a : Addr} (N : cY (bJ w h) x (.ref a)) (hs : iF (bJ w h) d cx es G) (hF : bB (bJ w h) d' (.ref a) F) (hx : cx.sc.names.lookup x = some .globalImplicit := by exact Eq.refl _) (hk : keepIn (KF w) (.ref a) = true := by kernel_rfl) (hp : Plain es := by exact λ _ => rfl) (hl : d' ≤ d := by decide) (hd : (x == ("__debug__" : Str)) = false := by rfl) : aC (bJ w h) d cx (.Call (.Name x p) es [] pos) (X.call F G) :=
 aC.call N hx (kK.K W.KX hk) hp hs (hF.mono hl) hd
theorem cF (W : Wd w h) {a : Addr} (N : cY (bJ w h) x (.ref a)) (hs : iF (bJ w h) d cx es G) (hF : dX (bJ w h) d' a F) (hx : cx.sc.names.lookup x = some .globalImplicit := by exact Eq.refl _) (hk : keepIn (KF w) (.ref a) = true := by kernel_rfl) (hp : Plain es := by exact λ _ => rfl) (hl : d' ≤ d := by decide) (hd : (x == ("__debug__" : Str)) = false := by rfl) : aC (bJ w h) d cx (.Call (.Name x p) es [] pos) (X.call F G) :=
 cC W N hs (bB.ofF hF) hx hk hp hl hd
theorem cB {id : String} (N : cY (bJ w h) x (.builtin id)) (hs : iF (bJ w h) d cx es G) (hF : bB (bJ w h) d (.builtin id) F) (hx : cx.sc.names.lookup x = some .globalImplicit := by exact Eq.refl _) (hp : Plain es := by exact λ _ => rfl) (hd : (x == ("__debug__" : Str)) = false := by rfl) : aC (bJ w h) d cx (.Call (.Name x p) es [] pos) (X.call F G) :=
 aC.call N hx kK.builtin hp hs hF hd
theorem cT {id : String} (N : cY (bJ w h) x (.type id)) (hs : iF (bJ w h) d cx es G) (hF : bB (bJ w h) d (.type id) F) (hx : cx.sc.names.lookup x = some .globalImplicit := by exact Eq.refl _) (hp : Plain es := by exact λ _ => rfl) (hd : (x == ("__debug__" : Str)) = false := by rfl) : aC (bJ w h) d cx (.Call (.Name x p) es [] pos) (X.call F G) :=
 aC.call N hx kK.type hp hs hF hd
theorem lm {id : String} (hf : aC (bJ w h) d cx o f) (hs : iF (bJ w h) d cx es G) (hF : bB (bJ w h) d (.builtin id) F) (sl : Slot "list" x id) (ty : typeOf (.builtin id) = pure (.type "method_descriptor")) (he : rA o x p es pos := by exact λ _ => ⟨_, rfl⟩) (hp : Plain es := by exact λ _ => rfl) : aC (bJ w h) d cx (.Call (.Attribute o x p) es [] pos) (X.fH F f G) :=
 aC.fH he sl ty hp hf hs hF
theorem im (W : Wd w h) {c : Nat} {a : Addr} (hx : dB k = x) (C : pL (bJ w h) (KF w) ((bJ w h).cls c)) (hi : findIn (KF w) (.ref ((bJ w h).cls c)) x = some (some (.ref a))) (hf : aC (bJ w h) d cx o f) (hs : iF (bJ w h) d cx es G) (hF : dX (bJ w h) d' a F) (he : rA o x p es pos := by exact λ _ => ⟨_, rfl⟩) (ht : typeIn (KF w) (.ref a) = some (.type "function") := by kernel_rfl) (hk : keepIn (KF w) (.ref a) = true := by kernel_rfl) (hp : Plain es := by exact λ _ => rfl) (hl : d' ≤ d := by decide) : aC (bJ w h) d cx (.Call (.Attribute o x p) es [] pos) (X.cV c k F f G) :=
 aC.cV (Γ := bJ w h) hx he W.KX C hi ht (kK.K W.KX hk) hp hf hs ((bB.ofF hF).mono hl)
theorem ea (W : Wd w h) {c : Nat} (hx : dB k = x) (C : pL (bJ w h) (KF w) ((bJ w h).cls c)) (hf : aC (bJ w h) d cx e f) (hk : findIn (KF w) (.ref ((bJ w h).cls c)) x = some Option.none := by kernel_rfl) (he : ∀ env, eval (.Attribute e x pos) env = (do
 let o ← eval e env
 standAt pos.atName
 let r ← holding [o] (getAttr o x true)
 letTemporaryGo e o r
 pure r) := by exact λ _ => rfl) : aC (bJ w h) d cx (.Attribute e x pos) (X.attr c k f) := aC.attr (Γ := bJ w h) hx W.KX C hk hf he
theorem aa (W : Wd w h) {c : Nat} (hx : dB k = x) (C : pL (bJ w h) (KF w) ((bJ w h).cls c)) (hf : aC (bJ w h) d cx o f) (hk : takerIn (KF w) ((bJ w h).cls c) x = some Option.none := by kernel_rfl) : eG (bJ w h) d cx (.Attribute o x pos) (XA.attr c k f) := eG.attr (Γ := bJ w h) hx W.KX C hk hf
theorem sfo (W : Wd w h) (k : Nat) {a : Addr} {body : List Stmt} {names : List Nat} {g : XS} (O : aR (bJ w h) cx) (hb : ∀ us : List Value, us.length = names.length → bindArgs (fnOf w a) ⟨us, []⟩ = pure ((names.map dB).zip us)) (hg : aE (bJ w h) d cx body g)
  (h1 : Gf w a = true := by kernel_rfl) (h2 : codeIn (KF w) (fnOf w a).code (fnOf w a).qualname = true := by kernel_rfl) (h3 : (fnOf w a).body = .stmts body := by kernel_rfl) (h4 : (fnOf w a).globals = mainGlobals := by kernel_rfl) (h5 : (fnOf w a).builtins = builtinsNs := by kernel_rfl)
  (h6 : (fnOf w a).closure = [] := by kernel_rfl) (h7 : (fnOf w a).scope.isCoroutine = false := by kernel_rfl) (h8 : (fnOf w a).scope.isGenerator = false := by kernel_rfl) (h9 : (fnOf w a).scope.kind = .function := by kernel_rfl)
  (hs : cx.sc = (fnOf w a).scope := by kernel_rfl) (hf : cx.fn = true := by rfl) (hc : EY cx names = true := by kernel_rfl) : dX (bJ w h) (d + 1) a (eV names.length k g) :=
 dX.of k W.lim (fnAt W h1 h2 h3 h4 h5 h6 h7 h8 h9) (GA.of' hs hf O hc hb) hg
end
section
variable {w : World} {h : Heap}
noncomputable def Ep : List Stmt := cG (cN 7)
noncomputable def ER : Scope := bN (cN 7)
noncomputable def Cd : Cx := ⟨ER, [(0, 1), (1, 0), (2, 2), (3, 3)], true⟩
theorem hZ : aR (bJ w h) Cd := aR.of (by kernel_rfl)
theorem GS (W : Wd w h) : aE (bJ w h) 0 Cd Ep Ex :=
 (aE.cons (aM.assign (aC.lst en) (an 1 nE hZ) (λ _ _ => rfl) (λ _ _ => rfl) (λ _ => rfl))
  (aE.cons (aM.for 1000 (vr 0 DO hZ) (eG.tup (dS.cons (an 2 Fg hZ) (λ _ => rfl) (dS.cons (an 3 Ff hZ) (λ _ => rfl) dS.nil))) (aE.cons (aM.expr (lm (vr 1 nE hZ) (ec (cT (dL W) (ec (vr 2 Fg hZ) (ec (aC.bin (vr 3 Ff hZ) aC.int b9.add) en)) bB.CJ) en) bB.extend PySem.F.slot_list_extend PySem.F.type_list_extend) (λ _ => rfl))
  aE.nil) (λ _ _ => rfl))
  (aE.cons (aM.ret (vr 1 nE hZ))
  aE.nil)))
theorem BI (W : Wd w h) : dX (bJ w h) 1 56 rB :=
 sfo W 3 (names := [1]) hZ (λ us e => by obtain ⟨a, rfl⟩ := CS e; kernel_rfl) (GS W)
noncomputable def FG : List Stmt := cG (cN 8)
noncomputable def GQ : Scope := bN (cN 8)
noncomputable def Ek : Cx := ⟨GQ, [(0, 1), (1, 4)], true⟩
theorem DE : aR (bJ w h) Ek := aR.of (by kernel_rfl)
theorem HI (W : Wd w h) : aE (bJ w h) 0 Ek FG Gs :=
 (aE.cons (aM.ret (cT (iO W) (ec (aC.vB (tt := some _) 1000 (fV.of [(2, 2), (3, 3), (1, 4)] [2, 3] (by kernel_rfl)) (vr 0 DO DE) (eG.tup (dS.cons (am 2 Fg (aR.of (by kernel_rfl))) (λ _ => rfl) (dS.cons (am 3 Ff (aR.of (by kernel_rfl))) (λ _ => rfl) dS.nil))) (.one (bK.cmp (vr 2 Fg (aR.of (by kernel_rfl))) (vr 1 gE (aR.of (by kernel_rfl))) b9.le (by rfl))) (aC.tup (ec (vr 2 Fg (aR.of (by kernel_rfl))) (ec (cB (MB W) (ec (vr 3 Ff (aR.of (by kernel_rfl))) (ec (vr 1 gE (aR.of (by kernel_rfl))) en)) bB.min) en))) (λ _ _ => rfl)) en) bB.tuple))
  aE.nil)
theorem Ds (W : Wd w h) : dX (bJ w h) 1 61 yW :=
 sfo W 2 (names := [1, 4]) DE (λ us e => by obtain ⟨a, b, rfl⟩ := nG e; kernel_rfl) (HI W)
noncomputable def Dd : List Stmt := cG (cN 9)
noncomputable def Du : Scope := bN (cN 9)
noncomputable def AF : Cx := ⟨Du, [(0, 1), (1, 4)], true⟩
theorem z4 : aR (bJ w h) AF := aR.of (by kernel_rfl)
theorem EU (W : Wd w h) : aE (bJ w h) 0 AF Dd Cm :=
 (aE.cons (aM.ret (cT (iO W) (ec (aC.vB (tt := some _) 1000 (fV.of [(2, 2), (3, 3), (1, 4)] [2, 3] (by kernel_rfl)) (vr 0 DO z4) (eG.tup (dS.cons (am 2 Fg (aR.of (by kernel_rfl))) (λ _ => rfl) (dS.cons (am 3 Ff (aR.of (by kernel_rfl))) (λ _ => rfl) dS.nil))) (.one (bK.cmp (vr 3 Ff (aR.of (by kernel_rfl))) (vr 1 gE (aR.of (by kernel_rfl))) b9.ge (by rfl))) (aC.tup (ec (cB (MC W) (ec (vr 2 Fg (aR.of (by kernel_rfl))) (ec (vr 1 gE (aR.of (by kernel_rfl))) en)) bB.max) (ec (vr 3 Ff (aR.of (by kernel_rfl))) en))) (λ _ _ => rfl)) en) bB.tuple))
  aE.nil)
theorem zE (W : Wd w h) : dX (bJ w h) 1 66 rT :=
 sfo W 2 (names := [1, 4]) z4 (λ us e => by obtain ⟨a, b, rfl⟩ := nG e; kernel_rfl) (EU W)
noncomputable def Dc : List Stmt := cG (cN 10)
noncomputable def Dt : Scope := bN (cN 10)
noncomputable def AE : Cx := ⟨Dt, [(0, 1), (1, 5)], true⟩
theorem lY : aR (bJ w h) AE := aR.of (by kernel_rfl)
theorem ET (W : Wd w h) : aE (bJ w h) 1 AE Dc Cl :=
 (aE.cons (aM.ret (aC.bin (cF W (D4 W) (ec (vr 0 DO lY) (ec (aC.bin (vr 1 gQ lY) aC.int b9.sub) en)) (Ds W)) (cF W (Av W) (ec (vr 0 DO lY) (ec (aC.bin (vr 1 gQ lY) aC.int b9.add) en)) (zE W)) b9.add))
  aE.nil)
theorem EM (W : Wd w h) : dX (bJ w h) 2 73 wM :=
 sfo W 0 (names := [1, 5]) lY (λ us e => by obtain ⟨a, b, rfl⟩ := nG e; kernel_rfl) (ET W)
noncomputable def Er : List Stmt := cG (cN 13)
noncomputable def ES : Scope := bN (cN 13)
noncomputable def Ce : Cx := ⟨ES, [(0, 10), (1, 1), (2, 6), (3, 4)], true⟩
theorem eH : aR (bJ w h) Ce := aR.of (by kernel_rfl)
theorem GT (W : Wd w h) : aE (bJ w h) 2 Ce Er Ey :=
 (aE.cons (aM.swap (ids := [(2, 6), (3, 4)]) (aC.tup (ec (aC.sub (vr 0 kZ eH) aC.int (λ _ _ => rfl)) (ec (aC.sub (vr 0 kZ eH) aC.int (λ _ _ => rfl)) en))) eH (by intro p hp; simp only [List.mem_cons, List.not_mem_nil, or_false] at hp; rcases hp with rfl | rfl <;> first | exact jP 2 (by rfl) | exact jP 3 (by rfl)) (λ _ _ => .inl rfl) (λ _ _ => rfl) (λ _ h => (dZ h _ _).trans (by kernel_rfl)))
  (aE.cons (aM.ite (bK.cmp (vr 2 LR eH) (aC.str (k := 9) LP) (b9.eq W.iH) (by rfl)) (aE.cons (aM.ret (cF W (D4 W) (ec (vr 1 DO eH) (ec (vr 3 gE eH) en)) (Ds W)))
  aE.nil) aE.nil)
  (aE.cons (aM.ite (bK.cmp (vr 2 LR eH) (aC.str (k := 8) LQ) (b9.eq W.iH) (by rfl)) (aE.cons (aM.ret (cF W (Av W) (ec (vr 1 DO eH) (ec (vr 3 gE eH) en)) (zE W)))
  aE.nil) aE.nil)
  (aE.cons (aM.ret (aC.ite (bK.cmp (vr 2 LR eH) (aC.str (k := 7) Ng) (b9.eq W.iH) (by rfl)) aC.fail (cF W (Fu W) (ec (vr 1 DO eH) (ec (vr 3 gE eH) en)) (EM W))))
  aE.nil))))
theorem GN (W : Wd w h) : dX (bJ w h) 3 94 AV :=
 sfo W 2 (names := [10, 1]) eH (λ us e => by obtain ⟨a, b, rfl⟩ := nG e; kernel_rfl) (GT W)
noncomputable def yH : List Stmt := cG (eO 16 0)
noncomputable def zM : Scope := bN (eO 16 0)
noncomputable def sN : Cx := ⟨zM, [(0, 11)], true⟩
theorem d0 : aR (bJ w h) sN := aR.of (by kernel_rfl)
theorem Bm (W : Wd w h) : aE (bJ w h) 0 sN yH o3 :=
 (aE.cons (aM.assign (aC.lst en) (aa W w5 (dF W) (vr 0 bR d0)) (λ _ _ => rfl) (λ _ _ => rfl) (λ _ => rfl))
  (aE.cons (aM.assign (aC.lst en) (aa W F9 (dF W) (vr 0 bR d0)) (λ _ _ => rfl) (λ _ _ => rfl) (λ _ => rfl))
  (aE.cons (aM.assign (aC.lst en) (aa W uG (dF W) (vr 0 bR d0)) (λ _ _ => rfl) (λ _ _ => rfl) (λ _ => rfl))
  (aE.cons (aM.assign (aC.lst en) (aa W Ah (dF W) (vr 0 bR d0)) (λ _ _ => rfl) (λ _ _ => rfl) (λ _ => rfl))
  (aE.cons (aM.assign aC.qK (aa W Id (dF W) (vr 0 bR d0)) (λ _ _ => rfl) (λ _ _ => rfl) (λ _ => rfl))
  (aE.cons (aM.assign (aC.neg aC.int) (aa W Ga (dF W) (vr 0 bR d0)) (λ _ _ => rfl) (λ _ _ => rfl) (λ _ => rfl))
  (aE.cons (aM.assign aC.bool (aa W uH (dF W) (vr 0 bR d0)) (λ _ _ => rfl) (λ _ _ => rfl) (λ _ => rfl))
  (aE.cons (aM.assign (aC.tup en) (aa W DN (dF W) (vr 0 bR d0)) (λ _ _ => rfl) (λ _ _ => rfl) (λ _ => rfl))
  aE.nil))))))))
theorem AZ (W : Wd w h) : dX (bJ w h) 1 115 iC :=
 sfo W 0 (names := [11]) d0 (λ us e => by obtain ⟨a, rfl⟩ := CS e; kernel_rfl) (Bm W)
theorem Dv (W : Wd w h) : bB (bJ w h) 2 (.ref 251) (fNew 0 iC) := bB.cls (K := KF w) (c := 0) W.KX (by kernel_rfl) (Bv w) (by kernel_rfl) (AZ W)
noncomputable def yI : List Stmt := cG (eO 16 15)
noncomputable def zN : Scope := bN (eO 16 15)
noncomputable def sO : Cx := ⟨zN, [(0, 11), (1, 20)], true⟩
theorem j4 : aR (bJ w h) sO := aR.of (by kernel_rfl)
theorem Bn (W : Wd w h) : aE (bJ w h) 0 sO yI vM :=
 (aE.cons (aM.assign aC.bool (aa W uH (dF W) (vr 0 bR j4)) (λ _ _ => rfl) (λ _ _ => rfl) (λ _ => rfl))
  (aE.cons (aM.assign (cT (iO W) (ec (vr 1 w4 j4) en) bB.tuple) (aa W DN (dF W) (vr 0 bR j4)) (λ _ _ => rfl) (λ _ _ => rfl) (λ _ => rfl))
  (aE.cons (aM.ret aC.bool)
  aE.nil)))
theorem nA (W : Wd w h) : dX (bJ w h) 1 220 iD :=
 sfo W 0 (names := [11, 20]) j4 (λ us e => by obtain ⟨a, b, rfl⟩ := nG e; kernel_rfl) (Bn W)
noncomputable def tL : List Stmt := cG (eO 16 1)
noncomputable def t5 : Scope := bN (eO 16 1)
noncomputable def n7 : Cx := ⟨t5, [(0, 11), (1, 21)], true⟩
theorem dD : aR (bJ w h) n7 := aR.of (by kernel_rfl)
theorem v4 (W : Wd w h) : aE (bJ w h) 1 n7 tL pH :=
 (aE.cons (aM.expr (lm (ea W w5 (dF W) (vr 0 bR dD)) (ec (vr 1 Ic dD) en) bB.append PySem.F.slot_list_append PySem.F.type_list_append) (λ _ => rfl))
  (aE.cons (aM.expr (lm (ea W F9 (dF W) (vr 0 bR dD)) (ec (vr 1 Ic dD) en) bB.append PySem.F.slot_list_append PySem.F.type_list_append) (λ _ => rfl))
  (aE.cons (aM.ite (bK.cmp (vr 1 Ic dD) (aC.tup en) (b9.eq W.iH) (by rfl)) (aE.cons (aM.expr (im W Ib (dF W) (nI w) (vr 0 bR dD) (ec (aC.tup en) en) (nA W)) (λ _ => rfl))
  aE.nil) aE.nil)
  (aE.cons (aM.ret (aC.bin (cB (eU W) (ec (ea W w5 (dF W) (vr 0 bR dD)) en) (bB.len W.iH)) aC.int b9.sub))
  aE.nil))))
theorem nN (W : Wd w h) : dX (bJ w h) 2 122 fB :=
 sfo W 0 (names := [11, 21]) dD (λ us e => by obtain ⟨a, b, rfl⟩ := nG e; kernel_rfl) (v4 W)
noncomputable def yF : List Stmt := cG (eO 16 2)
noncomputable def zK : Scope := bN (eO 16 2)
noncomputable def sL : Cx := ⟨zK, [(0, 11)], true⟩
theorem sD : aR (bJ w h) sL := aR.of (by kernel_rfl)
theorem Bk (W : Wd w h) : aE (bJ w h) 0 sL yF vK :=
 (aE.cons (aM.ret (cB (eU W) (ec (ea W w5 (dF W) (vr 0 bR sD)) en) (bB.len W.iH)))
  aE.nil)
theorem AX (W : Wd w h) : dX (bJ w h) 1 129 o7 :=
 sfo W 0 (names := [11]) sD (λ us e => by obtain ⟨a, rfl⟩ := CS e; kernel_rfl) (Bk W)
noncomputable def AQ : List Stmt := cG (eO 16 3)
noncomputable def Bh : Scope := bN (eO 16 3)
noncomputable def u9 : Cx := ⟨Bh, [(0, 11), (1, 23)], true⟩
theorem oL : aR (bJ w h) u9 := aR.of (by kernel_rfl)
theorem CI (W : Wd w h) : aE (bJ w h) 0 u9 AQ xM :=
 (aE.cons (aM.ret (aC.sub (ea W w5 (dF W) (vr 0 bR oL)) (vr 1 dR oL) (λ _ _ => rfl)))
  aE.nil)
theorem tY (W : Wd w h) : dX (bJ w h) 1 136 kM :=
 sfo W 0 (names := [11, 23]) oL (λ us e => by obtain ⟨a, b, rfl⟩ := nG e; kernel_rfl) (CI W)
noncomputable def tM : List Stmt := cG (eO 16 4)
noncomputable def t6 : Scope := bN (eO 16 4)
noncomputable def n8 : Cx := ⟨t6, [(0, 11), (1, 23)], true⟩
theorem jU : aR (bJ w h) n8 := aR.of (by kernel_rfl)
theorem v5 (W : Wd w h) : aE (bJ w h) 0 n8 tM pI :=
 (aE.cons (aM.ret (aC.sub (ea W F9 (dF W) (vr 0 bR jU)) (vr 1 dR jU) (λ _ _ => rfl)))
  aE.nil)
theorem vU (W : Wd w h) : dX (bJ w h) 1 143 kX :=
 sfo W 0 (names := [11, 23]) jU (λ us e => by obtain ⟨a, b, rfl⟩ := nG e; kernel_rfl) (v5 W)
noncomputable def wH : List Stmt := cG (eO 16 12)
noncomputable def xS : Scope := bN (eO 16 12)
noncomputable def qM : Cx := ⟨xS, [(0, 11), (1, 10), (2, 20), (3, 14), (4, 23), (5, 25), (6, 24)], true⟩
theorem aV : aR (bJ w h) qM := aR.of (by kernel_rfl)
theorem zP (W : Wd w h) : aE (bJ w h) 3 qM wH sS :=
 (aE.cons (aM.assign (aC.sub (vr 1 kZ aV) aC.int (λ _ _ => rfl)) (an 4 dR aV) (λ _ _ => rfl) (λ _ _ => rfl) (λ _ => rfl))
  (aE.cons (aM.assign (aC.sub (ea W w5 (dF W) (vr 0 bR aV)) (vr 4 dR aV) (λ _ _ => rfl)) (an 5 BR aV) (λ _ _ => rfl) (λ _ _ => rfl) (λ _ => rfl))
  (aE.cons (aM.assign (cF W (Hb W) (ec (vr 1 kZ aV) (ec (vr 5 BR aV) en)) (GN W)) (an 6 wZ aV) (λ _ _ => rfl) (λ _ _ => rfl) (λ _ => rfl))
  (aE.cons (aM.ite (bK.cmp (vr 6 wZ aV) (aC.tup en) (b9.eq W.iH) (by rfl)) (aE.cons aM.fail
  aE.nil) aE.nil)
  (aE.cons (aM.ite (bK.cmp (vr 6 wZ aV) (vr 5 BR aV) (b9.eq W.iH) (by rfl)) (aE.cons (aM.ret aC.bool)
  aE.nil) aE.nil)
  (aE.cons (aM.expr (lm (ea W uG (dF W) (vr 0 bR aV)) (ec (aC.tup (ec (vr 4 dR aV) (ec (vr 5 BR aV) (ec (vr 1 kZ aV) (ec (vr 2 w4 aV) (ec (vr 3 Ga aV) en)))))) en) bB.append PySem.F.slot_list_append PySem.F.type_list_append) (λ _ => rfl))
  (aE.cons (aM.assign (vr 6 wZ aV) (eG.item (ea W w5 (dF W) (vr 0 bR aV)) (vr 4 dR aV)) (λ _ _ => rfl) (λ _ _ => rfl) (λ _ => rfl))
  (aE.cons (aM.assign aC.bool (eG.item (ea W Id (dF W) (vr 0 bR aV)) (vr 4 dR aV)) (λ _ _ => rfl) (λ _ _ => rfl) (λ _ => rfl))
  (aE.cons (aM.ret aC.bool)
  aE.nil)))))))))
theorem pY (W : Wd w h) : dX (bJ w h) 4 199 j8 :=
 sfo W 3 (names := [11, 10, 20, 14]) aV (λ us e => by obtain ⟨a, b, c, d, rfl⟩ := Kc e; kernel_rfl) (zP W)
noncomputable def vF : List Stmt := cG (eO 16 13)
noncomputable def vZ : Scope := bN (eO 16 13)
noncomputable def pE : Cx := ⟨vZ, [(0, 11), (1, 10), (2, 20)], true⟩
theorem f7 : aR (bJ w h) pE := aR.of (by kernel_rfl)
theorem xV (W : Wd w h) : aE (bJ w h) 4 pE vF qX :=
 (aE.cons (aM.ret (im W K0 (dF W) (qH w) (vr 0 bR f7) (ec (vr 1 kZ f7) (ec (cT (iO W) (ec (vr 2 w4 f7) en) bB.tuple) (ec (ea W Ga (dF W) (vr 0 bR f7)) en))) (pY W)))
  aE.nil)
theorem xP (W : Wd w h) : dX (bJ w h) 5 206 hV :=
 sfo W 0 (names := [11, 10, 20]) f7 (λ us e => by obtain ⟨a, b, c, rfl⟩ := Fk e; kernel_rfl) (xV W)
noncomputable def vG : List Stmt := cG (eO 16 14)
noncomputable def v0 : Scope := bN (eO 16 14)
noncomputable def pF : Cx := ⟨v0, [(0, 11), (1, 10)], true⟩
theorem kR : aR (bJ w h) pF := aR.of (by kernel_rfl)
theorem xW (W : Wd w h) : aE (bJ w h) 4 pF vG qY :=
 (aE.cons (aM.ret (im W K0 (dF W) (qH w) (vr 0 bR kR) (ec (vr 1 kZ kR) (ec aC.none (ec (aC.neg aC.int) en))) (pY W)))
  aE.nil)
theorem xQ (W : Wd w h) : dX (bJ w h) 5 213 jJ :=
 sfo W 0 (names := [11, 10]) kR (λ us e => by obtain ⟨a, b, rfl⟩ := nG e; kernel_rfl) (xW W)
noncomputable def yG : List Stmt := cG (eO 16 16)
noncomputable def zL : Scope := bN (eO 16 16)
noncomputable def sM : Cx := ⟨zL, [(0, 11)], true⟩
theorem nC : aR (bJ w h) sM := aR.of (by kernel_rfl)
theorem Bl (W : Wd w h) : aE (bJ w h) 0 sM yG vL :=
 (aE.cons (aM.expr (lm (ea W Ah (dF W) (vr 0 bR nC)) (ec (cB (eU W) (ec (ea W uG (dF W) (vr 0 bR nC)) en) (bB.len W.iH)) en) bB.append PySem.F.slot_list_append PySem.F.type_list_append) (λ _ => rfl))
  aE.nil)
theorem AY (W : Wd w h) : dX (bJ w h) 1 227 lK :=
 sfo W 0 (names := [11]) nC (λ us e => by obtain ⟨a, rfl⟩ := CS e; kernel_rfl) (Bl W)
noncomputable def AP : List Stmt := cG (eO 16 17)
noncomputable def Bg : Scope := bN (eO 16 17)
noncomputable def u8 : Cx := ⟨Bg, [(0, 11), (1, 29), (2, 27), (3, 28)], true⟩
theorem bL : aR (bJ w h) u8 := aR.of (by kernel_rfl)
theorem CH (W : Wd w h) : aE (bJ w h) 0 u8 AP xL :=
 (aE.cons (aM.ite (bK.cmp (vr 1 H9 bL) aC.int b9.lt (by rfl)) (aE.cons aM.JV
  aE.nil) aE.nil)
  (aE.cons (aM.assign (aC.sub (ea W Ah (dF W) (vr 0 bR bL)) (aC.bin (cB (eU W) (ec (ea W Ah (dF W) (vr 0 bR bL)) en) (bB.len W.iH)) (vr 1 H9 bL) b9.sub) (λ _ _ => rfl)) (an 2 BQ bL) (λ _ _ => rfl) (λ _ _ => rfl) (λ _ => rfl))
  (aE.cons (aM.assign (aC.slice (g := none) (h := some _) (ea W Ah (dF W) (vr 0 bR bL)) .nil (.one (aC.bin (cB (eU W) (ec (ea W Ah (dF W) (vr 0 bR bL)) en) (bB.len W.iH)) (vr 1 H9 bL) b9.sub))) (aa W Ah (dF W) (vr 0 bR bL)) (λ _ _ => rfl) (λ _ _ => rfl) (λ _ => rfl))
  (aE.cons (aM.while 1000 (bK.cmp (cB (eU W) (ec (ea W uG (dF W) (vr 0 bR bL)) en) (bB.len W.iH)) (vr 2 BQ bL) b9.gt (by rfl)) (aE.cons (aM.assign (lm (ea W uG (dF W) (vr 0 bR bL)) en bB.pop PySem.F.slot_list_pop PySem.F.type_list_pop) (an 3 Ia bL) (λ _ _ => rfl) (λ _ _ => rfl) (λ _ => rfl))
  (aE.cons (aM.assign (aC.sub (vr 3 Ia bL) aC.int (λ _ _ => rfl)) (eG.item (ea W w5 (dF W) (vr 0 bR bL)) (aC.sub (vr 3 Ia bL) aC.int (λ _ _ => rfl))) (λ _ _ => rfl) (λ _ _ => rfl) (λ _ => rfl))
  aE.nil)))
  (aE.cons (aM.assign aC.qK (aa W Id (dF W) (vr 0 bR bL)) (λ _ _ => rfl) (λ _ _ => rfl) (λ _ => rfl))
  (aE.cons (aM.assign (aC.cmp (aC.tup en) (ea W F9 (dF W) (vr 0 bR bL)) (b9.Qb W.iH) (by rfl)) (aa W uH (dF W) (vr 0 bR bL)) (λ _ _ => rfl) (λ _ _ => rfl) (λ _ => rfl))
  (aE.cons (aM.assign (aC.tup en) (aa W DN (dF W) (vr 0 bR bL)) (λ _ _ => rfl) (λ _ _ => rfl) (λ _ => rfl))
  aE.nil)))))))
theorem CB (W : Wd w h) : dX (bJ w h) 1 234 m9 :=
 sfo W 2 (names := [11, 29]) bL (λ us e => by obtain ⟨a, b, rfl⟩ := nG e; kernel_rfl) (CH W)
noncomputable def qT : List Stmt := cG (eO 17 0)
noncomputable def rW : Scope := bN (eO 17 0)
noncomputable def mF : Cx := ⟨rW, [(0, 11), (1, 31), (2, 30)], true⟩
theorem dU : aR (bJ w h) mF := aR.of (by kernel_rfl)
theorem sZ (W : Wd w h) : aE (bJ w h) 0 mF qT m5 :=
 (aE.cons (aM.assign (aC.neg aC.int) (aa W No (oB W) (vr 0 bR dU)) (λ _ _ => rfl) (λ _ _ => rfl) (λ _ => rfl))
  (aE.cons (aM.assign (cT (iO W) (ec (vr 1 pB dU) en) bB.tuple) (aa W pB (oB W) (vr 0 bR dU)) (λ _ _ => rfl) (λ _ _ => rfl) (λ _ => rfl))
  (aE.cons (aM.assign (vr 2 H8 dU) (aa W H8 (oB W) (vr 0 bR dU)) (λ _ _ => rfl) (λ _ _ => rfl) (λ _ => rfl))
  aE.nil)))
theorem sW (W : Wd w h) : dX (bJ w h) 1 269 jK :=
 sfo W 0 (names := [11, 31, 30]) dU (λ us e => by obtain ⟨a, b, c, rfl⟩ := Fk e; kernel_rfl) (sZ W)
noncomputable def kW : List Stmt := cG (eO 20 0)
theorem JL (W : Wd w h) {body : List Stmt} (hb : kW = body) : Gx (bJ w h) (KF w) 353 269 2 2 (fnOf w 353) body "values" "__init__" "self" "row" 99 where
 lk := by
  exact BW (by kernel_rfl)
 body := by rw [← hb]; kernel_rfl
 globals := by kernel_rfl
 builtins := by kernel_rfl
 code := by kernel_rfl
 bind := λ us => by kernel_rfl
 names := by decide +kernel
 hself := by kernel_rfl
 hrow := by kernel_rfl
 cells := by
  have h1 : ((fnOf w 353).scope.names.all λ x => !(x.2 == .cell)) = true := by kernel_rfl
  intro x hx e
  have := List.all_eq_true.mp h1 x hx
  rw [e] at this
  simp at this
 co := by kernel_rfl
 gen := by kernel_rfl
 kind := by kernel_rfl
 hks := by kernel_rfl
 hkc := by kernel_rfl
 clo := by
  have h1 : (match (KF w).lookup 341 with | some ⟨_, _, .cell (some (.ref a)), _⟩ => a == 382 | _ => false) = true := by kernel_rfl
  refine ⟨341, by kernel_rfl, ?_⟩
  split at h1
  ·rename_i x y a z e
   have : a = 382 := eq_of_beq h1
   subst this
   exact ⟨_, _, _, e⟩
  ·cases h1
 par := ⟨_, rfl, rfl⟩
 file := ⟨_, _, _, _, _, _, _, rfl, rfl, rfl, rfl⟩
 top := by kernel_rfl
 cD := by
  have h1 : (clsIn (KF w) 382).isSome = true := by kernel_rfl
  exact Option.isSome_iff_exists.mp h1
 sub := by kernel_rfl
 any := by kernel_rfl
 meth := by kernel_rfl
 typ := by kernel_rfl
 fnP := by kernel_rfl
 hy := by kernel_rfl
 hx := KL
theorem lU (W : Wd w h) : dX (bJ w h) 2 353 bZ :=
 dX.super (K := KF w) (c := 2) (D := 2) W.KX W.lim (JL W rfl) (Jo W) (by rfl) (λ _ => rfl) (λ _ => ⟨_, rfl⟩) (λ _ => rfl) (λ _ => rfl) (sW W)
theorem jN (W : Wd w h) : bB (bJ w h) 3 (.ref 382) (fNew 2 bZ) := bB.cls (K := KF w) (c := 2) W.KX (by kernel_rfl) (mD w) (by kernel_rfl) (lU W)
noncomputable def tO : List Stmt := cG (eO 19 0)
noncomputable def t8 : Scope := bN (eO 19 0)
noncomputable def oA : Cx := ⟨t8, [(0, 11), (1, 35), (2, 31)], true⟩
theorem eI : aR (bJ w h) oA := aR.of (by kernel_rfl)
theorem v7 (W : Wd w h) : aE (bJ w h) 1 oA tO pK :=
 (aE.cons (aM.assign (aC.vB (tt := none) 1000 (fV.of [(3, 23), (1, 35)] [3] (by kernel_rfl)) (vr 2 pB eI) (am 3 dR (aR.of (by kernel_rfl))) .nil (cF W (BY W) (ec (im W KZ (dF W) (uX w) (vr 1 uF (aR.of (by kernel_rfl))) (ec (vr 3 dR (aR.of (by kernel_rfl))) en) (tY W)) en) (BI W)) (λ _ _ => rfl)) (aa W F8 (qP W) (vr 0 bR eI)) (λ _ _ => rfl) (λ _ _ => rfl) (λ _ => rfl))
  (aE.cons (aM.assign (aC.bin (aC.lst (ec aC.none en)) (cB (eU W) (ec (vr 2 pB eI) en) (bB.len W.iH)) b9.mul) (aa W H7 (qP W) (vr 0 bR eI)) (λ _ _ => rfl) (λ _ _ => rfl) (λ _ => rfl))
  (aE.cons (aM.assign aC.qK (aa W Ag (qP W) (vr 0 bR eI)) (λ _ _ => rfl) (λ _ _ => rfl) (λ _ => rfl))
  aE.nil)))
theorem vW (W : Wd w h) : dX (bJ w h) 2 309 iS :=
 sfo W 1 (names := [11, 35, 31]) eI (λ us e => by obtain ⟨a, b, c, rfl⟩ := Fk e; kernel_rfl) (v7 W)
theorem Dw (W : Wd w h) : bB (bJ w h) 3 (.ref 333) (fNew 1 iS) := bB.cls (K := KF w) (c := 1) W.KX (by kernel_rfl) (wD w) (by kernel_rfl) (vW W)
noncomputable def pP : List Stmt := cG (eO 19 2)
noncomputable def pZ : Scope := bN (eO 19 2)
noncomputable def k7 : Cx := ⟨pZ, [(0, 11), (1, 5), (2, 40), (3, 39), (4, 38)], true⟩
theorem aU : aR (bJ w h) k7 := aR.of (by kernel_rfl)
theorem rX (W : Wd w h) : aE (bJ w h) 0 k7 pP mJ :=
 (aE.cons (aM.while 1000 (bK.cmp (vr 1 gQ aU) aC.none b9.BV (by rfl)) (aE.cons (aM.assign (aC.sub (vr 2 DM aU) (vr 1 gQ aU) (λ _ _ => rfl)) (an 3 F7 aU) (λ _ _ => rfl) (λ _ _ => rfl) (λ _ => rfl))
  (aE.cons (aM.assign (aC.sub (ea W H7 (qP W) (vr 0 bR aU)) (vr 3 F7 aU) (λ _ _ => rfl)) (an 4 KY aU) (λ _ _ => rfl) (λ _ _ => rfl) (λ _ => rfl))
  (aE.cons (aM.assign (vr 1 gQ aU) (eG.item (ea W H7 (qP W) (vr 0 bR aU)) (vr 3 F7 aU)) (λ _ _ => rfl) (λ _ _ => rfl) (λ _ => rfl))
  (aE.cons (aM.assign (vr 3 F7 aU) (eG.item (ea W Ag (qP W) (vr 0 bR aU)) (vr 1 gQ aU)) (λ _ _ => rfl) (λ _ _ => rfl) (λ _ => rfl))
  (aE.cons (aM.assign (vr 4 KY aU) (an 1 gQ aU) (λ _ _ => rfl) (λ _ _ => rfl) (λ _ => rfl))
  aE.nil))))))
  aE.nil)
theorem rU (W : Wd w h) : dX (bJ w h) 1 323 f5 :=
 sfo W 2 (names := [11, 5, 40]) aU (λ us e => by obtain ⟨a, b, c, rfl⟩ := Fk e; kernel_rfl) (rX W)
noncomputable def tN : List Stmt := cG (eO 19 1)
noncomputable def t7 : Scope := bN (eO 19 1)
noncomputable def n9 : Cx := ⟨t7, [(0, 11), (1, 43), (2, 40), (3, 41), (4, 4), (5, 5)], true⟩
theorem aO : aR (bJ w h) n9 := aR.of (by kernel_rfl)
theorem v6 (W : Wd w h) : aE (bJ w h) 1 n9 tN pJ :=
 (aE.cons (aM.swap (ids := [(2, 40), (3, 41), (4, 4)]) (aC.tup (ec aC.qK (ec (aC.lst (ec (vr 1 uE aO) en)) (ec aC.int en)))) aO (by intro p hp; simp only [List.mem_cons, List.not_mem_nil, or_false] at hp; rcases hp with rfl | rfl | rfl <;> first | exact jP 2 (by rfl) | exact jP 3 (by rfl) | exact jP 4 (by rfl)) (λ _ _ => .inl rfl) (λ _ _ => rfl) (λ _ h => (dZ h _ _).trans (by kernel_rfl)))
  (aE.cons (aM.while 1000 (bK.cmp (vr 4 gE aO) (cB (eU W) (ec (vr 3 eW aO) en) (bB.len W.iH)) b9.lt (by rfl)) (aE.cons (aM.for 1000 (aC.sub (ea W F8 (qP W) (vr 0 bR aO)) (aC.sub (vr 3 eW aO) (vr 4 gE aO) (λ _ _ => rfl)) (λ _ _ => rfl)) (an 5 gQ aO) (aE.cons (aM.ite (bK.cmp (vr 5 gQ aO) (vr 2 DM aO) (b9.p9 W.iH) (by rfl)) (aE.cons (aM.assign (aC.sub (vr 3 eW aO) (vr 4 gE aO) (λ _ _ => rfl)) (eG.item (vr 2 DM aO) (vr 5 gQ aO)) (λ _ _ => rfl) (λ _ _ => rfl) (λ _ => rfl))
  (aE.cons (aM.ite (bK.cmp (vr 5 gQ aO) (ea W Ag (qP W) (vr 0 bR aO)) (b9.p9 W.iH) (by rfl)) (aE.cons (aM.expr (im W Nn (qP W) (rZ w) (vr 0 bR aO) (ec (vr 5 gQ aO) (ec (vr 2 DM aO) en)) (rU W)) (λ _ => rfl))
  (aE.cons (aM.ret aC.none)
  aE.nil)) aE.nil)
  (aE.cons (aM.expr (lm (vr 3 eW aO) (ec (aC.sub (ea W Ag (qP W) (vr 0 bR aO)) (vr 5 gQ aO) (λ _ _ => rfl)) en) bB.append PySem.F.slot_list_append PySem.F.type_list_append) (λ _ => rfl))
  aE.nil))) aE.nil)
  aE.nil) (λ _ _ => rfl))
  (aE.cons (aM.assign (aC.bin (vr 4 gE aO) aC.int b9.add) (an 4 gE aO) (λ _ _ => rfl) (λ _ _ => rfl) (λ _ => rfl))
  aE.nil)))
  (aE.cons (aM.ret (aC.tup (ec (vr 3 eW aO) (ec (cB (Ci W) (ec (vr 2 DM aO) en) (bB.sorted W.iH)) en))))
  aE.nil)))
theorem vV (W : Wd w h) : dX (bJ w h) 2 316 iR :=
 sfo W 4 (names := [11, 43]) aO (λ us e => by obtain ⟨a, b, rfl⟩ := nG e; kernel_rfl) (v6 W)
noncomputable def mS : List Stmt := cG (eO 19 3)
noncomputable def nB : Scope := bN (eO 19 3)
noncomputable def iZ : Cx := ⟨nB, [(0, 11), (1, 5), (2, 41), (3, 44), (4, 45), (5, 46), (6, 47)], true⟩
theorem aL : aR (bJ w h) iZ := aR.of (by kernel_rfl)
theorem nQ (W : Wd w h) : aE (bJ w h) 0 iZ mS jF :=
 (aE.cons (aM.swap (ids := [(2, 41), (3, 44), (4, 45)]) (aC.tup (ec (aC.lst en) (ec (aC.Mv [(_, _)] rfl rfl (λ _ => rfl) (by simp) (by simp) (iP.cons (vr 1 gQ aL) aC.bool iP.nil)) (ec (aC.lst (ec (vr 1 gQ aL) en)) en)))) aL (by intro p hp; simp only [List.mem_cons, List.not_mem_nil, or_false] at hp; rcases hp with rfl | rfl | rfl <;> first | exact jP 2 (by rfl) | exact jP 3 (by rfl) | exact jP 4 (by rfl)) (λ _ _ => .inl rfl) (λ _ _ => rfl) (λ _ h => (dZ h _ _).trans (by kernel_rfl)))
  (aE.cons (aM.while 1000 (bK.cmp (vr 4 H5 aL) (aC.lst en) (b9.EG W.iH) (by rfl)) (aE.cons (aM.assign (lm (vr 4 H5 aL) en bB.pop PySem.F.slot_list_pop PySem.F.type_list_pop) (an 5 F6 aL) (λ _ _ => rfl) (λ _ _ => rfl) (λ _ => rfl))
  (aE.cons (aM.ite (bK.cmp (vr 5 F6 aL) (ea W Ag (qP W) (vr 0 bR aL)) (b9.p9 W.iH) (by rfl)) (aE.cons (aM.ret aC.none)
  aE.nil) aE.nil)
  (aE.cons (aM.expr (lm (vr 2 eW aL) (ec (aC.sub (ea W Ag (qP W) (vr 0 bR aL)) (vr 5 F6 aL) (λ _ _ => rfl)) en) bB.append PySem.F.slot_list_append PySem.F.type_list_append) (λ _ => rfl))
  (aE.cons (aM.for 1000 (aC.sub (ea W F8 (qP W) (vr 0 bR aL)) (aC.sub (ea W Ag (qP W) (vr 0 bR aL)) (vr 5 F6 aL) (λ _ _ => rfl)) (λ _ _ => rfl)) (an 6 F5 aL) (aE.cons (aM.ite (bK.cmp (vr 6 F5 aL) (vr 3 H6 aL) (b9.p9 W.iH) (by rfl)) (aE.cons (aM.assign aC.bool (eG.item (vr 3 H6 aL) (vr 6 F5 aL)) (λ _ _ => rfl) (λ _ _ => rfl) (λ _ => rfl))
  (aE.cons (aM.expr (lm (vr 4 H5 aL) (ec (vr 6 F5 aL) en) bB.append PySem.F.slot_list_append PySem.F.type_list_append) (λ _ => rfl))
  aE.nil)) aE.nil)
  aE.nil) (λ _ _ => rfl))
  aE.nil)))))
  (aE.cons (aM.ret (aC.tup (ec (vr 2 eW aL) (ec (cB (Ci W) (ec (vr 3 H6 aL) en) (bB.sorted W.iH)) en))))
  aE.nil)))
theorem nO (W : Wd w h) : dX (bJ w h) 1 330 dM :=
 sfo W 5 (names := [11, 5]) aL (λ us e => by obtain ⟨a, b, rfl⟩ := nG e; kernel_rfl) (nQ W)
noncomputable def kU : List Stmt := cG (eO 20 1)
noncomputable def lB : Scope := bN (eO 20 1)
noncomputable def g9 : Cx := ⟨lB, [(0, 11)], true⟩
theorem eQ : aR (bJ w h) g9 := aR.of (by kernel_rfl)
theorem lV (W : Wd w h) : aE (bJ w h) 0 g9 kU iE :=
 (aE.cons (aM.ret (aC.tup (ec (aC.str (k := 48) KW) (ec (ea W pB (oB W) (vr 0 bR eQ)) (ec (ea W H8 (oB W) (vr 0 bR eQ)) en)))))
  aE.nil)
theorem lT (W : Wd w h) : dX (bJ w h) 1 360 dQ :=
 sfo W 0 (names := [11]) eQ (λ us e => by obtain ⟨a, rfl⟩ := CS e; kernel_rfl) (lV W)
noncomputable def kJ : List Stmt := cG (eO 20 2)
noncomputable def kQ : Scope := bN (eO 20 2)
noncomputable def gO : Cx := ⟨kQ, [(0, 11), (1, 0)], true⟩
theorem eD : aR (bJ w h) gO := aR.of (by kernel_rfl)
theorem lD (W : Wd w h) : aE (bJ w h) 0 gO kJ hU :=
 (aE.cons (aM.ret (aC.cmp (cB (eU W) (ec (aC.Gm (tt := none) 1000 (fV.of [(2, 5)] [2] (by kernel_rfl)) (vr 1 nE eD) (am 2 gQ (aR.of (by kernel_rfl))) .nil (vr 2 gQ (aR.of (by kernel_rfl))) aC.bool (λ _ _ => rfl)) en) (bB.len W.iH)) (cB (eU W) (ec (vr 1 nE eD) en) (bB.len W.iH)) (b9.eq W.iH) (by rfl)))
  aE.nil)
theorem gJ (W : Wd w h) : dX (bJ w h) 1 365 cX :=
 sfo W 1 (names := [11, 0]) eD (λ us e => by obtain ⟨a, b, rfl⟩ := nG e; kernel_rfl) (lD W)
noncomputable def kI : List Stmt := cG (eO 20 4)
noncomputable def kP : Scope := bN (eO 20 4)
noncomputable def gN : Cx := ⟨kP, [(0, 11), (1, 35), (2, 41), (3, 50), (4, 0), (5, 43), (6, 23), (7, 5)], true⟩
theorem aG : aR (bJ w h) gN := aR.of (by kernel_rfl)
theorem lC (W : Wd w h) : aE (bJ w h) 1 gN kI hJ :=
 (aE.cons (aM.assign (aC.lst en) (an 4 nE aG) (λ _ _ => rfl) (λ _ _ => rfl) (λ _ => rfl))
  (aE.cons (aM.for 1000 (vr 2 eW aG) (an 5 uE aG) (aE.cons (aM.assign (aC.sub (ea W pB (oB W) (vr 0 bR aG)) (vr 5 uE aG) (λ _ _ => rfl)) (an 6 dR aG) (λ _ _ => rfl) (λ _ _ => rfl) (λ _ => rfl))
  (aE.cons (aM.expr (lm (vr 4 nE aG) (ec (aC.lst (ec (aC.tup (ec (vr 6 dR aG) (ec (aC.str (k := 8) LQ) (ec (aC.sub (vr 3 DL aG) aC.int (λ _ _ => rfl)) en)))) (ec (aC.tup (ec (vr 6 dR aG) (ec (aC.str (k := 9) LP) (ec (aC.sub (vr 3 DL aG) (aC.neg aC.int) (λ _ _ => rfl)) en)))) en))) en) bB.extend PySem.F.slot_list_extend PySem.F.type_list_extend) (λ _ => rfl))
  (aE.cons (aM.for 1000 (cF W (BY W) (ec (im W Nm (dF W) (wB w) (vr 1 uF aG) (ec (vr 6 dR aG) en) (vU W)) en) (BI W)) (an 7 gQ aG) (aE.cons (aM.ite (bK.boolop (bM.cons (bK.qR (aC.sub (vr 3 DL aG) aC.int (λ _ _ => rfl)) (vr 7 gQ aG) (aC.sub (vr 3 DL aG) (aC.neg aC.int) (λ _ _ => rfl)) b9.lt b9.lt (by rfl)) (bM.cons (bK.cmp (vr 7 gQ aG) (vr 3 DL aG) (b9.p9 W.iH) (by rfl)) bM.nil))) (aE.cons (aM.expr (lm (vr 4 nE aG) (ec (aC.tup (ec (vr 6 dR aG) (ec (aC.str (k := 51) F4) (ec (vr 7 gQ aG) en)))) en) bB.append PySem.F.slot_list_append PySem.F.type_list_append) (λ _ => rfl))
  aE.nil) aE.nil)
  aE.nil) (λ _ _ => rfl))
  aE.nil))) (λ _ _ => rfl))
  (aE.cons (aM.ret (cT (iO W) (ec (vr 4 nE aG) en) bB.tuple))
  aE.nil)))
theorem gI (W : Wd w h) : dX (bJ w h) 2 379 bU :=
 sfo W 4 (names := [11, 35, 41, 50]) aG (λ us e => by obtain ⟨a, b, c, d, rfl⟩ := Kc e; kernel_rfl) (lC W)
noncomputable def i7 : List Stmt := cG (eO 20 3)
noncomputable def jC : Scope := bN (eO 20 3)
noncomputable def fK : Cx := ⟨jC, [(0, 11), (1, 35), (2, 52), (3, 43), (4, 57), (5, 53), (6, 5), (7, 20)], true⟩
theorem aA : aR (bJ w h) fK := aR.of (by kernel_rfl)
theorem jL (W : Wd w h) : aE (bJ w h) 5 fK i7 fU :=
 (aE.cons (aM.ite (bK.ofE (ea W uH (dF W) (vr 1 uF aA)) (λ _ _ => rfl)) (aE.cons (aM.ret aC.bool)
  aE.nil) aE.nil)
  (aE.cons (aM.ite (bK.not (bK.ofE (im W KU (oB W) (gM w) (vr 0 bR aA) (ec (ea W pB (oB W) (vr 0 bR aA)) en) (gJ W)) (λ _ _ => rfl))) (aE.cons (aM.ret (im W Ib (dF W) (nI w) (vr 1 uF aA) (ec (aC.tup en) en) (nA W)))
  aE.nil) aE.nil)
  (aE.cons (aM.assign (cC W (D8 W) (ec (vr 1 uF aA) (ec (ea W pB (oB W) (vr 0 bR aA)) en)) (Dw W)) (an 2 F2 aA) (λ _ _ => rfl) (λ _ _ => rfl) (λ _ => rfl))
  (aE.cons (aM.for 1000 (cT (dL W) (ec (cB (eU W) (ec (ea W pB (oB W) (vr 0 bR aA)) en) (bB.len W.iH)) en) bB.gW) (an 3 uE aA) (aE.cons (aM.assign (im W Ni (qP W) (wC w) (vr 2 F2 aA) (ec (vr 3 uE aA) en) (vV W)) (an 4 F1 aA) (λ _ _ => rfl) (λ _ _ => rfl) (λ _ => rfl))
  (aE.cons (aM.ite (bK.cmp (vr 4 F1 aA) aC.none b9.BV (by rfl)) (aE.cons (aM.ret (im W Ib (dF W) (nI w) (vr 1 uF aA) (ec (im W KV (oB W) (gK w) (vr 0 bR aA) (ec (vr 1 uF aA) (ec (aC.sub (vr 4 F1 aA) aC.int (λ _ _ => rfl)) (ec (aC.sub (vr 4 F1 aA) aC.int (λ _ _ => rfl)) en))) (gI W)) en) (nA W)))
  aE.nil) aE.nil)
  aE.nil)) (λ _ _ => rfl))
  (aE.cons (aM.assign aC.qK (an 5 Af aA) (λ _ _ => rfl) (λ _ _ => rfl) (λ _ => rfl))
  (aE.cons (aM.for 1000 (cT (dL W) (ec (cB (eU W) (ec (ea W pB (oB W) (vr 0 bR aA)) en) (bB.len W.iH)) en) bB.gW) (an 3 uE aA) (aE.cons (aM.for 1000 (aC.sub (ea W F8 (qP W) (vr 2 F2 aA)) (vr 3 uE aA) (λ _ _ => rfl)) (an 6 gQ aA) (aE.cons (aM.ite (bK.cmp (vr 6 gQ aA) (vr 5 Af aA) (b9.p9 W.iH) (by rfl)) (aE.cons (aM.assign (im W Nj (qP W) (nZ w) (vr 2 F2 aA) (ec (vr 6 gQ aA) en) (nO W)) (eG.item (vr 5 Af aA) (vr 6 gQ aA)) (λ _ _ => rfl) (λ _ _ => rfl) (λ _ => rfl))
  aE.nil) aE.nil)
  (aE.cons (aM.ite (bK.boolop (bM.cons (bK.cmp (aC.sub (vr 5 Af aA) (vr 6 gQ aA) (λ _ _ => rfl)) aC.none b9.BV (by rfl)) (bM.cons (bK.cmp (vr 3 uE aA) (aC.sub (aC.sub (vr 5 Af aA) (vr 6 gQ aA) (λ _ _ => rfl)) aC.int (λ _ _ => rfl)) (b9.p9 W.iH) (by rfl)) bM.nil))) (aE.cons (aM.assign (im W KV (oB W) (gK w) (vr 0 bR aA) (ec (vr 1 uF aA) (ec (aC.sub (aC.sub (vr 5 Af aA) (vr 6 gQ aA) (λ _ _ => rfl)) aC.int (λ _ _ => rfl)) (ec (aC.sub (aC.sub (vr 5 Af aA) (vr 6 gQ aA) (λ _ _ => rfl)) aC.int (λ _ _ => rfl)) en))) (gI W)) (an 7 w4 aA) (λ _ _ => rfl) (λ _ _ => rfl) (λ _ => rfl))
  (aE.cons (aM.ite (bK.not (bK.ofE (im W Nk (dF W) (yA w) (vr 1 uF aA) (ec (aC.tup (ec (aC.sub (ea W pB (oB W) (vr 0 bR aA)) (vr 3 uE aA) (λ _ _ => rfl)) (ec (aC.str (k := 51) F4) (ec (vr 6 gQ aA) en)))) (ec (vr 7 w4 aA) en)) (xP W)) (λ _ _ => rfl))) (aE.cons (aM.ret aC.bool)
  aE.nil) aE.nil)
  aE.nil)) aE.nil)
  aE.nil)) (λ _ _ => rfl))
  aE.nil) (λ _ _ => rfl))
  (aE.cons (aM.ret aC.bool)
  aE.nil)))))))
theorem dO (W : Wd w h) : dX (bJ w h) 6 372 bT :=
 sfo W 6 (names := [11, 35]) aA (λ us e => by obtain ⟨a, b, rfl⟩ := nG e; kernel_rfl) (jL W)
noncomputable def AL : List Stmt := cG (cN 22)
noncomputable def Bc : Scope := bN (cN 22)
noncomputable def u4 : Cx := ⟨Bc, [(0, 60), (1, 62), (2, 63)], true⟩
theorem cR : aR (bJ w h) u4 := aR.of (by kernel_rfl)
theorem CD (W : Wd w h) : aE (bJ w h) 0 u4 AL xH :=
 (aE.cons (aM.assign (aC.sub (vr 0 kF cR) (aC.str (k := 63) Ae) (λ _ _ => rfl)) (an 2 Ae cR) (λ _ _ => rfl) (λ _ _ => rfl) (λ _ => rfl))
  (aE.cons (aM.assign (aC.bin (vr 2 Ae cR) aC.int b9.add) (eG.item (vr 0 kF cR) (aC.str (k := 63) Ae)) (λ _ _ => rfl) (λ _ _ => rfl) (λ _ => rfl))
  (aE.cons (aM.ite (bK.cmp (vr 2 Ae cR) (cB (eU W) (ec (aC.sub (vr 0 kF cR) (aC.str (k := 64) BP) (λ _ _ => rfl)) en) (bB.len W.iH)) b9.lt (by rfl)) (aE.cons (aM.ret (aC.bin (aC.sub (aC.sub (vr 0 kF cR) (aC.str (k := 64) BP) (λ _ _ => rfl)) (vr 2 Ae cR) (λ _ _ => rfl)) (vr 1 qA cR) b9.mod))
  aE.nil) aE.nil)
  (aE.cons (aM.assign (aC.bin (aC.bin (aC.bin (aC.sub (vr 0 kF cR) (aC.str (k := 61) F0) (λ _ _ => rfl)) aC.int b9.mul) aC.int b9.add) aC.int b9.mod) (eG.item (vr 0 kF cR) (aC.str (k := 61) F0)) (λ _ _ => rfl) (λ _ _ => rfl) (λ _ => rfl))
  (aE.cons (aM.ret (aC.bin (aC.bin (aC.sub (vr 0 kF cR) (aC.str (k := 61) F0) (λ _ _ => rfl)) aC.int b9.floordiv) (vr 1 qA cR) b9.mod))
  aE.nil)))))
theorem eC (W : Wd w h) : dX (bJ w h) 1 391 cE :=
 sfo W 1 (names := [60, 62]) cR (λ us e => by obtain ⟨a, b, rfl⟩ := nG e; kernel_rfl) (CD W)
noncomputable def yE : List Stmt := cG (cN 23)
noncomputable def zJ : Scope := bN (cN 23)
noncomputable def sK : Cx := ⟨zJ, [(0, 65)], true⟩
theorem Bp : aR (bJ w h) sK := aR.of (by kernel_rfl)
theorem Bj (W : Wd w h) : aE (bJ w h) 0 sK yE vJ :=
 (aE.cons (aM.ret (cB (FH W) (ec (aC.vB (tt := none) 1000 (fV.of [(1, 4), (0, 65)] [1] (by kernel_rfl)) (cT (dL W) (ec aC.int en) bB.gW) (am 1 gE (aR.of (by kernel_rfl))) .nil (aC.bin (aC.bin (vr 0 pA (aR.of (by kernel_rfl))) (aC.bin aC.int (vr 1 gE (aR.of (by kernel_rfl))) b9.pow) b9.floordiv) aC.int b9.mod) (λ _ _ => rfl)) en) bB.sum))
  aE.nil)
theorem sB (W : Wd w h) : dX (bJ w h) 1 396 f4 :=
 sfo W 1 (names := [65]) Bp (λ us e => by obtain ⟨a, rfl⟩ := CS e; kernel_rfl) (Bj W)
noncomputable def wG : List Stmt := cG (cN 24)
noncomputable def xR : Scope := bN (cN 24)
noncomputable def qL : Cx := ⟨xR, [(0, 65), (1, 66), (2, 0), (3, 4)], true⟩
theorem bI : aR (bJ w h) qL := aR.of (by kernel_rfl)
theorem zO (W : Wd w h) : aE (bJ w h) 0 qL wG sR :=
 (aE.cons (aM.assign (aC.lst en) (an 2 nE bI) (λ _ _ => rfl) (λ _ _ => rfl) (λ _ => rfl))
  (aE.cons (aM.for 1000 (cT (dL W) (ec aC.int en) bB.gW) (an 3 gE bI) (aE.cons (aM.ite (bK.boolop (bM.cons (bK.cmp (aC.bin (aC.bin (vr 0 pA bI) (aC.bin aC.int (vr 3 gE bI) b9.pow) b9.floordiv) aC.int b9.mod) aC.int (b9.eq W.iH) (by rfl)) (bM.cons (bK.cmp (aC.bin (aC.bin (aC.bin (vr 0 pA bI) aC.int b9.mul) (aC.bin aC.int (vr 3 gE bI) b9.pow) b9.floordiv) aC.int b9.mod) aC.int (b9.eq W.iH) (by rfl)) bM.nil))) (aE.cons (aM.assign (aC.tup (ec (aC.sub (aC.sub (vr 2 nE bI) (aC.neg aC.int) (λ _ _ => rfl)) aC.int (λ _ _ => rfl)) (ec (aC.bin (vr 1 fG bI) (vr 3 gE bI) b9.add) en))) (eG.item (vr 2 nE bI) (aC.neg aC.int)) (λ _ _ => rfl) (λ _ _ => rfl) (λ _ => rfl))
  aE.nil) (aE.cons (aM.ite (bK.cmp (aC.bin (aC.bin (vr 0 pA bI) (aC.bin aC.int (vr 3 gE bI) b9.pow) b9.floordiv) aC.int b9.mod) aC.int (b9.eq W.iH) (by rfl)) (aE.cons (aM.expr (lm (vr 2 nE bI) (ec (aC.tup (ec (aC.bin (vr 1 fG bI) (vr 3 gE bI) b9.add) (ec (aC.bin (vr 1 fG bI) (vr 3 gE bI) b9.add) en))) en) bB.append PySem.F.slot_list_append PySem.F.type_list_append) (λ _ => rfl))
  aE.nil) aE.nil)
  aE.nil))
  aE.nil) (λ _ _ => rfl))
  (aE.cons (aM.ret (cT (iO W) (ec (vr 2 nE bI) en) bB.tuple))
  aE.nil)))
theorem pX (W : Wd w h) : dX (bJ w h) 1 403 gD :=
 sfo W 2 (names := [65, 66]) bI (λ us e => by obtain ⟨a, b, rfl⟩ := nG e; kernel_rfl) (zO W)
noncomputable def By : List Stmt := cG (cN 25)
noncomputable def CC : Scope := bN (cN 25)
noncomputable def xD : Cx := ⟨CC, [(0, 67), (1, 66)], true⟩
theorem wW : aR (bJ w h) xD := aR.of (by kernel_rfl)
theorem Dx (W : Wd w h) : aE (bJ w h) 0 xD By AS :=
 (aE.cons (aM.ret (cB (FH W) (ec (aC.Lm (tt := none) (Oi := none) 1000 (fV.of [(2, 68), (3, 69), (4, 5), (1, 66)] [2, 3, 4] (by kernel_rfl)) (vr 0 Nh wW) (eG.tup (dS.cons (am 2 KT (aR.of (by kernel_rfl))) (λ _ => rfl) (dS.cons (am 3 KS (aR.of (by kernel_rfl))) (λ _ => rfl) dS.nil))) .nil (cT (dL W) (ec (vr 2 KT (aR.of (by kernel_rfl))) (ec (aC.bin (vr 3 KS (aR.of (by kernel_rfl))) aC.int b9.add) en)) bB.CJ) (am 4 gQ (aR.of (by kernel_rfl))) .nil (aC.bin aC.int (aC.bin (vr 4 gQ (aR.of (by kernel_rfl))) (vr 1 fG (aR.of (by kernel_rfl))) b9.sub) b9.pow) (λ _ _ => rfl) (λ _ _ => rfl)) en) bB.sum))
  aE.nil)
theorem wT (W : Wd w h) : dX (bJ w h) 1 408 mR :=
 sfo W 3 (names := [67, 66]) wW (λ us e => by obtain ⟨a, b, rfl⟩ := nG e; kernel_rfl) (Dx W)
noncomputable def AN : List Stmt := cG (cN 26)
noncomputable def Be : Scope := bN (cN 26)
noncomputable def u6 : Cx := ⟨Be, [(0, 70), (1, 66)], true⟩
theorem uD : aR (bJ w h) u6 := aR.of (by kernel_rfl)
theorem CF (W : Wd w h) : aE (bJ w h) 1 u6 AN xJ :=
 (aE.cons (aM.ret (aC.vB (tt := none) 1000 (fV.of [(2, 23), (1, 66), (0, 70)] [2] (by kernel_rfl)) (cT (dL W) (ec (im W Nf (dF W) (Bt w) (vr 0 fQ uD) en (AX W)) en) bB.gW) (am 2 dR (aR.of (by kernel_rfl))) .nil (cF W (w8 W) (ec (im W KZ (dF W) (uX w) (vr 0 fQ (aR.of (by kernel_rfl))) (ec (vr 2 dR (aR.of (by kernel_rfl))) en) (tY W)) (ec (vr 1 fG (aR.of (by kernel_rfl))) en)) (wT W)) (λ _ _ => rfl)))
  aE.nil)
theorem hY (W : Wd w h) : dX (bJ w h) 2 413 d6 :=
 sfo W 1 (names := [70, 66]) uD (λ us e => by obtain ⟨a, b, rfl⟩ := nG e; kernel_rfl) (CF W)
noncomputable def AM : List Stmt := cG (cN 27)
noncomputable def Bd : Scope := bN (cN 27)
noncomputable def u5 : Cx := ⟨Bd, [(0, 65), (1, 10), (2, 66), (3, 0), (4, 4), (5, 5), (6, 73), (7, 72)], true⟩
theorem bF : aR (bJ w h) u5 := aR.of (by kernel_rfl)
theorem CE (W : Wd w h) : aE (bJ w h) 0 u5 AM xI :=
 (aE.cons (aM.assign aC.int (an 3 nE bF) (λ _ _ => rfl) (λ _ _ => rfl) (λ _ => rfl))
  (aE.cons (aM.for 1000 (cT (dL W) (ec aC.int en) bB.gW) (an 4 gE bF) (aE.cons (aM.swap (ids := [(5, 5), (6, 73)]) (aC.tup (ec (aC.bin (vr 2 fG bF) (vr 4 gE bF) b9.add) (ec (aC.sub (vr 1 kZ bF) aC.int (λ _ _ => rfl)) en))) bF (by intro p hp; simp only [List.mem_cons, List.not_mem_nil, or_false] at hp; rcases hp with rfl | rfl <;> first | exact jP 5 (by rfl) | exact jP 6 (by rfl)) (λ _ _ => .inl rfl) (λ _ _ => rfl) (λ _ h => (dZ h _ _).trans (by kernel_rfl)))
  (aE.cons (aM.assign (aC.sub (aC.Jd [(_, _), (_, _), (_, _), (_, _)] rfl rfl (λ _ => rfl) (by simp) (by simp) (iP.cons (aC.str (k := 9) LP) (aC.cmp (vr 5 gQ bF) (vr 6 FZ bF) b9.le (by rfl)) (iP.cons (aC.str (k := 8) LQ) (aC.cmp (vr 5 gQ bF) (vr 6 FZ bF) b9.ge (by rfl)) (iP.cons (aC.str (k := 7) Ng) (aC.cmp (vr 5 gQ bF) (vr 6 FZ bF) (b9.eq W.iH) (by rfl)) (iP.cons (aC.str (k := 51) F4) (aC.cmp (vr 5 gQ bF) (vr 6 FZ bF) (b9.EG W.iH) (by rfl)) iP.nil))))) (aC.sub (vr 1 kZ bF) aC.int (λ _ _ => rfl)) (λ _ _ => rfl)) (an 7 KR bF) (λ _ _ => rfl) (λ _ _ => rfl) (λ _ => rfl))
  (aE.cons (aM.ite (bK.boolop (bM.cons (bK.ofE (vr 7 KR bF) (λ _ _ => rfl)) (bM.cons (bK.cmp (aC.bin (aC.bin (vr 0 pA bF) (aC.bin aC.int (vr 4 gE bF) b9.pow) b9.floordiv) aC.int b9.mod) aC.int (b9.eq W.iH) (by rfl)) bM.nil))) (aE.cons (aM.assign (aC.bin (vr 3 nE bF) (aC.bin aC.int (vr 4 gE bF) b9.pow) b9.add) (an 3 nE bF) (λ _ _ => rfl) (λ _ _ => rfl) (λ _ => rfl))
  aE.nil) aE.nil)
  aE.nil))) (λ _ _ => rfl))
  (aE.cons (aM.ret (vr 3 nE bF))
  aE.nil)))
theorem lA (W : Wd w h) : dX (bJ w h) 1 420 f0 :=
 sfo W 5 (names := [65, 10, 66]) bF (λ us e => by obtain ⟨a, b, c, rfl⟩ := Fk e; kernel_rfl) (CE W)
noncomputable def vE : List Stmt := cG (cN 28)
noncomputable def vY : Scope := bN (cN 28)
noncomputable def pD : Cx := ⟨vY, [(0, 41), (1, 76), (2, 74), (3, 75), (4, 62), (5, 4), (6, 23)], true⟩
theorem bD : aR (bJ w h) pD := aR.of (by kernel_rfl)
theorem xU (W : Wd w h) : aE (bJ w h) 1 pD vE qW :=
 (aE.cons (aM.ite (bK.cmp (aC.tC (eU W) (MA W) (by kernel_rfl) (by kernel_rfl) (by rfl) (by rfl) (λ _ => rfl) (λ _ => rfl) (vr 0 eW bD)) (cB (eU W) (ec (vr 0 eW bD) en) (bB.len W.iH)) b9.lt (by rfl)) (aE.cons (aM.ret aC.bool)
  aE.nil) aE.nil)
  (aE.cons (aM.for 1000 (cT (dL W) (ec aC.int (ec (aC.bin aC.int (cB (eU W) (ec (vr 0 eW bD) en) (bB.len W.iH)) b9.pow) en)) bB.CJ) (an 2 DK bD) (aE.cons (aM.assign (aC.tup (ec aC.int (ec aC.int en))) (eG.tup (dS.cons (an 3 H4 bD) (λ _ => rfl) (dS.cons (an 4 qA bD) (λ _ => rfl) dS.nil))) (λ _ _ => rfl) (λ _ h => (dZ h _ _).trans (by kernel_rfl)) (λ _ => rfl))
  (aE.cons (aM.j6 1000 (De W) (by kernel_rfl) (by rfl) (λ _ => rfl) (vr 0 eW bD) (eG.tup (dS.cons (an 5 gE bD) (λ _ => rfl) (dS.cons (an 6 dR bD) (λ _ => rfl) dS.nil))) (aE.cons (aM.ite (bK.cmp (aC.bin (aC.bin (vr 2 DK bD) (aC.bin aC.int (vr 5 gE bD) b9.pow) b9.floordiv) aC.int b9.mod) aC.int (b9.eq W.iH) (by rfl)) (aE.cons (aM.swap (ids := [(3, 75), (4, 62)]) (aC.tup (ec (aC.bin (vr 3 H4 bD) (aC.sub (vr 1 fZ bD) (vr 6 dR bD) (λ _ _ => rfl)) b9.or) (ec (aC.bin (vr 4 qA bD) aC.int b9.add) en))) bD (by intro p hp; simp only [List.mem_cons, List.not_mem_nil, or_false] at hp; rcases hp with rfl | rfl <;> first | exact jP 3 (by rfl) | exact jP 4 (by rfl)) (λ _ _ => .inl rfl) (λ _ _ => rfl) (λ _ h => (dZ h _ _).trans (by kernel_rfl)))
  aE.nil) aE.nil)
  aE.nil) (λ _ _ => rfl))
  (aE.cons (aM.ite (bK.cmp (cF W (sG W) (ec (vr 3 H4 bD) en) (sB W)) (vr 4 qA bD) b9.lt (by rfl)) (aE.cons (aM.ret aC.bool)
  aE.nil) aE.nil)
  aE.nil))) (λ _ _ => rfl))
  (aE.cons (aM.ret aC.bool)
  aE.nil)))
theorem kO (W : Wd w h) : dX (bJ w h) 2 427 fW :=
 sfo W 5 (names := [41, 76]) bD (λ us e => by obtain ⟨a, b, rfl⟩ := nG e; kernel_rfl) (xU W)
noncomputable def vD : List Stmt := cG (cN 29)
noncomputable def vX : Scope := bN (cN 29)
noncomputable def pC : Cx := ⟨vX, [(0, 41), (1, 76), (2, 0), (3, 23), (4, 65), (5, 78), (6, 4)], true⟩
theorem bG : aR (bJ w h) pC := aR.of (by kernel_rfl)
theorem xT (W : Wd w h) : aE (bJ w h) 2 pC vD qU :=
 (aE.cons (aM.assign (aC.lst en) (an 2 nE bG) (λ _ _ => rfl) (λ _ _ => rfl) (λ _ => rfl))
  (aE.cons (aM.for 1000 (cT (dL W) (ec (cB (eU W) (ec (vr 1 fZ bG) en) (bB.len W.iH)) en) bB.gW) (an 3 dR bG) (aE.cons (aM.swap (ids := [(4, 65), (5, 78)]) (aC.tup (ec aC.int (ec (aC.vB (tt := some _) 1000 (fV.of [(8, 79), (3, 23)] [8] (by kernel_rfl)) (vr 0 eW bG) (am 8 H3 (aR.of (by kernel_rfl))) (.one (bK.cmp (vr 8 H3 (aR.of (by kernel_rfl))) (vr 3 dR (aR.of (by kernel_rfl))) (b9.EG W.iH) (by rfl))) (vr 8 H3 (aR.of (by kernel_rfl))) (λ _ _ => rfl)) en))) bG (by intro p hp; simp only [List.mem_cons, List.not_mem_nil, or_false] at hp; rcases hp with rfl | rfl <;> first | exact jP 4 (by rfl) | exact jP 5 (by rfl)) (λ _ _ => .inl rfl) (λ _ _ => rfl) (λ _ h => (dZ h _ _).trans (by kernel_rfl)))
  (aE.cons (aM.for 1000 (cT (dL W) (ec aC.int en) bB.gW) (an 6 gE bG) (aE.cons (aM.ite (bK.boolop (bM.cons (bK.cmp (aC.bin (aC.bin (aC.sub (vr 1 fZ bG) (vr 3 dR bG) (λ _ _ => rfl)) (aC.bin aC.int (vr 6 gE bG) b9.pow) b9.floordiv) aC.int b9.mod) aC.int (b9.eq W.iH) (by rfl)) (bM.cons (bK.ofE (cF W (kS W) (ec (vr 5 Nd bG) (ec (aC.vB (tt := none) 1000 (fV.of [(7, 77), (6, 4)] [7] (by kernel_rfl)) (vr 1 fZ bG) (am 7 KP (aR.of (by kernel_rfl))) .nil (aC.bin (vr 7 KP (aR.of (by kernel_rfl))) (aC.bin aC.int (aC.bin aC.int (vr 6 gE (aR.of (by kernel_rfl))) b9.pow) b9.sub) b9.and) (λ _ _ => rfl)) en)) (kO W)) (λ _ _ => rfl)) bM.nil))) (aE.cons (aM.assign (aC.bin (vr 4 pA bG) (aC.bin aC.int (vr 6 gE bG) b9.pow) b9.add) (an 4 pA bG) (λ _ _ => rfl) (λ _ _ => rfl) (λ _ => rfl))
  aE.nil) aE.nil)
  aE.nil) (λ _ _ => rfl))
  (aE.cons (aM.expr (lm (vr 2 nE bG) (ec (vr 4 pA bG) en) bB.append PySem.F.slot_list_append PySem.F.type_list_append) (λ _ => rfl))
  aE.nil))) (λ _ _ => rfl))
  (aE.cons (aM.ret (vr 2 nE bG))
  aE.nil)))
theorem xO (W : Wd w h) : dX (bJ w h) 3 432 mQ :=
 sfo W 7 (names := [41, 76]) bG (λ us e => by obtain ⟨a, b, rfl⟩ := nG e; kernel_rfl) (xT W)
noncomputable def AO : List Stmt := cG (cN 30)
noncomputable def Bf : Scope := bN (cN 30)
noncomputable def u7 : Cx := ⟨Bf, [(0, 41), (1, 81), (2, 80), (3, 66), (4, 76), (5, 10)], true⟩
theorem cZ : aR (bJ w h) u7 := aR.of (by kernel_rfl)
theorem CG (W : Wd w h) : aE (bJ w h) 2 u7 AO xK :=
 (aE.cons (aM.assign (cT (Gr W) (ec (vr 1 wY cZ) en) bB.list) (an 4 fZ cZ) (λ _ _ => rfl) (λ _ _ => rfl) (λ _ => rfl))
  (aE.cons (aM.for 1000 (vr 2 KO cZ) (an 5 kZ cZ) (aE.cons (aM.assign (cF W (lF W) (ec (aC.sub (vr 4 fZ cZ) (aC.sub (vr 5 kZ cZ) aC.int (λ _ _ => rfl)) (λ _ _ => rfl)) (ec (vr 5 kZ cZ) (ec (vr 3 fG cZ) en))) (lA W)) (eG.item (vr 4 fZ cZ) (aC.sub (vr 5 kZ cZ) aC.int (λ _ _ => rfl))) (λ _ _ => rfl) (λ _ _ => rfl) (λ _ => rfl))
  aE.nil) (λ _ _ => rfl))
  (aE.cons (aM.ret (aC.not (cF W (kS W) (ec (vr 0 eW cZ) (ec (vr 4 fZ cZ) en)) (kO W))))
  aE.nil)))
theorem tX (W : Wd w h) : dX (bJ w h) 3 439 kL :=
 sfo W 2 (names := [41, 81, 80, 66]) cZ (λ us e => by obtain ⟨a, b, c, d, rfl⟩ := Kc e; kernel_rfl) (CG W)
noncomputable def yD : List Stmt := cG (cN 31)
noncomputable def zI : Scope := bN (cN 31)
noncomputable def sJ : Cx := ⟨zI, [(0, 80), (1, 76), (2, 66)], true⟩
theorem sC : aR (bJ w h) sJ := aR.of (by kernel_rfl)
theorem Bi (W : Wd w h) : aE (bJ w h) 1 sJ yD vI :=
 (aE.cons (aM.ret (cB (MD W) (ec (aC.vB (tt := none) 1000 (fV.of [(3, 82), (2, 66), (1, 76)] [3] (by kernel_rfl)) (vr 0 KO sC) (am 3 FY (aR.of (by kernel_rfl))) .nil (aC.cmp (cF W (lF W) (ec (aC.sub (vr 1 fZ (aR.of (by kernel_rfl))) (aC.sub (vr 3 FY (aR.of (by kernel_rfl))) aC.int (λ _ _ => rfl)) (λ _ _ => rfl)) (ec (vr 3 FY (aR.of (by kernel_rfl))) (ec (vr 2 fG (aR.of (by kernel_rfl))) en))) (lA W)) (aC.sub (vr 1 fZ (aR.of (by kernel_rfl))) (aC.sub (vr 3 FY (aR.of (by kernel_rfl))) aC.int (λ _ _ => rfl)) (λ _ _ => rfl)) (b9.eq W.iH) (by rfl)) (λ _ _ => rfl)) en) bB.all))
  aE.nil)
theorem sA (W : Wd w h) : dX (bJ w h) 2 444 jI :=
 sfo W 1 (names := [80, 76, 66]) sC (λ us e => by obtain ⟨a, b, c, rfl⟩ := Fk e; kernel_rfl) (Bi W)
noncomputable def nL : List Stmt := cG (cN 32)
noncomputable def nP : Scope := bN (cN 32)
noncomputable def jE : Cx := ⟨nP, [(0, 70), (1, 27), (2, 76), (3, 81), (4, 66), (5, 41), (6, 23), (7, 25), (8, 10), (9, 20), (10, 14), (11, 83), (12, 84)], true⟩
theorem aD : aR (bJ w h) jE := aR.of (by kernel_rfl)
theorem oJ (W : Wd w h) : aE (bJ w h) 3 jE nL jR :=
 (aE.cons (aM.for 1000 (aC.slice (g := some _) (h := none) (ea W uG (dF W) (vr 0 fQ aD)) (.one (vr 1 BQ aD)) .nil) (eG.tup (dS.cons (an 6 dR aD) (λ _ => rfl) (dS.cons (an 7 BR aD) (λ _ => rfl) (dS.cons (an 8 kZ aD) (λ _ => rfl) (dS.cons (an 9 w4 aD) (λ _ => rfl) (dS.cons (an 10 Ga aD) (λ _ => rfl) dS.nil)))))) (aE.cons (aM.ite (bK.boolop (bM.cons (bK.cmp (cF W (w8 W) (ec (vr 7 BR aD) (ec (vr 4 fG aD) en)) (wT W)) (aC.sub (vr 2 fZ aD) (vr 6 dR aD) (λ _ _ => rfl)) (b9.EG W.iH) (by rfl)) (bM.cons (bK.not (bK.ofE (cF W (sF W) (ec (vr 9 w4 aD) (ec (vr 2 fZ aD) (ec (vr 4 fG aD) en))) (sA W)) (λ _ _ => rfl))) bM.nil))) (aE.cons (aM.ret aC.bool)
  aE.nil) aE.nil)
  (aE.cons (aM.assign (cF W (lF W) (ec (aC.sub (vr 2 fZ aD) (vr 6 dR aD) (λ _ _ => rfl)) (ec (vr 8 kZ aD) (ec (vr 4 fG aD) en))) (lA W)) (an 11 KN aD) (λ _ _ => rfl) (λ _ _ => rfl) (λ _ => rfl))
  (aE.cons (aM.assign (cT (Gr W) (ec (vr 3 wY aD) en) bB.list) (an 12 DJ aD) (λ _ _ => rfl) (λ _ _ => rfl) (λ _ => rfl))
  (aE.cons (aM.assign (aC.bin (aC.sub (vr 12 DJ aD) (vr 6 dR aD) (λ _ _ => rfl)) (cF W (lF W) (ec (aC.sub (vr 12 DJ aD) (vr 6 dR aD) (λ _ _ => rfl)) (ec (vr 8 kZ aD) (ec (vr 4 fG aD) en))) (lA W)) b9.sub) (eG.item (vr 12 DJ aD) (vr 6 dR aD)) (λ _ _ => rfl) (λ _ _ => rfl) (λ _ => rfl))
  (aE.cons (aM.ite (bK.not (bK.ofE (cF W (uT W) (ec (vr 5 eW aD) (ec (vr 12 DJ aD) (ec (vr 9 w4 aD) (ec (vr 4 fG aD) en)))) (tX W)) (λ _ _ => rfl))) (aE.cons (aM.ret aC.bool)
  aE.nil) aE.nil)
  (aE.cons (aM.assign (aC.bin (aC.bin (aC.slice (g := none) (h := some _) (vr 2 fZ aD) .nil (.one (vr 6 dR aD))) (aC.lst (ec (vr 11 KN aD) en)) b9.add) (aC.slice (g := some _) (h := none) (vr 2 fZ aD) (.one (aC.bin (vr 6 dR aD) aC.int b9.add)) .nil) b9.add) (an 2 fZ aD) (λ _ _ => rfl) (λ _ _ => rfl) (λ _ => rfl))
  aE.nil)))))) (λ _ _ => rfl))
  (aE.cons (aM.ite (bK.cmp (vr 2 fZ aD) (cF W (iA W) (ec (vr 0 fQ aD) (ec (vr 4 fG aD) en)) (hY W)) (b9.EG W.iH) (by rfl)) (aE.cons (aM.ret aC.bool)
  aE.nil) aE.nil)
  (aE.cons (aM.ite (bK.not (bK.ofE (ea W uH (dF W) (vr 0 fQ aD)) (λ _ _ => rfl))) (aE.cons (aM.ret aC.bool)
  aE.nil) aE.nil)
  (aE.cons (aM.ret (aC.boolop (cF W (sF W) (ec (ea W DN (dF W) (vr 0 fQ aD)) (ec (vr 2 fZ aD) (ec (vr 4 fG aD) en))) (sA W)) (cF W (uT W) (ec (vr 5 eW aD) (ec (vr 3 wY aD) (ec (ea W DN (dF W) (vr 0 fQ aD)) (ec (vr 4 fG aD) en)))) (tX W))))
  aE.nil))))
theorem oI (W : Wd w h) : dX (bJ w h) 4 451 gH :=
 sfo W 7 (names := [70, 27, 76, 81, 66, 41]) aD (λ us e => by obtain ⟨a, b, c, d, f, g, rfl⟩ := OP e; kernel_rfl) (oJ W)
noncomputable def tK : List Stmt := cG (cN 33)
noncomputable def tZ : Scope := bN (cN 33)
noncomputable def n5 : Cx := ⟨tZ, [(0, 70), (1, 85), (2, 81), (3, 66), (4, 41), (5, 76), (6, 27), (7, 24), (8, 65), (9, 88), (10, 87)], true⟩
theorem aF : aR (bJ w h) n5 := aR.of (by kernel_rfl)
theorem v3 (W : Wd w h) : aE (bJ w h) 6 n5 tK pG :=
 (aE.cons (aM.swap (ids := [(5, 76), (6, 27)]) (aC.tup (ec (cF W (iA W) (ec (vr 0 fQ aF) (ec (vr 3 fG aF) en)) (hY W)) (ec (cB (eU W) (ec (ea W uG (dF W) (vr 0 fQ aF)) en) (bB.len W.iH)) en))) aF (by intro p hp; simp only [List.mem_cons, List.not_mem_nil, or_false] at hp; rcases hp with rfl | rfl <;> first | exact jP 5 (by rfl) | exact jP 6 (by rfl)) (λ _ _ => .inl rfl) (λ _ _ => rfl) (λ _ h => (dZ h _ _).trans (by kernel_rfl)))
  (aE.cons (aM.assign (cC W (D7 W) en (Dv W)) (an 7 wZ aF) (λ _ _ => rfl) (λ _ _ => rfl) (λ _ => rfl))
  (aE.cons (aM.for 1000 (vr 5 fZ aF) (an 8 pA aF) (aE.cons (aM.expr (im W KM (dF W) (nY w) (vr 7 wZ aF) (ec (cF W (qE W) (ec (vr 8 pA aF) (ec (vr 3 fG aF) en)) (pX W)) en) (nN W)) (λ _ => rfl))
  aE.nil) (λ _ _ => rfl))
  (aE.cons (aM.assign (cF W (kS W) (ec (vr 4 eW aF) (ec (vr 5 fZ aF) en)) (kO W)) (an 9 DI aF) (λ _ _ => rfl) (λ _ _ => rfl) (λ _ => rfl))
  (aE.cons (aM.ite (bK.boolop (bM.cons (bK.cmp (im W H0 (oB W) (dP w) (vr 1 Ad aF) (ec (vr 0 fQ aF) en) (dO W)) (vr 9 DI aF) b9.BV (by rfl)) (bM.cons (bK.cmp (im W H0 (oB W) (dP w) (cC W (jQ W) (ec (vr 4 eW aF) en) (jN W)) (ec (vr 7 wZ aF) en) (dO W)) (vr 9 DI aF) b9.BV (by rfl)) bM.nil))) (aE.cons (aM.ret aC.bool)
  aE.nil) aE.nil)
  (aE.cons (aM.ite (bK.boolop (bM.cons (bK.cmp (ea W uH (dF W) (vr 0 fQ aF)) (vr 9 DI aF) b9.is (by rfl)) (bM.cons (bK.not (bK.ofE (cF W (oT W) (ec (vr 0 fQ aF) (ec (vr 6 BQ aF) (ec (vr 5 fZ aF) (ec (vr 2 wY aF) (ec (vr 3 fG aF) (ec (vr 4 eW aF) en)))))) (oI W)) (λ _ _ => rfl))) bM.nil))) (aE.cons (aM.ret aC.bool)
  aE.nil) aE.nil)
  (aE.cons (aM.ite (bK.not (bK.ofE (vr 9 DI aF) (λ _ _ => rfl))) (aE.cons (aM.ret aC.bool)
  aE.nil) aE.nil)
  (aE.cons (aM.assign (cF W (iA W) (ec (vr 0 fQ aF) (ec (vr 3 fG aF) en)) (hY W)) (an 10 HZ aF) (λ _ _ => rfl) (λ _ _ => rfl) (λ _ => rfl))
  (aE.cons (aM.ite (bK.boolop (bM.cons (bK.cmp (vr 10 HZ aF) (cF W (xZ W) (ec (vr 4 eW aF) (ec (vr 5 fZ aF) en)) (xO W)) (b9.EG W.iH) (by rfl)) (bM.cons (bK.cmp (cF W (iA W) (ec (vr 7 wZ aF) (ec (vr 3 fG aF) en)) (hY W)) (vr 10 HZ aF) (b9.EG W.iH) (by rfl)) bM.nil))) (aE.cons (aM.ret aC.bool)
  aE.nil) aE.nil)
  (aE.cons (aM.assign (cB (eU W) (ec (ea W uG (dF W) (vr 0 fQ aF)) en) (bB.len W.iH)) (an 6 BQ aF) (λ _ _ => rfl) (λ _ _ => rfl) (λ _ => rfl))
  (aE.cons (aM.ret (aC.boolop (im W H0 (oB W) (dP w) (vr 1 Ad aF) (ec (vr 0 fQ aF) en) (dO W)) (aC.cmp (cB (eU W) (ec (ea W uG (dF W) (vr 0 fQ aF)) en) (bB.len W.iH)) (vr 6 BQ aF) (b9.eq W.iH) (by rfl))))
  aE.nil)))))))))))
theorem nM (W : Wd w h) : dX (bJ w h) 7 458 d8 :=
 sfo W 6 (names := [70, 85, 81, 66, 41]) aF (λ us e => by obtain ⟨a, b, c, d, f, rfl⟩ := Nv e; kernel_rfl) (v3 W)
noncomputable def qS : List Stmt := cG (cN 34)
noncomputable def rV : Scope := bN (cN 34)
noncomputable def mE : Cx := ⟨rV, [(0, 90)], true⟩
theorem lZ : aR (bJ w h) mE := aR.of (by kernel_rfl)
theorem sY (W : Wd w h) : aE (bJ w h) 0 mE qS mZ :=
 (aE.cons (aM.ret (aC.cmp (aC.Lm (tt := none) (Oi := some _) 1000 (fV.of [(1, 4), (2, 91), (0, 90)] [1, 2] (by kernel_rfl)) (cT (dL W) (ec (cB (eU W) (ec (vr 0 BO lZ) en) (bB.len W.iH)) en) bB.gW) (am 1 gE (aR.of (by kernel_rfl))) .nil (cT (dL W) (ec (vr 1 gE (aR.of (by kernel_rfl))) en) bB.gW) (am 2 HY (aR.of (by kernel_rfl))) (.one (bK.cmp (aC.sub (vr 0 BO (aR.of (by kernel_rfl))) (vr 2 HY (aR.of (by kernel_rfl))) (λ _ _ => rfl)) (aC.sub (vr 0 BO (aR.of (by kernel_rfl))) (vr 1 gE (aR.of (by kernel_rfl))) (λ _ _ => rfl)) (b9.eq W.iH) (by rfl))) (vr 2 HY (aR.of (by kernel_rfl))) (λ _ _ => rfl) (λ _ _ => rfl)) (aC.lst en) (b9.eq W.iH) (by rfl)))
  aE.nil)
theorem sV (W : Wd w h) : dX (bJ w h) 1 463 gP :=
 sfo W 2 (names := [90]) lZ (λ us e => by obtain ⟨a, rfl⟩ := CS e; kernel_rfl) (sY W)
noncomputable def Jh : List Stmt := cG (cN 35)
noncomputable def JR : Scope := bN (cN 35)
noncomputable def Je : Cx := ⟨JR, [(0, 101), (1, 64), (2, 60), (3, 62), (4, 66), (5, 81), (6, 100), (7, 41), (8, 70), (9, 85), (10, 65), (11, 90), (12, 94), (13, 92), (14, 76), (15, 93), (16, 23), (17, 74)], true⟩
theorem aS : aR (bJ w h) Je := aR.of (by kernel_rfl)
theorem LD (W : Wd w h) : aE (bJ w h) 7 Je Jh Lo :=
 (aE.cons (aM.o4 (an 1 BP aS) (λ _ h => (oH h _ _ _).trans (by kernel_rfl)) (λ _ => rfl) (rR (tt := none) 1000 (fV.of [(22, 102)] [22] (by kernel_rfl)) (aC.slice (g := none) (h := some _) (vr 0 LS aS) .nil (.one aC.int)) (am 22 Ie (aR.of (by kernel_rfl))) .nil (aC.bin (cB (ME W) (ec (vr 22 Ie (aR.of (by kernel_rfl))) en) bB.abs) aC.int b9.mod) (λ _ _ => rfl)))
  (aE.cons (aM.assign (aC.Jd [(_, _), (_, _), (_, _)] rfl rfl (λ _ => rfl) (by simp) (by simp) (iP.cons (aC.str (k := 64) BP) (vr 1 BP aS) (iP.cons (aC.str (k := 63) Ae) aC.int (iP.cons (aC.str (k := 61) F0) (aC.bin aC.int (aC.bin (cB (FH W) (ec (vr 1 BP aS) en) bB.sum) aC.int b9.mod) b9.add) iP.nil)))) (an 2 kF aS) (λ _ _ => rfl) (λ _ _ => rfl) (λ _ => rfl))
  (aE.cons (aM.assign (aC.tup (ec (aC.bin aC.int (cF W (eE W) (ec (vr 2 kF aS) (ec aC.int en)) (eC W)) b9.add) (ec (aC.bin (cF W (eE W) (ec (vr 2 kF aS) (ec aC.int en)) (eC W)) aC.int b9.sub) en))) (eG.tup (dS.cons (an 3 qA aS) (λ _ => rfl) (dS.cons (an 4 fG aS) (λ _ => rfl) dS.nil))) (λ _ _ => rfl) (λ _ h => (dZ h _ _).trans (by kernel_rfl)) (λ _ => rfl))
  (aE.cons (aM.o4 (an 5 wY aS) (λ _ h => (oH h _ _ _).trans (by kernel_rfl)) (λ _ => rfl) (rR (tt := none) 1000 (fV.of [(21, 23), (2, 60)] [21] (by kernel_rfl)) (cT (dL W) (ec (vr 3 qA aS) en) bB.gW) (am 21 dR (aR.of (by kernel_rfl))) .nil (aC.bin aC.int (cF W (eE W) (ec (vr 2 kF (aR.of (by kernel_rfl))) (ec aC.int en)) (eC W)) b9.add) (λ _ _ => rfl)))
  (aE.cons (aM.assign (cF W (eE W) (ec (vr 2 kF aS) (ec (vr 3 qA aS) en)) (eC W)) (an 6 Fh aS) (λ _ _ => rfl) (λ _ _ => rfl) (λ _ => rfl))
  (aE.cons (aM.assign (aC.bin (cT (iO W) (ec (cT (dL W) (ec (vr 6 Fh aS) (ec (vr 3 qA aS) en)) bB.CJ) en) bB.tuple) (cT (iO W) (ec (cT (dL W) (ec (vr 6 Fh aS) en) bB.gW) en) bB.tuple) b9.add) (an 7 eW aS) (λ _ _ => rfl) (λ _ _ => rfl) (λ _ => rfl))
  (aE.cons (aM.ite (bK.cmp (cF W (eE W) (ec (vr 2 kF aS) (ec aC.int en)) (eC W)) aC.int (b9.eq W.iH) (by rfl)) (aE.cons (aM.assign (aC.bin (vr 7 eW aS) (aC.slice (g := none) (h := some _) (vr 7 eW aS) .nil (.one aC.int)) b9.add) (an 7 eW aS) (λ _ _ => rfl) (λ _ _ => rfl) (λ _ => rfl))
  aE.nil) aE.nil)
  (aE.cons (aM.swap (ids := [(8, 70), (9, 85)]) (aC.tup (ec (cC W (D7 W) en (Dv W)) (ec (cC W (jQ W) (ec (vr 7 eW aS) en) (jN W)) en))) aS (by intro p hp; simp only [List.mem_cons, List.not_mem_nil, or_false] at hp; rcases hp with rfl | rfl <;> first | exact jP 8 (by rfl) | exact jP 9 (by rfl)) (λ _ _ => .inl rfl) (λ _ _ => rfl) (λ _ h => (dZ h _ _).trans (by kernel_rfl)))
  (aE.cons (aM.for 1000 (vr 5 wY aS) (an 10 pA aS) (aE.cons (aM.expr (im W KM (dF W) (nY w) (vr 8 fQ aS) (ec (cF W (qE W) (ec (vr 10 pA aS) (ec (vr 4 fG aS) en)) (pX W)) en) (nN W)) (λ _ => rfl))
  aE.nil) (λ _ _ => rfl))
  (aE.cons (aM.assign (cT (iO W) (ec (aC.vB (tt := none) 1000 (fV.of [(20, 23), (2, 60)] [20] (by kernel_rfl)) (vr 7 eW aS) (am 20 dR (aR.of (by kernel_rfl))) .nil (cF W (eE W) (ec (vr 2 kF (aR.of (by kernel_rfl))) (ec aC.int en)) (eC W)) (λ _ _ => rfl)) en) bB.tuple) (an 11 BO aS) (λ _ _ => rfl) (λ _ _ => rfl) (λ _ => rfl))
  (aE.cons (aM.ite (bK.boolop (bM.cons (bK.cmp (im W KU (oB W) (gM w) (vr 9 Ad aS) (ec (vr 11 BO aS) en) (gJ W)) (cF W (tG W) (ec (vr 11 BO aS) en) (sV W)) b9.BV (by rfl)) (bM.cons (bK.cmp (ea W pB (oB W) (vr 9 Ad aS)) (vr 7 eW aS) (b9.EG W.iH) (by rfl)) bM.nil))) (aE.cons (aM.ret aC.bool)
  aE.nil) aE.nil)
  (aE.cons (aM.ite (bK.boolop (bM.cons (bK.cmp (im W M8 (oB W) (mC w) (vr 9 Ad aS) en (lT W)) (aC.tup (ec (aC.str (k := 48) KW) (ec (vr 7 eW aS) (ec (aC.str (k := 99) KL) en)))) (b9.EG W.iH) (by rfl)) (bM.cons (bK.not (bK.ofE (cF W (nX W) (ec (vr 8 fQ aS) (ec (vr 9 Ad aS) (ec (vr 5 wY aS) (ec (vr 4 fG aS) (ec (vr 7 eW aS) en))))) (nM W)) (λ _ _ => rfl))) bM.nil))) (aE.cons (aM.ret aC.bool)
  aE.nil) aE.nil)
  (aE.cons (aM.assign (aC.lst en) (an 12 FX aS) (λ _ _ => rfl) (λ _ _ => rfl) (λ _ => rfl))
  (aE.cons (aM.for 1000 (cT (dL W) (ec (aC.bin aC.int (vr 3 qA aS) b9.sub) en) bB.gW) (an 13 Nc aS) (aE.cons (aM.assign (cF W (iA W) (ec (vr 8 fQ aS) (ec (vr 4 fG aS) en)) (hY W)) (an 14 fZ aS) (λ _ _ => rfl) (λ _ _ => rfl) (λ _ => rfl))
  (aE.cons (aM.o4 (an 15 DH aS) (λ _ h => (oH h _ _ _).trans (by kernel_rfl)) (λ _ => rfl) (rR (tt := some _) 1000 (fV.of [(19, 23), (14, 76)] [19] (by kernel_rfl)) (cT (dL W) (ec (vr 3 qA aS) en) bB.gW) (am 19 dR (aR.of (by kernel_rfl))) (.one (bK.cmp (cF W (sG W) (ec (aC.sub (vr 14 fZ (aR.of (by kernel_rfl))) (vr 19 dR (aR.of (by kernel_rfl))) (λ _ _ => rfl)) en) (sB W)) aC.int b9.gt (by rfl))) (vr 19 dR (aR.of (by kernel_rfl))) (λ _ _ => rfl)))
  (aE.cons (aM.ite (bK.boolop (bM.cons (bK.cmp (vr 12 FX aS) (aC.lst en) (b9.EG W.iH) (by rfl)) (bM.cons (bK.boolop (bM.cons (bK.ofE (ea W uH (dF W) (vr 8 fQ aS)) (λ _ _ => rfl)) (bM.cons (bK.cmp (vr 15 DH aS) (aC.lst en) (b9.eq W.iH) (by rfl)) (bM.cons (bK.cmp (cF W (eE W) (ec (vr 2 kF aS) (ec aC.int en)) (eC W)) aC.int (b9.eq W.iH) (by rfl)) bM.nil)))) bM.nil))) (aE.cons (aM.expr (im W Nb (dF W) (C4 w) (vr 8 fQ aS) (ec aC.int en) (CB W)) (λ _ => rfl))
  (aE.cons (aM.ite (bK.boolop (bM.cons (bK.ofE (ea W uH (dF W) (vr 8 fQ aS)) (λ _ _ => rfl)) (bM.cons (bK.cmp (cF W (iA W) (ec (vr 8 fQ aS) (ec (vr 4 fG aS) en)) (hY W)) (lm (vr 12 FX aS) en bB.pop PySem.F.slot_list_pop PySem.F.type_list_pop) (b9.EG W.iH) (by rfl)) bM.nil))) (aE.cons (aM.ret aC.bool)
  aE.nil) aE.nil)
  aE.nil)) (aE.cons (aM.ite (bK.boolop (bM.cons (bK.ofE (ea W uH (dF W) (vr 8 fQ aS)) (λ _ _ => rfl)) (bM.cons (bK.cmp (vr 15 DH aS) (aC.lst en) (b9.eq W.iH) (by rfl)) bM.nil))) (aE.cons (aM.ret aC.bool)
  aE.nil) (aE.cons (aM.assign (aC.sub (vr 15 DH aS) (cF W (eE W) (ec (vr 2 kF aS) (ec (cB (eU W) (ec (vr 15 DH aS) en) (bB.len W.iH)) en)) (eC W)) (λ _ _ => rfl)) (an 16 dR aS) (λ _ _ => rfl) (λ _ _ => rfl) (λ _ => rfl))
  (aE.cons (aM.o4 (an 17 DK aS) (λ _ h => (oH h _ _ _).trans (by kernel_rfl)) (λ _ => rfl) (rR (tt := some _) 1000 (fV.of [(18, 4), (14, 76), (16, 23), (4, 66)] [18] (by kernel_rfl)) (cT (dL W) (ec aC.int en) bB.gW) (am 18 gE (aR.of (by kernel_rfl))) (.one (bK.cmp (aC.bin (aC.bin (aC.sub (vr 14 fZ (aR.of (by kernel_rfl))) (vr 16 dR (aR.of (by kernel_rfl))) (λ _ _ => rfl)) (aC.bin aC.int (vr 18 gE (aR.of (by kernel_rfl))) b9.pow) b9.floordiv) aC.int b9.mod) aC.int (b9.eq W.iH) (by rfl))) (aC.bin (vr 4 fG (aR.of (by kernel_rfl))) (vr 18 gE (aR.of (by kernel_rfl))) b9.add) (λ _ _ => rfl)))
  (aE.cons (aM.expr (lm (vr 12 FX aS) (ec (vr 14 fZ aS) en) bB.append PySem.F.slot_list_append PySem.F.type_list_append) (λ _ => rfl))
  (aE.cons (aM.expr (im W M9 (dF W) (Bu w) (vr 8 fQ aS) en (AY W)) (λ _ => rfl))
  (aE.cons (aM.ite (bK.not (bK.ofE (im W Na (dF W) (yB w) (vr 8 fQ aS) (ec (aC.tup (ec (vr 16 dR aS) (ec (aC.str (k := 51) F4) (ec (aC.sub (vr 17 DK aS) (cF W (eE W) (ec (vr 2 kF aS) (ec (cB (eU W) (ec (vr 17 DK aS) en) (bB.len W.iH)) en)) (eC W)) (λ _ _ => rfl)) en)))) en) (xQ W)) (λ _ _ => rfl))) (aE.cons (aM.ret aC.bool)
  aE.nil) aE.nil)
  aE.nil))))))
  aE.nil))
  (aE.cons (aM.ite (bK.not (bK.ofE (cF W (nX W) (ec (vr 8 fQ aS) (ec (vr 9 Ad aS) (ec (vr 5 wY aS) (ec (vr 4 fG aS) (ec (vr 7 eW aS) en))))) (nM W)) (λ _ _ => rfl))) (aE.cons (aM.ret aC.bool)
  aE.nil) aE.nil)
  aE.nil)))) (λ _ _ => rfl))
  (aE.cons (aM.ret aC.bool)
  aE.nil)))))))))))))))
theorem LA (W : Wd w h) : dX (bJ w h) 8 468 EE :=
 sfo W 22 (names := [101]) aS (λ us e => by obtain ⟨a, rfl⟩ := CS e; kernel_rfl) (LD W)
end
end Mine
end
section
open PySem PySem.W PyProof.Rows PySem.Calls
namespace Mine
theorem G9 {w : World} {s₁ : Shared} (W : Wd w s₁.heap) (hp : ∀ ns : List Int, ns.length ≤ 63 → ∃ σ', EE [.zH ns] [] = some (.bool true, σ')) {l : Addr} {vs : List Value} {ns : List Int}
  (hL : s₁.heap.get? l = some { cls := .type "list", data := .seq vs.toArray }) (hI : IntsAre vs ns) (hlen : ns.length ≤ 63) {R : Result → Shared → Prop}
  (hR : ∀ s', (∀ b o, s₁.heap.get? b = some o → s'.heap.get? b = some o) → s'.gens = s₁.gens → s'.os = s₁.os → R (.ok (.ret (.bool true))) s') :
  codeAny (model PySem.Challenge.rw_xw0067_01.row.prog w) callerA (.call (.ref 468) ⟨[.ref l], []⟩) R s₁ := by
 obtain ⟨σ', e⟩ := hp ns hlen
 refine LA W callerA (λ _ => 0) [] s₁ [.zH ns] [.ref l] (.bool true) σ' R ⟨rfl, by decide +kernel, by decide +kernel⟩ ⟨λ _ _ e => e, λ i o e => by simp at e, λ i j h => absurd h (Nat.not_lt_zero _), λ i h => absurd h (Nat.not_lt_zero _)⟩ ?_ e λ u dY s' H' S' V' => ?_
 ·exact .cons (.zH (k := 0) (items := vs.toArray) hL hI) .nil
 ·cases V'
  exact hR s' (λ b o e => S'.uA b o e λ ⟨i, hi, _⟩ => absurd hi (Nat.not_lt_zero _)) S'.gens S'.os
theorem JY (args ds : List WData) : PySem.Challenge.rw_xw0067_01.row.claim.post args (.bool true) ds = true := by kernel_rfl
theorem GD : OpenLaw.wellSaid PySem.Challenge.rw_xw0067_01 = true := by decide +kernel
theorem head (hp : ∀ ns : List Int, ns.length ≤ 63 → ∃ σ', EE [.zH ns] [] = some (.bool true, σ')) : PySem.Challenge.rw_xw0067_01.Holds := by
 refine holds_law GD λ said => ?_
 refine holds_open (q := qV) (loose := ["has_domains"]) (Xt := XtR) (XP := XL qV []) (Yf := qD.obs) (Ya := qD.val) (YP := qD.says) (d := ⟨"law", Fz (cN 35), cG (cN 35), bN (cN 35), LG⟩) (kwd := []) (N := 5632) Kd qD.of qD.keeps (λ s e => xl_of s (Bool.and_eq_true_iff.mp e).1) XL.keeps (by kernel_rfl) (by kernel_rfl) (by kernel_rfl) (λ s e => recFacts_of (Bool.and_eq_true_iff.mp e).2) (by rfl) said (by decide +kernel) ⟨rfl, rfl, rfl, rfl, rfl, by decide +kernel⟩ ?hw ?hc
 case hw => w_witness2
 case hc =>
  intro w s₀ s₁ mg mb G Y fa o pm cd doc dV kV ho hd hcd hD hmg hg args vals as hpre hlay hrd hwl hlo
  have KX := kIn_of Y
  refine Ground.open G ?_
  intro T B D TE TW
  have hfa : mg "law" = some (.ref fa) := hmg
  clear ho hd hcd hD D TE TW B Y hmg
  have W : Wd w s₁.heap := ⟨KX, ⟨mg, T.g⟩, ⟨mb, T.b, T.builtins⟩, T.nolimit, by
   obtain ⟨mm, ⟨o, _, _, ho, _⟩, _⟩ := (T.seer (by kernel_rfl)).mods
   exact ⟨o, ho⟩⟩
  have NX : mg "law" = some (.ref 468) := mg_of KX T.g (by kernel_rfl)
  rw [hfa] at NX
  cases NX
  wrow_args hpre hlay hrd hwl hlo
  all_goals (
   first | refine callC_kw (enter_call ?_) | refine enter_call ?_ | refine callC_kw (enter_callW ?_) | refine enter_callW ?_ | w_how)
  rename_i ns _ _ _ _ _ _ _ l vs _ hL0 _ w1 _ hI _ hc _
  cases w1 with
  | list =>
  rename_i vs2 hL _
  obtain ⟨o, ho, hoc, n, hod⟩ := hL0
  rw [hL] at ho
  cases ho
  have e1 : vs2 = vs := by
   have := congrArg Array.toList (Data.seq.inj hod).1
   simpa using this
  subst e1
  refine G9 W hp hL hI (by lia) λ s' hk hgens hos => GoodW.toG ⟨.inl ⟨_, .bool true, [], rfl, λ cls => by rfl, .bool _, JY _ _, λ _ => ⟨.nil, λ a h => by cases h⟩⟩, hk, hos, hgens.trans hg⟩
end Mine
end
theorem PySem.Challenge.cw_xw0067_01_holds : PySem.Challenge.rw_xw0067_01.Holds :=
 Mine.head Mine.Ip
