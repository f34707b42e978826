import PyProof.Rows.All
import Wide.All
import OpenK.AllK
import Wide.FinOn
import Lean
import PySem.Challenge.RW_xw0067_01
set_option Elab.async false
set_option linter.all false
set_option maxRecDepth 100000
set_option maxHeartbeats 0
section
namespace Mine
theorem nS {α : Type} {a : α} {P : Prop} (h : none = some a) : P := by cases h
theorem cJ {α : Type} {P : Prop} [Decidable P] {a : Option α} {r : α} (e : (if P then a else none) = some r) : P ∧ a = some r := by
 by_cases h : P
 ·rw [if_pos h] at e; exact ⟨h, e⟩
 ·rw [if_neg h] at e; cases e
theorem if_not {α : Type} {P : Prop} [Decidable P] {a : Option α} {r : α} (e : (if P then none else a) = some r) : ¬P ∧ a = some r := by
 by_cases h : P
 ·rw [if_pos h] at e; cases e
 ·rw [if_neg h] at e; exact ⟨h, e⟩
theorem JW {α : Type} {P : Prop} [Decidable P] {a : α} (e : (if P then some a else none) = none) : ¬P := fun h => by
 rw [if_pos h] at e; cases e
theorem byC {p : Prop} (h : (p → False) → False) : p := Classical.byContradiction h
structure A3 (a b c : Prop) : Prop where
 intro ::
 h1 : a
 h2 : b
 h3 : c
structure A4 (a b c d : Prop) : Prop where
 intro ::
 h1 : a
 h2 : b
 h3 : c
 h4 : d
structure A5 (a b c d e : Prop) : Prop where
 intro ::
 h1 : a
 h2 : b
 h3 : c
 h4 : d
 h5 : e
structure A6 (a b c d e f : Prop) : Prop where
 intro ::
 h1 : a
 h2 : b
 h3 : c
 h4 : d
 h5 : e
 h6 : f
structure A7 (a b c d e f g : Prop) : Prop where
 intro ::
 h1 : a
 h2 : b
 h3 : c
 h4 : d
 h5 : e
 h6 : f
 h7 : g
structure A8 (a b c d e f g h : Prop) : Prop where
 intro ::
 h1 : a
 h2 : b
 h3 : c
 h4 : d
 h5 : e
 h6 : f
 h7 : g
 h8 : h
structure A9 (a b c d e f g h i : Prop) : Prop where
 intro ::
 h1 : a
 h2 : b
 h3 : c
 h4 : d
 h5 : e
 h6 : f
 h7 : g
 h8 : h
 h9 : i
inductive E2 {Bk α1 : Type} (p : Bk → α1 → Prop) : Prop
 | mk (x0 : Bk) (x1 : α1) (h : p x0 x1)
inductive E3 {Bk α1 α2 : Type} (p : Bk → α1 → α2 → Prop) : Prop
 | mk (x0 : Bk) (x1 : α1) (x2 : α2) (h : p x0 x1 x2)
inductive E4 {Bk α1 α2 α3 : Type} (p : Bk → α1 → α2 → α3 → Prop) : Prop
 | mk (x0 : Bk) (x1 : α1) (x2 : α2) (x3 : α3) (h : p x0 x1 x2 x3)
inductive E5 {Bk α1 α2 α3 G9 : Type} (p : Bk → α1 → α2 → α3 → G9 → Prop) : Prop
 | mk (x0 : Bk) (x1 : α1) (x2 : α2) (x3 : α3) (x4 : G9) (h : p x0 x1 x2 x3 x4)
inductive E6 {Bk α1 α2 α3 G9 Kk : Type} (p : Bk → α1 → α2 → α3 → G9 → Kk → Prop) : Prop
 | mk (x0 : Bk) (x1 : α1) (x2 : α2) (x3 : α3) (x4 : G9) (x5 : Kk) (h : p x0 x1 x2 x3 x4 x5)
inductive E7 {Bk α1 α2 α3 G9 Kk Mv : Type} (p : Bk → α1 → α2 → α3 → G9 → Kk → Mv → Prop) : Prop
 | mk (x0 : Bk) (x1 : α1) (x2 : α2) (x3 : α3) (x4 : G9) (x5 : Kk) (x6 : Mv) (h : p x0 x1 x2 x3 x4 x5 x6)
inductive E8 {Bk α1 α2 α3 G9 Kk Mv Pd : Type} (p : Bk → α1 → α2 → α3 → G9 → Kk → Mv → Pd → Prop) : Prop
 | mk (x0 : Bk) (x1 : α1) (x2 : α2) (x3 : α3) (x4 : G9) (x5 : Kk) (x6 : Mv) (x7 : Pd) (h : p x0 x1 x2 x3 x4 x5 x6 x7)
end Mine
end
section
open PySem PySem.W PyProof.Rows
namespace Mine
inductive V where
 | none
 | bool (b : Bool)
 | int (i : Int)
 | str (k : Nat)
 | tup (l : List V)
 | range (a b : Int)
 | obj (n : Nat)
 | inst (c n : Nat)
 | yX (l : List Int)
inductive O where
 | list (l : List V)
 | cA (l : List (Int × V))
 | aV (l : List (Nat × V))
noncomputable abbrev St := List O
noncomputable abbrev Loc := List (Option V)
structure gK where
 prog : Program
 w : World
 h₀ : Heap
 nm : Nat → Str
 Dx : ∀ x y, nm x = nm y → x = y
 cls : Nat → Addr
noncomputable abbrev gK.M (Γ : gK) : Model := model Γ.prog Γ.w
mutual
inductive VR (Γ : gK) (μ : Nat → Addr) (n : Nat) (h : Heap) : V → Value → Prop
 | none : VR Γ μ n h .none .none
 | bool (b : Bool) : VR Γ μ n h (.bool b) (.bool b)
 | int (i : Int) (t : Tok) : VR Γ μ n h (.int i) (.int i t)
 | str (k : Nat) (t : Tok) : VR Γ μ n h (.str k) (.str (Γ.nm k) t)
 | tup {l : List V} {a : Addr} {items : Array Value} {k : Nat} : IsT h a items k → VRs Γ μ n h l items.toList → VR Γ μ n h (.tup l) (.ref a)
 | range {a : Addr} {x y : Int} {t u v : Tok} : IsRange h a x y 1 t u v → VR Γ μ n h (.range x y) (.ref a)
 | obj {i : Nat} : i < n → VR Γ μ n h (.obj i) (.ref (μ i))
 | inst {c i : Nat} {a : Addr} : i < n → h.get? a = some (instObj (Γ.cls c) (μ i)) → VR Γ μ n h (.inst c i) (.ref a)
 | yX {l : List Int} {a : Addr} {items : Array Value} {k : Nat} : IsL Γ.h₀ a items k → IntsAre items.toList l → VR Γ μ n h (.yX l) (.ref a)
inductive VRs (Γ : gK) (μ : Nat → Addr) (n : Nat) (h : Heap) : List V → List Value → Prop
 | nil : VRs Γ μ n h [] []
 | cons {v : V} {u : Value} {vs : List V} {us : List Value} : VR Γ μ n h v u → VRs Γ μ n h vs us → VRs Γ μ n h (v :: vs) (u :: us)
end
noncomputable def fz (o : Obj) : Bool := match o.data with | .seq _ _ => o.cls == .type "tuple" | .fields _ => o.cls == .type "range" | .plain => true | _ => false
noncomputable def cK (h h' : Heap) : Prop := ∀ a o, h.get? a = some o → fz o = true → h'.get? a = some o
section
variable {Γ : gK} {μ dU : Nat → Addr} {n n' : Nat} {h h' : Heap}
mutual
theorem VR.mono {v : V} {u : Value} (x : VR Γ μ n h v u) (k : cK h h') (hμ : ∀ i, i < n → dU i = μ i) (hn : n ≤ n') : VR Γ dU n' h' v u := by
 cases x with
 | none => exact .none
 | bool => exact .bool _
 | int => exact .int _ _
 | str => exact .str _ _
 | tup ht hs =>
  exact .tup (k _ _ ht (by simp [fz])) (VRs.mono hs k hμ hn)
 | range hr => exact .range (k _ _ hr (by simp [fz]))
 | obj hi => rw [← hμ _ hi]; exact .obj (Nat.lt_of_lt_of_le hi hn)
 | inst hi ho => exact .inst (Nat.lt_of_lt_of_le hi hn) (by rw [hμ _ hi]; exact k _ _ ho (by simp [fz]))
 | yX hl hs => exact .yX hl hs
theorem VRs.mono {v : List V} {u : List Value} (x : VRs Γ μ n h v u) (k : cK h h') (hμ : ∀ i, i < n → dU i = μ i) (hn : n ≤ n') : VRs Γ dU n' h' v u := by
 cases x with
 | nil => exact .nil
 | cons a b => exact .cons (VR.mono a k hμ hn) (VRs.mono b k hμ hn)
end
theorem VR.FB {u : Value} (x : VR Γ μ n h .none u) : u = .none := by cases x; rfl
theorem VR.uU {b : Bool} {u : Value} (x : VR Γ μ n h (.bool b) u) : u = .bool b := by cases x; rfl
theorem VR.f0 {i : Int} {u : Value} (x : VR Γ μ n h (.int i) u) : ∃ t, u = .int i t := by cases x; exact ⟨_, rfl⟩
theorem VR.Hj {k : Nat} {u : Value} (x : VR Γ μ n h (.str k) u) : ∃ t, u = .str (Γ.nm k) t := by cases x; exact ⟨_, rfl⟩
theorem VR.tupI {l : List V} {u : Value} (x : VR Γ μ n h (.tup l) u) : ∃ a items k, u = .ref a ∧ IsT h a items k ∧ VRs Γ μ n h l items.toList := by cases x with | tup a b => exact ⟨_, _, _, rfl, a, b⟩
theorem VR.Ht {a b : Int} {u : Value} (x : VR Γ μ n h (.range a b) u) : ∃ c t t' t'', u = .ref c ∧ IsRange h c a b 1 t t' t'' := by cases x with | range a => exact ⟨_, _, _, _, rfl, a⟩
theorem VR.j5 {i : Nat} {u : Value} (x : VR Γ μ n h (.obj i) u) : u = .ref (μ i) ∧ i < n := by cases x with | obj a => exact ⟨rfl, a⟩
theorem VR.Ib {c i : Nat} {u : Value} (x : VR Γ μ n h (.inst c i) u) : ∃ a, u = .ref a ∧ i < n ∧ h.get? a = some (instObj (Γ.cls c) (μ i)) := by cases x with | inst a b => exact ⟨_, rfl, a, b⟩
theorem VR.N8 {l : List Int} {u : Value} (x : VR Γ μ n h (.yX l) u) : ∃ a items k, u = .ref a ∧ IsL Γ.h₀ a items k ∧ IntsAre items.toList l := by cases x with | yX a b => exact ⟨_, _, _, rfl, a, b⟩
theorem VRs.EQ {us : List Value} (x : VRs Γ μ n h [] us) : us = [] := by cases x; rfl
theorem VRs.wX {v : V} {vs : List V} {us : List Value} (x : VRs Γ μ n h (v :: vs) us) : ∃ u us', us = u :: us' ∧ VR Γ μ n h v u ∧ VRs Γ μ n h vs us' := by cases x with | cons a b => exact ⟨_, _, rfl, a, b⟩
theorem VRs.both {h : Heap} {v : V} {vs : List V} {u : Value} {us : List Value} (x : VRs Γ μ n h (v :: vs) (u :: us)) : VR Γ μ n h v u ∧ VRs Γ μ n h vs us := by cases x with | cons a b => exact ⟨a, b⟩
theorem VRs.Lk {v : V} {us : List Value} (x : VRs Γ μ n h [v] us) : ∃ u, us = [u] ∧ VR Γ μ n h v u := by
 obtain ⟨u, us', rfl, a, b⟩ := x.wX
 cases b.EQ
 exact ⟨u, rfl, a⟩
theorem VRs.MA {v w : V} {us : List Value} (x : VRs Γ μ n h [v, w] us) : ∃ u u', us = [u, u'] ∧ VR Γ μ n h v u ∧ VR Γ μ n h w u' := by
 obtain ⟨u, us', rfl, a, b⟩ := x.wX
 obtain ⟨u', rfl, c⟩ := b.Lk
 exact ⟨u, u', rfl, a, c⟩
theorem VRs.length {vs : List V} {us : List Value} (x : VRs Γ μ n h vs us) : vs.length = us.length := by
 induction vs generalizing us with
 | nil => cases x; rfl
 | cons v vs ih => cases x with | cons a b => simp [ih b]
theorem VRs.get {vs : List V} {us : List Value} (x : VRs Γ μ n h vs us) {i : Nat} {v : V} (e : vs[i]? = some v) : ∃ u, us[i]? = some u ∧ VR Γ μ n h v u := by
 induction vs generalizing us i with
 | nil => cases e
 | cons v vs ih =>
  cases x with
  | cons a b =>
   cases i with
   | zero => simp at e; subst e; exact ⟨_, by simp, a⟩
   | succ i => simp at e; obtain ⟨u, hu, hv⟩ := ih b e; exact ⟨u, by simpa using hu, hv⟩
theorem VRs.append {vs vs' : List V} {us us' : List Value} (x : VRs Γ μ n h vs us) (y : VRs Γ μ n h vs' us') : VRs Γ μ n h (vs ++ vs') (us ++ us') := by
 induction vs generalizing us with
 | nil => cases x; exact y
 | cons v vs ih => cases x with | cons a b => exact .cons a (ih b)
theorem VRs.take {vs : List V} {us : List Value} (x : VRs Γ μ n h vs us) (k : Nat) : VRs Γ μ n h (vs.take k) (us.take k) := by
 induction vs generalizing us k with
 | nil => cases x; simp; exact .nil
 | cons v vs ih =>
  cases x with
  | cons a b => cases k with
   | zero => simp; exact .nil
   | succ k => simp; exact .cons a (ih b k)
theorem VRs.drop {vs : List V} {us : List Value} (x : VRs Γ μ n h vs us) (k : Nat) : VRs Γ μ n h (vs.drop k) (us.drop k) := by
 induction vs generalizing us k with
 | nil => cases x; simp; exact .nil
 | cons v vs ih =>
  cases x with
  | cons a b => cases k with
   | zero => simp; exact .cons a b
   | succ k => simp; exact ih b k
theorem VRs.set {vs : List V} {us : List Value} (x : VRs Γ μ n h vs us) (k : Nat) {v : V} {u : Value} (y : VR Γ μ n h v u) : VRs Γ μ n h (vs.set k v) (us.set k u) := by
 induction vs generalizing us k with
 | nil => cases x; exact .nil
 | cons v vs ih =>
  cases x with
  | cons a b => cases k with
   | zero => simp; exact .cons y b
   | succ k => simp; exact .cons a (ih b k)
end
noncomputable def G7 (Γ : gK) (μ : Nat → Addr) (n : Nat) (h : Heap) (l : List (Int × V)) (kvs : List (Int × Value)) : Prop := kvs.map (·.1) = l.map (·.1) ∧ VRs Γ μ n h (l.map (·.2)) (kvs.map (·.2))
noncomputable def SDR (Γ : gK) (μ : Nat → Addr) (n : Nat) (h : Heap) (l : List (Nat × V)) (kvs : List (Str × Value)) : Prop := kvs.map (·.1) = l.map (fun p => Γ.nm p.1) ∧ VRs Γ μ n h (l.map (·.2)) (kvs.map (·.2))
noncomputable def OR (Γ : gK) (μ : Nat → Addr) (n : Nat) (h : Heap) (a : Addr) : O → Prop
 | .list l => ∃ items k, IsL h a items k ∧ VRs Γ μ n h l items.toList
 | .cA l => ∃ kvs, h.DictOf (intKind Γ.prog Γ.w) a kvs ∧ G7 Γ μ n h l kvs
 | .aV l => ∃ kvs, h.DictOf (PySem.strKind Γ.prog Γ.w) a kvs ∧ SDR Γ μ n h l kvs
structure aY (Γ : gK) (μ : Nat → Addr) (σ : St) (h : Heap) : Prop where
 base : ∀ b o, Γ.h₀.get? b = some o → h.get? b = some o
 objs : ∀ i o, σ[i]? = some o → OR Γ μ σ.length h (μ i) o
 inj : ∀ i j, i < σ.length → j < σ.length → μ i = μ j → i = j
 lo : ∀ i, i < σ.length → Γ.h₀.get? (μ i) = none
noncomputable def Own (μ : Nat → Addr) (n : Nat) (b : Addr) : Prop := ∃ i, i < n ∧ μ i = b
structure Step (own : Addr → Prop) (μ : Nat → Addr) (n : Nat) (s : Shared) (dU : Nat → Addr) (n' : Nat) (s' : Shared) : Prop where
 tR : ∀ b o, s.heap.get? b = some o → ¬ own b → s'.heap.get? b = some o
 live : ∀ b o, s.heap.get? b = some o → ∃ o', s'.heap.get? b = some o'
 agree : ∀ i, i < n → dU i = μ i
 le : n ≤ n'
 fresh : ∀ i, n ≤ i → i < n' → s.heap.get? (dU i) = none
 gens : s'.gens = s.gens
 drawn : s'.drawn = s.drawn
 os : s'.os = s.os
section
variable {Γ : gK} {μ aI bA : Nat → Addr} {n n₁ n₂ : Nat} {s s₁ s₂ : Shared} {own zL : Addr → Prop} {σ σ₁ : St}
theorem OR.obj {h : Heap} {a : Addr} {o : O} (x : OR Γ μ n h a o) : ∃ ob, h.get? a = some ob ∧ fz ob = false ∧ (∀ v, ob.data ≠ .cell v) := by
 cases o with
 | list l => obtain ⟨items, m, ho, _⟩ := x; exact ⟨_, ho, by simp [fz], by simp⟩
 | cA l => obtain ⟨kvs, ⟨ob, es, ep, ho, hc, hd, _⟩, _⟩ := x; exact ⟨ob, ho, by simp [fz, hc.1, hd], by simp [hd]⟩
 | aV l => obtain ⟨kvs, ⟨ob, es, ep, ho, hc, hd, _⟩, _⟩ := x; exact ⟨ob, ho, by simp [fz, hc.1, hd], by simp [hd]⟩
theorem OR.mono {h h' : Heap} {a : Addr} {o : O} (x : OR Γ μ n h a o) (e : ∀ ob, h.get? a = some ob → h'.get? a = some ob) (k : cK h h') (hμ : ∀ i, i < n → aI i = μ i) (hn : n ≤ n₁) : OR Γ aI n₁ h' a o := by
 cases o with
 | list l => obtain ⟨items, m, ho, hs⟩ := x; exact ⟨items, m, e _ ho, hs.mono k hμ hn⟩
 | cA l => obtain ⟨kvs, ⟨ob, es, ep, ho, r⟩, hs⟩ := x; exact ⟨kvs, ⟨ob, es, ep, e _ ho, r⟩, hs.1, hs.2.mono k hμ hn⟩
 | aV l => obtain ⟨kvs, ⟨ob, es, ep, ho, r⟩, hs⟩ := x; exact ⟨kvs, ⟨ob, es, ep, e _ ho, r⟩, hs.1, hs.2.mono k hμ hn⟩
theorem aY.at {h : Heap} (H : aY Γ μ σ h) {i : Nat} (hi : i < σ.length) : ∃ ob, h.get? (μ i) = some ob ∧ fz ob = false ∧ (∀ v, ob.data ≠ .cell v) :=
 (H.objs i σ[i] (by simp [hi])).obj
theorem aY.wH {h : Heap} (H : aY Γ μ σ h) {b : Addr} (x : Own μ σ.length b) {o : Obj} (e : h.get? b = some o) : fz o = false := by
 obtain ⟨i, hi, rfl⟩ := x
 obtain ⟨ob, h1, h2, _⟩ := H.at hi
 rw [h1] at e; cases e; exact h2
theorem Step.H9 (S : Step own μ n s aI n₁ s₁) (hz : ∀ b o, own b → s.heap.get? b = some o → fz o = false) : cK s.heap s₁.heap := fun a o e f =>
 S.tR a o e fun x => by rw [hz a o x e] at f; cases f
theorem Step.NT (H : aY Γ μ σ s.heap) (S : Step (Own μ σ.length) μ σ.length s aI n₁ s₁) : cK s.heap s₁.heap := S.H9 fun _ _ x e => H.wH x e
theorem Step.vr (H : aY Γ μ σ s.heap) (S : Step (Own μ σ.length) μ σ.length s aI n₁ s₁) {v : V} {u : Value} (x : VR Γ μ σ.length s.heap v u) : VR Γ aI n₁ s₁.heap v u := x.mono (S.NT H) S.agree S.le
theorem Step.Mx (H : aY Γ μ σ s.heap) (S : Step (Own μ σ.length) μ σ.length s aI n₁ s₁) {v : List V} {u : List Value} (x : VRs Γ μ σ.length s.heap v u) : VRs Γ aI n₁ s₁.heap v u := x.mono (S.NT H) S.agree S.le
theorem Step.refl : Step own μ n s μ n s := ⟨fun _ _ e _ => e, fun _ o e => ⟨o, e⟩, fun _ _ => rfl, Nat.le_refl _, fun _ h1 h2 => absurd h2 (Nat.not_lt.mpr h1), rfl, rfl, rfl⟩
theorem Step.toks (t : Nat) : Step own μ n s μ n { s with toks := t } := ⟨fun _ _ e _ => e, fun _ o e => ⟨o, e⟩, fun _ _ => rfl, Nat.le_refl _, fun _ h1 h2 => absurd h2 (Nat.not_lt.mpr h1), rfl, rfl, rfl⟩
theorem Step.trans (S : Step own μ n s aI n₁ s₁) (T : Step zL aI n₁ s₁ bA n₂ s₂) (hw : ∀ b, zL b → own b ∨ s.heap.get? b = none) : Step own μ n s bA n₂ s₂ := by
 refine ⟨fun b o e q => ?_, fun b o e => ?_, fun i hi => ?_, Nat.le_trans S.le T.le, fun i h1 h2 => ?_, T.gens.trans S.gens, T.drawn.trans S.drawn, T.os.trans S.os⟩
 ·refine T.tR b o (S.tR b o e q) fun x => ?_
  rcases hw b x with y | y
  ·exact q y
  ·rw [y] at e; cases e
 ·obtain ⟨o', e'⟩ := S.live b o e
  exact T.live b o' e'
 ·rw [T.agree i (Nat.lt_of_lt_of_le hi S.le), S.agree i hi]
 ·by_cases h : i < n₁
  ·rw [T.agree i h]; exact S.fresh i h1 h
  ·have := T.fresh i (Nat.not_lt.mp h) h2
   cases q : s.heap.get? (bA i) with
   | none => rfl
   | some o => obtain ⟨o', e'⟩ := S.live _ _ q; rw [e'] at this; cases this
theorem Step.Hz (S : Step own μ n s aI n₁ s₁) (hw : ∀ b, Own μ n b → own b) : ∀ b, Own aI n₁ b → own b ∨ s.heap.get? b = none := by
 rintro b ⟨i, hi, rfl⟩
 by_cases h : i < n
 ·exact .inl (hw _ ⟨i, h, (S.agree i h).symm⟩)
 ·exact .inr (S.fresh i (Nat.not_lt.mp h) hi)
theorem Step.then (S : Step (Own μ n) μ n s aI n₁ s₁) (T : Step (Own aI n₁) aI n₁ s₁ bA n₂ s₂) : Step (Own μ n) μ n s bA n₂ s₂ := S.trans T (S.Hz fun _ x => x)
theorem Step.push (o : Obj) : Step own μ n s μ n { s with heap := s.heap.push o } :=
 ⟨fun _ _ e _ => Heap.get?_push_of_some o e, fun _ _ e => ⟨_, Heap.get?_push_of_some o e⟩, fun _ _ => rfl, Nat.le_refl _, fun _ h1 h2 => absurd h2 (Nat.not_lt.mpr h1), rfl, rfl, rfl⟩
theorem Step.ext (S : Step own μ n s aI n₁ s₁) {it : Addr} {h' : Heap} (hn : s.heap.get? it = none) (x : Heap.ExtBut it s₁.heap h') (t : Nat) : Step own μ n s aI n₁ { s₁ with heap := h', toks := t } := by
 have ne : ∀ b o, s.heap.get? b = some o → b ≠ it := by rintro b o e rfl; rw [hn] at e; cases e
 exact ⟨fun b o e q => x b o (ne b o e) (S.tR b o e q), fun b o e => let ⟨o', e'⟩ := S.live b o e; ⟨o', x b o' (ne b o e) e'⟩, S.agree, S.le, S.fresh, S.gens, S.drawn, S.os⟩
theorem eS (h : Heap) : h.get? h.objs.size = none := by
 cases q : h.get? h.objs.size with
 | none => rfl
 | some o => exact absurd (Heap.lt_size q) (Nat.lt_irrefl _)
theorem cK.refl (h : Heap) : cK h h := fun _ _ e _ => e
theorem cK.trans {h h' h'' : Heap} (x : cK h h') (y : cK h' h'') : cK h h'' := fun a o e f => y a o (x a o e f) f
theorem cK.push (h : Heap) (o : Obj) : cK h (h.push o) := fun _ _ e _ => Heap.get?_push_of_some o e
theorem cK.ext {it : Addr} {h h' : Heap} (x : Heap.ExtBut it h h') (hz : ∀ o, h.get? it = some o → fz o = false) : cK h h' := fun a o e f =>
 x a o (by rintro rfl; rw [hz o e] at f; cases f) e
theorem aY.ext {h h' : Heap} {it : Addr} (H : aY Γ μ σ h) (x : Heap.ExtBut it h h') (hz : ∀ o, h.get? it = some o → fz o = false) (hb : Γ.h₀.get? it = none) (ho : ∀ i, i < σ.length → μ i ≠ it) : aY Γ μ σ h' :=
 ⟨fun b o e => x b o (by rintro rfl; rw [hb] at e; cases e) (H.base b o e),
  fun i o e => (H.objs i o e).mono (fun ob e' => x _ _ (ho i (List.getElem?_eq_some_iff.mp e).1) e') (.ext x hz) (fun _ _ => rfl) (Nat.le_refl _), H.inj, H.lo⟩
theorem aY.push {h : Heap} (H : aY Γ μ σ h) (o : Obj) : aY Γ μ σ (h.push o) :=
 ⟨fun b o' e => Heap.get?_push_of_some o (H.base b o' e), fun i o' e => (H.objs i o' e).mono (fun ob e' => Heap.get?_push_of_some o e') (.push h o) (fun _ _ => rfl) (Nat.le_refl _), H.inj, H.lo⟩
theorem aY.kZ {h : Heap} (H : aY Γ μ σ h) : Γ.h₀.get? h.objs.size = none := by
 cases q : Γ.h₀.get? h.objs.size with
 | none => rfl
 | some o => exact absurd (Heap.lt_size (H.base _ _ q)) (Nat.lt_irrefl _)
theorem aY.pS {h : Heap} (H : aY Γ μ σ h) {i : Nat} (hi : i < σ.length) : μ i ≠ h.objs.size := by
 obtain ⟨ob, e, _⟩ := H.at hi
 exact Nat.ne_of_lt (Heap.lt_size e)
noncomputable def eV (μ : Nat → Addr) (n : Nat) (a : Addr) : Nat → Addr := fun i => if i = n then a else μ i
theorem c6 (μ : Nat → Addr) (n : Nat) (a : Addr) : eV μ n a n = a := if_pos rfl
theorem bZ {μ : Nat → Addr} {n i : Nat} {a : Addr} (h : i < n) : eV μ n a i = μ i := if_neg (Nat.ne_of_lt h)
theorem aY.alloc {h : Heap} (H : aY Γ μ σ h) (ob : Obj) (o : O) (hO : OR Γ (eV μ σ.length h.objs.size) (σ.length + 1) (h.push ob) h.objs.size o) :
  aY Γ (eV μ σ.length h.objs.size) (σ ++ [o]) (h.push ob) := by
 have hlen : (σ ++ [o]).length = σ.length + 1 := by simp
 refine ⟨fun b o' e => Heap.get?_push_of_some ob (H.base b o' e), fun i o' e => ?_, fun i j hi hj e => ?_, fun i hi => ?_⟩
 ·rw [hlen]
  by_cases hi : i < σ.length
  ·rw [List.getElem?_append_left hi] at e
   rw [bZ hi]
   exact (H.objs i o' e).mono (fun _ e' => Heap.get?_push_of_some ob e') (.push h ob) (fun _ hj => bZ hj) (Nat.le_succ _)
  ·have hlt := (List.getElem?_eq_some_iff.mp e).1
   have : i = σ.length := by rw [hlen] at hlt; lia
   subst this
   simp at e; subst e
   rw [c6]; exact hO
 ·rw [hlen] at hi hj
  by_cases h1 : i < σ.length <;> by_cases h2 : j < σ.length
  ·rw [bZ h1, bZ h2] at e; exact H.inj i j h1 h2 e
  ·have : j = σ.length := by lia
   subst this
   rw [bZ h1, c6] at e
   exact absurd e (H.pS h1)
  ·have : i = σ.length := by lia
   subst this
   rw [bZ h2, c6] at e
   exact absurd e.symm (H.pS h2)
  ·lia
 ·rw [hlen] at hi
  by_cases h1 : i < σ.length
  ·rw [bZ h1]; exact H.lo i h1
  ·have : i = σ.length := by lia
   subst this
   rw [c6]; exact H.kZ
theorem Step.alloc (ob : Obj) (hn : n = n) : Step own μ n s (eV μ n s.heap.objs.size) (n + 1) { s with heap := s.heap.push ob } :=
 ⟨fun _ _ e _ => Heap.get?_push_of_some ob e, fun _ _ e => ⟨_, Heap.get?_push_of_some ob e⟩, fun _ hi => bZ hi, Nat.le_succ _,
  fun i h1 h2 => by have : i = n := (by lia); subst this; rw [c6]; exact eS _, rfl, rfl, rfl⟩
theorem aY.set {h h' : Heap} (H : aY Γ μ σ h) {i : Nat} {o : O} (hi : i < σ.length) (x : Heap.SameBut (μ i) h h') (hO : cK h h' → OR Γ μ σ.length h' (μ i) o) : aY Γ μ (σ.set i o) h' := by
 have hlen : (σ.set i o).length = σ.length := by simp
 have hz : ∀ o, h.get? (μ i) = some o → fz o = false := fun o e => H.wH ⟨i, hi, rfl⟩ e
 have kf : cK h h' := .ext x.extBut hz
 refine ⟨fun b o' e => ?_, fun j o' e => ?_, by rw [hlen]; exact H.inj, by rw [hlen]; exact H.lo⟩
 ·exact x.extBut b o' (by rintro rfl; rw [H.lo i hi] at e; cases e) (H.base b o' e)
 ·rw [hlen]
  by_cases hj : j = i
  ·subst hj
   simp [hi] at e; subst e
   exact hO kf
  ·rw [List.getElem?_set_ne (Ne.symm hj)] at e
   have hlt := (List.getElem?_eq_some_iff.mp e).1
   exact (H.objs j o' e).mono (fun _ e' => x.extBut _ _ (fun q => hj (H.inj j i hlt hi q)) e') kf (fun _ _ => rfl) (Nat.le_refl _)
theorem Step.set {h' : Heap} {i : Nat} (hi : own (μ i)) (x : Heap.SameBut (μ i) s.heap h') (hl : ∃ o, h'.get? (μ i) = some o) (t : Nat) : Step own μ n s μ n { s with heap := h', toks := t } :=
 ⟨fun b o e q => x.extBut b o (by rintro rfl; exact q hi) e, fun b o e => by
  by_cases hb : b = μ i
  ·subst hb; exact hl
  ·exact ⟨o, x.extBut b o hb e⟩, fun _ _ => rfl, Nat.le_refl _, fun _ h1 h2 => absurd h2 (Nat.not_lt.mpr h1), rfl, rfl, rfl⟩
end
structure fN (A : Around) (d : Nat) : Prop where
 handled : A.handled = none
 depth : A.depth + 10 * d < 900
 units : A.units + 20 * d + 100 < 9900
structure Cx where
 sc : Scope
 vars : List (Nat × Nat)
 fn : Bool
noncomputable def Jh (Γ : gK) (cx : Cx) (env : Env) (b : Addr) : Prop :=
 b = env.locals ∨ (cx.fn = true ∧ ∃ p ∈ cx.vars, env.kindOf (Γ.nm p.2) = some .cell ∧ env.cells.lookup (Γ.nm p.2) = some b)
structure dK (Γ : gK) (cx : Cx) (env : Env) (μ : Nat → Addr) (n : Nat) (ρ : Loc) (h : Heap) : Prop where
 scope : env.scope = cx.sc
 kind : cx.sc.kind = .function
 globals : env.globals = mainGlobals
 builtins : env.builtins = builtinsNs
 locals : ∃ m, h.Ns env.locals m ∧ ∀ p ∈ cx.vars, env.kindOf (Γ.nm p.2) = some .local → ∀ v, ρ[p.1]? = some (some v) → ∃ u, m (Γ.nm p.2) = some u ∧ VR Γ μ n h v u
 cells : ∀ p ∈ cx.vars, env.kindOf (Γ.nm p.2) = some .cell → ∃ c x, env.cells.lookup (Γ.nm p.2) = some c ∧ h.IsCell c x ∧ ∀ v, ρ[p.1]? = some (some v) → ∃ u, x = some u ∧ VR Γ μ n h v u
 tC : ∀ p ∈ cx.vars, ∀ q ∈ cx.vars, ∀ c, env.kindOf (Γ.nm p.2) = some .cell → env.kindOf (Γ.nm q.2) = some .cell → env.cells.lookup (Γ.nm p.2) = some c → env.cells.lookup (Γ.nm q.2) = some c → p = q
 qL : ∀ i, i < n → μ i ≠ env.locals
 lo : Γ.h₀.get? env.locals = none
 LB : ∀ p ∈ cx.vars, ∀ c, env.kindOf (Γ.nm p.2) = some .cell → env.cells.lookup (Γ.nm p.2) = some c → Γ.h₀.get? c = none
noncomputable def f8 (Γ : gK) (cx : Cx) (k : Nat) : Option NameKind := cx.sc.names.lookup (Γ.nm k)
structure aR (Γ : gK) (cx : Cx) : Prop where
 kinds : ∀ p ∈ cx.vars, f8 Γ cx p.2 = some .local ∨ f8 Γ cx p.2 = some .cell
 names : ∀ p ∈ cx.vars, ∀ q ∈ cx.vars, p.2 = q.2 → p = q
 slots : ∀ p ∈ cx.vars, ∀ q ∈ cx.vars, p.1 = q.1 → p = q
section
variable {Γ : gK} {cx : Cx} {env : Env} {μ aI dU : Nat → Addr} {n n₁ n' : Nat} {ρ : Loc} {h h' : Heap} {s s₁ s' : Shared} {σ σ₁ : St}
theorem dK.kindOf (R : dK Γ cx env μ n ρ h) (k : Nat) : env.kindOf (Γ.nm k) = f8 Γ cx k := by unfold Env.kindOf f8; rw [R.scope]
theorem Heap.Ns.obj {h : Heap} {a : Addr} {m} (x : h.Ns a m) : ∃ o es ep, h.get? a = some o ∧ o.data = .dict es ep := let ⟨o, es, ep, a, b, _⟩ := x; ⟨o, es, ep, a, b⟩
theorem dK.step (R : dK Γ cx env μ σ.length ρ s.heap) (H : aY Γ μ σ s.heap) (S : Step (Own μ σ.length) μ σ.length s aI n₁ s₁) : dK Γ cx env aI n₁ ρ s₁.heap := by
 have kf := S.NT H
 refine ⟨R.scope, R.kind, R.globals, R.builtins, ?_, fun p hp hk => ?_, R.tC, fun i hi => ?_, R.lo, R.LB⟩
 ·obtain ⟨m, ⟨o, es, ep, ho, r⟩, hm⟩ := R.locals
  refine ⟨m, ⟨o, es, ep, S.tR _ _ ho fun ⟨i, hi, e⟩ => R.qL i hi e, r⟩, fun p hp hk v hv => ?_⟩
  obtain ⟨u, h1, h2⟩ := hm p hp hk v hv
  exact ⟨u, h1, h2.mono kf S.agree S.le⟩
 ·obtain ⟨c, x, h1, ⟨o, ho, hd⟩, h3⟩ := R.cells p hp hk
  refine ⟨c, x, h1, ⟨o, S.tR _ _ ho fun ⟨i, hi, e⟩ => ?_, hd⟩, fun v hv => ?_⟩
  ·obtain ⟨ob, e1, _, e3⟩ := H.at hi
   rw [e, ho] at e1; cases e1
   exact e3 _ hd
  ·obtain ⟨u, e1, e2⟩ := h3 v hv
   exact ⟨u, e1, e2.mono kf S.agree S.le⟩
 ·by_cases hlt : i < σ.length
  ·rw [S.agree i hlt]; exact R.qL i hlt
  ·obtain ⟨m, hn, _⟩ := R.locals
   obtain ⟨o, _, _, ho, _⟩ := Heap.Ns.obj hn
   intro e
   have := S.fresh i (Nat.not_lt.mp hlt) hi
   rw [e, ho] at this; cases this
noncomputable abbrev Cont (Γ : gK) (μ : Nat → Addr) (σ : St) (s : Shared) (v : V) (σ' : St) (Q : Value → Shared → Prop) : Prop :=
 ∀ u dU s', aY Γ dU σ' s'.heap → Step (Own μ σ.length) μ σ.length s dU σ'.length s' → VR Γ dU σ'.length s'.heap v u → Q u s'
noncomputable abbrev X (α : Type) := Loc → St → Option (α × St)
noncomputable def aC (Γ : gK) (d : Nat) (cx : Cx) (e : PySem.Expr) (f : X V) : Prop :=
 ∀ (A : Around) (env : Env) (μ : Nat → Addr) (ρ : Loc) (σ : St) (s : Shared) (v : V) (σ' : St) (Q : Value → Shared → Prop) (E : Value → Shared → Prop),
  fN A d → aY Γ μ σ s.heap → dK Γ cx env μ σ.length ρ s.heap → f ρ σ = some (v, σ') → Cont Γ μ σ s v σ' Q → wpAny Γ.M A (eval e env) Q E s
noncomputable def hV (Γ : gK) (d : Nat) (cx : Cx) (es : List PySem.Expr) (f : X (List V)) : Prop :=
 ∀ (A : Around) (env : Env) (pos : Pos) (μ : Nat → Addr) (ρ : Loc) (σ : St) (s : Shared) (vs : List V) (σ' : St) (Q : List Value → Shared → Prop) (E : Value → Shared → Prop),
  fN A d → aY Γ μ σ s.heap → dK Γ cx env μ σ.length ρ s.heap → f ρ σ = some (vs, σ') →
  (∀ us dU s', aY Γ dU σ' s'.heap → Step (Own μ σ.length) μ σ.length s dU σ'.length s' → VRs Γ dU σ'.length s'.heap vs us → Q us s') →
  wpAny Γ.M A (spliced (backTo pos (starEach es env))) Q E s
noncomputable def bK (Γ : gK) (d : Nat) (cx : Cx) (e : PySem.Expr) (f : X Bool) : Prop :=
 ∀ (A : Around) (env : Env) (μ : Nat → Addr) (ρ : Loc) (σ : St) (s : Shared) (v : Bool) (σ' : St) (Q : Bool → Shared → Prop) (E : Value → Shared → Prop),
  fN A d → aY Γ μ σ s.heap → dK Γ cx env μ σ.length ρ s.heap → f ρ σ = some (v, σ') →
  (∀ dU s', aY Γ dU σ' s'.heap → Step (Own μ σ.length) μ σ.length s dU σ'.length s' → Q v s') → wpAny Γ.M A (isTrue e env (eval e env)) Q E s
namespace X
noncomputable def fail {α : Type} : X α := fun _ _ => none
noncomputable def pure {α : Type} (a : α) : X α := fun _ σ => some (a, σ)
noncomputable def bind {α β : Type} (x : X α) (f : α → X β) : X β := fun ρ σ => match x ρ σ with
 | some (a, σ') => f a ρ σ'
 | none => none
noncomputable def var (i : Nat) : X V := fun ρ σ => match ρ[i]? with
 | some (some v) => some (v, σ)
 | _ => none
noncomputable def lift {α : Type} (r : St → Option (α × St)) : X α := fun _ σ => r σ
end X
theorem X.bind_some {α β : Type} {x : X α} {f : α → X β} {ρ : Loc} {σ : St} {b : β} {σ' : St} (e : X.bind x f ρ σ = some (b, σ')) : ∃ a σ₁, x ρ σ = some (a, σ₁) ∧ f a ρ σ₁ = some (b, σ') := by
 unfold X.bind at e
 split at e
 ·rename_i a σ₁ h; exact ⟨a, σ₁, h, e⟩
 ·cases e
variable {d : Nat}
theorem aC.fail {e : PySem.Expr} : aC Γ d cx e X.fail := fun _ _ _ _ _ _ _ _ _ _ _ _ _ e _ => by cases e
theorem bK.fail {e : PySem.Expr} : bK Γ d cx e X.fail := fun _ _ _ _ _ _ _ _ _ _ _ _ _ e _ => by cases e
theorem aC.int {i : Int} {k : Nat} {pos : Pos} : aC Γ d cx (.Constant (.int i) k pos) (X.pure (.int i)) := fun A env μ ρ σ s v σ' Q E _ H R e c => by
 cases e; exact wpAny_Constant_int (c _ μ _ H (.toks _) (.int _ _))
theorem aC.bool {b : Bool} {k : Nat} {pos : Pos} : aC Γ d cx (.Constant (.bool b) k pos) (X.pure (.bool b)) := fun A env μ ρ σ s v σ' Q E _ H R e c => by
 cases e; exact wpAny_pure (c _ μ _ H .refl (.bool _))
theorem aC.none {k : Nat} {pos : Pos} : aC Γ d cx (.Constant .none k pos) (X.pure .none) := fun A env μ ρ σ s v σ' Q E _ H R e c => by
 cases e; exact wpAny_pure (c _ μ _ H .refl .none)
theorem aC.str {x : Str} {k kk : Nat} {pos : Pos} (hx : Γ.nm k = x) : aC Γ d cx (.Constant (.str x) kk pos) (X.pure (.str k)) := fun A env μ ρ σ s v σ' Q E _ H R e c => by
 cases e; subst hx
 exact fun Γ' p hΓ => c _ μ _ H (.toks _) (.str _ _)
theorem aC.var {i k : Nat} {x : Str} {pos : Pos} (hx : Γ.nm k = x) (hv : (i, k) ∈ cx.vars) (O : aR Γ cx) (hd : (x == ("__debug__" : Str)) = false) : aC Γ d cx (.Name x pos) (X.var i) := fun A env μ ρ σ s v σ' Q E _ H R e c => by
 subst hx
 obtain ⟨Pq, rfl⟩ : ρ[i]? = some (some v) ∧ σ = σ' := by
  unfold X.var at e
  cases h : ρ[i]? with
  | none => rw [h] at e; exact nS e
  | some o =>
   rw [h] at e
   cases o with
   | none => exact nS e
   | some _ => cases e; exact ⟨rfl, rfl⟩
 have hk := O.kinds _ hv
 rw [← R.kindOf] at hk
 rcases hk with hk | hk
 ·obtain ⟨m, hn, hm⟩ := R.locals
  obtain ⟨u, h1, h2⟩ := hm _ hv hk _ Pq
  exact wpAny_Name (wpAny_loadName_local (by rw [R.scope]; exact R.kind) hk hn h1 (c _ μ _ H .refl h2)) hd
 ·obtain ⟨cc, x, h1, h2, h3⟩ := R.cells _ hv hk
  obtain ⟨u, rfl, h4⟩ := h3 _ Pq
  exact wpAny_Name (wpAny_loadName_cell (by rw [R.scope]; exact R.kind) hk h1 h2 (c _ μ _ H .refl h4)) hd
theorem fN.in1 {A : Around} (r : fN A d) : A.in1.handled = none := r.handled
noncomputable def bY (Γ : gK) (d : Nat) (op : Value → Value → Sem Value) (g : V → V → St → Option (V × St)) : Prop :=
 ∀ (A : Around) (μ : Nat → Addr) (σ : St) (s : Shared) (a b v : V) (ua ub : Value) (σ' : St) (Q : Value → Shared → Prop) (E : Value → Shared → Prop),
  fN A d → aY Γ μ σ s.heap → VR Γ μ σ.length s.heap a ua → VR Γ μ σ.length s.heap b ub → g a b σ = some (v, σ') → Cont Γ μ σ s v σ' Q → wpAny Γ.M A (op ua ub) Q E s
theorem aC.bin {l r : PySem.Expr} {op : Operator} {pos : Pos} {f g : X V} {o : V → V → St → Option (V × St)} (hf : aC Γ d cx l f) (hg : aC Γ d cx r g) (ho : bY Γ d (binaryOp op) o) :
  aC Γ d cx (.BinOp l op r pos) (X.bind f fun a => X.bind g fun b => X.lift (o a b)) := fun A env μ ρ σ s v σ' Q E r H R e c => by
 obtain ⟨a, σ₁, e1, e⟩ := X.bind_some e
 obtain ⟨b, σ₂, e2, e⟩ := X.bind_some e
 refine wpAny_BinOp (hf A env μ ρ σ s a σ₁ _ E r H R e1 fun ua aI s₁ H₁ S₁ cN => ?_)
 refine hg A env aI ρ σ₁ s₁ b σ₂ _ E r H₁ (R.step H S₁) e2 fun ub bA s₂ cM S₂ eQ => ?_
 exact ho A bA σ₂ s₂ a b v ua ub σ' _ E r cM (S₂.vr H₁ cN) eQ e fun u fW s₃ f9 hZ V₃ => c u fW s₃ f9 ((S₁.then S₂).then hZ) V₃
theorem aC.cmp {l r : PySem.Expr} {op : CmpOp} {pos : Pos} {f g : X V} {o : V → V → St → Option (V × St)} (hf : aC Γ d cx l f) (hg : aC Γ d cx r g) (ho : bY Γ d (compareOp op) o) (hm : behindInMarks op r = false) :
  aC Γ d cx (.Compare l [op] [r] pos) (X.bind f fun a => X.bind g fun b => X.lift (o a b)) := fun A env μ ρ σ s v σ' Q E r H R e c => by
 obtain ⟨a, σ₁, e1, e⟩ := X.bind_some e
 obtain ⟨b, σ₂, e2, e⟩ := X.bind_some e
 refine wpAny_Compare1 (hf A env μ ρ σ s a σ₁ _ E r H R e1 fun ua aI s₁ H₁ S₁ cN => ?_) hm
 refine hg A env aI ρ σ₁ s₁ b σ₂ _ E r H₁ (R.step H S₁) e2 fun ub bA s₂ cM S₂ eQ => ?_
 exact ho A bA σ₂ s₂ a b v ua ub σ' _ E r cM (S₂.vr H₁ cN) eQ e fun u fW s₃ f9 hZ V₃ => c u fW s₃ f9 ((S₁.then S₂).then hZ) V₃
end
section
variable {Γ : gK} {cx : Cx} {d : Nat}
theorem X.lE {α : Type} {r : St → Option (α × St)} {ρ : Loc} {σ : St} {x : α × St} (e : X.lift r ρ σ = some x) : r σ = some x := e
theorem hV.nil : hV Γ d cx [] (X.pure []) := fun A env pos μ ρ σ s vs σ' Q E r H R e c => by
 cases e; exact args_nil (c _ μ _ H .refl .nil)
theorem hV.cons {e : PySem.Expr} {es : List PySem.Expr} {f : X V} {g : X (List V)} (hf : aC Γ d cx e f) (hg : hV Γ d cx es g) (he : ∀ env, starEach (e :: es) env = (false, eval e env) :: starEach es env) :
  hV Γ d cx (e :: es) (X.bind f fun v => X.bind g fun vs => X.pure (v :: vs)) := fun A env pos μ ρ σ s vs σ' Q E r H R e c => by
 obtain ⟨a, σ₁, e1, e⟩ := X.bind_some e
 obtain ⟨b, σ₂, e2, e⟩ := X.bind_some e
 cases e
 refine args_cons (hf A env μ ρ σ s a σ₁ _ E r H R e1 fun ua aI s₁ H₁ S₁ cN => ?_) (he env)
 exact hg A env pos aI ρ σ₁ s₁ b _ _ E r H₁ (R.step H S₁) e2 fun ub bA s₂ cM S₂ eQ => c _ bA s₂ cM (S₁.then S₂) (.cons (S₂.vr H₁ cN) eQ)
noncomputable def f5 (vs : List V) : X (List V) := fun _ σ => if vs.length ≤ 1000 then some (vs, σ) else none
theorem aC.tup {es : List PySem.Expr} {k : Nat} {pos : Pos} {f : X (List V)} (hf : hV Γ d cx es f) : aC Γ d cx (.Tuple es k pos) (X.bind f fun vs => X.bind (f5 vs) fun vs => X.pure (.tup vs)) := fun A env μ ρ σ s v σ' Q E r H R e c => by
 obtain ⟨vs, σ₁, e1, e⟩ := X.bind_some e
 obtain ⟨vs', σ₂, e2, e⟩ := X.bind_some e
 cases e
 unfold f5 at e2
 split at e2 <;> cases e2
 rename_i hl
 refine wpAny_Tuple_spliced (hf A env pos μ ρ σ s vs _ _ E r H R e1 fun us aI s₁ H₁ S₁ cN => ⟨?_, ?_⟩)
 ·rw [← cN.length, sizeLine_eq]; lia
 ·have T : Step (Own aI σ'.length) aI σ'.length s₁ aI σ'.length { s₁ with heap := s₁.heap.push { cls := .type "tuple", data := .seq us.toArray } } := .push _
  refine c _ aI _ (H₁.push _) (S₁.then T) (.tup (IsT.new _ _) ?_)
  exact cN.mono (.push _ _) (fun _ _ => rfl) (Nat.le_refl _)
theorem aC.lst {es : List PySem.Expr} {pos : Pos} {f : X (List V)} (hf : hV Γ d cx es f) : aC Γ d cx (.List es pos) (X.bind f fun vs => X.bind (f5 vs) fun vs => X.lift fun σ => some (.obj σ.length, σ ++ [.list vs])) := fun A env μ ρ σ s v σ' Q E r H R e c => by
 obtain ⟨vs, σ₁, e1, e⟩ := X.bind_some e
 obtain ⟨vs', σ₂, e2, e⟩ := X.bind_some e
 cases X.lE e
 unfold f5 at e2
 split at e2 <;> cases e2
 rename_i hl
 refine wpAny_List_spliced (hf A env pos μ ρ σ s vs _ _ E r H R e1 fun us aI s₁ H₁ S₁ cN => ⟨?_, ?_⟩)
 ·rw [← cN.length, sizeLine_eq]; lia
 ·have T : Step (Own aI σ₁.length) aI σ₁.length s₁ _ _ { s₁ with heap := s₁.heap.push { cls := .type "list", data := .seq us.toArray } } := .alloc _ rfl
  have len : (σ₁ ++ [O.list vs]).length = σ₁.length + 1 := by simp
  have e0 : Value.ref s₁.heap.objs.size = .ref (eV aI σ₁.length s₁.heap.objs.size σ₁.length) := by rw [c6]
  rw [e0]
  refine c _ _ _ (H₁.alloc _ _ ⟨us.toArray, 0, IsL.new _ _, ?_⟩) (by rw [len]; exact S₁.then T) (.obj (by rw [len]; lia))
  exact cN.mono (.push _ _) (fun i hi => bZ hi) (Nat.le_succ _)
noncomputable def X.truth (v : V) : X Bool := fun _ σ => match v with
 | .bool b => some (b, σ)
 | _ => none
theorem lB {v : V} {b : Bool} {σ' : St} (e : X.truth v ρ σ = some (b, σ')) : v = .bool b ∧ σ' = σ := by
 cases v with
 | bool _ => cases e; exact ⟨rfl, rfl⟩
 | _ => exact nS e
theorem bK.ofE {e : PySem.Expr} {f : X V} (hf : aC Γ d cx e f) (he : ∀ env t, isTrue e env t = (do let v ← t; standAt e.pos; holding [v] (truthy v))) : bK Γ d cx e (X.bind f X.truth) := fun A env μ ρ σ s v σ' Q E r H R e c => by
 obtain ⟨a, σ₁, e1, e⟩ := X.bind_some e
 obtain ⟨rfl, rfl⟩ := lB e
 rw [he]
 refine wpAny_bind (hf A env μ ρ σ s _ _ _ E r H R e1 fun u aI s₁ H₁ S₁ cN => ?_)
 cases cN.uU
 exact wpAny_bind (wpAny_standAt (wpAny_holding (wpAny_truthy_bool (c aI s₁ H₁ S₁))))
theorem bK.cmp {l r : PySem.Expr} {op : CmpOp} {pos : Pos} {f g : X V} {o : V → V → St → Option (V × St)} (hf : aC Γ d cx l f) (hg : aC Γ d cx r g) (ho : bY Γ d (compareOp op) o) (hm : behindInMarks op r = false) :
  bK Γ d cx (.Compare l [op] [r] pos) (X.bind (X.bind f fun a => X.bind g fun b => X.lift (o a b)) X.truth) := fun A env μ ρ σ s v σ' Q E rm H R e c => by
 obtain ⟨x, jX, e0, e⟩ := X.bind_some e
 obtain ⟨a, σ₁, e1, e0⟩ := X.bind_some e0
 obtain ⟨b, σ₂, e2, e0⟩ := X.bind_some e0
 refine wpAny_isTrue_Compare1 (hf A env μ ρ σ s a σ₁ _ E rm H R e1 fun ua aI s₁ H₁ S₁ cN => ?_) hm
 refine hg A env aI ρ σ₁ s₁ b σ₂ _ E rm H₁ (R.step H S₁) e2 fun ub bA s₂ cM S₂ eQ => ?_
 refine ho A bA σ₂ s₂ a b x ua ub jX _ E rm cM (S₂.vr H₁ cN) eQ e0 fun u fW s₃ f9 hZ V₃ => ?_
 obtain ⟨rfl, rfl⟩ := lB e
 cases V₃.uU
 exact wpAny_truthy_bool (c fW s₃ f9 ((S₁.then S₂).then hZ))
theorem bK.qE {l m r : PySem.Expr} {op op' : CmpOp} {pos : Pos} {f g h : X V} {o o' : V → V → St → Option (V × St)} (hf : aC Γ d cx l f) (hg : aC Γ d cx m g) (hh : aC Γ d cx r h)
  (ho : bY Γ d (compareOp op) o) (ho' : bY Γ d (compareOp op') o') (hm : lastMarks [op, op'] [m, r] = false) :
  bK Γ d cx (.Compare l [op, op'] [m, r] pos) (X.bind f fun a => X.bind g fun b => X.bind (X.bind (X.lift (o a b)) X.truth) fun t => if t then X.bind (X.bind h fun c => X.lift (o' b c)) X.truth else X.pure false) := fun A env μ ρ σ s v σ' Q E rm H R e c => by
 obtain ⟨a, σ₁, e1, e⟩ := X.bind_some e
 obtain ⟨b, σ₂, e2, e⟩ := X.bind_some e
 obtain ⟨t, jX, e3, e⟩ := X.bind_some e
 obtain ⟨x, Mt, e4, e3⟩ := X.bind_some e3
 refine isTrue_chain (hf A env μ ρ σ s a σ₁ _ E rm H R e1 fun ua aI s₁ H₁ S₁ cN => ?_) hm
 show wpAny _ _ (testChain pos ua [op, op'] [eval m env, eval r env]) _ _ _
 refine wpAny_bind (wpAny_holding (hg A env aI ρ σ₁ s₁ b σ₂ _ E rm H₁ (R.step H S₁) e2 fun ub bA s₂ cM S₂ eQ => ?_))
 refine wpAny_bind (wpAny_standAt (wpAny_bind (wpAny_holding ?_)))
 refine ho A bA σ₂ s₂ a b x ua ub Mt _ E rm cM (S₂.vr H₁ cN) eQ e4 fun u fW s₃ f9 hZ V₃ => ?_
 obtain ⟨rfl, rfl⟩ := lB e3
 cases V₃.uU
 refine wpAny_bind (wpAny_release' (wpAny_bind (wpAny_holding (wpAny_truthy_bool ?_))))
 have S := (S₁.then S₂).then hZ
 cases t with
 | false => cases e; exact wpAny_pure (c fW s₃ f9 S)
 | true =>
  rw [if_pos rfl] at e ⊢
  obtain ⟨y, Ms, e5, e⟩ := X.bind_some e
  obtain ⟨z, Kj, e6, e5⟩ := X.bind_some e5
  have iN := (R.step H S₁).step H₁ S₂
  refine wpAny_bind (wpAny_holding (hh A env fW ρ jX s₃ z Kj _ E rm f9 (iN.step cM hZ) e6 fun uz pG s₄ nT mC V₄ => ?_))
  refine wpAny_bind (wpAny_standAt (wpAny_bind (wpAny_operate' ?_)))
  refine ho' A pG Kj s₄ b z y ub uz Ms _ E rm nT (mC.vr f9 (hZ.vr cM eQ)) V₄ e5 fun u' oU s₅ xV jR Fr => ?_
  obtain ⟨rfl, rfl⟩ := lB e
  cases Fr.uU
  exact wpAny_holding (wpAny_truthy_bool (c oU s₅ xV ((S.then mC).then jR)))
theorem bK.not {x : PySem.Expr} {pos : Pos} {f : X Bool} (hf : bK Γ d cx x f) : bK Γ d cx (.UnaryOp .Not x pos) (X.bind f fun b => X.pure (!b)) := fun A env μ ρ σ s v σ' Q E r H R e c => by
 obtain ⟨a, σ₁, e1, e⟩ := X.bind_some e
 cases e
 exact PyProof.Rows.isTrue_not (hf A env μ ρ σ s a _ _ E r H R e1 fun aI s₁ H₁ S₁ => c aI s₁ H₁ S₁)
theorem aC.not {x : PySem.Expr} {pos : Pos} {f : X V} (hf : aC Γ d cx x f) : aC Γ d cx (.UnaryOp .Not x pos) (X.bind (X.bind f X.truth) fun b => X.pure (.bool (!b))) := fun A env μ ρ σ s v σ' Q E r H R e c => by
 obtain ⟨a, σ₁, e1, e⟩ := X.bind_some e
 obtain ⟨x, σ₂, e2, e1⟩ := X.bind_some e1
 cases e
 obtain ⟨rfl, rfl⟩ := lB e1
 refine wpAny_UnaryOp (hf A env μ ρ σ s _ _ _ E r H R e2 fun u aI s₁ H₁ S₁ cN => ?_)
 cases cN.uU
 exact not_of (wpAny_truthy_bool (c _ aI s₁ H₁ S₁ (.bool _)))
noncomputable def bM (Γ : gK) (d : Nat) (cx : Cx) (op : BoolOp) (es : List PySem.Expr) (f : X Bool) : Prop :=
 ∀ (A : Around) (env : Env) (μ : Nat → Addr) (ρ : Loc) (σ : St) (s : Shared) (v : Bool) (σ' : St) (Q : Bool → Shared → Prop) (E : Value → Shared → Prop),
  fN A d → aY Γ μ σ s.heap → dK Γ cx env μ σ.length ρ s.heap → f ρ σ = some (v, σ') →
  (∀ dU s', aY Γ dU σ' s'.heap → Step (Own μ σ.length) μ σ.length s dU σ'.length s' → Q v s') → wpAny Γ.M A (allTrue op es env) Q E s
theorem bM.nil {op : BoolOp} : bM Γ d cx op [] (X.pure (op == .And)) := fun A env μ ρ σ s v σ' Q E r H R e c => by
 cases e; exact wpAny_pure (c μ s H .refl)
theorem bM.cons {op : BoolOp} {e : PySem.Expr} {es : List PySem.Expr} {f g : X Bool} (hf : bK Γ d cx e f) (hg : bM Γ d cx op es g) :
  bM Γ d cx op (e :: es) (X.bind f fun b => if b == (op == .And) then g else X.pure b) := fun A env μ ρ σ s v σ' Q E r H R e' c => by
 obtain ⟨a, σ₁, e1, e'⟩ := X.bind_some e'
 rw [arm_allTrue_cons]
 refine wpAny_bind (hf A env μ ρ σ s a _ _ E r H R e1 fun aI s₁ H₁ S₁ => ?_)
 have go : ∀ {g : X Bool} (_ : bM Γ d cx op es g), g ρ σ₁ = some (v, σ') → wpAny Γ.M A (allTrue op es env) Q E s₁ := fun {g} hg e => hg A env aI ρ σ₁ s₁ v σ' _ E r H₁ (R.step H S₁) e fun bA s₂ cM S₂ => c bA s₂ cM (S₁.then S₂)
 cases op <;> cases a
 ·cases e'; exact wpAny_pure (c aI s₁ H₁ S₁)
 ·exact go hg e'
 ·exact go hg e'
 ·cases e'; exact wpAny_pure (c aI s₁ H₁ S₁)
theorem bK.boolop {op : BoolOp} {es : List PySem.Expr} {pos : Pos} {f : X Bool} (hf : bM Γ d cx op es f) : bK Γ d cx (.BoolOp op es pos) f := fun A env μ ρ σ s v σ' Q E r H R e c =>
 hf A env μ ρ σ s v σ' Q E r H R e c
theorem aC.boolop {op : BoolOp} {x y : PySem.Expr} {pos : Pos} {f g : X V} (hf : aC Γ d cx x f) (hg : aC Γ d cx y g) :
  aC Γ d cx (.BoolOp op [x, y] pos) (X.bind (X.bind f X.truth) fun b => if b == (op == .And) then g else X.pure (.bool b)) := fun A env μ ρ σ s v σ' Q E r H R e c => by
 obtain ⟨a, σ₁, e1, e⟩ := X.bind_some e
 obtain ⟨z, σ₂, e2, e1⟩ := X.bind_some e1
 obtain ⟨rfl, rfl⟩ := lB e1
 rw [arm_eval_BoolOp]
 show wpAny _ _ (boolOp pos op [eval x env, eval y env]) _ _ _
 refine wpAny_bind (hf A env μ ρ σ s _ _ _ E r H R e2 fun u aI s₁ H₁ S₁ cN => ?_)
 cases cN.uU
 refine wpAny_bind (wpAny_standAt (wpAny_bind (wpAny_holding (wpAny_truthy_bool ?_))))
 have go : g ρ σ₁ = some (v, σ') → wpAny Γ.M A (eval y env) Q E s₁ := fun e => hg A env aI ρ σ₁ s₁ v σ' _ E r H₁ (R.step H S₁) e fun u bA s₂ cM S₂ eQ => c u bA s₂ cM (S₁.then S₂) eQ
 cases op <;> cases a
 ·cases e; exact wpAny_pure (c _ aI s₁ H₁ S₁ (.bool _))
 ·exact go e
 ·exact go e
 ·cases e; exact wpAny_pure (c _ aI s₁ H₁ S₁ (.bool _))
theorem aC.ite {t a b : PySem.Expr} {pos : Pos} {f : X Bool} {g h : X V} (hf : bK Γ d cx t f) (hg : aC Γ d cx a g) (hh : aC Γ d cx b h) :
  aC Γ d cx (.IfExp t a b pos) (X.bind f fun c => if c then g else h) := fun A env μ ρ σ s v σ' Q E r H R e c => by
 obtain ⟨x, σ₁, e1, e⟩ := X.bind_some e
 refine wpAny_IfExp (hf A env μ ρ σ s x _ _ E r H R e1 fun aI s₁ H₁ S₁ => ?_)
 cases x with
 | true => exact hg A env aI ρ σ₁ s₁ v σ' _ E r H₁ (R.step H S₁) e fun u bA s₂ cM S₂ eQ => c u bA s₂ cM (S₁.then S₂) eQ
 | false => exact hh A env aI ρ σ₁ s₁ v σ' _ E r H₁ (R.step H S₁) e fun u bA s₂ cM S₂ eQ => c u bA s₂ cM (S₁.then S₂) eQ
end
structure mT (Γ : gK) : Prop where
 strOk : ∀ k, PyData.strOk (Γ.nm k) = true
 sys : ∃ o, Γ.h₀.get? sysModules = some o
mutual
noncomputable def yG : V → V → Bool
 | .none, .none => true
 | .int a, .int b => a == b
 | .str a, .str b => a == b
 | .tup a, .tup b => pC a b
 | _, _ => false
noncomputable def pC : List V → List V → Bool
 | [], [] => true
 | x :: xs, y :: ys => yG x y && pC xs ys
 | _, _ => false
end
noncomputable def okV : Nat → V → Bool
 | _, .none => true
 | _, .int _ => true
 | _, .str _ => true
 | n + 1, .tup l => l.all (okV n)
 | _, _ => false
mutual
noncomputable def pO (nm : Nat → Str) : V → PyData
 | .int i => .int i
 | .str k => .str (nm k)
 | .bool b => .bool b
 | .tup l => .tuple (mJ nm l)
 | _ => .none
noncomputable def mJ (nm : Nat → Str) : List V → List PyData
 | [] => []
 | x :: xs => pO nm x :: mJ nm xs
end
section
variable {Γ : gK} {μ : Nat → Addr} {n : Nat} {h : Heap}
theorem mL {k : Nat} {v : V} (o : okV k v = true) : v = .none ∨ (∃ i, v = .int i) ∨ (∃ i, v = .str i) ∨ ∃ j l, k = j + 1 ∧ v = .tup l ∧ l.all (okV j) = true := by
 cases v with
 | none => exact .inl rfl
 | int i => exact .inr (.inl ⟨i, rfl⟩)
 | str i => exact .inr (.inr (.inl ⟨i, rfl⟩))
 | tup l => cases k with
  | zero => cases o
  | succ j => exact .inr (.inr (.inr ⟨j, l, rfl, rfl, o⟩))
 | _ => cases k <;> cases o
theorem zG {k : Nat} (ih : ∀ (v : V) (u : Value), okV k v = true → VR Γ μ n h v u → ∃ as, Reads h u (pO Γ.nm v) as) (l : List V) : ∀ us : List Value, l.all (okV k) = true → VRs Γ μ n h l us → ∃ as, ReadsAll h us (mJ Γ.nm l) as := by
 induction l with
 | nil => intro us _ y; cases y.EQ; exact ⟨_, .nil⟩
 | cons v l ihl =>
  intro us o y
  obtain ⟨o1, o2⟩ := Bool.and_eq_true_iff.mp o
  obtain ⟨u, us', rfl, a, b⟩ := y.wX
  obtain ⟨as, r⟩ := ih v _ o1 a
  obtain ⟨bs, rs⟩ := ihl _ o2 b
  exact ⟨_, .cons r rs⟩
theorem zH (k : Nat) : ∀ (v : V) (u : Value), okV k v = true → VR Γ μ n h v u → ∃ as, Reads h u (pO Γ.nm v) as := by
 induction k with
 | zero =>
  intro v u o x
  rcases mL o with rfl | ⟨i, rfl⟩ | ⟨i, rfl⟩ | ⟨j, l, e, _⟩
  ·cases x.FB; exact ⟨_, .none⟩
  ·obtain ⟨_, rfl⟩ := x.f0; exact ⟨_, .int _ _⟩
  ·obtain ⟨_, rfl⟩ := x.Hj; exact ⟨_, .str _ _⟩
  ·cases e
 | succ k ih =>
  intro v u o x
  rcases mL o with rfl | ⟨i, rfl⟩ | ⟨i, rfl⟩ | ⟨j, l, e, rfl, o⟩
  ·cases x.FB; exact ⟨_, .none⟩
  ·obtain ⟨_, rfl⟩ := x.f0; exact ⟨_, .int _ _⟩
  ·obtain ⟨_, rfl⟩ := x.Hj; exact ⟨_, .str _ _⟩
  ·cases e
   obtain ⟨_, _, _, rfl, ht, hs⟩ := x.tupI
   obtain ⟨as, r⟩ := zG ih l _ o hs
   exact ⟨_, .tuple ht rfl rfl r⟩
theorem Bw (k : Nat) (l : List V) (us : List Value) : l.all (okV k) = true → VRs Γ μ n h l us → ∃ as, ReadsAll h us (mJ Γ.nm l) as := zG (zH k) l us
theorem DC {k : Nat} (ih : ∀ v : V, okV k v = true → (pO Γ.nm v).canLay0 = true ∧ (pO Γ.nm v).depth ≤ k) (l : List V) : l.all (okV k) = true → PyData.canLayAll0 (mJ Γ.nm l) = true ∧ PyData.depthAll (mJ Γ.nm l) ≤ k := by
 induction l with
 | nil => intro _; exact ⟨rfl, Nat.zero_le _⟩
 | cons v l ihl =>
  intro o
  obtain ⟨o1, o2⟩ := Bool.and_eq_true_iff.mp o
  obtain ⟨a1, a2⟩ := ih v o1
  obtain ⟨b1, b2⟩ := ihl o2
  exact ⟨Bool.and_eq_true_iff.mpr ⟨a1, b1⟩, Nat.max_le.mpr ⟨a2, b2⟩⟩
theorem lay_of (G : mT Γ) (k : Nat) : ∀ v : V, okV k v = true → (pO Γ.nm v).canLay0 = true ∧ (pO Γ.nm v).depth ≤ k := by
 induction k with
 | zero =>
  intro v o
  rcases mL o with rfl | ⟨i, rfl⟩ | ⟨i, rfl⟩ | ⟨j, l, e, _⟩
  ·exact ⟨rfl, Nat.zero_le _⟩
  ·exact ⟨rfl, Nat.zero_le _⟩
  ·exact ⟨G.strOk _, Nat.zero_le _⟩
  ·cases e
 | succ k ih =>
  intro v o
  rcases mL o with rfl | ⟨i, rfl⟩ | ⟨i, rfl⟩ | ⟨j, l, e, rfl, o⟩
  ·exact ⟨rfl, Nat.zero_le _⟩
  ·exact ⟨rfl, Nat.zero_le _⟩
  ·exact ⟨G.strOk _, Nat.zero_le _⟩
  ·cases e
   obtain ⟨a, b⟩ := DC ih l o
   exact ⟨a, Nat.succ_le_succ b⟩
theorem FT (G : mT Γ) (k : Nat) (l : List V) : l.all (okV k) = true → PyData.canLayAll0 (mJ Γ.nm l) = true ∧ PyData.depthAll (mJ Γ.nm l) ≤ k := DC (lay_of G k) l
theorem IF {k : Nat} (ih : ∀ a b : V, okV k a = true → okV k b = true → PyData.eqv (pO Γ.nm a) (pO Γ.nm b) = yG a b) (l : List V) : ∀ m : List V, l.all (okV k) = true → m.all (okV k) = true → PyData.eqvAll (mJ Γ.nm l) (mJ Γ.nm m) = pC l m := by
 induction l with
 | nil => intro m _ _; cases m <;> rfl
 | cons x l ihl =>
  intro m o1 o2
  cases m with
  | nil => rfl
  | cons y m =>
   obtain ⟨p1, p2⟩ := Bool.and_eq_true_iff.mp o1
   obtain ⟨q1, q2⟩ := Bool.and_eq_true_iff.mp o2
   show (PyData.eqv _ _ && PyData.eqvAll _ _) = (yG x y && pC l m)
   rw [ih x y p1 q1, ihl m p2 q2]
theorem IG (k : Nat) : ∀ (a b : V), okV k a = true → okV k b = true → PyData.eqv (pO Γ.nm a) (pO Γ.nm b) = yG a b := by
 have str : ∀ x y : Nat, (Γ.nm x == Γ.nm y) = (x == y) := fun x y => by
  by_cases e : x = y
  ·rw [e, beq_self_eq_true, beq_self_eq_true]
  ·rw [beq_eq_false_iff_ne.mpr fun q => e (Γ.Dx _ _ q), beq_eq_false_iff_ne.mpr e]
 induction k with
 | zero =>
  intro a b oa ob
  rcases mL oa with rfl | ⟨i, rfl⟩ | ⟨i, rfl⟩ | ⟨_, _, e, _⟩
  all_goals first | (cases e; done) | rcases mL ob with rfl | ⟨j, rfl⟩ | ⟨j, rfl⟩ | ⟨_, _, e, _⟩
  all_goals first | rfl | exact str _ _ | cases e
 | succ k ih =>
  intro a b oa ob
  rcases mL oa with rfl | ⟨i, rfl⟩ | ⟨i, rfl⟩ | ⟨j, l, e, rfl, oa⟩
  all_goals rcases mL ob with rfl | ⟨j, rfl⟩ | ⟨j, rfl⟩ | ⟨j, m, e', rfl, ob⟩
  all_goals first | rfl | exact str _ _ | (cases e; cases e'; exact IF ih _ _ oa ob)
end
section
variable {Γ : gK} {d : Nat}
noncomputable def getL (σ : St) (i : Nat) : Option (List V) := (σ[i]?).bind fun o => match o with
 | .list l => some l
 | _ => none
noncomputable def eF (σ : St) (i : Nat) : Option (List (Int × V)) := (σ[i]?).bind fun o => match o with
 | .cA l => some l
 | _ => none
noncomputable def bT (σ : St) (i : Nat) : Option (List (Nat × V)) := (σ[i]?).bind fun o => match o with
 | .aV l => some l
 | _ => none
theorem jT {σ : St} {i : Nat} {l : List V} (e : getL σ i = some l) : σ[i]? = some (.list l) := by
 obtain ⟨o, h, e⟩ := Option.bind_eq_some_iff.mp e
 cases o with
 | list _ => cases e; exact h
 | _ => exact nS e
theorem k7 {σ : St} {i : Nat} {l : List (Int × V)} (e : eF σ i = some l) : σ[i]? = some (.cA l) := by
 obtain ⟨o, h, e⟩ := Option.bind_eq_some_iff.mp e
 cases o with
 | cA _ => cases e; exact h
 | _ => exact nS e
theorem yB {σ : St} {i : Nat} {l : List (Nat × V)} (e : bT σ i = some l) : σ[i]? = some (.aV l) := by
 obtain ⟨o, h, e⟩ := Option.bind_eq_some_iff.mp e
 cases o with
 | aV _ => cases e; exact h
 | _ => exact nS e
theorem yC {σ : St} {i : Nat} {l : List V} (e : σ[i]? = some (.list l)) : getL σ i = some l := by unfold getL; rw [e]; rfl
theorem yE {σ : St} {i : Nat} {l : List (Int × V)} (e : σ[i]? = some (.cA l)) : eF σ i = some l := by unfold eF; rw [e]; rfl
theorem getS_of {σ : St} {i : Nat} {l : List (Nat × V)} (e : σ[i]? = some (.aV l)) : bT σ i = some l := by unfold bT; rw [e]; rfl
theorem aY.list {μ : Nat → Addr} {σ : St} {h : Heap} (H : aY Γ μ σ h) {i : Nat} {l : List V} (e : getL σ i = some l) : i < σ.length ∧ ∃ items k, IsL h (μ i) items k ∧ VRs Γ μ σ.length h l items.toList :=
 have e := jT e
 ⟨(List.getElem?_eq_some_iff.mp e).1, H.objs i _ e⟩
theorem aY.cA {μ : Nat → Addr} {σ : St} {h : Heap} (H : aY Γ μ σ h) {i : Nat} {l : List (Int × V)} (e : eF σ i = some l) : i < σ.length ∧ ∃ kvs, h.DictOf (intKind Γ.prog Γ.w) (μ i) kvs ∧ G7 Γ μ σ.length h l kvs :=
 have e := k7 e
 ⟨(List.getElem?_eq_some_iff.mp e).1, H.objs i _ e⟩
theorem aY.aV {μ : Nat → Addr} {σ : St} {h : Heap} (H : aY Γ μ σ h) {i : Nat} {l : List (Nat × V)} (e : bT σ i = some l) : i < σ.length ∧ ∃ kvs, h.DictOf (PySem.strKind Γ.prog Γ.w) (μ i) kvs ∧ SDR Γ μ σ.length h l kvs :=
 have e := yB e
 ⟨(List.getElem?_eq_some_iff.mp e).1, H.objs i _ e⟩
theorem aY.Cs {μ : Nat → Addr} {σ : St} {h : Heap} (G : mT Γ) (H : aY Γ μ σ h) {i : Nat} (hi : i < σ.length) : (μ i == sysModules) = false := by
 rw [beq_eq_false_iff_ne]
 intro e
 obtain ⟨o, ho⟩ := G.sys
 have := H.lo i hi
 rw [e, ho] at this; cases this
theorem k8 {μ : Nat → Addr} {σ : St} {s : Shared} {l : List V} {items : Array Value} {Q : Value → Shared → Prop} (H : aY Γ μ σ s.heap) (hl : VRs Γ μ σ.length s.heap l items.toList)
  (c : Cont Γ μ σ s (.obj σ.length) (σ ++ [.list l]) Q) (t : Nat) : Q (.ref s.heap.objs.size) { s with heap := s.heap.push { cls := .type "list", data := .seq items }, toks := t } := by
 have len : (σ ++ [O.list l]).length = σ.length + 1 := by simp
 have e0 : Value.ref s.heap.objs.size = .ref (eV μ σ.length s.heap.objs.size σ.length) := by rw [c6]
 have T : Step (Own μ σ.length) μ σ.length s (eV μ σ.length s.heap.objs.size) (σ.length + 1) { s with heap := s.heap.push { cls := .type "list", data := .seq items } } := .alloc _ rfl
 have T' : Step (Own μ σ.length) μ σ.length s (eV μ σ.length s.heap.objs.size) (σ.length + 1) { s with heap := s.heap.push { cls := .type "list", data := .seq items }, toks := t } := T.trans (zL := fun _ => False) (.toks _) (fun _ x => x.elim)
 rw [e0]
 refine c _ _ _ (H.alloc _ _ ⟨items, 0, IsL.new _ _, ?_⟩) (by rw [len]; exact T') (.obj (by rw [len]; lia))
 exact hl.mono (.push _ _) (fun i hi => bZ hi) (Nat.le_succ _)
theorem wW {μ : Nat → Addr} {σ : St} {s : Shared} {l : List V} {items : Array Value} {Q : Value → Shared → Prop} (H : aY Γ μ σ s.heap) (hl : VRs Γ μ σ.length s.heap l items.toList)
  (c : Cont Γ μ σ s (.tup l) σ Q) (t : Nat) : Q (.ref s.heap.objs.size) { s with heap := s.heap.push { cls := .type "tuple", data := .seq items }, toks := t } := by
 have T : Step (Own μ σ.length) μ σ.length s μ σ.length { s with heap := s.heap.push { cls := .type "tuple", data := .seq items } } := .push _
 have T' : Step (Own μ σ.length) μ σ.length s μ σ.length { s with heap := s.heap.push { cls := .type "tuple", data := .seq items }, toks := t } := T.trans (zL := fun _ => False) (.toks _) (fun _ x => x.elim)
 exact c _ μ _ (H.push _) T' (.tup (IsT.new _ _) (hl.mono (.push _ _) (fun _ _ => rfl) (Nat.le_refl _)))
noncomputable def eJ (a b : V) (σ : St) : Option (V × St) := match a, b with
 | .int a, .int b => some (.int (a + b), σ)
 | .tup a, .tup b => if a.length + b.length ≤ 1000 then some (.tup (a ++ b), σ) else none
 | .obj i, .obj j => (getL σ i).bind fun a => (getL σ j).bind fun b => if a.length + b.length ≤ 1000 then some (.obj σ.length, σ ++ [.list (a ++ b)]) else none
 | _, _ => none
noncomputable def rL (a b : V) (σ : St) : Option (V × St) := match a, b with
 | .int a, .int b => some (.int (a - b), σ)
 | _, _ => none
noncomputable def pJ (a : Int) : Bool := decide (-(2 ^ 64) < a) && decide (a < 2 ^ 64)
noncomputable def xK (a b : V) (σ : St) : Option (V × St) := match a, b with
 | .int a, .int b => if pJ a && pJ b then some (.int (a * b), σ) else none
 | .obj i, .int n => (getL σ i).bind fun l => match l with
  | [x] => if 0 ≤ n ∧ n ≤ 1000 then some (.obj σ.length, σ ++ [.list (List.replicate n.toNat x)]) else none
  | _ => none
 | _, _ => none
noncomputable def cH (a b : V) (σ : St) : Option (V × St) := match a, b with
 | .int a, .int b => if b = 0 ∨ ¬ b.natAbs < 1073741824 then none else some (.int (a.fdiv b), σ)
 | _, _ => none
noncomputable def oMod (a b : V) (σ : St) : Option (V × St) := match a, b with
 | .int a, .int b => if b = 0 then none else some (.int (a.fmod b), σ)
 | _, _ => none
noncomputable def iT (a b : V) (σ : St) : Option (V × St) := match a, b with
 | .int a, .int n => if pJ a && decide (0 ≤ n) && decide (n ≤ 1000) then some (.int (a ^ n.toNat), σ) else none
 | _, _ => none
noncomputable def JN (a b : V) (σ : St) : Option (V × St) := match a, b with
 | .int a, .int b => some (.int (Builtin.bitAnd a b), σ)
 | _, _ => none
noncomputable def Oc (a b : V) (σ : St) : Option (V × St) := match a, b with
 | .int a, .int b => some (.int (Builtin.bitOr a b), σ)
 | _, _ => none
theorem bY.add : bY Γ d (binaryOp .Add) eJ := fun A μ σ s a b v ua ub σ' Q E r H xa xb e c => by
 cases a with
 | int x => cases b with
   | int y => cases e; obtain ⟨_, rfl⟩ := xa.f0; obtain ⟨_, rfl⟩ := xb.f0; exact PyProof.Rows.add_int (c _ μ _ H (.toks _) (.int _ _))
   | _ => exact nS e
 | tup la => cases b with
  | tup lb =>
   obtain ⟨hl, e⟩ := cJ e
   cases e
   obtain ⟨ta, ia, ka, rfl, ha, hsa⟩ := xa.tupI
   obtain ⟨tb, ib, kb, rfl, hb, hsb⟩ := xb.tupI
   have l1 := hsa.length; have l2 := hsb.length
   simp only [Array.length_toList] at l1 l2
   have sz : ia.size + ib.size ≤ sizeLine := by rw [sizeLine_eq]; lia
   have dd := hsa.append hsb
   by_cases h1 : ia.isEmpty = true
   ·have : la = [] := by have := Array.isEmpty_iff.mp h1; subst this; exact List.eq_nil_of_length_eq_zero (by simpa using l1)
    subst this
    exact concat_meets ⟨_, ha, rfl⟩ ⟨_, hb, rfl⟩ noFill_tuple_add seq_tuple_add PySem.F.slot_tuple_add PySem.F.entry_tuple_add (PySem.F.args_tuple_add_2 _ _) (tuple_addW0 _ _ ia ib _ _ none none #[] #[] h1)
     ⟨ha, hb, by simpa using c _ μ _ H .refl (.tup hb hsb)⟩
   ·by_cases h2 : ib.isEmpty = true
    ·have : lb = [] := by have := Array.isEmpty_iff.mp h2; subst this; exact List.eq_nil_of_length_eq_zero (by simpa using l2)
     subst this
     exact concat_meets ⟨_, ha, rfl⟩ ⟨_, hb, rfl⟩ noFill_tuple_add seq_tuple_add PySem.F.slot_tuple_add PySem.F.entry_tuple_add (PySem.F.args_tuple_add_2 _ _) (tuple_addW1 _ _ ia ib _ _ none none #[] #[] h1 h2)
      ⟨ha, hb, by simpa using c _ μ _ H .refl (.tup ha (by simpa using hsa))⟩
    ·refine P.add_tuple ha hb h1 h2 ?_ sz
     exact wW H (by simpa using dd) c s.toks
  | _ => exact nS e
 | obj i => cases b with
  | obj j =>
   obtain ⟨la, e1, e⟩ := Option.bind_eq_some_iff.mp e
   obtain ⟨lb, e2, e⟩ := Option.bind_eq_some_iff.mp e
   obtain ⟨hl, e⟩ := cJ e
   cases e
   cases xa.j5.1; cases xb.j5.1
   obtain ⟨_, ia, ka, ha, hsa⟩ := H.list e1
   obtain ⟨_, ib, kb, hb, hsb⟩ := H.list e2
   have l1 := hsa.length; have l2 := hsb.length
   simp only [Array.length_toList] at l1 l2
   refine P.add_list ha hb ?_ (by rw [sizeLine_eq]; lia)
   exact k8 H (by simpa using hsa.append hsb) c s.toks
  | _ => exact nS e
 | _ => exact nS e
theorem KK {α : Type} {f : Int → Option α} {a : V} {r : α} (e : (match a with | .int a => f a | _ => none) = some r) : ∃ x, a = .int x ∧ f x = some r := by
 cases a with
 | int x => exact ⟨x, rfl, e⟩
 | _ => exact nS e
theorem m3 {α : Type} {f : Int → Int → Option α} {a b : V} {r : α} (e : (match a, b with | .int a, .int b => f a b | _, _ => none) = some r) : E2 fun x y => A3 (a = .int x) (b = .int y) (f x y = some r) := by
 cases a with
 | int x => cases b with
  | int y => exact ⟨x, y, rfl, rfl, e⟩
  | _ => exact nS e
 | _ => exact nS e
theorem bY.sub : bY Γ d (binaryOp .Sub) rL := fun A μ σ s a b v ua ub σ' Q E r H xa xb e c => by
 obtain ⟨x, y, rfl, rfl, e⟩ := m3 e
 cases e
 obtain ⟨_, rfl⟩ := xa.f0; obtain ⟨_, rfl⟩ := xb.f0; exact PySem.P.sub_int (c _ μ _ H (.toks _) (.int _ _))
theorem wE {a : Int} (h : pJ a = true) : Builtin.Int.intBits a ≤ 64 := by
 simp only [pJ, Bool.and_eq_true, decide_eq_true_eq] at h
 exact intBits_le_64 h.1 h.2
theorem bY.floordiv : bY Γ d (binaryOp .FloorDiv) cH := fun A μ σ s a b v ua ub σ' Q E r H xa xb e c => by
 obtain ⟨x, y, rfl, rfl, e2⟩ := m3 e
 obtain ⟨hb, e2⟩ := if_not e2
 cases e2
 rw [not_or, Classical.not_not] at hb
 obtain ⟨_, rfl⟩ := xa.f0; obtain ⟨_, rfl⟩ := xb.f0; exact PyProof.Rows.floordiv_int hb.1 (c _ μ _ H (.toks _) (.int _ _)) (.inl (PyProof.noPylong_small hb.2))
theorem bY.mod : bY Γ d (binaryOp .Mod) oMod := fun A μ σ s a b v ua ub σ' Q E r H xa xb e c => by
 obtain ⟨x, y, rfl, rfl, e2⟩ := m3 e
 obtain ⟨hb, e2⟩ := if_not e2
 cases e2
 obtain ⟨_, rfl⟩ := xa.f0; obtain ⟨_, rfl⟩ := xb.f0; exact PyProof.Rows.mod_int' (by assumption) (c _ μ _ H (.toks _) (.int _ _))
theorem bY.pow : bY Γ d (binaryOp .Pow) iT := fun A μ σ s a b v ua ub σ' Q E r H xa xb e c => by
 obtain ⟨a, n, rfl, rfl, e2⟩ := m3 e
 obtain ⟨h, e2⟩ := cJ e2
 cases e2
 simp only [Bool.and_eq_true, decide_eq_true_eq] at h
 obtain ⟨_, rfl⟩ := xa.f0; obtain ⟨_, rfl⟩ := xb.f0
 refine PyProof.Rows.pow_int h.1.2 ?_ (c _ μ _ H (.toks _) (.int _ _))
 have b1 : (Builtin.Int.intBits a : Int) ≤ 64 := by exact_mod_cast wE h.1.1
 have b2 : (Builtin.Int.intBits a : Int) * n ≤ 64 * 1000 := Int.mul_le_mul b1 h.2 h.1.2 (by lia)
 lia
theorem bY.and : bY Γ d (binaryOp .BitAnd) JN := fun A μ σ s a b v ua ub σ' Q E r H xa xb e c => by
 obtain ⟨x, y, rfl, rfl, e⟩ := m3 e
 cases e
 obtain ⟨_, rfl⟩ := xa.f0; obtain ⟨_, rfl⟩ := xb.f0; exact PyProof.Rows.and_int (c _ μ _ H (.toks _) (.int _ _))
theorem bY.or : bY Γ d (binaryOp .BitOr) Oc := fun A μ σ s a b v ua ub σ' Q E r H xa xb e c => by
 obtain ⟨x, y, rfl, rfl, e⟩ := m3 e
 cases e
 obtain ⟨_, rfl⟩ := xa.f0; obtain ⟨_, rfl⟩ := xb.f0; exact PyProof.Rows.or_int (c _ μ _ H (.toks _) (.int _ _))
end
section
variable {K : Type} [DecidableEq K]
noncomputable def fJ (l : List (K × V)) (k : K) : Option V := (l.find? fun p => decide (p.1 = k)).map (·.2)
noncomputable def eU (l : List (K × V)) (k : K) (v : V) : List (K × V) := if l.any (fun p => decide (p.1 = k)) then l.map (fun p => if p.1 = k then (p.1, v) else p) else l ++ [(k, v)]
variable {K' : Type} [DecidableEq K'] {Γ : gK} {μ : Nat → Addr} {n : Nat} {h : Heap} {f : K → K'}
theorem IQ (hf : ∀ a b, f a = f b → a = b) : ∀ {l : List (K × V)} {kvs : List (K' × Value)}, kvs.map (·.1) = l.map (fun p => f p.1) → VRs Γ μ n h (l.map (·.2)) (kvs.map (·.2)) → ∀ k,
  (∀ v, fJ l k = some v → ∃ u, valueAt kvs (f k) = some u ∧ VR Γ μ n h v u) ∧ (fJ l k = none → valueAt kvs (f k) = none) := by
 intro l
 induction l with
 | nil => intro kvs e _ k; cases List.map_eq_nil_iff.mp e; exact ⟨fun v e => nS e, fun _ => rfl⟩
 | cons p l ih =>
  intro kvs e x k
  cases kvs with
  | nil => cases e
  | cons q kvs =>
   obtain ⟨(e1 : q.1 = f p.1), e2⟩ := List.cons.inj e
   obtain ⟨a, b⟩ := VRs.both x
   have ih := ih e2 b k
   unfold fJ valueAt at ih ⊢
   simp only [List.find?_cons]
   by_cases hk : p.1 = k
   ·subst hk
    simp only [decide_true, e1]
    exact ⟨fun v e' => ⟨_, rfl, by cases e'; exact a⟩, fun e' => by cases e'⟩
   ·have : ¬ q.1 = f k := fun z => hk (hf _ _ (e1 ▸ z))
    simp only [decide_eq_false hk, decide_eq_false this]
    exact ih
theorem L7 (hf : ∀ a b, f a = f b → a = b) : ∀ {l : List (K × V)} {kvs : List (K' × Value)}, kvs.map (·.1) = l.map (fun p => f p.1) → ∀ k, (kvs.any fun kv => decide (kv.1 = f k)) = l.any (fun p => decide (p.1 = k)) := by
 intro l
 induction l with
 | nil => intro kvs e k; cases List.map_eq_nil_iff.mp e; rfl
 | cons p l ih =>
  intro kvs e k
  cases kvs with
  | nil => cases e
  | cons q kvs =>
   obtain ⟨(e1 : q.1 = f p.1), e2⟩ := List.cons.inj e
   rw [List.any_cons, List.any_cons, ih e2 k, e1]
   by_cases hk : p.1 = k
   ·simp [hk]
   ·have : ¬ f p.1 = f k := fun z => hk (hf _ _ z)
    simp [hk, this]
theorem L0 (hf : ∀ a b, f a = f b → a = b) {v : V} {u : Value} (y : VR Γ μ n h v u) (k : K) : ∀ {l : List (K × V)} {kvs : List (K' × Value)}, kvs.map (·.1) = l.map (fun p => f p.1) → VRs Γ μ n h (l.map (·.2)) (kvs.map (·.2)) →
  (kvs.map fun kv => if kv.1 = f k then (kv.1, u) else kv).map (·.1) = (l.map fun p => if p.1 = k then (p.1, v) else p).map (fun p => f p.1) ∧
   VRs Γ μ n h ((l.map fun p => if p.1 = k then (p.1, v) else p).map (·.2)) ((kvs.map fun kv => if kv.1 = f k then (kv.1, u) else kv).map (·.2)) := by
 intro l
 induction l with
 | nil => intro kvs e x; cases List.map_eq_nil_iff.mp e; exact ⟨rfl, .nil⟩
 | cons p l ih =>
  intro kvs e x
  cases kvs with
  | nil => cases e
  | cons q kvs =>
   obtain ⟨(e1 : q.1 = f p.1), e2⟩ := List.cons.inj e
   obtain ⟨a, b⟩ := VRs.both x
   obtain ⟨i1, i2⟩ := ih e2 b
   simp only [List.map_cons]
   by_cases hk : p.1 = k
   ·have h2 : q.1 = f k := by rw [e1, hk]
    rw [if_pos hk, if_pos h2]
    exact ⟨List.cons_eq_cons.mpr ⟨e1, i1⟩, .cons y i2⟩
   ·have h2 : ¬ q.1 = f k := fun z => hk (hf _ _ (e1 ▸ z))
    rw [if_neg hk, if_neg h2]
    exact ⟨List.cons_eq_cons.mpr ⟨e1, i1⟩, .cons a i2⟩
theorem IP (hf : ∀ a b, f a = f b → a = b) {l : List (K × V)} {kvs : List (K' × Value)} (e : kvs.map (·.1) = l.map (fun p => f p.1)) (x : VRs Γ μ n h (l.map (·.2)) (kvs.map (·.2))) {v : V} {u : Value} (y : VR Γ μ n h v u) (k : K) :
  (stored kvs (f k) u).map (·.1) = (eU l k v).map (fun p => f p.1) ∧ VRs Γ μ n h ((eU l k v).map (·.2)) ((stored kvs (f k) u).map (·.2)) := by
 unfold stored eU
 rw [L7 hf e k]
 split
 ·exact L0 hf y k e x
 ·simp only [List.map_append, List.map_cons, List.map_nil, e]
  exact ⟨trivial, x.append (.cons y .nil)⟩
end
section
variable {Γ : gK} {d : Nat} {μ : Nat → Addr} {n : Nat} {h : Heap}
theorem G7.get {l : List (Int × V)} {kvs : List (Int × Value)} (x : G7 Γ μ n h l kvs) (k : Int) : (∀ v, fJ l k = some v → ∃ u, valueAt kvs k = some u ∧ VR Γ μ n h v u) ∧ (fJ l k = none → valueAt kvs k = none) :=
 IQ (f := fun k => k) (fun _ _ e => e) x.1 x.2 k
theorem G7.set {l : List (Int × V)} {kvs : List (Int × Value)} (x : G7 Γ μ n h l kvs) (k : Int) {v : V} {u : Value} (y : VR Γ μ n h v u) : G7 Γ μ n h (eU l k v) (stored kvs k u) :=
 IP (f := fun k => k) (fun _ _ e => e) x.1 x.2 y k
theorem SDR.get {l : List (Nat × V)} {kvs : List (Str × Value)} (x : SDR Γ μ n h l kvs) (k : Nat) : (∀ v, fJ l k = some v → ∃ u, valueAt kvs (Γ.nm k) = some u ∧ VR Γ μ n h v u) ∧ (fJ l k = none → valueAt kvs (Γ.nm k) = none) :=
 IQ (f := Γ.nm) Γ.Dx x.1 x.2 k
theorem SDR.set {l : List (Nat × V)} {kvs : List (Str × Value)} (x : SDR Γ μ n h l kvs) (k : Nat) {v : V} {u : Value} (y : VR Γ μ n h v u) : SDR Γ μ n h (eU l k v) (stored kvs (Γ.nm k) u) :=
 IP (f := Γ.nm) Γ.Dx x.1 x.2 y k
theorem G7.length {l : List (Int × V)} {kvs : List (Int × Value)} (x : G7 Γ μ n h l kvs) : kvs.length = l.length := by simpa using congrArg List.length x.1
theorem SDR.length {l : List (Nat × V)} {kvs : List (Str × Value)} (x : SDR Γ μ n h l kvs) : kvs.length = l.length := by simpa using congrArg List.length x.1
noncomputable def Ig (f : Int → Int → Bool) (a b : V) (σ : St) : Option (V × St) := match a, b with
 | .int a, .int b => some (.bool (f a b), σ)
 | _, _ => none
noncomputable abbrev oLt := Ig (fun a b => decide (a < b))
noncomputable abbrev oLe := Ig (fun a b => decide (a ≤ b))
noncomputable abbrev Kn := Ig (fun a b => decide (b < a))
noncomputable abbrev oGe := Ig (fun a b => decide (b ≤ a))
noncomputable def flat (σ : St) : V → Option (Bool × V)
 | .obj i => (getL σ i).map fun l => (true, .tup l)
 | v => some (false, v)
noncomputable def KW (a b : V) (σ : St) : Option Bool := match flat σ a, flat σ b with
 | some (p, x), some (q, y) => if okV 6 x && okV 6 y then some (p == q && yG x y) else none
 | _, _ => none
noncomputable def oEq (a b : V) (σ : St) : Option (V × St) := (KW a b σ).map fun r => (.bool r, σ)
noncomputable def oNe (a b : V) (σ : St) : Option (V × St) := (KW a b σ).map fun r => (.bool (!r), σ)
noncomputable def NU : V → Option Bool
 | .none => some true
 | .range .. => none
 | _ => some false
noncomputable def NQ (a b : V) (σ : St) : Option (V × St) := match b with
 | .none => (NU a).map fun c => (.bool c, σ)
 | .bool y => match a with
  | .bool x => some (.bool (x == y), σ)
  | _ => none
 | _ => none
noncomputable def i3 (a b : V) (σ : St) : Option (V × St) := (NQ a b σ).bind fun r => match r.1 with
 | .bool c => some (.bool (!c), σ)
 | _ => none
noncomputable def Mr (a b : V) (σ : St) : Option Bool := match b with
 | .obj i => (σ[i]?).bind fun o => match o with
  | .cA l => match a with
   | .int k => some (fJ l k).isSome
   | _ => none
  | .list l => if okV 6 a && l.all (okV 6) then some (l.any fun y => yG y a) else none
  | _ => none
 | _ => none
noncomputable def oIn (a b : V) (σ : St) : Option (V × St) := (Mr a b σ).map fun r => (.bool r, σ)
noncomputable def dH (a b : V) (σ : St) : Option (V × St) := (Mr a b σ).map fun r => (.bool (!r), σ)
theorem bY.JX {op : CmpOp} {f : Int → Int → Bool} (h : ∀ (A : Around) (s : Shared) (a b : Int) (t u : Tok) (Q : Value → Shared → Prop) (E : Value → Shared → Prop), Q (.bool (f a b)) s → wpAny Γ.M A (compareOp op (.int a t) (.int b u)) Q E s) : bY Γ d (compareOp op) (Ig f) := fun A μ σ s a b v ua ub σ' Q E r H xa xb e c => by
 obtain ⟨x, y, rfl, rfl, e2⟩ := m3 e
 cases e2
 obtain ⟨_, rfl⟩ := xa.f0
 obtain ⟨_, rfl⟩ := xb.f0
 exact h _ _ _ _ _ _ _ _ (c _ μ _ H .refl (.bool _))
theorem bY.lt : bY Γ d (compareOp .Lt) oLt := .JX fun _ _ _ _ _ _ _ _ h => PyProof.Rows.lt_int h
theorem bY.le : bY Γ d (compareOp .LtE) oLe := .JX fun _ _ _ _ _ _ _ _ h => PyProof.Rows.le_int h
theorem bY.gt : bY Γ d (compareOp .Gt) Kn := .JX fun _ _ _ _ _ _ _ _ h => PyProof.Rows.gt_int h
theorem bY.ge : bY Γ d (compareOp .GtE) oGe := .JX fun _ _ _ _ _ _ _ _ h => PyProof.Rows.ge_int h
theorem Iw {σ : St} {v x : V} {p : Bool} (e : flat σ v = some (p, x)) : (p = false ∧ x = v) ∨ E2 fun i l => A4 (v = .obj i) (getL σ i = some l) (p = true) (x = .tup l) := by
 cases v with
 | obj i =>
  obtain ⟨l, hl, e⟩ := Option.map_eq_some_iff.mp e
  cases e
  exact .inr ⟨i, l, rfl, hl, rfl, rfl⟩
 | _ => cases e; exact .inl ⟨rfl, rfl⟩
inductive Jg (nm : Nat → Str) (h : Heap) (u : Value) : Bool → V → Prop
 | plain {x : V} {as : List Addr} : Reads h u (pO nm x) as → SeqAt.shaped (pO nm x) = true → Jg nm h u false x
 | list {l : List V} {as : List Addr} : Reads h u (.list (mJ nm l)) as → SeqAt.shaped (.list (mJ nm l)) = true → Jg nm h u true (.tup l)
theorem sV (G : mT Γ) {σ : St} {s : Shared} (H : aY Γ μ σ s.heap) {v x : V} {p : Bool} {u : Value} (y : VR Γ μ σ.length s.heap v u) (e : flat σ v = some (p, x)) (o : okV 6 x = true) : Jg Γ.nm s.heap u p x := by
 rcases Iw e with ⟨rfl, rfl⟩ | ⟨i, l, rfl, hl, rfl, rfl⟩
 ·obtain ⟨as, r⟩ := zH 6 x u o y
  obtain ⟨l1, l2⟩ := lay_of G 6 x o
  exact .plain r (Bool.and_eq_true_iff.mpr ⟨l1, decide_eq_true (Nat.le_trans l2 (by decide))⟩)
 ·cases y.j5.1
  obtain ⟨_, items, k, hL, hs⟩ := H.list hl
  obtain ⟨as, r⟩ := Bw 5 l _ o hs
  obtain ⟨l1, l2⟩ := FT G 5 l o
  exact .list (.list hL rfl rfl r) (Bool.and_eq_true_iff.mpr ⟨l1, decide_eq_true (Nat.succ_le_succ (Nat.le_trans l2 (by decide)))⟩)
theorem LX {nm : Nat → Str} {x : V} {m : List PyData} : PyData.eqv (pO nm x) (.list m) = false := by cases x <;> rfl
theorem LY {nm : Nat → Str} {x : V} {m : List PyData} : PyData.eqv (.list m) (pO nm x) = false := by cases x <;> rfl
theorem BP (G : mT Γ) {σ : St} {s : Shared} (H : aY Γ μ σ s.heap) {a b : V} {r : Bool} {ua ub : Value} (xa : VR Γ μ σ.length s.heap a ua) (xb : VR Γ μ σ.length s.heap b ub) (e : KW a b σ = some r) :
  E4 fun da db as bs => A5 (Reads s.heap ua da as) (Reads s.heap ub db bs) (SeqAt.shaped da = true) (SeqAt.shaped db = true) (PyData.eqv da db = r) := by
 unfold KW at e
 cases e1 : flat σ a with
 | none => rw [e1] at e; exact nS e
 | some q =>
 obtain ⟨p, x⟩ := q
 cases e2 : flat σ b with
 | none => rw [e1, e2] at e; exact nS e
 | some q =>
 obtain ⟨q, y⟩ := q
 rw [e1, e2] at e
 obtain ⟨ok, e⟩ := cJ e
 cases e
 obtain ⟨o1, o2⟩ := Bool.and_eq_true_iff.mp ok
 have E := IG (Γ := Γ) 6 x y o1 o2
 cases sV G H xa e1 o1 with
 | plain r1 s1 => cases sV G H xb e2 o2 with
  | plain r2 s2 => exact ⟨_, _, _, _, r1, r2, s1, s2, E⟩
  | list r2 s2 => exact ⟨_, _, _, _, r1, r2, s1, s2, LX⟩
 | list r1 s1 => cases sV G H xb e2 o2 with
  | plain r2 s2 => exact ⟨_, _, _, _, r1, r2, s1, s2, LY⟩
  | list r2 s2 => exact ⟨_, _, _, _, r1, r2, s1, s2, E⟩
theorem fN.NZ {A : Around} (r : fN A d) : A.units + 64 < cLine := by
 have hu := r.units
 show A.units + 64 < 9900; lia
theorem bY.eq (G : mT Γ) : bY Γ d (compareOp .Eq) oEq := fun A μ σ s a b v ua ub σ' Q E r H xa xb e c => by
 obtain ⟨z, hz, e⟩ := Option.map_eq_some_iff.mp e
 cases e
 obtain ⟨da, db, as, bs, r1, r2, s1, s2, q⟩ := BP G H xa xb hz
 exact eq_dataH r1 r2 s1 s2 r.NZ (q ▸ c _ μ _ H .refl (.bool _))
theorem bY.ne (G : mT Γ) : bY Γ d (compareOp .NotEq) oNe := fun A μ σ s a b v ua ub σ' Q E r H xa xb e c => by
 obtain ⟨z, hz, e⟩ := Option.map_eq_some_iff.mp e
 cases e
 obtain ⟨da, db, as, bs, r1, r2, s1, s2, q⟩ := BP G H xa xb hz
 exact ne_dataH r1 r2 s1 s2 r.NZ (q ▸ c _ μ _ H .refl (.bool _))
theorem VR.NU {h : Heap} {a : V} {u : Value} {c : Bool} (x : VR Γ μ n h a u) (e : Mine.NU a = some c) : (u == .none) = c := by cases x <;> cases e <;> rfl
theorem Pn {σ : St} {h : Heap} {a b : V} {r : V × St} {ua ub : Value} (xa : VR Γ μ n h a ua) (xb : VR Γ μ n h b ub) (e : NQ a b σ = some r) :
   ∃ c, r = (.bool c, σ) ∧ ((ub = .none ∧ (ua == .none) = c) ∨ ∃ x y, ua = .bool x ∧ ub = .bool y ∧ (x == y) = c) := by
 cases b with
 | none =>
   obtain ⟨c, hc, e⟩ := Option.map_eq_some_iff.mp e
   cases e; exact ⟨_, rfl, .inl ⟨xb.FB, xa.NU hc⟩⟩
 | bool _ => cases a with
  | bool _ =>
   cases e
   exact ⟨_, rfl, .inr ⟨_, _, xa.uU, xb.uU, rfl⟩⟩
  | _ => exact nS e
 | _ => exact nS e
theorem bY.is : bY Γ d (compareOp .Is) NQ := fun A μ σ s a b v ua ub σ' Q E r H xa xb e c => by
 obtain ⟨z, hz, q⟩ := Pn xa xb e
 cases hz
 rcases q with ⟨rfl, q⟩ | ⟨x, y, rfl, rfl, q⟩
 ·exact PySem.is_none (q ▸ c _ μ _ H .refl (.bool _))
 ·exact is_bool (q ▸ c _ μ _ H .refl (.bool _))
theorem bY.BF : bY Γ d (compareOp .IsNot) i3 := fun A μ σ s a b v ua ub σ' Q E r H xa xb e c => by
 obtain ⟨z, hz, e⟩ := Option.bind_eq_some_iff.mp e
 obtain ⟨b', hb, q⟩ := Pn xa xb hz
 subst hb
 cases e
 rcases q with ⟨rfl, q⟩ | ⟨x, y, rfl, rfl, q⟩
 ·exact PySem.isNot_none (q ▸ c _ μ _ H .refl (.bool _))
 ·exact wpAny_isNot_plain (by rfl) (by
   have : (!(Value.bool x == Value.bool y)) = !b' := by rw [← q]; cases x <;> cases y <;> rfl
   rw [this]; exact c _ μ _ H .refl (.bool _))
theorem F9 (k : Nat) {a : V} (oa : okV k a = true) : ∀ {l : List V}, l.all (okV k) = true → ((mJ Γ.nm l).any fun y => PyData.eqv y (pO Γ.nm a)) = l.any fun y => yG y a
 | [], _ => rfl
 | x :: l, o => by
  simp only [List.all_cons, Bool.and_eq_true] at o
  show (PyData.eqv _ _ || List.any _ _) = (yG x a || l.any fun y => yG y a)
  rw [F9 k oa o.2, IG (Γ := Γ) k x a o.1 oa]
theorem JV {σ : St} {a b : V} {r : Bool} (e : Mr a b σ = some r) : ∃ i, b = .obj i ∧ ((E2 fun l k => A3 (eF σ i = some l) (a = .int k) ((fJ l k).isSome = r)) ∨ ∃ l, A4 (getL σ i = some l) (okV 6 a = true) (l.all (okV 6) = true) ((l.any fun y => yG y a) = r)) := by
 cases b with
 | obj i =>
  refine ⟨i, rfl, ?_⟩
  obtain ⟨o, hl, e⟩ := Option.bind_eq_some_iff.mp e
  cases o with
  | cA l => cases a with
   | int k => exact .inl ⟨l, _, yE hl, rfl, Option.some.inj e⟩
   | _ => exact nS e
  | list l =>
   obtain ⟨ok, e⟩ := cJ e
   obtain ⟨o1, o2⟩ := Bool.and_eq_true_iff.mp ok
   exact .inr ⟨l, yC hl, o1, o2, Option.some.inj e⟩
  | aV _ => exact nS e
 | _ => exact nS e
theorem Ad (G : mT Γ) {A : Around} {s : Shared} {σ : St} {a b : V} {ua ub : Value} {r : Bool} (rm : fN A d) (H : aY Γ μ σ s.heap) (xa : VR Γ μ σ.length s.heap a ua) (xb : VR Γ μ σ.length s.heap b ub) (e : Mr a b σ = some r) :
  (∀ (Q : Value → Shared → Prop) (E : Value → Shared → Prop), (∀ t, Q (.bool r) { s with toks := t }) → wpAny Γ.M A (compareOp .In ua ub) Q E s) ∧
  (∀ (Q : Value → Shared → Prop) (E : Value → Shared → Prop), (∀ t, Q (.bool (!r)) { s with toks := t }) → wpAny Γ.M A (compareOp .NotIn ua ub) Q E s) := by
 refine byC fun hG => ?_
 obtain ⟨i, rfl, ⟨l, k, hl, rfl, er⟩ | ⟨l, hl, o1, o2, er⟩⟩ := JV e
 ·obtain ⟨_, rfl⟩ := xa.f0
  cases xb.j5.1
  obtain ⟨hi, kvs, hd, hr⟩ := H.cA hl
  have key : (valueAt kvs k).isSome = r := by
   obtain ⟨h1, h2⟩ := hr.get k
   rw [← er]
   cases q : fJ l k with
   | none => rw [h2 q]; rfl
   | some v => obtain ⟨u, hu, _⟩ := h1 v q; rw [hu]; rfl
  exact hG ⟨fun Q E c => wpAny_in_of (intKind_is _ _ _ _) (H.Cs G hi) hd.mapOf (by rw [key]; exact c _), fun Q E c => wpAny_notIn_of (intKind_is _ _ _ _) (H.Cs G hi) hd.mapOf (by rw [key]; exact c _)⟩
 ·cases xb.j5.1
  obtain ⟨hi, items, k, hL, hs⟩ := H.list hl
  obtain ⟨as, r1⟩ := zH 6 a ua o1 xa
  obtain ⟨bs, r2⟩ := Bw 6 l _ o2 hs
  obtain ⟨l1, l2⟩ := lay_of G 6 a o1
  obtain ⟨m1, m2⟩ := FT G 6 l o2
  have room : A.units + 1 + min (PyData.depthAll (mJ Γ.nm l)) (pO Γ.nm a).depth < cLine := Nat.lt_of_le_of_lt (Nat.add_le_add_left (Nat.le_trans (Nat.min_le_left _ _) m2) _) (Nat.lt_of_le_of_lt (Nat.add_le_add_left (by decide : 7 ≤ 64) A.units) rm.NZ)
  have E := (F9 (Γ := Γ) 6 o1 o2).trans er
  exact hG ⟨fun Q E' c => SeqAt.in_list_reads (.list hL rfl rfl r2) r1 m1 l1 room (by rw [E]; exact c _), fun Q E' c => SeqAt.notIn_list_reads (.list hL rfl rfl r2) r1 m1 l1 room (by rw [E]; exact c _)⟩
theorem bY.PC (G : mT Γ) : bY Γ d (compareOp .In) oIn := fun A μ σ s a b v ua ub σ' Q E r H xa xb e c => by
 obtain ⟨z, hz, e⟩ := Option.map_eq_some_iff.mp e
 cases e
 exact (Ad G r H xa xb hz).1 Q E fun t => c _ μ _ H (.toks _) (.bool _)
theorem bY.pP (G : mT Γ) : bY Γ d (compareOp .NotIn) dH := fun A μ σ s a b v ua ub σ' Q E r H xa xb e c => by
 obtain ⟨z, hz, e⟩ := Option.map_eq_some_iff.mp e
 cases e
 exact (Ad G r H xa xb hz).2 Q E fun t => c _ μ _ H (.toks _) (.bool _)
end
section
variable {Γ : gK} {cx : Cx} {d : Nat}
noncomputable def pick (l : List V) (k : Int) : Option V :=
 if 0 ≤ k then (if k < 2 ^ 40 then l[k.toNat]? else none) else if -(l.length : Int) ≤ k ∧ -(2 ^ 40) ≤ k then l[(k + l.length).toNat]? else none
noncomputable def iU (a b : V) (σ : St) : Option (V × St) := match a, b with
 | .tup l, .int k => (pick l k).map fun v => (v, σ)
 | .obj i, .int k => (σ[i]?).bind fun o => match o with
  | .list l => (pick l k).map fun v => (v, σ)
  | .cA l => (fJ l k).map fun v => (v, σ)
  | _ => none
 | .obj i, .str k => (bT σ i).bind fun l => (fJ l k).map fun v => (v, σ)
 | _, _ => none
theorem Dk {μ : Nat → Addr} {n : Nat} {h : Heap} {l : List V} {items : Array Value} (hs : VRs Γ μ n h l items.toList) {k : Int} {v : V} (e : pick l k = some v) :
  -(2 ^ 63) ≤ k ∧ k < 2 ^ 63 ∧ ∃ j u, seqIndex? k items.size = some j ∧ items[j]? = some u ∧ VR Γ μ n h v u ∧
   ((0 ≤ k ∧ j = k.toNat) ∨ (k < 0 ∧ -(items.size : Int) ≤ k ∧ j = (k + items.size).toNat)) := by
 have hl := hs.length
 simp only [Array.length_toList] at hl
 unfold pick at e
 split at e
 ·rename_i h0
  split at e
  case isFalse => cases e
  rename_i h1
  obtain ⟨u, hu, hv⟩ := hs.get e
  rw [Array.getElem?_toList] at hu
  refine ⟨by lia, by lia, k.toNat, u, ?_, hu, hv, .inl ⟨h0, rfl⟩⟩
  have hlt : k.toNat < items.size := (Array.getElem?_eq_some_iff.mp hu).1
  unfold seqIndex?
  have : ¬ k < 0 := by lia
  simp only [this, if_false]
  rw [if_pos (by simp; lia)]
 ·rename_i h0
  split at e
  case isFalse => cases e
  rename_i h1
  obtain ⟨u, hu, hv⟩ := hs.get e
  rw [Array.getElem?_toList] at hu
  rw [hl] at hu h1
  refine ⟨by lia, by lia, _, u, seqIndex_neg (by lia) h1.1, hu, hv, .inr ⟨by lia, h1.1, rfl⟩⟩
theorem GS {A : Around} {μ : Nat → Addr} {σ : St} {s : Shared} {a b v : V} {ua ub : Value} {σ' : St} {Q : Value → Shared → Prop} {E : Value → Shared → Prop}
   (H : aY Γ μ σ s.heap) (xa : VR Γ μ σ.length s.heap a ua) (xb : VR Γ μ σ.length s.heap b ub) (e : iU a b σ = some (v, σ')) (c : Cont Γ μ σ s v σ' Q) :
   ∃ T id, s.TypeIs ua T ∧ typeLookup (.type T) "__getitem__" = pure (some (.builtin id)) ∧ wpAny Γ.M A (getItem ua ub) Q E s := by
 refine byC fun hG => ?_
 cases a with
 | tup l => cases b with
  | int k =>
   obtain ⟨w, hw, e⟩ := Option.map_eq_some_iff.mp e
   cases e
   obtain ⟨_, rfl⟩ := xb.f0
   obtain ⟨_, _, _, rfl, ht, hs⟩ := xa.tupI
   obtain ⟨h1, h2, j, u, e1, e2, hv, _⟩ := Dk hs hw
   exact hG ⟨_, _, ⟨_, ht, rfl⟩, PyProof.Rows.slot_tuple_getitem.lookup, P.getItem_tuple ht h1 h2 e1 e2 (c _ μ _ H .refl hv)⟩
  | _ => exact nS e
 | obj i => cases b with
  | int k =>
   obtain ⟨_, rfl⟩ := xb.f0
   cases xa.j5.1
   obtain ⟨o, hl, e⟩ := Option.bind_eq_some_iff.mp e
   cases o with
   | list l =>
    obtain ⟨w, hw, e⟩ := Option.map_eq_some_iff.mp e
    cases e
    obtain ⟨hi, items, kk, hL, hs⟩ := H.list (yC hl)
    obtain ⟨h1, h2, j, u, e1, e2, hv, q⟩ := Dk hs hw
    refine hG ⟨_, _, hL.isList.typeIs, slot_list_getitem.lookup, ?_⟩
    rcases q with ⟨q1, rfl⟩ | ⟨q1, q2, rfl⟩
    ·exact wpAny_getItem_list hL.isList q1 h2 e2 (c _ μ _ H .refl hv)
    ·exact wpAny_getItem_list_neg hL.isList q1 q2 h1 e2 (c _ μ _ H .refl hv)
   | cA l =>
    obtain ⟨w, hw, e⟩ := Option.map_eq_some_iff.mp e
    cases e
    obtain ⟨hi, kvs, hd, hr⟩ := H.cA (yE hl)
    obtain ⟨u, hu, hv⟩ := (hr.get k).1 _ hw
    exact hG ⟨_, _, hd.typeIs, slot_dict_getitem.lookup, wpAny_getItem_of (intKind_is _ _ _ _) hd.mapOf hu (c _ μ _ H (.toks _) hv)⟩
   | aV _ => exact nS e
  | str k =>
    obtain ⟨_, rfl⟩ := xb.Hj
    cases xa.j5.1
    obtain ⟨l, hl, e⟩ := Option.bind_eq_some_iff.mp e
    obtain ⟨w, hw, e⟩ := Option.map_eq_some_iff.mp e
    cases e
    obtain ⟨hi, kvs, hd, hr⟩ := H.aV hl
    obtain ⟨u, hu, hv⟩ := (hr.get k).1 _ hw
    exact hG ⟨_, _, hd.typeIs, slot_dict_getitem.lookup, wpAny_getItem_of (strKind_is _ _ _ _) hd.mapOf hu (c _ μ _ H (.toks _) hv)⟩
  | _ => exact nS e
 | _ => exact nS e
theorem aC.sub {a b : PySem.Expr} {pos : Pos} {f g : X V} (hf : aC Γ d cx a f) (hg : aC Γ d cx b g) (hs : ∀ o i, subscripted b false o i = operate [o, i] (getItem o i)) :
  aC Γ d cx (.Subscript a b pos) (X.bind f fun x => X.bind g fun y => X.lift (iU x y)) := fun A env μ ρ σ s v σ' Q E r H R e c => by
 obtain ⟨x, σ₁, e1, e⟩ := X.bind_some e
 obtain ⟨y, σ₂, e2, e⟩ := X.bind_some e
 refine Subscript_ (hf A env μ ρ σ s x σ₁ _ E r H R e1 fun ua aI s₁ H₁ S₁ cN => ?_)
 refine hg A env aI ρ σ₁ s₁ y σ₂ _ E r H₁ (R.step H S₁) e2 fun ub bA s₂ cM S₂ eQ => ?_
 obtain ⟨T, id, hT, hl, hgi⟩ := GS (A := A) (E := E) cM (S₂.vr H₁ cN) eQ e fun u fW s₃ f9 hZ V₃ => c u fW s₃ f9 ((S₁.then S₂).then hZ) V₃
 exact tail_any hT hl hgi (hs _ _)
noncomputable def sliceOf (l : List V) (lo hi : Option Int) : Option (List V) := match lo, hi with
 | none, some b => if 0 ≤ b then some (l.take b.toNat) else none
 | some a, none => if 0 ≤ a then some (l.drop a.toNat) else none
 | _, _ => none
noncomputable def gP (a : V) (lo hi : Option Int) (σ : St) : Option (V × St) := match a with
 | .obj i => (getL σ i).bind fun l => if l.length ≤ 1000 then (sliceOf l lo hi).map fun r => (.obj σ.length, σ ++ [.list r]) else none
 | .yX l => match lo, hi with
  | none, some b => if 0 ≤ b ∧ l.length ≤ 1000 then some (.obj σ.length, σ ++ [.list ((l.take b.toNat).map .int)]) else none
  | _, _ => none
 | .tup l => match lo, hi with
  | none, some b => if 0 ≤ b ∧ b < l.length ∧ l.length ≤ 1000 then some (.tup (l.take b.toNat), σ) else none
  | _, _ => none
 | _ => none
noncomputable def yJ (f : Option (X V)) : X (Option Int) := match f with
 | none => X.pure none
 | some f => X.bind f fun v => match v with
  | .int i => X.pure (some i)
  | _ => X.fail
inductive rF (Γ : gK) (d : Nat) (cx : Cx) : Option PySem.Expr → Option (X V) → Prop
 | nil : rF Γ d cx none none
 | one {e : PySem.Expr} {f : X V} : aC Γ d cx e f → rF Γ d cx (some e) (some f)
theorem rF.run {e : Option PySem.Expr} {f : Option (X V)} (h : rF Γ d cx e f) {A : Around} {env : Env} {μ : Nat → Addr} {ρ : Loc} {σ : St} {s : Shared} {v : Option Int} {σ' : St} {Q : Value → Shared → Prop} {E : Value → Shared → Prop}
  (r : fN A d) (H : aY Γ μ σ s.heap) (R : dK Γ cx env μ σ.length ρ s.heap) (x : yJ f ρ σ = some (v, σ'))
  (c : ∀ u dU s', aY Γ dU σ' s'.heap → Step (Own μ σ.length) μ σ.length s dU σ'.length s' → IsPart u v → Q u s') : wpAny Γ.M A (evalPart e env) Q E s := by
 cases h with
 | nil => cases x; rw [evalPart_none]; exact wpAny_pure (c _ μ _ H .refl .none)
 | one h =>
  obtain ⟨w, σ₁, e1, x⟩ := X.bind_some x
  rw [evalPart_some]
  refine h A env μ ρ σ s w σ₁ _ E r H R e1 fun u aI s₁ H₁ S₁ cN => ?_
  split at x
  ·cases x; obtain ⟨_, rfl⟩ := cN.f0; exact c _ aI s₁ H₁ S₁ (.int _ _)
  ·cases x
theorem JH {u : Value} {a : Int} (h : IsPart u (some a)) : ∃ t, u = .int a t := by cases h; exact ⟨_, rfl⟩
theorem JG {u : Value} (h : IsPart u none) : u = .none := by cases h; rfl
theorem Ei (b n : Nat) (hb : b ≤ n) : Builtin.Slice.sliceAdjust none (some (b : Int)) 1 (n : Int) = (0, (b : Int)) := by
 unfold Builtin.Slice.sliceAdjust
 have h1 : ¬ ((1 : Int) < 0) := by lia
 have h2 : ¬ ((b : Int) < 0) := by lia
 simp only [h1, h2, if_false]
 congr 1
 lia
theorem Di (b : Nat) : Builtin.Slice.slicePlaces 0 (b : Int) 1 = b := by
 unfold Builtin.Slice.slicePlaces
 have h1 : (1 : Int) > 0 := by lia
 simp only [h1, if_true, Int.ediv_one]
 split <;> lia
theorem tI {prog : Program} {w : World} {A : Around} {E : Value → Shared → Prop} {s : Shared} {sl : Addr} {b n : Nat} {u : Tok} {Q : Int × Int × Nat → Shared → Prop} (hs : s.heap.IsSliceOf sl .none (.int b u) .none) (hb : b ≤ n) (h : Q (0, 1, b) s) :
  wpAny (model prog w) A (Builtin.Slice.sliceApplied (.ref sl) (pure (n : Int))) Q E s := by
 obtain ⟨os, hos, hcs, hds⟩ := id hs
 unfold Builtin.Slice.sliceApplied Builtin.Slice.sliceFields
 refine wpAny_bind (wpAny_bind (wpAny_field hos hds (x := .none) rfl (wpAny_bind (wpAny_field hos hds (x := .int b u) rfl (wpAny_bind (wpAny_field hos hds (x := .none) rfl (wpAny_pure ?_)))))))
 refine wpAny_bind (slicePart_none ?_)
 show wpAny _ _ (if ((1 : Int) == 0) = true then _ else _) _ _ s
 rw [if_neg (by decide)]
 refine wpAny_bind (slicePart_none (wpAny_bind (slicePart_int (wpAny_bind (wpAny_pure ?_)))))
 show wpAny _ _ (match Builtin.Slice.sliceAdjust none (some (b : Int)) 1 (n : Int) with | (lo, hi) => pure (lo, (1 : Int), Builtin.Slice.slicePlaces lo hi 1)) _ _ s
 rw [Ei b n hb]
 show wpAny _ _ (pure ((0 : Int), (1 : Int), Builtin.Slice.slicePlaces 0 (b : Int) 1)) _ _ s
 rw [Di b]
 exact wpAny_pure h
theorem GE (xs : Array Value) (b : Nat) (hb : b ≤ xs.size) : ((List.range b).filterMap fun (k : Nat) => xs[((0 : Int) + (k : Int) * 1).toNat]?).toArray = (xs.toList.take b).toArray := by
 have e : (fun (k : Nat) => xs[((0 : Int) + (k : Int) * 1).toNat]?) = fun k => xs[0 + k]? := by
  funext k
  have : ((0 : Int) + (k : Int) * 1).toNat = 0 + k := by lia
  rw [this]
 rw [e]
 have := pick_run xs 0 b
 rw [List.filterMap_map] at this
 have e2 : ((fun x => xs[x]?) ∘ fun x => 0 + x) = fun k => xs[0 + k]? := rfl
 rw [e2] at this
 rw [this, List.drop_zero]
theorem sU {prog : Program} {w : World} {A : Around} {E : Value → Shared → Prop} {s : Shared} {t sl : Addr} {items : Array Value} {b : Nat} {u : Tok} {Q : Value → Shared → Prop} (ht : IsTup s.heap t items) (hs : s.heap.IsSliceOf sl .none (.int b u) .none) (hb : b < items.size)
  (h : Q (.ref s.heap.objs.size) { s with heap := s.heap.push { cls := .type "tuple", data := .seq (items.toList.take b).toArray } })
  (hsz : items.size ≤ sizeLine) : wpAny (model prog w) A (getItem (.ref t) (.ref sl)) Q E s := by
 have hdrop : sizeOk (.seq (items.toList.take b).toArray) := by
  show (items.toList.take b).toArray.size ≤ sizeLine
  rw [List.size_toArray, List.length_take, Array.length_toList]
  lia
 obtain ⟨os, hos, hcs, hds⟩ := id hs
 have hTs : s.TypeIs (.ref sl) "slice" := ⟨os, hos, hcs⟩
 unfold getItem
 try with_reducible refine wpAny_holding ?_
 first | refine wpAny_bind (wpAny_pure ?_) | skip
 refine wpAny_bind (wpAny_sequenceKey ht.typeIs (by decide) ?_)
 refine wpAny_bind (wpAny_callSpecial?_slot (name := Str.ofString "__getitem__") ht.typeIs PyProof.Rows.slot_tuple_getitem
  (wpAny_call_entry PyProof.Rows.slot_tuple_getitem ht.typeIs PyProof.Rows.entry_tuple_getitem ?_ (PyProof.Rows.args_tuple_getitem _ _)))
 show wpAny _ _ (Builtin.Tuple.tupleItemsOf (.ref t) >>= _) _ _ s
 refine wpAny_bind (tupleItemsOf_ ht ?_)
 refine wpAny_bind (wpAny_typeOf hTs ?_)
 rw [if_pos (by decide)]
 refine wpAny_bind (tI hs (Nat.le_of_lt hb) ?_)
 have hno : ¬ (((0 : Int) == 0 && (1 : Int) == 1 && b == items.size) = true) := by
  have : (b == items.size) = false := by rw [beq_eq_false_iff_ne]; lia
  rw [this]; simp
 show wpAny _ _ (if ((0 : Int) == 0 && (1 : Int) == 1 && b == items.size) = true then _ else _) _ _ s
 rw [if_neg hno, GE items b (Nat.le_of_lt hb)]
 first
  | exact wpAny_bind (m := Builtin.Tuple.tupleExact _) (wpAny_newObj_type (wpAny_pure ⟨_, rfl, wpAny_pure h⟩) hdrop)
  | exact wpAny_bind (m := Builtin.Tuple.tupleExact _) (wpAny_newObj_type (wpAny_bind (wpAny_pure (wpAny_pure ⟨_, rfl, wpAny_pure h⟩))) hdrop)
  | exact wpAny_bind (wpAny_bind (m := Builtin.Tuple.tupleExact _) (wpAny_newObj_type (wpAny_pure (wpAny_pure ⟨_, rfl, wpAny_pure h⟩)) hdrop))
  | exact wpAny_bind (wpAny_bind (m := Builtin.Tuple.tupleExact _) (wpAny_newObj_type (wpAny_pure ⟨_, rfl, wpAny_pure h⟩) hdrop))
theorem IntsAre.Mx {μ : Nat → Addr} {n : Nat} {h : Heap} : ∀ {vs : List Value} {ns : List Int}, IntsAre vs ns → VRs Γ μ n h (ns.map .int) vs
 | _, _, .nil => .nil
 | _, _, .cons n t x => .cons (.int n t) (IntsAre.Mx x)
theorem le_size {k : Nat} (h : k ≤ 1000) : k ≤ sizeLine := by rw [sizeLine_eq]; lia
theorem Bs {μ : Nat → Addr} {n : Nat} {h : Heap} {l rr : List V} {lo hi : Option Int} {items : Array Value} (hs : VRs Γ μ n h l items.toList) (hr : sliceOf l lo hi = some rr) : VRs Γ μ n h rr (slicePick items lo hi none).toList := by
 cases lo with
 | none => cases hi with
  | none => exact nS hr
  | some b =>
   obtain ⟨hb, hr⟩ := cJ hr
   cases hr
   obtain ⟨k, rfl⟩ := Int.eq_ofNat_of_zero_le hb
   rw [slicePick_upto', List.toList_toArray]
   exact hs.take k
 | some b => cases hi with
  | some _ => exact nS hr
  | none =>
   obtain ⟨hb, hr⟩ := cJ hr
   cases hr
   obtain ⟨k, rfl⟩ := Int.eq_ofNat_of_zero_le hb
   rw [slicePick_from', List.toList_toArray]
   exact hs.drop k
theorem C8 {A : Around} {μ : Nat → Addr} {σ : St} {s : Shared} {a v : V} {lo hi : Option Int} {ua vl vu : Value} {sl : Addr} {σ' : St} {Q : Value → Shared → Prop} {E : Value → Shared → Prop}
   (H : aY Γ μ σ s.heap) (xa : VR Γ μ σ.length s.heap a ua) (hsl : s.heap.IsSliceOf sl vl vu .none) (pl : IsPart vl lo) (pu : IsPart vu hi) (e : gP a lo hi σ = some (v, σ')) (c : Cont Γ μ σ s v σ' Q) :
   ∃ T id, s.TypeIs ua T ∧ typeLookup (.type T) "__getitem__" = pure (some (.builtin id)) ∧ wpAny Γ.M A (getItem ua (.ref sl)) Q E s := by
 refine byC fun hG => ?_
 cases a with
 | obj _ =>
   obtain ⟨l, hl, e⟩ := Option.bind_eq_some_iff.mp e
   obtain ⟨hlen, e⟩ := cJ e
   obtain ⟨rr, hr, e⟩ := Option.map_eq_some_iff.mp e
   cases e
   cases xa.j5.1
   obtain ⟨hi', items, kk, hL, hs⟩ := H.list hl
   have hln := hs.length.trans Array.length_toList
   have key := Bs hs hr
   exact hG ⟨_, _, hL.isList.typeIs, slot_list_getitem.lookup, wpAny_getItem_list_slice hL.isList hsl pl pu .none (by decide) (k8 H key c s.toks) (le_size (hln ▸ hlen))⟩
 | yX l => cases lo with
  | some _ => exact nS e
  | none => cases hi with
  | none => exact nS e
  | some b =>
   obtain ⟨hb, e⟩ := cJ e
   cases e
   obtain ⟨_, _, _, rfl, hL, hs⟩ := xa.N8
   have hL' : IsL s.heap _ _ _ := H.base _ _ hL
   have hln := Array.length_toList.symm.trans hs.length
   refine hG ⟨_, _, hL'.isList.typeIs, slot_list_getitem.lookup, wpAny_getItem_list_slice hL'.isList hsl pl pu .none (by decide) (k8 H ?_ c s.toks) (le_size (Nat.le_trans (Nat.le_of_eq hln) hb.2))⟩
   rw [List.map_take]
   exact Bs (lo := none) (hi := some b) (IntsAre.Mx (Γ := Γ) (μ := μ) (n := σ.length) (h := s.heap) hs) (if_pos hb.1)
 | tup l => cases lo with
  | some _ => exact nS e
  | none => cases hi with
  | none => exact nS e
  | some b =>
   obtain ⟨hb, e⟩ := cJ e
   cases e
   obtain ⟨_, _, _, rfl, ht, hs⟩ := xa.tupI
   obtain rfl := JG pl
   obtain ⟨t, rfl⟩ := JH pu
   have hln := hs.length.trans Array.length_toList
   obtain ⟨n, rfl⟩ := Int.eq_ofNat_of_zero_le hb.1
   have h1 := Int.ofNat_lt.mp hb.2.1
   rw [hln] at h1
   exact hG ⟨_, _, ⟨_, ht, rfl⟩, PyProof.Rows.slot_tuple_getitem.lookup, sU ⟨_, ht, rfl, _, rfl⟩ hsl h1 (wW H (by rw [List.toList_toArray]; exact hs.take n) c s.toks) (le_size (hln ▸ hb.2.2))⟩
 | _ => exact nS e
theorem aC.slice {a : PySem.Expr} {lo hi : Option PySem.Expr} {p pos : Pos} {f : X V} {g h : Option (X V)} (hf : aC Γ d cx a f) (hg : rF Γ d cx lo g) (hh : rF Γ d cx hi h) :
  aC Γ d cx (.Subscript a (.Slice lo hi Option.none p) pos) (X.bind f fun x => X.bind (yJ g) fun l => X.bind (yJ h) fun u => X.lift (gP x l u)) := fun A env μ ρ σ s v σ' Q E r H R e c => by
 obtain ⟨x, σ₁, e1, e⟩ := X.bind_some e
 obtain ⟨y, σ₂, e2, e⟩ := X.bind_some e
 obtain ⟨z, jX, e3, e⟩ := X.bind_some e
 refine Subscript_ (hf A env μ ρ σ s x σ₁ _ E r H R e1 fun ua aI s₁ H₁ S₁ cN => wpAny_Slice ?_)
 have iO := R.step H S₁
 refine hg.run r H₁ iO e2 fun vl bA s₂ cM S₂ P₂ => ?_
 have iN := iO.step H₁ S₂
 refine hh.run r cM iN e3 fun vu fW s₃ f9 hZ O2 => ?_
 rw [evalPart_none]
 refine wpAny_pure ?_
 have T : Step (Own fW jX.length) fW jX.length s₃ fW jX.length { s₃ with heap := s₃.heap.push { cls := .type "slice", data := .fields #[vl, vu, .none] } } := .push _
 have V₃ := hZ.vr cM (S₂.vr H₁ cN)
 obtain ⟨T', id, hT, hl, hgi⟩ := C8 (A := A) (E := E) (f9.push _) (V₃.mono (.push _ _) (fun _ _ => rfl) (Nat.le_refl _)) (Heap.IsSliceOf.new _ _ _ _) P₂ O2 e fun u pG s₄ nT mC V₄ =>
  c u pG s₄ nT ((((S₁.then S₂).then hZ).then T).then mC) V₄
 exact tail_any hT hl hgi rfl
end
inductive Fl where
 | next
 | ret (v : V)
noncomputable abbrev XS := Loc → St → Option (Fl × Loc × St)
noncomputable abbrev XA := V → Loc → St → Option (Loc × St)
section
variable {Γ : gK} {cx : Cx} {d : Nat}
noncomputable def Mm (Γ : gK) (μ : Nat → Addr) (n : Nat) (h : Heap) : Fl → Flow → Prop
 | .next, .next => True
 | .ret v, .ret u => VR Γ μ n h v u
 | _, _ => False
theorem Mm.HU {μ : Nat → Addr} {n : Nat} {h : Heap} {w : Flow} (x : Mm Γ μ n h .next w) : w = .next := by
 cases w <;> first | rfl | exact x.elim
theorem Mm.Lh {μ : Nat → Addr} {n : Nat} {h : Heap} {v : V} {w : Flow} (x : Mm Γ μ n h (.ret v) w) : ∃ u, w = .ret u ∧ VR Γ μ n h v u := by
 cases w <;> first | exact ⟨_, rfl, x⟩ | exact x.elim
noncomputable def iX (Γ : gK) (cx : Cx) (env : Env) (μ : Nat → Addr) (n : Nat) (b : Addr) : Prop := Own μ n b ∨ Jh Γ cx env b
noncomputable def aE (Γ : gK) (d : Nat) (cx : Cx) (ss : List Stmt) (g : XS) : Prop :=
 ∀ (A : Around) (env : Env) (μ : Nat → Addr) (ρ : Loc) (σ : St) (s : Shared) (fl : Fl) (cI : Loc) (σ' : St) (Q : Flow → Shared → Prop) (E : Value → Shared → Prop),
  fN A d → aY Γ μ σ s.heap → dK Γ cx env μ σ.length ρ s.heap → g ρ σ = some (fl, cI, σ') →
  (∀ w dU s', aY Γ dU σ' s'.heap → Step (iX Γ cx env μ σ.length) μ σ.length s dU σ'.length s' → dK Γ cx env dU σ'.length cI s'.heap → Mm Γ dU σ'.length s'.heap fl w → Q w s') →
  wpAny Γ.M A (execs ss env) Q E s
noncomputable def aM (Γ : gK) (d : Nat) (cx : Cx) (st : Stmt) (g : XS) : Prop :=
 ∀ (A : Around) (env : Env) (μ : Nat → Addr) (ρ : Loc) (σ : St) (s : Shared) (fl : Fl) (cI : Loc) (σ' : St) (Q : Flow → Shared → Prop) (E : Value → Shared → Prop),
  fN A d → aY Γ μ σ s.heap → dK Γ cx env μ σ.length ρ s.heap → g ρ σ = some (fl, cI, σ') →
  (∀ w dU s', aY Γ dU σ' s'.heap → Step (iX Γ cx env μ σ.length) μ σ.length s dU σ'.length s' → dK Γ cx env dU σ'.length cI s'.heap → Mm Γ dU σ'.length s'.heap fl w → Q w s') →
  wpAny Γ.M A (exec st env) Q E s
noncomputable def eC (Γ : gK) (d : Nat) (cx : Cx) (t : PySem.Expr) (g : XA) : Prop :=
 ∀ (A : Around) (env : Env) (μ : Nat → Addr) (ρ : Loc) (σ : St) (s : Shared) (v : V) (u : Value) (cI : Loc) (σ' : St) (Q : Unit → Shared → Prop) (E : Value → Shared → Prop),
  fN A d → aY Γ μ σ s.heap → dK Γ cx env μ σ.length ρ s.heap → VR Γ μ σ.length s.heap v u → g v ρ σ = some (cI, σ') →
  (∀ dU s', aY Γ dU σ' s'.heap → Step (iX Γ cx env μ σ.length) μ σ.length s dU σ'.length s' → dK Γ cx env dU σ'.length cI s'.heap → Q () s') →
  wpAny Γ.M A (assign t env u) Q E s
variable {env : Env} {μ aI bA : Nat → Addr} {n n₁ n₂ : Nat} {ρ : Loc} {s s₁ s₂ : Shared} {σ σ₁ : St}
theorem dK.wH (H : aY Γ μ σ s.heap) (R : dK Γ cx env μ σ.length ρ s.heap) (b : Addr) (o : Obj) (x : iX Γ cx env μ σ.length b) (e : s.heap.get? b = some o) : fz o = false := by
 rcases x with x | rfl | ⟨_, p, hp, h1, h2⟩
 ·exact H.wH x e
 ·obtain ⟨m, hn, _⟩ := R.locals
  obtain ⟨o', es, ep, ho, hd⟩ := Heap.Ns.obj hn
  rw [ho] at e; cases e
  simp [fz, hd]
 ·obtain ⟨c, x, h3, ⟨o', ho, hd⟩, _⟩ := R.cells p hp h1
  rw [h2] at h3; cases h3
  rw [ho] at e; cases e
  simp [fz, hd]
theorem Step.LD (H : aY Γ μ σ s.heap) (R : dK Γ cx env μ σ.length ρ s.heap) (S : Step (iX Γ cx env μ σ.length) μ σ.length s aI n₁ s₁) : cK s.heap s₁.heap :=
 S.H9 fun b o x e => R.wH H b o x e
theorem Step.tF (S : Step (Own μ n) μ n s aI n₁ s₁) : Step (iX Γ cx env μ n) μ n s aI n₁ s₁ :=
 ⟨fun b o e q => S.tR b o e fun x => q (.inl x), S.live, S.agree, S.le, S.fresh, S.gens, S.drawn, S.os⟩
theorem Step.JJ (S : Step (iX Γ cx env μ n) μ n s aI n₁ s₁) : ∀ b, iX Γ cx env aI n₁ b → iX Γ cx env μ n b ∨ s.heap.get? b = none := by
 rintro b (x | x)
 ·exact S.Hz (fun _ x => .inl x) b x
 ·exact .inl (.inr x)
theorem Step.fE (S : Step (iX Γ cx env μ n) μ n s aI n₁ s₁) (T : Step (iX Γ cx env aI n₁) aI n₁ s₁ bA n₂ s₂) : Step (iX Γ cx env μ n) μ n s bA n₂ s₂ := S.trans T S.JJ
namespace XS
noncomputable def nil : XS := fun ρ σ => some (.next, ρ, σ)
noncomputable def seq (f g : XS) : XS := fun ρ σ => match f ρ σ with
 | some (.next, cI, σ') => g cI σ'
 | r => r
noncomputable def ret (f : X V) : XS := fun ρ σ => match f ρ σ with
 | some (v, σ') => some (.ret v, ρ, σ')
 | none => none
noncomputable def ite (f : X Bool) (g h : XS) : XS := fun ρ σ => match f ρ σ with
 | some (true, σ') => g ρ σ'
 | some (false, σ') => h ρ σ'
 | none => none
noncomputable def isRef : V → Bool
 | .none => false | .bool _ => false | .int _ => false | .str _ => false
 | _ => true
noncomputable def drop (f : X V) : XS := fun ρ σ => match f ρ σ with
 | some (v, σ') => if isRef v then none else some (.next, ρ, σ')
 | none => none
noncomputable def assign (f : X V) (a : XA) : XS := fun ρ σ => match f ρ σ with
 | some (v, σ') => match a v ρ σ' with
  | some (cI, w9) => some (.next, cI, w9)
  | none => none
 | none => none
noncomputable def jK (f : X Bool) (g : XS) : Nat → XS
 | 0 => fun _ _ => none
 | n + 1 => fun ρ σ => match f ρ σ with
  | some (true, σ') => match g ρ σ' with
   | some (.next, cI, w9) => jK f g n cI w9
   | r => r
  | some (false, σ') => some (.next, ρ, σ')
  | none => none
end XS
noncomputable def XA.name (i : Nat) : XA := fun v ρ σ => if i < ρ.length then some (ρ.set i (some v), σ) else none
theorem aE.nil : aE Γ d cx [] XS.nil := fun A env μ ρ σ s fl cI σ' Q E r H R e c => by
 cases e; exact wpAny_execs_nil (c _ μ s H .refl R trivial)
theorem aE.cons {st : Stmt} {ss : List Stmt} {f g : XS} (hf : aM Γ d cx st f) (hg : aE Γ d cx ss g) : aE Γ d cx (st :: ss) (XS.seq f g) := fun A env μ ρ σ s fl cI σ' Q E r H R e c => by
 refine wpAny_execs_cons ?_
 unfold XS.seq at e
 cases e1 : f ρ σ with
 | none => rw [e1] at e; exact nS e
 | some q =>
 obtain ⟨PJ, c7, σ₁⟩ := q
 rw [e1] at e
 cases PJ with
 | next =>
  refine hf A env μ ρ σ s _ _ _ _ E r H R e1 fun w aI s₁ H₁ S₁ iO cN => ?_
  cases cN.HU
  exact hg A env aI c7 σ₁ s₁ fl cI σ' _ E r H₁ iO e fun w bA s₂ cM S₂ iN eQ => c w bA s₂ cM (S₁.fE S₂) iN eQ
 | ret v =>
  cases e
  refine hf A env μ ρ σ s _ _ _ _ E r H R e1 fun w aI s₁ H₁ S₁ iO cN => ?_
  obtain ⟨u, rfl, cN⟩ := cN.Lh
  exact c _ aI s₁ H₁ S₁ iO cN
theorem aM.ret {e : PySem.Expr} {pos : Pos} {f : X V} (hf : aC Γ d cx e f) : aM Γ d cx (.Return (some e) pos) (XS.ret f) := fun A env μ ρ σ s fl cI σ' Q E r H R e c => by
 unfold XS.ret at e
 split at e <;> cases e
 rename_i v e1
 exact wpAny_Return_some (hf A env μ ρ σ s v σ' _ E r H R e1 fun u aI s₁ H₁ S₁ cN => c _ aI s₁ H₁ S₁.tF (R.step H S₁) cN)
theorem aM.JB {pos : Pos} : aM Γ d cx (.Return none pos) (XS.ret (X.pure .none)) := fun A env μ ρ σ s fl cI σ' Q E r H R e c => by
 cases e
 exact wpAny_Return_none (c _ μ s H .refl R .none)
theorem aM.fail {st : Stmt} : aM Γ d cx st (fun _ _ => none) := fun A env μ ρ σ s fl cI σ' Q E r H R e c => by cases e
theorem aE.fail {st : List Stmt} : aE Γ d cx st (fun _ _ => none) := fun A env μ ρ σ s fl cI σ' Q E r H R e c => by cases e
theorem aM.ite {t : PySem.Expr} {a b : List Stmt} {pos : Pos} {f : X Bool} {g h : XS} (hf : bK Γ d cx t f) (hg : aE Γ d cx a g) (hh : aE Γ d cx b h) : aM Γ d cx (.If t a b pos) (XS.ite f g h) := fun A env μ ρ σ s fl cI σ' Q E r H R e c => by
 unfold XS.ite at e
 split at e
 ·rename_i σ₁ e1
  refine wpAny_If (hf A env μ ρ σ s _ _ _ E r H R e1 fun aI s₁ H₁ S₁ => ?_)
  exact hg A env aI ρ σ₁ s₁ fl cI σ' _ E r H₁ (R.step H S₁) e fun w bA s₂ cM S₂ iN eQ => c w bA s₂ cM (S₁.tF.fE S₂) iN eQ
 ·rename_i σ₁ e1
  refine wpAny_If (hf A env μ ρ σ s _ _ _ E r H R e1 fun aI s₁ H₁ S₁ => ?_)
  exact hh A env aI ρ σ₁ s₁ fl cI σ' _ E r H₁ (R.step H S₁) e fun w bA s₂ cM S₂ iN eQ => c w bA s₂ cM (S₁.tF.fE S₂) iN eQ
 ·cases e
theorem Aa (R : dK Γ cx env μ n ρ s.heap) : interactive env = false := by
 unfold interactive
 rw [R.scope, R.kind]; rfl
theorem noRef {h : Heap} {v : V} {u : Value} (x : VR Γ μ n h v u) (hv : ¬ XS.isRef v = true) {P : Prop} (p : P) : match (generalizing := false) u with | .ref _ => False | _ => P := by
 cases x <;> first | exact p | exact (hv rfl).elim
theorem aM.expr {e : PySem.Expr} {pos : Pos} {f : X V} (hf : aC Γ d cx e f) (hs : ∀ env, swapsWith e none pos.line env = pure false) : aM Γ d cx (.Expr e pos) (XS.drop f) := fun A env μ ρ σ s fl cI σ' Q E r H R e c => by
 unfold XS.drop at e
 split at e
 case h_2 => cases e
 rename_i v σ₁ e1
 split at e
 case isTrue => cases e
 rename_i hv
 cases e
 refine wpAny_Expr (hf A env μ ρ σ s v σ' _ E r H R e1 fun u aI s₁ H₁ S₁ cN => ?_) (Aa R) (hs env)
 exact noRef cN hv (c .next aI s₁ H₁ S₁.tF (R.step H S₁) trivial)
inductive WhileI (Γ : gK) (cx : Cx) (env : Env) (μ : Nat → Addr) (σ : St) (s : Shared) (fl : Fl) (cI : Loc) (σ' : St) (f : X Bool) (g : XS) (n : Nat) (s₁ : Shared) (aI : Nat → Addr) (c7 : Loc) (σ₁ : St) : Prop
 | intro (H : aY Γ aI σ₁ s₁.heap) (S : Step (iX Γ cx env μ σ.length) μ σ.length s aI σ₁.length s₁) (R : dK Γ cx env aI σ₁.length c7 s₁.heap) (e : XS.jK f g n c7 σ₁ = some (fl, cI, σ'))
theorem aM.while {t : PySem.Expr} {b : List Stmt} {pos : Pos} {f : X Bool} {g : XS} (fuel : Nat) (hf : bK Γ d cx t f) (hg : aE Γ d cx b g) : aM Γ d cx (.While t b [] pos) (XS.jK f g fuel) := fun A env μ ρ σ s fl cI σ' Q E r H R e c => by
 refine wpAny_While ?_
 refine codeAny_whileLoop (fun n s₁ => E3 (WhileI Γ cx env μ σ s fl cI σ' f g n s₁)) ?_ fuel ⟨μ, ρ, σ, H, .refl, R, e⟩
 rintro n s₁ ⟨aI, c7, σ₁, H₁, S₁, iO, e⟩
 cases n with
 | zero => cases e
 | succ n =>
  unfold XS.jK at e
  split at e
  ·rename_i σ₂ e1
   refine hf A env aI c7 σ₁ s₁ _ _ _ _ r H₁ iO e1 fun bA s₂ cM S₂ => ?_
   rw [if_pos rfl]
   have iN := iO.step H₁ S₂
   split at e
   ·rename_i G8 jX e2
    refine hg A env bA c7 σ₂ s₂ _ _ _ _ _ r cM iN e2 fun w fW s₃ f9 hZ rO V₃ => ?_
    cases V₃.HU
    exact ⟨n, Nat.lt_succ_self n, ⟨fW, G8, jX, f9, (S₁.fE S₂.tF).fE hZ, rO, e⟩⟩
   ·rename_i hne
    cases fl with
    | next => exact absurd e (hne _ _)
    | ret v =>
     refine hg A env bA c7 σ₂ s₂ _ _ _ _ _ r cM iN e fun w fW s₃ f9 hZ rO V₃ => ?_
     obtain ⟨u, rfl, V₃⟩ := V₃.Lh
     exact c _ fW s₃ f9 ((S₁.fE S₂.tF).fE hZ) rO V₃
  ·rename_i σ₂ e1
   cases e
   refine hf A env aI cI σ₁ s₁ _ _ _ _ r H₁ iO e1 fun bA s₂ cM S₂ => ?_
   rw [if_neg (by decide)]
   exact wpAny_execs_nil (c _ bA s₂ cM (S₁.fE S₂.tF) (iO.step H₁ S₂) trivial)
  ·cases e
theorem wC {A : Around} {E : Value → Shared → Prop} {Q : Unit → Shared → Prop} {i k : Nat} {v : V} {u : Value} (hv : (i, k) ∈ cx.vars) (O : aR Γ cx) (fn : cx.fn = true ∨ f8 Γ cx k = some .local) (H : aY Γ μ σ s.heap) (R : dK Γ cx env μ σ.length ρ s.heap) (V : VR Γ μ σ.length s.heap v u)
  (hi : i < ρ.length) (c : ∀ s', aY Γ μ σ s'.heap → Step (iX Γ cx env μ σ.length) μ σ.length s μ σ.length s' → dK Γ cx env μ σ.length (ρ.set i (some v)) s'.heap → Q () s') : wpAny Γ.M A (storeName env (Γ.nm k) u) Q E s := by
 have hk := O.kinds _ hv
 have hkf : env.scope.kind = .function := by rw [R.scope]; exact R.kind
 have get : ∀ (p : Nat × Nat), p ∈ cx.vars → p ≠ (i, k) → (ρ.set i (some v))[p.1]? = ρ[p.1]? := fun p hp hne => by
  rw [List.getElem?_set_ne]
  intro e
  exact hne (O.slots _ hp _ hv e.symm)
 have get' : (ρ.set i (some v))[i]? = some (some v) := by simp [hi]
 by_cases hl : env.kindOf (Γ.nm k) = some .local
 ·obtain ⟨m, hn, hm⟩ := R.locals
  refine wpAny_storeName_local hl hn (fun h' hn' hs' => ?_) (by rw [hkf]; rfl)
  have hz : ∀ o, s.heap.get? env.locals = some o → fz o = false := fun o e => R.wH H _ o (.inr (.inl rfl)) e
  have kf : cK s.heap h' := .ext hs'.extBut hz
  refine c _ (H.ext hs'.extBut hz R.lo R.qL) ?_ ?_
  ·obtain ⟨o, es, ep, ho, _⟩ := Heap.Ns.obj hn'
   refine ⟨fun b o e q => hs'.extBut b o (fun z => q (.inr (.inl z))) e, fun b o' e => ?_, fun _ _ => rfl, Nat.le_refl _, fun _ h1 h2 => absurd h2 (Nat.not_lt.mpr h1), rfl, rfl, rfl⟩
   by_cases hb : b = env.locals
   ·subst hb; exact ⟨_, ho⟩
   ·exact ⟨o', hs'.extBut b o' hb e⟩
  ·refine ⟨R.scope, R.kind, R.globals, R.builtins, ⟨_, hn', fun p hp hpl w hw => ?_⟩, fun p hp hpc => ?_, R.tC, R.qL, R.lo, R.LB⟩
   ·by_cases hpk : p = (i, k)
    ·subst hpk
     rw [get'] at hw; cases hw
     exact ⟨u, if_pos rfl, V.mono kf (fun _ _ => rfl) (Nat.le_refl _)⟩
    ·rw [get p hp hpk] at hw
     obtain ⟨u', h1, h2⟩ := hm p hp hpl w hw
     have : Γ.nm p.2 ≠ Γ.nm k := fun z => hpk (O.names _ hp _ hv (Γ.Dx _ _ z))
     exact ⟨u', by rw [if_neg this]; exact h1, h2.mono kf (fun _ _ => rfl) (Nat.le_refl _)⟩
   ·have hpk : p ≠ (i, k) := by rintro rfl; rw [hl] at hpc; cases hpc
    obtain ⟨cc, x, h1, h2, h3⟩ := R.cells p hp hpc
    have hne : cc ≠ env.locals := by
     rintro rfl
     obtain ⟨o, ho, hd⟩ := h2
     obtain ⟨o', _, _, ho', hd'⟩ := Heap.Ns.obj hn
     rw [ho] at ho'; cases ho'
     rw [hd] at hd'; cases hd'
    refine ⟨cc, x, h1, h2.sameBut hs' hne, fun w hw => ?_⟩
    rw [get p hp hpk] at hw
    obtain ⟨u', e1, e2⟩ := h3 w hw
    exact ⟨u', e1, e2.mono kf (fun _ _ => rfl) (Nat.le_refl _)⟩
 ·have hc : env.kindOf (Γ.nm k) = some .cell := by
   rw [← R.kindOf] at hk; exact hk.resolve_left hl
  obtain ⟨cc, x, h1, h2, h3⟩ := R.cells _ hv hc
  have hfn : cx.fn = true := fn.resolve_right (by rw [← R.kindOf]; exact hl)
  have own : Jh Γ cx env cc := .inr ⟨hfn, _, hv, hc, h1⟩
  refine wpAny_storeName_cell hkf hc h1 h2 fun h' hc' hs' => ?_
  have hz : ∀ o, s.heap.get? cc = some o → fz o = false := fun o e => R.wH H _ o (.inr own) e
  have kf : cK s.heap h' := .ext hs'.extBut hz
  have ne : ∀ j, j < σ.length → μ j ≠ cc := fun j hj e => by
   obtain ⟨ob, g1, _, g3⟩ := H.at hj
   obtain ⟨o, ho, hd⟩ := h2
   rw [e, ho] at g1; cases g1
   exact g3 _ hd
  obtain ⟨m, hn, hm⟩ := R.locals
  have Eo : env.locals ≠ cc := by
   rintro rfl
   obtain ⟨o, ho, hd⟩ := h2
   obtain ⟨o', _, _, ho', hd'⟩ := Heap.Ns.obj hn
   rw [ho] at ho'; cases ho'
   rw [hd] at hd'; cases hd'
  refine c _ (H.ext hs'.extBut hz (R.LB _ hv _ hc h1) ne) ?_ ?_
  ·obtain ⟨o, ho, _⟩ := hc'
   refine ⟨fun b o e q => hs'.extBut b o (fun z => q (.inr (z ▸ own))) e, fun b o' e => ?_, fun _ _ => rfl, Nat.le_refl _, fun _ h1 h2 => absurd h2 (Nat.not_lt.mpr h1), rfl, rfl, rfl⟩
   by_cases hb : b = cc
   ·subst hb; exact ⟨_, ho⟩
   ·exact ⟨o', hs'.extBut b o' hb e⟩
  ·refine ⟨R.scope, R.kind, R.globals, R.builtins, ⟨m, hn.sameBut hs' Eo, fun p hp hpl w hw => ?_⟩, fun p hp hpc => ?_, R.tC, R.qL, R.lo, R.LB⟩
   ·have hpk : p ≠ (i, k) := by rintro rfl; exact hl hpl
    rw [get p hp hpk] at hw
    obtain ⟨u', h1, h2⟩ := hm p hp hpl w hw
    exact ⟨u', h1, h2.mono kf (fun _ _ => rfl) (Nat.le_refl _)⟩
   ·by_cases hpk : p = (i, k)
    ·subst hpk
     exact ⟨cc, _, h1, hc', fun w hw => by rw [get'] at hw; cases hw; exact ⟨u, rfl, V.mono kf (fun _ _ => rfl) (Nat.le_refl _)⟩⟩
    ·obtain ⟨c2, x2, g1, g2, g3⟩ := R.cells p hp hpc
     have hne : c2 ≠ cc := fun z => hpk (R.tC p hp _ hv cc hpc hc (z ▸ g1) h1)
     refine ⟨c2, x2, g1, g2.sameBut hs' hne, fun w hw => ?_⟩
     rw [get p hp hpk] at hw
     obtain ⟨u', e1, e2⟩ := g3 w hw
     exact ⟨u', e1, e2.mono kf (fun _ _ => rfl) (Nat.le_refl _)⟩
theorem eC.name {i k : Nat} {x : Str} {pos : Pos} (hx : Γ.nm k = x) (hv : (i, k) ∈ cx.vars) (O : aR Γ cx) (fn : cx.fn = true ∨ f8 Γ cx k = some .local) : eC Γ d cx (.Name x pos) (XA.name i) := fun A env μ ρ σ s v u cI σ' Q E r H R V e c => by
 subst hx
 unfold XA.name at e
 split at e <;> cases e
 rename_i hi
 exact wpAny_assign_Name (wC hv O fn H R V hi fun s' H' S' R' => c μ s' H' S' R')
inductive dP (Γ : gK) (d : Nat) (cx : Cx) : List PySem.Expr → List XA → Prop
 | nil : dP Γ d cx [] []
 | cons {t : PySem.Expr} {ts : List PySem.Expr} {g : XA} {gs : List XA} : eC Γ d cx t g → (∀ env, assignEach (t :: ts) env = (false, assign t env) :: assignEach ts env) → dP Γ d cx ts gs → dP Γ d cx (t :: ts) (g :: gs)
noncomputable def XA.each : List XA → List V → Loc → St → Option (Loc × St)
 | [], [], ρ, σ => some (ρ, σ)
 | g :: gs, v :: vs, ρ, σ => (g v ρ σ).bind fun r => XA.each gs vs r.1 r.2
 | _, _, _, _ => none
noncomputable def XA.tup (gs : List XA) : XA := fun v ρ σ => match v with
 | .tup vs => XA.each gs vs ρ σ
 | _ => none
theorem dP.length {ts : List PySem.Expr} {gs : List XA} (h : dP Γ d cx ts gs) (env : Env) : (assignEach ts env).length = gs.length := by
 induction h with
 | nil => rfl
 | cons _ he _ ih => rw [he]; simp [ih]
theorem dP.star {ts : List PySem.Expr} {gs : List XA} (h : dP Γ d cx ts gs) (env : Env) : (assignEach ts env).findIdx? (·.1) = none := by
 induction h with
 | nil => rfl
 | cons _ he _ ih => rw [he]; simp [List.findIdx?_cons, ih]
theorem XA.Am {g : XA} {gs : List XA} {v : V} {vs : List V} {r : Loc × St} (e : XA.each (g :: gs) (v :: vs) ρ σ = some r) : E2 fun cI σ' => g v ρ σ = some (cI, σ') ∧ XA.each gs vs cI σ' = some r := by
 obtain ⟨⟨cI, σ'⟩, h, e⟩ := Option.bind_eq_some_iff.mp e
 exact ⟨cI, σ', h, e⟩
theorem XA.wT {gs : List XA} : ∀ {vs : List V} {ρ : Loc} {σ : St} {r : Loc × St}, XA.each gs vs ρ σ = some r → gs.length = vs.length := by
 induction gs with
 | nil =>
  intro vs ρ σ r e
  cases vs with
  | nil => rfl
  | cons => cases e
 | cons g gs ih =>
  intro vs ρ σ r e
  cases vs with
  | nil => cases e
  | cons v vs =>
   obtain ⟨cI, σ', _, e⟩ := XA.Am e
   exact congrArg (· + 1) (ih e)
theorem dP.run {ts : List PySem.Expr} {gs : List XA} (h : dP Γ d cx ts gs) : ∀ {A : Around} {env : Env} {μ : Nat → Addr} {ρ : Loc} {σ : St} {s : Shared} {vs : List V} {us : List Value} {cI : Loc} {σ' : St} {Q : Unit → Shared → Prop} {E : Value → Shared → Prop},
  fN A d → aY Γ μ σ s.heap → dK Γ cx env μ σ.length ρ s.heap → VRs Γ μ σ.length s.heap vs us → XA.each gs vs ρ σ = some (cI, σ') →
  (∀ dU s', aY Γ dU σ' s'.heap → Step (iX Γ cx env μ σ.length) μ σ.length s dU σ'.length s' → dK Γ cx env dU σ'.length cI s'.heap → Q () s') → wpAny Γ.M A (assignInOrder ((assignEach ts env).map (·.2)) us) Q E s := by
 induction h with
 | nil =>
  intro A env μ ρ σ s vs us cI σ' Q E r H R V e c
  cases vs <;> cases e
  exact wpAny_pure (c μ s H .refl R)
 | cons hg he _ ih =>
  intro A env μ ρ σ s vs us cI σ' Q E r H R V e c
  cases vs with
  | nil => cases e
  | cons v vs =>
   obtain ⟨u, us', rfl, a, b⟩ := V.wX
   ·obtain ⟨c7, σ₁, e1, e⟩ := XA.Am e
    rw [he env, List.map_cons]
    show wpAny _ _ (do holding _ (assign _ env _); assignInOrder _ _) _ _ _
    refine wpAny_bind (wpAny_holding (hg A env μ ρ σ s v _ c7 σ₁ _ E r H R a e1 fun aI s₁ H₁ S₁ iO => ?_))
    exact ih r H₁ iO (b.mono (S₁.LD H R) S₁.agree S₁.le) e fun bA s₂ cM S₂ iN => c bA s₂ cM (S₁.fE S₂) iN
theorem eC.tup {ts : List PySem.Expr} {gs : List XA} {k : Nat} {pos : Pos} (h : dP Γ d cx ts gs) : eC Γ d cx (.Tuple ts k pos) (XA.tup gs) := fun A env μ ρ σ s v u cI σ' Q E r H R V e c => by
 unfold XA.tup at e
 split at e
 case h_2 => cases e
 rename_i vs
 obtain ⟨_, _, _, rfl, ht, hs⟩ := V.tupI
 ·have hl := XA.wT e
  have hsl := hs.length.trans Array.length_toList
  refine PySem.wpAny_assign_Tuple r.handled ⟨_, ht, rfl, _, rfl⟩ ((h.length env).trans (hl.trans hsl)) (h.star env) fun h' x => ?_
  have kf : cK s.heap h' := .ext x fun o e => by rw [eS] at e; cases e
  have H' : aY Γ μ σ h' := H.ext x (fun o e => by rw [eS] at e; cases e) H.kZ fun i hi => H.pS hi
  have T : Step (Own μ σ.length) μ σ.length s μ σ.length { s with heap := h' } := by
   have T0 : Step (Own μ σ.length) μ σ.length s μ σ.length s := .refl
   exact T0.ext (eS _) x s.toks
  exact h.run r H' (R.step H T) (hs.mono kf (fun _ _ => rfl) (Nat.le_refl _)) e fun bA s₂ cM S₂ iN => c bA s₂ cM (T.tF.fE S₂) iN
theorem aM.assign {t e : PySem.Expr} {pos : Pos} {f : X V} {g : XA} (hf : aC Γ d cx e f) (hg : eC Γ d cx t g) (hs : ∀ env : Env, env.scope = cx.sc → swapsWithSole [t] e pos.line env = pure false)
  (hw : ∀ env : Env, env.scope = cx.sc → swappedStores [t] e env = pure none) (ht : ∀ env, (assignEach [t] env).map (·.2) = [PySem.assign t env]) : aM Γ d cx (.Assign [t] e pos) (XS.assign f g) := fun A env μ ρ σ s fl cI σ' Q E r H R e c => by
 unfold XS.assign at e
 split at e
 case h_2 => cases e
 rename_i v σ₁ e1
 split at e
 case h_2 => cases e
 rename_i pF σ₂ e2
 cases e
 rw [PyProof.Rows.exec_Assign]
 refine wpAny_bind (wpAny_standAt ?_)
 rw [hs env R.scope]
 refine wpAny_bind (wpAny_pure ?_)
 rw [if_neg (by decide)]
 refine wpAny_bind (hf A env μ ρ σ s v σ₁ _ E r H R e1 fun u aI s₁ H₁ S₁ cN => ?_)
 rw [hw env R.scope, ht env]
 refine wpAny_bind (wpAny_pure ?_)
 show wpAny _ _ (do assignAll u [PySem.assign t env]; pure .next) Q E s₁
 refine wpAny_bind (hg A env aI ρ σ₁ s₁ v u cI σ' _ E r H₁ (R.step H S₁) cN e2 fun bA s₂ cM S₂ iN => ?_)
 exact wpAny_pure (c _ bA s₂ cM (S₁.tF.fE S₂) iN trivial)
theorem VRs.reverse {h : Heap} {vs : List V} {us : List Value} (x : VRs Γ μ n h vs us) : VRs Γ μ n h vs.reverse us.reverse := by
 induction vs generalizing us with
 | nil => cases x.EQ; exact .nil
 | cons v vs ih =>
  obtain ⟨u, us', rfl, a, b⟩ := x.wX
  rw [List.reverse_cons, List.reverse_cons]
  exact (ih b).append (.cons a .nil)
noncomputable def XA.swap (ids : List (Nat × Nat)) : XA := fun v ρ σ => match v with
 | .tup vs => XA.each (ids.reverse.map fun p => XA.name p.1) vs.reverse ρ σ
 | _ => none
theorem Jq (O : aR Γ cx) {A : Around} {env : Env} {E : Value → Shared → Prop} : ∀ (ids : List (Nat × Nat)) (vs : List V) (us : List Value) (ρ cI : Loc) (σ σ' : St) (μ : Nat → Addr) (s : Shared) (Q : Unit → Shared → Prop), (∀ p ∈ ids, p ∈ cx.vars) → (∀ p ∈ ids, cx.fn = true ∨ f8 Γ cx p.2 = some .local) → aY Γ μ σ s.heap → dK Γ cx env μ σ.length ρ s.heap → VRs Γ μ σ.length s.heap vs us →
  XA.each (ids.map fun p => XA.name p.1) vs ρ σ = some (cI, σ') → (∀ dU s', aY Γ dU σ' s'.heap → Step (iX Γ cx env μ σ.length) μ σ.length s dU σ'.length s' → dK Γ cx env dU σ'.length cI s'.heap → Q () s') →
  wpAny Γ.M A (assignInOrder (ids.map fun p => bindName env (Γ.nm p.2)) us) Q E s := by
 intro ids
 induction ids with
 | nil =>
  intro vs us ρ cI σ σ' μ s Q _ _ H R V e c
  cases vs <;> cases e
  exact wpAny_pure (c μ s H .refl R)
 | cons p ids ih =>
  intro vs us ρ cI σ σ' μ s Q hv fn H R V e c
  cases vs with
  | nil => cases e
  | cons v vs =>
   obtain ⟨_, us', rfl, a, b⟩ := V.wX
   ·rw [List.map_cons] at e
    obtain ⟨c7, σ₁, e1, e⟩ := XA.Am e
    unfold XA.name at e1
    split at e1 <;> cases e1
    rename_i hi
    refine wpAny_bind (wpAny_holding (wpAny_bindName (wC (hv p (.head _)) O (fn p (.head _)) H R a hi fun s₁ H₁ S₁ iO => ?_)))
    exact ih vs _ _ cI _ σ' μ s₁ _ (fun q hq => hv q (.tail _ hq)) (fun q hq => fn q (.tail _ hq)) H₁ iO (b.mono (S₁.LD H R) (fun _ _ => rfl) (Nat.le_refl _)) e fun bA s₂ cM S₂ iN => c bA s₂ cM (S₁.fE S₂) iN
theorem aM.swap {ts : List PySem.Expr} {e : PySem.Expr} {k : Nat} {tpos pos : Pos} {f : X V} {ids : List (Nat × Nat)} (hf : aC Γ d cx e f) (O : aR Γ cx) (hv : ∀ p ∈ ids, p ∈ cx.vars) (fn : ∀ p ∈ ids, cx.fn = true ∨ f8 Γ cx p.2 = some .local)
  (hs : ∀ env : Env, env.scope = cx.sc → swapsWithSole [.Tuple ts k tpos] e pos.line env = pure false)
  (hw : ∀ env : Env, env.scope = cx.sc → swappedStores [.Tuple ts k tpos] e env = pure (some (ids.map fun p => Γ.nm p.2))) :
  aM Γ d cx (.Assign [.Tuple ts k tpos] e pos) (XS.assign f (XA.swap ids)) := fun A env μ ρ σ s fl cI σ' Q E r H R e c => by
 unfold XS.assign at e
 split at e
 case h_2 => cases e
 rename_i v σ₁ e1
 split at e
 case h_2 => cases e
 rename_i pF σ₂ e2
 cases e
 unfold XA.swap at e2
 split at e2
 case h_2 => cases e2
 rename_i vs
 refine PyProof.Rows.Assign_Tuple_swapped (names := ids.map fun p => Γ.nm p.2) (hf A env μ ρ σ s _ σ₁ _ E r H R e1 fun u aI s₁ H₁ S₁ cN => ?_) (hs env R.scope) (hw env R.scope)
 obtain ⟨a, items, kk, rfl, htu, hsu⟩ := cN.tupI
 ·have hl := XA.wT e2
  have hsl := hsu.length.trans Array.length_toList
  have hlen : (ids.map fun p => Γ.nm p.2).length = items.size := by simpa using hl.trans (by simpa using hsl)
  rw [hlen]
  refine wpAny_unpackItems_tuple r.handled ⟨_, htu, rfl, _, rfl⟩ fun h' x => ?_
  have kf : cK s₁.heap h' := .ext x fun o e => by rw [eS] at e; cases e
  have H' : aY Γ aI σ₁ h' := H₁.ext x (fun o e => by rw [eS] at e; cases e) H₁.kZ fun i hi => H₁.pS hi
  have T : Step (Own aI σ₁.length) aI σ₁.length s₁ aI σ₁.length { s₁ with heap := h' } := by
   have T0 : Step (Own aI σ₁.length) aI σ₁.length s₁ aI σ₁.length s₁ := .refl
   exact T0.ext (eS _) x s₁.toks
  rw [← List.map_reverse, List.map_map]
  refine Jq O ids.reverse vs.reverse items.toList.reverse ρ cI σ₁ σ' aI _ _ (fun p hp => hv p (List.mem_reverse.mp hp)) (fun p hp => fn p (List.mem_reverse.mp hp)) H' ((R.step H S₁).step H₁ T) (hsu.reverse.mono kf (fun _ _ => rfl) (Nat.le_refl _)) e2 fun bA s₂ cM S₂ iN => ?_
  exact c _ bA s₂ cM ((S₁.tF.fE T.tF).fE S₂) iN trivial
end
section
variable {Γ : gK} {cx : Cx} {d : Nat} {env : Env} {μ aI bA : Nat → Addr} {n n₁ n₂ : Nat} {ρ : Loc} {s s₁ s₂ : Shared} {σ σ₁ : St}
structure Alike (s s' : Shared) : Prop where
 gens : s'.gens = s.gens
 drawn : s'.drawn = s.drawn
 os : s'.os = s.os
theorem Alike.refl : Alike s s := ⟨rfl, rfl, rfl⟩
noncomputable def i8 (fp : List Addr) (h h' : Heap) : Prop := ∀ b o, b ∉ fp → h.get? b = some o → h'.get? b = some o
structure Iter (Γ : gK) (d : Nat) (tgt : PySem.Expr → Prop) (it : Addr) (fp : List Addr) (get : St → Nat → Option (Option V)) (IR : (Nat → Addr) → Nat → Heap → Nat → Prop) : Prop where
 keep : ∀ {μ : Nat → Addr} {n : Nat} {h : Heap} {dU : Nat → Addr} {n' : Nat} {h' : Heap} {k : Nat}, IR μ n h k → (∀ b ∈ fp, ∀ o, h.get? b = some o → h'.get? b = some o) → cK h h' → (∀ i, i < n → dU i = μ i) → n ≤ n' → IR dU n' h' k
 objs : ∀ {μ : Nat → Addr} {n : Nat} {h : Heap} {k : Nat}, IR μ n h k → ∀ b ∈ fp, Γ.h₀.get? b = none ∧ ∃ o vs, h.get? b = some o ∧ o.data = .fields vs ∧ fz o = false
 item : ∀ {A : Around} {μ : Nat → Addr} {σ : St} {s : Shared} {k : Nat} {v : V} {Q : Option Value → Shared → Prop} {E : Value → Shared → Prop}, fN A d → aY Γ μ σ s.heap → IR μ σ.length s.heap k → get σ k = some (some v) →
  (∀ u s₁, (∀ (target : PySem.Expr) (G5 : Unit → Shared → Prop) (E₂ : Value → Shared → Prop), tgt target → (∀ s₂, i8 fp s.heap s₂.heap → Alike s s₂ → IR μ σ.length s₂.heap (k + 1) → VR Γ μ σ.length s₂.heap v u → G5 () s₂) →
   wpAny Γ.M A (letOwnedTupleGo target (.ref it) u) G5 E₂ s₁) → Q (some u) s₁) → wpAny Γ.M A (pyNext (.ref it)) Q E s
 stop : ∀ {A : Around} {μ : Nat → Addr} {σ : St} {s : Shared} {k : Nat} {Q : Option Value → Shared → Prop} {E : Value → Shared → Prop}, fN A d → aY Γ μ σ s.heap → IR μ σ.length s.heap k → get σ k = some none →
  (∀ s₁, i8 fp s.heap s₁.heap → Alike s s₁ → Q none s₁) → wpAny Γ.M A (pyNext (.ref it)) Q E s
theorem OR.qX {h : Heap} {a : Addr} {o : O} (x : OR Γ μ n h a o) {ob : Obj} (e : h.get? a = some ob) (vs : Array Value) : ob.data ≠ .fields vs := by
 cases o with
 | list l => obtain ⟨items, m, ho, _⟩ := x; rw [ho] at e; cases e; simp
 | cA l => obtain ⟨kvs, ⟨ob', es, ep, ho, hc, hd, _⟩, _⟩ := x; rw [ho] at e; cases e; simp [hd]
 | aV l => obtain ⟨kvs, ⟨ob', es, ep, ho, hc, hd, _⟩, _⟩ := x; rw [ho] at e; cases e; simp [hd]
theorem aY.qX {h : Heap} (H : aY Γ μ σ h) {i : Nat} (hi : i < σ.length) {ob : Obj} (e : h.get? (μ i) = some ob) (vs : Array Value) : ob.data ≠ .fields vs :=
 (H.objs i σ[i] (by simp [hi])).qX e vs
theorem aY.d0 {h h' : Heap} {fp : List Addr} (H : aY Γ μ σ h) (k : i8 fp h h') (hf : ∀ b ∈ fp, Γ.h₀.get? b = none ∧ ∃ o vs, h.get? b = some o ∧ o.data = .fields vs ∧ fz o = false) : aY Γ μ σ h' := by
 have kf : cK h h' := fun a o e f => k a o (fun m => by obtain ⟨_, o', _, e', _, f'⟩ := hf a m; rw [e] at e'; cases e'; rw [f] at f'; cases f') e
 refine ⟨fun b o e => k b o (fun m => by rw [(hf b m).1] at e; cases e) (H.base b o e), fun i o e => ?_, H.inj, H.lo⟩
 have hi := (List.getElem?_eq_some_iff.mp e).1
 exact (H.objs i o e).mono (fun ob e' => k _ _ (fun m => by
  obtain ⟨_, o', vs, e2, d2, _⟩ := hf _ m
  rw [e'] at e2; cases e2
  exact H.qX hi e' vs d2) e') kf (fun _ _ => rfl) (Nat.le_refl _)
theorem i8.fz {h h' : Heap} {fp : List Addr} (k : i8 fp h h') (hf : ∀ b ∈ fp, Γ.h₀.get? b = none ∧ ∃ o vs, h.get? b = some o ∧ o.data = .fields vs ∧ fz o = false) : cK h h' :=
 fun a o e f => k a o (fun m => by obtain ⟨_, o', _, e', _, f'⟩ := hf a m; rw [e] at e'; cases e'; rw [f] at f'; cases f') e
theorem dK.d0 {h h' : Heap} {fp : List Addr} (R : dK Γ cx env μ n ρ h) (k : i8 fp h h') (hf : ∀ b ∈ fp, Γ.h₀.get? b = none ∧ ∃ o vs, h.get? b = some o ∧ o.data = .fields vs ∧ fz o = false) : dK Γ cx env μ n ρ h' := by
 have kf := k.fz hf
 refine ⟨R.scope, R.kind, R.globals, R.builtins, ?_, fun p hp hk => ?_, R.tC, R.qL, R.lo, R.LB⟩
 ·obtain ⟨m, ⟨o, es, ep, ho, hd, r⟩, hm⟩ := R.locals
  refine ⟨m, ⟨o, es, ep, k _ _ (fun m => ?_) ho, hd, r⟩, fun p hp hk v hv => ?_⟩
  ·obtain ⟨_, o', vs, e2, d2, _⟩ := hf _ m
   rw [ho] at e2; cases e2; rw [hd] at d2; cases d2
  ·obtain ⟨u, h1, h2⟩ := hm p hp hk v hv
   exact ⟨u, h1, h2.mono kf (fun _ _ => rfl) (Nat.le_refl _)⟩
 ·obtain ⟨c, x, h1, ⟨o, ho, hd⟩, h3⟩ := R.cells p hp hk
  refine ⟨c, x, h1, ⟨o, k _ _ (fun m => ?_) ho, hd⟩, fun v hv => ?_⟩
  ·obtain ⟨_, o', vs, e2, d2, _⟩ := hf _ m
   rw [ho] at e2; cases e2; rw [hd] at d2; cases d2
  ·obtain ⟨u, e1, e2⟩ := h3 v hv
   exact ⟨u, e1, e2.mono kf (fun _ _ => rfl) (Nat.le_refl _)⟩
theorem Step.d0 {own : Addr → Prop} {fp : List Addr} (S : Step own μ n s aI n₁ s₁) (hn : ∀ b ∈ fp, s.heap.get? b = none) (k : i8 fp s₁.heap s₂.heap) (a : Alike s₁ s₂) : Step own μ n s aI n₁ s₂ := by
 have ne : ∀ b o, s.heap.get? b = some o → b ∉ fp := fun b o e m => by rw [hn b m] at e; cases e
 exact ⟨fun b o e q => k b o (ne b o e) (S.tR b o e q), fun b o e => let ⟨o', e'⟩ := S.live b o e; ⟨o', k b o' (ne b o e) e'⟩, S.agree, S.le, S.fresh, a.gens.trans S.gens, a.drawn.trans S.drawn, a.os.trans S.os⟩
theorem Iter.step {tgt : PySem.Expr → Prop} {it : Addr} {fp : List Addr} {get : St → Nat → Option (Option V)} {IR : (Nat → Addr) → Nat → Heap → Nat → Prop} (I : Iter Γ d tgt it fp get IR) {k : Nat} (x : IR μ σ.length s.heap k) (H : aY Γ μ σ s.heap) (R : dK Γ cx env μ σ.length ρ s.heap)
  (S : Step (iX Γ cx env μ σ.length) μ σ.length s aI n₁ s₁) : IR aI n₁ s₁.heap k := by
 refine I.keep x (fun b hb o e => S.tR b o e fun q => ?_) (S.LD H R) S.agree S.le
 obtain ⟨_, o', vs, e', d', _⟩ := I.objs x b hb
 rw [e] at e'; cases e'
 rcases q with ⟨i, hi, rfl⟩ | rfl | ⟨_, p, hp, h1, h2⟩
 ·exact H.qX hi e vs d'
 ·obtain ⟨m, hn, _⟩ := R.locals
  obtain ⟨o2, _, _, ho, hd⟩ := Heap.Ns.obj hn
  rw [ho] at e; cases e; rw [hd] at d'; cases d'
 ·obtain ⟨c, x, h3, ⟨o2, ho, hd⟩, _⟩ := R.cells p hp h1
  rw [h2] at h3; cases h3
  rw [ho] at e; cases e; rw [hd] at d'; cases d'
noncomputable def XS.uI (get : St → Nat → Option (Option V)) (a : XA) (g : XS) : Nat → Nat → XS
 | 0, _ => fun _ _ => none
 | n + 1, k => fun ρ σ => match get σ k with
  | none => none
  | some none => some (.next, ρ, σ)
  | some (some v) => match a v ρ σ with
   | none => none
   | some (c7, σ₁) => match g c7 σ₁ with
    | some (.next, pF, σ₂) => XS.uI get a g n (k + 1) pF σ₂
    | r => r
inductive yH (get : St → Nat → Option (Option V)) (a : XA) (g : XS) (m k : Nat) (ρ : Loc) (σ : St) (cI : Loc) (σ' : St) : Fl → Prop
 | stop : get σ k = some none → ρ = cI → σ = σ' → yH get a g m k ρ σ cI σ' .next
 | next {v : V} {c7 pF : Loc} {σ₁ σ₂ : St} {fl : Fl} : get σ k = some (some v) → a v ρ σ = some (c7, σ₁) → g c7 σ₁ = some (.next, pF, σ₂) → XS.uI get a g m (k + 1) pF σ₂ = some (fl, cI, σ') → yH get a g m k ρ σ cI σ' fl
 | ret {v w : V} {c7 : Loc} {σ₁ : St} : get σ k = some (some v) → a v ρ σ = some (c7, σ₁) → g c7 σ₁ = some (.ret w, cI, σ') → yH get a g m k ρ σ cI σ' (.ret w)
theorem Iu {get : St → Nat → Option (Option V)} {a : XA} {g : XS} {m k : Nat} {ρ : Loc} {σ : St} {fl : Fl} {cI : Loc} {σ' : St} (e : XS.uI get a g (m + 1) k ρ σ = some (fl, cI, σ')) : yH get a g m k ρ σ cI σ' fl := by
 unfold XS.uI at e
 split at e
 ·cases e
 ·cases e; exact .stop (by assumption) rfl rfl
 ·split at e
  ·cases e
  split at e
  ·exact .next (by assumption) (by assumption) (by assumption) e
  ·rename_i hne
   cases fl with
   | next => exact absurd e (hne _ _)
   | ret v => exact .ret (by assumption) (by assumption) e
inductive O9 (Γ : gK) (cx : Cx) (env : Env) (jY : Nat → Addr) (n₀ : Nat) (s₀ : Shared) (IR : (Nat → Addr) → Nat → Heap → Nat → Prop) (get : St → Nat → Option (Option V)) (a : XA) (g : XS) (fl : Fl) (cI : Loc) (σ' : St) (m : Nat) (s₁ : Shared) (k : Nat) (aI : Nat → Addr) (c7 : Loc) (σ₁ : St) : Prop
 | intro (H : aY Γ aI σ₁ s₁.heap) (S : Step (iX Γ cx env jY n₀) jY n₀ s₀ aI σ₁.length s₁) (R : dK Γ cx env aI σ₁.length c7 s₁.heap) (x : IR aI σ₁.length s₁.heap k) (e : XS.uI get a g m k c7 σ₁ = some (fl, cI, σ'))
theorem BL {tgt : PySem.Expr → Prop} {it : Addr} {fp : List Addr} {get : St → Nat → Option (Option V)} {IR : (Nat → Addr) → Nat → Heap → Nat → Prop} (I : Iter Γ d tgt it fp get IR) {t : PySem.Expr} {b : List Stmt} {a : XA} {g : XS} {A : Around} {cI : Loc} {σ' : St} {fl : Fl} {R' : Result → Shared → Prop}
  (ht : tgt t) (ha : eC Γ d cx t a) (hg : aE Γ d cx b g) (r : fN A d) (s₀ : Shared) (jY : Nat → Addr) (n₀ : Nat) (hfp : ∀ b ∈ fp, s₀.heap.get? b = none) (fuel : Nat) (k : Nat)
  (S : Step (iX Γ cx env jY n₀) jY n₀ s₀ μ σ.length s) (H : aY Γ μ σ s.heap) (R : dK Γ cx env μ σ.length ρ s.heap) (x : IR μ σ.length s.heap k) (e : XS.uI get a g fuel k ρ σ = some (fl, cI, σ'))
  (c : ∀ w dU s', aY Γ dU σ' s'.heap → Step (iX Γ cx env jY n₀) jY n₀ s₀ dU σ'.length s' → dK Γ cx env dU σ'.length cI s'.heap → Mm Γ dU σ'.length s'.heap fl w → R' (.ok w) s') :
  codeAny Γ.M A (.forLoop t (.ref it) b [] env) R' s := by
 refine codeAny_forLoop_any (fun m s₁ => E4 (O9 Γ cx env jY n₀ s₀ IR get a g fl cI σ' m s₁)) ?_ fuel ⟨k, μ, ρ, σ, H, S, R, x, e⟩
 rintro m s₁ ⟨k, aI, c7, σ₁, H₁, S₁, iO, x₁, e⟩
 cases m with
 | zero => cases e
 | succ m =>
  have hf := I.objs x₁
  cases Iu e with
  | stop hget e2 e3 =>
   subst e2 e3
   exact I.stop r H₁ x₁ hget fun s₂ kb al => wpAny_execs_nil (c _ aI s₂ (H₁.d0 kb hf) (S₁.d0 hfp kb al) (iO.d0 kb hf) trivial)
  | next hget e1 e2 e =>
   refine I.item r H₁ x₁ hget fun u s₂ EY => EY t _ _ ht fun s₃ kb al x₃ V₃ => ?_
   have f9 := H₁.d0 kb hf
   have rO := iO.d0 kb hf
   refine ha A env aI c7 σ₁ s₃ _ u _ _ _ _ r f9 rO V₃ e1 fun pG s₄ nT mC R₄ => hg A env pG _ _ s₄ _ _ _ _ _ r nT R₄ e2 fun w oU s₅ xV jR R₅ Fr => ?_
   cases Fr.HU
   exact ⟨m, Nat.lt_succ_self m, ⟨k + 1, oU, _, _, xV, ((S₁.d0 hfp kb al).fE mC).fE jR, R₅, I.step (I.step x₃ f9 rO mC) nT R₄ jR, e⟩⟩
  | ret hget e1 e2 =>
   refine I.item r H₁ x₁ hget fun u s₂ EY => EY t _ _ ht fun s₃ kb al x₃ V₃ => ?_
   refine ha A env aI c7 σ₁ s₃ _ u _ _ _ _ r (H₁.d0 kb hf) (iO.d0 kb hf) V₃ e1 fun pG s₄ nT mC R₄ => hg A env pG _ _ s₄ _ _ _ _ _ r nT R₄ e2 fun w oU s₅ xV jR R₅ Fr => ?_
   obtain ⟨u', rfl, Fr⟩ := Fr.Lh
   exact c _ oU s₅ xV (((S₁.d0 hfp kb al).fE mC).fE jR) R₅ Fr
noncomputable def gN (v : V) (σ : St) (k : Nat) : Option (Option V) := match v with
 | .tup l => some l[k]?
 | .obj i => (getL σ i).map fun l => l[k]?
 | .range a b => if -(2 ^ 40) ≤ a ∧ b ≤ 2 ^ 40 ∧ a ≤ 2 ^ 40 ∧ -(2 ^ 40) ≤ b then some (if a + k < b then some (.int (a + k)) else none) else none
 | _ => none
inductive Gd (Γ : gK) (it : Addr) (μ : Nat → Addr) (n : Nat) (h : Heap) (k : Nat) : V → Prop
 | tup {l : List V} {t : Addr} {items : Array Value} {kk : Nat} (ht : IsT h t items kk) (hs : VRs Γ μ n h l items.toList) (hi : h.IsTupleIter it t k) : Gd Γ it μ n h k (.tup l)
 | obj {i : Nat} (hi : i < n) (hl : h.IsListIter it (μ i) k) : Gd Γ it μ n h k (.obj i)
 | range {a b left : Int} (hi : IsRangeIter h it (a + k) left 1) (hl : left = b - (a + k) ∨ (left ≤ 0 ∧ b ≤ a + k)) : Gd Γ it μ n h k (.range a b)
noncomputable def rQ (Γ : gK) (v : V) (it : Addr) (μ : Nat → Addr) (n : Nat) (h : Heap) (k : Nat) : Prop := Γ.h₀.get? it = none ∧ Gd Γ it μ n h k v
theorem pH {h : Heap} {it t : Addr} {k : Nat} (x : h.IsTupleIter it t k) : ∃ o vs, h.get? it = some o ∧ o.data = .fields vs ∧ fz o = false := by
 obtain ⟨o, ho, hc, hd⟩ := x
 exact ⟨o, _, ho, hd, by unfold fz; rw [hd, hc]; rfl⟩
theorem oB {h : Heap} {it t : Addr} {k : Nat} (x : h.IsListIter it t k) : ∃ o vs, h.get? it = some o ∧ o.data = .fields vs ∧ fz o = false := by
 obtain ⟨o, ho, hc, hd⟩ := x
 exact ⟨o, _, ho, hd, by unfold fz; rw [hd, hc]; rfl⟩
theorem KH {h h' : Heap} {it : Addr} (x : ∃ o vs, h.get? it = some o ∧ o.data = .fields vs ∧ fz o = false) (hs : Heap.ExtBut it h h') : cK h h' := .ext hs fun o e => by
 obtain ⟨o', _, e', _, z⟩ := x
 rw [e'] at e; cases e; exact z
theorem lS {A : Around} {E : Value → Shared → Prop} {Q : Unit → Shared → Prop} {t : PySem.Expr} {it : Addr} {o : Obj} {n : String} {vs : Array Value} {u : Value} (ho : s.heap.get? it = some o) (hc : o.cls = .type n) (hd : o.data = .fields vs)
  (hn : ["enumerate", "zip", "dict_itemiterator", "dict_reverseitemiterator", "odict_iterator", "itertools.zip_longest", "itertools.pairwise"].contains n = false) (h : Q () s) : wpAny Γ.M A (letOwnedTupleGo t (.ref it) u) Q E s := by
 have go : wpAny Γ.M A (do
   let (.ref r, .ref a) := (Value.ref it, u) | return
   let o ← load r
   match o.cls, o.data with
   | .type n, .fields vs =>
    if ["enumerate", "zip", "dict_itemiterator", "dict_reverseitemiterator", "odict_iterator", "itertools.zip_longest", "itertools.pairwise"].contains n && vs[0]? == some (rawInt a) then
     rule "for.unpacks-the-owned-tuple"
     updateField r 0 .none
   | _, _ => pure ()) Q E s := by
  cases u <;> first | exact wpAny_pure h | skip
  refine wpAny_bind (wpAny_load ho ?_)
  rw [hc, hd]
  show wpAny _ _ (if (_ && _) = true then _ else _) _ _ _
  rw [hn, Bool.false_and, if_neg (by decide)]
  exact wpAny_pure h
 cases t <;> first | exact wpAny_pure h | exact go
theorem VRs.none {h : Heap} {l : List V} {items : Array Value} {k : Nat} (hs : VRs Γ μ n h l items.toList) (e : l[k]? = none) : items[k]? = none := by
 rw [Array.getElem?_eq_none_iff, ← Array.length_toList, ← hs.length]; exact List.getElem?_eq_none_iff.mp e
theorem tH (v : V) (it : Addr) : Iter Γ d (fun _ => True) it [it] (gN v) (rQ Γ v it) where
 keep := fun {μ n h dU n' h' k} ⟨x1, x⟩ hk kf hμ hn => by
  have hk := hk it (.head _)
  refine ⟨x1, ?_⟩
  cases x with
  | tup ht hs hi => exact .tup (kf _ _ ht rfl) (hs.mono kf hμ hn) (hi.at hk)
  | obj hi hl => exact .obj (Nat.lt_of_lt_of_le hi hn) (hμ _ hi ▸ hl.at hk)
  | range hi hl => exact .range (hk _ hi) hl
 objs := fun {μ n h k} ⟨x1, x⟩ b hb => by
  cases List.mem_singleton.mp hb
  refine ⟨x1, ?_⟩
  cases x with
  | tup ht hs hi => exact pH hi
  | obj hi hl => exact oB hl
  | range hi hl => exact ⟨_, _, hi, rfl, rfl⟩
 item := fun {A μ σ s k v' Q E} r H ⟨hb, x⟩ e c => by
  have kb : ∀ h', Heap.SameBut it s.heap h' → i8 [it] s.heap h' := fun h' hs b o hb e => hs.extBut b o (fun z => hb (by rw [z]; exact .head _)) e
  cases x with
  | tup ht hs hi =>
   obtain ⟨u, hu, hv⟩ := hs.get (Option.some.inj e)
   rw [Array.getElem?_toList] at hu
   refine PySem.wpAny_pyNext_tuple_item hi ⟨_, ht, rfl, _, rfl⟩ hu fun h' hi' hs' => c u _ fun target G5 E₂ _ q => ?_
   obtain ⟨o, ho, hc, hd⟩ := id hi'
   have kf := KH (pH hi) hs'.extBut
   exact lS ho hc hd (by decide) (q _ (kb _ hs') ⟨rfl, rfl, rfl⟩ ⟨hb, .tup (kf _ _ ht rfl) (hs.mono kf (fun _ _ => rfl) (Nat.le_refl _)) hi'⟩ (hv.mono kf (fun _ _ => rfl) (Nat.le_refl _)))
  | obj hi hit =>
   obtain ⟨l, hl, e⟩ := Option.map_eq_some_iff.mp e
   obtain ⟨_, items, kk, hL, hs⟩ := H.list hl
   obtain ⟨u, hu, hv⟩ := hs.get e
   rw [Array.getElem?_toList] at hu
   refine wpAny_pyNext_list_item hit hL.isList hu fun h' hi' hs' => c u _ fun target G5 E₂ _ q => ?_
   obtain ⟨o, ho, hc, hd⟩ := id hi'
   exact lS ho hc hd (by decide) (q _ (kb _ hs') ⟨rfl, rfl, rfl⟩ ⟨hb, .obj hi hi'⟩ (hv.mono (KH (oB hit) hs'.extBut) (fun _ _ => rfl) (Nat.le_refl _)))
  | @range a b left hi hl =>
   obtain ⟨_, e⟩ := cJ e
   obtain ⟨hlt, e⟩ := cJ (Option.some.inj e)
   cases e
   refine PySem.wpAny_pyNext_range_item hi (by lia) fun h' hi' hs' => c _ _ fun target G5 E₂ _ q => lS hi' rfl rfl (by decide) (q _ (kb _ hs') ⟨rfl, rfl, rfl⟩ ⟨hb, .range (left := left - 1) ?_ ?_⟩ (.int _ _))
   ·rw [show a + ((k + 1 : Nat) : Int) = a + (k : Int) + 1 from (Int.add_assoc a k 1).symm]; exact hi'
   ·lia
 stop := fun {A μ σ s k Q E} r H ⟨hb, x⟩ e c => by
  have kb : ∀ h', Heap.ExtBut it s.heap h' → i8 [it] s.heap h' := fun h' hs b o hb e => hs b o (fun z => hb (by rw [z]; exact .head _)) e
  cases x with
  | tup ht hs hi => exact PySem.wpAny_pyNext_tuple_end r.handled hi ⟨_, ht, rfl, _, rfl⟩ (hs.none (Option.some.inj e)) fun h' hs' => c _ (kb _ hs') ⟨rfl, rfl, rfl⟩
  | obj hi hit =>
   obtain ⟨l, hl', e⟩ := Option.map_eq_some_iff.mp e
   obtain ⟨_, items, kk, hL, hs⟩ := H.list hl'
   exact wpAny_pyNext_list_end r.handled hit hL.isList (hs.none e) fun h' hs' => c _ (kb _ hs') ⟨rfl, rfl, rfl⟩
  | range hi hl =>
   obtain ⟨_, e⟩ := cJ e
   replace e := JW (Option.some.inj e)
   exact PySem.wpAny_pyNext_range_end r.handled hi (by lia) fun h' hs' => c _ (kb _ hs') ⟨rfl, rfl, rfl⟩
theorem sP {v : V} {u : Value} {A : Around} {Q : Value → Shared → Prop} {E : Value → Shared → Prop} {k : Nat} {o : Option V} (H : aY Γ μ σ s.heap) (V : VR Γ μ σ.length s.heap v u) (e : gN v σ k = some o)
  (c : ∀ ob, rQ Γ v s.heap.objs.size μ σ.length (s.heap.push ob) 0 → Q (.ref s.heap.objs.size) { s with heap := s.heap.push ob }) : wpAny Γ.M A (pyIter u) Q E s := by
 cases v with
 | tup _ =>
  obtain ⟨_, _, _, rfl, ht, hs⟩ := V.tupI
  exact PySem.wpAny_pyIter_tuple ⟨_, ht, rfl, _, rfl⟩ (c _ ⟨H.kZ, .tup (Heap.get?_push_of_some _ ht) (hs.mono (.push _ _) (fun _ _ => rfl) (Nat.le_refl _)) ⟨_, Heap.get?_push_size _ rfl, rfl, rfl⟩⟩)
 | obj _ =>
  cases V.j5.1
  obtain ⟨l, hl', e⟩ := Option.map_eq_some_iff.mp e
  obtain ⟨hi, items, kk, hL, hs⟩ := H.list hl'
  exact wpAny_pyIter_list hL.isList (c _ ⟨H.kZ, .obj hi ⟨_, Heap.get?_push_size _ rfl, rfl, rfl⟩⟩)
 | range x y =>
  obtain ⟨hb, e⟩ := cJ e
  obtain ⟨_, tt, uu, vv, rfl, hr⟩ := V.Ht
  refine PySem.wpAny_pyIter_range hr (small_one (by lia) (by lia) (by lia) (by lia)) (c _ ⟨H.kZ, .range (left := Builtin.Range.rangeSize x y 1) ?_ ?_⟩)
  ·rw [show x + ((0 : Nat) : Int) = x from Int.add_zero x]; exact Heap.get?_push_size _ rfl
  ·rw [rangeSize_one]; split <;> lia
 | _ => exact nS e
noncomputable def XS.for (f : X V) (a : XA) (g : XS) (fuel : Nat) : XS := fun ρ σ => match f ρ σ with
 | some (v, σ₁) => XS.uI (gN v) a g fuel 0 ρ σ₁
 | none => none
theorem DO {get : St → Nat → Option (Option V)} {a : XA} {g : XS} {fuel k : Nat} {r : Fl × Loc × St} (e : XS.uI get a g fuel k ρ σ = some r) : ∃ o, get σ k = some o := by
 cases fuel with
 | zero => cases e
 | succ n =>
  unfold XS.uI at e
  split at e
  ·cases e
  ·exact ⟨_, by assumption⟩
  ·exact ⟨_, by assumption⟩
theorem aM.for {t e : PySem.Expr} {b : List Stmt} {pos : Pos} {f : X V} {a : XA} {g : XS} (fuel : Nat) (hf : aC Γ d cx e f) (ha : eC Γ d cx t a) (hg : aE Γ d cx b g) (hs : ∀ env x, foldedSetIterable e env x = pure x) :
  aM Γ d cx (.For t e b [] pos) (XS.for f a g fuel) := fun A env μ ρ σ s fl cI σ' Q E r H R e' c => by
 unfold XS.for at e'
 split at e'
 case h_2 => cases e'
 rename_i v σ₁ e1
 obtain ⟨o, ho⟩ := DO e'
 refine wpAny_For (hf A env μ ρ σ s v σ₁ _ E r H R e1 fun u aI s₁ H₁ S₁ cN => ?_) (hs env)
 refine sP H₁ cN ho fun ob x => ?_
 have T : Step (Own aI σ₁.length) aI σ₁.length s₁ aI σ₁.length { s₁ with heap := s₁.heap.push ob } := .push _
 have S₂ := S₁.tF (Γ := Γ) (cx := cx) (env := env) |>.fE T.tF
 refine BL (tH v _) trivial ha hg r s μ σ.length (fun b hb => ?_) fuel 0 S₂ (H₁.push ob) ((R.step H S₁).step H₁ T) x e' fun w dU s' H' S' R' V' => c w dU s' H' S' R' V'
 rw [List.mem_singleton] at hb; subst hb
 cases q : s.heap.get? s₁.heap.objs.size with
 | none => rfl
 | some o => obtain ⟨o', e'⟩ := S₁.live _ _ q; exact absurd (Heap.lt_size e') (Nat.lt_irrefl _)
end
section
variable {Γ : gK} {cx cy : Cx} {d : Nat} {env : Env} {μ aI bA : Nat → Addr} {n n₁ n₂ : Nat} {ρ : Loc} {s s₁ s₂ : Shared} {σ σ₁ : St}
theorem tG {v : V} {it : Addr} {A : Around} {k : Nat} {Q : Value → Shared → Prop} {E : Value → Shared → Prop} (x : rQ Γ v it μ n s.heap k) (h : Q (.ref it) s) : wpAny Γ.M A (pyIter (.ref it)) Q E s := by
 obtain ⟨_, x⟩ := x
 cases x with
 | tup _ _ hi => exact PySem.wpAny_pyIter_tupleiter hi h
 | obj _ hl => exact PySem.wpAny_pyIter_listiter hl h
 | range hi _ => exact PySem.wpAny_pyIter_rangeiter hi h
noncomputable abbrev XC := Nat → Loc → St → Option (Loc × St)
noncomputable def v6 (Γ : gK) (d : Nat) (cx : Cx) (t : Env → Value → Sem Unit) (g : XC) : Prop :=
 ∀ (A : Around) (env : Env) (μ : Nat → Addr) (ρ : Loc) (σ : St) (s : Shared) (j : Nat) (cI : Loc) (σ' : St) (Q : Unit → Shared → Prop) (E : Value → Shared → Prop),
  fN A d → aY Γ μ σ s.heap → dK Γ cx env μ σ.length ρ s.heap → j < σ.length → g j ρ σ = some (cI, σ') →
  (∀ dU s', aY Γ dU σ' s'.heap → Step (iX Γ cx env μ σ.length) μ σ.length s dU σ'.length s' → dK Γ cx env dU σ'.length cI s'.heap → Q () s') → wpAny Γ.M A (t env (.ref (μ j))) Q E s
noncomputable def XC.emit (f : X V) : XC := fun j ρ σ => match f ρ σ with
 | some (v, σ₁) => match getL σ₁ j with
  | some l => if l.length ≤ 100000 then some (ρ, σ₁.set j (.list (l ++ [v]))) else none
  | none => none
 | none => none
noncomputable def XC.uL (f g : X V) : XC := fun j ρ σ => match f ρ σ with
 | some (.int k, σ₁) => match g ρ σ₁ with
  | some (v, σ₂) => match eF σ₂ j with
   | some l => if l.length ≤ 100000 then some (ρ, σ₂.set j (.cA (eU l k v))) else none
   | none => none
  | none => none
 | _ => none
theorem IL {f : X V} {j : Nat} {cI : Loc} {σ' : St} (e : XC.emit f j ρ σ = some (cI, σ')) : E3 fun v σ₁ l => A5 (f ρ σ = some (v, σ₁)) (getL σ₁ j = some l) (l.length ≤ 100000) (ρ = cI) (σ₁.set j (.list (l ++ [v])) = σ') := by
 unfold XC.emit at e
 split at e
 case h_2 => cases e
 split at e
 case h_2 => cases e
 split at e <;> cases e
 exact ⟨_, _, _, by assumption, by assumption, by assumption, rfl, rfl⟩
theorem GZ {f g : X V} {j : Nat} {cI : Loc} {σ' : St} (e : XC.uL f g j ρ σ = some (cI, σ')) : E5 fun k σ₁ v σ₂ l => A6 (f ρ σ = some (.int k, σ₁)) (g ρ σ₁ = some (v, σ₂)) (eF σ₂ j = some l) (l.length ≤ 100000) (ρ = cI) (σ₂.set j (.cA (eU l k v)) = σ') := by
 unfold XC.uL at e
 cases e1 : f ρ σ with
 | none => rw [e1] at e; exact nS e
 | some q =>
 obtain ⟨v, σ₁⟩ := q
 rw [e1] at e
 cases v with
 | int k =>
 dsimp only at e
 split at e
 case h_2 => cases e
 split at e
 case h_2 => cases e
 split at e <;> cases e
 exact ⟨_, _, _, _, _, rfl, by assumption, by assumption, by assumption, rfl, rfl⟩
 | _ => exact nS e
theorem u9 {A : Around} {E : Value → Shared → Prop} {Q : Value → Shared → Prop} {j : Nat} {l : List V} {v : V} {u : Value} (H : aY Γ μ σ s.heap) (hl : getL σ j = some l) (hlen : l.length ≤ 100000) (V : VR Γ μ σ.length s.heap v u)
  (c : ∀ h', aY Γ μ (σ.set j (.list (l ++ [v]))) h' → Step (Own μ σ.length) μ σ.length s μ σ.length { s with heap := h' } → Q .none { s with heap := h' }) :
  wpAny Γ.M A (call (.builtin "list.append") [.ref (μ j), u]) Q E s := by
 obtain ⟨hj, items, k, hL, hs⟩ := H.list hl
 have hsl := hs.length
 simp only [Array.length_toList] at hsl
 have eT : typeLookup (.type "list") "append" = pure (some (.builtin "list.append")) := slot_list_append.lookup
 refine wpAny_call_entry slot_list_append hL.isList.typeIs entry_list_append ?_ (args_list_append _ _)
 show wpAny _ _ (updateSeq (μ j) (·.push u) >>= fun _ => ret .none) _ _ s
 refine wpAny_bind (wpAny_updateSeq hL rfl ?_ (by rw [sizeLine_eq]; lia) (by rw [Array.size_push, sizeLine_eq]; lia))
 have same : Heap.SameBut (μ j) s.heap (s.heap.update (μ j) (Obj.mapSeq (·.push u))) := Heap.SameBut.update ..
 have hL' := hL.update (·.push u)
 refine wpAny_pure ⟨.none, rfl, c _ (H.set hj same fun kf => ⟨_, _, hL', ?_⟩) (Step.set ⟨j, hj, rfl⟩ same ⟨_, hL'⟩ s.toks)⟩
 rw [Array.toList_push]
 exact (hs.append (.cons V .nil)).mono kf (fun _ _ => rfl) (Nat.le_refl _)
theorem dK.own (R : dK Γ cx env μ σ.length ρ s.heap) (H : aY Γ μ σ s.heap) {s' : Shared} (S : Step (Own μ σ.length) μ σ.length s μ σ.length s') : dK Γ cx env μ σ.length ρ s'.heap := R.step H S
theorem v6.emit {e : PySem.Expr} {f : X V} (hf : aC Γ d cx e f) : v6 Γ d cx (fun env acc => do let _ ← call (.builtin "list.append") [acc, ← eval e env]) (XC.emit f) := fun A env μ ρ σ s j cI σ' Q E r H R hj e c => by
 refine byC fun hG => ?_
 obtain ⟨v, σ₁, l, e1, hl, hlen, rfl, rfl⟩ := IL e
 have e0 : (σ₁.set j (O.list (l ++ [v]))).length = σ₁.length := List.length_set ..
 refine hG (wpAny_bind (hf A env μ ρ σ s v σ₁ _ E r H R e1 fun u aI s₁ H₁ S₁ cN => ?_))
 clear hG
 rw [← S₁.agree j hj]
 exact wpAny_bind (u9 H₁ hl hlen cN fun h' H' S' => wpAny_pure (c aI _ H' (e0.symm ▸ (S₁.then S').tF) (e0.symm ▸ (R.step H S₁).own H₁ S')))
theorem v6.uL {ke ve : PySem.Expr} {f g : X V} {p : Pos} (hf : aC Γ d cx ke f) (hg : aC Γ d cx ve g) : v6 Γ d cx (fun env acc => do
  let kv ← eval ke env
  let vv ← holding [kv] (eval ve env)
  match acc with
  | .ref d => do
   standAt p
   holding [kv, vv] (dictSet d kv vv)
  | _ => unsupported "internal:dictcomp") (XC.uL f g) := fun A env μ ρ σ s j cI σ' Q E r H R hj e c => by
 refine byC fun hG => ?_
 obtain ⟨k, σ₁, v, σ₂, l, e1, e2, hl, hlen, rfl, rfl⟩ := GZ e
 have e0 : (σ₂.set j (O.cA (eU l k v))).length = σ₂.length := List.length_set ..
 refine hG (wpAny_bind (hf A env μ ρ σ s _ σ₁ _ E r H R e1 fun u aI s₁ H₁ S₁ cN => ?_))
 clear hG
 obtain ⟨_, rfl⟩ := cN.f0
 have iO := R.step H S₁
 refine wpAny_bind (wpAny_holding (hg A env aI ρ σ₁ s₁ v σ₂ _ E r H₁ iO e2 fun w bA s₂ cM S₂ eQ => ?_))
 have S := S₁.then S₂
 rw [← S.agree j hj]
 obtain ⟨hi, kvs, hd, hr⟩ := cM.cA hl
 refine wpAny_bind (wpAny_standAt (wpAny_holding (wpAny_dictSet_pairs (intKind_is _ _ _ _) hd (fun h' hd' hs' => ?_) (by rw [hr.length, sizeLine_eq]; lia))))
 have T : Step (Own bA σ₂.length) bA σ₂.length s₂ bA σ₂.length { s₂ with heap := h', toks := s₂.toks + 1 } := Step.set ⟨j, hi, rfl⟩ hs' (let ⟨o, _, _, ho, _⟩ := hd'; ⟨o, ho⟩) _
 have q := hr.set k eQ
 exact c bA _ (cM.set hi hs' fun kf => ⟨_, hd', q.1, q.2.mono kf (fun _ _ => rfl) (Nat.le_refl _)⟩) (e0.symm ▸ (S.then T).tF) (e0.symm ▸ (iO.step H₁ S₂).own cM T)
noncomputable def j4 (t iter : PySem.Expr) (ifs : List PySem.Expr) (it : Value) (env : Env) (emit : Sem Unit) (ag : Code) : Sem Fin := do
 standAt iter.pos
 match ← pyNext it with
 | none => pure (.done .next)
 | some v =>
  letOwnedTupleGo t it v
  assign t env v
  let mut ok := true
  for c in ifs do
   if ok then ok ← isTrue c env (eval c env)
  if ok then
   emit
  again ag
noncomputable def XC.test (t : Option (X Bool)) : X Bool := fun ρ σ => match t with
 | none => some (true, σ)
 | some t => t ρ σ
noncomputable def XC.loop (get : St → Nat → Option (Option V)) (a : XA) (t : Option (X Bool)) (g : XC) : Nat → Nat → XC
 | 0, _ => fun _ _ _ => none
 | n + 1, k => fun j ρ σ => match get σ k with
  | none => none
  | some none => some (ρ, σ)
  | some (some v) => match a v ρ σ with
   | none => none
   | some (c7, σ₁) => match XC.test t c7 σ₁ with
    | none => none
    | some (false, σ₂) => XC.loop get a t g n (k + 1) j c7 σ₂
    | some (true, σ₂) => match g j c7 σ₂ with
     | none => none
     | some (G8, jX) => XC.loop get a t g n (k + 1) j G8 jX
inductive mD (Γ : gK) (d : Nat) (cx : Cx) : List PySem.Expr → Option (X Bool) → Prop
 | nil : mD Γ d cx [] none
 | one {c : PySem.Expr} {t : X Bool} : bK Γ d cx c t → mD Γ d cx [c] (some t)
theorem BH {ifs : List PySem.Expr} {t : Option (X Bool)} (h : mD Γ d cx ifs t) {A : Around} {Q : Bool → Shared → Prop} {E : Value → Shared → Prop} {b : Bool} (r : fN A d) (H : aY Γ μ σ s.heap) (R : dK Γ cx env μ σ.length ρ s.heap)
  (e : XC.test t ρ σ = some (b, σ₁)) (c : ∀ dU s', aY Γ dU σ₁ s'.heap → Step (Own μ σ.length) μ σ.length s dU σ₁.length s' → Q b s') :
  wpAny Γ.M A (forIn ifs true fun c r => if r = true then do let ok ← isTrue c env (eval c env); pure (ForInStep.yield ok) else pure (ForInStep.yield r)) Q E s := by
 cases h with
 | nil => cases e; exact wpAny_tests_nil (c μ s H .refl)
 | one h => exact wpAny_tests_one (h A env μ ρ σ s b σ₁ _ E r H R e c)
theorem Step.DB (S : Step (Own μ n) μ n s aI n₁ s₁) (b : Addr) (h : s₁.heap.get? b = none) : s.heap.get? b = none := by
 cases q : s.heap.get? b with
 | none => rfl
 | some o => obtain ⟨o', e⟩ := S.live _ _ q; rw [e] at h; cases h
inductive LoopStep (get : St → Nat → Option (Option V)) (a : XA) (t : Option (X Bool)) (g : XC) (m k j : Nat) (ρ : Loc) (σ : St) (cI : Loc) (σ' : St) : Prop
 | stop : get σ k = some none → ρ = cI → σ = σ' → LoopStep get a t g m k j ρ σ cI σ'
 | skip {v : V} {c7 : Loc} {σ₁ σ₂ : St} : get σ k = some (some v) → a v ρ σ = some (c7, σ₁) → XC.test t c7 σ₁ = some (false, σ₂) → XC.loop get a t g m (k + 1) j c7 σ₂ = some (cI, σ') → LoopStep get a t g m k j ρ σ cI σ'
 | put {v : V} {c7 pF : Loc} {σ₁ σ₂ jX : St} : get σ k = some (some v) → a v ρ σ = some (c7, σ₁) → XC.test t c7 σ₁ = some (true, σ₂) → g j c7 σ₂ = some (pF, jX) → XC.loop get a t g m (k + 1) j pF jX = some (cI, σ') → LoopStep get a t g m k j ρ σ cI σ'
theorem HZ {get : St → Nat → Option (Option V)} {a : XA} {t : Option (X Bool)} {g : XC} {m k j : Nat} {cI : Loc} {σ' : St} (e : XC.loop get a t g (m + 1) k j ρ σ = some (cI, σ')) : LoopStep get a t g m k j ρ σ cI σ' := by
 unfold XC.loop at e
 split at e
 ·cases e
 ·cases e; exact .stop (by assumption) rfl rfl
 ·split at e
  ·cases e
  split at e
  ·cases e
  ·exact .skip (by assumption) (by assumption) (by assumption) e
  ·split at e
   ·cases e
   exact .put (by assumption) (by assumption) (by assumption) (by assumption) e
inductive NM (Γ : gK) (cx : Cx) (env : Env) (jY : Nat → Addr) (n₀ : Nat) (s₀ : Shared) (v : V) (it acc : Addr) (a : XA) (tt : Option (X Bool)) (g : XC) (j : Nat) (cI : Loc) (σ' : St) (m : Nat) (s₁ : Shared) (k : Nat) (aI : Nat → Addr) (c7 : Loc) (σ₁ : St) : Prop
 | intro (H : aY Γ aI σ₁ s₁.heap) (S : Step (iX Γ cx env jY n₀) jY n₀ s₀ aI σ₁.length s₁) (R : dK Γ cx env aI σ₁.length c7 s₁.heap) (x : rQ Γ v it aI σ₁.length s₁.heap k) (hj : j < σ₁.length) (hacc : aI j = acc) (e : XC.loop (gN v) a tt g m k j c7 σ₁ = some (cI, σ'))
theorem z5 {e : PySem.Expr} {dep : Nat} {it : Addr} {v : V} {t iter : PySem.Expr} {ifs : List PySem.Expr} {emit : Env → Value → Sem Unit} {a : XA} {tt : Option (X Bool)} {g : XC} {A : Around} {j : Nat} {cI : Loc} {σ' : St} {R' : Result → Shared → Prop}
  (hu : ∀ (A : Around) it acc env, A.under (.compLoop e dep it acc env) = A) (hden : ∀ it acc env, denote table (.compLoop e dep it acc env) = (compTurn e dep it acc env).onRaise (fun x => do noteFrame x env; theTreesLotGoes x)) (htree : ∀ it acc env, compTurn e dep it acc env = j4 t iter ifs it env (emit env acc) (.compLoop e dep it acc env))
  (ha : eC Γ d cx t a) (hi : mD Γ d cx ifs tt) (hg : v6 Γ d cx emit g) (r : fN A d) (s₀ : Shared) (jY : Nat → Addr) (n₀ : Nat) (acc : Addr) (hj : j < σ.length) (hacc : μ j = acc) (hfp : s₀.heap.get? it = none) (fuel : Nat) (k : Nat)
  (S : Step (iX Γ cx env jY n₀) jY n₀ s₀ μ σ.length s) (H : aY Γ μ σ s.heap) (R : dK Γ cx env μ σ.length ρ s.heap) (x : rQ Γ v it μ σ.length s.heap k) (ee : XC.loop (gN v) a tt g fuel k j ρ σ = some (cI, σ'))
  (c : ∀ dU s', aY Γ dU σ' s'.heap → Step (iX Γ cx env jY n₀) jY n₀ s₀ dU σ'.length s' → dK Γ cx env dU σ'.length cI s'.heap → j < σ'.length → dU j = acc → R' (.ok .next) s') :
  codeAny Γ.M A (.compLoop e dep (.ref it) (.ref acc) env) R' s := by
 have I := tH (Γ := Γ) (d := d) v it
 have LM : ∀ b ∈ [it], s₀.heap.get? b = none := fun b hb => by rw [List.mem_singleton.mp hb]; exact hfp
 refine codeAny_loop rfl (fun m s₁ => E4 (NM Γ cx env jY n₀ s₀ v it acc a tt g j cI σ' m s₁)) ?_ fuel ⟨k, μ, ρ, σ, H, S, R, x, hj, hacc, ee⟩
 rintro m s₁ ⟨k, aI, c7, σ₁, H₁, S₁, iO, x₁, hj, hacc, e₁⟩
 rw [hu]
 show wpAny _ A (denote table (.compLoop e dep (.ref it) (.ref acc) env)) _ _ s₁
 rw [hden]
 refine wpAny_noted ?_
 rw [htree]
 unfold j4
 refine wpAny_bind (wpAny_standAt (wpAny_bind ?_))
 cases m with
 | zero => cases e₁
 | succ m =>
  have hf := I.objs x₁
  cases HZ e₁ with
  | stop hget e2 e3 =>
   subst e2 e3
   exact I.stop r H₁ x₁ hget fun s₂ kb al => wpAny_pure (c aI s₂ (H₁.d0 kb hf) (S₁.d0 LM kb al) (iO.d0 kb hf) hj hacc)
  | skip hget e2 e3 e₁ =>
   refine I.item r H₁ x₁ hget fun u s₂ EY => wpAny_bind (EY t _ _ trivial fun s₃ kb al x₃ V₃ => ?_)
   have f9 := H₁.d0 kb hf
   have rO := iO.d0 kb hf
   refine wpAny_bind (ha A env aI c7 σ₁ s₃ _ u _ _ _ _ r f9 rO V₃ e2 fun pG s₄ nT mC R₄ => wpAny_bind (BH hi r nT R₄ e3 fun oU s₅ xV jR => ?_))
   rw [if_neg (by decide)]
   exact wpAny_pure ⟨rfl, m, Nat.lt_succ_self m, ⟨k + 1, oU, _, _, xV, ((S₁.d0 LM kb al).fE mC).fE jR.tF, R₄.step nT jR, I.step (I.step x₃ f9 rO mC) nT R₄ jR.tF, Nat.lt_of_lt_of_le hj (Nat.le_trans mC.le jR.le), (jR.agree j (Nat.lt_of_lt_of_le hj mC.le)).trans ((mC.agree j hj).trans hacc), e₁⟩⟩
  | put hget e2 e3 e4 e₁ =>
   refine I.item r H₁ x₁ hget fun u s₂ EY => wpAny_bind (EY t _ _ trivial fun s₃ kb al x₃ V₃ => ?_)
   have f9 := H₁.d0 kb hf
   have rO := iO.d0 kb hf
   refine wpAny_bind (ha A env aI c7 σ₁ s₃ _ u _ _ _ _ r f9 rO V₃ e2 fun pG s₄ nT mC R₄ => wpAny_bind (BH hi r nT R₄ e3 fun oU s₅ xV jR => ?_))
   have R₅ := R₄.step nT jR
   have DI := Nat.lt_of_lt_of_le hj (Nat.le_trans mC.le jR.le)
   have CE := (jR.agree j (Nat.lt_of_lt_of_le hj mC.le)).trans ((mC.agree j hj).trans hacc)
   rw [if_pos rfl, ← CE]
   exact wpAny_bind (hg A env oU _ _ s₅ j _ _ _ _ r xV R₅ DI e4 fun Mu s₇ O8 Kg O0 => wpAny_pure ⟨rfl, m, Nat.lt_succ_self m, ⟨k + 1, Mu, _, _, O8, (((S₁.d0 LM kb al).fE mC).fE jR.tF).fE Kg, O0, I.step (I.step (I.step x₃ f9 rO mC) nT R₄ jR.tF) xV R₅ Kg, Nat.lt_of_lt_of_le DI Kg.le, Kg.agree j DI, e₁⟩⟩)
theorem pI {elt t iter : PySem.Expr} {ifs : List PySem.Expr} {rest : List Comprehension} {sc : Scope} {pos : Pos} {it : Addr} {acc : Value} {A : Around} {R' : Result → Shared → Prop} {v : V} {k : Nat} (x : rQ Γ v it μ n s.heap k)
  (h : codeAny Γ.M A (.compLoop (.ListComp elt (⟨t, iter, ifs, 0⟩ :: rest) sc pos) 0 (.ref it) acc env) R' s) : codeAny Γ.M A (.compStart (.ListComp elt (⟨t, iter, ifs, 0⟩ :: rest) sc pos) 0 (.ref it) acc env) R' s :=
 codeAny_compStart_list h (tG x h)
theorem Cd {elt t iter t2 eZ : PySem.Expr} {ifs oF : List PySem.Expr} {sc : Scope} {pos : Pos} {it : Addr} {acc : Value} {A : Around} {R' : Result → Shared → Prop} {v : V} {k : Nat} (x : rQ Γ v it μ n s.heap k)
  (h : codeAny Γ.M A (.compLoop (.ListComp elt [⟨t, iter, ifs, 0⟩, ⟨t2, eZ, oF, 0⟩] sc pos) 1 (.ref it) acc env) R' s) : codeAny Γ.M A (.compStart (.ListComp elt [⟨t, iter, ifs, 0⟩, ⟨t2, eZ, oF, 0⟩] sc pos) 1 (.ref it) acc env) R' s := by
 refine codeAny_of_tree ?_
 show wpAny _ _ ((compStart (.ListComp elt [⟨t, iter, ifs, 0⟩, ⟨t2, eZ, oF, 0⟩] sc pos) 1 (.ref it) acc env).onRaise (fun x => do noteFrame x env; standAt theWindowsPlace)) _ _ s
 refine wpAny_notedAt ?_
 unfold compStart
 show wpAny _ _ (ask >>= _) _ _ s
 refine wpAny_bind (wpAny_askSetting (wpAny_ite ?_))
 split
 ·first
   | exact wpAny_bind (wpAny_pure (wpAny_pure (And.intro rfl h)))
   | exact wpAny_pure (And.intro rfl h)
 ·first
   | exact wpAny_bind (wpAny_rule (wpAny_bind (wpAny_standAt (wpAny_bind (tG x (wpAny_pure (And.intro rfl h)))))))
   | (refine wpAny_bind (wpAny_rule ?_); show wpAny _ _ (standAt eZ.pos >>= _) _ _ s; exact wpAny_bind (wpAny_standAt (wpAny_bind (tG x (wpAny_pure (And.intro rfl h))))))
theorem Cc {ke ve t iter : PySem.Expr} {ifs : List PySem.Expr} {rest : List Comprehension} {sc : Scope} {pos : Pos} {it : Addr} {acc : Value} {A : Around} {R' : Result → Shared → Prop} {v : V} {k : Nat} (x : rQ Γ v it μ n s.heap k)
  (h : codeAny Γ.M A (.compLoop (.DictComp ke ve (⟨t, iter, ifs, 0⟩ :: rest) sc pos) 0 (.ref it) acc env) R' s) : codeAny Γ.M A (.compStart (.DictComp ke ve (⟨t, iter, ifs, 0⟩ :: rest) sc pos) 0 (.ref it) acc env) R' s :=
 codeAny_compStart_dict h (tG x h)
theorem Kl (elt t iter : PySem.Expr) (ifs : List PySem.Expr) (sc : Scope) (pos : Pos) (it acc : Value) (env : Env) :
 compTurn (.ListComp elt [⟨t, iter, ifs, 0⟩] sc pos) 0 it acc env = j4 t iter ifs it env (do let _ ← call (.builtin "list.append") [acc, ← eval elt env]) (.compLoop (.ListComp elt [⟨t, iter, ifs, 0⟩] sc pos) 0 it acc env) := by rfl
theorem MB (ke ve t iter : PySem.Expr) (ifs : List PySem.Expr) (sc : Scope) (pos : Pos) (it acc : Value) (env : Env) :
 compTurn (.DictComp ke ve [⟨t, iter, ifs, 0⟩] sc pos) 0 it acc env = j4 t iter ifs it env (do
  let kv ← eval ke env
  let vv ← holding [kv] (eval ve env)
  match acc with
  | .ref d => do
   standAt { ke.pos with endLine := ve.pos.endLine, endCol := ve.pos.endCol }
   holding [kv, vv] (dictSet d kv vv)
  | _ => unsupported "internal:dictcomp") (.compLoop (.DictComp ke ve [⟨t, iter, ifs, 0⟩] sc pos) 0 it acc env) := by rfl
theorem K8 (elt t iter t2 eZ : PySem.Expr) (ifs oF : List PySem.Expr) (sc : Scope) (pos : Pos) (it acc : Value) (env : Env) :
  compTurn (.ListComp elt [⟨t, iter, ifs, 0⟩, ⟨t2, eZ, oF, 0⟩] sc pos) 0 it acc env = j4 t iter ifs it env (do
   let x ← eval eZ env
   standAt eZ.pos
   let x ← foldedSetIterable eZ env x
   let _ ← runOwn (.compStart (.ListComp elt [⟨t, iter, ifs, 0⟩, ⟨t2, eZ, oF, 0⟩] sc pos) 1 (← holding [x] (pyIter x)) acc env) env) (.compLoop (.ListComp elt [⟨t, iter, ifs, 0⟩, ⟨t2, eZ, oF, 0⟩] sc pos) 0 it acc env) := by
 unfold j4
 simp only [bind_assoc, pure_bind]
 rfl
theorem K7 (elt t iter t2 eZ : PySem.Expr) (ifs oF : List PySem.Expr) (sc : Scope) (pos : Pos) (it acc : Value) (env : Env) :
 compTurn (.ListComp elt [⟨t, iter, ifs, 0⟩, ⟨t2, eZ, oF, 0⟩] sc pos) 1 it acc env = j4 t2 eZ oF it env (do let _ ← call (.builtin "list.append") [acc, ← eval elt env]) (.compLoop (.ListComp elt [⟨t, iter, ifs, 0⟩, ⟨t2, eZ, oF, 0⟩] sc pos) 1 it acc env) := by rfl
theorem H0 {get : St → Nat → Option (Option V)} {a : XA} {t : Option (X Bool)} {g : XC} {fuel k j : Nat} {r : Loc × St} (e : XC.loop get a t g fuel k j ρ σ = some r) : ∃ o, get σ k = some o := by
 cases fuel with
 | zero => cases e
 | succ n =>
  unfold XC.loop at e
  split at e
  ·cases e
  ·exact ⟨_, by assumption⟩
  ·exact ⟨_, by assumption⟩
noncomputable def XC.nest (f : X V) (a : XA) (t : Option (X Bool)) (g : XC) (fuel : Nat) : XC := fun j ρ σ => match f ρ σ with
 | some (v, σ₁) => XC.loop (gN v) a t g fuel 0 j ρ σ₁
 | none => none
theorem v6.nest {elt t iter t2 eZ : PySem.Expr} {ifs oF : List PySem.Expr} {sc : Scope} {pos : Pos} {f fe : X V} {a : XA} {tt : Option (X Bool)} (fuel : Nat) (hf : aC Γ d cx eZ f) (ha : eC Γ d cx t2 a) (hi : mD Γ d cx oF tt) (he : aC Γ d cx elt fe)
  (hs : ∀ env x, foldedSetIterable eZ env x = pure x) :
  v6 Γ d cx (fun env acc => do
   let x ← eval eZ env
   standAt eZ.pos
   let x ← foldedSetIterable eZ env x
   let _ ← runOwn (.compStart (.ListComp elt [⟨t, iter, ifs, 0⟩, ⟨t2, eZ, oF, 0⟩] sc pos) 1 (← holding [x] (pyIter x)) acc env) env) (XC.nest f a tt (XC.emit fe) fuel) := fun A env μ ρ σ s j cI σ' Q E r H R hj e c => by
 unfold XC.nest at e
 split at e
 case h_2 => cases e
 rename_i v σ₁ e1
 obtain ⟨o, ho⟩ := H0 e
 refine wpAny_bind (hf A env μ ρ σ s v σ₁ _ E r H R e1 fun u aI s₁ H₁ S₁ cN => wpAny_bind (wpAny_standAt (wpAny_bind (wpAny_of_eq (hs env u) (wpAny_bind (wpAny_holding (sP H₁ cN ho fun ob x => ?_)))))))
 have T : Step (Own aI σ₁.length) aI σ₁.length s₁ aI σ₁.length { s₁ with heap := s₁.heap.push ob } := .push _
 have S₂ := S₁.then T
 refine wpAny_bind (wpAny_runOwn (Cd x ?_))
 rw [← S₂.agree j hj]
 have e0 := S₂.agree j hj
 have hA : A.mark none = A := rfl
 refine z5 (fun _ _ _ _ => rfl) (fun _ _ _ => rfl) (K7 elt t iter t2 eZ ifs oF sc pos) ha hi (v6.emit he) r s₁ aI σ₁.length _ (Nat.lt_of_lt_of_le hj S₁.le) rfl (eS _) fuel 0 T.tF (H₁.push ob) ((R.step H S₁).step H₁ T) x e fun dU s' H' S' R' _ _ => ?_
 exact wpAny_pure (c dU s' H' (S₁.tF.fE S') R')
end
section
variable {locs : List Nat} {Γ : gK} {cx cy : Cx} {d : Nat} {env : Env} {μ aI bA : Nat → Addr} {n n₁ n₂ : Nat} {ρ : Loc} {s s₁ s₂ : Shared} {σ σ₁ : St}
noncomputable def KZ (l : List Nat) (ρ : Loc) : Loc := l.foldl (fun ρ i => ρ.set i none) ρ
theorem CO : ∀ (l : List Nat) (ρ : Loc) (i : Nat) (v : V), (KZ l ρ)[i]? = some (some v) → i ∉ l ∧ ρ[i]? = some (some v)
 | [], _, _, _, e => ⟨by simp, e⟩
 | a :: l, ρ, i, v, e => by
  obtain ⟨h1, h2⟩ := CO l (ρ.set a none) i v e
  by_cases h : a = i
  ·subst h
   rw [List.getElem?_set] at h2
   simp at h2
  ·rw [List.getElem?_set_ne h] at h2
   exact ⟨by simp [h1]; exact fun z => h z.symm, h2⟩
noncomputable def wY (env : Env) : List (Str × NameKind) → List (Str × Addr) → List (Str × Addr)
 | [], acc => acc
 | (n, k) :: r, acc => wY env r (if k == .free then (n, (env.cells.lookup n).getD 0) :: acc else acc)
theorem Kb : ∀ (names : List (Str × NameKind)) (acc : List (Str × Addr)), (∀ p ∈ names, p.2 = .free → (env.cells.lookup p.1).isSome = true) →
  (forIn names acc fun (p : Str × NameKind) cs => if p.2 == .free then (do let a ← cellOf env p.1; Pure.pure (ForInStep.yield ((p.1, a) :: cs))) else (Pure.pure (ForInStep.yield cs) : Sem (ForInStep (List (Str × Addr))))) = Pure.pure (wY env names acc) := by
 intro names
 induction names with
 | nil => intro acc _; rw [List.forIn_nil]; rfl
 | cons q r ih =>
  intro acc h
  obtain ⟨n, k⟩ := q
  rw [List.forIn_cons]
  replace ih := fun acc => ih acc fun p hp => h p (.tail _ hp)
  unfold wY
  by_cases hk : k = .free
  ·subst hk
   obtain ⟨a, ha⟩ := Option.isSome_iff_exists.mp (h (n, .free) (.head _) rfl)
   simp only [beq_self_eq_true, if_true]
   unfold cellOf
   rw [ha]
   simp only [pure_bind, Option.getD_some]
   exact ih _
  ·have : (k == NameKind.free) = false := by simpa using hk
   simp only [this, Bool.false_eq_true, if_false, pure_bind]
   exact ih _
theorem Bi {scope : Scope} (h : ∀ p ∈ scope.names, p.2 = .free → (env.cells.lookup p.1).isSome = true) : closureFor scope env = pure (wY env scope.names []) := by
 have := Kb (env := env) scope.names [] h
 unfold closureFor
 rw [← this]
 show (_ >>= fun r => Pure.pure r) = _
 rw [bind_pure]
theorem k9 : ∀ (names : List (Str × NameKind)) (acc : List (Str × Addr)) (x : Str), (∀ p ∈ names, p.2 = .free → (env.cells.lookup p.1).isSome = true) →
  ((x, NameKind.free) ∈ names ∨ acc.lookup x = env.cells.lookup x) → (wY env names acc).lookup x = env.cells.lookup x := by
 intro names
 induction names with
 | nil =>
  intro acc x _ h
  rcases h with h | h
  ·cases h
  ·exact h
 | cons q r ih =>
  intro acc x hs h
  obtain ⟨n, k⟩ := q
  unfold wY
  refine ih _ x (fun p hp => hs p (.tail _ hp)) ?_
  by_cases hk : k = .free
  ·subst hk
   simp only [beq_self_eq_true, if_true]
   by_cases hx : x = n
   ·subst hx
    obtain ⟨a, ha⟩ := Option.isSome_iff_exists.mp (hs (x, .free) (.head _) rfl)
    exact .inr (by simp [ha])
   ·have hx' : (x == n) = false := by simpa using hx
    rcases h with h | h
    ·rcases List.mem_cons.mp h with q | q
     ·cases q; exact absurd rfl hx
     ·exact .inl q
    ·exact .inr (by rw [List.lookup_cons, hx']; exact h)
  ·have : (k == NameKind.free) = false := by simpa using hk
   simp only [this, Bool.false_eq_true, if_false]
   rcases h with h | h
   ·rcases List.mem_cons.mp h with q | q
    ·cases q; exact absurd rfl hk
    ·exact .inl q
   ·exact .inr h
noncomputable def tQ (cx : Cx) (scope : Scope) : Scope := { scope with names := scope.names.map fun (n, k) => if (k == .free && cx.sc.kind == .function && cx.sc.names.lookup n == some .cell) then (n, .cell) else (n, k) }
theorem Hs (R : dK Γ cx env μ n ρ s.heap) (scope : Scope) : relabel scope env = tQ cx scope := by
 unfold relabel tQ Env.kindOf
 rw [R.scope]
structure fL (Γ : gK) (cx cy : Cx) (scope : Scope) (locs : List Nat) : Prop where
 sc : cy.sc = tQ cx scope
 kind : scope.kind = .function
 fn : cy.fn = false
 ok : aR Γ cy
 own : ∀ p ∈ cy.vars, f8 Γ cy p.2 = some .local → p.1 ∈ locs
 up : ∀ p ∈ cy.vars, f8 Γ cy p.2 = some .cell → p ∈ cx.vars ∧ f8 Γ cx p.2 = some .cell ∧ (Γ.nm p.2, NameKind.free) ∈ scope.names
 free : ∀ q ∈ scope.names, q.2 = .free → ∃ p ∈ cx.vars, Γ.nm p.2 = q.1 ∧ f8 Γ cx p.2 = some .cell
 Lr : ∀ x ∈ scope.names, x.2 ≠ .cell
 locals : ∀ x ∈ scope.names, x.2 = .local → scope.names.lookup x.1 = some .local
theorem fL.cells (K : fL Γ cx cy scope locs) (R : dK Γ cx env μ n ρ s.heap) : ∀ p ∈ scope.names, p.2 = .free → (env.cells.lookup p.1).isSome = true := fun q hq hf => by
 obtain ⟨p, hp, hn, hk⟩ := K.free q hq hf
 rw [← R.kindOf] at hk
 obtain ⟨c, x, h1, _⟩ := R.cells p hp hk
 rw [← hn, h1]; rfl
theorem fL.enter {scope : Scope} {locs : List Nat} (K : fL Γ cx cy scope locs) (R : dK Γ cx env μ σ.length ρ s.heap) (H : aY Γ μ σ s.heap) {h' : Heap} {t : Nat} (hn : h'.Ns s.heap.objs.size (fun _ => none))
  (hs : Heap.SameBut s.heap.objs.size (s.heap.push { cls := .type "dict", data := .dict #[] }) h') :
  let env' : Env := { newEnv scope s.heap.objs.size env.globals (wY env scope.names []) env.qual none .none (some env) env.builtins with scope := relabel scope env }
  aY Γ μ σ h' ∧ Step (Own μ σ.length) μ σ.length s μ σ.length { s with heap := h', toks := t } ∧ dK Γ cy env' μ σ.length (KZ locs ρ) h' := by
 intro env'
 have ext : Heap.ExtBut s.heap.objs.size s.heap h' := fun b o hb e => hs.extBut b o hb (Heap.get?_push_of_some _ e)
 have hz : ∀ o, s.heap.get? s.heap.objs.size = some o → fz o = false := fun o e => by rw [eS] at e; cases e
 have kf : cK s.heap h' := .ext ext hz
 have T0 : Step (Own μ σ.length) μ σ.length s μ σ.length s := .refl
 refine ⟨H.ext ext hz H.kZ fun i hi => H.pS hi, T0.ext (eS _) ext t, ?_⟩
 have esc : env'.scope = cy.sc := (Hs R scope).trans K.sc.symm
 have ek : ∀ k, env'.kindOf (Γ.nm k) = f8 Γ cy k := fun k => by unfold Env.kindOf f8; rw [esc]
 refine ⟨esc, ?_, R.globals, R.builtins, ⟨_, hn, fun p hp hk v hv => ?_⟩, fun p hp hk => ?_, fun p hp q hq c h1 h2 h3 h4 => ?_, fun i hi => H.pS hi, H.kZ, fun p hp c h1 h2 => ?_⟩
 ·rw [K.sc]; exact K.kind
 ·rw [ek] at hk
  exact absurd (K.own p hp hk) (CO _ _ _ _ hv).1
 ·rw [ek] at hk
  obtain ⟨u1, u2, u3⟩ := K.up p hp hk
  rw [← R.kindOf] at u2
  obtain ⟨c, x, g1, g2, g3⟩ := R.cells p u1 u2
  refine ⟨c, x, (k9 scope.names [] _ (K.cells R) (.inl u3)).trans g1, ?_, fun v hv => ?_⟩
  ·obtain ⟨o, ho, hd⟩ := g2
   exact ⟨o, ext _ _ (Nat.ne_of_lt (Heap.lt_size ho)) ho, hd⟩
  ·obtain ⟨u, e1, e2⟩ := g3 v (CO _ _ _ _ hv).2
   exact ⟨u, e1, e2.mono kf (fun _ _ => rfl) (Nat.le_refl _)⟩
 ·rw [ek] at h1 h2
  obtain ⟨u1, u2, u3⟩ := K.up p hp h1
  obtain ⟨w1, w2, w3⟩ := K.up q hq h2
  have g1 := (k9 scope.names [] _ (K.cells R) (.inl u3)).symm.trans h3
  have g2 := (k9 scope.names [] _ (K.cells R) (.inl w3)).symm.trans h4
  rw [← R.kindOf] at u2 w2
  exact R.tC p u1 q w1 c u2 w2 g1 g2
 ·rw [ek] at h1
  obtain ⟨u1, u2, u3⟩ := K.up p hp h1
  have g1 := (k9 scope.names [] _ (K.cells R) (.inl u3)).symm.trans h2
  rw [← R.kindOf] at u2
  exact R.LB p u1 c u2 g1
theorem iX.sub (hfn : cy.fn = false) {env' : Env} {b : Addr} (x : iX Γ cy env' μ n b) : Own μ n b ∨ b = env'.locals := by
 rcases x with x | rfl | ⟨h, _⟩
 ·exact .inl x
 ·exact .inr rfl
 ·rw [hfn] at h; cases h
noncomputable def X.comp (locs : List Nat) (f : X V) (new : O) (a : XA) (t : Option (X Bool)) (g : XC) (fuel : Nat) : X V := fun ρ σ => match f ρ σ with
 | some (v, σ₁) => match gN v σ₁ 0 with
  | none => none
  | some _ => match XC.loop (gN v) a t g fuel 0 σ₁.length (KZ locs ρ) (σ₁ ++ [new]) with
   | some (_, σ₂) => some (.obj σ₁.length, σ₂)
   | none => none
 | none => none
theorem oM {e : PySem.Expr} {scope : Scope} {locs : List Nat} {pos : Pos} {newAcc : Sem Value} {new : O} {first : Sem Value} {ge : Comprehension} {PH : List Comprehension} {f : X V} {emit : Env → Value → Sem Unit} {t iter : PySem.Expr} {ifs : List PySem.Expr} {a : XA} {tt : Option (X Bool)} {g : XC} {fuel : Nat}
  {A : Around} {E : Value → Shared → Prop} {use : Option (Value → Sem Unit)} {Q : Value → Shared → Prop} {v : V} {σ' : St}
  (hcl : clausesOf e = ge :: PH) (hs : ∀ env x, foldedSetIterable ge.iter env x = pure x) (K : fL Γ cx cy scope locs)
  (hu : ∀ (A : Around) it acc env, A.under (.compLoop e 0 it acc env) = A) (hden : ∀ it acc env, denote table (.compLoop e 0 it acc env) = (compTurn e 0 it acc env).onRaise (fun x => do noteFrame x env; theTreesLotGoes x))
  (htree : ∀ it acc env, compTurn e 0 it acc env = j4 t iter ifs it env (emit env acc) (.compLoop e 0 it acc env))
  (hstart : ∀ {μ : Nat → Addr} {n : Nat} {s : Shared} {it : Addr} {acc : Value} {A : Around} {env : Env} {R' : Result → Shared → Prop} {v : V} {k : Nat}, rQ Γ v it μ n s.heap k → codeAny Γ.M A (.compLoop e 0 (.ref it) acc env) R' s → codeAny Γ.M A (.compStart e 0 (.ref it) acc env) R' s)
  (hnew : ∀ {A : Around} {E : Value → Shared → Prop} {Q : Value → Shared → Prop} {s : Shared} {μ : Nat → Addr} {σ : St}, aY Γ μ σ s.heap → (∀ ob, aY Γ (eV μ σ.length s.heap.objs.size) (σ ++ [new]) (s.heap.push ob) → Q (.ref s.heap.objs.size) { s with heap := s.heap.push ob }) → wpAny Γ.M A newAcc Q E s)
  (hf : ∀ (A : Around) (μ : Nat → Addr) (ρ : Loc) (σ : St) (s : Shared) (v : V) (σ' : St) (Q : Value → Shared → Prop) (E : Value → Shared → Prop),
   fN A d → aY Γ μ σ s.heap → dK Γ cx env μ σ.length ρ s.heap → f ρ σ = some (v, σ') → Cont Γ μ σ s v σ' Q → wpAny Γ.M A first Q E s)
  (ha : eC Γ d cy t a) (hi : mD Γ d cy ifs tt) (hg : v6 Γ d cy emit g) (r : fN A d) (H : aY Γ μ σ s.heap) (R : dK Γ cx env μ σ.length ρ s.heap) (ee : X.comp locs f new a tt g fuel ρ σ = some (v, σ'))
  (c : ∀ u dU s' C, aY Γ dU σ' s'.heap → Step (Own μ σ.length) μ σ.length s dU σ'.length s' → VR Γ dU σ'.length s'.heap v u → Γ.h₀.get? C = none → (∀ i, i < σ'.length → dU i ≠ C) → s.heap.get? C = none → (∃ m, s'.heap.Ns C m) →
   compPost Γ.M A E use Q u C (.ok .next) s') :
  wpAny Γ.M A (comprehension e scope env pos newAcc false first use) Q E s := by
 unfold X.comp at ee
 split at ee
 case h_2 => cases ee
 rename_i w σ₁ e1
 split at ee
 case h_1 => cases ee
 rename_i o ho
 split at ee
 case h_2 => cases ee
 rename_i pF σ₂ e2
 cases ee
 refine wpAny_comprehension_free hcl (hs env) (Bi (K.cells R)) K.kind K.locals ?_
 refine hf A μ ρ σ s w σ₁ _ E r H R e1 fun u aI s₁ H₁ S₁ cN => ?_
 refine sP H₁ cN ho fun ob x => ?_
 have T₁ : Step (Own aI σ₁.length) aI σ₁.length s₁ aI σ₁.length { s₁ with heap := s₁.heap.push ob } := .push _
 have cM : aY Γ aI σ₁ ({ s₁ with heap := s₁.heap.push ob } : Shared).heap := H₁.push ob
 have iN := (R.step H S₁).step H₁ T₁
 have S₂ := S₁.then T₁
 generalize hs2 : ({ s₁ with heap := s₁.heap.push ob } : Shared) = s₂ at *
 have x₂ : rQ Γ w s₁.heap.objs.size aI σ₁.length s₂.heap 0 := by rw [← hs2]; exact x
 refine hnew cM fun ob2 f9 => ?_
 have T₂ : Step (Own aI σ₁.length) aI σ₁.length s₂ (eV aI σ₁.length s₂.heap.objs.size) (σ₁.length + 1) { s₂ with heap := s₂.heap.push ob2 } := .alloc _ rfl
 have rO := iN.step cM T₂
 have x₃ := (tH (Γ := Γ) (d := d) w s₁.heap.objs.size).step x₂ cM iN T₂.tF
 have hZ := S₂.then T₂
 have len : (σ₁ ++ [new]).length = σ₁.length + 1 := by simp
 have hne : σ₁.length < (σ₁ ++ [new]).length := by rw [len]; lia
 have hD : (eV aI σ₁.length s₂.heap.objs.size) σ₁.length = s₂.heap.objs.size := c6 ..
 rw [← len] at T₂ rO x₃ hZ
 generalize eV aI σ₁.length s₂.heap.objs.size = fW at *
 generalize hs3 : ({ s₂ with heap := s₂.heap.push ob2 } : Shared) = s₃ at *
 refine wpAny_newFunctionEnv K.Lr (fun x hx => by cases hx) (fun h' hn hsb => ?_) K.kind
 obtain ⟨nT, NF, R₄⟩ := K.enter rO (by rw [← hs3]; exact f9) (t := s₃.toks) hn hsb
 have Mw := (tH (Γ := Γ) (d := d) w s₁.heap.objs.size).step x₃ (by rw [← hs3]; exact f9) rO NF.tF
 have LF : s₁.heap.get? s₁.heap.objs.size = none := eS _
 have OV : Step (iX Γ cy { newEnv scope s₃.heap.objs.size env.globals (wY env scope.names []) env.qual none .none (some env) env.builtins with scope := relabel scope env } μ σ.length) μ σ.length s fW (σ₁ ++ [new]).length { s₃ with heap := h', toks := s₃.toks } :=
  (hZ.then NF).tF
 refine hstart (v := w) (k := 0) (μ := fW) (n := (σ₁ ++ [new]).length) Mw ?_
 have CL : ∀ b, s₃.heap.get? b = none → s.heap.get? b = none := fun b hb => hZ.DB b hb
 refine z5 (fun A it acc env => hu A it acc env) (fun it acc env => hden it acc env) (fun it acc env => htree it acc env) ha hi hg r s μ σ.length _ hne hD (S₁.DB _ LF) fuel 0 OV nT R₄ Mw e2 fun oU s₅ xV jR R₅ DI CE => ?_
 have Cn : s.heap.get? s₃.heap.objs.size = none := CL _ (eS _)
 have OU : Step (Own μ σ.length) μ σ.length s oU σ'.length s₅ := by
  refine ⟨fun b o e q => jR.tR b o e fun z => ?_, jR.live, jR.agree, jR.le, jR.fresh, jR.gens, jR.drawn, jR.os⟩
  rcases iX.sub K.fn z with y | y
  ·exact q y
  ·rw [y] at e
   have : s.heap.get? s₃.heap.objs.size = some o := e
   rw [Cn] at this; cases this
 obtain ⟨m, hnC, _⟩ := R₅.locals
 obtain ⟨oC, es, ep, hoC, hdC⟩ := Heap.Ns.obj hnC
 rw [← CE]
 exact c _ oU s₅ s₃.heap.objs.size xV OU (.obj DI) R₅.lo R₅.qL Cn ⟨m, hnC⟩
theorem pT {A : Around} {E : Value → Shared → Prop} {Q : Value → Shared → Prop} {s : Shared} {μ : Nat → Addr} {σ : St} (H : aY Γ μ σ s.heap)
  (c : ∀ ob, aY Γ (eV μ σ.length s.heap.objs.size) (σ ++ [.list []]) (s.heap.push ob) → Q (.ref s.heap.objs.size) { s with heap := s.heap.push ob }) : wpAny Γ.M A (newList []) Q E s :=
 wpAny_newList (c _ (H.alloc _ _ ⟨#[], 0, IsL.new _ _, .nil⟩))
theorem Dy {A : Around} {E : Value → Shared → Prop} {Q : Value → Shared → Prop} {s : Shared} {μ : Nat → Addr} {σ : St} (H : aY Γ μ σ s.heap)
  (c : ∀ ob, aY Γ (eV μ σ.length s.heap.objs.size) (σ ++ [.cA []]) (s.heap.push ob) → Q (.ref s.heap.objs.size) { s with heap := s.heap.push ob }) : wpAny Γ.M A newDict Q E s := by
 show wpAny _ _ (newObj _ _) _ _ _
 exact wpAny_newObj_type (c _ (H.alloc _ _ ⟨[], Heap.DictOf.new _, rfl, .nil⟩))
theorem m5 {A : Around} {E : Value → Shared → Prop} {Q : Value → Shared → Prop} {v : V} {σ' : St} {u : Value} {s' : Shared} {C : Addr} {dU : Nat → Addr} (cc : Cont Γ μ σ s v σ' Q) (H : aY Γ dU σ' s'.heap) (S : Step (Own μ σ.length) μ σ.length s dU σ'.length s')
  (V : VR Γ dU σ'.length s'.heap v u) (h1 : Γ.h₀.get? C = none) (h2 : ∀ i, i < σ'.length → dU i ≠ C) (h3 : s.heap.get? C = none) (h4 : ∃ m, s'.heap.Ns C m) : compPost Γ.M A E none Q u C (.ok .next) s' := by
 obtain ⟨m, hn⟩ := h4
 refine ⟨m, hn, fun h' hs => ?_⟩
 obtain ⟨o, es, ep, ho, hd⟩ := Heap.Ns.obj hn
 have hz : ∀ o, s'.heap.get? C = some o → fz o = false := fun o e => by rw [ho] at e; cases e; simp [fz, hd]
 exact cc u dU _ (H.ext hs.extBut hz h1 h2) (S.ext h3 hs.extBut s'.toks) (V.mono (.ext hs.extBut hz) (fun _ _ => rfl) (Nat.le_refl _))
theorem aC.uT {elt t iter : PySem.Expr} {ifs : List PySem.Expr} {scope : Scope} {pos : Pos} {f fe : X V} {a : XA} {tt : Option (X Bool)} (fuel : Nat) (K : fL Γ cx cy scope locs) (hf : aC Γ d cx iter f) (ha : eC Γ d cy t a) (hi : mD Γ d cy ifs tt) (he : aC Γ d cy elt fe)
  (hs : ∀ env x, foldedSetIterable iter env x = pure x) : aC Γ d cx (.ListComp elt [⟨t, iter, ifs, 0⟩] scope pos) (X.comp locs f (.list []) a tt (XC.emit fe) fuel) := fun A env μ ρ σ s v σ' Q E r H R e c => by
 rw [PySem.eval_ListComp]
 exact oM (cy := cy) rfl hs K (fun _ _ _ _ => rfl) (fun _ _ _ => rfl) (Kl elt t iter ifs scope pos) pI pT (fun A μ ρ σ s v σ' Q E => hf A env μ ρ σ s v σ' Q E) ha hi (v6.emit he) r H R e
  fun u dU s' C H' S' V' h1 h2 h3 h4 => m5 c H' S' V' h1 h2 h3 h4
theorem aC.KY {elt t iter t2 eZ : PySem.Expr} {ifs oF : List PySem.Expr} {scope : Scope} {pos : Pos} {f f2 fe : X V} {a a2 : XA} {tt NP : Option (X Bool)} (fuel : Nat) (K : fL Γ cx cy scope locs) (hf : aC Γ d cx iter f) (ha : eC Γ d cy t a) (hi : mD Γ d cy ifs tt)
  (hf2 : aC Γ d cy eZ f2) (ha2 : eC Γ d cy t2 a2) (hi2 : mD Γ d cy oF NP) (he : aC Γ d cy elt fe) (hs : ∀ env x, foldedSetIterable iter env x = pure x) (hs2 : ∀ env x, foldedSetIterable eZ env x = pure x) :
  aC Γ d cx (.ListComp elt [⟨t, iter, ifs, 0⟩, ⟨t2, eZ, oF, 0⟩] scope pos) (X.comp locs f (.list []) a tt (XC.nest f2 a2 NP (XC.emit fe) fuel) fuel) := fun A env μ ρ σ s v σ' Q E r H R e c => by
 rw [PySem.eval_ListComp]
 exact oM (cy := cy) rfl hs K (fun _ _ _ _ => rfl) (fun _ _ _ => rfl) (K8 elt t iter t2 eZ ifs oF scope pos) pI pT (fun A μ ρ σ s v σ' Q E => hf A env μ ρ σ s v σ' Q E) ha hi (v6.nest fuel hf2 ha2 hi2 he hs2) r H R e
  fun u dU s' C H' S' V' h1 h2 h3 h4 => m5 c H' S' V' h1 h2 h3 h4
theorem aC.F1 {ke ve t iter : PySem.Expr} {ifs : List PySem.Expr} {scope : Scope} {pos : Pos} {f fk fv : X V} {a : XA} {tt : Option (X Bool)} (fuel : Nat) (K : fL Γ cx cy scope locs) (hf : aC Γ d cx iter f) (ha : eC Γ d cy t a) (hi : mD Γ d cy ifs tt) (hk : aC Γ d cy ke fk) (hv : aC Γ d cy ve fv)
  (hs : ∀ env x, foldedSetIterable iter env x = pure x) : aC Γ d cx (.DictComp ke ve [⟨t, iter, ifs, 0⟩] scope pos) (X.comp locs f (.cA []) a tt (XC.uL fk fv) fuel) := fun A env μ ρ σ s v σ' Q E r H R e c => by
 rw [arm_eval_DictComp]
 exact oM (cy := cy) rfl hs K (fun _ _ _ _ => rfl) (fun _ _ _ => rfl) (MB ke ve t iter ifs scope pos) Cc Dy (fun A μ ρ σ s v σ' Q E => hf A env μ ρ σ s v σ' Q E) ha hi (v6.uL hk hv) r H R e
  fun u dU s' C H' S' V' h1 h2 h3 h4 => m5 c H' S' V' h1 h2 h3 h4
end
section
variable {Γ : gK} {cx cy : Cx} {d : Nat} {env : Env} {μ aI bA : Nat → Addr} {n n₁ n₂ : Nat} {ρ : Loc} {s s₁ s₂ : Shared} {σ σ₁ : St}
theorem dK.ext {h h' : Heap} {it : Addr} (R : dK Γ cx env μ n ρ h) (x : Heap.ExtBut it h h') (hz : ∀ o, h.get? it = some o → fz o = false) (hL : env.locals ≠ it) (hC : ∀ p ∈ cx.vars, ∀ c, env.kindOf (Γ.nm p.2) = some .cell → env.cells.lookup (Γ.nm p.2) = some c → c ≠ it) : dK Γ cx env μ n ρ h' := by
 have kf : cK h h' := .ext x hz
 refine ⟨R.scope, R.kind, R.globals, R.builtins, ?_, fun p hp hk => ?_, R.tC, R.qL, R.lo, R.LB⟩
 ·obtain ⟨m, ⟨o, es, ep, ho, hd, r⟩, hm⟩ := R.locals
  refine ⟨m, ⟨o, es, ep, x _ _ hL ho, hd, r⟩, fun p hp hk v hv => ?_⟩
  obtain ⟨u, h1, h2⟩ := hm p hp hk v hv
  exact ⟨u, h1, h2.mono kf (fun _ _ => rfl) (Nat.le_refl _)⟩
 ·obtain ⟨c, y, h1, ⟨o, ho, hd⟩, h3⟩ := R.cells p hp hk
  refine ⟨c, y, h1, ⟨o, x _ _ (hC p hp c hk h1) ho, hd⟩, fun v hv => ?_⟩
  obtain ⟨u, e1, e2⟩ := h3 v hv
  exact ⟨u, e1, e2.mono kf (fun _ _ => rfl) (Nat.le_refl _)⟩
theorem aM.oP {e t : PySem.Expr} {pos : Pos} {f : X V} {g : XA} (hg : eC Γ d cx t g)
  (hs : ∀ env : Env, env.scope = cx.sc → swapsWithSole [t] e pos.line env = pure true) (ht : ∀ env, (assignEach [t] env).map (·.2) = [PySem.assign t env])
  (Nq : ∀ (A : Around) (env : Env) (μ : Nat → Addr) (ρ : Loc) (σ : St) (s : Shared) (v : V) (σ' : St) (u : Value → Sem Unit) (Q : Value → Shared → Prop) (E : Value → Shared → Prop), fN A d → aY Γ μ σ s.heap → dK Γ cx env μ σ.length ρ s.heap → f ρ σ = some (v, σ') →
   (∀ w dU s' C, aY Γ dU σ' s'.heap → Step (Own μ σ.length) μ σ.length s dU σ'.length s' → VR Γ dU σ'.length s'.heap v w → Γ.h₀.get? C = none → (∀ i, i < σ'.length → dU i ≠ C) → s.heap.get? C = none → (∃ m, s'.heap.Ns C m) →
    compPost Γ.M A E (some u) Q w C (.ok .next) s') → wpAny Γ.M A (evalThenUse e env u) (fun _ s' => Q .none s') E s) :
  aM Γ d cx (.Assign [t] e pos) (XS.assign f g) := fun A env μ ρ σ s fl cI σ' Q E r H R e' c => by
 unfold XS.assign at e'
 split at e'
 case h_2 => cases e'
 rename_i v σ₁ e1
 split at e'
 case h_2 => cases e'
 rename_i pF σ₂ e2
 cases e'
 rw [PyProof.Rows.exec_Assign]
 refine wpAny_bind (wpAny_standAt ?_)
 rw [hs env R.scope]
 refine wpAny_bind (wpAny_pure ?_)
 rw [if_pos rfl]
 refine wpAny_bind (Nq A env μ ρ σ s v σ₁ _ (fun _ s' => wpAny Γ.M A (pure Flow.next) Q E s') E r H R e1 fun w aI s₁ C H₁ S₁ cN h1 h2 h3 h4 => ?_)
 have iO := R.step H S₁
 obtain ⟨m, hn⟩ := h4
 obtain ⟨oC, es, ep, hoC, hdC⟩ := Heap.Ns.obj hn
 show wpAny _ _ (assignAll w _) _ _ _
 rw [ht env]
 have Eo : env.locals ≠ C := by
  obtain ⟨m', hn', _⟩ := R.locals
  obtain ⟨o', _, _, ho', _⟩ := Heap.Ns.obj hn'
  intro z; rw [z, h3] at ho'; cases ho'
 have Pi : ∀ p ∈ cx.vars, ∀ c, env.kindOf (Γ.nm p.2) = some .cell → env.cells.lookup (Γ.nm p.2) = some c → c ≠ C := fun p hp c hk hc z => by
  obtain ⟨c', x, g1, ⟨o, ho, _⟩, _⟩ := R.cells p hp hk
  rw [hc] at g1; cases g1
  rw [z, h3] at ho; cases ho
 have Ln : ¬ iX Γ cx env aI σ₁.length C := by
  rintro (⟨i, hi, q⟩ | q | ⟨_, p, hp, g1, g2⟩)
  ·exact h2 i hi q
  ·exact Eo q.symm
  ·exact Pi p hp _ g1 g2 rfl
 refine hg A env aI ρ σ₁ s₁ v w cI σ' _ E r H₁ iO cN e2 fun bA s₂ cM S₂ iN => ?_
 have Ij := S₂.tR _ _ hoC Ln
 refine ⟨m, ?_, fun h' hs' => ?_⟩
 ·obtain ⟨o, es', ep', ho, rr⟩ := hn
  rw [hoC] at ho; cases ho
  exact ⟨_, es', ep', Ij, rr⟩
 ·have hz : ∀ o, s₂.heap.get? C = some o → fz o = false := fun o e => by rw [Ij] at e; cases e; simp [fz, hdC]
  have S := S₁.tF (Γ := Γ) (cx := cx) (env := env) |>.fE S₂
  have h2' : ∀ i, i < σ'.length → bA i ≠ C := fun i hi z => by
   by_cases hlt : i < σ₁.length
   ·rw [S₂.agree i hlt] at z; exact h2 i hlt z
   ·have := S₂.fresh i (Nat.not_lt.mp hlt) hi
    rw [z, hoC] at this; cases this
  exact wpAny_pure (c _ bA _ (cM.ext hs'.extBut hz h1 h2') (S.ext h3 hs'.extBut s₂.toks) (iN.ext hs'.extBut hz Eo Pi) trivial)
theorem rE {elt t iter : PySem.Expr} {ifs : List PySem.Expr} {scope : Scope} {pos : Pos} {f fe : X V} {a : XA} {tt : Option (X Bool)} {locs : List Nat} (fuel : Nat) (K : fL Γ cx cy scope locs) (hf : aC Γ d cx iter f) (ha : eC Γ d cy t a) (hi : mD Γ d cy ifs tt) (he : aC Γ d cy elt fe)
  (hs : ∀ env x, foldedSetIterable iter env x = pure x) (A : Around) (env : Env) (μ : Nat → Addr) (ρ : Loc) (σ : St) (s : Shared) (v : V) (σ' : St) (u : Value → Sem Unit) (Q : Value → Shared → Prop) (E : Value → Shared → Prop) (r : fN A d) (H : aY Γ μ σ s.heap) (R : dK Γ cx env μ σ.length ρ s.heap) (e : X.comp locs f (.list []) a tt (XC.emit fe) fuel ρ σ = some (v, σ'))
   (c : ∀ w dU s' C, aY Γ dU σ' s'.heap → Step (Own μ σ.length) μ σ.length s dU σ'.length s' → VR Γ dU σ'.length s'.heap v w → Γ.h₀.get? C = none → (∀ i, i < σ'.length → dU i ≠ C) → s.heap.get? C = none → (∃ m, s'.heap.Ns C m) →
    compPost Γ.M A E (some u) Q w C (.ok .next) s') : wpAny Γ.M A (evalThenUse (.ListComp elt [⟨t, iter, ifs, 0⟩] scope pos) env u) (fun _ s' => Q .none s') E s := by
 rw [arm_evalThenUse_ListComp]
 refine wpAny_bind (wpAny_mono (oM (cy := cy) (use := some u) (Q := fun _ s' => Q .none s') rfl hs K (fun _ _ _ _ => rfl) (fun _ _ _ => rfl) (Kl elt t iter ifs scope pos) pI pT (fun A μ ρ σ s v σ' Q E => hf A env μ ρ σ s v σ' Q E) ha hi (v6.emit he) r H R e c) ?_ fun _ _ q => q)
 exact fun _ _ q => wpAny_pure q
theorem yW {h : Heap} {a : Addr} {kvs : List (Str × Value)} (hd : h.DictOf (PySem.strKind Γ.prog Γ.w) a kvs) (x : Str) : ∃ o, h.get? a = some o ∧ lookIn x o = some (valueAt kvs x) := by
 obtain ⟨o, es, ep, ho, hc, hdd, hk, hp, hn⟩ := hd
 refine ⟨o, ho, ?_⟩
 unfold lookIn
 rw [hdd]
 dsimp only
 have e : (fun d : DictEntry => d.key.isStr x) = fun d => (PySem.strKind Γ.prog Γ.w).is x d.key := funext fun d => isStr_of x d.key
 have hf := hp.find x
 rw [e]
 cases q : es.toList.find? fun d => (PySem.strKind Γ.prog Γ.w).is x d.key with
 | some en =>
  rw [q] at hf
  simp only [Option.map_some] at hf
  rw [← hf]
 | none =>
  rw [q] at hf
  simp only [Option.map_none] at hf
  rw [← hf]
  have : es.toList.any (·.refKey) = false := by
   rw [List.any_eq_false]
   intro en hen
   obtain ⟨k, h1, _⟩ := hk en (Array.mem_toList_iff.mp hen)
   have : Value.isStrOf k en.key = true := h1
   obtain ⟨t, ht⟩ := PySem.Value.isStrOf_shape this
   simp [DictEntry.refKey, ht]
  simp [this]
theorem Do {A : Around} {E : Value → Shared → Prop} {Q : Unit → Shared → Prop} {dx : Addr} {kvs : List (Str × Value)} {x : Str} {u : Value} (hd : s.heap.DictOf (PySem.strKind Γ.prog Γ.w) dx kvs)
  (hQ : ∀ h', h'.DictOf (PySem.strKind Γ.prog Γ.w) dx (stored kvs x u) → Heap.SameBut dx s.heap h' → Q () { s with heap := h', toks := s.toks + 1 }) : wpAny Γ.M A (nsSet dx x u) Q E s := by
 obtain ⟨o, es, ep, ho, hc, hdd, hk, hp, hn⟩ := hd
 obtain ⟨oc, od, oda, osl⟩ := o
 dsimp only at hdd
 subst hdd
 have e : (fun d : DictEntry => d.key.isStr x) = fun d => (PySem.strKind Γ.prog Γ.w).is x d.key := funext fun d => isStr_of x d.key
 have M4 : ∀ en ∈ es, ∃ k t, en.key = .str k t := fun en hen => by
  obtain ⟨k, h1, _⟩ := hk en hen
  have : Value.isStrOf k en.key = true := h1
  obtain ⟨t, ht⟩ := PySem.Value.isStrOf_shape this
  exact ⟨k, t, ht⟩
 have MF : es.any (·.refKey) = false := by
  rw [Array.any_eq_false']
  intro en hen
  obtain ⟨k, t, ht⟩ := M4 en hen
  simp [DictEntry.refKey, ht]
 have hidx : (es.findIdx? fun e => (PySem.strKind Γ.prog Γ.w).is x e.key) = kvs.findIdx? fun kv => decide (kv.1 = x) := by
  rw [← hp.findIdx x]; obtain ⟨l⟩ := es; simp
 unfold nsSet
 refine wpAny_bind (wpAny_bind (wpAny_askSetting (wpAny_pure (wpAny_bind (wpAny_mkText (wpAny_bind (wpAny_loadPart ho ?_)))))))
 dsimp only
 rw [aRefKeyMayBeTheName_at, MF, Bool.and_false]
 refine wpAny_updatePart ho (hQ _ ?_ (Heap.SameBut.update ..))
 cases hi : es.findIdx? fun e => (PySem.strKind Γ.prog Γ.w).is x e.key with
 | some i =>
  have hi' : es.findIdx? (fun d => d.key.isStr x) = some i := by rw [e]; exact hi
  refine ⟨_, es.modify i (fun e => { e with val := u }), ep, Heap.get?_update_self _ ho (by simp only [Obj.putName_eq, Obj.putNameByArray, hi']; rfl), ?_, by simp only [Obj.putName_eq, Obj.putNameByArray, hi'], hk.modify _ _, ?_, ?_⟩
  ·simp only [Obj.putName_eq, Obj.putNameByArray, hi']; exact hc
  ·rw [stored, if_pos (any_of_findIdx_some (hidx ▸ hi))]
   have hl : (es.toList.findIdx? fun e => (PySem.strKind Γ.prog Γ.w).is x e.key) = some i := by rw [← hi]; obtain ⟨l⟩ := es; simp
   have := hp.modify hn hl u
   obtain ⟨l⟩ := es
   simpa using this
  ·rw [stored, if_pos (any_of_findIdx_some (hidx ▸ hi)), keys_map_store]; exact hn
 | none =>
  have hi' : es.findIdx? (fun d => d.key.isStr x) = none := by rw [e]; exact hi
  have hnot : x ∉ kvs.map (·.1) := not_mem_of_findIdx_none (hidx ▸ hi)
  have hany : ¬ (kvs.any fun kv => decide (kv.1 = x)) = true := by
   intro h
   obtain ⟨kv, hkv, hkk⟩ := List.any_eq_true.mp h
   exact hnot (List.mem_map.mpr ⟨kv, hkv, of_decide_eq_true hkk⟩)
  have Pm : (PySem.strKind Γ.prog Γ.w).is x (.str x s.toks) = true := strKind_is _ _ _ _
  refine ⟨_, es.push ⟨(PySem.strKind Γ.prog Γ.w).hash x, .str x s.toks, u⟩, ep + 1, Heap.get?_update_self _ ho (by simp only [Obj.putName_eq, Obj.putNameByArray, hi']; rfl), ?_, by simp only [Obj.putName_eq, Obj.putNameByArray, hi']; rfl, ?_, ?_, ?_⟩
  ·simp only [Obj.putName_eq, Obj.putNameByArray, hi']; exact hc
  ·exact hk.push Pm u
  ·rw [stored, if_neg hany, Array.toList_push]; exact hp.append Pm _ u
  ·rw [stored, if_neg hany, List.map_append]
   exact List.nodup_append.mpr ⟨hn, by simp, fun a ha b hb => by simp at hb; subst hb; exact fun z => hnot (z ▸ ha)⟩
structure o9 (Γ : gK) (K : Frag) (C : Addr) : Prop where
 cd : ∃ cd, clsIn K C = some cd ∧ cd.hasDict = true
 ga : findIn K (.ref C) "__getattribute__" = some (some (.builtin "object.__getattribute__"))
 gt : findIn K (.ref C) "__getattr__" = some none
 sa : findIn K (.ref C) "__setattr__" = some (some (.builtin "object.__setattr__"))
 over : plainOver K C = true
theorem EU {c i : Nat} {a : Addr} {l : List (Nat × V)} (H : aY Γ μ σ s.heap) (hl : bT σ i = some l) (ho : s.heap.get? a = some (instObj (Γ.cls c) (μ i))) :
  ∃ o kvs, InstAt s.heap a (instObj (Γ.cls c) (μ i)) (Γ.cls c) (some o) ∧ s.heap.get? (μ i) = some o ∧ s.heap.DictOf (PySem.strKind Γ.prog Γ.w) (μ i) kvs ∧ SDR Γ μ σ.length s.heap l kvs ∧ ∀ k, lookIn (Γ.nm k) o = some (valueAt kvs (Γ.nm k)) := by
 obtain ⟨hi, kvs, hd, hr⟩ := H.aV hl
 obtain ⟨o, e, _⟩ := yW hd (Γ.nm 0)
 refine ⟨o, kvs, ⟨ho, rfl, rfl, e⟩, e, hd, hr, fun k => ?_⟩
 obtain ⟨o', e', f⟩ := yW hd (Γ.nm k)
 rw [e] at e'; cases e'
 exact f
noncomputable def wJ (c : Nat) (k : Nat) (v : V) (σ : St) : Option (V × St) := match v with
 | .inst c' i => if c' = c then (bT σ i).bind fun l => (fJ l k).map fun r => (r, σ) else none
 | _ => none
theorem Gk {h : Heap} {v : V} {u : Value} (x : VR Γ μ n h v u) : handedIn u = true := by cases x <;> rfl
theorem Fp {K : Frag} {c k : Nat} (KX : K.In Γ.h₀) (O : o9 Γ K (Γ.cls c)) (hk : findIn K (.ref (Γ.cls c)) (Γ.nm k) = some none) {A : Around} {v r : V} {u : Value} {σ' : St} {ex : Bool} {Q : Value → Shared → Prop} {E : Value → Shared → Prop} (H : aY Γ μ σ s.heap) (V : VR Γ μ σ.length s.heap v u)
  (e : wJ c k v σ = some (r, σ')) (cc : Cont Γ μ σ s r σ' Q) : wpAny Γ.M A (getAttr u (Γ.nm k) ex) Q E s := by
 obtain ⟨i, rfl, e2⟩ : ∃ i, v = .inst c i ∧ ((bT σ i).bind fun l => (fJ l k).map fun r => (r, σ)) = some (r, σ') := by
  cases v with
  | inst c' i => obtain ⟨hc, e2⟩ := cJ e; cases hc; exact ⟨i, rfl, e2⟩
  | _ => exact nS e
 obtain ⟨l, hl, e2⟩ := Option.bind_eq_some_iff.mp e2
 obtain ⟨w, hw, e2⟩ := Option.map_eq_some_iff.mp e2
 cases e2
 clear e
 obtain ⟨_, rfl, hi, ho⟩ := V.Ib
 obtain ⟨o, kvs, I, ho', hd, hr, look⟩ := EU H hl ho
 obtain ⟨u, hu, hv⟩ := (hr.get k).1 _ hw
 obtain ⟨cd, hcd, hdict⟩ := O.cd
 refine get_value (KX.keeps H.base) I O.ga ?_ (Gk hv) (cc _ μ _ H (.toks _) hv)
 have hw : W.ownOf cd (some o) (Γ.nm k) = some (some u) := by
  unfold W.ownOf
  simp only [hdict, if_true, look, hu]
 unfold findObj
 rw [hcd, Option.bind_some, hk]
 show (W.ownOf cd (some o) (Γ.nm k)).bind _ = _
 rw [hw]; rfl
theorem aC.attr {K : Frag} {c k : Nat} {x : Str} {e : PySem.Expr} {pos : Pos} {f : X V} (hx : Γ.nm k = x) (KX : K.In Γ.h₀) (O : o9 Γ K (Γ.cls c)) (hk : findIn K (.ref (Γ.cls c)) x = some Option.none) (hf : aC Γ d cx e f)
  (he : ∀ env, eval (.Attribute e x pos) env = (do
   let o ← eval e env
   standAt pos.atName
   let r ← holding [o] (getAttr o x true)
   letTemporaryGo e o r
   pure r)) : aC Γ d cx (.Attribute e x pos) (X.bind f fun v => X.lift (wJ c k v)) := fun A env μ ρ σ s v σ' Q E r H R ee cc => by
 subst hx
 obtain ⟨a, σ₁, e1, ee⟩ := X.bind_some ee
 refine Attribute_any_ (hf A env μ ρ σ s a σ₁ _ E r H R e1 fun u aI s₁ H₁ S₁ cN => ?_) (he env)
 exact Fp KX O hk H₁ cN ee fun u' bA s₂ cM S₂ eQ => cc u' bA s₂ cM (S₁.then S₂) eQ
noncomputable def vC (c : Nat) (k : Nat) (o v : V) (σ : St) : Option St := match o with
 | .inst c' i => if c' = c then (bT σ i).bind fun l => if l.length ≤ 100 then some (σ.set i (.aV (eU l k v))) else none else none
 | _ => none
theorem AN {K : Frag} {c k : Nat} (KX : K.In Γ.h₀) (O : o9 Γ K (Γ.cls c)) (hk : takerIn K (Γ.cls c) (Γ.nm k) = some none) {A : Around} {o v : V} {uo u : Value} {σ' : St} {Q : Unit → Shared → Prop} {E : Value → Shared → Prop} (H : aY Γ μ σ s.heap) (Vo : VR Γ μ σ.length s.heap o uo) (V : VR Γ μ σ.length s.heap v u)
  (e : vC c k o v σ = some σ') (cc : ∀ s', aY Γ μ σ' s'.heap → Step (Own μ σ.length) μ σ.length s μ σ'.length s' → Q () s') : wpAny Γ.M A (setAttr uo (Γ.nm k) u) Q E s := by
 obtain ⟨i, rfl, e2⟩ : ∃ i, o = .inst c i ∧ ((bT σ i).bind fun l => if l.length ≤ 100 then some (σ.set i (.aV (eU l k v))) else none) = some σ' := by
  cases o with
  | inst c' i => obtain ⟨hc, e2⟩ := cJ e; cases hc; exact ⟨i, rfl, e2⟩
  | _ => exact nS e
 obtain ⟨l, hl, e2⟩ := Option.bind_eq_some_iff.mp e2
 obtain ⟨hlen, e2⟩ := cJ e2
 cases e2
 clear e
 cases Vo with
 | inst hi ho =>
  obtain ⟨od, kvs, I, ho', hd, hr, look⟩ := EU H hl ho
  obtain ⟨cd, hcd, hdict⟩ := O.cd
  have XX := KX.keeps H.base
  refine set_plain XX I O.sa ?_
  refine osa_open (s := { s with toks := s.toks + 1 }) XX I O.over hk fun b => ?_
  obtain ⟨hx, hcl, hn, -⟩ := I
  refine wpAny_bind (wpAny_pure (wpAny_bind (wpAny_bind (wpAny_loadPart hx (wpAny_bind (Looks.here (s := { s with toks := s.toks + 1 }) (looks_clsIn XX hcd) ?_))))))
  rw [hdict]
  refine wpAny_pure (a := some (μ i)) (wpAny_bind (wpAny_pure (wpAny_bind ?_)))
  refine Do (s := { s with toks := s.toks + 1 }) hd fun h' hd' hs' => ?_
  have hlen' : (σ.set i (Mine.O.aV (eU l k v))).length = σ.length := by simp
  have hob : ∃ o, h'.get? (μ i) = some o := let ⟨o, _, _, ho, _⟩ := hd'; ⟨o, ho⟩
  have T : Step (Own μ σ.length) μ σ.length s μ σ.length { s with heap := h', toks := s.toks + 1 + 1 } := Step.set (s := s) (show Own μ σ.length (μ i) from ⟨i, hi, rfl⟩) hs' hob _
  have HH : aY Γ μ (σ.set i (Mine.O.aV (eU l k v))) h' := H.set hi hs' fun kf => by
   have q := hr.set k V
   exact ⟨_, hd', q.1, q.2.mono kf (fun _ _ => rfl) (Nat.le_refl _)⟩
  obtain ⟨o2, es, ep, ho2, hc2, OH, hk2, hp2, hn2⟩ := hd'
  have hsz : es.size ≤ 102 := by
   have e1 := hp2.length
   have e2 : es.toList.length = es.size := by simp
   have e3 := stored_length_le kvs (Γ.nm k) u
   have e4 := hr.length
   lia
  refine wpAny_bind (wpAny_lookBehind ho2 (by rw [OH]; exact pastItsLine_dict (by rw [sizeLine_eq]; lia)) ?_)
  exact wpAny_pure (cc _ HH (by rw [hlen']; exact T))
end
section
variable {Γ : gK} {cx cy : Cx} {d : Nat} {env : Env} {μ aI bA : Nat → Addr} {n n₁ n₂ : Nat} {ρ : Loc} {s s₁ s₂ : Shared} {σ σ₁ : St}
noncomputable abbrev FF := List V → St → Option (V × St)
noncomputable def bB (Γ : gK) (d : Nat) (fv : Value) (F : FF) : Prop :=
 ∀ (A : Around) (μ : Nat → Addr) (σ : St) (s : Shared) (vs : List V) (us : List Value) (v : V) (σ' : St) (Q : Value → Shared → Prop) (E : Value → Shared → Prop),
  fN A d → aY Γ μ σ s.heap → VRs Γ μ σ.length s.heap vs us → F vs σ = some (v, σ') → Cont Γ μ σ s v σ' Q → wpAny Γ.M A (call fv us) Q E s
noncomputable def dT (Γ : gK) (d : Nat) (f : Addr) (F : FF) : Prop :=
 ∀ (A : Around) (μ : Nat → Addr) (σ : St) (s : Shared) (vs : List V) (us : List Value) (v : V) (σ' : St) (R : Result → Shared → Prop),
  fN A d → aY Γ μ σ s.heap → VRs Γ μ σ.length s.heap vs us → F vs σ = some (v, σ') → Cont Γ μ σ s v σ' (fun u s' => R (.ok (.ret u)) s') → codeAny Γ.M A (.call (.ref f) ⟨us, []⟩) R s
theorem bB.ofF {f : Addr} {F : FF} (h : dT Γ d f F) : bB Γ d (.ref f) F := fun A μ σ s vs us v σ' Q E r H V e c =>
 wpAny_call (h A μ σ s vs us v σ' _ r H V e c)
theorem fN.le {A : Around} {d d' : Nat} (r : fN A d) (h : d' ≤ d) : fN A d' := ⟨r.handled, Nat.lt_of_le_of_lt (Nat.add_le_add_left (Nat.mul_le_mul_left 10 h) _) r.depth, Nat.lt_of_le_of_lt (Nat.add_le_add_right (Nat.add_le_add_left (Nat.mul_le_mul_left 20 h) _) 100) r.units⟩
theorem fN.deeper {A : Around} (r : fN A (d + 1)) (env : Env) : fN (A.deeper env) d :=
 ⟨r.handled, by have := r.depth; show A.depth + 1 + 10 * d < 900; lia, by have := r.units; show A.units + 3 + 20 * d + 100 < 9900; lia⟩
theorem bB.mono {fv : Value} {F : FF} {d d' : Nat} (h : bB Γ d fv F) (hd : d ≤ d') : bB Γ d' fv F := fun A μ σ s vs us v σ' Q E r => h A μ σ s vs us v σ' Q E (r.le hd)
theorem dT.mono {f : Addr} {F : FF} {d d' : Nat} (h : dT Γ d f F) (hd : d ≤ d') : dT Γ d' f F := fun A μ σ s vs us v σ' R r => h A μ σ s vs us v σ' R (r.le hd)
theorem G4 {kindOf : Str → Option NameKind} {x : Str} (hx : kindOf x = some .local) : ∀ (binds : List (Str × Value)) (m : Str → Option Value), bindL kindOf binds m x = (binds.reverse.lookup x).or (m x) := by
 intro binds
 induction binds with
 | nil => intro m; rfl
 | cons q r ih =>
  intro m
  obtain ⟨n, v⟩ := q
  unfold bindL
  rw [ih, List.reverse_cons, List.lookup_append, Option.or_assoc]
  congr 1
  by_cases hn : kindOf n = some .local
  ·rw [if_pos hn]
   by_cases e : x = n
   ·subst e; simp
   ·have : (x == n) = false := by simpa using e
    simp [e, List.lookup_cons, this]
  ·rw [if_neg hn]
   have e : x ≠ n := by rintro rfl; exact hn hx
   have : (x == n) = false := by simpa using e
   simp [List.lookup_cons, this]
theorem B0 {kindOf : Str → Option NameKind} {x : Str} (hx : kindOf x ≠ some .local) : ∀ (binds : List (Str × Value)) (m : Str → Option Value), bindC kindOf binds m x = (binds.reverse.lookup x).or (m x)
 | [], m => by simp [bindC]
 | (n, v) :: r, m => by
  unfold bindC
  rw [B0 hx r, List.reverse_cons, List.lookup_append, Option.or_assoc]
  congr 1
  by_cases hn : kindOf n = some .local
  ·rw [if_pos hn]
   have e : x ≠ n := by rintro rfl; exact hx hn
   have : (x == n) = false := by simpa using e
   simp [List.lookup_cons, this]
  ·rw [if_neg hn]
   by_cases e : x = n
   ·subst e; simp
   ·have : (x == n) = false := by simpa using e
    simp [e, List.lookup_cons, this]
theorem z8 {l : List (Str × Value)} {x : Str} (h : x ∉ l.map (·.1)) : l.lookup x = none := by
 induction l with
 | nil => rfl
 | cons p l ih =>
  obtain ⟨a, b⟩ := p
  simp only [List.map_cons, List.mem_cons, not_or] at h
  have : (x == a) = false := by simpa using h.1
  rw [List.lookup_cons, this]; exact ih h.2
theorem ER : ∀ {names : List Str} {us : List Value} {i : Nat} {x : Str}, names.Nodup → names.length = us.length → names[i]? = some x → (names.zip us).reverse.lookup x = us[i]? := by
 intro names
 induction names with
 | nil => intro us i x _ _ e; cases e
 | cons n ns ih =>
  intro us i x hn hl e
  cases us with
  | nil => cases hl
  | cons u us =>
   rw [List.nodup_cons] at hn
   rw [List.zip_cons_cons, List.reverse_cons, List.lookup_append]
   have hl' : ns.length = us.length := by simpa using hl
   cases i with
   | zero =>
    simp at e; subst e
    have : (ns.zip us).reverse.lookup n = none := z8 (by
     rw [List.map_reverse, List.mem_reverse]
     intro h
     obtain ⟨p, hp, rfl⟩ := List.mem_map.mp h
     exact hn.1 (List.of_mem_zip hp).1)
    simp [this]
   | succ i =>
    simp at e
    have hx : x ≠ n := by rintro rfl; exact hn.1 (List.mem_of_getElem? e)
    have hb : (x == n) = false := by simpa using hx
    rw [ih hn.2 hl' e]
    have hlt : i < us.length := by rw [← hl']; exact (List.getElem?_eq_some_iff.mp e).1
    simp [List.lookup_cons, hb, hlt]
theorem sC : ∀ (names : List (Str × NameKind)) (n : Nat) (acc : List (Str × Addr)) (x : Str), ((x, NameKind.cell) ∈ names ∨ (acc.lookup x).isSome = true) → ((cellsFrom n names acc).lookup x).isSome = true := by
 intro names
 induction names with
 | nil =>
  intro n acc x h
  rcases h with h | h
  ·cases h
  ·exact h
 | cons q r ih =>
  intro n acc x h
  obtain ⟨y, k⟩ := q
  unfold cellsFrom
  split
  ·refine ih _ _ x ?_
   by_cases e : x = y
   ·subst e; exact .inr (by simp)
   ·have : (x == y) = false := by simpa using e
    rcases h with h | h
    ·rcases List.mem_cons.mp h with q | q
     ·cases q; exact absurd rfl e
     ·exact .inl q
    ·exact .inr (by rw [List.lookup_cons, this]; exact h)
  ·rename_i hk
   refine ih _ _ x ?_
   rcases h with h | h
   ·rcases List.mem_cons.mp h with q | q
    ·cases q; exact absurd rfl hk
    ·exact .inl q
   ·exact .inr h
theorem lR {α β : Type} [BEq α] [LawfulBEq α] : ∀ {l : List (α × β)} {a : α} {b : β}, l.lookup a = some b → (a, b) ∈ l
 | (k, v) :: r, a, b, h => by
  rw [List.lookup_cons] at h
  cases hb : a == k with
  | true => rw [hb] at h; cases h; rw [eq_of_beq hb]; exact .head _
  | false => rw [hb] at h; exact .tail _ (lR h)
noncomputable def eM (np k : Nat) (g : XS) : FF := fun vs σ => if vs.length = np then match g (vs.map some ++ List.replicate k none) σ with
  | some (.ret v, _, σ') => some (v, σ')
  | some (.next, _, σ') => some (.none, σ')
  | none => none
 else none
structure FnAt (Γ : gK) (f : Addr) (fd : FuncData) (body : List Stmt) : Prop where
 at_ : ∃ o, Γ.h₀.get? f = some o ∧ o.data = .func fd
 code : Γ.h₀.CodeRec fd.code fd.qualname
 body : fd.body = .stmts body
 globals : fd.globals = mainGlobals
 builtins : fd.builtins = builtinsNs
 closure : fd.closure = []
 co : fd.scope.isCoroutine = false
 gen : fd.scope.isGenerator = false
 kind : fd.scope.kind = .function
structure Gf (Γ : gK) (cx : Cx) (fd : FuncData) (names : List Nat) : Prop where
 sc : cx.sc = fd.scope
 fn : cx.fn = true
 ok : aR Γ cx
 slot : ∀ i k, names[i]? = some k → (i, k) ∈ cx.vars
 nodup : (names.map Γ.nm).Nodup
 bind : ∀ us : List Value, us.length = names.length → bindArgs fd ⟨us, []⟩ = pure ((names.map Γ.nm).zip us)
theorem dT.of {f : Addr} {fd : FuncData} {body : List Stmt} {names : List Nat} {g : XS} (k : Nat) (hlim : Γ.h₀.NoLimit) (F : FnAt Γ f fd body) (P : Gf Γ cx fd names) (hg : aE Γ d cx body g) : dT Γ (d + 1) f (eM names.length k g) := fun A μ σ s vs us v σ' R' r H V e c => by
 unfold eM at e
 split at e
 case isFalse => cases e
 rename_i hlen
 have hus : us.length = names.length := V.length.symm.trans hlen
 obtain ⟨o, ho, hdat⟩ := F.at_
 have LC : ∀ x ∈ (names.map Γ.nm).zip us, fd.scope.names.lookup x.1 = some .local ∨ fd.scope.names.lookup x.1 = some .cell := fun x hx => by
  obtain ⟨k', hk', he⟩ := List.mem_map.mp (List.of_mem_zip hx).1
  obtain ⟨i, hi, hi'⟩ := List.getElem_of_mem hk'
  have hv := P.slot i k' (by rw [List.getElem?_eq_getElem hi, hi'])
  have := P.ok.kinds _ hv
  unfold f8 at this
  rw [P.sc, he] at this
  exact this
 have hcd : s.heap.CodeRec fd.code fd.qualname := F.code.keeps H.base
 refine codeAny_call_cells (by have := r.depth; show A.depth < 1000; lia) (H.base _ _ ho) hdat (hlim.keeps H.base) hcd F.body (P.bind us hus) F.closure (fun x hx => ?_) (fun s₁ x => ?_) F.co F.gen F.kind
 ·rcases LC x hx with h | h
  ·exact .inl h
  ·exact .inr ⟨h, sC _ _ _ _ (.inl (lR h))⟩
 ·generalize hL : s.heap.objs.size = L at *
  have keep := x.toInCall.keep
  obtain ⟨h₁, tk, rfl⟩ := x.toInCall.same
  have e1 : (callEnvC fd L f).locals = L := rfl
  have e2 : (callEnvC fd L f).scope = fd.scope := rfl
  have esc : (callEnvC fd L f).scope = cx.sc := P.sc.symm
  have ek : ∀ k, (callEnvC fd L f).kindOf (Γ.nm k) = f8 Γ cx k := fun k => by unfold Env.kindOf f8; rw [esc]
  have kf : cK s.heap h₁ := fun a o e _ => keep a o e
  have H₁ : aY Γ μ σ h₁ := ⟨fun b o e => keep b o (H.base b o e), fun i o e => (H.objs i o e).mono (fun ob e' => keep _ _ e') kf (fun _ _ => rfl) (Nat.le_refl _), H.inj, H.lo⟩
  have T : Step (Own μ σ.length) μ σ.length s μ σ.length { s with heap := h₁, toks := tk } := ⟨fun b o e _ => keep b o e, fun b o e => ⟨o, keep b o e⟩, fun _ _ => rfl, Nat.le_refl _, fun _ h1 h2 => absurd h2 (Nat.not_lt.mpr h1), rfl, rfl, rfl⟩
  have above : ∀ b, L ≤ b → s.heap.get? b = none := fun b hb => by
   cases q : s.heap.get? b with
   | none => rfl
   | some o => exact absurd (hL ▸ Heap.lt_size q) (Nat.not_lt.mpr hb)
  have arg : ∀ p ∈ cx.vars, ∀ v, (vs.map some ++ List.replicate k none)[p.1]? = some (some v) → ∃ u, ((names.map Γ.nm).zip us).reverse.lookup (Γ.nm p.2) = some u ∧ VR Γ μ σ.length h₁ v u := fun p hp v hv => by
   have hlt : p.1 < vs.length := by
    by_cases hlt : p.1 < vs.length
    ·exact hlt
    ·rw [List.getElem?_append_right (by simpa using hlt)] at hv
     rw [List.getElem?_replicate] at hv
     split at hv <;> cases hv
   rw [List.getElem?_append_left (by simpa using hlt), List.getElem?_map] at hv
   obtain ⟨v', hv', q⟩ := Option.map_eq_some_iff.mp hv
   cases q
   obtain ⟨u, hu, hvr⟩ := V.get hv'
   have hpn : names[p.1]? = some p.2 := by
    have hl : p.1 < names.length := by lia
    have := P.slot p.1 names[p.1] (by simp [hl])
    have e := P.ok.slots _ this _ hp rfl
    rw [List.getElem?_eq_getElem hl]
    exact congrArg some (congrArg Prod.snd e)
   refine ⟨u, ?_, hvr.mono kf (fun _ _ => rfl) (Nat.le_refl _)⟩
   rw [ER P.nodup (by simpa using hus.symm) (by rw [List.getElem?_map, hpn]; rfl), hu]
  have iO : dK Γ cx (callEnvC fd L f) μ σ.length (vs.map some ++ List.replicate k none) h₁ := by
   refine ⟨esc, ?_, F.globals, F.builtins, ⟨_, x.toInCall.ns, fun p hp hk v hv => ?_⟩, fun p hp hk => ?_, fun p hp q hq c h1 h2 h3 h4 => ?_, fun i hi z => ?_, ?_, fun p hp c h1 h2 => ?_⟩
   ·rw [P.sc]; exact F.kind
   ·obtain ⟨u, hu, hvr⟩ := arg p hp v hv
    exact ⟨u, by rw [G4 hk, hu]; rfl, hvr⟩
   ·have hc : fd.scope.names.lookup (Γ.nm p.2) = some .cell := hk
    obtain ⟨c, hcc⟩ := Option.isSome_iff_exists.mp (sC fd.scope.names (L + 1) [] (Γ.nm p.2) (.inl (lR hc)))
    refine ⟨c, _, hcc, x.cell _ _ hcc, fun v hv => ?_⟩
    obtain ⟨u, hu, hvr⟩ := arg p hp v hv
    exact ⟨u, by rw [B0 (by rw [hk]; decide), hu]; rfl, hvr⟩
   ·exact P.ok.names p hp q hq (Γ.Dx _ _ (name_of_addr x.apart (mem_of_lookup h3) (mem_of_lookup h4)))
   ·have := (H.pS hi); rw [hL] at this; exact this z
   ·show Γ.h₀.get? L = none
    rw [← hL]; exact H.kZ
   ·have hgt := x.above _ _ (mem_of_lookup h2)
    cases q : Γ.h₀.get? c with
    | none => rfl
    | some o =>
     have := above c (Nat.le_of_lt hgt)
     rw [H.base _ _ q] at this; cases this
  have fresh : ∀ b, iX Γ cx (callEnvC fd L f) μ σ.length b → Own μ σ.length b ∨ s.heap.get? b = none := fun b hb => by
   rcases hb with y | rfl | ⟨_, p, hp, g1, g2⟩
   ·exact .inl y
   ·exact .inr (above _ (Nat.le_refl _))
   ·exact .inr (above _ (Nat.le_of_lt (x.above _ _ (mem_of_lookup g2))))
  split at e <;> cases e
  ·rename_i cI e1
   refine hg (A.deeper _) _ μ _ σ _ _ _ _ _ _ (r.deeper _) H₁ iO e1 fun w bA s₂ cM S₂ iN eQ => ?_
   cases w <;> first | exact eQ.elim | skip
   exact c _ bA s₂ cM (T.trans S₂ fun b hb => fresh b hb) eQ
  ·rename_i cI e1
   refine hg (A.deeper _) _ μ _ σ _ _ _ _ _ _ (r.deeper _) H₁ iO e1 fun w bA s₂ cM S₂ iN eQ => ?_
   cases w <;> first | exact eQ.elim | skip
   exact c _ bA s₂ cM (T.trans S₂ fun b hb => fresh b hb) .none
noncomputable def kB (Γ : gK) (fv : Value) : Prop := ∀ h : Heap, (∀ b o, Γ.h₀.get? b = some o → h.get? b = some o) → ∃ k, (k = Keeper.frame ∨ k = Keeper.machine ∨ k = Keeper.boundFrame) ∧ Looks Γ.M h (keeperOf fv) k
theorem kB.K {K : Frag} {f : Addr} (KX : K.In Γ.h₀) (hk : keepIn K (.ref f) = true) : kB Γ (.ref f) := fun h k => keeps_K hk h (KX.keeps k)
theorem kB.builtin {id : String} : kB Γ (.builtin id) := fun _ _ => ⟨.machine, .inr (.inl rfl), Looks.of_pure rfl⟩
theorem kB.type {T : String} : kB Γ (.type T) := fun _ _ => ⟨.machine, .inr (.inl rfl), Looks.of_pure rfl⟩
noncomputable def Plain (es : List PySem.Expr) : Prop := ∀ env, (starEach es env).any (·.1) = false
theorem l8 (pos : Pos) (l : List (Bool × Sem Value)) : (backTo pos l).any (·.1) = l.any (·.1) := by
 induction l with
 | nil => rfl
 | cons p l ih => simp only [backTo, List.map_cons, List.any_cons] at ih ⊢; rw [ih]
theorem j8 {M : Model} {A : Around} {E : Value → Shared → Prop} {fv : Value} {pos : Pos} {es : List PySem.Expr} {Q : Args → Shared → Prop} (hp : Plain es)
  (h : wpAny M A (spliced (backTo pos (starEach es env))) (fun vs s' => Q ⟨vs, []⟩ s') E s) : wpAny M A (evalArgs fv true (backTo pos (starEach es env)) []) Q E s := by
 have hp := hp env
 revert h hp
 generalize starEach es env = l
 intro h hp
 cases l with
 | nil =>
  unfold evalArgs
  show wpAny M A (spliced [] >>= _) Q E s
  refine wpAny_bind (wpAny_mono h (fun vs s' h' => ?_) fun _ _ x => x)
  refine wpAny_bind (wpAny_pure ?_)
  refine wpAny_holding ?_
  exact wpAny_bind (wpAny_pure (wpAny_bind (wpAny_pure (wpAny_pure h'))))
 | cons p l =>
  obtain ⟨b, t⟩ := p
  simp only [List.any_cons, Bool.or_eq_false_iff] at hp
  obtain ⟨rfl, _⟩ := hp
  exact Calls.evalArgs_plain h
end
section
variable {Γ : gK} {cx cy : Cx} {d : Nat} {env : Env} {μ aI bA : Nat → Addr} {n n₁ n₂ : Nat} {ρ : Loc} {s s₁ s₂ : Shared} {σ σ₁ : St}
noncomputable def cW (Γ : gK) (x : Str) (fv : Value) : Prop := ∃ mg, Γ.h₀.Ns mainGlobals mg ∧ (mg x = some fv ∨ (mg x = none ∧ ∃ mb, Γ.h₀.Ns builtinsNs mb ∧ mb x = some fv))
theorem mM {x : Str} {fv : Value} {pos : Pos} {A : Around} {Q : Value → Shared → Prop} {E : Value → Shared → Prop} (N : cW Γ x fv) (hx : cx.sc.names.lookup x = some .globalImplicit) (hd : (x == ("__debug__" : Str)) = false)
  (H : aY Γ μ σ s.heap) (R : dK Γ cx env μ n ρ s.heap) (h : Q fv s) : wpAny Γ.M A (eval (.Name x pos) env) Q E s := by
 obtain ⟨mg, hg, N⟩ := N
 refine Calls.Name_function_global (by rw [R.scope]; exact R.kind) (by unfold Env.kindOf; rw [R.scope]; exact hx) ?_ hd
 have hg' : s.heap.Ns env.globals mg := by rw [R.globals]; exact hg.keeps H.base
 rcases N with N | ⟨N, mb, hb, N'⟩
 ·exact Calls.loadGlobal_global hg' N h
 ·exact Calls.loadGlobal_builtin hg' N (by rw [R.builtins]; exact hb.keeps H.base) N' h
theorem l7 {fv : Value} {es : List PySem.Expr} {g : X (List V)} {F : FF} {pos : Pos} {A : Around} {v : V} {σ' : St} {Mn : List V} {NY : List Value} {Q : Value → Shared → Prop} {E : Value → Shared → Prop} (hK : kB Γ fv) (hp : Plain es) (hs : hV Γ d cx es g) (hc : bB Γ d fv F)
  (r : fN A d) (H : aY Γ μ σ s.heap) (R : dK Γ cx env μ σ.length ρ s.heap) (V0 : VRs Γ μ σ.length s.heap Mn NY) (e : X.bind g (fun vs => X.lift (F (Mn ++ vs))) ρ σ = some (v, σ')) (c : Cont Γ μ σ s v σ' Q) :
  wpAny Γ.M A (callWith pos fv NY (backTo pos (starEach es env)) []) Q E s := by
 obtain ⟨vs, σ₁, e1, e⟩ := X.bind_some e
 refine callWith_of (P := fun h => ∀ b o, Γ.h₀.get? b = some o → h.get? b = some o) (by rw [l8, hp env]; rfl) hK (j8 hp ?_)
 refine hs A env pos μ ρ σ s vs σ₁ _ E r H R e1 fun us aI s₁ H₁ S₁ cN => ⟨H₁.base, ?_⟩
 exact hc A aI σ₁ s₁ (Mn ++ vs) (NY ++ us) v σ' Q E r H₁ ((S₁.Mx H V0).append cN) e fun u bA s₂ cM S₂ eQ => c u bA s₂ cM (S₁.then S₂) eQ
theorem aC.call {x : Str} {fv : Value} {p pos : Pos} {es : List PySem.Expr} {g : X (List V)} {F : FF} (N : cW Γ x fv) (hx : cx.sc.names.lookup x = some .globalImplicit) (hK : kB Γ fv) (hp : Plain es) (hs : hV Γ d cx es g) (hc : bB Γ d fv F) (hd : (x == ("__debug__" : Str)) = false) :
  aC Γ d cx (.Call (.Name x p) es [] pos) (X.bind g fun vs => X.lift (F vs)) := fun A env μ ρ σ s v σ' Q E r H R e c =>
 wpAny_Call_NameR (mM N hx hd H R (l7 (Mn := []) hK hp hs hc r H R .nil e c))
noncomputable def qN (o : PySem.Expr) (name : Str) (apos : Pos) (es : List PySem.Expr) (pos : Pos) : Prop := ∀ env, ∃ pl, eval (.Call (.Attribute o name apos) es [] pos) env = (do
 let ov ← eval o env
 standAt apos.atName
 let (f, first) ← holding [ov] (getMethod ov name pl)
 callWith pos f first (backTo pos (starEach es env)) [])
theorem BE {o : PySem.Expr} {name : Str} {apos pos : Pos} {es : List PySem.Expr} {A : Around} {Q : Value → Shared → Prop} {E : Value → Shared → Prop} (he : qN o name apos es pos)
  (h : wpAny Γ.M A (eval o env) (fun ov s₁ => ∀ pl, wpAny Γ.M A (getMethod ov name pl) (fun fx s₂ => wpAny Γ.M A (callWith pos fx.1 fx.2 (backTo pos (starEach es env)) []) Q E s₂) E s₁) E s) :
  wpAny Γ.M A (eval (.Call (.Attribute o name apos) es [] pos) env) Q E s := by
 obtain ⟨pl, he⟩ := he env
 rw [he]
 refine wpAny_bind (wpAny_mono h (fun ov s₁ h₁ => wpAny_bind (wpAny_standAt (wpAny_bind (wpAny_holding (wpAny_mono (h₁ pl) (fun fx s₂ h₂ => ?_) fun _ _ x => x))))) fun _ _ x => x)
 exact h₂
noncomputable def asList (v : V) (σ : St) : Option (V × St) := match v with
 | .obj i => (getL σ i).map fun _ => (v, σ)
 | _ => none
theorem aC.eY {o : PySem.Expr} {name : Str} {id : String} {apos pos : Pos} {es : List PySem.Expr} {f : X V} {g : X (List V)} {F : FF} (he : qN o name apos es pos) (slot : Slot "list" name id) (hty : typeOf (.builtin id) = pure (.type "method_descriptor")) (hp : Plain es)
  (hf : aC Γ d cx o f) (hs : hV Γ d cx es g) (hc : bB Γ d (.builtin id) F) :
  aC Γ d cx (.Call (.Attribute o name apos) es [] pos) (X.bind f fun v => X.bind (X.lift (asList v)) fun v => X.bind g fun vs => X.lift (F (v :: vs))) := fun A env μ ρ σ s v σ' Q E r H R e c => by
 obtain ⟨a, σ₁, e1, e⟩ := X.bind_some e
 obtain ⟨a', σ₂, e2, e⟩ := X.bind_some e
 have e2 := X.lE e2
 refine BE he (hf A env μ ρ σ s a σ₁ _ E r H R e1 fun u aI s₁ H₁ S₁ cN pl => ?_)
 unfold asList at e2
 split at e2
 case h_2 => cases e2
 obtain ⟨l, hl, e2⟩ := Option.map_eq_some_iff.mp e2
 cases e2
 obtain ⟨rfl, hi⟩ := cN.j5
 obtain ⟨_, items, k, ho, hv⟩ := H₁.list hl
 refine getMethod_builtin ⟨_, ho, rfl⟩ PySem.F.plainAttrs_list slot hty (fun a ha => by cases ha; exact ⟨_, ho, rfl⟩) ?_
 exact l7 (Mn := [.obj _]) kB.builtin hp hs hc r H₁ (R.step H S₁) (.cons (.obj hi) .nil) e fun u' bA s₂ cM S₂ eQ => c u' bA s₂ cM (S₁.then S₂) eQ
noncomputable def tB (c k : Nat) (v : V) (σ : St) : Option (V × St) := match v with
 | .inst c' i => if c' = c then (bT σ i).bind fun l => match fJ l k with | none => some (v, σ) | some _ => none else none
 | _ => none
theorem aC.cS {K : Frag} {c k : Nat} {o : PySem.Expr} {x : Str} {fa : Addr} {apos pos : Pos} {es : List PySem.Expr} {f : X V} {g : X (List V)} {F : FF} (hx : Γ.nm k = x) (he : qN o x apos es pos) (KX : K.In Γ.h₀) (O : o9 Γ K (Γ.cls c))
  (hfi : findIn K (.ref (Γ.cls c)) x = some (some (.ref fa))) (ht : typeIn K (.ref fa) = some (.type "function")) (hk : kB Γ (.ref fa)) (hp : Plain es)
  (hf : aC Γ d cx o f) (hs : hV Γ d cx es g) (hc : bB Γ d (.ref fa) F) :
  aC Γ d cx (.Call (.Attribute o x apos) es [] pos) (X.bind f fun v => X.bind (X.lift (tB c k v)) fun v => X.bind g fun vs => X.lift (F (v :: vs))) := fun A env μ ρ σ s v σ' Q E r H R e cc => by
 subst hx
 obtain ⟨a, σ₁, e1, e⟩ := X.bind_some e
 obtain ⟨a', σ₂, e2, e⟩ := X.bind_some e
 have e2 := X.lE e2
 refine BE he (hf A env μ ρ σ s a σ₁ _ E r H R e1 fun u aI s₁ H₁ S₁ cN pl => ?_)
 unfold tB at e2
 split at e2
 case h_2 => cases e2
 rename_i c' i
 split at e2
 case isFalse => cases e2
 rename_i hcc
 subst hcc
 obtain ⟨l, hl, e2⟩ := Option.bind_eq_some_iff.mp e2
 split at e2 <;> cases e2
 rename_i hno
 obtain ⟨_, rfl, hi, ho⟩ := cN.Ib
 obtain ⟨od, kvs, I, ho', hd, hr, look⟩ := EU H₁ hl ho
 have hno' := (hr.get k).2 hno
 refine method_fn (KX.keeps H₁.base) I O.ga O.gt hfi ht (by show (lookIn (Γ.nm k) od).map (·.isSome) = some false; rw [look k, hno']; rfl) ?_
 exact l7 (Mn := [.inst _ _]) hk hp hs hc r H₁ (R.step H S₁) (.cons (.inst hi ho) .nil) e fun u' bA s₂ cM S₂ eQ => cc u' bA s₂ cM (S₁.then S₂) eQ
end
section
variable {Γ : gK} {cx cy : Cx} {d : Nat} {env : Env} {μ aI bA : Nat → Addr} {n n₁ n₂ : Nat} {ρ : Loc} {s s₁ s₂ : Shared} {σ σ₁ : St}
theorem qR {σ : St} {j : Nat} {o : O} : (σ.set j o).length = σ.length := by simp
theorem oA (H : aY Γ μ σ s.heap) {j : Nat} (hj : j < σ.length) {items : Array Value} {k : Nat} (hL : IsL s.heap (μ j) items k) (f : Array Value → Array Value) {l' : List V} (hs : VRs Γ μ σ.length s.heap l' (f items).toList) (t : Nat) :
  aY Γ μ (σ.set j (.list l')) (s.heap.update (μ j) (Obj.mapSeq f)) ∧ Step (Own μ σ.length) μ σ.length s μ (σ.set j (.list l')).length { s with heap := s.heap.update (μ j) (Obj.mapSeq f), toks := t } := by
 have same : Heap.SameBut (μ j) s.heap (s.heap.update (μ j) (Obj.mapSeq f)) := Heap.SameBut.update ..
 have hL' := hL.update f
 rw [qR]
 exact ⟨H.set hj same fun kf => ⟨_, _, hL', hs.mono kf (fun _ _ => rfl) (Nat.le_refl _)⟩, Step.set ⟨j, hj, rfl⟩ same ⟨_, hL'⟩ t⟩
theorem aY.Le {h h' : Heap} (H : aY Γ μ σ h) {i : Nat} {o : O} (hi : i < σ.length) (x : ∀ b o, b ≠ μ i → h.get? b = some o → h'.get? b = some o) (hO : cK h h' → OR Γ μ σ.length h' (μ i) o) : aY Γ μ (σ.set i o) h' := by
 have hlen : (σ.set i o).length = σ.length := by simp
 have hz : ∀ o, h.get? (μ i) = some o → fz o = false := fun o e => H.wH ⟨i, hi, rfl⟩ e
 have kf : cK h h' := fun b o e f => x b o (by rintro rfl; rw [hz o e] at f; cases f) e
 refine ⟨fun b o' e => ?_, fun j o' e => ?_, by rw [hlen]; exact H.inj, by rw [hlen]; exact H.lo⟩
 ·exact x b o' (by rintro rfl; rw [H.lo i hi] at e; cases e) (H.base b o' e)
 ·rw [hlen]
  by_cases hj : j = i
  ·subst hj
   simp [hi] at e; subst e
   exact hO kf
  ·rw [List.getElem?_set_ne (Ne.symm hj)] at e
   have hlt := (List.getElem?_eq_some_iff.mp e).1
   exact (H.objs j o' e).mono (fun _ e' => x _ _ (fun q => hj (H.inj j i hlt hi q)) e') kf (fun _ _ => rfl) (Nat.le_refl _)
theorem Step.Le {own : Addr → Prop} {s' : Shared} {i : Nat} (hi : own (μ i)) (a : Alike s s') (x : ∀ b o, b ≠ μ i → s.heap.get? b = some o → s'.heap.get? b = some o) (hl : ∃ o, s'.heap.get? (μ i) = some o) : Step own μ n s μ n s' :=
 ⟨fun b o e q => x b o (by rintro rfl; exact q hi) e, fun b o e => by
  by_cases hb : b = μ i
  ·subst hb; exact hl
  ·exact ⟨o, x b o hb e⟩, fun _ _ => rfl, Nat.le_refl _, fun _ h1 h2 => absurd h2 (Nat.not_lt.mpr h1), a.gens, a.drawn, a.os⟩
noncomputable def bW (g : V → St → Option (V × St)) : FF := fun vs σ => match vs with | [a] => g a σ | _ => none
noncomputable def sW (g : V → V → St → Option (V × St)) : FF := fun vs σ => match vs with | [a, b] => g a b σ | _ => none
theorem IB {g : V → St → Option (V × St)} {vs : List V} {r : V × St} (e : bW g vs σ = some r) : ∃ a, vs = [a] ∧ g a σ = some r := by
 cases vs with
 | nil => cases e
 | cons a l => cases l with
  | nil => exact ⟨a, rfl, e⟩
  | cons => cases e
theorem Iy {g : V → V → St → Option (V × St)} {vs : List V} {r : V × St} (e : sW g vs σ = some r) : E2 fun a b => A3 (vs = [a, b]) (g a b σ = some r) True := by
 cases vs with
 | nil => cases e
 | cons a l => cases l with
  | nil => cases e
  | cons b l => cases l with
   | nil => exact ⟨a, b, rfl, e, trivial⟩
   | cons => cases e
theorem bB.one {fv : Value} {g : V → St → Option (V × St)} (h : ∀ (A : Around) (μ : Nat → Addr) (σ : St) (s : Shared) (a : V) (ua : Value) (v : V) (σ' : St) (Q : Value → Shared → Prop) (E : Value → Shared → Prop),
  fN A d → aY Γ μ σ s.heap → VR Γ μ σ.length s.heap a ua → g a σ = some (v, σ') → Cont Γ μ σ s v σ' Q → wpAny Γ.M A (call fv [ua]) Q E s) :
  bB Γ d fv (bW g) := fun A μ σ s vs us v σ' Q E r H V e c => by
 obtain ⟨a, rfl, e⟩ := IB e
 obtain ⟨u, rfl, V1⟩ := V.Lk
 exact h A μ σ s a u v σ' Q E r H V1 e c
theorem bB.two {fv : Value} {g : V → V → St → Option (V × St)} (h : ∀ (A : Around) (μ : Nat → Addr) (σ : St) (s : Shared) (a b : V) (ua ub : Value) (v : V) (σ' : St) (Q : Value → Shared → Prop) (E : Value → Shared → Prop),
  fN A d → aY Γ μ σ s.heap → VR Γ μ σ.length s.heap a ua → VR Γ μ σ.length s.heap b ub → g a b σ = some (v, σ') → Cont Γ μ σ s v σ' Q → wpAny Γ.M A (call fv [ua, ub]) Q E s) :
  bB Γ d fv (sW g) := fun A μ σ s vs us v σ' Q E r H V e c => by
 obtain ⟨a, b, rfl, e, _⟩ := Iy e
 obtain ⟨u, w, rfl, V1, V2⟩ := V.MA
 exact h A μ σ s a b u w v σ' Q E r H V1 V2 e c
noncomputable def objOf : V → Option Nat
 | .obj j => some j
 | _ => none
theorem qW {a : V} {j : Nat} (e : objOf a = some j) : a = .obj j := by cases a <;> cases e; rfl
noncomputable def J6 (a v : V) (σ : St) : Option (V × St) := (objOf a).bind fun j => (getL σ j).bind fun l => if l.length ≤ 100000 then some (.none, σ.set j (.list (l ++ [v]))) else none
noncomputable def eB : FF := sW J6
theorem bB.append : bB Γ d (.builtin "list.append") eB := .two fun A μ σ s a b ua ub v σ' Q E r H V W e c => by
 obtain ⟨j, hj, e0⟩ := Option.bind_eq_some_iff.mp e
 clear e
 cases qW hj
 obtain ⟨l, hl, e⟩ := Option.bind_eq_some_iff.mp e0
 clear e0
 obtain ⟨hlen, e1⟩ := cJ e
 cases e1
 cases V.j5.1
 exact u9 H hl hlen W fun h' H' S' => c _ μ _ H' (by rw [qR]; exact S') .none
noncomputable def ON (a : V) (σ : St) : Option (V × St) := (objOf a).bind fun j => (getL σ j).bind fun l => if l.length ≤ 100000 then l.getLast?.map fun v => (v, σ.set j (.list l.dropLast)) else none
noncomputable def Ff : FF := bW ON
theorem bB.pop : bB Γ d (.builtin "list.pop") Ff := .one fun A μ σ s a ua v σ' Q E r H V e c => by
 obtain ⟨j, hj, e0⟩ := Option.bind_eq_some_iff.mp e
 clear e
 cases qW hj
 obtain ⟨l, hl, e⟩ := Option.bind_eq_some_iff.mp e0
 clear e0
 obtain ⟨hlen, e1⟩ := cJ e
 obtain ⟨v', hv', e2⟩ := Option.map_eq_some_iff.mp e1
 cases e2
 cases V.j5.1
 obtain ⟨hj, items, k, hL, hs⟩ := H.list hl
 have hsl := hs.length.trans Array.length_toList
 rw [List.getLast?_eq_getElem?] at hv'
 obtain ⟨u, hu, hvr⟩ := hs.get hv'
 rw [hsl, Array.getElem?_toList] at hu
 refine call_meets PySem.F.slot_list_pop ⟨_, hL, rfl⟩ PySem.F.entry_list_pop (PySem.F.args_list_pop_1 _) (PySem.MeetsSeq.list_pop_last _ items k u hu (by rw [sizeLine_eq]; lia)) ⟨hL, ?_⟩
 have hlt := (Array.getElem?_eq_some_iff.mp hu).1
 obtain ⟨H', S'⟩ := oA H hj hL (fun xs => xs.eraseIdxIfInBounds (items.size - 1)) (l' := l.dropLast) (by
  show VRs _ _ _ _ _ (items.eraseIdxIfInBounds (items.size - 1)).toList
  unfold Array.eraseIdxIfInBounds
  rw [dif_pos hlt, Array.toList_eraseIdx, List.eraseIdx_eq_take_drop_succ, List.drop_eq_nil_of_le (by rw [Array.length_toList]; exact Nat.le_of_eq (Nat.sub_add_cancel (Nat.lt_of_le_of_lt (Nat.zero_le _) hlt)).symm), List.append_nil, List.dropLast_eq_take, ← hsl]
  exact hs.take _) s.toks
 exact c _ μ _ H' S' (hvr.mono (S'.NT H) (fun _ _ => rfl) (by rw [qR]; exact Nat.le_refl _))
noncomputable def rangeInts (a b : Int) : List Int := (List.range (b - a).toNat).map fun i => a + (i : Nat)
theorem DR {R : Result → Shared → Prop} {A : Around} (hh : A.handled = none) (S I : Addr) (hSI : S ≠ I) (res : Value) (a : Int) (n : Nat) :
  ∀ (k i : Nat) (s : Shared) (acc : Array Value) (c : Nat), n - i = k → i ≤ n → acc.size + k ≤ 200000 → IsRangeIter s.heap I (a + ((i : Nat) : Int) * 1) ((n : Int) - ((i : Nat) : Int)) 1 → s.heap.get? S = some { cls := .type "list", dict := none, data := .seq acc c, slots := #[] } →
  (∀ s' ys c', Alike s s' → (∀ b o, b ≠ S → b ≠ I → s.heap.get? b = some o → s'.heap.get? b = some o) → s'.heap.get? S = some { cls := .type "list", dict := none, data := .seq (acc ++ (ys : List Value).toArray) c', slots := #[] } →
   IntsAre ys ((List.range k).map fun j => a + ((i + j : Nat) : Int)) → R (.ok (.ret res)) s') →
  codeAny Γ.M A (.builtin "list.extend.loop" ⟨[.ref S, .ref I, res], []⟩) R s := by
 intro k
 induction k with
 | zero =>
  intro i s acc c hk hi hz hst hS hR
  refine codeAny_builtin PySem.F.entry_extend_loop ?_
  rw [Around.under_plainId PySem.F.plain_extend_loop _]
  show wpAny _ A.in1 (pyNext (.ref I) >>= _) _ _ s
  refine wpAny_bind (wpAny_pyNext_range_end hh hst (by lia) fun h' he' => ?_)
  exact wpAny_pure (hR { s with heap := h' } [] c ⟨rfl, rfl, rfl⟩ (fun b o _ h2 e => he' b o h2 e) (by simpa using he' _ _ hSI hS) .nil)
 | succ k ih =>
  intro i s acc c hk hi hz hst hS hR
  refine codeAny_builtin PySem.F.entry_extend_loop ?_
  rw [Around.under_plainId PySem.F.plain_extend_loop _]
  show wpAny _ A.in1 (pyNext (.ref I) >>= _) _ _ s
  refine wpAny_bind (wpAny_pyNext_range_item hst (by lia) fun h' hit' hs' => ?_)
  have hS' := hs'.extBut S _ hSI hS
  show wpAny _ A.in1 (updateSeq S (·.push _) >>= _) _ _ _
  refine wpAny_bind ?_
  refine wpAny_updateSeq hS' rfl (wpAny_pure ⟨plainId_quiet PySem.F.plain_extend_loop _, ih (i + 1) _ (acc.push _) _ (by lia) (by lia) (by rw [Array.size_push]; lia) ?_ (Heap.get?_update_self _ hS' rfl) fun s'' ys c' al hk'' hS'' OD => ?_⟩)
   (by rw [sizeLine_eq]; lia) (by rw [Array.size_push, sizeLine_eq]; lia)
  ·have e1 : a + ((i + 1 : Nat) : Int) * 1 = a + (i : Int) * 1 + 1 := by push_cast; lia
   have e2 : (n : Int) - ((i + 1 : Nat) : Int) = (n : Int) - (i : Int) - 1 := by push_cast; lia
   rw [e1, e2]
   exact (Heap.get?_update_other _ _ hSI).trans hit'
  ·refine hR s'' (.int (a + (i : Int) * 1) s.toks :: ys) c' ⟨al.gens, al.drawn, al.os⟩ (fun b o h1 h2 e => hk'' b o h1 h2 ((Heap.get?_update_other _ _ (Ne.symm h1)).trans (hs'.extBut b o h2 e))) ?_ ?_
   ·rw [hS'']; congr 3; simp
   ·rw [List.range_succ_eq_map, List.map_cons, List.map_map]
    have e0 : a + ((i + 0 : Nat) : Int) = a + (i : Int) * 1 := by push_cast; lia
    rw [e0]
    refine .cons _ _ ?_
    have e : ((fun j : Nat => a + ((i + j : Nat) : Int)) ∘ Nat.succ) = fun j => a + ((i + 1 + j : Nat) : Int) := funext fun j => by
     show a + ((i + (j + 1) : Nat) : Int) = _
     congr 2; lia
    rw [e]; exact OD
theorem tE {h : Heap} : ∀ {l : List Int} {us : List Value}, IntsAre us l → VRs Γ μ n h (l.map .int) us
 | [], _, x => by cases x; exact .nil
 | _ :: _, _, x => by cases x with | cons _ t r => exact .cons (.int _ _) (tE r)
theorem EJ {α : Type} {a b : Option α} {r : α} (e : (a <|> b) = some r) : a = some r ∨ b = some r := by
 cases a with
 | none => exact .inr e
 | some x => exact .inl e
noncomputable def Fy : V → Option (Int × Int)
 | .range a b => some (a, b)
 | _ => none
theorem Dg {a : V} {p : Int × Int} (e : Fy a = some p) : a = .range p.1 p.2 := by cases a <;> cases e; rfl
noncomputable def J5 (a b : V) (σ : St) : Option (V × St) := (objOf a).bind fun j => (getL σ j).bind fun l => ((objOf b).bind fun k => (getL σ k).bind fun m => if l.length ≤ 100000 ∧ m.length ≤ 100000 then some (.none, σ.set j (.list (l ++ m))) else none) <|>
 ((Fy b).bind fun p => if l.length ≤ 100000 ∧ (p.2 - p.1).toNat ≤ 1000 ∧ Builtin.Range.small p.1 p.2 1 = true then some (.none, σ.set j (.list (l ++ (rangeInts p.1 p.2).map .int))) else none)
noncomputable def uK : FF := sW J5
theorem CK {A : Around} {E : Value → Shared → Prop} {Q : Value → Shared → Prop} {r : Addr} {a b : Int} {t u v : Tok} (hh : A.handled = none) (hr : IsRange s.heap r a b 1 t u v) (hsmall : Builtin.Range.small a b 1 = true) (hlen : (b - a).toNat ≤ 1000)
  (S : Addr) (items : Array Value) (c₀ : Nat) (hz : items.size ≤ 100000) (hS : s.heap.get? S = some { cls := .type "list", dict := none, data := .seq items c₀, slots := #[] })
  (hR : ∀ s' ys c', Alike s s' → (∀ b o, b ≠ S → s.heap.get? b = some o → s'.heap.get? b = some o) → s'.heap.get? S = some { cls := .type "list", dict := none, data := .seq (items ++ (ys : List Value).toArray) c', slots := #[] } → IntsAre ys (rangeInts a b) → Q .none s') :
  wpAny Γ.M A (call (.builtin "list.extend") [.ref S, .ref r]) Q E s := by
 have hSr : S ≠ r := fun e => by rw [e, hr] at hS; simp at hS
 have hSlt : S < s.heap.objs.size := Heap.lt_size hS
 have hSI : S ≠ s.heap.objs.size := Nat.ne_of_lt hSlt
 refine wpAny_call (codeAny_call_builtin PySem.F.slot_list_extend.plain PySem.F.entry_list_extend (PySem.F.slot_list_extend.check _ _ _ _ _ _ _ _ ⟨_, hS, rfl⟩ (PySem.F.args_list_extend_2 _ _) ?_))
 show wpAny _ _ (Builtin.List.listExtendWith (.ref S) (.ref r) .none) _ _ _
 have hn := PyProof.Rows.rangeSize_nat a b
 have key : ∀ (R : Result → Shared → Prop), (∀ s', Q .none s' → R (.ok (.ret .none)) s') → ∀ (h : Heap) (c₁ tk : Nat), IsRangeIter h s.heap.objs.size (a + ((0 : Nat) : Int) * 1) (((b - a).toNat : Int) - ((0 : Nat) : Int)) 1 → (∀ b o, b ≠ S → s.heap.get? b = some o → h.get? b = some o) →
   h.get? S = some { cls := .type "list", dict := none, data := .seq items c₁, slots := #[] } → codeAny Γ.M A (.builtin "list.extend.loop" ⟨[.ref S, .ref s.heap.objs.size, .none], []⟩) R { s with heap := h, toks := tk } := by
  intro R PE h c₁ tk hit hk hS₁
  refine DR hh S _ hSI .none a (b - a).toNat (b - a).toNat 0 _ items c₁ (by lia) (by lia) (by lia) hit hS₁ fun s' ys c' al hk' hS' hi => ?_
  refine PE _ (hR s' ys c' ⟨al.gens, al.drawn, al.os⟩ (fun b o hb e => hk' b o hb (fun z => Nat.lt_irrefl _ (z ▸ Heap.lt_size e)) (hk b o hb e)) hS' ?_)
  unfold rangeInts
  simpa using hi
 unfold Builtin.List.listExtendWith
 refine wpAny_bind (wpAny_typeOf (T := "range") ⟨_, hr, rfl⟩ ?_)
 have h1 : Builtin.List.listSameRef (.ref S) (.ref r) = false := by simp [Builtin.List.listSameRef, hSr]
 have h2 : (Value.type "range" == Value.type "list") = false := by decide
 have h3 : (Value.type "range" == Value.type "tuple") = false := by decide
 simp only [h1, h2, h3, Bool.or_false, Bool.false_eq_true, if_false]
 refine wpAny_bind (wpAny_pyIter_range hr hsmall ?_)
 refine wpAny_bind (wpAny_holding (wpAny_hint_range (n := (b - a).toNat) (Heap.get?_push_of_some _ hr) hn (by lia) ?_))
 have hit₁ : IsRangeIter (s.heap.push { cls := .type "range_iterator", data := .fields #[rawInt a, rawInt (Builtin.Range.rangeSize a b 1), rawInt 1] }) s.heap.objs.size (a + ((0 : Nat) : Int) * 1) (((b - a).toNat : Int) - ((0 : Nat) : Int)) 1 := by
  show IsRangeIter _ _ _ _ _; rw [hn]; simpa using Heap.get?_push_size _ rfl
 have hS₁ := Heap.get?_push_of_some { cls := .type "range_iterator", data := .fields #[rawInt a, rawInt (Builtin.Range.rangeSize a b 1), rawInt 1] } hS
 refine wpAny_ite_split (fun _ => ?_) (fun _ => wpAny_pure ⟨plainId_quiet PySem.F.plain_extend_loop _, key _ (fun _ x => x) _ c₀ _ hit₁ (fun b o _ e => Heap.get?_push_of_some _ e) hS₁⟩)
 refine wpAny_bind (wpAny_rule ?_)
 refine wpAny_bind ?_
 show wpAny _ _ (updateSeq S (·.push .none) >>= fun _ => updateSeq S (·.pop)) _ _ _
 refine wpAny_bind (wpAny_updateSeq hS₁ rfl ?_ (by rw [sizeLine_eq]; lia) (by rw [Array.size_push, sizeLine_eq]; lia))
 have hS₂ := Heap.get?_update_self (Obj.mapSeq (·.push Value.none)) hS₁ rfl
 refine wpAny_updateSeq (hz := by rw [Array.size_push, sizeLine_eq]; lia) (_hz' := by simp; rw [sizeLine_eq]; lia) hS₂ rfl ?_
 have hS₃ := Heap.get?_update_self (Obj.mapSeq (·.pop)) hS₂ rfl
 refine wpAny_pure ⟨plainId_quiet PySem.F.plain_extend_loop _, key _ (fun _ x => x) _ _ _ ?_ (fun b o hb e => ?_) (by simpa [Obj.mapSeq] using hS₃)⟩
 ·exact (Heap.get?_update_other _ _ hSI).trans ((Heap.get?_update_other _ _ hSI).trans hit₁)
 ·exact (Heap.get?_update_other _ _ (Ne.symm hb)).trans ((Heap.get?_update_other _ _ (Ne.symm hb)).trans (Heap.get?_push_of_some _ e))
theorem bB.extend : bB Γ d (.builtin "list.extend") uK := .two fun A μ σ s a b ua ub v σ' Q E r H V W e c => by
 obtain ⟨j, hj, e0⟩ := Option.bind_eq_some_iff.mp e
 clear e
 cases qW hj
 obtain ⟨l, hl, e⟩ := Option.bind_eq_some_iff.mp e0
 clear e0
 cases V.j5.1
 obtain ⟨hj, items, k, hL, hs⟩ := H.list hl
 have e1 := hs.length.trans Array.length_toList
 rcases EJ e with e | e
 ·obtain ⟨j2, hj2, e2⟩ := Option.bind_eq_some_iff.mp e
  clear e
  cases qW hj2
  obtain ⟨m, hm, e3⟩ := Option.bind_eq_some_iff.mp e2
  obtain ⟨hz, e4⟩ := cJ e3
  cases e4
  cases W.j5.1
  obtain ⟨hj2, items2, k2, hL2, hs2⟩ := H.list hm
  have e2 := hs2.length.trans Array.length_toList
  refine call_meets PySem.F.slot_list_extend ⟨_, hL, rfl⟩ PySem.F.entry_list_extend (PySem.F.args_list_extend_2 _ _)
   (PySem.AutoSeq1.list_extend_list_list_0 _ items k _ items2 k2 (by unfold Builtin.List.listTooLong; rw [sizeLine_eq]; simp; intro _; lia) (by rw [sizeLine_eq]; lia) (by rw [sizeLine_eq]; lia)) ⟨hL, hL2, ?_⟩
  obtain ⟨H', S'⟩ := oA H hj hL (fun x => x ++ items2) (by rw [Array.toList_append]; exact hs.append hs2) s.toks
  exact c _ μ _ H' S' .none
 ·obtain ⟨⟨x, y⟩, hp, e2⟩ := Option.bind_eq_some_iff.mp e
  clear e
  cases Dg hp
  obtain ⟨hz, e3⟩ := cJ e2
  cases e3
  obtain ⟨_, _, _, _, rfl, hr⟩ := W.Ht
  refine CK r.handled hr hz.2.2 hz.2.1 _ items k (e1 ▸ hz.1) hL fun s' ys c' al hk hS' hi => c _ μ s' (H.Le hj hk fun kf => ⟨_, c', hS', ?_⟩) (by rw [qR]; exact Step.Le ⟨_, hj, rfl⟩ al hk ⟨_, hS'⟩) .none
  rw [Array.toList_append]
  exact (hs.mono kf (fun _ _ => rfl) (Nat.le_refl _)).append (tE hi)
end
section
variable {Γ : gK} {cx cy : Cx} {d : Nat} {env : Env} {μ aI bA : Nat → Addr} {n n₁ n₂ : Nat} {ρ : Loc} {s s₁ s₂ : Shared} {σ σ₁ : St}
theorem kept {h' : Heap} (H : aY Γ μ σ s.heap) (hk : ∀ b o, s.heap.get? b = some o → h'.get? b = some o) (t : Nat) :
  aY Γ μ σ h' ∧ Step (Own μ σ.length) μ σ.length s μ σ.length { s with heap := h', toks := t } ∧ cK s.heap h' := by
 have kf : cK s.heap h' := fun a o e _ => hk a o e
 exact ⟨⟨fun b o e => hk b o (H.base b o e), fun i o e => (H.objs i o e).mono (fun ob e' => hk _ _ e') kf (fun _ _ => rfl) (Nat.le_refl _), H.inj, H.lo⟩,
  ⟨fun b o e _ => hk b o e, fun b o e => ⟨o, hk b o e⟩, fun _ _ => rfl, Nat.le_refl _, fun _ h1 h2 => absurd h2 (Nat.not_lt.mpr h1), rfl, rfl, rfl⟩, kf⟩
theorem iS {h' : Heap} {v : V} {u : Value} {Q : Value → Shared → Prop} (H : aY Γ μ σ s.heap) (hk : ∀ b o, s.heap.get? b = some o → h'.get? b = some o) (t : Nat) (V : VR Γ μ σ.length h' v u) (c : Cont Γ μ σ s v σ Q) : Q u { s with heap := h', toks := t } :=
 have k := kept H hk t
 c u μ _ k.1 k.2.1 V
noncomputable def gJ (a : V) (σ : St) : Option (V × St) := match a with
 | .obj i => (σ[i]?).bind fun o => match o with
  | .list l => if l.length ≤ 1000000 then some (.int l.length, σ) else none
  | .cA l => if l.length ≤ 1000000 then some (.int l.length, σ) else none
  | _ => none
 | .tup l => if l.length ≤ 1000000 then some (.int l.length, σ) else none
 | _ => none
theorem bB.len (G : mT Γ) : bB Γ d (.builtin "len") (bW gJ) := .one fun A μ σ s a ua v σ' Q E r H V e c => by
 cases a with
 | obj i =>
  obtain ⟨rfl, hi⟩ := V.j5
  obtain ⟨o, hl, e⟩ := Option.bind_eq_some_iff.mp e
  cases o with
  | list l =>
   obtain ⟨hlen, e⟩ := cJ e
   cases e
   obtain ⟨hj, items, k, hL, hs⟩ := H.list (yC hl)
   have e1 := hs.length.trans Array.length_toList
   refine PySem.Calls.call_len_list hL.isList (by lia) ?_
   rw [← e1]
   exact c _ μ _ H (.toks _) (.int _ _)
  | cA l =>
   obtain ⟨hlen, e⟩ := cJ e
   cases e
   obtain ⟨hj, kvs, hd, hr⟩ := H.cA (yE hl)
   have e1 := hr.length
   refine call_len_dict (H.Cs G hj) hd (by lia) ?_
   rw [e1]
   exact c _ μ _ H (.toks _) (.int _ _)
  | aV _ => exact nS e
 | tup _ =>
  obtain ⟨hlen, e⟩ := cJ e
  cases e
  obtain ⟨_, _, _, rfl, ht, hs⟩ := V.tupI
  have e1 := hs.length.trans Array.length_toList
  refine PyProof.Rows.len_tuple ⟨_, ht, rfl, _, rfl⟩ (by lia) ?_
  rw [← e1]
  exact c _ μ _ H (.toks _) (.int _ _)
 | _ => exact nS e
noncomputable def cU (a : V) (σ : St) : Option (V × St) := match a with | .int b => some (.range 0 b, σ) | _ => none
noncomputable def oI (a b : V) (σ : St) : Option (V × St) := match a, b with | .int a, .int b => some (.range a b, σ) | _, _ => none
theorem bB.gO : bB Γ d (.type "range") (bW cU) := .one fun A μ σ s a ua v σ' Q E r H V e c => by
 obtain ⟨x, rfl, e2⟩ := KK e
 cases e2
 obtain ⟨_, rfl⟩ := V.f0
 refine call_range_1 ?_
 exact iS H (fun b o e => Heap.get?_push_of_some _ e) _ (.range (Heap.get?_push_size _ rfl)) c
theorem bB.Cp : bB Γ d (.type "range") (sW oI) := .two fun A μ σ s a b ua ub v σ' Q E r H V W e c => by
 obtain ⟨x, y, rfl, rfl, e2⟩ := m3 e
 cases e2
 obtain ⟨_, rfl⟩ := V.f0
 obtain ⟨_, rfl⟩ := W.f0
 refine call_range_2 ?_
 exact iS H (fun b o e => Heap.get?_push_of_some _ e) _ (.range (Heap.get?_push_size _ rfl)) c
noncomputable def Nu (a b : V) (σ : St) : Option (V × St) := match a, b with | .int a, .int b => some (.int (if b < a then b else a), σ) | _, _ => none
noncomputable def Nv (a b : V) (σ : St) : Option (V × St) := match a, b with | .int a, .int b => some (.int (if b > a then b else a), σ) | _, _ => none
theorem bB.min : bB Γ d (.builtin "min") (sW Nu) := .two fun A μ σ s a b ua ub v σ' Q E r H V W e c => by
 obtain ⟨x, y, rfl, rfl, e2⟩ := m3 e
 cases e2
 obtain ⟨_, rfl⟩ := V.f0
 obtain ⟨_, rfl⟩ := W.f0
 refine min_two_ints r.handled fun h' tk hk => iS H hk tk ?_ c
 split <;> exact .int _ _
theorem bB.max : bB Γ d (.builtin "max") (sW Nv) := .two fun A μ σ s a b ua ub v σ' Q E r H V W e c => by
 obtain ⟨x, y, rfl, rfl, e2⟩ := m3 e
 cases e2
 obtain ⟨_, rfl⟩ := V.f0
 obtain ⟨_, rfl⟩ := W.f0
 refine max_two_ints r.handled fun h' tk hk => iS H hk tk ?_ c
 split <;> exact .int _ _
noncomputable def LT (a : V) (σ : St) : Option (V × St) := match a with | .int a => some (.int (if a < 0 then -a else a), σ) | _ => none
theorem bB.abs : bB Γ d (.builtin "abs") (bW LT) := .one fun A μ σ s a ua v σ' Q E r H V e c => by
 obtain ⟨x, rfl, e2⟩ := KK e
 cases e2
 obtain ⟨_, rfl⟩ := V.f0
 exact call_abs_int fun u tk => c _ μ _ H (.toks _) (.int _ _)
noncomputable def intsOf : List V → Option (List Int)
 | [] => some []
 | .int i :: l => (intsOf l).map (i :: ·)
 | _ :: _ => none
theorem DE {v : V} {l : List V} {ns : List Int} (e : intsOf (v :: l) = some ns) : E2 fun i ms => A3 (v = .int i) (intsOf l = some ms) (ns = i :: ms) := by
 cases v with
 | int _ =>
  obtain ⟨ms, hm, e⟩ := Option.map_eq_some_iff.mp e
  exact ⟨_, _, rfl, hm, e.symm⟩
 | _ => exact nS e
theorem sQ {h : Heap} {l : List V} : ∀ {us : List Value} {ns : List Int}, VRs Γ μ n h l us → intsOf l = some ns → IntsAre us ns := by
 induction l with
 | nil => intro us ns x e; cases x.EQ; cases e; exact .nil
 | cons v l ih =>
  intro us ns x e
  obtain ⟨i, ms, rfl, hm, rfl⟩ := DE e
  obtain ⟨_, _, rfl, a, b⟩ := x.wX
  obtain ⟨_, rfl⟩ := a.f0
  exact .cons _ _ (ih b hm)
noncomputable def vE (l : List Int) : Int := l.foldl (· + ·) 0
noncomputable def Fc (a : V) (σ : St) : Option (V × St) := match a with
 | .obj i => (getL σ i).bind fun l => (intsOf l).bind fun ns => if ns.length ≤ 1000 ∧ ns.all (fun i => decide (-1000000000 ≤ i ∧ i ≤ 1000000000)) = true then some (.int (vE ns), σ) else none
 | _ => none
theorem wG (ns : List Int) : ∀ j, j ≤ ns.length → preSum (fun i => ns.getD i 0) j = vE (ns.take j)
 | 0, _ => by simp [preSum, vE]
 | j + 1, h => by
  have hj : j < ns.length := h
  rw [preSum, wG ns j (Nat.le_of_lt hj), List.take_succ_eq_append_getElem hj]
  unfold vE
  rw [List.foldl_append]
  simp [hj]
theorem tS {val : Nat → Int} {n : Nat} (h : ∀ i, i < n → -1000000000 ≤ val i ∧ val i ≤ 1000000000) : ∀ j, j ≤ n → -(1000000000 * (j : Int)) ≤ preSum val j ∧ preSum val j ≤ 1000000000 * (j : Int)
 | 0, _ => by simp [preSum]
 | j + 1, hj => by
  have a := tS h j (by lia)
  have b := h j hj
  unfold preSum
  push_cast
  lia
theorem isList {h : Heap} {a : Addr} {items : Array Value} {k : Nat} (x : IsL h a items k) : h.IsList a items := ⟨_, x, rfl, _, rfl⟩
theorem bB.sum : bB Γ d (.builtin "sum") (bW Fc) := .one fun A μ σ s a ua v σ' Q E r H V e c => by
 unfold Fc at e
 split at e
 case h_2 => cases e
 obtain ⟨l, hl, e⟩ := Option.bind_eq_some_iff.mp e
 obtain ⟨ns, hns, e⟩ := Option.bind_eq_some_iff.mp e
 split at e
 case isFalse => cases e
 rename_i hz
 cases e
 obtain ⟨rfl, hi⟩ := V.j5
 obtain ⟨hj, items, k, hL, hs⟩ := H.list hl
 have hI := sQ hs hns
 have hlen := hI.length
 simp only [Array.length_toList] at hlen
 have hlt := Heap.lt_size hL
 have hne : μ _ ≠ s.heap.objs.size := Nat.ne_of_lt hlt
 refine call_sum_walk ?_
 refine wpAny_pyIter_list (isList hL) ⟨_, _, _, _, _, _, fun i => ns.getD i 0, rfl, Walks.list (A := A.in1) r.handled s.heap.objs.size _ hne items, ?_, ?_, ?_, ?_, ?_⟩
 ·exact ⟨⟨_, Heap.get?_push_size _ rfl, rfl, rfl⟩, ⟨_, Heap.get?_push_of_some _ hL, rfl, _, rfl⟩⟩
 ·intro b hb
  show b < (s.heap.objs.push _).size
  rw [Array.size_push]
  simp at hb
  rcases hb with rfl | rfl <;> first | exact Nat.lt_succ_self _ | exact Nat.lt_succ_of_lt hlt
 ·intro i v hv
  rw [← Array.getElem?_toList] at hv
  exact hI.int_at i v hv
 ·have hb : ∀ i, i < items.size → -1000000000 ≤ ns.getD i 0 ∧ ns.getD i 0 ≤ 1000000000 := fun i hi => by
   have hm : ns.getD i 0 ∈ ns := by
    have hi' : i < ns.length := by lia
    simp [hi']
   simpa using List.all_eq_true.mp hz.2 _ hm
  intro j hj
  have q := tS hb (j + 1) hj
  have q2 := hb j hj
  unfold InLong
  dsimp only
  constructor <;> constructor <;> lia
 ·intro h' tk t' hk
  have e3 : preSum (fun i => ns.getD i 0) items.size = vE ns := by
   rw [hlen]; exact (wG ns _ (Nat.le_refl _)).trans (by rw [List.take_length])
  rw [e3]
  refine iS H (fun b o e => hk b o (fun z => ?_) (Heap.get?_push_of_some _ e)) tk (.int _ _) c
  simp at z
  rw [z] at e
  exact Nat.lt_irrefl _ (Heap.lt_size e)
end
end Mine
end
section
open PySem PySem.W PyProof.Rows PySem.Spec
namespace Mine
section
variable {prog : Program} {w : World} {A : Around} {E : Value → Shared → Prop} {s : Shared}
theorem yV {l S : Addr} {items : Array Value} {ns : List Int} {led : Bool} {odict : Option Addr} {oslots : Array (Option Value)} {nl : Nat} {R : Value → Shared → Prop} (hh : A.handled = none) (hS : s.heap.get? S = some { cls := .type "set", dict := none, data := .set #[] 0 (.fresh 0 0 led) }) (hz : s.heap.objs.size = S + 1)
  (hol : s.heap.get? l = some { cls := .type "tuple", dict := odict, data := .seq items nl, slots := oslots }) (hlS : l < S) (hi : PyProof.Rows.IntsAre items.toList ns) (hb : items.size + 1 < scanBound)
  (hR : ∀ (h' : Heap) (tk : Nat), h'.SetOf (intKind prog w) S (fun k' => (PyProof.Rows.firstMet (fun i => ns.getD i 0) items.size).any (· == k')) (PyProof.Rows.firstMet (fun i => ns.getD i 0) items.size).length → (∀ b o, b < S → s.heap.get? b = some o → h'.get? b = some o) → R .none { s with heap := h', toks := tk }) :
  wpAny (model prog w) A.in1.in1 (Builtin.«set.__init__» ⟨[.ref S, .ref l], []⟩) (fun fin s' => match fin with | .done f => wants R E (.ok f) s' | .again c' => c'.quiet = true ∧ codeAny (model prog w) A.in1 c' (wants R E) s') (fun e s' => wants R E (.error e) s') s := by
 have hsls := PySem.F.sub_tuple_set
 have hslf := PySem.F.sub_tuple_frozenset
 have hne : (Value.type "tuple" == Value.type "dict") = false := by decide
 have hl1 : s.heap.IsTuple l items := ⟨_, hol, rfl, nl, rfl⟩
 unfold Builtin.«set.__init__» noKeywords Builtin.Frozenset.updateFrom
 generalize hPI : pyIter = PI
 wp_walk
 subst hPI
 refine wpAny_pyIter_tuple hl1 ?_
 refine wpAny_bind (wpAny_runValue ?_)
 have hh3 : A.in1.in1.in1.handled = none := by simp [hh]
 have hneI : l ≠ s.heap.objs.size := by
  rw [hz]; exact Nat.ne_of_lt (Nat.lt_succ_of_lt hlS)
 have hSf : S ∉ [s.heap.objs.size, l] := by
  rw [hz]
  exact fun z => (List.mem_cons.mp z).elim (Nat.ne_of_lt (Nat.lt_succ_self _)) fun z => Nat.ne_of_gt hlS (List.mem_singleton.mp z)
 have hval : ∀ (i : Nat) (v : Value), items[i]? = some v → ∃ t, v = .int ((fun i => ns.getD i 0) i) t := fun i v hv =>
  PyProof.Rows.IntsAre.int_at hi i v (by rw [Array.getElem?_toList]; exact hv)
 refine PyProof.Rows.codeAny_set_update_loopS ((Walks.tuple hh3 _ l hneI items).toS) S
  hSf (fun i => ns.getD i 0) hval hb (items.size - 0) 0 _ (by lia) (Nat.zero_le _)
  ⟨⟨_, Heap.get?_push_size _ rfl, rfl, rfl⟩, (hl1.push _)⟩ ?hS0 ?hR
 case hS0 =>
  have hget : (s.heap.push { cls := .type "tuple_iterator", data := .fields #[.ref l, .int 0 0] }).get? S
    = some { cls := .type "set", dict := none, data := .set #[] 0 (.fresh 0 0 led) } := Heap.get?_push_of_some _ hS
  exact PyProof.Rows.SetOf_congr ((PyProof.Rows.setObjOf_fresh (knd := intKind prog w) led).setOf hget (by unfold scanBound; lia)) (fun _ => rfl) rfl
 case hR =>
  intro s' hm hS'
  obtain ⟨h', g', d', tk', os'⟩ := s'
  have eg : g' = s.gens := hm.gens
  have ed : d' = s.drawn := hm.drawn
  have eo : os' = s.os := hm.os
  subst eg; subst ed; subst eo
  show wpAny _ _ _ _ _ _
  refine wpAny_pure ?_
  show wpAny _ _ (ret Value.none) _ _ _
  refine wpAny_pure (hR h' tk' hS' fun b o hb e => ?_)
  have hb1 : b ≠ S := Nat.ne_of_lt hb
  have hb2 : b ≠ s.heap.objs.size := by
   rw [hz]; exact Nat.ne_of_lt (Nat.lt_succ_of_lt hb)
  exact hm.heap b o (fun z => (List.mem_cons.mp z).elim hb1 fun z => hb2 (List.mem_singleton.mp z)) (Heap.get?_push_of_some _ e)
theorem Ax {l : Addr} {items : Array Value} {ns : List Int} {Q : Value → Shared → Prop}
  (hh : A.handled = none) (hl : s.heap.IsTuple l items) (hi : PyProof.Rows.IntsAre items.toList ns) (hb : items.size + 1 < scanBound)
  (h : ∀ (h' : Heap) (tk : Nat), h'.SetOf (intKind prog w) s.heap.objs.size (fun k' => (PyProof.Rows.firstMet (fun i => ns.getD i 0) items.size).any (· == k')) (PyProof.Rows.firstMet (fun i => ns.getD i 0) items.size).length →
   (∀ b o, b < s.heap.objs.size → s.heap.get? b = some o → h'.get? b = some o) → Q (.ref s.heap.objs.size) { s with heap := h', toks := tk }) :
  wpAny (model prog w) A (call (.type "set") [.ref l]) Q E s := by
 obtain ⟨c, tl, hmro⟩ := F.called_set.mro
 have hmade := F.called_set.made
 have hsub := F.called_set.sub
 refine wpAny_call (codeAny_of_tree ?_)
 show wpAny _ _ (callAny (.type "set") _) _ _ _
 refine wpAny_pure ⟨Code.quiet_builtin _ (by decide +kernel), codeAny_builtin F.entry_type_call ?_⟩
 rw [Around.under_plain (weight_type_call_type "set" [.ref l] []) rfl]
 have h1 := F.called_set.notType
 have h2 := F.called_set.canCreate
 have hct := F.typeCall_set_1 (.ref l)
 repeat (any_goals (first | assumption | wp_step))
 refine codeAny_mono (code_set_new_1 (.ref l) (E := E) (Q₁ := fun obj s₁ => ∃ led : Bool, obj = .ref s.heap.objs.size ∧ s₁ = { s with heap := s.heap.push { cls := .type "set", dict := none, data := .set #[] 0 (.fresh 0 0 led) } }) fun led => ⟨led, rfl, rfl⟩) fun r s₁ hr => ?_
 cases r with
 | error e => exact hr
 | ok fl =>
  cases fl with
  | ret obj =>
   obtain ⟨led, rfl, rfl⟩ := hr
   have hS : (s.heap.push { cls := .type "set", dict := none, data := .set #[] 0 (.fresh 0 0 led) }).get? s.heap.objs.size = some { cls := .type "set", dict := none, data := .set #[] 0 (.fresh 0 0 led) } := Heap.get?_push_size _ rfl
   have hT : Shared.TypeIs { s with heap := s.heap.push { cls := .type "set", dict := none, data := .set #[] 0 (.fresh 0 0 led) } } (.ref s.heap.objs.size) "set" := ⟨_, hS, rfl⟩
   have hk1 : ∀ b o, s.heap.get? b = some o → (s.heap.push { cls := .type "set", dict := none, data := .set #[] 0 (.fresh 0 0 led) }).get? b = some o := fun b o e => Heap.get?_push_of_some _ e
   have hz1 : (s.heap.push { cls := .type "set", dict := none, data := .set #[] 0 (.fresh 0 0 led) }).objs.size = s.heap.objs.size + 1 := Heap.size_push ..
   generalize s.heap.push { cls := .type "set", dict := none, data := .set #[] 0 (.fresh 0 0 led) } = h1 at hS hT hk1 hz1 ⊢
   have hli := F.called_set.init.lookup
   have hbi := F.called_set.init.bind (.ref s.heap.objs.size)
   repeat (any_goals (first | assumption | wp_step))
   refine codeAny_mono (codeAny_call_builtin (R := wants (fun r s₂ => r = .none ∧ ∃ h' tk, s₂ = { s with heap := h', toks := tk } ∧
     h'.SetOf (intKind prog w) s.heap.objs.size (fun k' => (PyProof.Rows.firstMet (fun i => ns.getD i 0) items.size).any (· == k')) (PyProof.Rows.firstMet (fun i => ns.getD i 0) items.size).length ∧
     (∀ b o, b < s.heap.objs.size → s.heap.get? b = some o → h'.get? b = some o)) E) F.called_set.init.plain F.entry_set_init (check_set_init_1 hT ?_)) fun r₂ s₂ hr₂ => ?_
   ·obtain ⟨ol, hol, hcl, nl, hdl⟩ := hl
    obtain ⟨ocls, odict, odata, oslots⟩ := ol
    simp only at hcl hdl
    subst hcl; subst hdl
    have hol' : h1.get? l = some { cls := .type "tuple", dict := odict, data := .seq items nl, slots := oslots } := hk1 _ _ hol
    exact yV hh hS hz1 hol' (Heap.lt_size hol) hi hb fun h' tk hS' hk => ⟨rfl, h', tk, rfl, hS', fun b o hb e => hk b o hb (hk1 b o e)⟩
   ·cases r₂ with
    | error e => exact hr₂
    | ok fl₂ =>
     cases fl₂ with
     | ret r =>
      obtain ⟨rfl, h', tk, rfl, hS', hk'⟩ := hr₂
      repeat (any_goals (first | assumption | wp_step))
      exact h _ _ hS' hk'
     | _ => exact hr₂.elim
  | _ => exact hr.elim
end
section
variable {Γ : gK} {cx cy : Cx} {d : Nat} {env : Env} {μ aI bA : Nat → Addr} {n n₁ n₂ : Nat} {ρ : Loc} {s s₁ s₂ : Shared} {σ σ₁ : St}
noncomputable def Lm (ns : List Int) : List Int := ns.foldl step_dedup []
theorem CI (ns : List Int) : firstMet (fun i => ns.getD i 0) ns.length = Lm ns := by
 unfold firstMet Lm
 congr 1
 apply List.ext_getElem
 ·simp
 ·intro i h1 h2
  simp at h1
  simp [h1]
noncomputable def itemsOf (v : V) (σ : St) : Option (List V) := match v with
 | .obj i => getL σ i
 | .tup l => some l
 | _ => none
noncomputable def oJ (v : V) (σ : St) : Option (V × St) := (itemsOf v σ).bind fun l => (intsOf l).bind fun ns => if ns.length ≤ 30 then some (.int (Lm ns).length, σ) else none
theorem Cw {A : Around} {E : Value → Shared → Prop} {Q : Value → Shared → Prop} {v r : V} {u : Value} {σ' : St} (hh : A.handled = none) (H : aY Γ μ σ s.heap) (V : VR Γ μ σ.length s.heap v u) (e : oJ v σ = some (r, σ')) (c : Cont Γ μ σ s r σ' Q) :
  wpAny Γ.M A (call (.type "set") [u]) (fun S s' => (∀ b o, Γ.h₀.get? b = some o → s'.heap.get? b = some o) ∧ wpAny Γ.M A (call (.builtin "len") [S]) Q E s') E s := by
 unfold oJ at e
 obtain ⟨l, hl, e⟩ := Option.bind_eq_some_iff.mp e
 obtain ⟨ns, hns, e⟩ := Option.bind_eq_some_iff.mp e
 split at e
 case isFalse => cases e
 rename_i hz
 cases e
 have fin : ∀ (items : Array Value) (h' : Heap) (tk : Nat), items.size = ns.length → h'.SetOf (intKind Γ.prog Γ.w) s.heap.objs.size (fun k' => (firstMet (fun i => ns.getD i 0) items.size).any (· == k')) (firstMet (fun i => ns.getD i 0) items.size).length →
   (∀ b o, b < s.heap.objs.size → s.heap.get? b = some o → h'.get? b = some o) → (∀ b o, Γ.h₀.get? b = some o → h'.get? b = some o) ∧ wpAny Γ.M A (call (.builtin "len") [.ref s.heap.objs.size]) Q E { s with heap := h', toks := tk } := by
  intro items h' tk hsz hS hk
  have hk' : ∀ b o, s.heap.get? b = some o → h'.get? b = some o := fun b o e => hk b o (Heap.lt_size e) e
  refine ⟨fun b o e => hk' b o (H.base b o e), ?_⟩
  obtain ⟨o, es, ep, t, ho, hex, hd, _, _, hb, hf, hn⟩ := hS
  refine call_len_set ho hex hd hf (by have : scanBound < 2 ^ 62 := (by decide); lia) ?_
  rw [hn, hsz, CI]
  exact iS H hk' _ (.int _ _) c
 unfold itemsOf at hl
 split at hl
 ·cases V with
  | obj hi =>
   obtain ⟨hj, items, k, hL, hs⟩ := H.list hl
   have hI := sQ hs hns
   have hlen := hI.length
   rw [Array.length_toList] at hlen
   exact call_set_list hh (isList hL) hI (by have : 40 < scanBound := (by decide); lia) fun h' tk hS hk => fin items h' tk hlen hS hk
 ·cases hl
  obtain ⟨_, _, _, rfl, ht, hs⟩ := V.tupI
  rename_i items k
  have hI := sQ hs hns
  have hlen := hI.length
  rw [Array.length_toList] at hlen
  exact Ax hh ⟨_, ht, rfl, _, rfl⟩ hI (by have : 40 < scanBound := (by decide); lia) fun h' tk hS hk => fin items h' tk hlen hS hk
 ·cases hl
theorem plain1 {e : PySem.Expr} (h : ∀ env, starEach [e] env = [(false, eval e env)]) : Plain [e] := fun env => by rw [h]; rfl
theorem aC.sO {x y : Str} {p p2 pos pos2 : Pos} {e : PySem.Expr} {f : X V} (Nl : cW Γ x (.builtin "len")) (Ns : cW Γ y (.type "set")) (h1 : cx.sc.names.lookup x = some .globalImplicit) (h2 : cx.sc.names.lookup y = some .globalImplicit) (hd1 : (x == ("__debug__" : Str)) = false) (hd2 : (y == ("__debug__" : Str)) = false)
  (s1 : ∀ env, starEach [.Call (.Name y p2) [e] [] pos2] env = [(false, eval (.Call (.Name y p2) [e] [] pos2) env)]) (s2 : ∀ env, starEach [e] env = [(false, eval e env)]) (hf : aC Γ d cx e f) :
  aC Γ d cx (.Call (.Name x p) [.Call (.Name y p2) [e] [] pos2] [] pos) (X.bind f fun v => X.lift (oJ v)) := fun A env μ ρ σ s v σ' Q E r H R ee c => by
 obtain ⟨a, σ₁, e1, ee⟩ := X.bind_some ee
 refine wpAny_Call_NameR (mM Nl h1 hd1 H R ?_)
 refine callWith_of (P := fun h => ∀ b o, Γ.h₀.get? b = some o → h.get? b = some o) (by rw [l8, plain1 s1 env]; rfl) kB.builtin (j8 (plain1 s1) ?_)
 refine args_cons ?_ (s1 env)
 refine wpAny_Call_NameR (mM Ns h2 hd2 H R ?_)
 refine callWith_of (P := fun h => ∀ b o, Γ.h₀.get? b = some o → h.get? b = some o) (by rw [l8, plain1 s2 env]; rfl) kB.type (j8 (plain1 s2) ?_)
 refine args_cons ?_ (s2 env)
 refine hf A env μ ρ σ s a σ₁ _ E r H R e1 fun u aI s₁ H₁ S₁ cN => args_nil ⟨H₁.base, ?_⟩
 refine wpAny_mono (Cw r.handled H₁ cN ee fun u bA s₂ cM S₂ eQ => c u bA s₂ cM (S₁.then S₂) eQ) (fun S s' q => args_nil q) fun _ _ q => q
noncomputable def boolsOf : List V → Option (List Bool)
 | [] => some []
 | .bool i :: l => (boolsOf l).map (i :: ·)
 | _ :: _ => none
theorem CR {v : V} {l : List V} {ns : List Bool} (e : boolsOf (v :: l) = some ns) : E2 fun i ms => A3 (v = .bool i) (boolsOf l = some ms) (ns = i :: ms) := by
 cases v with
 | bool _ =>
  obtain ⟨ms, hm, e⟩ := Option.map_eq_some_iff.mp e
  exact ⟨_, _, rfl, hm, e.symm⟩
 | _ => exact nS e
theorem Fj {h : Heap} {l : List V} : ∀ {us : List Value} {ns : List Bool}, VRs Γ μ n h l us → boolsOf l = some ns → us.length = ns.length ∧ ∀ (i : Nat) (v : Value), us[i]? = some v → v = .bool (ns.getD i false) := by
 induction l with
 | nil => intro us ns x e; cases x.EQ; cases e; exact ⟨rfl, fun i v h => by cases h⟩
 | cons v l ih =>
  intro us ns x e
  obtain ⟨i, ms, rfl, hm, rfl⟩ := CR e
  obtain ⟨_, _, rfl, a, b⟩ := x.wX
  cases a.uU
  obtain ⟨h1, h2⟩ := ih b hm
  refine ⟨congrArg (· + 1) h1, fun i v hv => ?_⟩
  cases i with
  | zero => cases hv; rfl
  | succ i => exact h2 i v hv
noncomputable def Ir (a : V) (σ : St) : Option (V × St) := match a with
 | .obj i => (getL σ i).bind fun l => (boolsOf l).bind fun ns => if ns.length ≤ 100000 then some (.bool (ns.all id), σ) else none
 | _ => none
theorem range_all (ns : List Bool) : (List.range ns.length).all (fun i => ns.getD i false) = ns.all id := by
 rw [Bool.eq_iff_iff]
 simp only [List.all_eq_true, List.mem_range]
 constructor
 ·intro h b hb
  obtain ⟨i, hi, rfl⟩ := List.getElem_of_mem hb
  have := h i hi
  simpa [hi] using this
 ·intro h i hi
  have := h ns[i] (List.getElem_mem hi)
  simpa [hi] using this
theorem bB.all : bB Γ d (.builtin "all") (bW Ir) := .one fun A μ σ s a ua v σ' Q E r H V e c => by
 unfold Ir at e
 split at e
 case h_2 => cases e
 obtain ⟨l, hl, e⟩ := Option.bind_eq_some_iff.mp e
 obtain ⟨ns, hns, e⟩ := Option.bind_eq_some_iff.mp e
 split at e
 case isFalse => cases e
 rename_i hz
 cases e
 obtain ⟨rfl, hi⟩ := V.j5
 obtain ⟨hj, items, k, hL, hs⟩ := H.list hl
 obtain ⟨hlen, hI⟩ := Fj hs hns
 simp only [Array.length_toList] at hlen
 have hlt := Heap.lt_size hL
 have hne : μ _ ≠ s.heap.objs.size := Nat.ne_of_lt hlt
 refine call_all_walk ?_
 refine wpAny_pyIter_list (isList hL) ⟨_, _, _, _, _, _, fun i => ns.getD i false, rfl, Walks.list (A := A.in1) r.handled s.heap.objs.size _ hne items, ?_, ?_, ?_⟩
 ·exact ⟨⟨_, Heap.get?_push_size _ rfl, rfl, rfl⟩, ⟨_, Heap.get?_push_of_some _ hL, rfl, _, rfl⟩⟩
 ·intro i v s Q E hv hQ
  rw [← Array.getElem?_toList] at hv
  rw [hI i v hv]
  exact wpAny_truthy_bool hQ
 ·intro h' tk hk
  rw [hlen, range_all]
  refine iS H (fun b o e => hk b o (fun z => ?_) (Heap.get?_push_of_some _ e)) tk (.bool _) c
  simp at z
  rw [z] at e
  exact Nat.lt_irrefl _ (Heap.lt_size e)
theorem uS {h' : Heap} {l : List V} {items : Array Value} {Q : Value → Shared → Prop} (H : aY Γ μ σ s.heap) (hk : ∀ b o, s.heap.get? b = some o → h'.get? b = some o) (hl : VRs Γ μ σ.length s.heap l items.toList) (c : Cont Γ μ σ s (.tup l) σ Q) (t : Nat) :
  Q (.ref h'.objs.size) { s with heap := h'.push { cls := .type "tuple", data := .seq items }, toks := t } :=
 have k := kept H hk t
 iS H (fun b o e => Heap.get?_push_of_some _ (hk b o e)) t (.tup (IsT.new _ _) ((hl.mono k.2.2 (fun _ _ => rfl) (Nat.le_refl _)).mono (.push _ _) (fun _ _ => rfl) (Nat.le_refl _))) c
theorem Bh {A : Around} {E : Value → Shared → Prop} {R : List Value → Shared → Prop} {r : Addr} {a b : Int} {t u v : Tok} (hh : A.handled = none) (hr : IsRange s.heap r a b 1 t u v) (hsmall : Builtin.Range.small a b 1 = true) (hlen : (b - a).toNat ≤ 1000)
  (h : ∀ (h' : Heap) (tk : Nat) (acc : Array Value), (∀ b o, s.heap.get? b = some o → h'.get? b = some o) → ItemsOf (fun i v => ∃ t, v = .int (a + i * 1) t) acc (b - a).toNat → R acc.toList { s with heap := h', toks := tk }) :
  wpAny Γ.M A (collect (.ref r)) R E s := by
 unfold collect
 refine wpAny_bind (wpAny_runValue (codeAny_builtin entry_proto_collect' ?_))
 rw [Around.under_plainId PySem.F.plain_proto_collect _]
 show wpAny _ A.in1 (newList [] >>= fun l => again (.builtin "list.__iadd__" ⟨[l, .ref r], []⟩)) _ _ s
 refine wpAny_bind (wpAny_newObj_type ?_)
 refine wpAny_pure ⟨plainId_quiet PySem.F.plain_list_iadd _, codeAny_builtin entry_list_iadd' ?_⟩
 rw [Around.under_plainId PySem.F.plain_list_iadd _]
 have hS₁ : (s.heap.push { cls := .type "list", data := .seq ([] : List Value).toArray }).get? s.heap.objs.size = some { cls := .type "list", data := .seq #[] } := Heap.get?_push_size _ rfl
 show wpAny _ A.in1 (Builtin.List.listExtendWith (.ref s.heap.objs.size) (.ref r) (.ref s.heap.objs.size)) _ _ _
 have key := wpAny_extend_range (prog := Γ.prog) (w := Γ.w) (A := A) (s := { s with heap := s.heap.push { cls := .type "list", data := .seq ([] : List Value).toArray } }) (n := (b - a).toNat)
  (R := fun (q : Result) (s' : Shared) => ∃ (h' : Heap) (tk : Nat) (acc' : Array Value) (c' : Nat), q = .ok (.ret (.ref s.heap.objs.size)) ∧ s' = { s with heap := h', toks := tk } ∧
   (∀ b o, s.heap.get? b = some o → h'.get? b = some o) ∧ h'.get? s.heap.objs.size = some { cls := .type "list", dict := none, data := .seq acc' c', slots := #[] } ∧ ItemsOf (fun i v => ∃ t, v = .int (a + i * 1) t) acc' (b - a).toNat)
  hh (Heap.get?_push_of_some _ hr) hsmall (PyProof.Rows.rangeSize_nat a b) (by lia) s.heap.objs.size (.ref s.heap.objs.size) 0 hS₁
  (fun h' tk acc' c' hk hS' hacc => ⟨h', tk, acc', c', rfl, rfl, fun b o e => hk b o (Nat.ne_of_lt (Heap.lt_size e)) (Heap.get?_push_of_some _ e), hS', hacc⟩)
 refine wpAny_mono key (fun fin s' x => ?_) fun e s' x => ?_
 ·cases fin with
  | done f =>
   obtain ⟨h', tk, acc', c', e, rfl, hk, hS', hacc⟩ := x
   cases e
   show wpAny _ A (load s.heap.objs.size >>= _) _ _ _
   refine wpAny_bind (wpAny_load hS' ?_)
   exact wpAny_pure (h h' tk acc' hk hacc)
  | again c₁ =>
   refine ⟨x.1, codeAny_mono x.2 fun q s₂ y => ?_⟩
   obtain ⟨h', tk, acc', c', rfl, rfl, hk, hS', hacc⟩ := y
   show wpAny _ A (load s.heap.objs.size >>= _) _ _ _
   refine wpAny_bind (wpAny_load hS' ?_)
   exact wpAny_pure (h h' tk acc' hk hacc)
 ·obtain ⟨_, _, _, _, e', _⟩ := x
  cases e'
end
end Mine
end
section
open PySem PySem.W PyProof.Rows
open AutoSeq1 (wpAny_loadPart')
namespace Mine
section
variable {Γ : gK} {cx cy : Cx} {d : Nat} {env : Env} {μ aI bA : Nat → Addr} {n n₁ n₂ : Nat} {ρ : Loc} {s s₁ s₂ : Shared} {σ σ₁ : St}
theorem GM {a : Int} : ∀ (m : Nat) (acc : Array Value), ItemsOf (fun i v => ∃ t, v = .int (a + i * 1) t) acc m → IntsAre acc.toList ((List.range m).map fun i => a + (i : Nat)) := by
 intro m acc h
 obtain ⟨h1, h2⟩ := h
 have key : ∀ (l : List Value) (k : Nat), (∀ (j : Nat) (v : Value), l[j]? = some v → ∃ t, v = .int (a + ((k + j : Nat) : Int)) t) → IntsAre l ((List.range l.length).map fun i => a + ((k + i : Nat) : Int)) := by
  intro l
  induction l with
  | nil => intro k h; exact .nil
  | cons v l ih =>
   intro k h
   obtain ⟨t, ht⟩ := h 0 v rfl
   subst ht
   rw [List.length_cons, List.range_succ_eq_map, List.map_cons, List.map_map]
   refine .cons _ _ ?_
   have e : ((fun i : Nat => a + ((k + i : Nat) : Int)) ∘ Nat.succ) = fun i => a + ((k + 1 + i : Nat) : Int) := funext fun j => by
    show a + ((k + (j + 1) : Nat) : Int) = _
    congr 2; lia
   rw [e]
   refine ih (k + 1) fun j v hv => ?_
   obtain ⟨t, ht⟩ := h (j + 1) v (by simpa using hv)
   exact ⟨t, by rw [ht]; congr 3; lia⟩
 have := key acc.toList 0 fun j v hv => by
  obtain ⟨t, ht⟩ := h2 j v (by rw [← Array.getElem?_toList]; exact hv)
  exact ⟨t, by rw [ht]; simp⟩
 rw [Array.length_toList, h1] at this
 simpa using this
theorem tuple_range {A : Around} {E : Value → Shared → Prop} {Q : Value → Shared → Prop} {r : Addr} {a b : Int} {t u v : Tok} (hh : A.handled = none) (hr : IsRange s.heap r a b 1 t u v) (hsmall : Builtin.Range.small a b 1 = true) (hlen : (b - a).toNat ≤ 1000)
  (h : ∀ (h' : Heap) (tk : Nat) (acc : Array Value), (∀ b o, s.heap.get? b = some o → h'.get? b = some o) → IntsAre acc.toList (rangeInts a b) → Q (.ref h'.objs.size) { s with heap := h'.push { cls := .type "tuple", data := .seq acc }, toks := tk }) :
  wpAny Γ.M A (call (.type "tuple") [.ref r]) Q E s := by
 refine callType_codes (Q₁ := fun obj s₁ => s₁.TypeIs obj "tuple" ∧ Q obj s₁) PySem.F.called_tuple (PySem.F.typeCall_tuple_1 _) PySem.F.entry_object_init ?_ fun obj s₁ h₁ => ⟨h₁.1, PySem.F.args_object_init_2 obj _, object_init_meets PySem.F.called_tuple.init.lookup PySem.F.called_tuple.made (by decide) Γ.prog Γ.w A.in1 _ s₁ ⟨h₁.1, rfl, h₁.2⟩⟩
 refine codeAny_of_tree ?_
 show wpAny _ _ (do checkBuiltinCall "tuple.__new__" ⟨[.type "tuple", .ref r], []⟩; again (.builtin "tuple.__new__" ⟨[.type "tuple", .ref r], []⟩)) _ _ s
 refine wpAny_bind (wpAny_of_eq (PySem.F.newCall_tuple_1 _) (wpAny_pure ⟨plainId_quiet PySem.F.plain_tuple_new _, codeAny_builtin PySem.F.entry_tuple_new ?_⟩))
 rw [Around.under_plainId PySem.F.plain_tuple_new _]
 have hsub := sub_tuple_self
 have hinit := init_tuple_lookup
 have hmh := madeHere_tuple
 have hTI : s.TypeIs (.ref r) "range" := ⟨_, hr, rfl⟩
 wp_walk using wpAny_typeOf hTI, Bh (by assumption) hr hsmall hlen
 intro h' tk acc hk hacc
 show wpAny _ _ (Builtin.Tuple.tupleExact acc.toList.toArray >>= fun v => ret v) _ _ _
 unfold Builtin.Tuple.tupleExact
 refine wpAny_bind (wpAny_newObj_type ?_ (by show acc.toList.toArray.size ≤ sizeLine; simp only [Array.toArray_toList]; rw [hacc.1, sizeLine_eq]; lia))
 refine wpAny_pure ?_
 have e : acc.toList.toArray = acc := by simp
 rw [e]
 exact ⟨⟨_, Heap.get?_push_size _ rfl, rfl⟩, h h' tk acc hk (GM _ _ hacc)⟩
noncomputable def gS (a : V) (σ : St) : Option (V × St) := match a with
 | .obj i => (getL σ i).bind fun l => if l.length ≤ 100000 then some (.tup l, σ) else none
 | .tup l => some (.tup l, σ)
 | .range a b => if Builtin.Range.small a b 1 = true ∧ (b - a).toNat ≤ 1000 then some (.tup ((rangeInts a b).map .int), σ) else none
 | _ => none
theorem bB.tuple : bB Γ d (.type "tuple") (bW gS) := .one fun A μ σ s a ua v σ' Q E r H V e c => by
 cases a with
 | obj _ =>
  obtain ⟨l, hl, e⟩ := Option.bind_eq_some_iff.mp e
  obtain ⟨hz, e⟩ := cJ e
  cases e
  obtain ⟨rfl, hi⟩ := V.j5
  obtain ⟨hj, items, k, hL, hs⟩ := H.list hl
  have e1 := hs.length
  simp only [Array.length_toList] at e1
  exact call_tuple_list (isList hL) (fun h' hk => uS H hk hs c s.toks) (by rw [sizeLine_eq]; lia)
 | tup _ =>
  cases e
  obtain ⟨_, _, _, rfl, ht, hs⟩ := V.tupI
  exact call_tuple_tup ⟨_, ht, rfl, _, rfl⟩ (c _ μ s H .refl (.tup ht hs))
 | range _ _ =>
  obtain ⟨hz, e⟩ := cJ e
  cases e
  cases V with
  | range hr => exact tuple_range r.handled hr hz.1 hz.2 fun h' tk acc hk hI => uS H hk (tE hI) c tk
 | _ => exact nS e
theorem sB {h' : Heap} {l : List V} {items : Array Value} {k : Nat} {b : Addr} {Q : Value → Shared → Prop} (H : aY Γ μ σ s.heap) (hk : ∀ b o, s.heap.get? b = some o → h'.get? b = some o) (hn : s.heap.get? b = none) (hb : IsL h' b items k) (hl : VRs Γ μ σ.length s.heap l items.toList) (c : Cont Γ μ σ s (.obj σ.length) (σ ++ [.list l]) Q) (t : Nat) :
  Q (.ref b) { s with heap := h', toks := t } := by
 have len : (σ ++ [O.list l]).length = σ.length + 1 := by simp
 have e0 : Value.ref b = .ref (eV μ σ.length b σ.length) := by rw [c6]
 have ne : ∀ i, i < σ.length → μ i ≠ b := fun i hi z => by
  obtain ⟨ob, e, _⟩ := H.at hi
  rw [z, hn] at e; cases e
 have hb0 : Γ.h₀.get? b = none := by
  cases q : Γ.h₀.get? b with
  | none => rfl
  | some o => rw [H.base _ _ q] at hn; cases hn
 have kf : cK s.heap h' := fun a o e _ => hk a o e
 rw [e0]
 refine c _ (eV μ σ.length b) { s with heap := h', toks := t } ⟨fun b o e => hk b o (H.base b o e), fun i o e => ?_, fun i j hi hj e => ?_, fun i hi => ?_⟩ ?_ (.obj (by rw [len]; lia))
 ·rw [len]
  by_cases hi : i < σ.length
  ·rw [List.getElem?_append_left hi] at e
   rw [bZ hi]
   exact (H.objs i o e).mono (fun _ e' => hk _ _ e') kf (fun _ hj => bZ hj) (Nat.le_succ _)
  ·have hlt := (List.getElem?_eq_some_iff.mp e).1
   have : i = σ.length := by rw [len] at hlt; lia
   subst this
   simp at e; subst e
   rw [c6]
   exact ⟨items, k, hb, hl.mono kf (fun _ hj => bZ hj) (Nat.le_succ _)⟩
 ·rw [len] at hi hj
  by_cases h1 : i < σ.length <;> by_cases h2 : j < σ.length
  ·rw [bZ h1, bZ h2] at e; exact H.inj i j h1 h2 e
  ·have : j = σ.length := by lia
   subst this
   rw [bZ h1, c6] at e
   exact absurd e (ne _ h1)
  ·have : i = σ.length := by lia
   subst this
   rw [bZ h2, c6] at e
   exact absurd e.symm (ne _ h2)
  ·lia
 ·rw [len] at hi
  by_cases h1 : i < σ.length
  ·rw [bZ h1]; exact H.lo i h1
  ·have : i = σ.length := by lia
   subst this
   rw [c6]; exact hb0
 ·rw [len]
  exact ⟨fun b o e _ => hk b o e, fun b o e => ⟨o, hk b o e⟩, fun i hi => bZ hi, Nat.le_succ _, fun i h1 h2 => by
   have : i = σ.length := by lia
   subst this
   rw [c6]; exact hn, rfl, rfl, rfl⟩
noncomputable def uH (a : V) (σ : St) : Option (V × St) := match a with
 | .obj i => (getL σ i).bind fun l => if l.length ≤ 100000 then some (.obj σ.length, σ ++ [.list l]) else none
 | _ => none
theorem bB.list : bB Γ d (.type "list") (bW uH) := .one fun A μ σ s a ua v σ' Q E r H V e c => by
 unfold uH at e
 split at e
 case h_2 => cases e
 obtain ⟨l, hl, e⟩ := Option.bind_eq_some_iff.mp e
 split at e
 case isFalse => cases e
 rename_i hz
 cases e
 obtain ⟨rfl, hi⟩ := V.j5
 obtain ⟨hj, items, k, hL, hs⟩ := H.list hl
 have e1 := hs.length
 simp only [Array.length_toList] at e1
 exact call_list_seq _ (.inl rfl) hL rfl rfl (fun h' c' hk hb => sB H hk (eS _) hb hs c s.toks) (by rw [sizeLine_eq]; lia)
end
end Mine
end
section
open PySem PySem.W PyProof.Rows
namespace Mine
section
noncomputable def ins (a : Int) : List Int → List Int
 | [] => [a]
 | b :: l => if a ≤ b then a :: b :: l else b :: ins a l
noncomputable def cL : List Int → List Int
 | [] => []
 | a :: l => ins a (cL l)
theorem Ac (a : Int) : ∀ l, (ins a l).Perm (a :: l)
 | [] => .refl _
 | b :: l => by
  unfold ins
  split
  ·exact .refl _
  ·exact ((Ac a l).cons b).trans (.swap ..)
theorem lT : ∀ l, (cL l).Perm l
 | [] => .refl _
 | a :: l => (Ac a _).trans ((lT l).cons a)
theorem Ab (a : Int) : ∀ l, l.Pairwise (· ≤ ·) → (ins a l).Pairwise (· ≤ ·)
 | [], _ => by simp [ins]
 | b :: l, h => by
  rw [List.pairwise_cons] at h
  unfold ins
  split
  ·rename_i q
   rw [List.pairwise_cons, List.pairwise_cons]
   exact ⟨fun c hc => by
    rcases List.mem_cons.mp hc with rfl | hc
    ·exact q
    ·have := h.1 c hc; lia, h⟩
  ·rename_i q
   rw [List.pairwise_cons]
   refine ⟨fun c hc => ?_, Ab a l h.2⟩
   rcases List.mem_cons.mp ((Ac a l).mem_iff.mp hc) with rfl | hc
   ·lia
   ·exact h.1 c hc
theorem oE : ∀ l, (cL l).Pairwise (· ≤ ·)
 | [] => .nil
 | a :: l => Ab a _ (oE l)
theorem wD : ∀ {l m : List Int}, l.Perm m → l.Pairwise (· ≤ ·) → m.Pairwise (· ≤ ·) → l = m
 | [], m, p, _, _ => (List.nil_perm.mp p).symm
 | a :: l, [], p, _, _ => absurd p.length_eq (by simp)
 | a :: l, b :: m, p, h1, h2 => by
  rw [List.pairwise_cons] at h1 h2
  have e : a = b := by
   have x : a ∈ b :: m := p.mem_iff.mp List.mem_cons_self
   have y : b ∈ a :: l := p.mem_iff.mpr List.mem_cons_self
   rcases List.mem_cons.mp x with x | x
   ·exact x
   ·rcases List.mem_cons.mp y with y | y
    ·exact y.symm
    ·have := h2.1 a x
     have := h1.1 b y
     lia
  subst e
  rw [wD (List.perm_cons a |>.mp p) h1.2 h2.2]
end
section
variable {Γ : gK} {cx cy : Cx} {d : Nat} {env : Env} {μ aI bA : Nat → Addr} {n n₁ n₂ : Nat} {ρ : Loc} {s s₁ s₂ : Shared} {σ σ₁ : St}
noncomputable def mN (a : V) (σ : St) : Option (V × St) := match a with
 | .obj i => (eF σ i).bind fun l => if l.length ≤ 60 then some (.obj σ.length, σ ++ [.list ((cL (l.map (·.1))).map .int)]) else none
 | _ => none
theorem G0 {h : Heap} {a : Addr} {kvs : List (Int × Value)} (x : h.DictOf (intKind Γ.prog Γ.w) a kvs) : ∃ ep, h.DictAt (intKind Γ.prog Γ.w) a kvs ep := x.dictAt
theorem H8 {kvs : List (Int × Value)} {acc : Array Value} (h : ItemsOf (fun i v => ∃ k x, kvs[i]? = some (k, x) ∧ (intKind Γ.prog Γ.w).is k v = true) acc kvs.length) : IntsAre acc.toList (kvs.map (·.1)) := by
 obtain ⟨h1, h2⟩ := h
 have key : ∀ (l : List Value) (m : List (Int × Value)), l.length = m.length → (∀ (j : Nat) (v : Value), l[j]? = some v → ∃ k x, m[j]? = some (k, x) ∧ (intKind Γ.prog Γ.w).is k v = true) → IntsAre l (m.map (·.1)) := by
  intro l
  induction l with
  | nil => intro m e _; cases m with
   | nil => exact .nil
   | cons _ _ => cases e
  | cons v l ih =>
   intro m e h
   cases m with
   | nil => cases e
   | cons p m =>
    obtain ⟨k, x, e1, e2⟩ := h 0 v rfl
    simp at e1; subst e1
    obtain ⟨t, rfl⟩ := PySem.Value.isInt_shape e2
    exact .cons _ _ (ih m (by simpa using e) fun j v hv => by simpa using h (j + 1) v (by simpa using hv))
 exact key acc.toList kvs (by simpa using h1) fun j v hv => h2 j v (by rw [← Array.getElem?_toList]; exact hv)
theorem bB.sorted (G : mT Γ) : bB Γ d (.builtin "sorted") (bW mN) := .one fun A μ σ s a ua v σ' Q E r H V e c => by
 unfold mN at e
 split at e
 case h_2 => cases e
 obtain ⟨l, hl, e⟩ := Option.bind_eq_some_iff.mp e
 split at e
 case isFalse => cases e
 rename_i hz
 cases e
 obtain ⟨rfl, hi⟩ := V.j5
 obtain ⟨hj, kvs, hd, hr⟩ := H.cA hl
 obtain ⟨ep, hat⟩ := G0 hd
 have e1 := hr.length
 refine Calls.call_function_entry kind_sorted plain_sorted entry_sorted (args_sorted1 _) ?_
 unfold Builtin.«sorted»
 refine wpAny_bind (m := checkCount "sorted" 1 1 _) (wpAny_pure ?_)
 refine wpAny_bind (kdu_collect (A := A.in1) (kdl_dict (knd := intKind Γ.prog Γ.w) (kvs := kvs) (ep := ep) (H.Cs G hj)) r.handled hat (by rw [sizeLine_eq]; lia) fun h' tk acc hk hacc => ?_)
 have hI := H8 hacc
 have h64 : acc.toList.length < 64 := by rw [Array.length_toList, hacc.1]; lia
 refine wpAny_bind (wpAny_newList ?_ (by rw [sizeLine_eq]; lia))
 have hoL : (h'.push (seqObj "list" acc.toList.toArray 0)).get? h'.objs.size = some (seqObj "list" acc.toList.toArray 0) := Heap.get?_push_size _ rfl
 refine wpAny_bind (wpAny_holding (wpAny_call_entry slot_list_sort ⟨_, hoL, rfl⟩ entry_list_sort (list_sort_tree hoL hI h64 fun out ns' a1 a2 a3 => ⟨_, rfl, ?_⟩) (args_list_sort _)))
 refine wpAny_pure ⟨_, rfl, ?_⟩
 obtain ⟨e, he⟩ := sortedHeap_at (vs := acc.toList) (out := out) hoL
 have hne : ∀ b o, s.heap.get? b = some o → (sortedHeap (h'.push (seqObj "list" acc.toList.toArray 0)) h'.objs.size acc.toList out).get? b = some o := fun b o eb => by
  have q := hk b o eb
  have hlt := Heap.lt_size q
  rw [sortedHeap_old (Nat.ne_of_lt hlt) (by rw [size_push']; exact Nat.lt_succ_of_lt hlt)]
  exact Heap.get?_push_of_some _ q
 have hn : s.heap.get? h'.objs.size = none := by
  cases q : s.heap.get? h'.objs.size with
  | none => rfl
  | some o => exact absurd (Heap.lt_size (hk _ _ q)) (Nat.lt_irrefl _)
 have e2 : ns' = cL (l.map (·.1)) := by
  refine wD (a2.trans ?_) a3 (oE _)
  rw [hr.1]
  exact (lT _).symm
 refine sB (l := (cL (l.map (·.1))).map .int) (items := out) H hne hn he ?_ c tk
 rw [← e2]
 exact tE a1
end
section
variable {Γ : gK} {cx cy : Cx} {d : Nat} {env : Env} {μ aI bA : Nat → Addr} {n n₁ n₂ : Nat} {ρ : Loc} {s s₁ s₂ : Shared} {σ σ₁ : St}
theorem bY.mul : bY Γ d (binaryOp .Mult) xK := fun A μ σ s a b v ua ub σ' Q E r H xa xb e c => by
 cases a with
 | int _ => cases b with
  | int _ =>
   obtain ⟨h, e⟩ := cJ e
   cases e
   rw [Bool.and_eq_true] at h
   obtain ⟨_, rfl⟩ := xa.f0
   obtain ⟨_, rfl⟩ := xb.f0
   exact PyProof.Rows.mul_int (c _ μ _ H (.toks _) (.int _ _)) (IntMulOk.of_left (wE h.1))
  | _ => exact nS e
 | obj i => cases b with
  | int x =>
   obtain ⟨l, hl, e⟩ := Option.bind_eq_some_iff.mp e
   cases l with
   | nil => exact nS e
   | cons y l =>
   cases l with
   | cons _ _ => exact nS e
   | nil =>
   obtain ⟨hx, e⟩ := cJ e
   cases e
   cases xa.j5.1
   obtain ⟨u, rfl⟩ := xb.f0
   obtain ⟨hj, items, k, hL, hs⟩ := H.list hl
   obtain ⟨lst⟩ := items
   obtain ⟨uy, rfl, hs1⟩ := VRs.Lk hs
   have hbig : ¬ (#[uy] : Array Value).size * x.toNat > (2 ^ 63 - 1) / 8 := by
    have e1 : (#[uy] : Array Value).size = 1 := rfl
    rw [e1]; lia
   refine wpAny_binaryOp_repeat_ref (T := "list") (U := "int") (by decide) ⟨_, hL, rfl⟩ (fun s' => typeIs_int s' x u) noFill_list_mul PySem.F.fills_int_mul PySem.F.slot_int_rmul repeat_list PySem.F.slot_int_index.lookup
    (call_meets PySem.F.slot_int_rmul (typeIs_int s x u) PySem.F.entry_int_rmul (PySem.F.args_int_rmul_2 _ _) (int___rmul___int_list x u _ #[uy] k)
     ⟨hL, rfl, ⟨_, hL, rfl⟩, call_meets PySem.F.slot_list_mul ⟨_, hL, rfl⟩ PySem.F.entry_list_mul (PySem.F.args_list_mul_2 _ _)
      (AutoListH.list___mul___list_int_3 _ #[uy] k x u (by simp [Builtin.List.listFitsIndex]; lia) hbig (by simp [Builtin.List.listTooLong, sizeLine]; lia))
      ⟨hL, ?_⟩⟩)
   have e1 : List.foldl (fun x1 x2 => x1 ++ x2) (#[] : Array Value) (List.replicate (if (#[uy] : Array Value).isEmpty = true then 0 else x.toNat) #[uy]) = (List.replicate x.toNat uy).toArray := by
    have g : ∀ (m : Nat) (acc : Array Value), List.foldl (fun x1 x2 => x1 ++ x2) acc (List.replicate m #[uy]) = acc ++ (List.replicate m uy).toArray := by
     intro m
     induction m with
     | zero => intro acc; simp
     | succ m ih =>
      intro acc
      rw [List.replicate_succ, List.foldl_cons, ih, List.replicate_succ, Array.append_assoc]
      congr 1
      exact (List.toArray_cons ..).symm
    rw [g]; simp
   rw [e1]
   refine k8 H ?_ c s.toks
   have q : ∀ m, VRs Γ μ σ.length s.heap (List.replicate m y) (List.replicate m uy) := by
    intro m
    induction m with
    | zero => exact .nil
    | succ m ih => exact .cons hs1 ih
   exact q _
  | _ => exact nS e
 | _ => exact nS e
theorem sI {A : Around} {E : Value → Shared → Prop} {l : Addr} {items : Array Value} {n : Nat} {k : Int} {t : Tok} {v : Value} {Q : Unit → Shared → Prop} {j : Nat} (hL : IsL s.heap l items n) (hn : j < items.size) (hk : k = (j : Int) ∧ k < 2 ^ 63 ∨ k = -1 ∧ j + 1 = items.size)
  (hQ : Q () { s with heap := s.heap.update l (Obj.mapSeq (·.setIfInBounds j v)) }) :
  wpAny Γ.M A (setItem (.ref l) (.int k t) v) Q E s := by
 have hl := hL.isList
 unfold setItem
 try with_reducible refine wpAny_holding ?_
 first | refine wpAny_bind (wpAny_pure ?_) | skip
 refine wpAny_bind (wpAny_sequenceKey hl.typeIs (by decide) ?_)
 refine wpAny_bind (wpAny_callSpecial?_slot (name := Str.ofString "__setitem__") hl.typeIs slot_list_setitem
  (wpAny_call_entry slot_list_setitem hl.typeIs entry_list_setitem ?_ (args_list_setitem _ _ _)))
 show wpAny _ _ (Builtin.List.listSubscript? (.int k t) >>= _) _ _ s
 have hx : items[j]? = some items[j] := Array.getElem?_eq_getElem hn
 have fin : wpAny Γ.M A.in1 (setSeqItemAt l j v >>= fun _ => ret .none) (fun fin s' => ∃ v, fin = .done (.ret v) ∧ wpAny Γ.M A (pure (some v) >>= fun _ => pure ()) Q E s') E s :=
  wpAny_bind (wpAny_setSeqItemAt hL rfl (wpAny_pure ⟨.none, rfl, wpAny_bind (wpAny_pure (wpAny_pure hQ))⟩))
 have hfit : Builtin.List.listFitsIndex k = true := by
  rcases hk with ⟨h1, h2⟩ | ⟨h1, _⟩
  ·exact fitsIndex_of (by lia) h2
  ·rw [h1]; unfold Builtin.List.listFitsIndex; simp
 have hk' : k = (j : Int) ∨ k = -1 ∧ j + 1 = items.size := hk.imp (fun x => x.1) id
 clear hk
 refine wpAny_bind (wpAny_listSubscript_int hfit ?_)
 clear hfit
 rcases hk' with rfl | ⟨rfl, hj⟩
 ·show wpAny _ _ ((seqItemAt l j >>= fun r => pure (r.map (j, ·))) >>= _) _ _ s
  refine wpAny_bind (wpAny_bind (wpAny_seqItemAt hL rfl (wpAny_pure ?_)))
  rw [hx]
  exact fin
 ·show wpAny _ _ ((Builtin.List.listItems (.ref l) >>= fun xs => pure ((seqIndex? (-1) xs.size).bind fun j => xs[j]?.map (j, ·))) >>= _) _ _ s
  refine wpAny_bind (wpAny_bind (listItems_at hL rfl (wpAny_pure ?_)))
  have e1 : seqIndex? (-1) items.size = some j := by
   unfold seqIndex?
   simp
   lia
  rw [e1, Option.bind_some, hx]
  exact fin
noncomputable def mA (a b v : V) (σ : St) : Option St := match a, b with
 | .obj i, .int k => (σ[i]?).bind fun o => match o with
  | .list l => if 0 ≤ k ∧ k < 100000 ∧ k.toNat < l.length then some (σ.set i (.list (l.set k.toNat v))) else if k = -1 ∧ 0 < l.length then some (σ.set i (.list (l.set (l.length - 1) v))) else none
  | .cA l => if l.length ≤ 100000 then some (σ.set i (.cA (eU l k v))) else none
  | _ => none
 | .obj i, .str k => (bT σ i).bind fun l => if l.length ≤ 100000 then some (σ.set i (.aV (eU l k v))) else none
 | _, _ => none
theorem AM {A : Around} {a b v : V} {ua ub u : Value} {σ' : St} {Q : Unit → Shared → Prop} {E : Value → Shared → Prop} (H : aY Γ μ σ s.heap) (Va : VR Γ μ σ.length s.heap a ua) (Vb : VR Γ μ σ.length s.heap b ub) (V : VR Γ μ σ.length s.heap v u)
   (e : mA a b v σ = some σ') (cc : ∀ s', aY Γ μ σ' s'.heap → Step (Own μ σ.length) μ σ.length s μ σ'.length s' → Q () s') : wpAny Γ.M A (setItem ua ub u) Q E s := by
 refine byC fun hG => ?_
 cases a with
 | obj i => cases b with
  | int k =>
   cases Va.j5.1
   obtain ⟨t, rfl⟩ := Vb.f0
   obtain ⟨o, hl, e⟩ := Option.bind_eq_some_iff.mp e
   cases o with
   | list l =>
    obtain ⟨hi, items, kk, hL, hs⟩ := H.list (yC hl)
    have hsz := hs.length.trans Array.length_toList
    have fin : ∀ j, j < l.length → (k = (j : Int) ∧ k < 2 ^ 63 ∨ k = -1 ∧ j + 1 = items.size) → σ.set i (.list (l.set j v)) = σ' → False := by
     intro j hj hk e
     subst e
     obtain ⟨H', S'⟩ := oA H hi hL (·.setIfInBounds j u) (l' := l.set j v) (by rw [Array.toList_setIfInBounds]; exact hs.set j V) s.toks
     exact hG (sI hL (hsz ▸ hj) hk (cc _ H' S'))
    clear hG cc
    replace e : (if 0 ≤ k ∧ k < 100000 ∧ k.toNat < l.length then some (σ.set i (.list (l.set k.toNat v))) else if k = -1 ∧ 0 < l.length then some (σ.set i (.list (l.set (l.length - 1) v))) else none) = some σ' := e
    by_cases h : 0 ≤ k ∧ k < 100000 ∧ k.toNat < l.length
    ·rw [if_pos h] at e
     exact fin k.toNat h.2.2 (.inl ⟨(Int.toNat_of_nonneg h.1).symm, Int.lt_trans h.2.1 (by decide)⟩) (Option.some.inj e)
    ·rw [if_neg h] at e
     obtain ⟨h, e⟩ := cJ e
     exact fin (l.length - 1) (Nat.sub_lt h.2 (by decide)) (.inr ⟨h.1, (Nat.sub_add_cancel h.2).trans hsz⟩) (Option.some.inj e)
   | cA l =>
    obtain ⟨hlen, e⟩ := cJ e
    cases e
    obtain ⟨hi, kvs, hd, hr⟩ := H.cA (yE hl)
    exact hG (wpAny_setItem_pairs (intKind_is _ _ _ _) hd (fun h' hd' hs' => cc _ (H.set hi hs' fun kf => ⟨_, hd', (hr.set k V).1, (hr.set k V).2.mono kf (fun _ _ => rfl) (Nat.le_refl _)⟩) (by rw [qR]; exact Step.set (s := s) ⟨i, hi, rfl⟩ hs' (let ⟨o, _, _, ho, _⟩ := hd'; ⟨o, ho⟩) _)) (by rw [sizeLine_eq, hr.length]; lia))
   | aV _ => exact nS e
  | str k =>
   cases Va.j5.1
   obtain ⟨t, rfl⟩ := Vb.Hj
   obtain ⟨l, hl, e⟩ := Option.bind_eq_some_iff.mp e
   obtain ⟨hlen, e⟩ := cJ e
   cases e
   obtain ⟨hi, kvs, hd, hr⟩ := H.aV hl
   exact hG (wpAny_setItem_pairs (knd := PySem.strKind Γ.prog Γ.w) (k := Γ.nm k) (strKind_is _ _ _ _) hd (fun h' hd' hs' => cc _ (H.set hi hs' fun kf => ⟨_, hd', (hr.set k V).1, (hr.set k V).2.mono kf (fun _ _ => rfl) (Nat.le_refl _)⟩) (by rw [qR]; exact Step.set (s := s) ⟨i, hi, rfl⟩ hs' (let ⟨o, _, _, ho, _⟩ := hd'; ⟨o, ho⟩) _)) (by rw [sizeLine_eq, hr.length]; lia))
  | _ => exact nS e
 | _ => exact nS e
noncomputable def XA.item (f g : X V) : XA := fun v ρ σ => match f ρ σ with
 | some (a, σ₁) => match g ρ σ₁ with
  | some (b, σ₂) => (mA a b v σ₂).map fun σ' => (ρ, σ')
  | none => none
 | none => none
theorem eC.item {o i : PySem.Expr} {pos : Pos} {f g : X V} (hf : aC Γ d cx o f) (hg : aC Γ d cx i g) : eC Γ d cx (.Subscript o i pos) (XA.item f g) := fun A env μ ρ σ s v u cI σ' Q E r H R V e c => by
 unfold XA.item at e
 split at e
 case h_2 => cases e
 rename_i a σ₁ e1
 split at e
 case h_2 => cases e
 rename_i b σ₂ e2
 obtain ⟨jX, e3, e⟩ := Option.map_eq_some_iff.mp e
 cases e
 rw [arm_assign_Subscript]
 refine wpAny_bind (wpAny_holding (hf A env μ ρ σ s a σ₁ _ E r H R e1 fun ua aI s₁ H₁ S₁ cN => ?_))
 refine wpAny_bind (wpAny_holding (hg A env aI ρ σ₁ s₁ b σ₂ _ E r H₁ (R.step H S₁) e2 fun ub bA s₂ cM S₂ eQ => ?_))
 refine wpAny_bind (wpAny_standAt (wpAny_bind (wpAny_holding (AM cM (S₂.vr H₁ cN) eQ ((S₁.then S₂).vr H V) e3 fun s₃ f9 hZ => ?_))))
 have S := (S₁.then S₂).then hZ
 exact wpAny_release' (c _ _ f9 S.tF (R.step H S))
noncomputable def XA.attr (c k : Nat) (f : X V) : XA := fun v ρ σ => match f ρ σ with
 | some (a, σ₁) => (vC c k a v σ₁).map fun σ' => (ρ, σ')
 | none => none
theorem eC.attr {K : Frag} {c k : Nat} {x : Str} {o : PySem.Expr} {pos : Pos} {f : X V} (hx : Γ.nm k = x) (KX : K.In Γ.h₀) (O : o9 Γ K (Γ.cls c)) (hk : takerIn K (Γ.cls c) x = some Option.none) (hf : aC Γ d cx o f) :
  eC Γ d cx (.Attribute o x pos) (XA.attr c k f) := fun A env μ ρ σ s v u cI σ' Q E r H R V e cc => by
 subst hx
 unfold XA.attr at e
 split at e
 case h_2 => cases e
 rename_i a σ₁ e1
 obtain ⟨jX, e3, e⟩ := Option.map_eq_some_iff.mp e
 cases e
 rw [arm_assign_Attribute]
 refine wpAny_bind (wpAny_holding (hf A env μ ρ σ s a σ₁ _ E r H R e1 fun ua aI s₁ H₁ S₁ cN => ?_))
 refine wpAny_bind (wpAny_standAt (wpAny_bind (wpAny_holding (AN KX O hk H₁ cN (S₁.vr H V) e3 fun s₃ f9 hZ => ?_))))
 have S := S₁.then hZ
 exact wpAny_release' (cc _ _ f9 S.tF (R.step H S))
end
section
variable {Γ : gK} {cx cy : Cx} {d : Nat} {env : Env} {μ aI bA : Nat → Addr} {n n₁ n₂ : Nat} {ρ : Loc} {s s₁ s₂ : Shared} {σ σ₁ : St}
theorem aC.neg {e : PySem.Expr} {pos : Pos} {f : X V} (hf : aC Γ d cx e f) : aC Γ d cx (.UnaryOp .USub e pos) (X.bind f fun v => X.lift fun σ => match v with | .int a => some (.int (-a), σ) | _ => Option.none) := fun A env μ ρ σ s v σ' Q E r H R e c => by
 obtain ⟨a, σ₁, e1, e⟩ := X.bind_some e
 have e := X.lE e
 refine wpAny_UnaryOp (hf A env μ ρ σ s a σ₁ _ E r H R e1 fun u aI s₁ H₁ S₁ cN => ?_)
 split at e <;> cases e
 obtain ⟨_, rfl⟩ := cN.f0
 exact PyProof.Rows.neg_int (c _ aI _ H₁ (S₁.trans (zL := fun _ => False) (.toks _) fun _ x => x.elim) (.int _ _))
theorem adopt {D : Addr} {h' : Heap} {o : O} (H : aY Γ μ σ s.heap) (H₁ : aY Γ aI σ₁ s₁.heap) (S : Step (Own μ σ.length) μ σ.length s aI σ₁.length s₁) (hD : s.heap.get? D = none) (hne : ∀ i, i < σ₁.length → aI i ≠ D)
  (x : ∀ b ob, b ≠ D → s₁.heap.get? b = some ob → h'.get? b = some ob) (hfz : ∀ ob, s₁.heap.get? D = some ob → fz ob = false) (hO : cK s₁.heap h' → OR Γ (eV aI σ₁.length D) (σ₁.length + 1) h' D o) (t : Nat) :
  aY Γ (eV aI σ₁.length D) (σ₁ ++ [o]) h' ∧ Step (Own μ σ.length) μ σ.length s (eV aI σ₁.length D) (σ₁ ++ [o]).length { s₁ with heap := h', toks := t } := by
 have len : (σ₁ ++ [o]).length = σ₁.length + 1 := by simp
 have hb0 : Γ.h₀.get? D = none := by
  cases q : Γ.h₀.get? D with
  | none => rfl
  | some o => rw [H.base _ _ q] at hD; cases hD
 have kf : cK s₁.heap h' := fun a ob e f => by
  by_cases hb : a = D
  ·subst hb; rw [hfz ob e] at f; cases f
  ·exact x a ob hb e
 refine ⟨⟨fun b ob e => ?_, fun i ob e => ?_, fun i j hi hj e => ?_, fun i hi => ?_⟩, ?_⟩
 ·exact x b ob (by rintro rfl; rw [hb0] at e; cases e) (H₁.base b ob e)
 ·rw [len]
  by_cases hi : i < σ₁.length
  ·rw [List.getElem?_append_left hi] at e
   rw [bZ hi]
   exact (H₁.objs i ob e).mono (fun _ e' => x _ _ (hne i hi) e') kf (fun _ hj => bZ hj) (Nat.le_succ _)
  ·have hlt := (List.getElem?_eq_some_iff.mp e).1
   have : i = σ₁.length := by rw [len] at hlt; lia
   subst this
   simp at e; subst e
   rw [c6]
   exact hO kf
 ·rw [len] at hi hj
  by_cases h1 : i < σ₁.length <;> by_cases h2 : j < σ₁.length
  ·rw [bZ h1, bZ h2] at e; exact H₁.inj i j h1 h2 e
  ·have : j = σ₁.length := by lia
   subst this
   rw [bZ h1, c6] at e
   exact absurd e (hne _ h1)
  ·have : i = σ₁.length := by lia
   subst this
   rw [bZ h2, c6] at e
   exact absurd e.symm (hne _ h2)
  ·lia
 ·rw [len] at hi
  by_cases h1 : i < σ₁.length
  ·rw [bZ h1]; exact H₁.lo i h1
  ·have : i = σ₁.length := by lia
   subst this
   rw [c6]; exact hb0
 ·rw [len]
  have nD : ∀ b ob, s.heap.get? b = some ob → b ≠ D := by rintro b ob e rfl; rw [hD] at e; cases e
  refine ⟨fun b ob e q => x b ob (nD b ob e) (S.tR b ob e q), fun b ob e => ?_, fun i hi => ?_, Nat.le_succ_of_le S.le, fun i h1 h2 => ?_, S.gens, S.drawn, S.os⟩
  ·obtain ⟨o', e'⟩ := S.live b ob e
   exact ⟨o', x b o' (nD b ob e) e'⟩
  ·rw [bZ (Nat.lt_of_lt_of_le hi S.le)]; exact S.agree i hi
  ·by_cases h : i < σ₁.length
   ·rw [bZ h]; exact S.fresh i h1 h
   ·have : i = σ₁.length := by lia
    subst this
    rw [c6]; exact hD
theorem aC.oX {pos : Pos} : aC Γ d cx (.Dict [] [] pos) (X.lift fun σ => some (.obj σ.length, σ ++ [.cA []])) := fun A env μ ρ σ s v σ' Q E r H R e c => by
 cases X.lE e
 have len : (σ ++ [Mine.O.cA []]).length = σ.length + 1 := by simp
 refine wpAny_Dict_empty ?_
 have e0 : Value.ref s.heap.objs.size = .ref (eV μ σ.length s.heap.objs.size σ.length) := by rw [c6]
 rw [e0]
 exact c _ _ _ (H.alloc _ _ ⟨[], Heap.DictOf.new _, rfl, .nil⟩) (by rw [len]; exact .alloc _ rfl) (.obj (by rw [len]; lia))
noncomputable def mkPairs (pos : Pos) (env : Env) (l : List (PySem.Expr × PySem.Expr)) : List (Sem Value × Sem Value) := l.map fun p => (eval p.1 env, do let x ← eval p.2 env; standAt pos; pure x)
noncomputable def iI (Γ : gK) (d : Nat) (cx : Cx) (l : List (PySem.Expr × PySem.Expr)) (f : X (List (V × V))) : Prop :=
 ∀ (A : Around) (env : Env) (pos : Pos) (μ : Nat → Addr) (ρ : Loc) (σ : St) (s : Shared) (vs : List (V × V)) (σ' : St) (Q : List (Value × Value) → Shared → Prop) (E : Value → Shared → Prop),
  fN A d → aY Γ μ σ s.heap → dK Γ cx env μ σ.length ρ s.heap → f ρ σ = some (vs, σ') →
  (∀ us dU s', aY Γ dU σ' s'.heap → Step (Own μ σ.length) μ σ.length s dU σ'.length s' → VRs Γ dU σ'.length s'.heap (vs.map (·.1)) (us.map (·.1)) → VRs Γ dU σ'.length s'.heap (vs.map (·.2)) (us.map (·.2)) → Q us s') →
  wpAny Γ.M A (evalPairs (mkPairs pos env l)) Q E s
theorem iI.nil : iI Γ d cx [] (X.pure []) := fun A env pos μ ρ σ s vs σ' Q E r H R e c => by
 cases e; exact wpAny_pure (c _ μ _ H .refl .nil .nil)
theorem iI.cons {k v : PySem.Expr} {l : List (PySem.Expr × PySem.Expr)} {f g : X V} {h : X (List (V × V))} (hf : aC Γ d cx k f) (hg : aC Γ d cx v g) (hh : iI Γ d cx l h) :
  iI Γ d cx ((k, v) :: l) (X.bind f fun a => X.bind g fun b => X.bind h fun r => X.pure ((a, b) :: r)) := fun A env pos μ ρ σ s vs σ' Q E r H R e c => by
 obtain ⟨a, σ₁, e1, e⟩ := X.bind_some e
 obtain ⟨b, σ₂, e2, e⟩ := X.bind_some e
 obtain ⟨w, jX, e3, e⟩ := X.bind_some e
 cases e
 show wpAny _ _ (eval k env >>= fun kv => holding [kv] (do let x ← eval v env; standAt pos; pure x) >>= fun vv => holding [kv, vv] (evalPairs (mkPairs pos env l)) >>= fun r => pure ((kv, vv) :: r)) _ _ _
 refine wpAny_bind (hf A env μ ρ σ s a σ₁ _ E r H R e1 fun ua aI s₁ H₁ S₁ cN => ?_)
 refine wpAny_bind (wpAny_holding (wpAny_bind (hg A env aI ρ σ₁ s₁ b σ₂ _ E r H₁ (R.step H S₁) e2 fun ub bA s₂ cM S₂ eQ => wpAny_bind (wpAny_standAt (wpAny_pure ?_)))))
 have iN := (R.step H S₁).step H₁ S₂
 refine wpAny_bind (wpAny_holding (hh A env pos bA ρ σ₂ s₂ w _ _ E r cM iN e3 fun us fW s₃ f9 hZ O6 V₃ => wpAny_pure ?_))
 exact c _ fW s₃ f9 ((S₁.then S₂).then hZ) (.cons ((S₂.then hZ).vr H₁ cN) O6) (.cons (hZ.vr cM eQ) V₃)
noncomputable def intKeys : List (V × V) → Option (List (Int × V))
 | [] => some []
 | (.int k, v) :: l => (intKeys l).map ((k, v) :: ·)
 | _ :: _ => none
noncomputable def strKeys : List (V × V) → Option (List (Nat × V))
 | [] => some []
 | (.str k, v) :: l => (strKeys l).map ((k, v) :: ·)
 | _ :: _ => none
noncomputable def p8 {K : Type} [DecidableEq K] (l : List (K × V)) : List (K × V) := l.foldl (fun acc p => eU acc p.1 p.2) []
theorem CB {k v : V} {vs : List (V × V)} {l : List (Int × V)} (e : intKeys ((k, v) :: vs) = some l) : E2 fun i ms => A3 (k = .int i) (intKeys vs = some ms) (l = (i, v) :: ms) := by
 cases k with
 | int i =>
  obtain ⟨ms, hm, e⟩ := Option.map_eq_some_iff.mp e
  exact ⟨_, _, rfl, hm, e.symm⟩
 | _ => exact nS e
theorem DF {h : Heap} {vs : List (V × V)} : ∀ {us : List (Value × Value)} {l : List (Int × V)}, VRs Γ μ n h (vs.map (·.1)) (us.map (·.1)) → VRs Γ μ n h (vs.map (·.2)) (us.map (·.2)) → intKeys vs = some l → ∃ kvs, Carries (intKind Γ.prog Γ.w) us kvs ∧ kvs.map (·.1) = l.map (·.1) ∧ VRs Γ μ n h (l.map (·.2)) (kvs.map (·.2)) := by
 induction vs with
 | nil =>
  intro us l x y e
  cases e
  cases List.map_eq_nil_iff.mp x.EQ
  exact ⟨[], trivial, rfl, .nil⟩
 | cons p vs ih =>
  intro us l x y e
  obtain ⟨k, v⟩ := p
  obtain ⟨i, ms, rfl, hm, rfl⟩ := CB e
  cases us with
  | nil => cases x
  | cons u us =>
   obtain ⟨u1, u2⟩ := u
   obtain ⟨x1, x⟩ := VRs.both x
   obtain ⟨y1, y⟩ := VRs.both y
   obtain ⟨kvs, a, b, c⟩ := ih x y hm
   obtain ⟨_, rfl⟩ := VR.f0 x1
   exact ⟨(_, u2) :: kvs, ⟨intKind_is _ _ _ _, rfl, a⟩, congrArg (_ :: ·) b, .cons y1 c⟩
theorem B9 {k v : V} {vs : List (V × V)} {l : List (Nat × V)} (e : strKeys ((k, v) :: vs) = some l) : E2 fun i ms => A3 (k = .str i) (strKeys vs = some ms) (l = (i, v) :: ms) := by
 cases k with
 | str i =>
  obtain ⟨ms, hm, e⟩ := Option.map_eq_some_iff.mp e
  exact ⟨_, _, rfl, hm, e.symm⟩
 | _ => exact nS e
theorem C5 {h : Heap} {vs : List (V × V)} : ∀ {us : List (Value × Value)} {l : List (Nat × V)}, VRs Γ μ n h (vs.map (·.1)) (us.map (·.1)) → VRs Γ μ n h (vs.map (·.2)) (us.map (·.2)) → strKeys vs = some l → ∃ kvs, Carries (PySem.strKind Γ.prog Γ.w) us kvs ∧ kvs.map (·.1) = l.map (fun p => Γ.nm p.1) ∧ VRs Γ μ n h (l.map (·.2)) (kvs.map (·.2)) := by
 induction vs with
 | nil =>
  intro us l x y e
  cases e
  cases List.map_eq_nil_iff.mp x.EQ
  exact ⟨[], trivial, rfl, .nil⟩
 | cons p vs ih =>
  intro us l x y e
  obtain ⟨k, v⟩ := p
  obtain ⟨i, ms, rfl, hm, rfl⟩ := B9 e
  cases us with
  | nil => cases x
  | cons u us =>
   obtain ⟨u1, u2⟩ := u
   obtain ⟨x1, x⟩ := VRs.both x
   obtain ⟨y1, y⟩ := VRs.both y
   obtain ⟨kvs, a, b, c⟩ := ih x y hm
   obtain ⟨_, rfl⟩ := VR.Hj x1
   exact ⟨(_, u2) :: kvs, ⟨strKind_is _ _ _ _, rfl, a⟩, congrArg (_ :: ·) b, .cons y1 c⟩
theorem EX {h : Heap} : ∀ (l : List (Int × V)) (kvs : List (Int × Value)) (a : List (Int × V)) (b : List (Int × Value)), G7 Γ μ n h a b → kvs.map (·.1) = l.map (·.1) → VRs Γ μ n h (l.map (·.2)) (kvs.map (·.2)) →
  G7 Γ μ n h (l.foldl (fun acc p => eU acc p.1 p.2) a) (merged b kvs) := by
 intro l
 induction l with
 | nil =>
  intro kvs a b x e v
  cases List.map_eq_nil_iff.mp e
  exact x
 | cons p l ih =>
  intro kvs a b x e v
  cases kvs with
  | nil => cases e
  | cons q kvs =>
   obtain ⟨e1, e2⟩ := List.cons.inj e
   obtain ⟨v1, v⟩ := VRs.both v
   show G7 Γ μ n h (l.foldl _ (eU a p.1 p.2)) (merged (stored b q.1 q.2) kvs)
   rw [show q.1 = _ from e1]
   exact ih kvs _ _ (x.set p.1 v1) e2 v
theorem Ez {h : Heap} : ∀ (l : List (Nat × V)) (kvs : List (Str × Value)) (a : List (Nat × V)) (b : List (Str × Value)), SDR Γ μ n h a b → kvs.map (·.1) = l.map (fun p => Γ.nm p.1) → VRs Γ μ n h (l.map (·.2)) (kvs.map (·.2)) →
  SDR Γ μ n h (l.foldl (fun acc p => eU acc p.1 p.2) a) (merged b kvs) := by
 intro l
 induction l with
 | nil =>
  intro kvs a b x e v
  cases List.map_eq_nil_iff.mp e
  exact x
 | cons p l ih =>
  intro kvs a b x e v
  cases kvs with
  | nil => cases e
  | cons q kvs =>
   obtain ⟨e1, e2⟩ := List.cons.inj e
   obtain ⟨v1, v⟩ := VRs.both v
   show SDR Γ μ n h (l.foldl _ (eU a p.1 p.2)) (merged (stored b q.1 q.2) kvs)
   rw [show q.1 = _ from e1]
   exact ih kvs _ _ (x.set p.1 v1) e2 v
noncomputable def nU (keys : List (Option PySem.Expr)) (values : List PySem.Expr) (pos : Pos) (l : List (PySem.Expr × PySem.Expr)) : Prop := ∀ env, (evalEachOpt keys env).zip ((evalEach values env).map fun v => do let x ← v; standAt pos; pure x) = (mkPairs pos env l).map fun p => (some p.1, p.2)
theorem Ap {K : Type} [DecidableEq K] {knd : KeyKind Γ.prog Γ.w K} {NS : List (V × V) → Option Mine.O} {keys : List (Option PySem.Expr)} {values : List PySem.Expr} {pos : Pos} {l : List (PySem.Expr × PySem.Expr)} {f : X (List (V × V))} (hsh : nU keys values pos l) (h0 : l ≠ []) (hlen : l.length ≤ 15) (hf : iI Γ d cx l f)
  (hO : ∀ (μ : Nat → Addr) (n : Nat) (h : Heap) (vs : List (V × V)) (us : List (Value × Value)) (o : Mine.O), VRs Γ μ n h (vs.map (·.1)) (us.map (·.1)) → VRs Γ μ n h (vs.map (·.2)) (us.map (·.2)) → NS vs = some o →
   ∃ kvs, Carries knd us kvs ∧ ∀ dU n' h' D, cK h h' → (∀ i, i < n → dU i = μ i) → n ≤ n' → h'.DictOf knd D (merged [] kvs) → OR Γ dU n' h' D o) :
  aC Γ d cx (.Dict keys values pos) (X.bind f fun vs => X.lift fun σ => (NS vs).map fun o => (.obj σ.length, σ ++ [o])) := fun A env μ ρ σ s v σ' Q E r H R e c => by
 obtain ⟨vs, σ₁, e1, e⟩ := X.bind_some e
 obtain ⟨o, ho, e⟩ := Option.map_eq_some_iff.mp (X.lE e)
 cases e
 have hl2 : (mkPairs pos env l).length = l.length := by simp [mkPairs]
 have hp : Step (Own μ σ.length) μ σ.length s μ σ.length { s with heap := s.heap.push { cls := .type "dict", data := .dict #[] } } := .push _
 refine wpAny_Dict_pairs (knd := knd) (hsh env) (by intro z; rw [z] at hl2; exact h0 (List.length_eq_zero_iff.mp hl2.symm)) (by lia) ?_
 refine hf A env pos μ ρ σ _ vs σ₁ _ E r (H.push _) (R.step H hp) e1 fun us aI s₁ H₁ S₁ K₁ cN => ?_
 obtain ⟨kvs, hc, hor⟩ := hO aI _ s₁.heap vs us o K₁ cN ho
 have hD0 : s.heap.get? s.heap.objs.size = none := eS _
 have hDn : ∀ i, i < σ.length → μ i ≠ s.heap.objs.size := fun i hi => H.pS hi
 have KU : s₁.heap.get? s.heap.objs.size = some { cls := .type "dict", data := .dict #[] } := S₁.tR _ _ (Heap.get?_push_size _ rfl) fun ⟨i, hi, z⟩ => hDn i hi z
 have LP : ∀ i, i < σ₁.length → aI i ≠ s.heap.objs.size := fun i hi z => by
  by_cases hlt : i < σ.length
  ·rw [S₁.agree i hlt] at z; exact hDn i hlt z
  ·have := S₁.fresh i (Nat.not_lt.mp hlt) hi
   rw [z] at this
   have q := (Heap.get?_push_size s.heap (o := { cls := .type "dict", data := .dict #[] }) rfl)
   rw [q] at this; cases this
 refine ⟨kvs, hc, ?_, fun h' hd' hs' => ?_⟩
 ·obtain ⟨o, es, ep, ho, rr⟩ := (Heap.DictOf.new (knd := knd) s.heap)
  have q := (Heap.get?_push_size s.heap (o := { cls := .type "dict", data := .dict #[] }) rfl)
  rw [q] at ho; cases ho
  exact ⟨_, es, ep, KU, rr⟩
 ·obtain ⟨HH, SS⟩ := adopt (o := o) (h' := h') H H₁ (hp.then S₁) hD0 LP hs'.extBut (fun ob e => by rw [KU] at e; cases e; rfl) (fun kf => hor _ _ h' _ kf (fun i hi => bZ hi) (Nat.le_succ _) hd') (s₁.toks + us.length)
  have e0 : Value.ref s.heap.objs.size = .ref (eV aI σ₁.length s.heap.objs.size σ₁.length) := by rw [c6]
  rw [e0]
  exact c _ _ _ HH SS (.obj (by simp))
theorem aC.DV {keys : List (Option PySem.Expr)} {values : List PySem.Expr} {pos : Pos} (l : List (PySem.Expr × PySem.Expr)) {f : X (List (V × V))} (hsh : nU keys values pos l) (h0 : l ≠ []) (hlen : l.length ≤ 15) (hf : iI Γ d cx l f) :
  aC Γ d cx (.Dict keys values pos) (X.bind f fun vs => X.lift fun σ => ((intKeys vs).map fun l => Mine.O.cA (p8 l)).map fun o => (.obj σ.length, σ ++ [o])) :=
 Ap (knd := intKind Γ.prog Γ.w) (NS := fun vs => (intKeys vs).map fun l => Mine.O.cA (p8 l)) hsh h0 hlen hf fun μ n h vs us o K V e => by
  obtain ⟨m, hm, rfl⟩ := Option.map_eq_some_iff.mp e
  obtain ⟨kvs, a, b, c⟩ := DF K V hm
  refine ⟨kvs, a, fun dU n' h' D kf hμ hn hd => ⟨_, hd, ?_⟩⟩
  exact EX m kvs [] [] ⟨rfl, .nil⟩ b (c.mono kf hμ hn)
theorem aC.wU {keys : List (Option PySem.Expr)} {values : List PySem.Expr} {pos : Pos} (l : List (PySem.Expr × PySem.Expr)) {f : X (List (V × V))} (hsh : nU keys values pos l) (h0 : l ≠ []) (hlen : l.length ≤ 15) (hf : iI Γ d cx l f) :
  aC Γ d cx (.Dict keys values pos) (X.bind f fun vs => X.lift fun σ => ((strKeys vs).map fun l => Mine.O.aV (p8 l)).map fun o => (.obj σ.length, σ ++ [o])) :=
 Ap (knd := PySem.strKind Γ.prog Γ.w) (NS := fun vs => (strKeys vs).map fun l => Mine.O.aV (p8 l)) hsh h0 hlen hf fun μ n h vs us o K V e => by
  obtain ⟨m, hm, rfl⟩ := Option.map_eq_some_iff.mp e
  obtain ⟨kvs, a, b, c⟩ := C5 K V hm
  refine ⟨kvs, a, fun dU n' h' D kf hμ hn hd => ⟨_, hd, ?_⟩⟩
  exact Ez m kvs [] [] ⟨rfl, .nil⟩ b (c.mono kf hμ hn)
end
section
variable {Γ : gK} {cx cy : Cx} {d : Nat} {env : Env} {μ aI bA : Nat → Addr} {n n₁ n₂ : Nat} {ρ : Loc} {s s₁ s₂ : Shared} {σ σ₁ : St}
theorem fN.make {A : Around} {C : Addr} {rest : List Value} (r : fN A (d + 1)) : fN (A.under (.builtin "type.__call__" ⟨.ref C :: rest, []⟩)) d := by
 have h1 : (Code.builtin "type.__call__" ⟨.ref C :: rest, []⟩).weight = 1 := by kernel_rfl
 have h2 : (Code.builtin "type.__call__" ⟨.ref C :: rest, []⟩).cUnits = 1 := by kernel_rfl
 refine ⟨r.handled, ?_, ?_⟩
 ·have := r.depth
  show A.depth + (Code.builtin "type.__call__" ⟨.ref C :: rest, []⟩).weight + 10 * d < 900
  rw [h1]; lia
 ·have := r.units
  show A.units + (Code.builtin "type.__call__" ⟨.ref C :: rest, []⟩).cUnits + 20 * d + 100 < 9900
  rw [h2]; lia
noncomputable def fNew (c : Nat) (F : FF) : FF := fun vs σ => match F (.inst c σ.length :: vs) (σ ++ [.aV []]) with
 | some (.none, σ') => some (.inst c σ.length, σ')
 | _ => none
theorem bB.cls {K : Frag} {c : Nat} {fI : Addr} {F : FF} (KX : K.In Γ.h₀) (hm : makesIn K (Γ.cls c) = true) (hi : findIn K (.ref (Γ.cls c)) "__init__" = some (some (.ref fI))) (ht : typeIn K (.ref fI) = some (.type "function")) (hF : dT Γ d fI F) :
  bB Γ (d + 1) (.ref (Γ.cls c)) (fNew c F) := fun A μ σ s vs us v σ' Q E r H V e cc => by
 obtain ⟨σ₂, e1, e⟩ : ∃ σ₂, F (.inst c σ.length :: vs) (σ ++ [.aV []]) = some (.none, σ₂) ∧ some (Mine.V.inst c σ.length, σ₂) = some (v, σ') := by
  unfold fNew at e
  cases h : F (.inst c σ.length :: vs) (σ ++ [.aV []]) with
  | none => rw [h] at e; exact nS e
  | some q =>
   obtain ⟨w, σ₂⟩ := q
   rw [h] at e
   cases w with
   | none => exact ⟨σ₂, rfl, e⟩
   | _ => exact nS e
 cases e
 refine wpAny_call ?_
 have XX := KX.keeps H.base
 have H1 : aY Γ (eV μ σ.length s.heap.objs.size) (σ ++ [.aV []]) (s.heap.push emptyDict) := H.alloc _ _ ⟨[], Heap.DictOf.new _, rfl, .nil⟩
 have len : (σ ++ [Mine.O.aV []]).length = σ.length + 1 := by simp
 have S1 : Step (Own μ σ.length) μ σ.length s (eV μ σ.length s.heap.objs.size) (σ ++ [Mine.O.aV []]).length { s with heap := s.heap.push emptyDict } := by rw [len]; exact .alloc _ rfl
 have H2 := H1.push (instObj (Γ.cls c) s.heap.objs.size)
 have S2 : Step (Own (eV μ σ.length s.heap.objs.size) (σ ++ [Mine.O.aV []]).length) (eV μ σ.length s.heap.objs.size) (σ ++ [Mine.O.aV []]).length { s with heap := s.heap.push emptyDict } (eV μ σ.length s.heap.objs.size) (σ ++ [Mine.O.aV []]).length { s with heap := (s.heap.push emptyDict).push (instObj (Γ.cls c) s.heap.objs.size) } := .push _
 have S12 := S1.then S2
 have hself : ((s.heap.push emptyDict).push (instObj (Γ.cls c) s.heap.objs.size)).get? (s.heap.objs.size + 1) = some (instObj (Γ.cls c) (eV μ σ.length s.heap.objs.size σ.length)) := by
  rw [c6]
  have := Heap.get?_push_size (s.heap.push emptyDict) (o := instObj (Γ.cls c) s.heap.objs.size) rfl
  rwa [Heap.size_push] at this
 have Vs : VR Γ (eV μ σ.length s.heap.objs.size) (σ ++ [Mine.O.aV []]).length ((s.heap.push emptyDict).push (instObj (Γ.cls c) s.heap.objs.size)) (.inst c σ.length) (.ref (s.heap.objs.size + 1)) := .inst (by rw [len]; lia) hself
 have Va := S12.Mx H V
 obtain ⟨hh, g, dd, t, os⟩ := s
 refine make_core (makes_of XX hm) (looks_findIn XX hi) (fun self => bind_fn XX self ht) (.inl rfl) ?_
 refine hF _ _ _ ⟨(hh.push emptyDict).push (instObj (Γ.cls c) hh.objs.size), g, dd, t, os⟩ (.inst c σ.length :: vs) (.ref (hh.objs.size + 1) :: us) _ _ _ r.make H2 (.cons Vs Va) e1 fun u fW s₃ f9 hZ V₃ => ?_
 cases V₃.FB
 exact ⟨rfl, cc _ fW s₃ f9 (S12.then hZ) (hZ.vr H2 Vs)⟩
structure Gc (Γ : gK) (K : Frag) (fA fP : Addr) (c D : Nat) (fd : FuncData) (body : List Stmt) (x y slf row : Str) (k : Nat) : Prop where
 lk : ∃ oc od osl, K.lookup fA = some ⟨oc, od, .func fd, osl⟩
 body : fd.body = .stmts body
 globals : fd.globals = mainGlobals
 builtins : fd.builtins = builtinsNs
 code : codeIn K fd.code fd.qualname = true
 bind : ∀ us : Value × Value, bindArgs fd ⟨[us.1, us.2], []⟩ = pure [(slf, us.1), (row, us.2)]
 names : slf ≠ row
 hself : fd.scope.names.lookup slf = some .local
 hrow : fd.scope.names.lookup row = some .local
 cells : ∀ x ∈ fd.scope.names, x.2 ≠ .cell
 co : fd.scope.isCoroutine = false
 gen : fd.scope.isGenerator = false
 kind : fd.scope.kind = .function
 hks : fd.scope.names.lookup ("super" : Str) = some .globalImplicit
 hkc : fd.scope.names.lookup ("__class__" : Str) = some .free
 clo : ∃ cc, fd.closure.lookup ("__class__" : Str) = some cc ∧ ∃ cl cld csl, K.lookup cc = some ⟨cl, cld, .cell (some (.ref (Γ.cls D))), csl⟩
 par : ∃ ar, (fd.params.posonlyargs ++ fd.params.args).head? = some ar ∧ ar.arg = slf
 file : ∃ cda ccl cdd vs ccs file tf, fd.code = .ref cda ∧ K.lookup cda = some ⟨ccl, cdd, .fields vs, ccs⟩ ∧ vs[2]? = some (.str file tf) ∧ ((Γ.prog.main.file : Str) == file) = true
 top : (Γ.prog.main.scope.names.lookup ("super" : Str)).isSome = false
 cD : ∃ cdD, clsIn K (Γ.cls D) = some cdD
 sub : subIn K (.ref (Γ.cls c)) (.ref (Γ.cls D)) = some true
 any : nsIn K cStatics "thirdparty.any" = some none
 meth : ks_superIn K (Γ.cls c) (Γ.cls D) y = some (some (.ref fP))
 typ : typeIn K (.ref fP) = some (.type "function")
 fnP : fnIn K fP = true
 hy : (y == ("__class__" : Str)) = false
 hx : Γ.nm k = x
theorem DY {K : Frag} {a : Addr} {cd : ClassData} (h : clsIn K a = some cd) : ∃ o, K.lookup a = some o ∧ o.data = .cls cd := by
 unfold clsIn at h
 cases ho : K.lookup a with
 | none => rw [ho] at h; exact nS h
 | some o =>
  rw [ho] at h
  obtain ⟨cc, di, dd, sl⟩ := o
  cases dd with
  | cls _ => cases h; exact ⟨_, rfl, rfl⟩
  | _ => exact nS h
theorem Gl {K : Frag} {a : Addr} {v : Value} (h : typeIn K (.ref a) = some v) : ∃ o, K.lookup a = some o ∧ o.cls = v :=
 Option.map_eq_some_iff.mp h
theorem Eh {A : Around} {E : Value → Shared → Prop} {e : PySem.Expr} {all rest : List PySem.Expr} {pos : Pos} {Q : List Value → Shared → Prop} (he : starEach all env = (false, eval e env) :: starEach rest env)
  (h : wpAny Γ.M A (eval e env) (fun v s₁ => wpAny Γ.M A (spliced (backTo pos (starEach rest env))) (fun vs s₂ => Q (v :: vs) s₂) E s₁) E s) : wpAny Γ.M A (spliced (backTo pos (starEach all env))) Q E s := by
 rw [he]; exact PySem.Calls.spliced_cons h
theorem dT.super {K : Frag} {fA fP : Addr} {c D k : Nat} {fd : FuncData} {x y slf row : Str} {p0 p1 p2 p3 p4 p5 p6 : Pos} {kk : Nat} {args K2 : List PySem.Expr} {F : FF} (KX : K.In Γ.h₀) (hlim : Γ.h₀.NoLimit)
  (SX : Gc Γ K fA fP c D fd [.Expr (.Call (.Attribute (.Call (.Name "super" p0) [] [] p1) y p2) args [] p5) p6] x y slf row k)
  (Ns : cW Γ "super" (.type "super"))
  (hd : (row == ("__debug__" : Str)) = false)
  (hsw : ∀ env, swapsWith (.Call (.Attribute (.Call (.Name "super" p0) [] [] p1) y p2) args [] p5) none p6.line env = pure false)
  (hform : ∀ env, ∃ pl, eval (.Call (.Attribute (.Call (.Name "super" p0) [] [] p1) y p2) args [] p5) env = (do
   let ov ← attributeBase (.Call (.Name "super" p0) [] [] p1) y env (eval (.Call (.Name "super" p0) [] [] p1) env)
   standAt p2.atName
   let (f, first) ← holding [ov] (getMethod ov y pl)
   callWith p5 f first (backTo p5 (starEach args env)) []))
  (M5 : ∀ env, starEach args env = (false, eval (.Name row p3) env) :: starEach K2 env)
  (hst2 : ∀ env, starEach K2 env = (false, eval (.Constant (.str x) kk p4) env) :: starEach [] env)
  (hF : dT Γ d fP F) :
  dT Γ (d + 1) fA (fun vs σ => match vs with
   | [.inst c' i, v] => if c' = c then (match F [.inst c' i, v, .str k] σ with | some (_, σ') => some (.none, σ') | none => none) else none
   | _ => none) := fun A μ σ s vs us v σ' R r H V e cc => by
 refine byC fun hG => ?_
 obtain ⟨i, w1, v2, σ₂, rfl, e1, e2⟩ : ∃ i w1 v2 σ₂, vs = [.inst c i, w1] ∧ F [.inst c i, w1, .str k] σ = some (v2, σ₂) ∧ some (Mine.V.none, σ₂) = some (v, σ') := by
  cases vs with
  | nil => exact nS e
  | cons a vs => cases vs with
  | nil => cases a <;> exact nS e
  | cons w1 vs => cases vs with
  | cons _ _ => cases a <;> exact nS e
  | nil => cases a with
  | inst c' i =>
   obtain ⟨hc, e⟩ := cJ e
   cases hc
   cases h : F [.inst c i, w1, .str k] σ with
   | none => rw [h] at e; exact nS e
   | some q => rw [h] at e; exact ⟨i, w1, _, _, rfl, h, e⟩
  | _ => exact nS e
 clear e
 cases e2
 obtain ⟨us1, NO, rfl, V1, V2⟩ := V.MA
 clear V
 obtain ⟨a, rfl, hi, ho⟩ := V1.Ib
 obtain ⟨oc, od, osl, hlk⟩ := SX.lk
 obtain ⟨ce, hclo, cl, cld, csl, hcell⟩ := SX.clo
 obtain ⟨ar, Oq, har⟩ := SX.par
 obtain ⟨cda, ccl, cdd, vs, ccs, file, tf, hcode, OI, hvs, hfile⟩ := SX.file
 obtain ⟨cdD, hcD⟩ := SX.cD
 obtain ⟨pl, hform⟩ := hform (callEnv fd s.heap.objs.size fA)
 obtain ⟨oD, hD1, hD2⟩ := DY hcD
 obtain ⟨of, hof, hofc⟩ := Gl SX.typ
 obtain ⟨cd, hcd, hm⟩ := Option.bind_eq_some_iff.mp SX.meth
 obtain ⟨mg, hg, N⟩ := Ns
 have XX := KX.keeps H.base
 have hxC : a ≠ Γ.cls c := fun z => by
  obtain ⟨oC, hC1, hC2⟩ := DY hcd
  have := XX _ _ hC1
  rw [← z, ho] at this
  cases this
  cases hC2
 have hk : (callEnv fd s.heap.objs.size fA).scope.kind = .function := SX.kind
 have b1 : [(slf, Value.ref a), (row, NO)].reverse.lookup slf = some (.ref a) := by
  have : (slf == row) = false := by simpa using SX.names
  simp [List.lookup_cons, this]
 have b2 : [(slf, Value.ref a), (row, NO)].reverse.lookup row = some NO := by simp
 have hp : Plain args := fun env => by rw [M5, hst2]; rfl
 have VI : VR Γ μ σ.length s.heap (.inst c i) (.ref a) := V1
 obtain ⟨hh, g, dd, t, os⟩ := s
 clear V1
 refine hG (ks_codeAny_call_defAt (fd := fd) (by have := r.depth; show A.depth < 1000; lia) (XX _ _ hlk) rfl (hlim.keeps H.base) (codeRec_of XX SX.code) SX.body (BindsTo.of_eq (SX.bind (.ref a, NO))) SX.cells (fun q hq => ?_) (fun h1 hns hk1 => ?_) SX.co SX.gen SX.kind)
 ·rcases List.mem_cons.mp hq with rfl | hq
  ·exact SX.hself
  ·cases List.mem_singleton.mp hq; exact SX.hrow
 clear hG
 have K1 := kept H hk1 (t + 2)
 have X1 := XX.keeps hk1
 refine ks_wpAt_execs_cons (ks_wpAt_Expr_any ?_ (by show (fd.scope.kind == .module && _) = false; rw [SX.kind]; rfl) (hsw _))
 refine ks_wpAt_MethodCall ?_ hform
 refine ks_wpAt_super_base (env := callEnv fd hh.objs.size fA) SX.hks SX.hkc SX.hy rfl (X1 _ _ hlk) rfl Oq hcode (X1 _ _ OI) rfl hvs hfile SX.top ?_
 have N1 : ∀ (Q : Value → Shared → Prop) (E : Value → Shared → Prop) (t : Nat), Q (.type "super") ⟨h1, g, dd, t, os⟩ → wpAny Γ.M (A.deeper (callEnv fd hh.objs.size fA)) (loadName (callEnv fd hh.objs.size fA) "super") Q E ⟨h1, g, dd, t, os⟩ := by
  intro Q E t hq
  refine ks_loadName_global hk SX.hks ?_
  have hg' : h1.Ns (callEnv fd hh.objs.size fA).globals mg := by
   show h1.Ns fd.globals mg
   rw [SX.globals]; exact hg.keeps K1.1.base
  rcases N with N | ⟨N, mb, hb, N'⟩
  ·exact Calls.loadGlobal_global hg' N hq
  ·exact Calls.loadGlobal_builtin hg' N (by show h1.Ns fd.builtins mb; rw [SX.builtins]; exact hb.keeps K1.1.base) N' hq
 refine N1 _ _ _ ⟨rfl, ?_⟩
 clear N1
 refine wpAny_loadName_free hk SX.hkc hclo ⟨_, X1 _ _ hcell, rfl⟩ ?_
 rw [har]
 have ho1 := hk1 _ _ ho
 refine wpAny_loadName_local hk SX.hself hns b1 (ks_wpAny_isType_cls (X1 _ _ hD1) hD2 ⟨rfl, ks_wpAny_call_super (X1 _ _ hD1) hD2 ho1 rfl (fun c e => by cases e) (looks_subIn X1 SX.sub) fun h2 e2 k2 => ?_⟩)
 have X2 := X1.keeps k2
 refine ks_wpAny_getMethod_super e2 (looks_opaque X2 SX.any) (l₀ := cd.mro) (fun A Q E s k q => wpAny_bind ((looks_clsIn X2 hcd) A _ E s k (wpAny_pure q))) rfl X2 hm (X2 _ _ hof) hofc hxC SX.hy ?_
 have hq : (h2.push { cls := .type "method", data := .fields #[.ref fP, .ref a] }).get? h2.objs.size = some (methodObj (.ref fP) (.ref a)) := Heap.get?_push_size _ rfl
 have k3 : ∀ b o, hh.get? b = some o → (h2.push { cls := .type "method", data := .fields #[.ref fP, .ref a] }).get? b = some o := fun b o e => Heap.get?_push_of_some _ (k2 b o (hk1 b o e))
 have X3 := XX.keeps k3
 refine callWith_of (P := MethP K h2.objs.size fP (.ref a)) (by rw [l8, hp _]; rfl) (keeps_M SX.fnP) (j8 hp (Eh (M5 _) (wpAny_Name (wpAny_loadName_local hk SX.hrow (hns.keeps fun b o e => Heap.get?_push_of_some _ (k2 b o e)) b2 ?_) hd)))
 refine Eh (hst2 _) (Calls.Constant_str (args_nil ⟨⟨hq, X3⟩, wpAny_call (ks_codeAny_call_bound hq ?_)⟩))
 have q3 := fun tk => kept (s := ⟨hh, g, dd, t, os⟩) H k3 tk
 refine hF _ μ σ _ _ _ _ _ _ (r.deeper _) (q3 0).1 (.cons (VI.mono (q3 0).2.2 (fun _ _ => rfl) (Nat.le_refl _)) (.cons (V2.mono (q3 0).2.2 (fun _ _ => rfl) (Nat.le_refl _)) (.cons (by rw [← SX.hx]; exact .str _ _) .nil))) e1 fun u pG s₄ nT mC V₄ => wpAt_of_wpAny (wpAny_pure (cc _ pG s₄ nT ((q3 _).2.1.then mC) .none))
end
end Mine
end
section
open PySem PySem.W PyProof.Rows
open AutoSeq1 (wpAny_loadPart')
namespace Mine
section
variable {prog : Program} {w : World} {A : Around} {E : Value → Shared → Prop} {s : Shared}
theorem tZ {it t : Addr} {i : Nat} {items : Array Value} {x : Value} {Q : Value → Shared → Prop} (hit : s.heap.IsTupleIter it t i) (ht : s.heap.IsTuple t items) (hx : items[i]? = some x)
  (hQ : ∀ h', h'.IsTupleIter it t (i + 1) → Heap.SameBut it s.heap h' → Q x { s with heap := h' }) : wpAny (model prog w) A (Builtin.SmallTypes.nextOf (.ref it)) Q E s := by
 obtain ⟨o, ho, hc, hd⟩ := id hit
 obtain ⟨ol, hol, _, nl, hdl⟩ := ht
 unfold Builtin.SmallTypes.nextOf
 refine wpAny_bind (wpAny_callSpecial?_slot (name := Str.ofString "__next__") hit.typeIs PySem.F.slot_tuple_iterator_next
  (wpAny_call_entry PySem.F.slot_tuple_iterator_next hit.typeIs PySem.F.entry_tuple_iterator_next ?_ (PySem.F.args_tuple_iterator_next_1 _)))
 show wpAny _ _ (field (.ref it) 0 >>= _) _ _ s
 refine wpAny_bind (wpAny_field ho hd (x := .ref t) rfl ?_)
 show wpAny _ _ (if (Value.ref t == Value.none) = true then _ else _) _ _ s
 rw [if_neg (show ¬ ((Value.ref t == Value.none) = true) from Bool.false_ne_true)]
 show wpAny _ _ (field (.ref it) 1 >>= _) _ _ s
 refine wpAny_bind (wpAny_field ho hd (x := .int i 0) rfl ?_)
 show wpAny _ _ (seqItems? (.ref t) >>= _) _ _ s
 refine wpAny_bind (wpAny_seqItems hol hdl ?_)
 simp only [Int.toNat_natCast, hx]
 refine wpAny_bind (wpAny_setField ho hd (by simp) (wpAny_pure ⟨x, rfl, wpAny_pure (hQ _ ?_ (Heap.SameBut.update ..))⟩))
 exact ⟨_, Heap.get?_update_self _ ho (Obj.isFreed_of_fields (Obj.data_mapFields hd _)), (Obj.cls_mapFields ..).trans hc, by
  rw [Obj.data_mapFields hd]; simp [rawInt]⟩
theorem vT {it t : Addr} {i : Nat} {items : Array Value} {Q : Value → Shared → Prop} (hh : A.handled = none) (hit : s.heap.IsTupleIter it t i) (ht : s.heap.IsTuple t items) (hx : items[i]? = none)
  (hE : ∀ h' e, Heap.ExtBut it s.heap h' → (∃ o, h'.get? e = some o ∧ o.cls = .type "StopIteration") → E (.ref e) { s with heap := h' }) :
  wpAny (model prog w) A (Builtin.SmallTypes.nextOf (.ref it)) Q E s := by
 obtain ⟨o, ho, hc, hd⟩ := id hit
 obtain ⟨ol, hol, _, nl, hdl⟩ := ht
 unfold Builtin.SmallTypes.nextOf
 refine wpAny_bind (wpAny_callSpecial?_slot (name := Str.ofString "__next__") hit.typeIs PySem.F.slot_tuple_iterator_next
  (wpAny_call_entry PySem.F.slot_tuple_iterator_next hit.typeIs PySem.F.entry_tuple_iterator_next ?_ (PySem.F.args_tuple_iterator_next_1 _)))
 show wpAny _ _ (field (.ref it) 0 >>= _) _ _ s
 refine wpAny_bind (wpAny_field ho hd (x := .ref t) rfl ?_)
 show wpAny _ _ (if (Value.ref t == Value.none) = true then _ else _) _ _ s
 rw [if_neg (show ¬ ((Value.ref t == Value.none) = true) from Bool.false_ne_true)]
 show wpAny _ _ (field (.ref it) 1 >>= _) _ _ s
 refine wpAny_bind (wpAny_field ho hd (x := .int i 0) rfl ?_)
 show wpAny _ _ (seqItems? (.ref t) >>= _) _ _ s
 refine wpAny_bind (wpAny_seqItems hol hdl ?_)
 simp only [Int.toNat_natCast, hx]
 refine wpAny_bind (wpAny_rule (wpAny_bind (wpAny_setField ho hd (by simp) ?_)))
 show wpAny _ _ (newExc (.type "StopIteration") [] >>= _) _ _ _
 refine wpAny_bind ?_
 simp only [newExc, newTuple]
 refine wpAny_bind (wpAny_newObj_type ?_ (by size_fits))
 refine wpAny_bind (m := firstArgMember _ _) (wpAny_of_eq (a := Value.none) (by first | rfl | (simp only [firstArgMember]; rfl)) ?_)
 refine wpAny_newObj_type ?_ (by size_fits)
 refine wpAny_bind (wpAny_handled ?_)
 first | rw [show A.in1.handled = none from hh] | rw [hh]
 refine wpAny_bind (wpAny_pure (wpAny_throw ?_))
 exact hE _ _ (((Heap.SameBut.update ..).extBut.push _).push _) ⟨_, Heap.get?_push_size _ rfl, rfl⟩
theorem An (hh : A.handled = none) (it l : Addr) (hne : l ≠ it) (items : Array Value) :
  Draws prog w A it [it, l] items.size (fun i v => items[i]? = some v) (fun i h => h.IsTupleIter it l i ∧ h.IsTuple l items) where
 live := fun _ _ st => let ⟨o, ho, _⟩ := st.1; ⟨o, ho⟩
 frame := fun _ _ _ st hk => ⟨st.1.at fun o e => hk it (by simp) o e, st.2.at fun o e => hk l (by simp) o e⟩
 item := fun i s Q E hi st hQ => by
  refine tZ st.1 st.2 (x := items[i]) (by simp [hi]) fun h' hit' hs' => ?_
  exact hQ _ h' s.toks (by simp [hi]) ⟨hit', st.2.at fun o e => hs'.extBut _ o hne e⟩ hs'
 done := fun s Q E st hE => vT hh st.1 st.2 (by simp) hE
theorem CW {M : Model} {A : Around} {b : Bool} {Q : Bool → Shared → Prop} {E : Value → Shared → Prop} {s : Shared} (h : ∀ b, Q b s) : wpAny M A (pure b) Q E s := wpAny_pure (h b)
theorem zZ (l : Addr) (items : Array Value) (n : Nat) :
  Meets (Builtin.«enumerate.__new__» ⟨[.type "enumerate", .ref l], []⟩) (fun _ R s => s.heap.get? l = some { cls := .type "tuple", dict := none, data := .seq items n, slots := #[] } ∧
   R (.ok (.ret (.ref (s.heap.push { cls := .type "tuple_iterator", data := .fields #[.ref l, .int 0 0] }).objs.size)))
    { s with heap := (s.heap.push { cls := .type "tuple_iterator", data := .fields #[.ref l, .int 0 0] }).push { cls := .type "enumerate", data := .fields #[.none, .bool false, .ref s.heap.objs.size, rawInt 0, .none, .none] } }) :=
 .of_wp fun prog w A R s h => by
  obtain ⟨hp, g, d, tk, os⟩ := s; obtain ⟨hl, h⟩ := h
  have hsub := sub_enumerate
  have hL : Heap.IsTuple (Shared.heap ⟨hp, g, d, tk, os⟩) l items := ⟨_, hl, rfl, n, rfl⟩
  wp_walk using wpAny_loadPart' hl
  refine wpAny_stack_any fun st => CW fun b => ?_
  cases b
  ·wp_walk using wpAny_loadPart' hl, wpAny_pyIter_tuple hL
   exact ⟨_, rfl, h⟩
  ·wp_walk using wpAny_loadPart' hl, wpAny_pyIter_tuple hL
   exact ⟨_, rfl, h⟩
theorem IK {l : Addr} {items : Array Value} {n : Nat} {Q : Value → Shared → Prop} (hL : IsT s.heap l items n)
  (h : ∀ h', IsEnum h' (s.heap.objs.size + 1) s.heap.objs.size 0 .none → h'.IsTupleIter s.heap.objs.size l 0 → h'.objs.size = s.heap.objs.size + 2 →
   (∀ b o, s.heap.get? b = some o → h'.get? b = some o) → Q (.ref (s.heap.objs.size + 1)) { s with heap := h' }) :
  wpAny (model prog w) A (call (.type "enumerate") [.ref l]) Q E s := by
 refine callType_new PySem.F.called_enumerate (by decide) (PySem.F.typeCall_enumerate_1 _) (PySem.F.newCall_enumerate_1 _) (fun obj => PySem.F.args_object_init_2 obj _) PySem.F.entry_enumerate_new
  (zZ l items n) ⟨hL, ?_⟩
 have hz : (s.heap.push { cls := .type "tuple_iterator", data := .fields #[.ref l, .int 0 0] }).objs.size = s.heap.objs.size + 1 := Heap.size_push ..
 show _ ∧ _
 rw [hz]
 have he : IsEnum ((s.heap.push { cls := .type "tuple_iterator", data := .fields #[.ref l, .int 0 0] }).push
   { cls := .type "enumerate", data := .fields #[.none, .bool false, .ref s.heap.objs.size, rawInt 0, .none, .none] }) (s.heap.objs.size + 1) s.heap.objs.size 0 .none := by
  have := Heap.get?_push_size (s.heap.push { cls := .type "tuple_iterator", data := .fields #[.ref l, .int 0 0] })
   (o := { cls := .type "enumerate", data := .fields #[.none, .bool false, .ref s.heap.objs.size, rawInt 0, .none, .none] }) rfl
  rw [hz] at this; exact this
 refine ⟨⟨_, he, rfl⟩, h _ he ⟨_, Heap.get?_push_of_some _ (Heap.get?_push_size _ rfl), rfl, rfl⟩ (by rw [Heap.size_push, hz]) fun b o x => Heap.get?_push_of_some _ (Heap.get?_push_of_some _ x)⟩
end
section
variable {Γ : gK} {cx cy : Cx} {d : Nat} {env : Env} {μ aI bA : Nat → Addr} {n n₁ n₂ : Nat} {ρ : Loc} {s s₁ s₂ : Shared} {σ σ₁ : St}
noncomputable def oL (v : V) (σ : St) (k : Nat) : Option (Option V) := match v with
 | .tup l => some (l[k]?.map fun x => .tup [.int k, x])
 | .obj i => (getL σ i).map fun l => l[k]?.map fun x => .tup [.int k, x]
 | _ => none
inductive Gg (Γ : gK) (it : Addr) (μ : Nat → Addr) (n : Nat) (h : Heap) (k : Nat) : V → Prop
 | tup {l : List V} {t : Addr} {items : Array Value} {kk : Nat} (hle : k ≤ items.size) (ht : IsT h t items kk) (hs : VRs Γ μ n h l items.toList) (hi : h.IsTupleIter it t k) : Gg Γ it μ n h k (.tup l)
 | obj {i : Nat} (hi : i < n) (hl : h.IsListIter it (μ i) k) : Gg Γ it μ n h k (.obj i)
structure Fh (Γ : gK) (v : V) (en it : Addr) (μ : Nat → Addr) (n : Nat) (h : Heap) (k : Nat) : Prop where
 intro ::
 h1 : Γ.h₀.get? en = none
 h2 : Γ.h₀.get? it = none
 h3 : en ≠ it
 he : ∃ old, IsEnum h en it k old
 x : Gg Γ it μ n h k v
theorem BQ {v : V} {en it : Addr} {h : Heap} {k : Nat} (x : Fh Γ v en it μ n h k) : ∀ b ∈ [en, it], Γ.h₀.get? b = none ∧ ∃ o vs, h.get? b = some o ∧ o.data = .fields vs ∧ fz o = false := fun b hb => by
 obtain ⟨h1, h2, _, ⟨old, he⟩, x⟩ := x
 rcases List.mem_cons.mp hb with rfl | hb
 ·exact ⟨h1, _, _, he, rfl, rfl⟩
 ·cases List.mem_singleton.mp hb
  cases x with
  | tup _ _ _ hi => exact ⟨h2, pH hi⟩
  | obj _ hi => exact ⟨h2, oB hi⟩
theorem tup_ne {h : Heap} {t it : Addr} {items : Array Value} {k : Nat} {o : Obj} (ht : IsT h t items k) (ho : h.get? it = some o) {vs : Array Value} (hd : o.data = .fields vs) : t ≠ it := fun z => by
 rw [← z, ht] at ho; cases ho; cases hd
theorem GY (v : V) (en it : Addr) : Iter Γ d (fun t => ∃ elts k pos, t = .Tuple elts k pos) en [en, it] (oL v) (Fh Γ v en it) where
 keep := fun {μ n h dU n' h' k} ⟨a, b, c, ⟨old, he⟩, x⟩ hk kf hμ hn => by
  have hk2 := hk it (.tail _ (.head _))
  refine ⟨a, b, c, ⟨old, hk en (.head _) _ he⟩, ?_⟩
  cases x with
  | tup hle ht hs hi => exact .tup hle (kf _ _ ht rfl) (hs.mono kf hμ hn) (hi.at hk2)
  | obj hi hl => exact .obj (Nat.lt_of_lt_of_le hi hn) (hμ _ hi ▸ hl.at hk2)
 objs := fun {μ n h k} x => BQ x
 item := fun {A μ σ s k v' Q E} r H x e c => by
  refine byC fun hG => ?_
  have ob := BQ x
  obtain ⟨h1, h2, h3, ⟨old, he⟩, x⟩ := x
  have ml : en < s.heap.objs.size := Heap.lt_size he
  have fin : ∀ (xu : Value) (h' : Heap) (tk : Nat) (xv : V), VR Γ μ σ.length s.heap xv xu → .tup [.int k, xv] = v' → IsEnumOut h' en it ((k : Int) + 1) xu s.heap.objs.size →
    h'.get? s.heap.objs.size = some { cls := .type "tuple", data := .seq #[.int k tk, xu] } → (∀ b o, b ≠ en → b ≠ it → s.heap.get? b = some o → h'.get? b = some o) →
    (∀ h'', (∀ b o, b ≠ en → h'.get? b = some o → h''.get? b = some o) → cK s.heap h'' → Gg Γ it μ σ.length h'' (k + 1) v) → Q (some (.ref s.heap.objs.size)) { s with heap := h', toks := tk + 1 } := by
   intro xu h' tk xv hv ev ho hT hk hIR
   subst ev
   refine c _ _ fun target G5 E₂ ht q => ?_
   obtain ⟨elts, kk, pos, rfl⟩ := ht
   refine wpAny_letOwnedTupleGo_enum ho fun h'' he'' hs'' => ?_
   have kb : i8 [en, it] s.heap h'' := fun b o hb e => hs''.extBut b o (fun z => hb (z ▸ .head _)) (hk b o (fun z => hb (z ▸ .head _)) (fun z => hb (z ▸ .tail _ (.head _))) e)
   have kf : cK s.heap h'' := kb.fz (Γ := Γ) ob
   exact q { s with heap := h'', toks := tk + 1 } kb ⟨rfl, rfl, rfl⟩ ⟨h1, h2, h3, ⟨_, he''⟩, hIR h'' (fun b o hb e => hs''.extBut b o hb e) kf⟩ (.tup (k := 0) (items := #[.int k tk, xu]) (hs''.extBut _ _ (Nat.ne_of_gt ml) hT) (.cons (.int _ _) (.cons (hv.mono kf (fun _ _ => rfl) (Nat.le_refl _)) .nil)))
  clear c
  cases x with
  | tup hle ht hs hi =>
   obtain ⟨xv, hxv, e⟩ := Option.map_eq_some_iff.mp (Option.some.inj e)
   obtain ⟨xu, hu, hv⟩ := hs.get hxv
   rw [Array.getElem?_toList] at hu
   have hlt := (Array.getElem?_eq_some_iff.mp hu).1
   have hte := tup_ne ht he rfl
   obtain ⟨o, ho, _, hd⟩ := id hi
   refine hG (wpAny_pyNext_enum_itemD (An (A := A.in1) r.handled it _ (tup_ne ht ho hd) _) he ⟨hi, ⟨_, ht, rfl, _, rfl⟩⟩ hlt h3 (fun z => (List.mem_cons.mp z).elim h3 fun z => hte (List.mem_singleton.mp z).symm) fun x' h' tk hP ho hs' hT hsz hk => ?_)
   rw [hu] at hP; cases hP
   exact fin xu h' tk xv hv e ho hT hk fun h'' hk'' kf => .tup hlt (kf _ _ ht rfl) (hs.mono kf (fun _ _ => rfl) (Nat.le_refl _)) (hs'.1.at fun o e => hk'' _ o (Ne.symm h3) e)
  | obj hi hit =>
   obtain ⟨l, hl, e⟩ := Option.map_eq_some_iff.mp e
   obtain ⟨xv, hxv, e⟩ := Option.map_eq_some_iff.mp e
   obtain ⟨_, items, kk, hL, hs⟩ := H.list hl
   obtain ⟨xu, hu, hv⟩ := hs.get hxv
   rw [Array.getElem?_toList] at hu
   exact hG (wpAny_pyNext_enum_item he hit (isList hL) hu h3 fun h' ho hit' hT hsz hk => fin xu h' s.toks xv hv e ho hT hk fun h'' hk'' kf => .obj hi (hit'.at fun o e => hk'' _ o (Ne.symm h3) e))
 stop := fun {A μ σ s k Q E} r H x e c => by
  refine byC fun hG => ?_
  obtain ⟨h1, h2, h3, ⟨old, he⟩, x⟩ := x
  have kb : ∀ h', Heap.ExtBut it s.heap h' → i8 [en, it] s.heap h' := fun h' hs b o hb e => hs b o (fun z => hb (z ▸ .tail _ (.head _))) e
  cases x with
  | tup hle ht hs hi =>
   have e := hs.none (Option.map_eq_none_iff.mp (Option.some.inj e))
   obtain ⟨o, ho, _, hd⟩ := id hi
   cases Nat.le_antisymm hle (Array.getElem?_eq_none_iff.mp e)
   exact hG (wpAny_pyNext_enum_endD (An (A := A.in1) r.handled it _ (tup_ne ht ho hd) _) he ⟨hi, ⟨_, ht, rfl, _, rfl⟩⟩ fun h' hx => c _ (kb h' hx) ⟨rfl, rfl, rfl⟩)
  | obj hi hit =>
   obtain ⟨l, hl, e⟩ := Option.map_eq_some_iff.mp e
   obtain ⟨_, items, kk, hL, hs⟩ := H.list hl
   exact hG (wpAny_pyNext_enum_end r.handled he hit (isList hL) (hs.none (Option.map_eq_none_iff.mp e)) fun h' hx => c _ (kb h' hx) ⟨rfl, rfl, rfl⟩)
noncomputable def XS.jU (f : X V) (a : XA) (g : XS) (fuel : Nat) : XS := fun ρ σ => match f ρ σ with
 | some (v, σ₁) => XS.uI (oL v) a g fuel 0 ρ σ₁
 | none => none
theorem Fg {v : V} {u : Value} {A : Around} {Q : Value → Shared → Prop} {E : Value → Shared → Prop} {o : Option V} (H : aY Γ μ σ s.heap) (V : VR Γ μ σ.length s.heap v u) (e : oL v σ 0 = some o)
  (c : ∀ h', (∀ b o, s.heap.get? b = some o → h'.get? b = some o) → Fh Γ v (s.heap.objs.size + 1) s.heap.objs.size μ σ.length h' 0 → Q (.ref (s.heap.objs.size + 1)) { s with heap := h' }) : wpAny Γ.M A (call (.type "enumerate") [u]) Q E s := by
 have nb : ∀ b, s.heap.objs.size ≤ b → Γ.h₀.get? b = none := fun b hb => by
  cases q : Γ.h₀.get? b with
  | none => rfl
  | some o => exact absurd (Heap.lt_size (H.base _ _ q)) (Nat.not_lt.mpr hb)
 cases v with
 | tup _ =>
  obtain ⟨_, items, _, rfl, ht, hs⟩ := V.tupI
  exact IK ht fun h' he hi _ hk => c h' hk ⟨nb _ (Nat.le_succ _), nb _ (Nat.le_refl _), Nat.succ_ne_self _, ⟨_, he⟩, .tup (Nat.zero_le _) (hk _ _ ht) (hs.mono (fun a o e _ => hk a o e) (fun _ _ => rfl) (Nat.le_refl _)) hi⟩
 | obj _ =>
  cases V.j5.1
  obtain ⟨l, hl, e⟩ := Option.map_eq_some_iff.mp e
  obtain ⟨hi, items, kk, hL, hs⟩ := H.list hl
  exact call_enumerate_list (isList hL) fun h' he hit _ hk => c h' hk ⟨nb _ (Nat.le_succ _), nb _ (Nat.le_refl _), Nat.succ_ne_self _, ⟨_, he⟩, .obj hi hit⟩
 | _ => exact nS e
theorem aM.jU {x : Str} {elts : List PySem.Expr} {e : PySem.Expr} {kk : Nat} {tpos p pos2 pos : Pos} {b : List Stmt} {f : X V} {a : XA} {g : XS} (fuel : Nat) (N : cW Γ x (.type "enumerate")) (hx : cx.sc.names.lookup x = some .globalImplicit) (hd : (x == ("__debug__" : Str)) = false) (he : ∀ env, starEach [e] env = [(false, eval e env)])
  (hf : aC Γ d cx e f) (ha : eC Γ d cx (.Tuple elts kk tpos) a) (hg : aE Γ d cx b g) (hs : ∀ env v, foldedSetIterable (.Call (.Name x p) [e] [] pos2) env v = pure v) :
  aM Γ d cx (.For (.Tuple elts kk tpos) (.Call (.Name x p) [e] [] pos2) b [] pos) (XS.jU f a g fuel) := fun A env μ ρ σ s fl cI σ' Q E r H R e' c => by
 unfold XS.jU at e'
 split at e'
 case h_2 => cases e'
 rename_i v σ₁ e1
 obtain ⟨o, ho⟩ := DO e'
 refine wpAny_For ?_ (hs env)
 refine wpAny_Call_NameR (mM N hx hd H R ?_)
 refine callWith_of (P := fun h => ∀ b o, Γ.h₀.get? b = some o → h.get? b = some o) (by rw [l8, plain1 he env]; rfl) kB.type (j8 (plain1 he) ?_)
 refine args_cons ?_ (he env)
 refine hf A env μ ρ σ s v σ₁ _ E r H R e1 fun u aI s₁ H₁ S₁ cN => args_nil ⟨H₁.base, ?_⟩
 refine Fg H₁ cN ho fun h' hk x => ?_
 obtain ⟨old, hen⟩ := x.he
 refine wpAny_pyIter_enum hen ?_
 obtain ⟨cM, T, _⟩ := kept H₁ hk s₁.toks
 have S₂ := S₁.tF (Γ := Γ) (cx := cx) (env := env) |>.fE T.tF
 refine BL (GY v _ _) ⟨_, _, _, rfl⟩ ha hg r s μ σ.length (fun b hb => ?_) fuel 0 S₂ cM ((R.step H S₁).step H₁ T) x e' fun w dU s' H' S' R' V' => c w dU s' H' S' R' V'
 have hlt : s₁.heap.objs.size ≤ b := by
  simp only [List.mem_cons, List.not_mem_nil, or_false] at hb
  rcases hb with rfl | rfl
  ·exact Nat.le_succ _
  ·exact Nat.le_refl _
 cases q : s.heap.get? b with
 | none => rfl
 | some o => obtain ⟨o', e'⟩ := S₁.live _ _ q; exact absurd (Heap.lt_size e') (Nat.not_lt.mpr hlt)
end
end Mine
end
section
open PySem PySem.W PyProof.Rows
namespace Mine
theorem jH {α : Type} {l : List α} {a : α} (n : Nat) (h : l[n]? = some a) : a ∈ l := List.mem_of_getElem? h
noncomputable def env0 (sc : Scope) : Env := { scope := sc, locals := 0, globals := 0, cells := [] }
theorem nW {env : Env} {sc : Scope} (h : env.scope = sc) (ts : List PySem.Expr) (v : PySem.Expr) (l : Nat) : swapsWithSole ts v l env = swapsWithSole ts v l (env0 sc) := by
 subst h
 match ts with
 | [] => rfl
 | [t] => rfl
 | _ :: _ :: _ => rfl
theorem dW {env : Env} {sc : Scope} (h : env.scope = sc) (ts : List PySem.Expr) (v : PySem.Expr) : swappedStores ts v env = swappedStores ts v (env0 sc) := by
 subst h
 rfl
namespace X
noncomputable def bin (o : V → V → St → Option (V × St)) (f g : X V) : X V := X.bind f fun a => X.bind g fun b => X.lift (o a b)
noncomputable def eH (f : X (List V)) : X V := X.bind f fun vs => X.bind (f5 vs) fun vs => X.pure (.tup vs)
noncomputable def hY (f : X (List V)) : X V := X.bind f fun vs => X.bind (f5 vs) fun vs => X.lift fun σ => some (.obj σ.length, σ ++ [.list vs])
noncomputable def aH : X (List V) := X.pure []
noncomputable def aB (f : X V) (g : X (List V)) : X (List V) := X.bind f fun v => X.bind g fun vs => X.pure (v :: vs)
noncomputable def qE (o o' : V → V → St → Option (V × St)) (f g h : X V) : X Bool := X.bind f fun a => X.bind g fun b => X.bind (X.bind (X.lift (o a b)) X.truth) fun t => if t then X.bind (X.bind h fun c => X.lift (o' b c)) X.truth else X.pure false
noncomputable def n8 (f : X Bool) : X Bool := X.bind f fun b => X.pure (!b)
noncomputable def Lo (f : X V) : X V := X.bind (X.bind f X.truth) fun b => X.pure (.bool (!b))
noncomputable def test (f : X V) : X Bool := X.bind f X.truth
noncomputable def iW (f g : X Bool) : X Bool := X.bind f fun b => if b == (BoolOp.And == .And) then g else X.pure b
noncomputable def pE (f g : X Bool) : X Bool := X.bind f fun b => if b == (BoolOp.Or == .And) then g else X.pure b
noncomputable def v5 : X Bool := X.pure (BoolOp.And == .And)
noncomputable def orZ : X Bool := X.pure (BoolOp.Or == .And)
noncomputable def Ke (f g : X V) : X V := X.bind (X.bind f X.truth) fun b => if b == (BoolOp.And == .And) then g else X.pure (.bool b)
noncomputable def LE (f : X Bool) (g h : X V) : X V := X.bind f fun c => if c then g else h
noncomputable def sub (f g : X V) : X V := X.bind f fun x => X.bind g fun y => X.lift (iU x y)
noncomputable def slice (f : X V) (g h : Option (X V)) : X V := X.bind f fun x => X.bind (yJ g) fun l => X.bind (yJ h) fun u => X.lift (gP x l u)
noncomputable def attr (c k : Nat) (f : X V) : X V := X.bind f fun v => X.lift (wJ c k v)
noncomputable def call (F : FF) (g : X (List V)) : X V := X.bind g fun vs => X.lift (F vs)
noncomputable def eY (F : FF) (f : X V) (g : X (List V)) : X V := X.bind f fun v => X.bind (X.lift (asList v)) fun v => X.bind g fun vs => X.lift (F (v :: vs))
noncomputable def cS (c k : Nat) (F : FF) (f : X V) (g : X (List V)) : X V := X.bind f fun v => X.bind (X.lift (tB c k v)) fun v => X.bind g fun vs => X.lift (F (v :: vs))
noncomputable def neg (f : X V) : X V := X.bind f fun v => X.lift fun σ => match v with | .int a => some (.int (-a), σ) | _ => Option.none
noncomputable def sO (f : X V) : X V := X.bind f fun v => X.lift (oJ v)
noncomputable def oX : X V := X.lift fun σ => some (.obj σ.length, σ ++ [.cA []])
noncomputable def Hx : X (List (V × V)) := X.pure []
noncomputable def lM (f g : X V) (h : X (List (V × V))) : X (List (V × V)) := X.bind f fun a => X.bind g fun b => X.bind h fun r => X.pure ((a, b) :: r)
noncomputable def DV (f : X (List (V × V))) : X V := X.bind f fun vs => X.lift fun σ => ((intKeys vs).map fun l => Mine.O.cA (p8 l)).map fun o => (.obj σ.length, σ ++ [o])
noncomputable def wU (f : X (List (V × V))) : X V := X.bind f fun vs => X.lift fun σ => ((strKeys vs).map fun l => Mine.O.aV (p8 l)).map fun o => (.obj σ.length, σ ++ [o])
noncomputable def fZ (locs : List Nat) (f : X V) (a : XA) (t : Option (X Bool)) (e : X V) (fuel : Nat) : X V := X.comp locs f (.list []) a t (XC.emit e) fuel
noncomputable def CA (locs : List Nat) (f : X V) (a : XA) (t : Option (X Bool)) (f2 : X V) (a2 : XA) (t2 : Option (X Bool)) (e : X V) (fuel : Nat) : X V := X.comp locs f (.list []) a t (XC.nest f2 a2 t2 (XC.emit e) fuel) fuel
noncomputable def F1 (locs : List Nat) (f : X V) (a : XA) (t : Option (X Bool)) (k v : X V) (fuel : Nat) : X V := X.comp locs f (.cA []) a t (XC.uL k v) fuel
end X
noncomputable def XS.fail : XS := fun _ _ => none
noncomputable def Iz (c k : Nat) (F : FF) : FF := fun vs σ => match vs with
 | [.inst c' i, v] => if c' = c then (match F [.inst c' i, v, .str k] σ with | some (_, σ') => some (.none, σ') | none => none) else none
 | _ => none
section
variable {Γ : gK} {d : Nat}
noncomputable def iF (a b : V) (σ : St) : Option (V × St) := match a, b with
 | .obj i, .obj j => match getL σ i, getL σ j with
  | some l, some m => if l.length ≠ m.length ∧ l.length ≤ 100000 ∧ m.length ≤ 100000 then some (.bool true, σ) else oNe a b σ
  | _, _ => oNe a b σ
 | _, _ => oNe a b σ
theorem HB {a b : V} {σ : St} {r : V × St} (e : iF a b σ = some r) : oNe a b σ = some r ∨ ∃ i j l m, a = .obj i ∧ A5 (b = .obj j) (getL σ i = some l) (getL σ j = some m) (l.length ≠ m.length ∧ l.length ≤ 100000 ∧ m.length ≤ 100000) (some (Mine.V.bool true, σ) = some r) := by
 cases a with
 | obj i => cases b with
  | obj j =>
   unfold iF at e
   dsimp only at e
   cases h1 : getL σ i with
   | none => rw [h1] at e; exact .inl e
   | some l => cases h2 : getL σ j with
    | none => rw [h1, h2] at e; exact .inl e
    | some m =>
     rw [h1, h2] at e
     by_cases hz : l.length ≠ m.length ∧ l.length ≤ 100000 ∧ m.length ≤ 100000
     ·exact .inr ⟨i, j, l, m, rfl, rfl, h1, h2, hz, (if_pos hz).symm.trans e⟩
     ·exact .inl ((if_neg hz).symm.trans e)
  | _ => exact .inl e
 | _ => exact .inl e
theorem bY.Eo (G : mT Γ) : bY Γ d (compareOp .NotEq) iF := fun A μ σ s a b v ua ub σ' Q E r H xa xb e c => by
 obtain e | ⟨i, j, l, m, rfl, rfl, hl, hm, hz, e2⟩ := HB e
 ·exact bY.ne G A μ σ s a b v ua ub σ' Q E r H xa xb e c
 clear e
 cases e2
 cases xa.j5.1; cases xb.j5.1
 obtain ⟨_, it1, k1, hL1, hs1⟩ := H.list hl
 obtain ⟨_, it2, k2, hL2, hs2⟩ := H.list hm
 have e1 := hs1.length.trans Array.length_toList
 have e2 := hs2.length.trans Array.length_toList
 have hu := r.units
 exact PySem.SeqAt.RcNeAt.lists_lengths (isList hL1) (isList hL2) (by simp; lia) (by show A.units < 9900; lia) Γ.prog Γ.w E Q (c _ μ _ H .refl (.bool _))
theorem aC.Ma {cx : Cx} {keys : List (Option PySem.Expr)} {values : List PySem.Expr} {pos : Pos} (l : List (PySem.Expr × PySem.Expr)) {f : X (List (V × V))} (_hk : keys = l.map fun p => some p.1) (_hv : values = l.map (·.2)) (hsh : nU keys values pos l) (h0 : l ≠ []) (hlen : l.length ≤ 15) (hf : iI Γ d cx l f) :
 aC Γ d cx (.Dict keys values pos) (X.DV f) := .DV l hsh h0 hlen hf
theorem aC.IT {cx : Cx} {keys : List (Option PySem.Expr)} {values : List PySem.Expr} {pos : Pos} (l : List (PySem.Expr × PySem.Expr)) {f : X (List (V × V))} (_hk : keys = l.map fun p => some p.1) (_hv : values = l.map (·.2)) (hsh : nU keys values pos l) (h0 : l ≠ []) (hlen : l.length ≤ 15) (hf : iI Γ d cx l f) :
 aC Γ d cx (.Dict keys values pos) (X.wU f) := .wU l hsh h0 hlen hf
end
noncomputable def Ef : XS := XS.seq (XS.assign (X.hY X.aH) (XA.name 1)) (XS.seq (XS.for (X.var 0) (XA.tup [XA.name 2, XA.name 3]) (XS.seq (XS.drop (X.eY uK (X.var 1) (X.aB (X.call (sW oI) (X.aB (X.var 2) (X.aB (X.bin eJ (X.var 3) (X.pure (.int 1))) X.aH))) X.aH))) XS.nil) 1000) (XS.seq (XS.ret (X.var 1)) XS.nil))
noncomputable def qO : FF := eM 1 3 Ef
noncomputable def F8 : XS := XS.seq (XS.ret (X.call (bW gS) (X.aB (X.fZ [2, 3] (X.var 0) (XA.tup [XA.name 2, XA.name 3]) (some (X.test (X.bin oLe (X.var 2) (X.var 1)))) (X.eH (X.aB (X.var 2) (X.aB (X.call (sW Nu) (X.aB (X.var 3) (X.aB (X.var 1) X.aH))) X.aH))) 1000) X.aH))) XS.nil
noncomputable def yI : FF := eM 2 2 F8
noncomputable def B3 : XS := XS.seq (XS.ret (X.call (bW gS) (X.aB (X.fZ [2, 3] (X.var 0) (XA.tup [XA.name 2, XA.name 3]) (some (X.test (X.bin oGe (X.var 3) (X.var 1)))) (X.eH (X.aB (X.call (sW Nv) (X.aB (X.var 2) (X.aB (X.var 1) X.aH))) (X.aB (X.var 3) X.aH))) 1000) X.aH))) XS.nil
noncomputable def rG : FF := eM 2 2 B3
noncomputable def B2 : XS := XS.seq (XS.ret (X.bin eJ (X.call yI (X.aB (X.var 0) (X.aB (X.bin rL (X.var 1) (X.pure (.int 1))) X.aH))) (X.call rG (X.aB (X.var 0) (X.aB (X.bin eJ (X.var 1) (X.pure (.int 1))) X.aH))))) XS.nil
noncomputable def v8 : FF := eM 2 0 B2
noncomputable def Eg : XS := XS.seq (XS.assign (X.eH (X.aB (X.sub (X.var 0) (X.pure (.int 1))) (X.aB (X.sub (X.var 0) (X.pure (.int 2))) X.aH))) (XA.swap [(2, 6), (3, 4)])) (XS.seq (XS.ite (X.test (X.bin oEq (X.var 2) (X.pure (.str 9)))) (XS.seq (XS.ret (X.call yI (X.aB (X.var 1) (X.aB (X.var 3) X.aH)))) XS.nil) XS.nil) (XS.seq (XS.ite (X.test (X.bin oEq (X.var 2) (X.pure (.str 8)))) (XS.seq (XS.ret (X.call rG (X.aB (X.var 1) (X.aB (X.var 3) X.aH)))) XS.nil) XS.nil) (XS.seq (XS.ret (X.LE (X.test (X.bin oEq (X.var 2) (X.pure (.str 7)))) X.fail (X.call v8 (X.aB (X.var 1) (X.aB (X.var 3) X.aH))))) XS.nil)))
noncomputable def AI : FF := eM 2 2 Eg
noncomputable def oO : XS := XS.seq (XS.assign (X.hY X.aH) (XA.attr 0 19 (X.var 0))) (XS.seq (XS.assign (X.hY X.aH) (XA.attr 0 18 (X.var 0))) (XS.seq (XS.assign (X.hY X.aH) (XA.attr 0 17 (X.var 0))) (XS.seq (XS.assign (X.hY X.aH) (XA.attr 0 16 (X.var 0))) (XS.seq (XS.assign X.oX (XA.attr 0 15 (X.var 0))) (XS.seq (XS.assign (X.neg (X.pure (.int 1))) (XA.attr 0 14 (X.var 0))) (XS.seq (XS.assign (X.pure (.bool false)) (XA.attr 0 13 (X.var 0))) (XS.seq (XS.assign (X.eH X.aH) (XA.attr 0 12 (X.var 0))) XS.nil)))))))
noncomputable def g9 : FF := eM 1 0 oO
noncomputable def u8 : XS := XS.seq (XS.assign (X.pure (.bool true)) (XA.attr 0 13 (X.var 0))) (XS.seq (XS.assign (X.call (bW gS) (X.aB (X.var 1) X.aH)) (XA.attr 0 12 (X.var 0))) (XS.seq (XS.ret (X.pure (.bool false))) XS.nil))
noncomputable def hJ : FF := eM 2 0 u8
noncomputable def o5 : XS := XS.seq (XS.drop (X.eY eB (X.attr 0 19 (X.var 0)) (X.aB (X.var 1) X.aH))) (XS.seq (XS.drop (X.eY eB (X.attr 0 18 (X.var 0)) (X.aB (X.var 1) X.aH))) (XS.seq (XS.ite (X.test (X.bin oEq (X.var 1) (X.eH X.aH))) (XS.seq (XS.drop (X.cS 0 22 hJ (X.var 0) (X.aB (X.eH X.aH) X.aH))) XS.nil) XS.nil) (XS.seq (XS.ret (X.bin rL (X.call (bW gJ) (X.aB (X.attr 0 19 (X.var 0)) X.aH)) (X.pure (.int 1)))) XS.nil)))
noncomputable def eR : FF := eM 2 0 o5
noncomputable def u6 : XS := XS.seq (XS.ret (X.call (bW gJ) (X.aB (X.attr 0 19 (X.var 0)) X.aH))) XS.nil
noncomputable def oS : FF := eM 1 0 u6
noncomputable def w8 : XS := XS.seq (XS.ret (X.sub (X.attr 0 19 (X.var 0)) (X.var 1))) XS.nil
noncomputable def kD : FF := eM 2 0 w8
noncomputable def o6 : XS := XS.seq (XS.ret (X.sub (X.attr 0 18 (X.var 0)) (X.var 1))) XS.nil
noncomputable def kN : FF := eM 2 0 o6
noncomputable def sE : XS := XS.seq (XS.assign (X.sub (X.var 1) (X.pure (.int 0))) (XA.name 4)) (XS.seq (XS.assign (X.sub (X.attr 0 19 (X.var 0)) (X.var 4)) (XA.name 5)) (XS.seq (XS.assign (X.call AI (X.aB (X.var 1) (X.aB (X.var 5) X.aH))) (XA.name 6)) (XS.seq (XS.ite (X.test (X.bin oEq (X.var 6) (X.eH X.aH))) (XS.seq XS.fail XS.nil) XS.nil) (XS.seq (XS.ite (X.test (X.bin oEq (X.var 6) (X.var 5))) (XS.seq (XS.ret (X.pure (.bool true))) XS.nil) XS.nil) (XS.seq (XS.drop (X.eY eB (X.attr 0 17 (X.var 0)) (X.aB (X.eH (X.aB (X.var 4) (X.aB (X.var 5) (X.aB (X.var 1) (X.aB (X.var 2) (X.aB (X.var 3) X.aH)))))) X.aH))) (XS.seq (XS.assign (X.var 6) (XA.item (X.attr 0 19 (X.var 0)) (X.var 4))) (XS.seq (XS.assign (X.pure (.bool true)) (XA.item (X.attr 0 15 (X.var 0)) (X.var 4))) (XS.seq (XS.ret (X.pure (.bool true))) XS.nil))))))))
noncomputable def jW : FF := eM 4 3 sE
noncomputable def qJ : XS := XS.seq (XS.ret (X.cS 0 26 jW (X.var 0) (X.aB (X.var 1) (X.aB (X.call (bW gS) (X.aB (X.var 2) X.aH)) (X.aB (X.attr 0 14 (X.var 0)) X.aH))))) XS.nil
noncomputable def gW : FF := eM 3 0 qJ
noncomputable def qK : XS := XS.seq (XS.ret (X.cS 0 26 jW (X.var 0) (X.aB (X.var 1) (X.aB (X.pure .none) (X.aB (X.neg (X.pure (.int 1))) X.aH))))) XS.nil
noncomputable def jB : FF := eM 2 0 qK
noncomputable def u7 : XS := XS.seq (XS.drop (X.eY eB (X.attr 0 16 (X.var 0)) (X.aB (X.call (bW gJ) (X.aB (X.attr 0 17 (X.var 0)) X.aH)) X.aH))) XS.nil
noncomputable def lA : FF := eM 1 0 u7
noncomputable def w7 : XS := XS.seq (XS.ite (X.test (X.bin oLt (X.var 1) (X.pure (.int 1)))) (XS.seq (XS.ret (X.pure .none)) XS.nil) XS.nil) (XS.seq (XS.assign (X.sub (X.attr 0 16 (X.var 0)) (X.bin rL (X.call (bW gJ) (X.aB (X.attr 0 16 (X.var 0)) X.aH)) (X.var 1))) (XA.name 2)) (XS.seq (XS.assign (X.slice (X.attr 0 16 (X.var 0)) none (some (X.bin rL (X.call (bW gJ) (X.aB (X.attr 0 16 (X.var 0)) X.aH)) (X.var 1)))) (XA.attr 0 16 (X.var 0))) (XS.seq (XS.jK (X.test (X.bin Kn (X.call (bW gJ) (X.aB (X.attr 0 17 (X.var 0)) X.aH)) (X.var 2))) (XS.seq (XS.assign (X.eY Ff (X.attr 0 17 (X.var 0)) X.aH) (XA.name 3)) (XS.seq (XS.assign (X.sub (X.var 3) (X.pure (.int 1))) (XA.item (X.attr 0 19 (X.var 0)) (X.sub (X.var 3) (X.pure (.int 0))))) XS.nil)) 1000) (XS.seq (XS.assign X.oX (XA.attr 0 15 (X.var 0))) (XS.seq (XS.assign (X.bin oIn (X.eH X.aH) (X.attr 0 18 (X.var 0))) (XA.attr 0 13 (X.var 0))) (XS.seq (XS.assign (X.eH X.aH) (XA.attr 0 12 (X.var 0))) XS.nil))))))
noncomputable def mU : FF := eM 2 2 w7
noncomputable def mQ : XS := XS.seq (XS.assign (X.neg (X.pure (.int 1))) (XA.attr 2 32 (X.var 0))) (XS.seq (XS.assign (X.call (bW gS) (X.aB (X.var 1) X.aH)) (XA.attr 2 31 (X.var 0))) (XS.seq (XS.assign (X.var 2) (XA.attr 2 30 (X.var 0))) XS.nil))
noncomputable def jC : FF := eM 3 0 mQ
noncomputable def bX : FF := Iz 2 99 jC
noncomputable def o8 : XS := XS.seq (XS.assign (X.fZ [3] (X.var 2) (XA.name 3) none (X.call qO (X.aB (X.cS 0 36 kD (X.var 1) (X.aB (X.var 3) X.aH)) X.aH)) 1000) (XA.attr 1 37 (X.var 0))) (XS.seq (XS.assign (X.bin xK (X.hY (X.aB (X.pure .none) X.aH)) (X.call (bW gJ) (X.aB (X.var 2) X.aH))) (XA.attr 1 34 (X.var 0))) (XS.seq (XS.assign X.oX (XA.attr 1 33 (X.var 0))) XS.nil))
noncomputable def iL : FF := eM 3 1 o8
noncomputable def l9 : XS := XS.seq (XS.jK (X.test (X.bin i3 (X.var 1) (X.pure .none))) (XS.seq (XS.assign (X.sub (X.var 2) (X.var 1)) (XA.name 3)) (XS.seq (XS.assign (X.sub (X.attr 1 34 (X.var 0)) (X.var 3)) (XA.name 4)) (XS.seq (XS.assign (X.var 1) (XA.item (X.attr 1 34 (X.var 0)) (X.var 3))) (XS.seq (XS.assign (X.var 3) (XA.item (X.attr 1 33 (X.var 0)) (X.var 1))) (XS.seq (XS.assign (X.var 4) (XA.name 1)) XS.nil))))) 1000) XS.nil
noncomputable def fV : FF := eM 3 2 l9
noncomputable def o7 : XS := XS.seq (XS.assign (X.eH (X.aB X.oX (X.aB (X.hY (X.aB (X.var 1) X.aH)) (X.aB (X.pure (.int 0)) X.aH)))) (XA.swap [(2, 40), (3, 41), (4, 4)])) (XS.seq (XS.jK (X.test (X.bin oLt (X.var 4) (X.call (bW gJ) (X.aB (X.var 3) X.aH)))) (XS.seq (XS.for (X.sub (X.attr 1 37 (X.var 0)) (X.sub (X.var 3) (X.var 4))) (XA.name 5) (XS.seq (XS.ite (X.test (X.bin dH (X.var 5) (X.var 2))) (XS.seq (XS.assign (X.sub (X.var 3) (X.var 4)) (XA.item (X.var 2) (X.var 5))) (XS.seq (XS.ite (X.test (X.bin dH (X.var 5) (X.attr 1 33 (X.var 0)))) (XS.seq (XS.drop (X.cS 1 42 fV (X.var 0) (X.aB (X.var 5) (X.aB (X.var 2) X.aH)))) (XS.seq (XS.ret (X.pure .none)) XS.nil)) XS.nil) (XS.seq (XS.drop (X.eY eB (X.var 3) (X.aB (X.sub (X.attr 1 33 (X.var 0)) (X.var 5)) X.aH))) XS.nil))) XS.nil) XS.nil) 1000) (XS.seq (XS.assign (X.bin eJ (X.var 4) (X.pure (.int 1))) (XA.name 4)) XS.nil)) 1000) (XS.seq (XS.ret (X.eH (X.aB (X.var 3) (X.aB (X.call (bW mN) (X.aB (X.var 2) X.aH)) X.aH)))) XS.nil))
noncomputable def iK : FF := eM 2 4 o7
noncomputable def i7 : XS := XS.seq (XS.assign (X.eH (X.aB (X.hY X.aH) (X.aB (X.DV (X.lM (X.var 1) (X.pure (.bool true)) X.Hx)) (X.aB (X.hY (X.aB (X.var 1) X.aH)) X.aH)))) (XA.swap [(2, 41), (3, 44), (4, 45)])) (XS.seq (XS.jK (X.test (X.bin iF (X.var 4) (X.hY X.aH))) (XS.seq (XS.assign (X.eY Ff (X.var 4) X.aH) (XA.name 5)) (XS.seq (XS.ite (X.test (X.bin dH (X.var 5) (X.attr 1 33 (X.var 0)))) (XS.seq (XS.ret (X.pure .none)) XS.nil) XS.nil) (XS.seq (XS.drop (X.eY eB (X.var 2) (X.aB (X.sub (X.attr 1 33 (X.var 0)) (X.var 5)) X.aH))) (XS.seq (XS.for (X.sub (X.attr 1 37 (X.var 0)) (X.sub (X.attr 1 33 (X.var 0)) (X.var 5))) (XA.name 6) (XS.seq (XS.ite (X.test (X.bin dH (X.var 6) (X.var 3))) (XS.seq (XS.assign (X.pure (.bool true)) (XA.item (X.var 3) (X.var 6))) (XS.seq (XS.drop (X.eY eB (X.var 4) (X.aB (X.var 6) X.aH))) XS.nil)) XS.nil) XS.nil) 1000) XS.nil)))) 1000) (XS.seq (XS.ret (X.eH (X.aB (X.var 2) (X.aB (X.call (bW mN) (X.aB (X.var 3) X.aH)) X.aH)))) XS.nil))
noncomputable def dJ : FF := eM 2 5 i7
noncomputable def hU : XS := XS.seq (XS.ret (X.eH (X.aB (X.pure (.str 48)) (X.aB (X.attr 2 31 (X.var 0)) (X.aB (X.attr 2 30 (X.var 0)) X.aH))))) XS.nil
noncomputable def dN : FF := eM 1 0 hU
noncomputable def gV : XS := XS.seq (XS.ret (X.bin oEq (X.call (bW gJ) (X.aB (X.F1 [2] (X.var 1) (XA.name 2) none (X.var 2) (X.pure (.bool true)) 1000) X.aH)) (X.call (bW gJ) (X.aB (X.var 1) X.aH)))) XS.nil
noncomputable def cV : FF := eM 2 1 gV
noncomputable def gU : XS := XS.seq (XS.assign (X.hY X.aH) (XA.name 4)) (XS.seq (XS.for (X.var 2) (XA.name 5) (XS.seq (XS.assign (X.sub (X.attr 2 31 (X.var 0)) (X.var 5)) (XA.name 6)) (XS.seq (XS.drop (X.eY uK (X.var 4) (X.aB (X.hY (X.aB (X.eH (X.aB (X.var 6) (X.aB (X.pure (.str 8)) (X.aB (X.sub (X.var 3) (X.pure (.int 0))) X.aH)))) (X.aB (X.eH (X.aB (X.var 6) (X.aB (X.pure (.str 9)) (X.aB (X.sub (X.var 3) (X.neg (X.pure (.int 1)))) X.aH)))) X.aH))) X.aH))) (XS.seq (XS.for (X.call qO (X.aB (X.cS 0 49 kN (X.var 1) (X.aB (X.var 6) X.aH)) X.aH)) (XA.name 7) (XS.seq (XS.ite (X.iW (X.qE oLt oLt (X.sub (X.var 3) (X.pure (.int 0))) (X.var 7) (X.sub (X.var 3) (X.neg (X.pure (.int 1))))) (X.iW (X.test (X.bin dH (X.var 7) (X.var 3))) X.v5)) (XS.seq (XS.drop (X.eY eB (X.var 4) (X.aB (X.eH (X.aB (X.var 6) (X.aB (X.pure (.str 51)) (X.aB (X.var 7) X.aH)))) X.aH))) XS.nil) XS.nil) XS.nil) 1000) XS.nil))) 1000) (XS.seq (XS.ret (X.call (bW gS) (X.aB (X.var 4) X.aH))) XS.nil))
noncomputable def bU : FF := eM 4 4 gU
noncomputable def fK : XS := XS.seq (XS.ite (X.test (X.attr 0 13 (X.var 1))) (XS.seq (XS.ret (X.pure (.bool false))) XS.nil) XS.nil) (XS.seq (XS.ite (X.n8 (X.test (X.cS 2 59 cV (X.var 0) (X.aB (X.attr 2 31 (X.var 0)) X.aH)))) (XS.seq (XS.ret (X.cS 0 22 hJ (X.var 1) (X.aB (X.eH X.aH) X.aH))) XS.nil) XS.nil) (XS.seq (XS.assign (X.call (fNew 1 iL) (X.aB (X.var 1) (X.aB (X.attr 2 31 (X.var 0)) X.aH))) (XA.name 2)) (XS.seq (XS.for (X.call (bW cU) (X.aB (X.call (bW gJ) (X.aB (X.attr 2 31 (X.var 0)) X.aH)) X.aH)) (XA.name 3) (XS.seq (XS.assign (X.cS 1 58 iK (X.var 2) (X.aB (X.var 3) X.aH)) (XA.name 4)) (XS.seq (XS.ite (X.test (X.bin i3 (X.var 4) (X.pure .none))) (XS.seq (XS.ret (X.cS 0 22 hJ (X.var 1) (X.aB (X.cS 2 55 bU (X.var 0) (X.aB (X.var 1) (X.aB (X.sub (X.var 4) (X.pure (.int 0))) (X.aB (X.sub (X.var 4) (X.pure (.int 1))) X.aH)))) X.aH))) XS.nil) XS.nil) XS.nil)) 1000) (XS.seq (XS.assign X.oX (XA.name 5)) (XS.seq (XS.for (X.call (bW cU) (X.aB (X.call (bW gJ) (X.aB (X.attr 2 31 (X.var 0)) X.aH)) X.aH)) (XA.name 3) (XS.seq (XS.for (X.sub (X.attr 1 37 (X.var 2)) (X.var 3)) (XA.name 6) (XS.seq (XS.ite (X.test (X.bin dH (X.var 6) (X.var 5))) (XS.seq (XS.assign (X.cS 1 56 dJ (X.var 2) (X.aB (X.var 6) X.aH)) (XA.item (X.var 5) (X.var 6))) XS.nil) XS.nil) (XS.seq (XS.ite (X.iW (X.test (X.bin i3 (X.sub (X.var 5) (X.var 6)) (X.pure .none))) (X.iW (X.test (X.bin dH (X.var 3) (X.sub (X.sub (X.var 5) (X.var 6)) (X.pure (.int 0))))) X.v5)) (XS.seq (XS.assign (X.cS 2 55 bU (X.var 0) (X.aB (X.var 1) (X.aB (X.sub (X.sub (X.var 5) (X.var 6)) (X.pure (.int 0))) (X.aB (X.sub (X.sub (X.var 5) (X.var 6)) (X.pure (.int 1))) X.aH)))) (XA.name 7)) (XS.seq (XS.ite (X.n8 (X.test (X.cS 0 54 gW (X.var 1) (X.aB (X.eH (X.aB (X.sub (X.attr 2 31 (X.var 0)) (X.var 3)) (X.aB (X.pure (.str 51)) (X.aB (X.var 6) X.aH)))) (X.aB (X.var 7) X.aH))))) (XS.seq (XS.ret (X.pure (.bool false))) XS.nil) XS.nil) XS.nil)) XS.nil) XS.nil)) 1000) XS.nil) 1000) (XS.seq (XS.ret (X.pure (.bool true))) XS.nil))))))
noncomputable def bS : FF := eM 2 6 fK
noncomputable def wZ : XS := XS.seq (XS.assign (X.sub (X.var 0) (X.pure (.str 63))) (XA.name 2)) (XS.seq (XS.assign (X.bin eJ (X.var 2) (X.pure (.int 1))) (XA.item (X.var 0) (X.pure (.str 63)))) (XS.seq (XS.ite (X.test (X.bin oLt (X.var 2) (X.call (bW gJ) (X.aB (X.sub (X.var 0) (X.pure (.str 64))) X.aH)))) (XS.seq (XS.ret (X.bin oMod (X.sub (X.sub (X.var 0) (X.pure (.str 64))) (X.var 2)) (X.var 1))) XS.nil) XS.nil) (XS.seq (XS.assign (X.bin oMod (X.bin eJ (X.bin xK (X.sub (X.var 0) (X.pure (.str 61))) (X.pure (.int 7919))) (X.pure (.int 4099))) (X.pure (.int 1000003))) (XA.item (X.var 0) (X.pure (.str 61)))) (XS.seq (XS.ret (X.bin oMod (X.bin cH (X.sub (X.var 0) (X.pure (.str 61))) (X.pure (.int 8))) (X.var 1))) XS.nil))))
noncomputable def b9 : FF := eM 2 1 wZ
noncomputable def u5 : XS := XS.seq (XS.ret (X.call (bW Fc) (X.aB (X.fZ [1] (X.call (bW cU) (X.aB (X.pure (.int 5)) X.aH)) (XA.name 1) none (X.bin oMod (X.bin cH (X.var 0) (X.bin iT (X.pure (.int 2)) (X.var 1))) (X.pure (.int 2))) 1000) X.aH))) XS.nil
noncomputable def fU : FF := eM 1 1 u5
noncomputable def sD : XS := XS.seq (XS.assign (X.hY X.aH) (XA.name 2)) (XS.seq (XS.for (X.call (bW cU) (X.aB (X.pure (.int 5)) X.aH)) (XA.name 3) (XS.seq (XS.ite (X.iW (X.test (X.bin oEq (X.bin oMod (X.bin cH (X.var 0) (X.bin iT (X.pure (.int 2)) (X.var 3))) (X.pure (.int 2))) (X.pure (.int 1)))) (X.iW (X.test (X.bin oEq (X.bin oMod (X.bin cH (X.bin xK (X.var 0) (X.pure (.int 2))) (X.bin iT (X.pure (.int 2)) (X.var 3))) (X.pure (.int 2))) (X.pure (.int 1)))) X.v5)) (XS.seq (XS.assign (X.eH (X.aB (X.sub (X.sub (X.var 2) (X.neg (X.pure (.int 1)))) (X.pure (.int 0))) (X.aB (X.bin eJ (X.var 1) (X.var 3)) X.aH))) (XA.item (X.var 2) (X.neg (X.pure (.int 1))))) XS.nil) (XS.seq (XS.ite (X.test (X.bin oEq (X.bin oMod (X.bin cH (X.var 0) (X.bin iT (X.pure (.int 2)) (X.var 3))) (X.pure (.int 2))) (X.pure (.int 1)))) (XS.seq (XS.drop (X.eY eB (X.var 2) (X.aB (X.eH (X.aB (X.bin eJ (X.var 1) (X.var 3)) (X.aB (X.bin eJ (X.var 1) (X.var 3)) X.aH))) X.aH))) XS.nil) XS.nil) XS.nil)) XS.nil) 1000) (XS.seq (XS.ret (X.call (bW gS) (X.aB (X.var 2) X.aH))) XS.nil))
noncomputable def f6 : FF := eM 2 2 sD
noncomputable def AF : XS := XS.seq (XS.ret (X.call (bW Fc) (X.aB (X.CA [2, 3, 4] (X.var 0) (XA.tup [XA.name 2, XA.name 3]) none (X.call (sW oI) (X.aB (X.var 2) (X.aB (X.bin eJ (X.var 3) (X.pure (.int 1))) X.aH))) (XA.name 4) none (X.bin iT (X.pure (.int 2)) (X.bin rL (X.var 4) (X.var 1))) 1000) X.aH))) XS.nil
noncomputable def mG : FF := eM 2 3 AF
noncomputable def w5 : XS := XS.seq (XS.ret (X.fZ [2] (X.call (bW cU) (X.aB (X.cS 0 71 oS (X.var 0) X.aH) X.aH)) (XA.name 2) none (X.call mG (X.aB (X.cS 0 36 kD (X.var 0) (X.aB (X.var 2) X.aH)) (X.aB (X.var 1) X.aH))) 1000)) XS.nil
noncomputable def dZ : FF := eM 2 1 w5
noncomputable def w4 : XS := XS.seq (XS.assign (X.pure (.int 0)) (XA.name 3)) (XS.seq (XS.for (X.call (bW cU) (X.aB (X.pure (.int 5)) X.aH)) (XA.name 4) (XS.seq (XS.assign (X.eH (X.aB (X.bin eJ (X.var 2) (X.var 4)) (X.aB (X.sub (X.var 1) (X.pure (.int 2))) X.aH))) (XA.swap [(5, 5), (6, 73)])) (XS.seq (XS.assign (X.sub (X.wU (X.lM (X.pure (.str 9)) (X.bin oLe (X.var 5) (X.var 6)) (X.lM (X.pure (.str 8)) (X.bin oGe (X.var 5) (X.var 6)) (X.lM (X.pure (.str 7)) (X.bin oEq (X.var 5) (X.var 6)) (X.lM (X.pure (.str 51)) (X.bin iF (X.var 5) (X.var 6)) X.Hx))))) (X.sub (X.var 1) (X.pure (.int 1)))) (XA.name 7)) (XS.seq (XS.ite (X.iW (X.test (X.var 7)) (X.iW (X.test (X.bin oEq (X.bin oMod (X.bin cH (X.var 0) (X.bin iT (X.pure (.int 2)) (X.var 4))) (X.pure (.int 2))) (X.pure (.int 1)))) X.v5)) (XS.seq (XS.assign (X.bin eJ (X.var 3) (X.bin iT (X.pure (.int 2)) (X.var 4))) (XA.name 3)) XS.nil) XS.nil) XS.nil))) 1000) (XS.seq (XS.ret (X.var 3)) XS.nil))
noncomputable def fS : FF := eM 3 5 w4
noncomputable def qI : XS := XS.seq (XS.ite (X.test (X.bin oLt (X.sO (X.var 0)) (X.call (bW gJ) (X.aB (X.var 0) X.aH)))) (XS.seq (XS.ret (X.pure (.bool false))) XS.nil) XS.nil) (XS.seq (XS.for (X.call (sW oI) (X.aB (X.pure (.int 1)) (X.aB (X.bin iT (X.pure (.int 2)) (X.call (bW gJ) (X.aB (X.var 0) X.aH))) X.aH))) (XA.name 2) (XS.seq (XS.assign (X.eH (X.aB (X.pure (.int 0)) (X.aB (X.pure (.int 0)) X.aH))) (XA.tup [XA.name 3, XA.name 4])) (XS.seq (XS.jU (X.var 0) (XA.tup [XA.name 5, XA.name 6]) (XS.seq (XS.ite (X.test (X.bin oEq (X.bin oMod (X.bin cH (X.var 2) (X.bin iT (X.pure (.int 2)) (X.var 5))) (X.pure (.int 2))) (X.pure (.int 1)))) (XS.seq (XS.assign (X.eH (X.aB (X.bin Oc (X.var 3) (X.sub (X.var 1) (X.var 6))) (X.aB (X.bin eJ (X.var 4) (X.pure (.int 1))) X.aH))) (XA.swap [(3, 75), (4, 62)])) XS.nil) XS.nil) XS.nil) 1000) (XS.seq (XS.ite (X.test (X.bin oLt (X.call fU (X.aB (X.var 3) X.aH)) (X.var 4))) (XS.seq (XS.ret (X.pure (.bool false))) XS.nil) XS.nil) XS.nil))) 1000) (XS.seq (XS.ret (X.pure (.bool true))) XS.nil))
noncomputable def fM : FF := eM 2 5 qI
noncomputable def qH : XS := XS.seq (XS.assign (X.hY X.aH) (XA.name 2)) (XS.seq (XS.for (X.call (bW cU) (X.aB (X.call (bW gJ) (X.aB (X.var 1) X.aH)) X.aH)) (XA.name 3) (XS.seq (XS.assign (X.eH (X.aB (X.pure (.int 0)) (X.aB (X.fZ [8] (X.var 0) (XA.name 8) (some (X.test (X.bin iF (X.var 8) (X.var 3)))) (X.var 8) 1000) X.aH))) (XA.swap [(4, 65), (5, 78)])) (XS.seq (XS.for (X.call (bW cU) (X.aB (X.pure (.int 5)) X.aH)) (XA.name 6) (XS.seq (XS.ite (X.iW (X.test (X.bin oEq (X.bin oMod (X.bin cH (X.sub (X.var 1) (X.var 3)) (X.bin iT (X.pure (.int 2)) (X.var 6))) (X.pure (.int 2))) (X.pure (.int 1)))) (X.iW (X.test (X.call fM (X.aB (X.var 5) (X.aB (X.fZ [7] (X.var 1) (XA.name 7) none (X.bin JN (X.var 7) (X.bin rL (X.pure (.int 31)) (X.bin iT (X.pure (.int 2)) (X.var 6)))) 1000) X.aH)))) X.v5)) (XS.seq (XS.assign (X.bin eJ (X.var 4) (X.bin iT (X.pure (.int 2)) (X.var 6))) (XA.name 4)) XS.nil) XS.nil) XS.nil) 1000) (XS.seq (XS.drop (X.eY eB (X.var 2) (X.aB (X.var 4) X.aH))) XS.nil))) 1000) (XS.seq (XS.ret (X.var 2)) XS.nil))
noncomputable def mF : FF := eM 2 7 qH
noncomputable def w6 : XS := XS.seq (XS.assign (X.call (bW uH) (X.aB (X.var 1) X.aH)) (XA.name 4)) (XS.seq (XS.for (X.var 2) (XA.name 5) (XS.seq (XS.assign (X.call fS (X.aB (X.sub (X.var 4) (X.sub (X.var 5) (X.pure (.int 0)))) (X.aB (X.var 5) (X.aB (X.var 3) X.aH)))) (XA.item (X.var 4) (X.sub (X.var 5) (X.pure (.int 0))))) XS.nil) 1000) (XS.seq (XS.ret (X.Lo (X.call fM (X.aB (X.var 0) (X.aB (X.var 4) X.aH))))) XS.nil))
noncomputable def kC : FF := eM 4 2 w6
noncomputable def u4 : XS := XS.seq (XS.ret (X.call (bW Ir) (X.aB (X.fZ [3] (X.var 0) (XA.name 3) none (X.bin oEq (X.call fS (X.aB (X.sub (X.var 1) (X.sub (X.var 3) (X.pure (.int 0)))) (X.aB (X.var 3) (X.aB (X.var 2) X.aH)))) (X.sub (X.var 1) (X.sub (X.var 3) (X.pure (.int 0))))) 1000) X.aH))) XS.nil
noncomputable def jA : FF := eM 3 1 u4
noncomputable def jJ : XS := XS.seq (XS.for (X.slice (X.attr 0 17 (X.var 0)) (some (X.var 1)) none) (XA.tup [XA.name 6, XA.name 7, XA.name 8, XA.name 9, XA.name 10]) (XS.seq (XS.ite (X.pE (X.test (X.bin iF (X.call mG (X.aB (X.var 7) (X.aB (X.var 4) X.aH))) (X.sub (X.var 2) (X.var 6)))) (X.pE (X.n8 (X.test (X.call jA (X.aB (X.var 9) (X.aB (X.var 2) (X.aB (X.var 4) X.aH)))))) X.orZ)) (XS.seq (XS.ret (X.pure (.bool false))) XS.nil) XS.nil) (XS.seq (XS.assign (X.call fS (X.aB (X.sub (X.var 2) (X.var 6)) (X.aB (X.var 8) (X.aB (X.var 4) X.aH)))) (XA.name 11)) (XS.seq (XS.assign (X.call (bW uH) (X.aB (X.var 3) X.aH)) (XA.name 12)) (XS.seq (XS.assign (X.bin rL (X.sub (X.var 12) (X.var 6)) (X.call fS (X.aB (X.sub (X.var 12) (X.var 6)) (X.aB (X.var 8) (X.aB (X.var 4) X.aH))))) (XA.item (X.var 12) (X.var 6))) (XS.seq (XS.ite (X.n8 (X.test (X.call kC (X.aB (X.var 5) (X.aB (X.var 12) (X.aB (X.var 9) (X.aB (X.var 4) X.aH))))))) (XS.seq (XS.ret (X.pure (.bool false))) XS.nil) XS.nil) (XS.seq (XS.assign (X.bin eJ (X.bin eJ (X.slice (X.var 2) none (some (X.var 6))) (X.hY (X.aB (X.var 11) X.aH))) (X.slice (X.var 2) (some (X.bin eJ (X.var 6) (X.pure (.int 1)))) none)) (XA.name 2)) XS.nil)))))) 1000) (XS.seq (XS.ite (X.test (X.bin iF (X.var 2) (X.call dZ (X.aB (X.var 0) (X.aB (X.var 4) X.aH))))) (XS.seq (XS.ret (X.pure (.bool false))) XS.nil) XS.nil) (XS.seq (XS.ite (X.n8 (X.test (X.attr 0 13 (X.var 0)))) (XS.seq (XS.ret (X.pure (.bool true))) XS.nil) XS.nil) (XS.seq (XS.ret (X.Ke (X.call jA (X.aB (X.attr 0 12 (X.var 0)) (X.aB (X.var 2) (X.aB (X.var 4) X.aH)))) (X.call kC (X.aB (X.var 5) (X.aB (X.var 3) (X.aB (X.attr 0 12 (X.var 0)) (X.aB (X.var 4) X.aH))))))) XS.nil)))
noncomputable def gA : FF := eM 6 7 jJ
noncomputable def o4 : XS := XS.seq (XS.assign (X.eH (X.aB (X.call dZ (X.aB (X.var 0) (X.aB (X.var 3) X.aH))) (X.aB (X.call (bW gJ) (X.aB (X.attr 0 17 (X.var 0)) X.aH)) X.aH))) (XA.swap [(5, 76), (6, 27)])) (XS.seq (XS.assign (X.call (fNew 0 g9) X.aH) (XA.name 7)) (XS.seq (XS.for (X.var 5) (XA.name 8) (XS.seq (XS.drop (X.cS 0 89 eR (X.var 7) (X.aB (X.call f6 (X.aB (X.var 8) (X.aB (X.var 3) X.aH))) X.aH))) XS.nil) 1000) (XS.seq (XS.assign (X.call fM (X.aB (X.var 4) (X.aB (X.var 5) X.aH))) (XA.name 9)) (XS.seq (XS.ite (X.pE (X.test (X.bin i3 (X.cS 2 86 bS (X.var 1) (X.aB (X.var 0) X.aH)) (X.var 9))) (X.pE (X.test (X.bin i3 (X.cS 2 86 bS (X.call (fNew 2 bX) (X.aB (X.var 4) X.aH)) (X.aB (X.var 7) X.aH)) (X.var 9))) X.orZ)) (XS.seq (XS.ret (X.pure (.bool false))) XS.nil) XS.nil) (XS.seq (XS.ite (X.pE (X.test (X.bin NQ (X.attr 0 13 (X.var 0)) (X.var 9))) (X.pE (X.n8 (X.test (X.call gA (X.aB (X.var 0) (X.aB (X.var 6) (X.aB (X.var 5) (X.aB (X.var 2) (X.aB (X.var 3) (X.aB (X.var 4) X.aH))))))))) X.orZ)) (XS.seq (XS.ret (X.pure (.bool false))) XS.nil) XS.nil) (XS.seq (XS.ite (X.n8 (X.test (X.var 9))) (XS.seq (XS.ret (X.pure (.bool true))) XS.nil) XS.nil) (XS.seq (XS.assign (X.call dZ (X.aB (X.var 0) (X.aB (X.var 3) X.aH))) (XA.name 10)) (XS.seq (XS.ite (X.pE (X.test (X.bin iF (X.var 10) (X.call mF (X.aB (X.var 4) (X.aB (X.var 5) X.aH))))) (X.pE (X.test (X.bin iF (X.call dZ (X.aB (X.var 7) (X.aB (X.var 3) X.aH))) (X.var 10))) X.orZ)) (XS.seq (XS.ret (X.pure (.bool false))) XS.nil) XS.nil) (XS.seq (XS.assign (X.call (bW gJ) (X.aB (X.attr 0 17 (X.var 0)) X.aH)) (XA.name 6)) (XS.seq (XS.ret (X.Ke (X.cS 2 86 bS (X.var 1) (X.aB (X.var 0) X.aH)) (X.bin oEq (X.call (bW gJ) (X.aB (X.attr 0 17 (X.var 0)) X.aH)) (X.var 6)))) XS.nil))))))))))
noncomputable def d5 : FF := eM 5 6 o4
noncomputable def mP : XS := XS.seq (XS.ret (X.bin oEq (X.CA [1, 2] (X.call (bW cU) (X.aB (X.call (bW gJ) (X.aB (X.var 0) X.aH)) X.aH)) (XA.name 1) none (X.call (bW cU) (X.aB (X.var 1) X.aH)) (XA.name 2) (some (X.test (X.bin oEq (X.sub (X.var 0) (X.var 2)) (X.sub (X.var 0) (X.var 1))))) (X.var 2) 1000) (X.hY X.aH))) XS.nil
noncomputable def gH : FF := eM 1 2 mP
noncomputable def K0 : XS := XS.seq (XS.assign (X.fZ [22] (X.slice (X.var 0) none (some (X.pure (.int 30)))) (XA.name 22) none (X.bin oMod (X.call (bW LT) (X.aB (X.var 22) X.aH)) (X.pure (.int 1000003))) 1000) (XA.name 1)) (XS.seq (XS.assign (X.wU (X.lM (X.pure (.str 64)) (X.var 1) (X.lM (X.pure (.str 63)) (X.pure (.int 0)) (X.lM (X.pure (.str 61)) (X.bin eJ (X.pure (.int 17)) (X.bin oMod (X.call (bW Fc) (X.aB (X.var 1) X.aH)) (X.pure (.int 1000003)))) X.Hx)))) (XA.name 2)) (XS.seq (XS.assign (X.eH (X.aB (X.bin eJ (X.pure (.int 3)) (X.call b9 (X.aB (X.var 2) (X.aB (X.pure (.int 2)) X.aH)))) (X.aB (X.bin rL (X.call b9 (X.aB (X.var 2) (X.aB (X.pure (.int 5)) X.aH))) (X.pure (.int 2))) X.aH))) (XA.tup [XA.name 3, XA.name 4])) (XS.seq (XS.assign (X.fZ [21] (X.call (bW cU) (X.aB (X.var 3) X.aH)) (XA.name 21) none (X.bin eJ (X.pure (.int 1)) (X.call b9 (X.aB (X.var 2) (X.aB (X.pure (.int 31)) X.aH)))) 1000) (XA.name 5)) (XS.seq (XS.assign (X.call b9 (X.aB (X.var 2) (X.aB (X.var 3) X.aH))) (XA.name 6)) (XS.seq (XS.assign (X.bin eJ (X.call (bW gS) (X.aB (X.call (sW oI) (X.aB (X.var 6) (X.aB (X.var 3) X.aH))) X.aH)) (X.call (bW gS) (X.aB (X.call (bW cU) (X.aB (X.var 6) X.aH)) X.aH))) (XA.name 7)) (XS.seq (XS.ite (X.test (X.bin oEq (X.call b9 (X.aB (X.var 2) (X.aB (X.pure (.int 14)) X.aH))) (X.pure (.int 13)))) (XS.seq (XS.assign (X.bin eJ (X.var 7) (X.slice (X.var 7) none (some (X.pure (.int 1))))) (XA.name 7)) XS.nil) XS.nil) (XS.seq (XS.assign (X.eH (X.aB (X.call (fNew 0 g9) X.aH) (X.aB (X.call (fNew 2 bX) (X.aB (X.var 7) X.aH)) X.aH))) (XA.swap [(8, 70), (9, 85)])) (XS.seq (XS.for (X.var 5) (XA.name 10) (XS.seq (XS.drop (X.cS 0 89 eR (X.var 8) (X.aB (X.call f6 (X.aB (X.var 10) (X.aB (X.var 4) X.aH))) X.aH))) XS.nil) 1000) (XS.seq (XS.assign (X.call (bW gS) (X.aB (X.fZ [20] (X.var 7) (XA.name 20) none (X.call b9 (X.aB (X.var 2) (X.aB (X.pure (.int 4)) X.aH))) 1000) X.aH)) (XA.name 11)) (XS.seq (XS.ite (X.pE (X.test (X.bin i3 (X.cS 2 59 cV (X.var 9) (X.aB (X.var 11) X.aH)) (X.call gH (X.aB (X.var 11) X.aH)))) (X.pE (X.test (X.bin iF (X.attr 2 31 (X.var 9)) (X.var 7))) X.orZ)) (XS.seq (XS.ret (X.pure (.bool false))) XS.nil) XS.nil) (XS.seq (XS.ite (X.pE (X.test (X.bin iF (X.cS 2 98 dN (X.var 9) X.aH) (X.eH (X.aB (X.pure (.str 48)) (X.aB (X.var 7) (X.aB (X.pure (.str 99)) X.aH)))))) (X.pE (X.n8 (X.test (X.call d5 (X.aB (X.var 8) (X.aB (X.var 9) (X.aB (X.var 5) (X.aB (X.var 4) (X.aB (X.var 7) X.aH)))))))) X.orZ)) (XS.seq (XS.ret (X.pure (.bool false))) XS.nil) XS.nil) (XS.seq (XS.assign (X.hY X.aH) (XA.name 12)) (XS.seq (XS.for (X.call (bW cU) (X.aB (X.bin rL (X.pure (.int 6)) (X.var 3)) X.aH)) (XA.name 13) (XS.seq (XS.assign (X.call dZ (X.aB (X.var 8) (X.aB (X.var 4) X.aH))) (XA.name 14)) (XS.seq (XS.assign (X.fZ [19] (X.call (bW cU) (X.aB (X.var 3) X.aH)) (XA.name 19) (some (X.test (X.bin Kn (X.call fU (X.aB (X.sub (X.var 14) (X.var 19)) X.aH)) (X.pure (.int 1))))) (X.var 19) 1000) (XA.name 15)) (XS.seq (XS.ite (X.iW (X.test (X.bin iF (X.var 12) (X.hY X.aH))) (X.iW (X.pE (X.test (X.attr 0 13 (X.var 8))) (X.pE (X.test (X.bin oEq (X.var 15) (X.hY X.aH))) (X.pE (X.test (X.bin oEq (X.call b9 (X.aB (X.var 2) (X.aB (X.pure (.int 3)) X.aH))) (X.pure (.int 0)))) X.orZ))) X.v5)) (XS.seq (XS.drop (X.cS 0 95 mU (X.var 8) (X.aB (X.pure (.int 1)) X.aH))) (XS.seq (XS.ite (X.pE (X.test (X.attr 0 13 (X.var 8))) (X.pE (X.test (X.bin iF (X.call dZ (X.aB (X.var 8) (X.aB (X.var 4) X.aH))) (X.eY Ff (X.var 12) X.aH))) X.orZ)) (XS.seq (XS.ret (X.pure (.bool false))) XS.nil) XS.nil) XS.nil)) (XS.seq (XS.ite (X.pE (X.test (X.attr 0 13 (X.var 8))) (X.pE (X.test (X.bin oEq (X.var 15) (X.hY X.aH))) X.orZ)) (XS.seq (XS.ret (X.pure (.bool true))) XS.nil) (XS.seq (XS.assign (X.sub (X.var 15) (X.call b9 (X.aB (X.var 2) (X.aB (X.call (bW gJ) (X.aB (X.var 15) X.aH)) X.aH)))) (XA.name 16)) (XS.seq (XS.assign (X.fZ [18] (X.call (bW cU) (X.aB (X.pure (.int 5)) X.aH)) (XA.name 18) (some (X.test (X.bin oEq (X.bin oMod (X.bin cH (X.sub (X.var 14) (X.var 16)) (X.bin iT (X.pure (.int 2)) (X.var 18))) (X.pure (.int 2))) (X.pure (.int 1))))) (X.bin eJ (X.var 4) (X.var 18)) 1000) (XA.name 17)) (XS.seq (XS.drop (X.eY eB (X.var 12) (X.aB (X.var 14) X.aH))) (XS.seq (XS.drop (X.cS 0 97 lA (X.var 8) X.aH)) (XS.seq (XS.ite (X.n8 (X.test (X.cS 0 96 jB (X.var 8) (X.aB (X.eH (X.aB (X.var 16) (X.aB (X.pure (.str 51)) (X.aB (X.sub (X.var 17) (X.call b9 (X.aB (X.var 2) (X.aB (X.call (bW gJ) (X.aB (X.var 17) X.aH)) X.aH)))) X.aH)))) X.aH)))) (XS.seq (XS.ret (X.pure (.bool false))) XS.nil) XS.nil) XS.nil)))))) XS.nil)) (XS.seq (XS.ite (X.n8 (X.test (X.call d5 (X.aB (X.var 8) (X.aB (X.var 9) (X.aB (X.var 5) (X.aB (X.var 4) (X.aB (X.var 7) X.aH)))))))) (XS.seq (XS.ret (X.pure (.bool false))) XS.nil) XS.nil) XS.nil)))) 1000) (XS.seq (XS.ret (X.pure (.bool true))) XS.nil))))))))))))))
noncomputable def Em : FF := eM 1 22 K0
end Mine
end
section
open PySem
namespace Mine
theorem F0 {a b : Int} : yG (.int a) (.int b) = (a == b) := rfl
theorem eqV_tup {a b : List V} : yG (.tup a) (.tup b) = pC a b := rfl
theorem eqVs_nn : pC [] [] = true := rfl
theorem eqVs_nc {x : V} {l : List V} : pC [] (x :: l) = false := rfl
theorem eqVs_cn {x : V} {l : List V} : pC (x :: l) [] = false := rfl
theorem eqVs_cc {x y : V} {l m : List V} : pC (x :: l) (y :: m) = (yG x y && pC l m) := rfl
theorem xX {k : Nat} {i : Int} : okV k (.int i) = true := by cases k <;> rfl
theorem okV_tup {k : Nat} {l : List V} : okV (k + 1) (.tup l) = l.all (okV k) := rfl
theorem DP {σ : St} {i : Nat} : flat σ (.obj i) = (getL σ i).map fun l => (true, .tup l) := rfl
theorem flat_tup {σ : St} {l : List V} : flat σ (.tup l) = some (false, .tup l) := rfl
theorem Cq {σ : St} {i j : Nat} {l m : List V} (h : getL σ i = some l) (h' : getL σ j = some m) : iF (.obj i) (.obj j) σ = if l.length ≠ m.length ∧ l.length ≤ 100000 ∧ m.length ≤ 100000 then some (.bool true, σ) else oNe (.obj i) (.obj j) σ := by
 unfold iF
 dsimp only
 rw [h, h']
theorem IJ {σ : St} {l m : List V} (hl : okV 6 (.tup l) = true) (hm : okV 6 (.tup m) = true) : KW (.tup l) (.tup m) σ = some (yG (.tup l) (.tup m)) := by
 show (if (okV 6 (.tup l) && okV 6 (.tup m)) = true then some (false == false && yG (.tup l) (.tup m)) else none) = _
 rw [hl, hm]; rfl
theorem CM {σ : St} {i j : Nat} {l m : List V} (h : getL σ i = some l) (h' : getL σ j = some m) (hl : l.all (okV 5) = true) (hm : m.all (okV 5) = true) : KW (.obj i) (.obj j) σ = some (pC l m) := by
 have e1 : flat σ (.obj i) = some (true, .tup l) := by rw [DP, h]; rfl
 have e2 : flat σ (.obj j) = some (true, .tup m) := by rw [DP, h']; rfl
 unfold KW
 rw [e1, e2]
 show (if (l.all (okV 5) && m.all (okV 5)) = true then some (true == true && pC l m) else none) = _
 rw [hl, hm]; rfl
noncomputable def wp {α : Type} (r : Option (α × St)) (Q : α → St → Prop) : Prop := E2 fun a σ => r = some (a, σ) ∧ Q a σ
noncomputable def xp {α : Type} (f : X α) (ρ : Loc) (σ : St) (Q : α → St → Prop) : Prop := wp (f ρ σ) Q
noncomputable def sp (g : XS) (ρ : Loc) (σ : St) (Q : Fl → Loc → St → Prop) : Prop := E3 fun fl cI σ' => g ρ σ = some (fl, cI, σ') ∧ Q fl cI σ'
noncomputable def ap (a : XA) (v : V) (ρ : Loc) (σ : St) (Q : Loc → St → Prop) : Prop := E2 fun cI σ' => a v ρ σ = some (cI, σ') ∧ Q cI σ'
section
variable {α β : Type} {ρ : Loc} {σ : St} {Q : α → St → Prop}
theorem wp_some {a : α} : wp (some (a, σ)) Q ↔ Q a σ := ⟨fun ⟨_, _, e, q⟩ => by cases e; exact q, fun q => ⟨_, _, rfl, q⟩⟩
theorem wp_mono {r : Option (α × St)} {Q Q' : α → St → Prop} (h : wp r Q) (hq : ∀ a σ, Q a σ → Q' a σ) : wp r Q' := let ⟨a, s, e, q⟩ := h; ⟨a, s, e, hq _ _ q⟩
end
section
variable {ρ : Loc} {σ : St} {Q : Fl → Loc → St → Prop}
noncomputable def nx (Q : Fl → Loc → St → Prop) (N : Loc → St → Prop) : Fl → Loc → St → Prop := fun fl ρ σ => match fl with
 | .next => N ρ σ
 | fl => Q fl ρ σ
theorem Hl : sp XS.nil ρ σ Q ↔ Q .next ρ σ := ⟨fun ⟨_, _, _, e, q⟩ => by cases e; exact q, fun q => ⟨_, _, _, rfl, q⟩⟩
theorem iZ {f g : XS} : sp (XS.seq f g) ρ σ Q ↔ sp f ρ σ (nx Q fun cI σ' => sp g cI σ' Q) := by
 unfold sp XS.seq
 constructor
 ·rintro ⟨fl, r, s, e, q⟩
  split at e
  ·rename_i r1 s1 h
   exact ⟨_, _, _, h, fl, r, s, e, q⟩
  ·rename_i h
   refine ⟨fl, r, s, e, ?_⟩
   cases fl with
   | next => exact absurd e (h _ _)
   | ret v => exact q
 ·rintro ⟨fl, r, s, e, q⟩
  cases fl with
  | next => rw [e]; exact q
  | ret v => rw [e]; exact ⟨_, _, _, rfl, q⟩
theorem Lb {f : X V} : sp (XS.ret f) ρ σ Q ↔ xp f ρ σ fun v σ' => Q (.ret v) ρ σ' := by
 unfold sp XS.ret xp wp
 constructor
 ·rintro ⟨fl, r, s, e, q⟩
  split at e
  ·rename_i h; cases e; exact ⟨_, _, h, q⟩
  ·cases e
 ·rintro ⟨a, s, e, q⟩
  rw [e]; exact ⟨_, _, _, rfl, q⟩
theorem Ce {f : X Bool} {g h : XS} : sp (XS.ite f g h) ρ σ Q ↔ xp f ρ σ fun b σ' => if b = true then sp g ρ σ' Q else sp h ρ σ' Q := by
 unfold sp XS.ite xp wp
 constructor
 ·rintro ⟨fl, r, s, e, q⟩
  split at e
  ·rename_i s' h; exact ⟨_, _, h, by dsimp only; rw [if_pos rfl]; exact ⟨_, _, _, e, q⟩⟩
  ·rename_i s' h; exact ⟨_, _, h, by dsimp only; rw [if_neg (by simp)]; exact ⟨_, _, _, e, q⟩⟩
  ·cases e
 ·rintro ⟨a, s, e, q⟩
  rw [e]
  cases a
  ·rw [if_neg (by simp)] at q; exact q
  ·rw [if_pos rfl] at q; exact q
theorem Jt {f : X V} : sp (XS.drop f) ρ σ Q ↔ xp f ρ σ fun v σ' => XS.isRef v = false ∧ Q .next ρ σ' := by
 unfold sp XS.drop xp wp
 constructor
 ·rintro ⟨fl, r, s, e, q⟩
  split at e
  ·rename_i v s' h
   split at e
   ·cases e
   ·rename_i hr; cases e; exact ⟨_, _, h, by simpa using hr, q⟩
  ·cases e
 ·rintro ⟨a, s, e, h, q⟩
  rw [e]; dsimp only; rw [h]; exact ⟨_, _, _, rfl, q⟩
theorem Gp {f : X V} {a : XA} : sp (XS.assign f a) ρ σ Q ↔ xp f ρ σ fun v aT => ap a v ρ aT fun oT bH => Q .next oT bH := by
 unfold sp XS.assign xp wp ap
 constructor
 ·rintro ⟨fl, r, s, e, q⟩
  split at e
  ·rename_i v s' h
   split at e
   ·rename_i r2 s2 h2; cases e; exact ⟨_, _, h, _, _, h2, q⟩
   ·cases e
  ·cases e
 ·rintro ⟨v, s, e, r2, s2, e2, q⟩
  rw [e]; dsimp only; rw [e2]; exact ⟨_, _, _, rfl, q⟩
variable {P : Loc → St → Prop} {v : V}
theorem Fw {get : St → Nat → Option (Option V)} {a : XA} {g : XS} {l : List V} (I : Nat → Loc → St → Prop) (LI : ∀ k ρ σ, I k ρ σ → k ≤ l.length → get σ k = some l[k]?)
  (step : ∀ k x ρ σ, l[k]? = some x → I k ρ σ → ap a x ρ σ fun B6 aT => sp g B6 aT (nx Q (I (k + 1)))) (done : ∀ ρ σ, I l.length ρ σ → Q .next ρ σ) :
  ∀ (fuel k : Nat) (ρ : Loc) (σ : St), I k ρ σ → k ≤ l.length → l.length - k < fuel → sp (XS.uI get a g fuel k) ρ σ Q := by
 intro fuel
 induction fuel with
 | zero => intro k ρ σ _ _ h; exact (Nat.not_lt_zero _ h).elim
 | succ fuel ih =>
  intro k ρ σ hI hk hf
  have hs := LI k ρ σ hI hk
  by_cases hlt : k < l.length
  ·have hx : l[k]? = some l[k] := List.getElem?_eq_getElem hlt
   obtain ⟨r1, s1, e1, fl, r2, s2, e2, q⟩ := step k _ ρ σ hx hI
   cases fl with
   | next =>
    obtain ⟨fl, r3, s3, e3, q3⟩ := ih (k + 1) r2 s2 q hlt (Nat.lt_of_lt_of_le (Nat.sub_succ_lt_self _ _ hlt) (Nat.le_of_lt_succ hf))
    refine ⟨fl, r3, s3, ?_, q3⟩
    unfold XS.uI
    rw [hs, hx]; dsimp only; rw [e1]; dsimp only; rw [e2]; exact e3
   | ret v =>
    refine ⟨.ret v, r2, s2, ?_, q⟩
    unfold XS.uI
    rw [hs, hx]; dsimp only; rw [e1]; dsimp only; rw [e2]
  ·have : k = l.length := Nat.le_antisymm hk (Nat.not_lt.mp hlt)
   subst this
   have hx : l[l.length]? = none := by simp
   refine ⟨.next, ρ, σ, ?_, done ρ σ hI⟩
   unfold XS.uI
   rw [hs, hx]
theorem Eu {f : X V} {a : XA} {g : XS} {fuel : Nat}
  (h : xp f ρ σ fun v aT => E2 fun (l : List V) (I : Nat → Loc → St → Prop) => A5 (I 0 ρ aT) (l.length < fuel) (∀ k ρ σ, I k ρ σ → k ≤ l.length → gN v σ k = some l[k]?) (∀ k x ρ σ, l[k]? = some x → I k ρ σ → ap a x ρ σ fun B6 aT => sp g B6 aT (nx Q (I (k + 1)))) (∀ ρ σ, I l.length ρ σ → Q .next ρ σ)) : sp (XS.for f a g fuel) ρ σ Q := by
 obtain ⟨v, s1, e, l, I, h1, h2, h3, h4, h5⟩ := h
 obtain ⟨fl, r, s, e2, q⟩ := Fw I h3 h4 h5 fuel 0 ρ s1 h1 (Nat.zero_le _) (by lia)
 refine ⟨fl, r, s, ?_, q⟩
 unfold XS.for
 rw [e]; exact e2
theorem Et {f : X V} {a : XA} {g : XS} {fuel : Nat}
  (h : xp f ρ σ fun v aT => E2 fun (l : List V) (I : Nat → Loc → St → Prop) => A5 (I 0 ρ aT) (l.length < fuel) (∀ k ρ σ, I k ρ σ → k ≤ l.length → oL v σ k = some l[k]?) (∀ k x ρ σ, l[k]? = some x → I k ρ σ → ap a x ρ σ fun B6 aT => sp g B6 aT (nx Q (I (k + 1)))) (∀ ρ σ, I l.length ρ σ → Q .next ρ σ)) : sp (XS.jU f a g fuel) ρ σ Q := by
 obtain ⟨v, s1, e, l, I, h1, h2, h3, h4, h5⟩ := h
 obtain ⟨fl, r, s, e2, q⟩ := Fw I h3 h4 h5 fuel 0 ρ s1 h1 (Nat.zero_le _) (by lia)
 refine ⟨fl, r, s, ?_, q⟩
 unfold XS.jU
 rw [e]; exact e2
theorem yR {f : X Bool} {g : XS} (I : Nat → Loc → St → Prop) (step : ∀ m ρ σ, I m ρ σ → xp f ρ σ fun b aT => if b = true then sp g ρ aT (nx Q fun oT bH => ∃ m', m' < m ∧ I m' oT bH) else Q .next ρ aT) :
  ∀ (fuel m : Nat) (ρ : Loc) (σ : St), I m ρ σ → m < fuel → sp (XS.jK f g fuel) ρ σ Q := by
 intro fuel
 induction fuel with
 | zero => intro m ρ σ _ h; lia
 | succ fuel ih =>
  intro m ρ σ hI hm
  obtain ⟨b, s1, e1, q⟩ := step m ρ σ hI
  cases b with
  | false =>
   rw [if_neg (by simp)] at q
   refine ⟨.next, ρ, s1, ?_, q⟩
   unfold XS.jK
   rw [e1]
  | true =>
   rw [if_pos rfl] at q
   obtain ⟨fl, r2, s2, e2, q⟩ := q
   cases fl with
   | next =>
    obtain ⟨m', hlt, hI'⟩ := q
    obtain ⟨fl, r3, s3, e3, q3⟩ := ih m' r2 s2 hI' (by lia)
    refine ⟨fl, r3, s3, ?_, q3⟩
    unfold XS.jK
    rw [e1]; dsimp only; rw [e2]; exact e3
   | ret v =>
    refine ⟨.ret v, r2, s2, ?_, q⟩
    unfold XS.jK
    rw [e1]; dsimp only; rw [e2]
end
section
variable {ρ : Loc} {σ : St}
noncomputable def lp (g : XC) (j : Nat) (ρ : Loc) (σ : St) (Q : Loc → St → Prop) : Prop := E2 fun cI σ' => g j ρ σ = some (cI, σ') ∧ Q cI σ'
theorem Cu {f : X V} {j : Nat} {Q : Loc → St → Prop} : lp (XC.emit f) j ρ σ Q ↔ xp f ρ σ fun v aT => ∃ l, A3 (getL aT j = some l) (l.length ≤ 100000) (Q ρ (aT.set j (.list (l ++ [v])))) := by
 unfold lp XC.emit xp wp
 constructor
 ·rintro ⟨r, s, e, q⟩
  split at e
  ·rename_i v s1 h
   split at e
   ·rename_i l hl
    split at e
    ·rename_i hz; cases e; exact ⟨_, _, h, _, hl, hz, q⟩
    ·cases e
   ·cases e
  ·cases e
 ·rintro ⟨v, s1, e, l, hl, hz, q⟩
  rw [e]; dsimp only; rw [hl]; dsimp only; rw [if_pos hz]; exact ⟨_, _, rfl, q⟩
theorem HY {f g : X V} {j : Nat} {Q : Loc → St → Prop} : lp (XC.uL f g) j ρ σ Q ↔ xp f ρ σ fun k aT => ∃ i, k = .int i ∧ xp g ρ aT fun v bH => ∃ l, A3 (eF bH j = some l) (l.length ≤ 100000) (Q ρ (bH.set j (.cA (eU l i v)))) := by
 unfold lp XC.uL xp wp
 constructor
 ·rintro ⟨r, s, e, q⟩
  split at e
  ·rename_i k s1 h
   split at e
   ·rename_i v s2 h2
    split at e
    ·rename_i l hl
     split at e
     ·rename_i hz; cases e; exact ⟨_, _, h, _, rfl, _, _, h2, _, hl, hz, q⟩
     ·cases e
    ·cases e
   ·cases e
  ·cases e
 ·rintro ⟨k, s1, e, i, rfl, v, s2, e2, l, hl, hz, q⟩
  rw [e]; dsimp only; rw [e2]; dsimp only; rw [hl]; dsimp only; rw [if_pos hz]; exact ⟨_, _, rfl, q⟩
theorem FR {get : St → Nat → Option (Option V)} {a : XA} {t : Option (X Bool)} {g : XC} {j : Nat} {l : List V} {Q : Loc → St → Prop} (I : Nat → Loc → St → Prop) (LI : ∀ k ρ σ, I k ρ σ → k ≤ l.length → get σ k = some l[k]?)
  (step : ∀ k x ρ σ, l[k]? = some x → I k ρ σ → ap a x ρ σ fun B6 aT => xp (XC.test t) B6 aT fun b bH => if b = true then lp g j B6 bH (I (k + 1)) else I (k + 1) B6 bH) (done : ∀ ρ σ, I l.length ρ σ → Q ρ σ) :
  ∀ (fuel k : Nat) (ρ : Loc) (σ : St), I k ρ σ → k ≤ l.length → l.length - k < fuel → lp (XC.loop get a t g fuel k) j ρ σ Q := by
 intro fuel
 induction fuel with
 | zero => intro k ρ σ _ _ h; lia
 | succ fuel ih =>
  intro k ρ σ hI hk hf
  have hs := LI k ρ σ hI hk
  by_cases hlt : k < l.length
  ·have hx : l[k]? = some l[k] := List.getElem?_eq_getElem hlt
   obtain ⟨r1, s1, e1, b, s2, e2, q⟩ := step k _ ρ σ hx hI
   cases b with
   | false =>
    rw [if_neg (by simp)] at q
    obtain ⟨r3, s3, e3, q3⟩ := ih (k + 1) r1 s2 q hlt (by lia)
    refine ⟨r3, s3, ?_, q3⟩
    unfold XC.loop
    rw [hs, hx]; dsimp only; rw [e1]; dsimp only; rw [e2]; exact e3
   | true =>
    rw [if_pos rfl] at q
    obtain ⟨r4, s4, e4, q⟩ := q
    obtain ⟨r3, s3, e3, q3⟩ := ih (k + 1) r4 s4 q hlt (by lia)
    refine ⟨r3, s3, ?_, q3⟩
    unfold XC.loop
    rw [hs, hx]; dsimp only; rw [e1]; dsimp only; rw [e2]; dsimp only; rw [e4]; exact e3
  ·have : k = l.length := by lia
   subst this
   have hx : l[l.length]? = none := by simp
   refine ⟨ρ, σ, ?_, done ρ σ hI⟩
   unfold XC.loop
   rw [hs, hx]
theorem JR {f : X V} {a : XA} {t : Option (X Bool)} {g : XC} {fuel j : Nat} {Q : Loc → St → Prop} :
  lp (XC.nest f a t g fuel) j ρ σ Q ↔ xp f ρ σ fun v aT => lp (XC.loop (gN v) a t g fuel 0) j ρ aT Q := by
 unfold lp XC.nest xp wp
 constructor
 ·rintro ⟨r, s, e, q⟩
  split at e
  ·rename_i v s1 h; exact ⟨_, _, h, _, _, e, q⟩
  ·cases e
 ·rintro ⟨v, s1, e, r, s, e2, q⟩
  rw [e]; exact ⟨_, _, e2, q⟩
theorem tD {locs : List Nat} {f : X V} {new : O} {a : XA} {t : Option (X Bool)} {g : XC} {fuel : Nat} {Q : V → St → Prop}
  (h : xp f ρ σ fun v aT => E2 fun (l : List V) (I : Nat → Loc → St → Prop) => A6 (I 0 (KZ locs ρ) (aT ++ [new])) (l.length < fuel) (gN v aT 0 = some l[0]?) (∀ k ρ σ, I k ρ σ → k ≤ l.length → gN v σ k = some l[k]?) (∀ k x ρ σ, l[k]? = some x → I k ρ σ → ap a x ρ σ fun B6 bH => xp (XC.test t) B6 bH fun b dQ => if b = true then lp g aT.length B6 dQ (I (k + 1)) else I (k + 1) B6 dQ) (∀ ρ σ, I l.length ρ σ → Q (.obj aT.length) σ)) :
  xp (X.comp locs f new a t g fuel) ρ σ Q := by
 obtain ⟨v, s1, e, l, I, h1, h2, h0, h3, h4, h5⟩ := h
 obtain ⟨r, s, e2, q⟩ := FR I h3 h4 h5 fuel 0 (KZ locs ρ) (s1 ++ [new]) h1 (Nat.zero_le _) (by lia)
 refine ⟨.obj s1.length, s, ?_, q⟩
 unfold X.comp
 rw [e]; dsimp only; rw [h0]; dsimp only; rw [e2]
theorem wp_runF {np k : Nat} {g : XS} {vs : List V} {Q : V → St → Prop} (hn : vs.length = np) (h : sp g (vs.map some ++ List.replicate k none) σ fun fl _ σ' => match fl with | .ret v => Q v σ' | .next => Q .none σ') : wp (eM np k g vs σ) Q := by
 obtain ⟨fl, r, s, e, q⟩ := h
 unfold eM
 rw [if_pos hn, e]
 cases fl with
 | next => exact wp_some.mpr q
 | ret v => exact wp_some.mpr q
end
section
variable {ρ oT : Loc} {σ aT bH dQ : St} {Q : Fl → Loc → St → Prop}
theorem aQ {o : V → V → St → Option (V × St)} {f g : X V} {a b : V} {r : V × St} (h1 : f ρ σ = some (a, aT)) (h2 : g ρ aT = some (b, bH)) (h3 : o a b bH = some r) : X.bin o f g ρ σ = some r := by
 unfold X.bin X.bind; simp only [h1, h2, X.lift, h3]
theorem bN {f g : X V} {a b : V} {r : V × St} (h1 : f ρ σ = some (a, aT)) (h2 : g ρ aT = some (b, bH)) (h3 : iU a b bH = some r) : X.sub f g ρ σ = some r := by
 unfold X.sub X.bind; simp only [h1, h2, X.lift, h3]
theorem bP {c k : Nat} {f : X V} {a : V} {r : V × St} (h1 : f ρ σ = some (a, aT)) (h2 : wJ c k a aT = some r) : X.attr c k f ρ σ = some r := by
 unfold X.attr X.bind; simp only [h1, X.lift, h2]
theorem aN {F : FF} {g : X (List V)} {l : List V} {r : V × St} (h1 : g ρ σ = some (l, aT)) (h2 : F l aT = some r) : X.call F g ρ σ = some r := by
 unfold X.call X.bind; simp only [h1, X.lift, h2]
theorem aK {f : X V} {g : X (List V)} {a : V} {l : List V} (h1 : f ρ σ = some (a, aT)) (h2 : g ρ aT = some (l, bH)) : X.aB f g ρ σ = some (a :: l, bH) := by
 unfold X.aB X.bind; simp only [h1, h2, X.pure]
theorem fD {F : FF} {f : X V} {g : X (List V)} {v v' : V} {l : List V} {r : V × St} (h1 : f ρ σ = some (v, aT)) (h2 : asList v aT = some (v', bH)) (h3 : g ρ bH = some (l, dQ)) (h4 : F (v' :: l) dQ = some r) : X.eY F f g ρ σ = some r := by
 unfold X.eY X.bind; simp only [h1, X.lift, h2, h3, h4]
theorem rB {f g : X V} {a : V} {n : Int} {r : V × St} (h1 : f ρ σ = some (a, aT)) (h2 : g ρ aT = some (.int n, bH)) (h3 : gP a none (some n) bH = some r) : X.slice f none (some g) ρ σ = some r := by
 unfold X.slice X.bind; simp only [h1, yJ, X.pure, X.bind, h2, X.lift, h3]
theorem aP {f : X V} {b : Bool} (h1 : f ρ σ = some (.bool b, aT)) : X.test f ρ σ = some (b, aT) := by
 unfold X.test X.bind; simp only [h1]; rfl
theorem fQ {f : X V} {a : XA} {g : XS} {v : V} (h1 : f ρ σ = some (v, aT)) (h2 : a v ρ aT = some (oT, bH)) (k : sp g oT bH Q) : sp (XS.seq (XS.assign f a) g) ρ σ Q :=
 iZ.mpr (Gp.mpr ⟨v, aT, h1, oT, bH, h2, k⟩)
theorem cZ {f : X Bool} {s : XS} {g : XS} (h1 : f ρ σ = some (false, aT)) (k : sp g ρ aT Q) : sp (XS.seq (XS.ite f s XS.nil) g) ρ σ Q :=
 iZ.mpr (Ce.mpr ⟨false, aT, h1, by dsimp only; rw [if_neg (by simp)]; exact Hl.mpr k⟩)
theorem kO {f : X Bool} {s r g : XS} (h1 : f ρ σ = some (true, aT)) (k : sp s ρ aT (nx Q fun cI σ' => sp g cI σ' Q)) : sp (XS.seq (XS.ite f s r) g) ρ σ Q :=
 iZ.mpr (Ce.mpr ⟨true, aT, h1, by dsimp only; rw [if_pos rfl]; exact k⟩)
theorem LV {f : X Bool} {g h : X V} {r : V × St} (h1 : f ρ σ = some (false, aT)) (h2 : h ρ aT = some r) : X.LE f g h ρ σ = some r := by
 unfold X.LE X.bind; simp only [h1]; exact h2
theorem ID {o o' : V → V → St → Option (V × St)} {f g h : X V} {a b : V} (h1 : f ρ σ = some (a, aT)) (h2 : g ρ aT = some (b, bH)) (h3 : o a b bH = some (.bool false, dQ)) : X.qE o o' f g h ρ σ = some (false, dQ) := by
 unfold X.qE X.bind; simp only [h1, h2, X.lift, h3]; rfl
theorem Ak {o o' : V → V → St → Option (V × St)} {f g h : X V} {a b c : V} {t : Bool} {kS pA : St} (h1 : f ρ σ = some (a, aT)) (h2 : g ρ aT = some (b, bH)) (h3 : o a b bH = some (.bool true, dQ)) (h4 : h ρ dQ = some (c, kS)) (h5 : o' b c kS = some (.bool t, pA)) : X.qE o o' f g h ρ σ = some (t, pA) := by
 unfold X.qE X.bind; simp only [h1, h2, X.lift, h3]
 show X.bind (X.bind h fun c => X.lift (o' b c)) X.truth ρ dQ = _
 unfold X.bind; simp only [h4, X.lift, h5]; rfl
theorem DT {f : X V} {v : V} {r : V × St} (h1 : f ρ σ = some (v, aT)) (h2 : oJ v aT = some r) : X.sO f ρ σ = some r := by
 unfold X.sO X.bind; simp only [h1, X.lift, h2]
theorem LU {f : X V} {b : Bool} (h1 : f ρ σ = some (.bool b, aT)) : X.Lo f ρ σ = some (.bool (!b), aT) := by
 unfold X.Lo X.bind; simp only [h1]; rfl
theorem wS {f g : X V} {a : V} {n : Int} {r : V × St} (h1 : f ρ σ = some (a, aT)) (h2 : g ρ aT = some (.int n, bH)) (h3 : gP a (some n) none bH = some r) : X.slice f (some g) none ρ σ = some r := by
 unfold X.slice X.bind; simp only [h1, yJ, X.pure, X.bind, h2, X.lift, h3]
theorem sL {np k : Nat} {f : X V} {g : XS} {vs : List V} {v : V} (h : f (vs.map some ++ List.replicate k none) σ = some (v, aT)) (hn : vs.length = np := by rfl) : eM np k (XS.seq (XS.ret f) g) vs σ = some (v, aT) := by
 unfold eM XS.seq XS.ret; simp only [if_pos hn, h]
theorem Fx {f : X Bool} {s r g : XS} (h1 : f ρ σ = some (false, aT)) (k : sp r ρ aT (nx Q fun cI σ' => sp g cI σ' Q)) : sp (XS.seq (XS.ite f s r) g) ρ σ Q :=
 iZ.mpr (Ce.mpr ⟨false, aT, h1, by dsimp only; rw [if_neg (by simp)]; exact k⟩)
theorem dG (k : Q .next ρ σ) : sp XS.nil ρ σ Q := Hl.mpr k
theorem I7 {c k : Nat} {f : X V} {v w : V} (h1 : f ρ σ = some (w, aT)) (h2 : vC c k w v aT = some bH) : XA.attr c k f v ρ σ = some (ρ, bH) := by
 unfold XA.attr; simp only [h1, h2]; rfl
theorem Gb {f g : X V} {v a b : V} (h1 : f ρ σ = some (a, aT)) (h2 : g ρ aT = some (b, bH)) (h3 : mA a b v bH = some dQ) : XA.item f g v ρ σ = some (ρ, dQ) := by
 unfold XA.item; simp only [h1, h2, h3]; rfl
theorem c9 {c k : Nat} {F : FF} {f : X V} {g : X (List V)} {v v' : V} {l : List V} {r : V × St} (h1 : f ρ σ = some (v, aT)) (h2 : tB c k v aT = some (v', bH)) (h3 : g ρ bH = some (l, dQ)) (h4 : F (v' :: l) dQ = some r) : X.cS c k F f g ρ σ = some r := by
 unfold X.cS X.bind; simp only [h1, X.lift, h2, h3, h4]
theorem kK {f : X Bool} {b : Bool} (h1 : f ρ σ = some (b, aT)) : X.n8 f ρ σ = some (!b, aT) := by
 unfold X.n8 X.bind; simp only [h1]; rfl
theorem f3 {f g : X Bool} {r : Bool × St} (h1 : f ρ σ = some (false, aT)) (h2 : g ρ aT = some r) : X.pE f g ρ σ = some r := by
 unfold X.pE X.bind; simp only [h1]; exact h2
theorem DS {f g : X Bool} (h1 : f ρ σ = some (true, aT)) : X.pE f g ρ σ = some (true, aT) := by
 unfold X.pE X.bind; simp only [h1]; rfl
theorem eP {f g : X Bool} {r : Bool × St} (h1 : f ρ σ = some (true, aT)) (h2 : g ρ aT = some r) : X.iW f g ρ σ = some r := by
 unfold X.iW X.bind; simp only [h1]; exact h2
theorem jP {f g : X Bool} (h1 : f ρ σ = some (false, aT)) : X.iW f g ρ σ = some (false, aT) := by
 unfold X.iW X.bind; simp only [h1]; rfl
theorem IE {f g : X V} {r : V × St} (h1 : f ρ σ = some (.bool true, aT)) (h2 : g ρ aT = some r) : X.Ke f g ρ σ = some r := by
 unfold X.Ke X.bind; simp only [h1]; exact h2
theorem mO {f : X (List V)} {l : List V} (h1 : f ρ σ = some (l, aT)) (hl : l.length ≤ 1000) : X.eH f ρ σ = some (.tup l, aT) := by
 unfold X.eH X.bind; simp only [h1, f5, if_pos hl]; rfl
theorem pZ {f : X (List V)} {l : List V} (h1 : f ρ σ = some (l, aT)) (hl : l.length ≤ 1000) : X.hY f ρ σ = some (.obj aT.length, aT ++ [.list l]) := by
 unfold X.hY X.bind; simp only [h1, f5, if_pos hl]; rfl
theorem lK {f : X V} {g : XS} {v : V} (h1 : f ρ σ = some (v, aT)) (k : Q (.ret v) ρ aT) : sp (XS.seq (XS.ret f) g) ρ σ Q :=
 iZ.mpr (Lb.mpr ⟨v, aT, h1, k⟩)
theorem jG {f : X V} {g : XS} {v : V} (h1 : f ρ σ = some (v, aT)) (hr : XS.isRef v = false) (k : sp g ρ aT Q) : sp (XS.seq (XS.drop f) g) ρ σ Q :=
 iZ.mpr (Jt.mpr ⟨v, aT, h1, hr, k⟩)
theorem zC {f : X Bool} {e : X V} {s g : XS} {v : V} (h1 : f ρ σ = some (true, aT)) (h2 : e ρ aT = some (v, bH)) (k : Q (.ret v) ρ bH) : sp (XS.seq (XS.ite f (XS.seq (XS.ret e) s) XS.nil) g) ρ σ Q :=
 iZ.mpr (Ce.mpr ⟨true, aT, h1, by dsimp only; rw [if_pos rfl]; exact lK h2 k⟩)
theorem Jy {f : X V} {a : XA} {g r : XS} {fuel : Nat} {v : V} (l : List V) (I : Nat → Loc → St → Prop) (h1 : f ρ σ = some (v, aT)) (h2 : I 0 ρ aT) (h3 : l.length < fuel) (h4 : ∀ k ρ σ, I k ρ σ → k ≤ l.length → gN v σ k = some l[k]?)
  (h5 : ∀ k x ρ σ, l[k]? = some x → I k ρ σ → E2 fun oT bH => a x ρ σ = some (oT, bH) ∧ ∀ Q', (∀ cI σ', I (k + 1) cI σ' → Q' .next cI σ') → (∀ v cI σ', Q (.ret v) cI σ' → Q' (.ret v) cI σ') → sp g oT bH Q') (h6 : ∀ cI σ', I l.length cI σ' → sp r cI σ' Q) : sp (XS.seq (XS.for f a g fuel) r) ρ σ Q := by
 refine iZ.mpr (Eu ⟨v, aT, h1, l, I, h2, h3, h4, fun k x ρ σ hx hI => ?_, h6⟩)
 obtain ⟨oT, bH, e, q⟩ := h5 k x ρ σ hx hI
 exact ⟨oT, bH, e, q _ (fun _ _ h => h) fun _ _ _ h => h⟩
inductive NE (f : X Bool) (g r : XS) (I : Nat → Loc → St → Prop) (Q : Fl → Loc → St → Prop) (m : Nat) (ρ : Loc) (σ : St) : Prop
 | stop {aT : St} (h : f ρ σ = some (false, aT)) (k : sp r ρ aT Q)
 | go {aT : St} (h : f ρ σ = some (true, aT)) (k : ∀ Q' : Fl → Loc → St → Prop, (∀ m' cI σ', m' < m → I m' cI σ' → Q' .next cI σ') → (∀ v cI σ', Q (.ret v) cI σ' → Q' (.ret v) cI σ') → sp g ρ aT Q')
theorem Hp {f : X Bool} {g r : XS} {fuel : Nat} (I : Nat → Loc → St → Prop) (m : Nat) (h2 : I m ρ σ) (h3 : m < fuel) (h5 : ∀ m ρ σ, I m ρ σ → NE f g r I Q m ρ σ) : sp (XS.seq (XS.jK f g fuel) r) ρ σ Q := by
 refine iZ.mpr (yR I (fun m ρ σ hI => ?_) fuel m ρ σ h2 h3)
 cases h5 m ρ σ hI with
 | stop h k => exact ⟨_, _, h, k⟩
 | go h k => exact ⟨_, _, h, by dsimp only; rw [if_pos rfl]; exact k _ (fun m' _ _ h h' => ⟨m', h, h'⟩) fun _ _ _ h => h⟩
end
noncomputable def Ext (M : Nat → Prop) (σ σ' : St) : Prop := σ.length ≤ σ'.length ∧ ∀ i, i < σ.length → ¬ M i → σ'[i]? = σ[i]?
noncomputable abbrev bV := Ext (fun _ => False)
section
variable {M M' : Nat → Prop} {σ σ' aT bH : St} {i j : Nat}
theorem Ext.refl : Ext M σ σ := ⟨Nat.le_refl _, fun _ _ _ => rfl⟩
theorem Ext.trans (a : Ext M σ aT) (b : Ext M' aT bH) (h : ∀ i, M' i → M i ∨ σ.length ≤ i) : Ext M σ bH := by
 refine ⟨Nat.le_trans a.1 b.1, fun i hi hm => ?_⟩
 rw [b.2 i (Nat.lt_of_lt_of_le hi a.1) fun z => ?_, a.2 i hi hm]
 rcases h i z with h | h
 ·exact hm h
 ·lia
theorem Ext.then (a : Ext M σ aT) (b : Ext M aT bH) : Ext M σ bH := a.trans b fun _ h => .inl h
theorem Ext.wB (a : Ext M σ aT) (b : bV aT bH) : Ext M σ bH := a.trans b fun _ h => h.elim
theorem Ext.mono (a : Ext M σ aT) (h : ∀ i, M i → M' i) : Ext M' σ aT := ⟨a.1, fun i hi hm => a.2 i hi fun z => hm (h i z)⟩
theorem Ext.of0 (a : bV σ aT) : Ext M σ aT := a.mono fun _ h => h.elim
theorem Ext.push (o : O) : Ext M σ (σ ++ [o]) := ⟨by simp, fun i hi _ => List.getElem?_append_left hi⟩
theorem Ext.EE (l : List O) : Ext M σ (σ ++ l) := ⟨by simp, fun i hi _ => List.getElem?_append_left hi⟩
theorem Ext.set (o : O) (h : M j) : Ext M σ (σ.set j o) := ⟨by simp, fun i hi hm => List.getElem?_set_ne (fun (z : j = i) => hm (z ▸ h))⟩
theorem Ext.get (a : Ext M σ σ') (hi : i < σ.length) (hm : ¬ M i) : σ'[i]? = σ[i]? := a.2 i hi hm
theorem bE {l : List V} (h : getL σ i = some l) : i < σ.length := (List.getElem?_eq_some_iff.mp (jT h)).1
theorem iJ {l : List (Int × V)} (h : eF σ i = some l) : i < σ.length := (List.getElem?_eq_some_iff.mp (k7 h)).1
theorem fC {l : List (Nat × V)} (h : bT σ i = some l) : i < σ.length := (List.getElem?_eq_some_iff.mp (yB h)).1
theorem Ext.getL (a : Ext M σ σ') {l : List V} (h : getL σ i = some l) (hm : ¬ M i) : Mine.getL σ' i = some l := by
 unfold Mine.getL at *; rw [a.get (bE h) hm]; exact h
theorem Ext.eF (a : Ext M σ σ') {l : List (Int × V)} (h : eF σ i = some l) (hm : ¬ M i) : Mine.eF σ' i = some l := by
 unfold Mine.eF at *; rw [a.get (iJ h) hm]; exact h
theorem Ext.bT (a : Ext M σ σ') {l : List (Nat × V)} (h : bT σ i = some l) (hm : ¬ M i) : Mine.bT σ' i = some l := by
 unfold Mine.bT at *; rw [a.get (fC h) hm]; exact h
theorem c0 {l : List V} (h : i < σ.length) : getL (σ.set i (.list l)) i = some l := by unfold getL; simp [h]
theorem lU {l : List (Int × V)} (h : i < σ.length) : eF (σ.set i (.cA l)) i = some l := by unfold eF; simp [h]
theorem j7 {l : List (Nat × V)} (h : i < σ.length) : bT (σ.set i (.aV l)) i = some l := by unfold bT; simp [h]
theorem cE {l : List V} : getL (σ ++ [.list l]) σ.length = some l := by unfold getL; simp
theorem uG {l : List (Int × V)} : eF (σ ++ [.cA l]) σ.length = some l := by unfold eF; simp
theorem Ai {l : List (Nat × V)} : bT (σ ++ [.aV l]) σ.length = some l := by unfold bT; simp
theorem bR {o : O} (h : i ≠ j) : getL (σ.set j o) i = getL σ i := by unfold getL; rw [List.getElem?_set_ne (Ne.symm h)]
theorem k5 {o : O} (h : i ≠ j) : eF (σ.set j o) i = eF σ i := by unfold eF; rw [List.getElem?_set_ne (Ne.symm h)]
theorem oH {o : O} (h : i ≠ j) : bT (σ.set j o) i = bT σ i := by unfold bT; rw [List.getElem?_set_ne (Ne.symm h)]
end
section
variable {σ : St} {Q : V → St → Prop}
end
section
variable {σ : St} {i j : Nat} {k : Int} {n : Nat} {v : V}
theorem fH {K : Type} [DecidableEq K] {k a : K} {b : V} {l : List (K × V)} : fJ ((a, b) :: l) k = if a = k then some b else fJ l k := by
 unfold fJ
 by_cases h : a = k <;> simp [h]
theorem KJ {a : V} {l : List V} (h : getL σ i = some l) : Mr a (.obj i) σ = if okV 6 a && l.all (okV 6) then some (l.any fun y => yG y a) else none := by
 show (σ[i]?).bind _ = _
 rw [jT h]; rfl
theorem FV {l : List (Int × V)} (h : eF σ i = some l) : Mr (.int k) (.obj i) σ = some (fJ l k).isSome := by
 show (σ[i]?).bind _ = _
 rw [k7 h]; rfl
theorem lQ {l : List V} (h : getL σ i = some l) : iU (.obj i) (.int k) σ = (pick l k).map fun v => (v, σ) := by
 show (σ[i]?).bind _ = _
 rw [jT h]; rfl
theorem Cr {l : List (Int × V)} (h : eF σ i = some l) : iU (.obj i) (.int k) σ = (fJ l k).map fun v => (v, σ) := by
 show (σ[i]?).bind _ = _
 rw [k7 h]; rfl
theorem HC {l : List (Nat × V)} (h : bT σ i = some l) : iU (.obj i) (.str n) σ = (fJ l n).map fun v => (v, σ) := by
 show (bT σ i).bind _ = _
 rw [h]; rfl
theorem EM {l : List V} : iU (.tup l) (.int k) σ = (pick l k).map fun v => (v, σ) := rfl
theorem vA {l : List V} (h : getL σ i = some l) (h1 : 0 ≤ k) (h2 : k < 100000) (h3 : k.toNat < l.length) : mA (.obj i) (.int k) v σ = some (σ.set i (.list (l.set k.toNat v))) := by
 show (σ[i]?).bind _ = _
 rw [jT h]; exact if_pos ⟨h1, h2, h3⟩
theorem vB {l : List (Int × V)} (h : eF σ i = some l) (h1 : l.length ≤ 100000) : mA (.obj i) (.int k) v σ = some (σ.set i (.cA (eU l k v))) := by
 show (σ[i]?).bind _ = _
 rw [k7 h]; exact if_pos h1
theorem Ga {l : List (Nat × V)} (h : bT σ i = some l) (h1 : l.length ≤ 100000) : mA (.obj i) (.str n) v σ = some (σ.set i (.aV (eU l n v))) := by
 show (bT σ i).bind _ = _
 rw [h]; exact if_pos h1
theorem jO {l : List V} (h : getL σ i = some l) (h1 : l.length ≤ 1000000) : gJ (.obj i) σ = some (.int l.length, σ) := by
 show (σ[i]?).bind _ = _
 rw [jT h]; exact if_pos h1
theorem LR {l : List (Int × V)} (h : eF σ i = some l) (h1 : l.length ≤ 1000000) : gJ (.obj i) σ = some (.int l.length, σ) := by
 show (σ[i]?).bind _ = _
 rw [k7 h]; exact if_pos h1
theorem vU {l : List V} (h1 : l.length ≤ 1000000) : gJ (.tup l) σ = some (.int l.length, σ) := by
 unfold gJ; simp [h1]
theorem d6 {l : List V} (h : getL σ i = some l) : asList (.obj i) σ = some (.obj i, σ) := by show (getL σ i).map _ = _; rw [h]; rfl
theorem f4 {c : Nat} {l : List (Nat × V)} (h : bT σ i = some l) (h1 : fJ l n = none) : tB c n (.inst c i) σ = some (.inst c i, σ) := by unfold tB; simp [h, h1]
theorem bC {c : Nat} {l : List (Nat × V)} (h : bT σ i = some l) (h1 : fJ l n = some v) : wJ c n (.inst c i) σ = some (v, σ) := by unfold wJ; simp [h, h1]
theorem jV {c : Nat} {l : List (Nat × V)} (h : bT σ i = some l) (h1 : l.length ≤ 100) : vC c n (.inst c i) v σ = some (σ.set i (.aV (eU l n v))) := by unfold vC; simp [h, h1]
theorem fG {l : List V} (h : getL σ i = some l) (h1 : l.length ≤ 100000) : eB [.obj i, v] σ = some (.none, σ.set i (.list (l ++ [v]))) := by show (getL σ i).bind _ = _; rw [h]; exact if_pos h1
theorem iD {l : List V} {m : Nat} (h : m < l.length) (h1 : m < 1000000) : pick l (m : Int) = some l[m] := by
 unfold pick
 rw [if_pos (by lia), if_pos (by lia)]
 simp [h]
end
structure NK (σ : St) (p c : Nat) (spot mixed : Int) (cells : List Int) : Prop where
 pen : bT σ p = some [(64, .obj c), (63, .int spot), (61, .int mixed)]
 ne : c ≠ p
 list : getL σ c = some (cells.map .int)
 Km : 0 ≤ spot
 LA : 0 ≤ mixed
 Lz : mixed < 2000000
 nonneg : ∀ x ∈ cells, 0 ≤ x
 len : cells.length ≤ 1000
noncomputable def oR (σ : St) (p c : Nat) : Prop := E3 fun spot mixed cells => NK σ p c spot mixed cells
section
variable {σ : St}
theorem n7 {i n : Nat} {l : List (Nat × V)} {v : V} (h : bT σ i = some l) (h1 : fJ l n = some v) : iU (.obj i) (.str n) σ = some (v, σ) := by rw [HC h, h1]; rfl
theorem zO {a b : Int} (hb : 0 < b) : oMod (.int a) (.int b) σ = some (.int (a % b), σ) := by
 unfold oMod
 dsimp only
 rw [if_neg (Int.ne_of_gt hb), Int.fmod_eq_emod_of_nonneg _ (Int.le_of_lt hb)]
theorem Oj {a b : Int} (h : a < b) : oLt (.int a) (.int b) σ = some (.bool true, σ) := congrArg (fun b => some (V.bool b, σ)) (decide_eq_true h)
theorem ltF {a b : Int} (h : ¬ a < b) : oLt (.int a) (.int b) σ = some (.bool false, σ) := congrArg (fun b => some (V.bool b, σ)) (decide_eq_false h)
end
theorem lC {σ : St} {p c : Nat} {many : Int} (hp : oR σ p c) (hm : 0 < many) :
  wp (b9 [.obj p, .int many] σ) fun r σ' => ∃ x, A6 (r = .int x) (0 ≤ x) (x < many) (oR σ' p c) (Ext (fun i => i = p) σ σ') (σ'.length = σ.length) := by
 refine byC fun hG => ?_
 obtain ⟨spot, mixed, cells, P⟩ := hp
 have hlt := fC P.pen
 have hl : (cells.map V.int).length = cells.length := List.length_map _
 have hl6 : (cells.map V.int).length ≤ 1000000 := by rw [hl]; exact Nat.le_trans P.len (by decide)
 obtain ⟨k, rfl⟩ := Int.eq_ofNat_of_zero_le P.Km
 have i1 : mA (.obj p) (.str 63) (.int ((k : Int) + 1)) σ = some (σ.set p (.aV [(64, .obj c), (63, .int ((k : Int) + 1)), (61, .int mixed)])) := Ga P.pen (Nat.le_of_ble_eq_true rfl)
 have g1 : bT (σ.set p (.aV [(64, .obj c), (63, .int ((k : Int) + 1)), (61, .int mixed)])) p = some [(64, .obj c), (63, .int ((k : Int) + 1)), (61, .int mixed)] := j7 hlt
 have g2 : getL (σ.set p (.aV [(64, .obj c), (63, .int ((k : Int) + 1)), (61, .int mixed)])) c = some (cells.map .int) := by rw [bR P.ne]; exact P.list
 have E1 : Ext (fun i => i = p) σ (σ.set p (.aV [(64, .obj c), (63, .int ((k : Int) + 1)), (61, .int mixed)])) := .set _ rfl
 have l1 : (σ.set p (.aV [(64, .obj c), (63, .int ((k : Int) + 1)), (61, .int mixed)])).length = σ.length := List.length_set ..
 have k1 : (0 : Int) ≤ (k : Int) + 1 := Int.le_add_one (Int.natCast_nonneg k)
 generalize σ.set p (.aV [(64, .obj c), (63, .int ((k : Int) + 1)), (61, .int mixed)]) = aT at i1 g1 g2 E1 l1
 have eL := jO g2 hl6
 rw [hl] at eL
 by_cases hc : (k : Int) < (cells.length : Nat)
 ·have hk := Int.ofNat_lt.mp hc
  have e1 : iU (.obj c) (.int (k : Nat)) aT = some (.int cells[k], aT) := by
   rw [lQ g2, iD (by rw [hl]; exact hk) (Nat.lt_of_lt_of_le hk (Nat.le_trans P.len (by decide))), List.getElem_map]; rfl
  exact hG (wp_runF rfl (fQ (bN rfl rfl (n7 P.pen rfl)) rfl (fQ rfl (Gb rfl rfl i1) (zC (aP (aQ rfl (aN (aK (bN rfl rfl (n7 g1 rfl)) rfl) eL) (Oj hc))) (aQ (bN (bN rfl rfl (n7 g1 rfl)) rfl e1) rfl (zO hm)) ⟨_, rfl, Int.emod_nonneg _ (Int.ne_of_gt hm), Int.emod_lt_of_pos _ hm, ⟨(k : Int) + 1, mixed, cells, g1, P.ne, g2, k1, P.LA, P.Lz, P.nonneg, P.len⟩, E1, l1⟩))))
 ·have m0 := P.LA
  have m1 := P.Lz
  have hmul : xK (.int mixed) (.int 7919) aT = some (.int (mixed * 7919), aT) := by
   unfold xK
   dsimp only
   have hs : pJ mixed = true := Bool.and_eq_true_iff.mpr ⟨decide_eq_true (Int.lt_of_lt_of_le (by decide) m0), decide_eq_true (Int.lt_trans m1 (by decide))⟩
   rw [if_pos (Bool.and_eq_true_iff.mpr ⟨hs, by decide⟩)]
  have q0 := Int.emod_nonneg (mixed * 7919 + 4099) (show (1000003 : Int) ≠ 0 by decide)
  have q1 := Int.lt_trans (Int.emod_lt_of_pos (mixed * 7919 + 4099) (show (0 : Int) < 1000003 by decide)) (by decide : (1000003 : Int) < 2000000)
  have qm := zO (σ := aT) (a := mixed * 7919 + 4099) (show (0 : Int) < 1000003 by decide)
  generalize (mixed * 7919 + 4099) % 1000003 = z at q0 q1 qm
  have i2 : mA (.obj p) (.str 61) (.int z) aT = some (aT.set p (.aV [(64, .obj c), (63, .int ((k : Int) + 1)), (61, .int z)])) := Ga g1 (Nat.le_of_ble_eq_true rfl)
  have g3 : bT (aT.set p (.aV [(64, .obj c), (63, .int ((k : Int) + 1)), (61, .int z)])) p = some [(64, .obj c), (63, .int ((k : Int) + 1)), (61, .int z)] := j7 (l1.symm ▸ hlt)
  have g4 : getL (aT.set p (.aV [(64, .obj c), (63, .int ((k : Int) + 1)), (61, .int z)])) c = some (cells.map .int) := by rw [bR P.ne]; exact g2
  have E2 : Ext (fun i => i = p) σ (aT.set p (.aV [(64, .obj c), (63, .int ((k : Int) + 1)), (61, .int z)])) := E1.then (.set _ rfl)
  have l2 : (aT.set p (.aV [(64, .obj c), (63, .int ((k : Int) + 1)), (61, .int z)])).length = σ.length := (List.length_set ..).trans l1
  generalize aT.set p (.aV [(64, .obj c), (63, .int ((k : Int) + 1)), (61, .int z)]) = bH at i2 g3 g4 E2 l2
  have qd : cH (.int z) (.int 8) bH = some (.int (z.fdiv 8), bH) := by
   unfold cH
   dsimp only
   rw [if_neg (by decide)]
  exact hG (wp_runF rfl (fQ (bN rfl rfl (n7 P.pen rfl)) rfl (fQ rfl (Gb rfl rfl i1) (cZ (aP (aQ rfl (aN (aK (bN rfl rfl (n7 g1 rfl)) rfl) eL) (ltF hc))) (fQ (aQ (aQ (aQ (bN rfl rfl (n7 g1 rfl)) rfl hmul) rfl rfl) rfl qm) (Gb rfl rfl i2) (lK (aQ (aQ (bN rfl rfl (n7 g3 rfl)) rfl qd) rfl (zO hm)) ⟨_, rfl, Int.emod_nonneg _ (Int.ne_of_gt hm), Int.emod_lt_of_pos _ hm, ⟨(k : Int) + 1, z, cells, g3, P.ne, g4, k1, q0, q1, P.nonneg, P.len⟩, E2, l2⟩))))))
noncomputable def Src (v : V) (σ : St) (l : List V) : Prop := ∀ σ', bV σ σ' → ∀ k, k ≤ l.length → gN v σ' k = some l[k]?
theorem Src.tup {l : List V} {σ : St} : Src (.tup l) σ l := fun _ _ _ _ => rfl
theorem Src.list {l : List V} {σ : St} {i : Nat} (h : getL σ i = some l) : Src (.obj i) σ l := fun σ' e k _ => by
 show (getL σ' i).map _ = _
 rw [e.getL h fun z => z.elim]; rfl
theorem Src.range {σ : St} {a b : Int} (h1 : -1000000 ≤ a) (h2 : a ≤ 1000000) (h3 : -1000000 ≤ b) (h4 : b ≤ 1000000) : Src (.range a b) σ ((rangeInts a b).map .int) := fun σ' _ k hk => by
 unfold gN
 dsimp only
 rw [if_pos ⟨Int.le_trans (by decide) h1, Int.le_trans h4 (by decide), Int.le_trans h2 (by decide), Int.le_trans (by decide) h3⟩]
 congr 1
 unfold rangeInts at *
 simp only [List.length_map, List.length_range] at hk
 by_cases h : a + k < b
 ·rw [if_pos h]
  simp only [List.getElem?_map]
  rw [List.getElem?_range (Int.lt_toNat.mpr (Int.lt_sub_left_of_add_lt h))]
  simp
 ·rw [if_neg h]
  simp only [List.getElem?_map]
  rw [List.getElem?_eq_none (by rw [List.length_range]; exact Int.toNat_le.mpr (Int.sub_left_le_of_le_add (Int.not_lt.mp h)))]
  simp
section
variable {ρ : Loc} {σ aT : St}
inductive Jj (t : Option (X Bool)) (a : XA) (e : X V) (L : Loc → Prop) (w : V) (o : Option V) (ρ : Loc) (σ : St) : Prop
 | skip {oT : Loc} {bH dQ : St} (h1 : a w ρ σ = some (oT, bH)) (hL : L oT) (h2 : XC.test t oT bH = some (false, dQ)) (ho : o = none) (E : bV σ dQ)
 | put {oT : Loc} {bH dQ kS : St} {u : V} (h1 : a w ρ σ = some (oT, bH)) (hL : L oT) (h2 : XC.test t oT bH = some (true, dQ)) (h3 : e oT dQ = some (u, kS)) (ho : o = some u) (E : bV σ kS)
inductive sF (a : XA) (g : XS) (J : Loc → St → Prop) (Q : Fl → Loc → St → Prop) (w : V) (ρ : Loc) (σ : St) : Prop
 | mk {oT : Loc} {bH : St} (h : a w ρ σ = some (oT, bH)) (k : ∀ Q' : Fl → Loc → St → Prop, (∀ cI σ', J cI σ' → Q' .next cI σ') → (∀ v cI σ', Q (.ret v) cI σ' → Q' (.ret v) cI σ') → sp g oT bH Q')
theorem nE {α : Type} {f : X V} {a : XA} {g r : XS} {fuel : Nat} {v : V} {Q : Fl → Loc → St → Prop} (l : List α) (inj : α → V) (I : Nat → Loc → St → Prop) (h1 : f ρ σ = some (v, aT)) (h2 : I 0 ρ aT) (h3 : l.length < fuel) (h4 : ∀ k ρ σ, I k ρ σ → k ≤ l.length → gN v σ k = some (l.map inj)[k]?)
  (h5 : ∀ k x ρ σ, l[k]? = some x → I k ρ σ → sF a g (I (k + 1)) Q (inj x) ρ σ) (h6 : ∀ cI σ', I l.length cI σ' → sp r cI σ' Q) : sp (XS.seq (XS.for f a g fuel) r) ρ σ Q := by
 have e : (l.map inj).length = l.length := List.length_map _
 refine Jy (l.map inj) I h1 h2 (e ▸ h3) (fun k ρ σ hI h => h4 k ρ σ hI (e ▸ h)) (fun k x ρ σ hx hI => ?_) (e ▸ h6)
 rw [List.getElem?_map] at hx
 obtain ⟨y, hy, rfl⟩ := Option.map_eq_some_iff.mp hx
 obtain ⟨h, q⟩ := h5 k y ρ σ hy hI
 exact ⟨_, _, h, q⟩
theorem Hr {f : X V} {a : XA} {g r : XS} {fuel : Nat} {v : V} {Q : Fl → Loc → St → Prop} (l : List V) (I : Nat → Loc → St → Prop) (h1 : f ρ σ = some (v, aT)) (h2 : I 0 ρ aT) (h3 : l.length < fuel) (h4 : ∀ k ρ σ, I k ρ σ → oL v σ k = some ((l.mapIdx fun k x => V.tup [.int (k : Nat), x])[k]?))
  (h5 : ∀ k x ρ σ, l[k]? = some x → I k ρ σ → sF a g (I (k + 1)) Q (.tup [.int (k : Nat), x]) ρ σ) (h6 : ∀ cI σ', I l.length cI σ' → sp r cI σ' Q) : sp (XS.seq (XS.jU f a g fuel) r) ρ σ Q := by
 have e : (l.mapIdx fun k x => V.tup [.int (k : Nat), x]).length = l.length := List.length_mapIdx
 refine iZ.mpr (Et ⟨v, aT, h1, _, I, h2, e ▸ h3, fun k ρ σ hI _ => h4 k ρ σ hI, fun k x ρ σ hx hI => ?_, e ▸ h6⟩)
 rw [List.getElem?_mapIdx] at hx
 obtain ⟨y, hy, rfl⟩ := Option.map_eq_some_iff.mp hx
 obtain ⟨h, q⟩ := h5 k y ρ σ hy hI
 exact ⟨_, _, h, q _ (fun _ _ h => h) fun _ _ _ h => h⟩
theorem take_snoc {α β : Type} {l : List α} {k : Nat} {x : α} (h : l[k]? = some x) (g : α → Option β) : (l.take (k + 1)).filterMap g = (l.take k).filterMap g ++ (g x).toList := by
 obtain ⟨hlt, e⟩ := List.getElem?_eq_some_iff.mp h
 rw [List.take_succ_eq_append_getElem hlt, e, List.filterMap_append, List.filterMap_cons]
 cases g x <;> rfl
theorem CH {α β : Type} {l : List α} {n : Nat} (g : α → Option β) (h : l.length ≤ n) : (l.filterMap g).length ≤ n := Nat.le_trans (List.length_filterMap_le g l) h
theorem BR {α : Type} {t : Option (X Bool)} {a : XA} {e : X V} {L : Loc → Prop} {x : α} {w : V} {out : α → Option V} {l : List α} {acc : List V} {j k : Nat} {K6 : St} (hj : K6.length ≤ j) (c : Jj t a e L w (out x) ρ σ) (E : bV K6 σ) (hx : l[k]? = some x) (g : getL σ j = some (acc ++ (l.take k).filterMap out)) (hz : acc.length + l.length ≤ 100000) :
  ap a w ρ σ fun B6 bH => xp (XC.test t) B6 bH fun b dQ => if b = true then lp (XC.emit e) j B6 dQ (fun ρ σ => A3 (L ρ) (bV K6 σ) (getL σ j = some (acc ++ (l.take (k + 1)).filterMap out))) else A3 (L B6) (bV K6 dQ) (getL dQ j = some (acc ++ (l.take (k + 1)).filterMap out)) := by
 rw [take_snoc hx, ← List.append_assoc]
 cases c with
 | skip h1 hL h2 ho E2 =>
  rw [ho]
  exact ⟨_, _, h1, _, _, h2, hL, E.then E2, (List.append_nil _).symm ▸ E2.getL g id⟩
 | put h1 hL h2 h3 ho E2 =>
  have g2 := E2.getL g id
  rw [ho]
  refine ⟨_, _, h1, _, _, h2, Cu.mpr ⟨_, _, h3, _, g2, ?_, hL, (E.then E2).trans (M' := fun i => i = j) (.set _ rfl) (fun i h => .inr (h ▸ hj)), c0 (bE g2)⟩⟩
  rw [List.length_append]
  exact Nat.le_trans (Nat.add_le_add_left (CH out (List.length_take_le' k l)) _) hz
theorem evMap {α : Type} {G : Prop} (L : Loc → Prop) {locs : List Nat} {f : X V} {a : XA} {t : Option (X Bool)} {e : X V} {fuel : Nat} {v : V} (l : List α) (inj : α → V) (out : α → Option V) (hL : L (KZ locs ρ)) (h3 : l.length ≤ 1000) (hs : Src v aT (l.map inj))
  (k : ∀ σ', X.fZ locs f a t e fuel ρ σ = some (.obj aT.length, σ') → bV aT σ' → getL σ' aT.length = some (l.filterMap out) → G) (h1 : f ρ σ = some (v, aT)) (h2 : l.length < fuel) (step : ∀ x cI σ', x ∈ l → L cI → bV aT σ' → Jj t a e L (inj x) (out x) cI σ') : G := by
 have : xp (X.fZ locs f a t e fuel) ρ σ fun r σ' => A3 (r = .obj aT.length) (bV aT σ') (getL σ' aT.length = some (l.filterMap out)) := by
  refine tD ⟨v, aT, h1, l.map inj, fun k ρ σ => A3 (L ρ) (bV aT σ) (getL σ aT.length = some ((l.take k).filterMap out)), ⟨hL, .push _, cE⟩, by rw [List.length_map]; exact h2, hs aT .refl 0 (Nat.zero_le _), fun k ρ σ I hk => hs σ I.h2 k hk, fun k x ρ σ hx I => ?_, fun ρ σ I => ⟨rfl, I.h2, ?_⟩⟩
  ·rw [List.getElem?_map] at hx
   obtain ⟨x, hy, rfl⟩ := Option.map_eq_some_iff.mp hx
   exact BR (acc := []) (Nat.le_refl _) (step x ρ σ (List.mem_of_getElem? hy) I.h1 I.h2) I.h2 hy I.h3 ((Nat.zero_add _).symm ▸ Nat.le_trans h3 (by decide))
  ·have := I.h3; rw [List.length_map, List.take_length] at this; exact this
 obtain ⟨_, σ', e, rfl, E, g⟩ := this
 exact k σ' e E g
end
noncomputable def vD (p : Int × Int) : V := .tup [.int p.1, .int p.2]
noncomputable def dv (rs : List (Int × Int)) : V := .tup (rs.map vD)
noncomputable def aX (rs : List (Int × Int)) : List Int := rs.flatMap fun p => rangeInts p.1 (p.2 + 1)
structure Small (rs : List (Int × Int)) : Prop where
 len : rs.length ≤ 20
 lo : ∀ p ∈ rs, -100 ≤ p.1 ∧ p.1 ≤ 100
 hi : ∀ p ∈ rs, -100 ≤ p.2 ∧ p.2 ≤ 100
theorem mem_rangeInts {a b x : Int} : x ∈ rangeInts a b ↔ a ≤ x ∧ x < b := by
 unfold rangeInts
 simp only [List.mem_map, List.mem_range]
 constructor
 ·rintro ⟨i, hi, rfl⟩
  exact ⟨Int.le_add_of_nonneg_right (Int.natCast_nonneg i), Int.add_lt_of_lt_sub_left (Int.lt_toNat.mp hi)⟩
 ·rintro ⟨h1, h2⟩
  refine ⟨(x - a).toNat, (Int.toNat_lt_toNat (Int.sub_pos_of_lt (Int.lt_of_le_of_lt h1 h2))).mpr (Int.sub_lt_sub_right h2 a), ?_⟩
  rw [Int.toNat_of_nonneg (Int.sub_nonneg_of_le h1), Int.add_comm, Int.sub_add_cancel]
theorem gQ {rs : List (Int × Int)} {x : Int} : x ∈ aX rs ↔ ∃ p ∈ rs, p.1 ≤ x ∧ x ≤ p.2 := by
 unfold aX
 simp only [List.mem_flatMap, mem_rangeInts]
 constructor
 ·rintro ⟨p, hp, h1, h2⟩; exact ⟨p, hp, h1, Int.le_of_lt_add_one h2⟩
 ·rintro ⟨p, hp, h1, h2⟩; exact ⟨p, hp, h1, Int.lt_add_one_of_le h2⟩
noncomputable def upto (rs : List (Int × Int)) (k : Int) : List (Int × Int) := rs.flatMap fun p => if p.1 ≤ k then [(p.1, if k < p.2 then k else p.2)] else []
noncomputable def dE (rs : List (Int × Int)) (k : Int) : List (Int × Int) := rs.flatMap fun p => if k ≤ p.2 then [(if k > p.1 then k else p.1, p.2)] else []
theorem q9 {α : Type} {P : Prop} [Decidable P] {x a : α} : x ∈ (if P then [a] else []) ↔ P ∧ x = a := by
 by_cases p : P
 ·rw [if_pos p, List.mem_singleton]; exact ⟨fun h => ⟨p, h⟩, fun h => h.2⟩
 ·rw [if_neg p]; exact ⟨fun h => (List.not_mem_nil h).elim, fun h => absurd h.1 p⟩
theorem t7 {rs : List (Int × Int)} {k : Int} {p : Int × Int} : p ∈ upto rs k ↔ ∃ q ∈ rs, q.1 ≤ k ∧ p = (q.1, if k < q.2 then k else q.2) := by
 unfold upto
 simp only [List.mem_flatMap, q9]
theorem n9 {rs : List (Int × Int)} {k : Int} {p : Int × Int} : p ∈ dE rs k ↔ ∃ q ∈ rs, k ≤ q.2 ∧ p = (if k > q.1 then k else q.1, q.2) := by
 unfold dE
 simp only [List.mem_flatMap, q9]
theorem LH (k y : Int) : A3 ((if k < y then k else y) ≤ y) ((if k < y then k else y) ≤ k) (∀ x, x ≤ k → x ≤ y → x ≤ if k < y then k else y) := by
 by_cases h : k < y
 ·rw [if_pos h]; exact ⟨Int.le_of_lt h, Int.le_refl _, fun _ a _ => a⟩
 ·rw [if_neg h]; exact ⟨Int.le_refl _, Int.not_lt.mp h, fun _ _ a => a⟩
theorem LG (k y : Int) : A3 (y ≤ if k > y then k else y) (k ≤ if k > y then k else y) (∀ x, k ≤ x → y ≤ x → (if k > y then k else y) ≤ x) := by
 by_cases h : k > y
 ·rw [if_pos h]; exact ⟨Int.le_of_lt h, Int.le_refl _, fun _ a _ => a⟩
 ·rw [if_neg h]; exact ⟨Int.le_refl _, Int.not_lt.mp h, fun _ _ a => a⟩
theorem pX {σ : St} {i : Nat} {l : List V} (h : getL σ i = some l) (h1 : l.length ≤ 100000) : gS (.obj i) σ = some (.tup l, σ) := by show (getL σ i).bind _ = _; rw [h]; exact if_pos h1
theorem DQ {α : Type} {rs : List (Int × Int)} {f : Int × Int → List α} (h : ∀ p, (f p).length ≤ 1) : (rs.flatMap f).length ≤ rs.length := by
 induction rs with
 | nil => simp
 | cons p rs ih =>
  rw [List.flatMap_cons, List.length_append, List.length_cons]
  have := h p
  lia
theorem Hd (rs : List (Int × Int)) (k : Int) : (upto rs k).length ≤ rs.length := DQ fun p => by split <;> simp
theorem Fe (rs : List (Int × Int)) (k : Int) : (dE rs k).length ≤ rs.length := DQ fun p => by split <;> simp
theorem Hc (rs : List (Int × Int)) (k : Int) : rs.filterMap (fun p => if p.1 ≤ k then some (vD (p.1, if k < p.2 then k else p.2)) else none) = (upto rs k).map vD := by
 induction rs with
 | nil => rfl
 | cons p rs ih =>
  show _ = List.map vD ((if p.1 ≤ k then _ else _) ++ upto rs k)
  rw [List.filterMap_cons, ih]
  by_cases h : p.1 ≤ k
  ·rw [if_pos h, if_pos h]; rfl
  ·rw [if_neg h, if_neg h]; rfl
theorem Fd (rs : List (Int × Int)) (k : Int) : rs.filterMap (fun p => if k ≤ p.2 then some (vD (if k > p.1 then k else p.1, p.2)) else none) = (dE rs k).map vD := by
 induction rs with
 | nil => rfl
 | cons p rs ih =>
  show _ = List.map vD ((if k ≤ p.2 then _ else _) ++ dE rs k)
  rw [List.filterMap_cons, ih]
  by_cases h : k ≤ p.2
  ·rw [if_pos h, if_pos h]; rfl
  ·rw [if_neg h, if_neg h]; rfl
theorem IN {rs : List (Int × Int)} {n m : Nat} (h : rs.length ≤ n) (h' : n ≤ m) : (rs.map vD).length ≤ m := by rw [List.length_map]; exact Nat.le_trans h h'
theorem Ep {σ : St} {rs : List (Int × Int)} {k : Int} (hs : Small rs) : wp (yI [dv rs, .int k] σ) fun r σ' => r = dv (upto rs k) ∧ bV σ σ' := by
 refine evMap (ρ := [some (dv rs), some (.int k), none, none]) (σ := σ) (fun ρ => E2 fun u v => ρ = [some (dv rs), some (.int k), u, v]) rs vD _ ⟨none, none, rfl⟩ (Nat.le_trans hs.len (by decide)) .tup (fun σ' e E g => ⟨_, _, sL (aN (aK e rfl) (pX g ?_)), (congrArg V.tup (Hc rs k)), E⟩) rfl (Nat.lt_of_le_of_lt hs.len (by decide)) ?_
 ·exact CH _ (Nat.le_trans hs.len (by decide))
 ·rintro p _ σ' _ ⟨u, v, rfl⟩ _
  by_cases h : p.1 ≤ k
  ·exact .put rfl ⟨_, _, rfl⟩ (aP (aQ rfl rfl (congrArg (fun b => some (V.bool b, σ')) (decide_eq_true h)))) rfl (if_pos h) .refl
  ·exact .skip rfl ⟨_, _, rfl⟩ (aP (aQ rfl rfl (congrArg (fun b => some (V.bool b, σ')) (decide_eq_false h)))) (if_neg h) .refl
theorem CG {σ : St} {rs : List (Int × Int)} {k : Int} (hs : Small rs) : wp (rG [dv rs, .int k] σ) fun r σ' => r = dv (dE rs k) ∧ bV σ σ' := by
 refine evMap (ρ := [some (dv rs), some (.int k), none, none]) (σ := σ) (fun ρ => E2 fun u v => ρ = [some (dv rs), some (.int k), u, v]) rs vD _ ⟨none, none, rfl⟩ (Nat.le_trans hs.len (by decide)) .tup (fun σ' e E g => ⟨_, _, sL (aN (aK e rfl) (pX g ?_)), (congrArg V.tup (Fd rs k)), E⟩) rfl (Nat.lt_of_le_of_lt hs.len (by decide)) ?_
 ·exact CH _ (Nat.le_trans hs.len (by decide))
 ·rintro p _ σ' _ ⟨u, v, rfl⟩ _
  by_cases h : k ≤ p.2
  ·exact .put rfl ⟨_, _, rfl⟩ (aP (aQ rfl rfl (congrArg (fun b => some (V.bool b, σ')) (decide_eq_true h)))) rfl (if_pos h) .refl
  ·exact .skip rfl ⟨_, _, rfl⟩ (aP (aQ rfl rfl (congrArg (fun b => some (V.bool b, σ')) (decide_eq_false h)))) (if_neg h) .refl
theorem B7 {σ : St} {rs : List (Int × Int)} {v : Int} (hs : Small rs) : wp (v8 [dv rs, .int v] σ) fun r σ' => r = dv (upto rs (v - 1) ++ dE rs (v + 1)) ∧ bV σ σ' := by
 obtain ⟨_, aT, e1, rfl, E1⟩ := Ep (σ := σ) (k := v - 1) hs
 obtain ⟨_, bH, e2, rfl, E2⟩ := CG (σ := aT) (k := v + 1) hs
 refine ⟨_, _, sL (aQ (aN rfl e1) (aN rfl e2) ?_), rfl, E1.then E2⟩
 unfold eJ dv
 dsimp only
 rw [if_pos ?_, List.map_append]
 have h1 := Hd rs (v - 1)
 have h2 := Fe rs (v + 1)
 have h3 := hs.len
 rw [List.length_map, List.length_map]; lia
structure Good (rs : List (Int × Int)) : Prop where
 each : ∀ p ∈ rs, p.1 ≤ p.2 ∧ -50 ≤ p.1 ∧ p.2 ≤ 50
 order : rs.Pairwise fun p q => p.2 < q.1
theorem Cf (a b : Int) : (rangeInts a b).Pairwise (· < ·) := by
 unfold rangeInts
 rw [List.pairwise_map]
 refine List.Pairwise.imp ?_ List.pairwise_lt_range
 intro i j h; lia
theorem Good.sorted {rs : List (Int × Int)} (g : Good rs) : (aX rs).Pairwise (· < ·) := by
 obtain ⟨ge, go⟩ := g
 induction rs with
 | nil => exact .nil
 | cons p rs ih =>
  rw [List.pairwise_cons] at go
  have ih := ih (fun q hq => ge q (.tail _ hq)) go.2
  show (rangeInts p.1 (p.2 + 1) ++ aX rs).Pairwise (· < ·)
  rw [List.pairwise_append]
  refine ⟨Cf _ _, ih, fun x hx y hy => ?_⟩
  rw [mem_rangeInts] at hx
  obtain ⟨q, hq, h1, _⟩ := gQ.mp hy
  have := go.1 q hq
  lia
theorem yS : ∀ {l m : List Int}, l.Pairwise (· < ·) → m.Pairwise (· < ·) → (∀ x, x ∈ l ↔ x ∈ m) → l = m
 | [], [], _, _, _ => rfl
 | [], b :: m, _, _, h => absurd ((h b).mpr (.head _)) (by simp)
 | a :: l, [], _, _, h => absurd ((h a).mp (.head _)) (by simp)
 | a :: l, b :: m, h1, h2, h => by
  rw [List.pairwise_cons] at h1 h2
  have e : a = b := by
   rcases List.mem_cons.mp ((h a).mp (.head _)) with x | x
   ·exact x
   ·rcases List.mem_cons.mp ((h b).mpr (.head _)) with y | y
    ·exact y.symm
    ·have := h1.1 b y
     have := h2.1 a x
     lia
  subst e
  congr 1
  refine yS h1.2 h2.2 fun x => ?_
  constructor
  ·intro hx
   rcases List.mem_cons.mp ((h x).mp (.tail _ hx)) with z | z
   ·have := h1.1 x hx; lia
   ·exact z
  ·intro hx
   rcases List.mem_cons.mp ((h x).mpr (.tail _ hx)) with z | z
   ·have := h2.1 x hx; lia
   ·exact z
theorem iP {rs : List (Int × Int)} {v x : Int} : x ∈ aX (upto rs (v - 1) ++ dE rs (v + 1)) ↔ x ∈ aX rs ∧ x ≠ v := by
 simp only [gQ, List.mem_append]
 constructor
 ·rintro ⟨p, hp | hp, h1, h2⟩
  ·obtain ⟨q, hq, hk, rfl⟩ := t7.mp hp
   exact ⟨⟨q, hq, h1, Int.le_trans h2 (LH _ _).h1⟩, Int.ne_of_lt (Int.lt_of_le_sub_one (Int.le_trans h2 (LH _ _).h2))⟩
  ·obtain ⟨q, hq, hk, rfl⟩ := n9.mp hp
   exact ⟨⟨q, hq, Int.le_trans (LG _ _).h1 h1, h2⟩, (Int.ne_of_lt (Int.lt_of_add_one_le (Int.le_trans (LG _ _).h2 h1))).symm⟩
 ·rintro ⟨⟨q, hq, h1, h2⟩, hne⟩
  by_cases h : x ≤ v - 1
  ·exact ⟨_, .inl (t7.mpr ⟨q, hq, Int.le_trans h1 h, rfl⟩), h1, (LH _ _).h3 _ h h2⟩
  ·have h' : v + 1 ≤ x := by lia
   exact ⟨_, .inr (n9.mpr ⟨q, hq, Int.le_trans h' h2, rfl⟩), (LG _ _).h3 _ h' h1, h2⟩
theorem Hu {α : Type} {R : α → α → Prop} {P : Prop} [Decidable P] {a : α} : (if P then [a] else []).Pairwise R := by
 by_cases p : P
 ·rw [if_pos p]; exact List.pairwise_singleton ..
 ·rw [if_neg p]; exact .nil
theorem Good.without {rs : List (Int × Int)} (g : Good rs) (v : Int) : Good (upto rs (v - 1) ++ dE rs (v + 1)) := by
 constructor
 ·intro p hp
  rcases List.mem_append.mp hp with hp | hp
  ·obtain ⟨q, hq, hk, rfl⟩ := t7.mp hp
   have e := g.each q hq
   exact ⟨(LH _ _).h3 _ hk e.1, e.2.1, Int.le_trans (LH _ _).h1 e.2.2⟩
  ·obtain ⟨q, hq, hk, rfl⟩ := n9.mp hp
   have e := g.each q hq
   exact ⟨(LG _ _).h3 _ hk e.1, Int.le_trans e.2.1 (LG _ _).h1, e.2.2⟩
 ·refine List.pairwise_append.mpr ⟨List.pairwise_flatMap.mpr ⟨fun _ _ => Hu, g.order.imp fun h x hx y hy => ?_⟩, List.pairwise_flatMap.mpr ⟨fun _ _ => Hu, g.order.imp fun h x hx y hy => ?_⟩, fun p hp q hq => ?_⟩
  ·obtain ⟨_, rfl⟩ := q9.mp hx
   obtain ⟨_, rfl⟩ := q9.mp hy
   exact Int.lt_of_le_of_lt (LH _ _).h1 h
  ·obtain ⟨_, rfl⟩ := q9.mp hx
   obtain ⟨_, rfl⟩ := q9.mp hy
   exact Int.lt_of_lt_of_le h (LG _ _).h1
  ·obtain ⟨_, _, _, rfl⟩ := t7.mp hp
   obtain ⟨_, _, _, rfl⟩ := n9.mp hq
   exact Int.lt_of_le_of_lt (LH _ _).h2 (Int.lt_of_lt_of_le (Int.lt_trans (Int.sub_one_lt_of_le (Int.le_refl v)) (Int.lt_add_one_of_le (Int.le_refl v))) (LG _ _).h2)
theorem Good.small {rs : List (Int × Int)} (g : Good rs) (h : (aX rs).length ≤ 20) : Small rs := by
 refine ⟨?_, fun p hp => ?_, fun p hp => ?_⟩
 ·refine Nat.le_trans ?_ h
  obtain ⟨ge, go⟩ := g
  clear h go
  induction rs with
  | nil => simp
  | cons p rs ih =>
   show rs.length + 1 ≤ (rangeInts p.1 (p.2 + 1) ++ aX rs).length
   rw [List.length_append]
   have h1 := ge p (.head _)
   have h2 := ih fun q hq => ge q (.tail _ hq)
   exact Nat.le_trans (Nat.le_of_eq (Nat.add_comm _ _)) (Nat.add_le_add (List.length_pos_of_mem (mem_rangeInts.mpr ⟨Int.le_refl p.1, Int.lt_add_one_of_le h1.1⟩)) h2)
 ·have e := g.each p hp; exact ⟨Int.le_trans (by decide) e.2.1, Int.le_trans e.1 (Int.le_trans e.2.2 (by decide))⟩
 ·have e := g.each p hp; exact ⟨Int.le_trans (by decide) (Int.le_trans e.2.1 e.1), Int.le_trans e.2.2 (by decide)⟩
theorem GV {σ : St} {j : Nat} {l : List V} {a b : Int} (h : getL σ j = some l) (h1 : l.length ≤ 100000) (ha : -1000 ≤ a ∧ a ≤ 1000) (hb : -1000 ≤ b ∧ b ≤ 1000) (h2 : b - a ≤ 1000) :
  uK [.obj j, .range a b] σ = some (.none, σ.set j (.list (l ++ (rangeInts a b).map .int))) := by
 show (getL σ j).bind _ = _
 rw [h, Option.bind_some]
 show (none <|> _) = _
 exact if_pos ⟨h1, by lia, small_one (by lia) (by lia) (by lia) (by lia)⟩
inductive OS (rs : List (Int × Int)) (σ : St) (k : Nat) (ρ : Loc) (σ' : St) : Prop
 | intro (e : E2 fun x y => ρ = [some (dv rs), some (.obj σ.length), x, y]) (E : bV σ σ') (g : getL σ' σ.length = some ((aX (rs.take k)).map .int))
theorem wA {σ : St} {rs : List (Int × Int)} (hs : Small rs) (hlen : (aX rs).length ≤ 1000) : wp (qO [dv rs] σ) fun r σ' => ∃ j, A4 (r = .obj j) (σ.length ≤ j) (getL σ' j = some ((aX rs).map .int)) (bV σ σ') := by
 refine wp_runF rfl (fQ (pZ rfl (Nat.zero_le _)) rfl (nE rs vD (OS rs σ) rfl ⟨⟨_, _, rfl⟩, .push _, cE⟩ (Nat.lt_of_le_of_lt hs.len (by decide)) (fun k ρ σ' _ _ => rfl) ?_ ?_))
 ·rintro k p ρ σ' hp ⟨⟨u, v, rfl⟩, E, hl⟩
  have hpm := List.mem_of_getElem? hp
  have hlo := hs.lo p hpm
  have hhi := hs.hi p hpm
  have hvt : aX (rs.take (k + 1)) = aX (rs.take k) ++ rangeInts p.1 (p.2 + 1) := by
   obtain ⟨hlt, e⟩ := List.getElem?_eq_some_iff.mp hp
   rw [List.take_succ_eq_append_getElem hlt, e]; unfold aX; rw [List.flatMap_append, List.flatMap_singleton]
  have hle : (aX (rs.take k)).length ≤ 1000 := by
   have : aX rs = aX (rs.take k) ++ aX (rs.drop k) := by
    unfold aX; rw [← List.flatMap_append, List.take_append_drop]
   rw [this, List.length_append] at hlen
   exact Nat.le_trans (Nat.le_add_right _ _) hlen
  have e := GV (a := p.1) (b := p.2 + 1) hl (by rw [List.length_map]; exact Nat.le_trans hle (by decide)) (by lia) (by lia) (by lia)
  exact ⟨rfl, fun Q' hn _ => jG (fD rfl (d6 hl) rfl e) rfl (dG (hn _ _ ⟨⟨_, _, rfl⟩, E.trans (M' := fun i => i = σ.length) (.set _ rfl) (fun i h => .inr (h ▸ Nat.le_refl _)), by rw [c0 (bE hl), hvt, List.map_append]⟩))⟩
 ·rintro ρ σ' ⟨⟨u, v, rfl⟩, E, hl⟩
  rw [List.take_length] at hl
  exact lK rfl ⟨_, rfl, Nat.le_refl _, hl, E⟩
structure kE (b : Int) (rs : List (Int × Int)) (m : Nat) : Prop where
 good : Good rs
 mem : ∀ x, x ∈ aX rs ↔ ∃ k, k < 5 ∧ m.testBit k = true ∧ x = b + (k : Nat)
noncomputable def vm (b : Int) (m : Nat) : List Int := ((List.range 5).filter fun k => m.testBit k).map fun k => b + (k : Nat)
theorem Bp (b : Int) (m : Nat) : (vm b m).Pairwise (· < ·) := by
 unfold vm
 rw [List.pairwise_map]
 refine List.Pairwise.imp ?_ (List.Pairwise.filter _ List.pairwise_lt_range)
 intro i j h; lia
theorem eW {b x : Int} {m : Nat} : x ∈ vm b m ↔ ∃ k, k < 5 ∧ m.testBit k = true ∧ x = b + (k : Nat) := by
 unfold vm
 simp only [List.mem_map, List.mem_filter, List.mem_range]
 constructor
 ·rintro ⟨k, ⟨h1, h2⟩, rfl⟩; exact ⟨k, h1, h2, rfl⟩
 ·rintro ⟨k, h1, h2, rfl⟩; exact ⟨k, ⟨h1, h2⟩, rfl⟩
theorem kE.vals {b : Int} {rs : List (Int × Int)} {m : Nat} (h : kE b rs m) : aX rs = vm b m := yS h.good.sorted (Bp b m) fun x => by rw [h.mem, eW]
theorem B8 (b : Int) (m : Nat) : (vm b m).length ≤ 5 := by
 unfold vm
 rw [List.length_map]
 exact Nat.le_trans (List.length_filter_le _ _) (by simp)
theorem kE.small {b : Int} {rs : List (Int × Int)} {m : Nat} (h : kE b rs m) : Small rs := h.good.small (by rw [h.vals]; have := B8 b m; lia)
noncomputable def dC (m k : Nat) : Nat := m &&& (31 - 2 ^ k)
theorem iB : ∀ m k j : Nat, k < 5 → j < 5 → (dC m k).testBit j = (m.testBit j && decide (j ≠ k)) := by
 intro m k j hk hj
 unfold dC
 rw [Nat.testBit_and]
 congr 1
 have : ∀ k < 5, ∀ j < 5, (31 - 2 ^ k).testBit j = decide (j ≠ k) := by decide
 exact this k hk j hj
theorem kE.without {b : Int} {rs : List (Int × Int)} {m k : Nat} (h : kE b rs m) (hk : k < 5) : kE b (upto rs (b + k - 1) ++ dE rs (b + k + 1)) (dC m k) := by
 refine ⟨h.good.without _, fun x => ?_⟩
 rw [iP, h.mem]
 constructor
 ·rintro ⟨⟨j, h1, h2, rfl⟩, hne⟩
  exact ⟨j, h1, by rw [iB m k j hk h1, h2]; simp; lia, rfl⟩
 ·rintro ⟨j, h1, h2, rfl⟩
  rw [iB m k j hk h1] at h2
  simp at h2
  exact ⟨⟨j, h1, h2.1, rfl⟩, by lia⟩
theorem JM (k : Nat) (p : Int × Int) : okV (k + 2) (vD p) = true := by
 show (okV (k + 1) (.int p.1) && (okV (k + 1) (.int p.2) && true)) = true
 rw [xX, xX]; rfl
theorem EK (k : Nat) (rs : List (Int × Int)) : okV (k + 3) (dv rs) = true := by
 show (rs.map vD).all (okV (k + 2)) = true
 rw [List.all_map, List.all_eq_true]
 intro p _
 exact JM _ _
theorem II : ∀ a b : List (Int × Int), yG (dv a) (dv b) = decide (a = b) := by
 intro a b
 show pC (a.map vD) (b.map vD) = _
 induction a generalizing b with
 | nil => cases b <;> rfl
 | cons p a ih =>
  cases b with
  | nil => rfl
  | cons q b =>
   obtain ⟨p1, p2⟩ := p
   obtain ⟨q1, q2⟩ := q
   show (((p1 == q1) && ((p2 == q2) && true)) && pC (a.map vD) (b.map vD)) = _
   rw [ih, Bool.eq_iff_iff]
   simp
theorem Nw {σ : St} {a b : List (Int × Int)} : oEq (dv a) (dv b) σ = some (.bool (decide (a = b)), σ) := by
 have h1 := EK 3 a
 have h2 := EK 3 b
 have h3 := II a b
 unfold oEq
 rw [show KW (dv a) (dv b) σ = some (yG (dv a) (dv b)) from IJ h1 h2, h3]; rfl
theorem cR {α : Type} [DecidableEq α] : ∀ {l m : List α}, l.Nodup → (∀ x ∈ l, x ∈ m) → l.length ≤ m.length
 | [], _, _, _ => Nat.zero_le _
 | a :: l, m, h, hs => by
  rw [List.nodup_cons] at h
  have ha : a ∈ m := hs a (.head _)
  have := cR (l := l) (m := m.erase a) h.2 fun x hx => (List.mem_erase_of_ne (by rintro rfl; exact h.1 hx)).mpr (hs x (.tail _ hx))
  have h2 := List.length_erase_of_mem ha
  have h3 := List.length_pos_of_mem ha
  simp only [List.length_cons]
  lia
noncomputable def mE (l : List (Int × V)) : Prop := (∀ p ∈ l, -100 ≤ p.1 ∧ p.1 < 100) ∧ (l.map (·.1)).Nodup
theorem mE.len {l : List (Int × V)} (h : mE l) : l.length ≤ 200 := by
 have := cR (m := (List.range 200).map fun i => ((i : Nat) : Int) - 100) h.2 fun x hx => by
  obtain ⟨p, hp, rfl⟩ := List.mem_map.mp hx
  have := h.1 p hp
  exact List.mem_map.mpr ⟨(p.1 + 100).toNat, by simp; lia, by lia⟩
 simpa using this
theorem mE.set {l : List (Int × V)} (h : mE l) {x : Int} (v : V) (h0 : -100 ≤ x) (h1 : x < 100) : mE (eU l x v) := by
 unfold eU
 split
 ·refine ⟨fun p hp => ?_, ?_⟩
  ·obtain ⟨q, hq, rfl⟩ := List.mem_map.mp hp
   split <;> exact h.1 q hq
  ·rw [List.map_map]
   have : ((fun x : Int × V => x.1) ∘ fun p => if p.1 = x then (p.1, v) else p) = fun p => p.1 := funext fun p => by
    simp only [Function.comp]; split <;> rfl
   rw [this]; exact h.2
 ·rename_i hany
  refine ⟨fun p hp => ?_, ?_⟩
  ·rcases List.mem_append.mp hp with hp | hp
   ·exact h.1 p hp
   ·simp only [List.mem_singleton] at hp; subst hp; exact ⟨h0, h1⟩
  ·rw [List.map_append, List.nodup_append]
   refine ⟨h.2, by simp, fun a ha b hb => ?_⟩
   simp at hb; subst hb
   rintro rfl
   obtain ⟨q, hq, e⟩ := List.mem_map.mp ha
   exact hany (List.any_eq_true.mpr ⟨q, hq, by simpa using e⟩)
noncomputable def sd (a f t mk nw : Nat) (failed : Bool) (clash : List V) : List (Nat × V) := [(19, .obj a), (18, .obj f), (17, .obj t), (16, .obj mk), (15, .obj nw), (14, .int (-1)), (13, .bool failed), (12, .tup clash)]
structure SV (σ : St) (i a f t mk nw : Nat) (doms firsts : List (List (Int × Int))) (trail marks : List V) (failed : Bool) (clash : List V) : Prop where
 hs : bT σ i = some (sd a f t mk nw failed clash)
 hd : getL σ a = some (doms.map dv)
 hf : getL σ f = some (firsts.map dv)
 ht : getL σ t = some trail
 hm : getL σ mk = some marks
 hn : ∃ l, eF σ nw = some l ∧ mE l
 ne : [i, a, f, t, mk, nw].Nodup
section
variable {σ σ' : St} {i a f t mk nw : Nat} {doms firsts : List (List (Int × Int))} {trail marks : List V} {failed : Bool} {clash : List V} {M : Nat → Prop}
theorem SV.ext (s : SV σ i a f t mk nw doms firsts trail marks failed clash) (e : Ext M σ σ') (h : ∀ j ∈ [i, a, f, t, mk, nw], ¬ M j) : SV σ' i a f t mk nw doms firsts trail marks failed clash := by
 simp only [List.mem_cons, List.not_mem_nil, or_false, forall_eq_or_imp, forall_eq] at h
 obtain ⟨h1, h2, h3, h4, h5, h6⟩ := h
 obtain ⟨l, hl, hn⟩ := s.hn
 exact ⟨e.bT s.hs h1, e.getL s.hd h2, e.getL s.hf h3, e.getL s.ht h4, e.getL s.hm h5, ⟨l, e.eF hl h6, hn⟩, s.ne⟩
theorem SV.dY (s : SV σ i a f t mk nw doms firsts trail marks failed clash) (e : bV σ σ') : SV σ' i a f t mk nw doms firsts trail marks failed clash := s.ext e fun _ _ h => h
theorem SV.attr {Q : V → St → Prop} (s : SV σ i a f t mk nw doms firsts trail marks failed clash) {k : Nat} {v : V} (h : fJ (sd a f t mk nw failed clash) k = some v) : wp (wJ 0 k (.inst 0 i) σ) Q ↔ Q v σ := by
 rw [bC s.hs h, wp_some]
theorem SV.inst (s : SV σ i a f t mk nw doms firsts trail marks failed clash) {k : Nat} (h : fJ (sd a f t mk nw failed clash) k = none) : tB 0 k (.inst 0 i) σ = some (.inst 0 i, σ) := f4 s.hs h
structure Jf (i a f t m n : Nat) : Prop where
 ia : i ≠ a
 jf : i ≠ f
 it : i ≠ t
 im : i ≠ m
 jn : i ≠ n
 af : a ≠ f
 ta : t ≠ a
 am : a ≠ m
 an : a ≠ n
 ft : f ≠ t
 fm : f ≠ m
 fn : f ≠ n
 tm : t ≠ m
 tn : t ≠ n
 mn : m ≠ n
theorem SV.nq (s : SV σ i a f t mk nw doms firsts trail marks failed clash) : Jf i a f t mk nw := by
 have hne := s.ne
 simp only [List.nodup_cons, List.mem_cons, List.not_mem_nil, or_false, not_or] at hne
 obtain ⟨⟨h1, h2, h3, h4, h5⟩, ⟨h6, h7, h8, h9⟩, ⟨h10, h11, h12⟩, ⟨h13, h14⟩, h15, _⟩ := hne
 exact ⟨h1, h2, h3, h4, h5, h6, Ne.symm h7, h8, h9, h10, h11, h12, h13, h14, h15⟩
theorem SV.Jw (s : SV σ i a f t mk nw doms firsts trail marks failed clash) (b : Bool) (c : List V) : SV (σ.set i (.aV (sd a f t mk nw b c))) i a f t mk nw doms firsts trail marks b c :=
 let n := s.nq
 let ⟨l, hl, ok⟩ := s.hn
 ⟨j7 (fC s.hs), (bR n.ia.symm).trans s.hd, (bR n.jf.symm).trans s.hf, (bR n.it.symm).trans s.ht, (bR n.im.symm).trans s.hm, ⟨l, (k5 n.jn.symm).trans hl, ok⟩, s.ne⟩
theorem SV.Lf {d : List (List (Int × Int))} {l : List V} (s : SV σ i a f t mk nw doms firsts trail marks failed clash) (e : l = d.map dv) : SV (σ.set a (.list l)) i a f t mk nw d firsts trail marks failed clash :=
 let n := s.nq
 let ⟨l, hl, ok⟩ := s.hn
 e ▸ ⟨(oH n.ia).trans s.hs, c0 (bE s.hd), (bR n.af.symm).trans s.hf, (bR n.ta).trans s.ht, (bR n.am.symm).trans s.hm, ⟨l, (k5 n.an.symm).trans hl, ok⟩, s.ne⟩
theorem SV.N7 {d : List (List (Int × Int))} {l : List V} (s : SV σ i a f t mk nw doms firsts trail marks failed clash) (e : l = d.map dv) : SV (σ.set f (.list l)) i a f t mk nw doms d trail marks failed clash :=
 let n := s.nq
 let ⟨l, hl, ok⟩ := s.hn
 e ▸ ⟨(oH n.jf).trans s.hs, (bR n.af).trans s.hd, c0 (bE s.hf), (bR n.ft.symm).trans s.ht, (bR n.fm.symm).trans s.hm, ⟨l, (k5 n.fn.symm).trans hl, ok⟩, s.ne⟩
theorem SV.ME (s : SV σ i a f t mk nw doms firsts trail marks failed clash) (l : List V) : SV (σ.set t (.list l)) i a f t mk nw doms firsts l marks failed clash :=
 let n := s.nq
 let ⟨l, hl, ok⟩ := s.hn
 ⟨(oH n.it).trans s.hs, (bR n.ta.symm).trans s.hd, (bR n.ft).trans s.hf, c0 (bE s.ht), (bR n.tm.symm).trans s.hm, ⟨l, (k5 n.tn.symm).trans hl, ok⟩, s.ne⟩
theorem SV.setM (s : SV σ i a f t mk nw doms firsts trail marks failed clash) (l : List V) : SV (σ.set mk (.list l)) i a f t mk nw doms firsts trail l failed clash :=
 let n := s.nq
 let ⟨l, hl, ok⟩ := s.hn
 ⟨(oH n.im).trans s.hs, (bR n.am).trans s.hd, (bR n.fm).trans s.hf, (bR n.tm).trans s.ht, c0 (bE s.hm), ⟨l, (k5 n.mn.symm).trans hl, ok⟩, s.ne⟩
theorem SV.N6 {l l' : List (Int × V)} (s : SV σ i a f t mk nw doms firsts trail marks failed clash) (h : eF σ nw = some l') (ok : mE l) : SV (σ.set nw (.cA l)) i a f t mk nw doms firsts trail marks failed clash :=
 let n := s.nq
 ⟨(oH n.jn).trans s.hs, (bR n.an).trans s.hd, (bR n.fn).trans s.hf, (bR n.tn).trans s.ht, (bR n.mn).trans s.hm, ⟨l, lU (iJ h), ok⟩, s.ne⟩
theorem Iq {α : Type} {g : α → V} {j : Nat} {l : List α} (h : getL σ j = some (l.map g)) (h1 : l.length ≤ 1000) : gJ (.obj j) σ = some (.int l.length, σ) := by
 rw [jO h (by rw [List.length_map]; exact Nat.le_trans h1 (by decide)), List.length_map]
theorem Jv (s : SV σ i a f t mk nw doms firsts trail marks failed clash) (h : doms.length ≤ 1000) : oS [.inst 0 i] σ = some (.int doms.length, σ) :=
 sL (aN (aK (bP rfl (bC s.hs rfl)) rfl) (Iq s.hd h))
theorem zP {l : List (List (Int × Int))} {j x : Nat} (g : getL σ j = some (l.map dv)) (hx : x < l.length) (h : l.length ≤ 1000) : iU (.obj j) (.int x) σ = some (dv l[x], σ) := by
 rw [lQ g, iD (by rw [List.length_map]; exact hx) (Nat.lt_of_lt_of_le hx (Nat.le_trans h (by decide))), List.getElem_map]; rfl
theorem DU (s : SV σ i a f t mk nw doms firsts trail marks failed clash) {x : Nat} (hx : x < doms.length) (h : doms.length ≤ 1000) : wp (kD [.inst 0 i, .int x] σ) fun r σ' => r = dv doms[x] ∧ σ' = σ :=
 ⟨_, _, sL (bN (bP rfl (bC s.hs rfl)) rfl (zP s.hd hx h)), rfl, rfl⟩
theorem CC (s : SV σ i a f t mk nw doms firsts trail marks failed clash) {x : Nat} (hx : x < firsts.length) (h : firsts.length ≤ 1000) : wp (kN [.inst 0 i, .int x] σ) fun r σ' => r = dv firsts[x] ∧ σ' = σ :=
 ⟨_, _, sL (bN (bP rfl (bC s.hs rfl)) rfl (zP s.hf hx h)), rfl, rfl⟩
theorem BN (s : SV σ i a f t mk nw doms firsts trail marks failed clash) (rs : List V) : wp (hJ [.inst 0 i, .tup rs] σ) fun r σ' => A3 (r = .bool false) (SV σ' i a f t mk nw doms firsts trail marks true rs) (Ext (fun j => j = i) σ σ') :=
 have s1 := s.Jw true clash
 wp_runF rfl (fQ rfl (I7 rfl (jV s.hs (Nat.le_of_ble_eq_true rfl))) (fQ (aN rfl rfl) (I7 rfl (jV s1.hs (Nat.le_of_ble_eq_true rfl))) (lK rfl ⟨rfl, s1.Jw true rs, .then (.set _ rfl) (.set _ rfl)⟩)))
theorem C3 {rs : List (Int × Int)} {x v : Int} (hs : Small rs) : wp (AI [.tup [.int x, .str 51, .int v], dv rs] σ) fun r σ' => r = dv (upto rs (v - 1) ++ dE rs (v + 1)) ∧ bV σ σ' :=
 let ⟨_, _, e, h, E⟩ := B7 hs
 wp_runF rfl (fQ rfl rfl (cZ rfl (cZ rfl (lK (LV rfl (aN rfl e)) ⟨h, E⟩))))
end
section
variable {σ σ' : St} {i a f t mk nw : Nat} {doms firsts : List (List (Int × Int))} {trail marks : List V} {failed : Bool} {clash : List V} {M : Nat → Prop}
theorem SV.neq (s : SV σ i a f t mk nw doms firsts trail marks failed clash) : (i ≠ a ∧ i ≠ f ∧ i ≠ t ∧ i ≠ mk ∧ i ≠ nw) ∧ (a ≠ f ∧ a ≠ t ∧ a ≠ mk ∧ a ≠ nw) ∧ (f ≠ t ∧ f ≠ mk ∧ f ≠ nw) ∧ (t ≠ mk ∧ t ≠ nw) ∧ mk ≠ nw :=
 let n := s.nq
 ⟨⟨n.ia, n.jf, n.it, n.im, n.jn⟩, ⟨n.af, n.ta.symm, n.am, n.an⟩, ⟨n.ft, n.fm, n.fn⟩, ⟨n.tm, n.tn⟩, n.mn⟩
theorem eqF {a b : List (Int × Int)} (h : a ≠ b) : oEq (dv a) (dv b) σ = some (.bool false, σ) := by rw [Nw, decide_eq_false h]
theorem C7 {α : Type} {g : α → V} {l : List α} {x : α} : l.map g ++ [g x] = (l ++ [x]).map g := by rw [List.map_append]; rfl
theorem FS {α : Type} {g : α → V} {l : List α} {n m : Nat} (h : l.length ≤ n) (h' : n ≤ m) : (l.map g).length ≤ m := by rw [List.length_map]; exact Nat.le_trans h h'
theorem Ct (s : SV σ i a f t mk nw doms firsts trail marks failed clash) {rs : List (Int × Int)} (h0 : rs ≠ []) (h1 : doms.length ≤ 100) (h2 : firsts.length ≤ 100) :
  wp (eR [.inst 0 i, dv rs] σ) fun r σ' => A3 (∃ x, r = .int x) (SV σ' i a f t mk nw (doms ++ [rs]) (firsts ++ [rs]) trail marks failed clash) (Ext (fun j => j = a ∨ j = f) σ σ') :=
 have s1 := s.Lf (d := doms ++ [rs]) C7
 have s2 := s1.N7 (d := firsts ++ [rs]) C7
 have hl : (doms ++ [rs]).length ≤ 1000 := by rw [List.length_append]; exact Nat.le_trans (Nat.add_le_add_right h1 1) (by decide)
 wp_runF rfl (jG (fD (bP rfl (bC s.hs rfl)) (d6 s.hd) rfl (fG s.hd (FS h1 (by decide)))) rfl
  (jG (fD (bP rfl (bC s1.hs rfl)) (d6 s1.hf) rfl (fG s1.hf (FS h2 (by decide)))) rfl
  (cZ (aP (aQ rfl rfl (eqF (b := []) h0))) (lK (aQ (aN (aK (bP rfl (bC s2.hs rfl)) rfl) (Iq s2.hd hl)) rfl rfl) ⟨⟨_, rfl⟩, s2, .then (.set _ (.inl rfl)) (.set _ (.inr rfl))⟩))))
theorem IO {K : Type} [DecidableEq K] (l : List (K × V)) (k : K) (v : V) : (eU l k v).length ≤ l.length + 1 := by
 unfold eU; split <;> simp
theorem Al (s : SV σ i a f t mk nw doms firsts trail marks failed clash) {x : Nat} {rs : List (Int × Int)} {v sp : Int} {qS : V} (hx : doms[x]? = some rs) (hs : Small rs) (h1 : doms.length ≤ 100) (h2 : trail.length ≤ 1000)
  (hk : upto rs (v - 1) ++ dE rs (v + 1) ≠ []) (hd : upto rs (v - 1) ++ dE rs (v + 1) ≠ rs) :
  wp (jW [.inst 0 i, .tup [.int x, .str 51, .int v], qS, .int sp] σ) fun r σ' => A3 (r = .bool true) (SV σ' i a f t mk nw (doms.set x (upto rs (v - 1) ++ dE rs (v + 1))) firsts (trail ++ [.tup [.int x, dv rs, .tup [.int x, .str 51, .int v], qS, .int sp]]) marks failed clash) (Ext (fun j => j = a ∨ j = t ∨ j = nw) σ σ') := by
 obtain ⟨hlt, rfl⟩ := List.getElem?_eq_some_iff.mp hx
 obtain ⟨_, aT, e1, rfl, E1⟩ := C3 (σ := σ) (x := x) hs
 have s1 := s.dY E1
 have s2 := s1.ME (trail ++ [.tup [.int x, dv doms[x], .tup [.int x, .str 51, .int v], qS, .int sp]])
 have s3 := s2.Lf (d := doms.set x (upto doms[x] (v - 1) ++ dE doms[x] (v + 1))) List.map_set.symm
 obtain ⟨nl, hn, ok⟩ := s3.hn
 have hx1 := Nat.lt_of_lt_of_le hlt h1
 have hx2 : (x : Int) < 100 := Int.ofNat_lt.mpr hx1
 have e3 : mA (.obj a) (.int x) (dv (upto doms[x] (v - 1) ++ dE doms[x] (v + 1))) _ = some _ := vA s2.hd (Int.natCast_nonneg x) (Int.lt_trans hx2 (by decide)) (by rw [List.length_map]; exact hlt)
 refine wp_runF rfl (fQ rfl rfl (fQ (bN (bP rfl (bC s.hs rfl)) rfl (zP s.hd hlt (Nat.le_trans h1 (by decide)))) rfl (fQ (aN rfl e1) rfl (cZ (aP (aQ rfl rfl (eqF (b := []) hk))) (cZ (aP (aQ rfl rfl (eqF hd)))
  (jG (fD (bP rfl (bC s1.hs rfl)) (d6 s1.ht) rfl (fG s1.ht (Nat.le_trans h2 (by decide)))) rfl (fQ rfl (Gb (bP rfl (bC s2.hs rfl)) rfl e3)
  (fQ rfl (Gb (bP rfl (bC s3.hs rfl)) rfl (vB hn (Nat.le_trans ok.len (by decide)))) (lK rfl ⟨rfl, s3.N6 hn (ok.set (.bool true) (Int.le_trans (by decide) (Int.natCast_nonneg x)) hx2), E1.of0.then (.then (.set _ (.inr (.inl rfl))) (.then (.set _ (.inl rfl)) (.set _ (.inr (.inr rfl)))))⟩)))))))))
theorem C4 (s : SV σ i a f t mk nw doms firsts trail marks failed clash) {x : Nat} {rs : List (Int × Int)} {v : Int} {qS : List V} (hx : doms[x]? = some rs) (hs : Small rs) (h1 : doms.length ≤ 100) (h2 : trail.length ≤ 1000)
  (hk : upto rs (v - 1) ++ dE rs (v + 1) ≠ []) (hd : upto rs (v - 1) ++ dE rs (v + 1) ≠ rs) :
  wp (gW [.inst 0 i, .tup [.int x, .str 51, .int v], .tup qS] σ) fun r σ' => A3 (r = .bool true) (SV σ' i a f t mk nw (doms.set x (upto rs (v - 1) ++ dE rs (v + 1))) firsts (trail ++ [.tup [.int x, dv rs, .tup [.int x, .str 51, .int v], .tup qS, .int (-1)]]) marks failed clash) (Ext (fun j => j = a ∨ j = t ∨ j = nw) σ σ') :=
 let ⟨_, _, e, h⟩ := Al s hx hs h1 h2 hk hd
 ⟨_, _, sL (c9 rfl (s.inst rfl) (aK rfl (aK (aN rfl rfl) (aK (bP rfl (bC s.hs rfl)) rfl))) e), h⟩
theorem DW (s : SV σ i a f t mk nw doms firsts trail marks failed clash) {x : Nat} {rs : List (Int × Int)} {v : Int} (hx : doms[x]? = some rs) (hs : Small rs) (h1 : doms.length ≤ 100) (h2 : trail.length ≤ 1000)
  (hk : upto rs (v - 1) ++ dE rs (v + 1) ≠ []) (hd : upto rs (v - 1) ++ dE rs (v + 1) ≠ rs) :
  wp (jB [.inst 0 i, .tup [.int x, .str 51, .int v]] σ) fun r σ' => A3 (r = .bool true) (SV σ' i a f t mk nw (doms.set x (upto rs (v - 1) ++ dE rs (v + 1))) firsts (trail ++ [.tup [.int x, dv rs, .tup [.int x, .str 51, .int v], .none, .int (-1)]]) marks failed clash) (Ext (fun j => j = a ∨ j = t ∨ j = nw) σ σ') :=
 let ⟨_, _, e, h⟩ := Al s hx hs h1 h2 hk hd
 ⟨_, _, sL (c9 rfl (s.inst rfl) rfl e), h⟩
theorem GD (s : SV σ i a f t mk nw doms firsts trail marks failed clash) (h1 : trail.length ≤ 1000) (h2 : marks.length ≤ 1000) :
  wp (lA [.inst 0 i] σ) fun r σ' => A3 (r = .none) (SV σ' i a f t mk nw doms firsts trail (marks ++ [.int trail.length]) failed clash) (Ext (fun j => j = mk) σ σ') :=
 wp_runF rfl (jG (fD (bP rfl (bC s.hs rfl)) (d6 s.hm) (aK (aN (aK (bP rfl (bC s.hs rfl)) rfl) (jO s.ht (Nat.le_trans h1 (by decide)))) rfl) (fG s.hm (Nat.le_trans h2 (by decide)))) rfl
  (dG ⟨rfl, s.setM _, .set _ rfl⟩))
end
inductive Tr (D0 : List (List (Int × Int))) : List V → List (List (Int × Int)) → Prop
 | nil : Tr D0 [] D0
 | snoc {es : List V} {D : List (List (Int × Int))} {x : Nat} {old new : List (Int × Int)} {lit rs sp : V} : Tr D0 es D → D[x]? = some old → Tr D0 (es ++ [.tup [.int x, dv old, lit, rs, sp]]) (D.set x new)
theorem Tr.length {D0 D : List (List (Int × Int))} {es : List V} (h : Tr D0 es D) : D.length = D0.length := by
 induction h with
 | nil => rfl
 | snoc _ _ ih => simpa using ih
theorem Tr.nil_eq {D0 D : List (List (Int × Int))} (h : Tr D0 [] D) : D = D0 := by
 generalize e : ([] : List V) = es at h
 cases h with
 | nil => rfl
 | snoc _ _ => simp at e
theorem Tr.append {D0 D1 D2 : List (List (Int × Int))} {es fs : List V} (h : Tr D0 es D1) (g : Tr D1 fs D2) : Tr D0 (es ++ fs) D2 := by
 induction g with
 | nil => simpa using h
 | snoc _ e ih => rw [← List.append_assoc]; exact .snoc ih e
theorem Tr.last {D0 D : List (List (Int × Int))} {es : List V} (h : Tr D0 es D) (hne : es ≠ []) : ∃ es' D' x old lit rs sp, es = es' ++ [.tup [.int (x : Nat), dv old, lit, rs, sp]] ∧ x < D'.length ∧ D.set x old = D' ∧ Tr D0 es' D' := by
 cases h with
 | nil => exact absurd rfl hne
 | snoc h' e =>
  rename_i es' D' x old new lit rs sp
  obtain ⟨hlt, he⟩ := List.getElem?_eq_some_iff.mp e
  refine ⟨es', D', x, old, lit, rs, sp, rfl, hlt, ?_, h'⟩
  rw [List.set_set]
  apply List.ext_getElem?
  intro j
  by_cases hj : j = x
  ·subst hj; simp [hlt, he]
  ·rw [List.getElem?_set_ne (Ne.symm hj)]
section
variable {σ σ' : St} {i a f t mk nw : Nat} {doms firsts : List (List (Int × Int))} {trail marks : List V} {failed : Bool} {clash : List V} {M : Nat → Prop}
theorem GN {j : Nat} (h : getL σ j = some (firsts.map dv)) (h0 : ∀ r ∈ firsts, r ≠ []) : oIn (.tup []) (.obj j) σ = some (.bool false, σ) := by
 have h1 : (firsts.map dv).all (okV 6) = true := by
  simp only [List.all_map, List.all_eq_true]
  intro r _
  exact EK 3 r
 have h2 : (firsts.map dv).any (fun y => yG y (.tup [])) = false := by
  rw [List.any_eq_false]
  intro y hy
  obtain ⟨r, hr, rfl⟩ := List.mem_map.mp hy
  have := II r []
  show ¬ (yG (dv r) (.tup []) = true)
  rw [show (V.tup [] : V) = dv [] from rfl, this]
  simp [h0 r hr]
 unfold oIn
 rw [KJ h, h1, h2]; rfl
theorem SV.lt {σ : St} {i a f t mk nw : Nat} {doms firsts : List (List (Int × Int))} {trail marks : List V} {failed : Bool} {clash : List V} (s : SV σ i a f t mk nw doms firsts trail marks failed clash) : ∀ z ∈ [i, a, f, t, mk, nw], z < σ.length := by
 obtain ⟨nl, hnl, _⟩ := s.hn
 intro z hz
 simp only [List.mem_cons, List.not_mem_nil, or_false] at hz
 rcases hz with rfl | rfl | rfl | rfl | rfl | rfl
 ·exact fC s.hs
 ·exact bE s.hd
 ·exact bE s.hf
 ·exact bE s.ht
 ·exact bE s.hm
 ·exact iJ hnl
theorem Jf.nodup {m n : Nat} (h : Jf i a f t m n) : [i, a, f, t, m, n].Nodup := by
 obtain ⟨h1, h2, h3, h4, h5, h6, h7, h8, h9, h10, h11, h12, h13, h14, h15⟩ := h
 simp only [List.nodup_cons, List.mem_cons, List.not_mem_nil, or_false, not_or]
 exact ⟨⟨h1, h2, h3, h4, h5⟩, ⟨h6, Ne.symm h7, h8, h9⟩, ⟨h10, h11, h12⟩, ⟨h13, h14⟩, h15, id, .nil⟩
theorem SV.Of (s : SV σ i a f t mk nw doms firsts trail marks failed clash) (l : List V) : SV ((σ ++ [O.list l]).set i (.aV (sd a f t σ.length nw failed clash))) i a f t σ.length nw doms firsts trail l failed clash :=
 let n := s.nq
 let ⟨_, hl, ok⟩ := s.hn
 have s1 := s.dY (.push (O.list l))
 have li := fC s.hs
 have ne {j : Nat} (h : j < σ.length) : j ≠ σ.length := Nat.ne_of_lt h
 ⟨j7 (fC s1.hs), (bR n.ia.symm).trans s1.hd, (bR n.jf.symm).trans s1.hf, (bR n.it.symm).trans s1.ht, (bR (Ne.symm (ne li))).trans cE, ⟨_, (k5 n.jn.symm).trans (Ext.eF (.push (M := fun _ => False) (O.list l)) hl id), ok⟩,
  Jf.nodup ⟨n.ia, n.jf, n.it, ne li, n.jn, n.af, n.ta, ne (bE s.hd), n.an, n.ft, ne (bE s.hf), n.fn, ne (bE s.ht), n.tn, Ne.symm (ne (iJ hl))⟩⟩
theorem SV.Oe (s : SV σ i a f t mk nw doms firsts trail marks failed clash) : SV ((σ ++ [O.cA []]).set i (.aV (sd a f t mk σ.length failed clash))) i a f t mk σ.length doms firsts trail marks failed clash :=
 let n := s.nq
 have s1 := s.dY (.push (O.cA []))
 have li := fC s.hs
 have ne {j : Nat} (h : j < σ.length) : j ≠ σ.length := Nat.ne_of_lt h
 ⟨j7 (fC s1.hs), (bR n.ia.symm).trans s1.hd, (bR n.jf.symm).trans s1.hf, (bR n.it.symm).trans s1.ht, (bR n.im.symm).trans s1.hm, ⟨_, (k5 (Ne.symm (ne li))).trans uG, fun _ h => (List.not_mem_nil h).elim, .nil⟩,
  Jf.nodup ⟨n.ia, n.jf, n.it, n.im, ne li, n.af, n.ta, n.am, ne (bE s.hd), n.ft, n.fm, ne (bE s.hf), n.tm, ne (bE s.ht), ne (bE s.hm)⟩⟩
theorem IA {j : Nat} {l : List V} {v : V} (h : getL σ j = some (l ++ [v])) (h1 : (l ++ [v]).length ≤ 100000) : Ff [.obj j] σ = some (v, σ.set j (.list l)) := by
 show (getL σ j).bind _ = _
 rw [h, Option.bind_some, if_pos h1, List.getLast?_concat, List.dropLast_concat]; rfl
theorem PG {x : Int} : Kn (.int x) (.int x) σ = some (.bool false, σ) := congrArg (fun b => some (V.bool b, σ)) (decide_eq_false (Int.lt_irrefl x))
theorem PF {x y : Int} (h : y < x) : Kn (.int x) (.int y) σ = some (.bool true, σ) := congrArg (fun b => some (V.bool b, σ)) (decide_eq_true h)
inductive O3 (D0 firsts : List (List (Int × Int))) (σ : St) (i a f t nw : Nat) (trail marks : List V) (failed : Bool) (clash : List V) (m : Nat) (ρ : Loc) (σ' : St) (es : List V) (D : List (List (Int × Int))) (u : Option V) : Prop
 | intro (e : ρ = [some (.inst 0 i), some (.int 1), some (.int trail.length), u]) (m : es.length = m) (T : Tr D0 es D) (len : (trail ++ es).length ≤ 900) (d : D.length ≤ 900) (s : SV σ' i a f t σ.length nw D firsts (trail ++ es) marks failed clash) (E : Ext (fun j => j = i ∨ j = a ∨ j = t) σ σ')
theorem Hw {D0 : List (List (Int × Int))} {es : List V} (s : SV σ i a f t mk nw doms firsts (trail ++ es) (marks ++ [.int trail.length]) failed clash) (h : Tr D0 es doms) (h1 : (trail ++ es).length ≤ 900) (h2 : marks.length ≤ 900) (h3 : doms.length ≤ 900) (h0 : ∀ r ∈ firsts, r ≠ []) :
  wp (mU [.inst 0 i, .int 1] σ) fun r σ' => A3 (r = .none) (E2 fun mk' Bb => A3 (σ.length ≤ mk') (σ.length ≤ Bb) (SV σ' i a f t mk' Bb D0 firsts trail marks false [])) (Ext (fun j => j = i ∨ j = a ∨ j = t) σ σ') := by
 have hml : (marks ++ [V.int trail.length]).length = marks.length + 1 := List.length_append
 have h4 : marks.length < 1000 := Nat.lt_of_le_of_lt h2 (by decide)
 have ea := bC (c := 0) (n := 16) s.hs rfl
 have el : X.bin rL (X.call (bW gJ) (X.aB (X.attr 0 16 (X.var 0)) X.aH)) (X.var 1) [some (.inst 0 i), some (.int 1), none, none] σ = some (.int (marks.length : Nat), σ) :=
  aQ (aN (aK ea rfl) (jO s.hm (by rw [hml]; exact Nat.le_trans h4 (by decide)))) rfl (by rw [hml, ← Int.add_sub_cancel (marks.length : Int) 1]; rfl)
 have e3 : iU (.obj mk) (.int (marks.length : Nat)) σ = some (.int trail.length, σ) := by
  rw [lQ s.hm, iD (by rw [hml]; exact Nat.lt_succ_self _) (Nat.lt_trans h4 (by decide)), List.getElem_concat_length rfl]; rfl
 have hsl : gP (.obj mk) none (some ((marks.length : Nat) : Int)) σ = some (.obj σ.length, σ ++ [O.list marks]) := by
  unfold gP
  simp only [s.hm, Option.bind_some]
  rw [if_pos (by rw [hml]; lia)]
  simp [sliceOf]
 have s2 := s.Of marks
 refine wp_runF rfl (cZ rfl (fQ (bN ea el e3) rfl (fQ (rB ea el hsl) (I7 rfl (jV (s.dY (.push _)).hs (Nat.le_of_ble_eq_true rfl))) ?_)))
 refine Hp (fun m ρ σ' => E3 (O3 D0 firsts σ i a f t nw trail marks failed clash m ρ σ')) es.length ⟨es, doms, none, rfl, rfl, h, h1, h3, s2, .then (.push _) (.set _ (.inl rfl))⟩ (by rw [List.length_append] at h1; lia) ?_
 rintro m ρ dQ ⟨es, D, u, rfl, hm, hT, hle, hD, s3, E3⟩
 have ht := bC (c := 0) (n := 17) s3.hs rfl
 have hl := aN (ρ := [some (.inst 0 i), some (.int 1), some (.int trail.length), u]) (g := X.aB (X.attr 0 17 (X.var 0)) X.aH) (F := bW gJ) (aK ht rfl) (jO s3.ht (Nat.le_trans hle (by decide)))
 clear ea el e3 hsl s2 s h h1 h2 h3 hml h4
 by_cases hes : es = []
 ·subst hes
  cases hT.nil_eq
  rw [List.append_nil] at s3 hl
  have s4 := s3.Oe
  have s5 := s4.Jw false clash
  exact .stop (aP (aQ hl rfl PG)) (fQ rfl (I7 rfl (jV (s3.dY (.push _)).hs (Nat.le_of_ble_eq_true rfl))) (fQ (aQ rfl (bP rfl (bC s4.hs rfl)) (GN s4.hf h0)) (I7 rfl (jV s4.hs (Nat.le_of_ble_eq_true rfl))) (fQ rfl (I7 rfl (jV s5.hs (Nat.le_of_ble_eq_true rfl)))
   (dG ⟨rfl, ⟨σ.length, dQ.length, Nat.le_refl _, E3.1, s5.Jw false []⟩, E3.then (.then (.push _) (.then (.set _ (.inl rfl)) (.then (.set _ (.inl rfl)) (.set _ (.inl rfl)))))⟩))))
 ·obtain ⟨es', D', x, old, lit, rs, sp, rfl, hx, Ii, hT'⟩ := hT.last hes
  have hla : (trail ++ (es' ++ [V.tup [.int (x : Nat), dv old, lit, rs, sp]])).length = trail.length + (es'.length + 1) := by rw [List.length_append, List.length_append]; rfl
  rw [← List.append_assoc] at s3
  have s4 := s3.ME (trail ++ es')
  have hxl := hx
  rw [← Ii, List.length_set] at hx
  have s5 := s4.Lf (d := D') (l := (D.map dv).set x (dv old)) (by rw [← Ii]; exact List.map_set.symm)
  have hx2 := Nat.lt_of_lt_of_le hx hD
  refine .go (aP (aQ hl rfl (PF (by rw [hla]; exact Int.ofNat_lt.mpr (Nat.lt_add_of_pos_right (Nat.succ_pos _)))))) fun Q' hn _ => fQ (fD ht (d6 s3.ht) rfl (IA s3.ht (by rw [List.append_assoc]; exact Nat.le_trans hle (by decide)))) rfl (fQ rfl (Gb (bP rfl (bC s4.hs rfl)) rfl (vA s4.hd (Int.natCast_nonneg x) (Int.ofNat_lt.mpr (Nat.lt_trans hx2 (by decide))) (by rw [List.length_map]; exact hx))) (dG ?_))
  rw [hla] at hle
  exact hn es'.length _ _ (by rw [← hm, List.length_append]; exact Nat.lt_succ_self _) ⟨es', D', _, rfl, rfl, hT', by rw [List.length_append]; exact Nat.le_of_succ_le hle, by rw [← Ii, List.length_set]; exact hD, s5, E3.then (.then (.set _ (.inr (.inr rfl))) (.set _ (.inr (.inl rfl))))⟩
end
noncomputable def md (c m o : Nat) : List (Nat × V) := [(37, .obj c), (34, .obj m), (33, .obj o)]
noncomputable def GH : Option Int → V
 | none => .none
 | some v => .int v
structure MV (σ : St) (j c m o : Nat) (ids : List Nat) (cs : List (List Int)) (aZ : Nat → Option Int) (own : Int → Option Nat) : Prop where
 hs : bT σ j = some (md c m o)
 hc : getL σ c = some (ids.map .obj)
 hlen : ids.length = cs.length
 uD : ∀ (p id : Nat) (l : List Int), ids[p]? = some id → cs[p]? = some l → A5 (getL σ id = some (l.map .int)) (id ≠ j) (id ≠ c) (id ≠ m) (id ≠ o)
 hm : getL σ m = some ((List.range cs.length).map fun p => GH (aZ p))
 ho : ∃ l, A3 (eF σ o = some l) (mE l) (∀ v, fJ l v = (own v).map fun p => .int (p : Nat))
 ne : [j, c, m, o].Nodup
 small : cs.length ≤ 10
 vals : ∀ l ∈ cs, ∀ v ∈ l, -100 ≤ v ∧ v < 100
 lens : ∀ l ∈ cs, l.length ≤ 100
section
variable {σ σ' : St} {j c m o : Nat} {ids : List Nat} {cs : List (List Int)} {aZ : Nat → Option Int} {own : Int → Option Nat} {M : Nat → Prop}
theorem MV.neq (s : MV σ j c m o ids cs aZ own) : (j ≠ c ∧ j ≠ m ∧ j ≠ o) ∧ (c ≠ m ∧ c ≠ o) ∧ m ≠ o := by
 have hne := s.ne
 simpa only [List.nodup_cons, List.mem_cons, List.not_mem_nil, or_false, not_or, not_false_eq_true, List.nodup_nil, and_true, ne_eq] using hne
theorem MV.ext (s : MV σ j c m o ids cs aZ own) (e : Ext M σ σ') (h : ∀ i ∈ [j, c, m, o], ¬ M i) (h' : ∀ i ∈ ids, ¬ M i) : MV σ' j c m o ids cs aZ own := by
 simp only [List.mem_cons, List.not_mem_nil, or_false, forall_eq_or_imp, forall_eq] at h
 obtain ⟨h1, h2, h3, h4⟩ := h
 obtain ⟨l, hl, hn, hd⟩ := s.ho
 refine ⟨e.bT s.hs h1, e.getL s.hc h2, s.hlen, fun p id l hp hl => ?_, e.getL s.hm h3, ⟨l, e.eF hl h4, hn, hd⟩, s.ne, s.small, s.vals, s.lens⟩
 obtain ⟨a, b1, b2, b3, b4⟩ := s.uD p id l hp hl
 exact ⟨e.getL a (h' id (List.mem_of_getElem? hp)), b1, b2, b3, b4⟩
theorem MV.dY (s : MV σ j c m o ids cs aZ own) (e : bV σ σ') : MV σ' j c m o ids cs aZ own := s.ext e (fun _ _ h => h) fun _ _ h => h
noncomputable def upd {α β : Type} [DecidableEq α] (f : α → β) (a : α) (b : β) : α → β := fun x => if x = a then b else f x
theorem jL {α β : Type} [DecidableEq α] (f : α → β) (a : α) (b : β) : upd f a b a = b := if_pos rfl
theorem iM {α β : Type} [DecidableEq α] (f : α → β) {a x : α} (b : β) (h : x ≠ a) : upd f a b x = f x := if_neg h
theorem rC {K : Type} [DecidableEq K] (l : List (K × V)) (k k' : K) (v : V) : fJ (eU l k v) k' = if k' = k then some v else fJ l k' := by
 unfold eU
 split
 ·rename_i h
  induction l with
  | nil => simp at h
  | cons p l ih =>
   rw [List.map_cons]
   by_cases hp : p.1 = k
   ·rw [if_pos hp, fH]
    by_cases hk : k' = k
    ·subst hk; simp [hp]
    ·rw [if_neg (by rw [hp]; exact Ne.symm hk), if_neg hk]
     have : fJ (p :: l) k' = fJ l k' := by
      obtain ⟨a, b⟩ := p
      rw [fH, if_neg (by dsimp only at hp; rw [hp]; exact Ne.symm hk)]
     rw [this]
     clear ih h this
     induction l with
     | nil => rfl
     | cons q l ih2 =>
      rw [List.map_cons]
      obtain ⟨a, b⟩ := q
      by_cases hq : a = k
      ·rw [if_pos hq, fH, fH, if_neg (by rw [hq]; exact Ne.symm hk), if_neg (by rw [hq]; exact Ne.symm hk), ih2]
      ·rw [if_neg hq, fH, fH, ih2]
   ·rw [if_neg hp]
    obtain ⟨a, b⟩ := p
    rw [fH, fH]
    by_cases ha : a = k'
    ·rw [if_pos ha, if_pos ha]
     dsimp only at hp
     rw [if_neg (by rw [← ha]; exact hp)]
    ·rw [if_neg ha, if_neg ha]
     apply ih
     rw [List.any_cons, Bool.or_eq_true] at h
     rcases h with h | h
     ·exact absurd (by simpa using h) hp
     ·exact h
 ·rename_i h
  induction l with
  | nil =>
   by_cases hk : k' = k
   ·subst hk; simp [fJ]
   ·simp [fJ, hk, Ne.symm hk]
  | cons p l ih =>
   obtain ⟨a, b⟩ := p
   rw [List.any_cons, Bool.or_eq_true, not_or] at h
   rw [List.cons_append, fH, fH, ih h.2]
   by_cases ha : a = k'
   ·rw [if_pos ha, if_pos ha, if_neg (by rintro rfl; exact h.1 (by simpa using ha))]
   ·rw [if_neg ha, if_neg ha]
theorem He (aZ : Nat → Option Int) (n p : Nat) (v : Int) : ((List.range n).map fun q => GH (aZ q)).set p (.int v) = (List.range n).map fun q => GH (upd aZ p (some v) q) := by
 apply List.ext_getElem
 ·simp only [List.length_set, List.length_map]
 ·intro i h1 h2
  rw [List.getElem_set, List.getElem_map, List.getElem_map, List.getElem_range]
  by_cases h : p = i
  ·subst h; rw [if_pos rfl, jL]; rfl
  ·rw [if_neg h, iM _ _ (Ne.symm h)]
theorem MV.give (s : MV σ j c m o ids cs aZ own) {p : Nat} (hp : p < cs.length) {v : Int} (hv : -100 ≤ v ∧ v < 100) :
  E2 fun aT bH => A5 (mA (.obj m) (.int p) (.int v) σ = some aT) (wJ 1 33 (.inst 1 j) aT = some (.obj o, aT)) (mA (.obj o) (.int v) (.int p) aT = some bH) (MV bH j c m o ids cs (upd aZ p (some v)) (upd own v (some p))) (Ext (fun i => i = m ∨ i = o) σ bH) := by
 obtain ⟨⟨j1, j2, j3⟩, ⟨c1, c2⟩, m1⟩ := s.neq
 obtain ⟨l, hl, hn, hd⟩ := s.ho
 have hx := Nat.lt_of_lt_of_le hp s.small
 have g1 : eF (σ.set m (.list (((List.range cs.length).map fun q => GH (aZ q)).set p (.int v)))) o = some l := (k5 (Ne.symm m1)).trans hl
 have g0 : bT (σ.set m (.list (((List.range cs.length).map fun q => GH (aZ q)).set p (.int v)))) j = some (md c m o) := (oH j2).trans s.hs
 refine ⟨_, _, vA s.hm (Int.natCast_nonneg p) (Int.ofNat_lt.mpr (Nat.lt_trans hx (by decide))) (by rw [List.length_map, List.length_range]; exact hp), bC g0 rfl, vB g1 (Nat.le_trans hn.len (by decide)),
  ⟨(oH j3).trans g0, ?_, s.hlen, fun q id l' hq hl' => ?_, (bR m1).trans ((c0 (bE s.hm)).trans (congrArg some (He ..))), ⟨_, lU (iJ g1), hn.set _ hv.1 hv.2, fun w => ?_⟩, s.ne, s.small, s.vals, s.lens⟩, .then (.set _ (.inl rfl)) (.set _ (.inr rfl))⟩
 ·rw [bR c2, bR c1]; exact s.hc
 ·obtain ⟨a, b1, b2, b3, b4⟩ := s.uD q id l' hq hl'
  exact ⟨(bR b4).trans ((bR b3).trans a), b1, b2, b3, b4⟩
 ·rw [rC, hd]
  by_cases hw : w = v
  ·subst hw; rw [if_pos rfl, jL]; rfl
  ·rw [if_neg hw, iM _ _ hw]
end
structure cY (cs : List (List Int)) (aZ : Nat → Option Int) (own : Int → Option Nat) : Prop where
 iff : ∀ p v, aZ p = some v ↔ own v = some p
 lt : ∀ p v, own v = some p → p < cs.length
 mem : ∀ (p : Nat) (v : Int) (l : List Int), aZ p = some v → cs[p]? = some l → v ∈ l
structure Jl (cs : List (List Int)) (own : Int → Option Nat) (cm : Int → Option Nat) (K : List Int) (P : List Nat) (place : Nat) : Prop where
 len : P.length = K.length
 head : P[0]? = some place
 came : ∀ (i : Nat) (v : Int), K[i]? = some v → E3 fun (q p : Nat) (l : List Int) => A5 (q ≤ i) (P[q]? = some p) (cm v = some p) (cs[p]? = some l) (v ∈ l)
 next : ∀ (i : Nat) (v : Int) (p : Nat), K[i]? = some v → P[i + 1]? = some p → own v = some p
 zS : K.Nodup
 nH : P.Nodup
 lt : ∀ p ∈ P, p < cs.length
theorem qY {α : Type} {l : List α} (h : l.Nodup) {i j : Nat} {a : α} (hi : l[i]? = some a) (hj : l[j]? = some a) : i = j :=
 (List.getElem?_inj (List.getElem?_eq_some_iff.mp hi).1 h).mp (hi.trans hj.symm)
section
variable {σ σ' : St} {j c m o : Nat} {ids : List Nat} {cs : List (List Int)} {aZ : Nat → Option Int} {own : Int → Option Nat} {M : Nat → Prop}
theorem MV.JQ (s : MV σ j c m o ids cs aZ own) {p : Nat} (hp : p < cs.length) : iU (.obj m) (.int p) σ = some (GH (aZ p), σ) := by
 have := s.small
 rw [lQ s.hm, iD (by simpa using hp) (by lia)]
 simp
structure Turn (cs : List (List Int)) (aZ : Nat → Option Int) (ks : List Int) (ps : List Nat) (place : Nat) (q : Nat) (w : Int) (cQ : Nat → Option Int) (own' : Int → Option Nat) : Prop where
 hw : ks[q]? = some w
 iff : ∀ p u, u ≠ w → (cQ p = some u ↔ own' u = some p)
 no : ∀ p, cQ p ≠ some w
 old : ∀ i p, i ≤ q → ps[i]? = some p → cQ p = aZ p
 lt : ∀ p u, own' u = some p → p < cs.length
 mem : ∀ (p : Nat) (u : Int) (l : List Int), cQ p = some u → cs[p]? = some l → u ∈ l
structure Kept (aZ : Nat → Option Int) (place : Nat) (cQ : Nat → Option Int) : Prop where
 all : ∀ p, aZ p ≠ none → cQ p ≠ none
 none : ∀ p, p ≠ place → aZ p = none → cQ p = none
theorem Fv {cQ : Nat → Option Int} {own' : Int → Option Nat} {w : Int} {p : Nat} (i1 : ∀ p u, u ≠ w → (cQ p = some u ↔ own' u = some p)) (i1' : ∀ p, cQ p ≠ some w) (p' : Nat) (u : Int) (hu : cQ p ≠ some u) : upd cQ p (some w) p' = some u ↔ upd own' w (some p) u = some p' := by
 by_cases hpp : p' = p
 ·subst hpp
  rw [jL]
  by_cases hu' : u = w
  ·subst hu'; rw [jL]; exact ⟨fun _ => rfl, fun _ => rfl⟩
  ·rw [iM _ _ hu']
   exact ⟨fun e => absurd (Option.some.inj e).symm hu', fun e => absurd ((i1 p' u hu').mpr e) hu⟩
 ·rw [iM _ _ hpp]
  by_cases hu' : u = w
  ·subst hu'; rw [jL]; exact ⟨fun e => absurd e (i1' p'), fun e => absurd (Option.some.inj e).symm hpp⟩
  ·rw [iM _ _ hu']; exact i1 p' u hu'
theorem Turn.step {ks : List Int} {ps : List Nat} {place q q0 p : Nat} {w : Int} {cQ : Nat → Option Int} {own' : Int → Option Nat} {cm : Int → Option Nat} {l : List Int} (S : Turn cs aZ ks ps place q w cQ own') (K : cY cs aZ own) (T : Jl cs own cm ks ps place) (h0 : aZ place = none) (B : Kept aZ place cQ)
  (hq0 : q0 ≤ q) (hp : ps[q0]? = some p) (hl : cs[p]? = some l) (hwl : w ∈ l) :
  Kept aZ place (upd cQ p (some w)) ∧ ((cQ p = none ∧ cY cs (upd cQ p (some w)) (upd own' w (some p)) ∧ upd cQ p (some w) place ≠ none) ∨ E2 fun q1 w1 => A3 (q1 < q) (cQ p = some w1) (Turn cs aZ ks ps place q1 w1 (upd cQ p (some w)) (upd own' w (some p)))) := by
 have Af := T.lt p (List.mem_of_getElem? hp)
 have hmp := S.old q0 p hq0 hp
 have i4 : ∀ p' u, upd own' w (some p) u = some p' → p' < cs.length := fun p' u h => by
  by_cases hu : u = w
  ·subst hu; rw [jL] at h; cases h; exact Af
  ·rw [iM _ _ hu] at h; exact S.lt p' u h
 have i5 : ∀ p' u l', upd cQ p (some w) p' = some u → cs[p']? = some l' → u ∈ l' := fun p' u l' h hl' => by
  by_cases hpp : p' = p
  ·subst hpp; rw [jL] at h; cases h; rw [hl] at hl'; cases hl'; exact hwl
  ·rw [iM _ _ hpp] at h; exact S.mem p' u l' h hl'
 have k1 : ∀ p', aZ p' ≠ none → upd cQ p (some w) p' ≠ none := fun p' h => by
  by_cases hpp : p' = p
  ·subst hpp; rw [jL]; exact Option.some_ne_none w
  ·rw [iM _ _ hpp]; exact B.all p' h
 cases q0 with
 | zero =>
  cases Option.some.inj (hp.symm.trans T.head)
  have e := hmp.trans h0
  refine ⟨⟨k1, fun p' h1 h2 => by rw [iM _ _ h1]; exact B.none p' h1 h2⟩, .inl ⟨e, ⟨fun p' u => Fv S.iff S.no p' u (by rw [e]; exact fun z => by cases z), i4, i5⟩, by rw [jL]; exact Option.some_ne_none w⟩⟩
 | succ q1 =>
  have hq1 : q1 < ks.length := Nat.lt_of_succ_lt_succ (Nat.lt_succ_of_lt (T.len ▸ (List.getElem?_eq_some_iff.mp hp).1))
  have hw1 : ks[q1]? = some ks[q1] := List.getElem?_eq_getElem hq1
  have ho1 := T.next q1 _ p hw1 hp
  have hm1 := (K.iff p _).mpr ho1
  have e := hmp.trans hm1
  have hne : ks[q1] ≠ w := fun z => Nat.lt_irrefl _ (Nat.lt_of_lt_of_le (Nat.lt_succ_self q1) ((qY T.zS hw1 (S.hw.trans (congrArg some z.symm))) ▸ hq0))
  refine ⟨⟨k1, fun p' h1 h2 => by rw [iM _ _ (fun z => by rw [z, hm1] at h2; cases h2)]; exact B.none p' h1 h2⟩, .inr ⟨q1, ks[q1], hq0, e, hw1, fun p' u hu => Fv S.iff S.no p' u (by rw [e]; exact fun z => hu (Option.some.inj z).symm), fun p' h => ?_, fun i p' hi hp' => ?_, i4, i5⟩⟩
  ·by_cases hpp : p' = p
   ·subst hpp; rw [jL] at h; exact hne (Option.some.inj h).symm
   ·rw [iM _ _ hpp] at h
    exact hpp (Option.some.inj (((S.iff p' _ hne).mp h).symm.trans ((S.iff p _ hne).mp e)))
  ·rw [iM _ _ fun z => by subst z; exact Nat.lt_irrefl _ (Nat.le_trans (Nat.le_of_eq (qY T.nH hp hp')) hi)]
   exact S.old i p' (Nat.le_trans hi (Nat.le_of_lt hq0)) hp'
inductive NN (cs : List (List Int)) (aZ : Nat → Option Int) (ks : List Int) (ps : List Nat) (place : Nat) (σ : St) (j c m o : Nat) (ids : List Nat) (cj : Nat) (t : Nat) (ρ : Loc) (σ' : St) : Prop
 | go {cQ : Nat → Option Int} {own' : Int → Option Nat} {q : Nat} {w : Int} {x y : Option V} (e : ρ = [some (.inst 1 j), some (.int w), some (.obj cj), x, y]) (ht : q + 1 = t) (s : MV σ' j c m o ids cs cQ own') (B : Kept aZ place cQ) (E : Ext (fun i => i = m ∨ i = o) σ σ') (S : Turn cs aZ ks ps place q w cQ own')
 | stop {cQ : Nat → Option Int} {own' : Int → Option Nat} {x y : Option V} (e : ρ = [some (.inst 1 j), some .none, some (.obj cj), x, y]) (s : MV σ' j c m o ids cs cQ own') (B : Kept aZ place cQ) (E : Ext (fun i => i = m ∨ i = o) σ σ') (K : cY cs cQ own') (h : cQ place ≠ none)
theorem CD (s : MV σ j c m o ids cs aZ own) {cj : Nat} {cl : List (Int × V)} {cm : Int → Option Nat} (hcj : eF σ cj = some cl) (hcm : ∀ v, fJ cl v = (cm v).map fun p => .int (p : Nat)) (hne : cj ≠ m ∧ cj ≠ o)
  (K : cY cs aZ own) {ks : List Int} {ps : List Nat} {place : Nat} (T : Jl cs own cm ks ps place) (h0 : aZ place = none) {v : Int} (hv : ks.getLast? = some v) (hfree : own v = none) :
  wp (fV [.inst 1 j, .int v, .obj cj] σ) fun r σ' => r = .none ∧ E2 fun cQ own' => A6 (MV σ' j c m o ids cs cQ own') (cY cs cQ own') (∀ p, aZ p ≠ none → cQ p ≠ none) (∀ p, p ≠ place → aZ p = none → cQ p = none) (cQ place ≠ none) (Ext (fun i => i = m ∨ i = o) σ σ') := by
 rw [List.getLast?_eq_getElem?] at hv
 have KO : ks.length ≤ 10 := by
  rw [← T.len]
  have := cR (m := List.range cs.length) T.nH fun p hp => List.mem_range.mpr (T.lt p hp)
  rw [List.length_range] at this
  exact Nat.le_trans this s.small
 refine wp_runF rfl (Hp (NN cs aZ ks ps place σ j c m o ids cj) (ks.length - 1 + 1) (.go rfl rfl s ⟨fun _ h => h, fun _ _ h => h⟩ .refl ⟨hv, fun p u _ => K.iff p u, fun p e => ?_, fun _ _ _ _ => rfl, fun p u => K.lt p u, fun p u l => K.mem p u l⟩) (Nat.lt_of_le_of_lt (Nat.add_le_add_right (Nat.le_trans (Nat.sub_le _ _) KO) 1) (by decide)) ?_)
 ·have := (K.iff p v).mp e
  rw [hfree] at this; cases this
 clear s hv hfree KO
 intro t ρ aT H
 cases H with
 | stop e s B E K h => subst e; exact .stop (aP (aQ rfl rfl (b := .none) (r := (.bool false, aT)) rfl)) (dG ⟨rfl, _, _, s, K, B.all, B.none, h, E⟩)
 | @go cQ own' q w x y e ht s1 B E S =>
  subst e
  obtain ⟨q0, p, l, hq0, hp, hc, hl, hwl⟩ := T.came q w S.hw
  have Af := T.lt p (List.mem_of_getElem? hp)
  obtain ⟨bH, dQ, g1, g2, g3, s3, E3⟩ := s1.give Af (s1.vals l (List.mem_of_getElem? hl) w hwl)
  have e2 : iU (.obj cj) (.int w) aT = some (.int (p : Nat), aT) := by rw [Cr (E.eF hcj fun h => h.elim hne.1 hne.2), hcm, hc]; rfl
  have ea := bC (c := 1) (n := 34) s1.hs rfl
  obtain ⟨B', h⟩ := S.step K T h0 B hq0 hp hl hwl
  refine .go (aP (aQ rfl rfl (b := .none) (r := (.bool true, aT)) rfl)) fun Q' hn _ => fQ (bN rfl rfl e2) rfl (fQ (bN (bP rfl ea) rfl (s1.JQ Af)) rfl (fQ rfl (Gb (bP rfl ea) rfl g1) (fQ rfl (Gb (bP rfl g2) rfl g3) (fQ rfl rfl (dG ?_)))))
  clear g1 g2 g3 e2 ea s1 S
  rcases h with ⟨e, K', h⟩ | ⟨q1, w1, hlt, e, S'⟩
  ·rw [e]; exact hn 0 _ _ (ht ▸ Nat.succ_pos q) (.stop rfl s3 B' (E.then E3) K' h)
  ·rw [e]; exact hn (q1 + 1) _ _ (ht ▸ Nat.succ_lt_succ hlt) (.go rfl rfl s3 B' (E.then E3) S')
end
theorem vZ {K : Type} [DecidableEq K] {l : List (K × V)} {k : K} {v : V} (h : k ∉ l.map (·.1)) : (eU l k v).map (·.1) = l.map (·.1) ++ [k] := by
 unfold eU
 rw [if_neg]
 ·simp
 ·intro z
  obtain ⟨p, hp, e⟩ := List.any_eq_true.mp z
  exact h (List.mem_map.mpr ⟨p, hp, by simpa using e⟩)
theorem rY {K : Type} [DecidableEq K] {l : List (K × V)} {k : K} : fJ l k = none ↔ k ∉ l.map (·.1) := by
 induction l with
 | nil => simp [fJ]
 | cons p l ih =>
  obtain ⟨a, b⟩ := p
  rw [fH]
  by_cases h : a = k
  ·simp [h]
  ·rw [if_neg h, ih]; simp [Ne.symm h]
structure xW (σ : St) (cj : Nat) (ks : List Int) (cm : Int → Option Nat) : Prop where
 at_ : ∃ cl, A4 (eF σ cj = some cl) (mE cl) (cl.map (·.1) = ks) (∀ v, fJ cl v = (cm v).map fun p => .int (p : Nat))
section
variable {σ σ' : St} {j c m o : Nat} {ids : List Nat} {cs : List (List Int)} {aZ : Nat → Option Int} {own : Int → Option Nat} {M : Nat → Prop} {cj : Nat} {ks : List Int} {cm : Int → Option Nat}
theorem xW.ext (h : xW σ cj ks cm) (e : Ext M σ σ') (hm : ¬ M cj) : xW σ' cj ks cm := let ⟨cl, a, b, c, d⟩ := h.at_; ⟨cl, e.eF a hm, b, c, d⟩
theorem xW.mem (h : xW σ cj ks cm) (v : Int) : cm v = none ↔ v ∉ ks := by
 obtain ⟨cl, a, b, rfl, d⟩ := h.at_
 rw [← rY, d]
 cases cm v <;> simp
theorem FA {i : Nat} {l : List (Int × V)} (h : eF σ i = some l) (v : Int) : dH (.int v) (.obj i) σ = some (.bool (decide (v ∉ l.map (·.1))), σ) := by
 unfold dH
 rw [FV h]
 show some (V.bool (!(fJ l v).isSome), σ) = _
 have := rY (l := l) (k := v)
 cases e : fJ l v with
 | none => rw [decide_eq_true (this.mp e)]; rfl
 | some w => rw [decide_eq_false (fun h => by rw [this.mpr h] at e; cases e)]; rfl
theorem xW.pP (h : xW σ cj ks cm) (v : Int) : dH (.int v) (.obj cj) σ = some (.bool (decide (v ∉ ks)), σ) := by
 obtain ⟨cl, a, b, rfl, d⟩ := h.at_
 exact FA a v
theorem xW.set (h : xW σ cj ks cm) {v : Int} {p : Nat} (hv : v ∉ ks) (h0 : -100 ≤ v ∧ v < 100) : ∃ aT, mA (.obj cj) (.int v) (.int (p : Nat)) σ = some aT ∧ xW aT cj (ks ++ [v]) (upd cm v (some p)) ∧ Ext (fun i => i = cj) σ aT := by
 obtain ⟨cl, a, b, rfl, d⟩ := h.at_
 have lt := iJ a
 refine ⟨_, vB a (by have := b.len; lia), ⟨eU cl v (.int p), lU lt, b.set _ h0.1 h0.2, vZ hv, fun w => ?_⟩, Ext.set _ rfl⟩
 rw [rC, d]
 by_cases hw : w = v
 ·subst hw; rw [if_pos rfl, jL]; rfl
 ·rw [if_neg hw, iM _ _ hw]
theorem MV.Hy (s : MV σ j c m o ids cs aZ own) (v : Int) : dH (.int v) (.obj o) σ = some (.bool (decide (own v = none)), σ) := by
 obtain ⟨l, hl, hn, hd⟩ := s.ho
 unfold dH
 rw [FV hl, hd]
 cases own v <;> simp
theorem MV.EH (s : MV σ j c m o ids cs aZ own) {v : Int} {p : Nat} (h : own v = some p) : iU (.obj o) (.int v) σ = some (.int (p : Nat), σ) := by
 obtain ⟨l, hl, hn, hd⟩ := s.ho
 rw [Cr hl, hd, h]; rfl
theorem MV.choice (s : MV σ j c m o ids cs aZ own) {p : Nat} {l : List Int} (h : cs[p]? = some l) : ∃ id, A3 (ids[p]? = some id) (iU (.obj c) (.int (p : Nat)) σ = some (.obj id, σ)) (A5 (getL σ id = some (l.map .int)) (id ≠ j) (id ≠ c) (id ≠ m) (id ≠ o)) := by
 have hlt := (List.getElem?_eq_some_iff.mp h).1
 have hsm := s.small
 have hlt' : p < ids.length := by rw [s.hlen]; exact hlt
 have hid : ids[p]? = some ids[p] := List.getElem?_eq_getElem hlt'
 refine ⟨ids[p], hid, ?_, s.uD p _ l hid h⟩
 rw [lQ s.hc, iD (by simpa using hlt') (by lia)]
 simp
structure I9 (cs : List (List Int)) (ps : List Nat) (ks : List Int) : Prop where
 len : ps.length = ks.length + 1
 zS : ks.Nodup
 nH : ps.Nodup
 lt : ∀ p ∈ ps, p < cs.length
 sub : ∀ p ∈ ps, ∀ l, cs[p]? = some l → ∀ v ∈ l, v ∈ ks
structure mR (cs : List (List Int)) (own : Int → Option Nat) (cm : Int → Option Nat) (ks : List Int) (ps : List Nat) (place : Nat) : Prop where
 len : ps.length = ks.length + 1
 head : ps[0]? = some place
 came : ∀ (i : Nat) (v : Int), ks[i]? = some v → E3 fun (q p : Nat) (l : List Int) => A5 (q ≤ i) (ps[q]? = some p) (cm v = some p) (cs[p]? = some l) (v ∈ l)
 next : ∀ (i : Nat) (v : Int), ks[i]? = some v → own v = ps[i + 1]?
 zS : ks.Nodup
 nH : ps.Nodup
 lt : ∀ p ∈ ps, p < cs.length
theorem mR.xJ {ps : List Nat} {place : Nat} (h : mR cs own cm ks ps place) : ps.length ≤ cs.length := by
 have := cR (m := List.range cs.length) h.nH fun p hp => List.mem_range.mpr (h.lt p hp)
 simpa using this
theorem mR.grow {ps : List Nat} {place p k : Nat} {v : Int} {q : Nat} {l : List Int} (h : mR cs own cm ks ps place) (K : cY cs aZ own) (h0 : aZ place = none) (hv : v ∉ ks) (ho : own v = some p) (hk : ps[k]? = some q) (hl : cs[q]? = some l) (hvl : v ∈ l) :
  mR cs own (upd cm v (some q)) (ks ++ [v]) (ps ++ [p]) place := by
 have hkl := (List.getElem?_eq_some_iff.mp hk).1
 have hlen := h.len
 have hp0 : 0 < ps.length := by lia
 refine ⟨by simp [h.len], by rw [List.getElem?_append_left hp0]; exact h.head, fun i w hi => ?_, fun i w hi => ?_, ?_, ?_, fun p' hp' => ?_⟩
 ·by_cases hlt : i < ks.length
  ·rw [List.getElem?_append_left hlt] at hi
   obtain ⟨q', p', l', a, b, c', d, e⟩ := h.came i w hi
   refine ⟨q', p', l', a, by rw [List.getElem?_append_left (by lia)]; exact b, ?_, d, e⟩
   rw [iM _ _ (by rintro rfl; exact hv (List.mem_of_getElem? hi))]; exact c'
  ·have hlt2 := (List.getElem?_eq_some_iff.mp hi).1
   simp at hlt2
   have : i = ks.length := by lia
   subst this
   simp at hi; subst hi
   refine ⟨k, q, l, by lia, by rw [List.getElem?_append_left hkl]; exact hk, jL _ _ _, hl, hvl⟩
 ·by_cases hlt : i < ks.length
  ·rw [List.getElem?_append_left hlt] at hi
   rw [h.next i w hi, List.getElem?_append_left (by lia)]
  ·have hlt2 := (List.getElem?_eq_some_iff.mp hi).1
   simp at hlt2
   have : i = ks.length := by lia
   subst this
   simp at hi; subst hi
   rw [ho, ← hlen]; simp
 ·rw [List.nodup_append]
  exact ⟨h.zS, by simp, fun a ha b hb => by simp at hb; subst hb; rintro rfl; exact hv ha⟩
 ·rw [List.nodup_append]
  refine ⟨h.nH, by simp, fun a ha b hb => ?_⟩
  simp at hb; subst hb
  rintro rfl
  obtain ⟨i, hi⟩ := List.getElem?_of_mem ha
  cases i with
  | zero =>
   rw [h.head] at hi; cases hi
   have := (K.iff _ v).mpr ho
   rw [h0] at this; cases this
  | succ i =>
   have hlt := (List.getElem?_eq_some_iff.mp hi).1
   have hki : ks[i]? = some ks[i] := List.getElem?_eq_getElem (by lia)
   have h1 := h.next i _ hki
   rw [hi] at h1
   have a1 := (K.iff _ _).mpr h1
   have a2 := (K.iff _ _).mpr ho
   rw [a1] at a2
   exact hv (Option.some.inj a2 ▸ List.mem_of_getElem? hki)
 ·rcases List.mem_append.mp hp' with hp' | hp'
  ·exact h.lt p' hp'
  ·simp at hp'; subst hp'; exact K.lt _ _ ho
theorem mR.tree {ps : List Nat} {place k : Nat} {v : Int} {q : Nat} {l : List Int} (h : mR cs own cm ks ps place) (hv : v ∉ ks) (hk : ps[k]? = some q) (hl : cs[q]? = some l) (hvl : v ∈ l) :
  Jl cs own (upd cm v (some q)) (ks ++ [v]) ps place := by
 have hkl := (List.getElem?_eq_some_iff.mp hk).1
 have hlen := h.len
 refine ⟨by simp [h.len], h.head, fun i w hi => ?_, fun i w p hi hp => ?_, ?_, h.nH, h.lt⟩
 ·by_cases hlt : i < ks.length
  ·rw [List.getElem?_append_left hlt] at hi
   obtain ⟨q', p', l', a, b, c', d, e⟩ := h.came i w hi
   refine ⟨q', p', l', a, b, ?_, d, e⟩
   rw [iM _ _ (by rintro rfl; exact hv (List.mem_of_getElem? hi))]; exact c'
  ·have hlt2 := (List.getElem?_eq_some_iff.mp hi).1
   simp at hlt2
   have : i = ks.length := by lia
   subst this
   simp at hi; subst hi
   exact ⟨k, q, l, by lia, hk, jL _ _ _, hl, hvl⟩
 ·have hlt := (List.getElem?_eq_some_iff.mp hp).1
  rw [List.getElem?_append_left (by lia)] at hi
  rw [h.next i w hi, hp]
 ·rw [List.nodup_append]
  exact ⟨h.zS, by simp, fun a ha b hb => by simp at hb; subst hb; rintro rfl; exact hv ha⟩
end
section
variable {σ σ' : St} {j c m o : Nat} {ids : List Nat} {cs : List (List Int)} {aZ : Nat → Option Int} {own : Int → Option Nat} {M : Nat → Prop}
theorem pN {l : List Int} {x : Int} : x ∈ cL l ↔ x ∈ l := (lT l).mem_iff
theorem GT {σ : St} {cj : Nat} {ks : List Int} {cm : Int → Option Nat} (h : xW σ cj ks cm) (hl : ks.length ≤ 60) : mN (.obj cj) σ = some (.obj σ.length, σ ++ [.list ((cL ks).map .int)]) := by
 obtain ⟨cl, a, b, rfl, d⟩ := h.at_
 unfold mN
 simp only [a, Option.bind_some]
 rw [if_pos (by simpa using hl)]
noncomputable def Ge (σ σ' : St) (j c m o : Nat) (ids : List Nat) (cs : List (List Int)) (aZ : Nat → Option Int) (own : Int → Option Nat) (place : Nat) (r : V) : Prop :=
 (r = .none ∧ E2 fun cQ own' => A6 (MV σ' j c m o ids cs cQ own') (cY cs cQ own') (∀ p, aZ p ≠ none → cQ p ≠ none) (∀ p, p ≠ place → aZ p = none → cQ p = none) (cQ place ≠ none) (Ext (fun i => i = m ∨ i = o) σ σ')) ∨
 (E4 fun pj kj ps ks => A6 (r = .tup [.obj pj, .obj kj]) (getL σ' pj = some (ps.map fun p => .int (p : Nat))) (getL σ' kj = some ((cL ks).map .int)) (I9 cs ps ks) (place ∈ ps) (bV σ σ'))
structure OX (σ σ' : St) (cs : List (List Int)) (own : Int → Option Nat) (place : Nat) (ks : List Int) (ps : List Nat) (cm : Int → Option Nat) : Prop where
 ext : bV σ σ'
 came : xW σ' σ.length ks cm
 pl : getL σ' (σ.length + 1) = some (ps.map fun p => .int (p : Nat))
 inv : mR cs own cm ks ps place
noncomputable def NI (j place n k : Nat) (x : Option V) : Loc := [some (.inst 1 j), some (.int place), some (.obj n), some (.obj (n + 1)), some (.int (k : Nat)), x]
noncomputable def SDone (cs : List (List Int)) (ps : List Nat) (ks : List Int) (k : Nat) : Prop := ∀ i p l, i < k → ps[i]? = some p → cs[p]? = some l → ∀ v ∈ l, v ∈ ks
noncomputable def OY (σ : St) (j : Nat) (cs : List (List Int)) (own : Int → Option Nat) (place t : Nat) (ρ : Loc) (σ' : St) : Prop := E5 fun k ks ps cm x => A5 (t = cs.length - k) (ρ = NI j place σ.length k x) (OX σ σ' cs own place ks ps cm) (k ≤ ps.length) (SDone cs ps ks k)
noncomputable def OZ (σ : St) (j : Nat) (cs : List (List Int)) (own : Int → Option Nat) (place k q : Nat) (l : List Int) (t : Nat) (ρ : Loc) (σ' : St) : Prop := E4 fun ks ps cm x => A5 (ρ = NI j place σ.length k x) (OX σ σ' cs own place ks ps cm) (ps[k]? = some q) (SDone cs ps ks k) (∀ v ∈ l.take t, v ∈ ks)
theorem zK {σ' : St} {z : Nat} {ps : List Nat} {k q : Nat} (h : getL σ' z = some (ps.map fun p => .int (p : Nat))) (hq : ps[k]? = some q) (hk : k < 1000000) : iU (.obj z) (.int (k : Nat)) σ' = some (.int (q : Nat), σ') := by
 obtain ⟨h1, h2⟩ := List.getElem?_eq_some_iff.mp hq
 rw [lQ h, iD (by rw [List.length_map]; exact h1) hk, List.getElem_map, h2]; rfl
noncomputable def I1 : XS := (XS.seq (XS.ite (X.test (X.bin dH (X.var 5) (X.var 2))) (XS.seq (XS.assign (X.sub (X.var 3) (X.var 4)) (XA.item (X.var 2) (X.var 5))) (XS.seq (XS.ite (X.test (X.bin dH (X.var 5) (X.attr 1 33 (X.var 0)))) (XS.seq (XS.drop (X.cS 1 42 fV (X.var 0) (X.aB (X.var 5) (X.aB (X.var 2) X.aH)))) (XS.seq (XS.ret (X.pure .none)) XS.nil)) XS.nil) (XS.seq (XS.drop (X.eY eB (X.var 3) (X.aB (X.sub (X.attr 1 33 (X.var 0)) (X.var 5)) X.aH))) XS.nil))) XS.nil) XS.nil)
theorem Gu {Q : Fl → Loc → St → Prop} {place k q t : Nat} {l : List Int} {v : Int} {ρ : Loc} (s : MV σ j c m o ids cs aZ own) (K : cY cs aZ own) (h0 : aZ place = none) (hl : cs[q]? = some l) (hv : l[t]? = some v) (h : OZ σ j cs own place k q l t ρ σ')
  (hn : ∀ ρ σ', OZ σ j cs own place k q l (t + 1) ρ σ' → Q .next ρ σ') (hr : ∀ ρ w9, Ge σ w9 j c m o ids cs aZ own place .none → Q (.ret .none) ρ w9) : ap (XA.name 5) (.int v) ρ σ' fun oT bH => sp I1 oT bH Q := by
 obtain ⟨ks, ps, cm, x, rfl, H, hq, hd, hdt⟩ := h
 refine ⟨_, _, rfl, ?_⟩
 have hvl : v ∈ l := List.mem_of_getElem? hv
 have hvr := s.vals l (List.mem_of_getElem? hl) v hvl
 have hk2 := (List.getElem?_eq_some_iff.mp hq).1
 have Op := H.inv.xJ
 have hlen2 := H.inv.len
 have hsm := s.small
 have DH : ∀ u ∈ l.take (t + 1), u ∈ ks ∨ u = v := by
  intro u hu
  obtain ⟨hlt, e⟩ := List.getElem?_eq_some_iff.mp hv
  rw [List.take_succ_eq_append_getElem hlt, List.mem_append, List.mem_singleton, e] at hu
  exact hu.imp (hdt u) fun h => h
 have hni := H.came.pP v
 by_cases hin : v ∈ ks
 ·rw [decide_eq_false (fun h => h hin)] at hni
  exact cZ (aP (aQ rfl rfl hni)) (dG (hn _ _ ⟨ks, ps, cm, _, rfl, H, hq, hd, fun u hu => (DH u hu).elim (fun h => h) fun e => e ▸ hin⟩))
 rw [decide_eq_true hin] at hni
 refine kO (aP (aQ rfl rfl hni)) ?_
 have hk3 : k < 1000000 := by lia
 have PK := zK H.pl hq hk3
 obtain ⟨dQ, e3, hC3, E3⟩ := H.came.set (p := q) hin hvr
 have hP3 := E3.getL H.pl (Nat.succ_ne_self _)
 have Pa : bV σ dQ := H.ext.trans E3 fun _ e => .inr (e ▸ Nat.le_refl _)
 have s3 := s.dY Pa
 have hon := s3.Hy v
 refine fQ (bN rfl rfl PK) (Gb rfl rfl e3) ?_
 cases ho : own v with
 | some p =>
  rw [ho] at hon
  have lP := bE hP3
  have E4 : Ext (fun i => i = σ.length + 1) dQ (dQ.set (σ.length + 1) (.list ((ps.map fun p => V.int ((p : Nat) : Int)) ++ [.int (p : Nat)]))) := Ext.set _ rfl
  have hG := H.inv.grow K h0 hin ho hq hl hvl
  refine cZ (aP (aQ rfl (bP rfl (bC s3.hs rfl)) hon)) (jG (fD rfl (d6 hP3) (aK (bN (bP rfl (bC s3.hs rfl)) rfl (s3.EH ho)) rfl) (fG hP3 (by rw [List.length_map]; lia))) rfl (dG (dG (hn _ _ ⟨ks ++ [v], ps ++ [p], upd cm v (some q), _, rfl, ⟨Pa.trans E4 fun _ e => .inr (e ▸ Nat.le_succ _), hC3.ext E4 (Nat.ne_of_lt (Nat.lt_succ_self _)), ?_, hG⟩, ?_, fun i p' l' hi hp' hl' u hu => ?_, fun u hu => (DH u hu).elim (List.mem_append_left _) fun e => e ▸ List.mem_append_right _ (.head _)⟩))))
  ·rw [c0 lP, List.map_append]; rfl
  ·rw [List.getElem?_append_left hk2]; exact hq
  ·rw [List.getElem?_append_left (Nat.lt_trans hi hk2)] at hp'
   exact List.mem_append_left _ (hd i p' l' hi hp' hl' u hu)
 | none =>
  rw [ho] at hon
  obtain ⟨cl, b1, _, b3, b4⟩ := hC3.at_
  have lj := fC s.hs
  have lm := bE s.hm
  obtain ⟨ol, hol, _⟩ := s.ho
  obtain ⟨_, kS, e4, rfl, cQ, own', c1, c2, c3, PR, c4, c5⟩ := CD s3 b1 b4 ⟨Ne.symm (Nat.ne_of_lt lm), Ne.symm (Nat.ne_of_lt (iJ hol))⟩ K (H.inv.tree hin hq hl hvl) h0 (by simp) ho
  exact kO (aP (aQ rfl (bP rfl (bC s3.hs rfl)) hon)) (jG (c9 rfl (f4 (n := 42) s3.hs rfl) rfl e4) rfl (lK rfl (hr _ _ (.inl ⟨rfl, cQ, own', c1, c2, c3, PR, c4, Pa.of0.then c5⟩))))
theorem Gv (s : MV σ j c m o ids cs aZ own) (K : cY cs aZ own) {place : Nat} (hp : place < cs.length) (h0 : aZ place = none) :
  wp (iK [.inst 1 j, .int place] σ) fun r σ' => Ge σ σ' j c m o ids cs aZ own place r := by
 have hsm := s.small
 have S0 : OX σ (σ ++ [.cA [], .list [.int place]]) cs own place [] [place] (fun _ => none) := by
  refine ⟨Ext.EE _, ⟨[], ?_, ⟨(fun p hp => by cases hp), .nil⟩, rfl, fun v => rfl⟩, ?_, ⟨rfl, rfl, (fun i v h => by cases h), (fun i v h => by cases h), .nil, List.nodup_cons.mpr ⟨by simp, .nil⟩, fun p hp' => (List.mem_singleton.mp hp').symm ▸ hp⟩⟩
  ·unfold eF; simp
  ·unfold getL; simp
 refine wp_runF rfl (fQ (v := .tup [.obj σ.length, .obj (σ.length + 1), .int 0]) (aT := σ ++ [.cA [], .list [.int place]]) ?_ rfl ?_)
 ·simp [X.eH, X.bind, X.aB, X.hY, X.aH, X.pure, X.lift, f5, X.oX, X.var]
 refine iZ.mpr (yR (OY σ j cs own place) ?_ 1000 (cs.length - 0) _ _ ⟨0, [], [place], fun _ => none, none, rfl, rfl, S0, Nat.zero_le _, fun i p l h => absurd h (Nat.not_lt_zero _)⟩ (by lia))
 rintro t ρ aT ⟨k, ks, ps, cm, x, rfl, rfl, H, hk, hdone⟩
 have s1 := s.dY H.ext
 have hpl := H.inv.xJ
 have hlen := H.inv.len
 have hml : (ps.map fun p => V.int (p : Nat)).length = ps.length := List.length_map _
 have hgl : gJ (.obj (σ.length + 1)) aT = some (.int (ps.length : Nat), aT) := by rw [jO H.pl (by lia), hml]
 refine ⟨decide ((k : Int) < (ps.length : Nat)), aT, aP (aQ rfl (aN rfl hgl) rfl), ?_⟩
 by_cases hkl : k < ps.length
 ·rw [decide_eq_true (Int.ofNat_lt.mpr hkl)]
  dsimp only
  rw [if_pos rfl]
  have hq : ps[k]? = some ps[k] := List.getElem?_eq_getElem hkl
  generalize ps[k] = q at hq
  have Oo := H.inv.lt q (List.mem_of_getElem? hq)
  have hl : cs[q]? = some cs[q] := List.getElem?_eq_getElem Oo
  generalize cs[q] = l at hl
  obtain ⟨id, hid, hcg, OC, _⟩ := s1.choice hl
  have Nj : getL σ id = some (l.map .int) := (s.uD q id l hid hl).h1
  have hll := s.lens l (List.mem_of_getElem? hl)
  refine iZ.mpr (Eu ⟨.obj id, aT, bN (bP rfl (bC s1.hs rfl)) (bN rfl rfl (zK H.pl hq (by lia))) hcg, l.map .int, OZ σ j cs own place k q l, ⟨ks, ps, cm, x, rfl, H, hq, hdone, (fun v hv => by cases hv)⟩, by rw [List.length_map]; lia, ?_, ?_, ?_⟩)
  ·rintro t ρ bH ⟨ks, ps, cm, x, rfl, H2, _⟩ ht
   exact Src.list (H2.ext.getL Nj fun z => z) bH .refl t ht
  ·intro t vv ρ bH hvv h2
   rw [List.getElem?_map] at hvv
   obtain ⟨v, hv, rfl⟩ := Option.map_eq_some_iff.mp hvv
   exact Gu s K h0 hl hv h2 (fun _ _ h => h) fun _ _ h => h
  ·rintro ρ bH ⟨ks, ps, cm, x, rfl, H2, hq2, hd2, hdt⟩
   have hk2 := (List.getElem?_eq_some_iff.mp hq2).1
   have Op := H2.inv.xJ
   refine fQ rfl rfl (dG ⟨cs.length - (k + 1), by lia, k + 1, ks, ps, cm, _, rfl, rfl, H2, hk2, fun i p l' hi hp hl' v hv => ?_⟩)
   by_cases hik : i < k
   ·exact hd2 i p l' hik hp hl' v hv
   ·have e : i = k := by lia
    rw [e, hq2] at hp; cases hp
    rw [hl] at hl'; cases hl'
    exact hdt v (by rw [List.length_map, List.take_length]; exact hv)
 ·rw [decide_eq_false (fun h => hkl (Int.ofNat_lt.mp h))]
  dsimp only
  rw [if_neg (fun h => by cases h)]
  have hke : k = ps.length := by lia
  subst hke
  refine lK (mO (aK rfl (aK (aN rfl (GT H.came (by lia))) rfl)) (Nat.le_of_ble_eq_true rfl)) (.inr ⟨_, _, ps, ks, rfl, (Ext.push (M := fun _ => False) _).getL H.pl fun h => h, cE, ⟨hlen, H.inv.zS, H.inv.nH, H.inv.lt, fun p hp l hl v hv => ?_⟩, List.mem_of_getElem? H.inv.head, H.ext.then (Ext.push _)⟩)
  obtain ⟨i, hi⟩ := List.getElem?_of_mem hp
  exact hdone i p l (List.getElem?_eq_some_iff.mp hi).1 hi hl v hv
end
inductive Reach (cs : List (List Int)) (own : Int → Option Nat) (v : Int) : Int → Prop
 | refl : Reach cs own v v
 | step {u w : Int} {p : Nat} {l : List Int} : Reach cs own v u → own u = some p → cs[p]? = some l → w ∈ l → Reach cs own v w
structure v7 (σ : St) (cj : Nat) (ks : List Int) : Prop where
 at_ : ∃ cl, A3 (eF σ cj = some cl) (mE cl) (cl.map (·.1) = ks)
structure qP (cs : List (List Int)) (own : Int → Option Nat) (v : Int) (ps : List Nat) (ks : List Int) : Prop where
 start : v ∈ ks
 zS : ks.Nodup
 nH : ps.Nodup
 len : ps.length = ks.length
 lt : ∀ p ∈ ps, p < cs.length
 own1 : ∀ p ∈ ps, ∃ u ∈ ks, own u = some p
 own2 : ∀ u ∈ ks, ∃ p ∈ ps, own u = some p
 sub : ∀ p ∈ ps, ∀ l, cs[p]? = some l → ∀ u ∈ l, u ∈ ks
 reach : ∀ u ∈ ks, Reach cs own v u
section
variable {σ σ' : St} {j c m o : Nat} {ids : List Nat} {cs : List (List Int)} {aZ : Nat → Option Int} {own : Int → Option Nat} {M : Nat → Prop} {cj : Nat} {ks : List Int}
theorem v7.ext (h : v7 σ cj ks) (e : Ext M σ σ') (hm : ¬ M cj) : v7 σ' cj ks := let ⟨cl, a, b, c⟩ := h.at_; ⟨cl, e.eF a hm, b, c⟩
theorem v7.len (h : v7 σ cj ks) : ks.length ≤ 200 := by
 obtain ⟨cl, a, b, rfl⟩ := h.at_
 simpa using b.len
theorem v7.pP (h : v7 σ cj ks) (v : Int) : dH (.int v) (.obj cj) σ = some (.bool (decide (v ∉ ks)), σ) := by
 obtain ⟨cl, a, b, rfl⟩ := h.at_
 exact FA a v
theorem v7.set (h : v7 σ cj ks) {v : Int} {x : V} (hv : v ∉ ks) (h0 : -100 ≤ v ∧ v < 100) : ∃ aT, mA (.obj cj) (.int v) x σ = some aT ∧ v7 aT cj (ks ++ [v]) ∧ Ext (fun i => i = cj) σ aT := by
 obtain ⟨cl, a, b, rfl⟩ := h.at_
 have lt := iJ a
 exact ⟨_, vB a (by have := b.len; lia), ⟨eU cl v x, lU lt, b.set _ h0.1 h0.2, vZ hv⟩, Ext.set _ rfl⟩
theorem v7.sorted (h : v7 σ cj ks) (hl : ks.length ≤ 60) : mN (.obj cj) σ = some (.obj σ.length, σ ++ [.list ((cL ks).map .int)]) := by
 obtain ⟨cl, a, b, rfl⟩ := h.at_
 unfold mN
 simp only [a, Option.bind_some]
 rw [if_pos (by simpa using hl)]
theorem HV {i : Nat} {l : List Int} (h : getL σ i = some (l.map .int)) (hl : l.length ≤ 1000) : iF (.obj i) (.obj σ.length) (σ ++ [.list []]) = some (.bool (decide (l ≠ [])), σ ++ [.list []]) := by
 have h1 := (Ext.push (M := fun _ => False) (.list [])).getL h fun h => h
 have h2 : getL (σ ++ [.list []]) σ.length = some [] := cE
 rw [Cq h1 h2]
 cases l with
 | nil =>
  rw [if_neg (by simp)]
  unfold oNe
  rw [CM h1 h2 rfl rfl]; rfl
 | cons a l => rw [if_pos (by simp at hl ⊢; lia)]; simp
structure v9 (cs : List (List Int)) (own : Int → Option Nat) (v : Int) (ks : List Int) (ps : List Nat) (dn st : List Int) : Prop where
 zS : ks.Nodup
 len : ks.length = dn.length + st.length
 mem : ∀ x, x ∈ ks ↔ x ∈ dn ∨ x ∈ st
 Lq : (dn ++ st).Nodup
 xJ : ps.length = dn.length
 ow : ∀ (i : Nat) (w : Int), dn[i]? = some w → own w = ps[i]?
 reach : ∀ u ∈ ks, Reach cs own v u
 start : v ∈ ks
theorem v9.nH {ps : List Nat} {v : Int} {dn st : List Int} (h : v9 cs own v ks ps dn st) (K : cY cs aZ own) : ps.Nodup := by
 rw [List.nodup_iff_pairwise_ne] at *
 rw [List.pairwise_iff_getElem]
 intro a b ha hb hab e
 have hpl := h.xJ
 have d1 : dn[a]? = some dn[a] := List.getElem?_eq_getElem (by lia)
 have d2 : dn[b]? = some dn[b] := List.getElem?_eq_getElem (by lia)
 have o1 := h.ow a _ d1
 have o2 := h.ow b _ d2
 rw [List.getElem?_eq_getElem ha] at o1
 rw [List.getElem?_eq_getElem hb] at o2
 have m1 := (K.iff _ _).mpr o1
 have m2 := (K.iff _ _).mpr o2
 rw [e, m2] at m1
 have hnd := (List.nodup_append.mp h.Lq).1
 rw [Option.some.inj m1] at d2
 have := qY hnd d1 d2
 lia
theorem v9.JD {ps : List Nat} {v : Int} {dn st : List Int} (h : v9 cs own v ks ps dn st) {p : Nat} (hp : p ∈ ps) : ∃ u ∈ dn, own u = some p := by
 obtain ⟨i, hi⟩ := List.getElem?_of_mem hp
 have hlt := (List.getElem?_eq_some_iff.mp hi).1
 have hpl := h.xJ
 have d1 : dn[i]? = some dn[i] := List.getElem?_eq_getElem (by lia)
 exact ⟨_, List.mem_of_getElem? d1, by rw [h.ow i _ d1, hi]⟩
theorem v9.Ny {ps : List Nat} {v : Int} {dn st : List Int} (h : v9 cs own v ks ps dn st) (K : cY cs aZ own) : dn.length ≤ cs.length := by
 have := cR (m := List.range cs.length) (h.nH K) fun p hp => by
  obtain ⟨u, _, hu⟩ := h.JD hp
  exact List.mem_range.mpr (K.lt _ _ hu)
 rw [← h.xJ]; simpa using this
noncomputable def G6 (σ σ' : St) (cs : List (List Int)) (own : Int → Option Nat) (v : Int) (r : V) : Prop :=
 bV σ σ' ∧ ((r = .none ∧ ∃ u, Reach cs own v u ∧ own u = none) ∨
 (E4 fun pj kj ps ks => A6 (r = .tup [.obj pj, .obj kj]) (getL σ' pj = some (ps.map fun p => .int (p : Nat))) (getL σ' kj = some ((cL ks).map .int)) (qP cs own v ps ks) (σ.length ≤ pj) (σ.length ≤ kj)))
theorem v9.move {ps : List Nat} {v w : Int} {dn st : List Int} {p : Nat} (h : v9 cs own v ks ps dn (st ++ [w])) (ho : own w = some p) : v9 cs own v ks (ps ++ [p]) (dn ++ [w]) st := by
 have hl := h.len
 have hpl := h.xJ
 rw [List.length_append] at hl
 refine ⟨h.zS, by rw [List.length_append]; lia, fun x => ?_, ?_, by rw [List.length_append, List.length_append, hpl]; rfl, fun i u hi => ?_, h.reach, h.start⟩
 ·rw [h.mem x, List.mem_append, List.mem_append]
  exact ⟨fun h => h.elim (fun h => .inl (.inl h)) fun h => h.elim .inr fun h => .inl (.inr h), fun h => h.elim (fun h => h.elim .inl fun h => .inr (.inr h)) fun h => .inr (.inl h)⟩
 ·have : ((dn ++ [w]) ++ st).Perm (dn ++ (st ++ [w])) := by rw [List.append_assoc]; exact List.perm_append_comm.append_left dn
  exact this.nodup_iff.mpr h.Lq
 ·by_cases hlt : i < dn.length
  ·rw [List.getElem?_append_left hlt] at hi
   rw [h.ow i u hi, List.getElem?_append_left (by lia)]
  ·have hlt2 := (List.getElem?_eq_some_iff.mp hi).1
   rw [List.length_append] at hlt2
   have e : i = dn.length := by have : [w].length = 1 := rfl; lia
   rw [e, List.getElem?_concat_length] at hi
   cases hi
   rw [ho, e, ← hpl, List.getElem?_concat_length]
theorem v9.grow {ps : List Nat} {v u w : Int} {dn st : List Int} {p : Nat} {l : List Int} (h : v9 cs own v ks ps dn st) (hin : u ∉ ks) (hw : w ∈ dn) (ho : own w = some p) (hl : cs[p]? = some l) (hu : u ∈ l) : v9 cs own v (ks ++ [u]) ps dn (st ++ [u]) := by
 have hlen := h.len
 refine ⟨?_, by rw [List.length_append, List.length_append, hlen, Nat.add_assoc], fun x => ?_, ?_, h.xJ, h.ow, fun z hz => ?_, List.mem_append_left _ h.start⟩
 ·rw [List.nodup_append]
  exact ⟨h.zS, List.nodup_cons.mpr ⟨by simp, .nil⟩, fun a ha b hb e => hin (List.mem_singleton.mp hb ▸ e ▸ ha)⟩
 ·rw [List.mem_append, List.mem_append, h.mem x, or_assoc]
 ·rw [← List.append_assoc, List.nodup_append]
  exact ⟨h.Lq, List.nodup_cons.mpr ⟨by simp, .nil⟩, fun a ha b hb e => hin (List.mem_singleton.mp hb ▸ e ▸ (h.mem a).mpr (List.mem_append.mp ha))⟩
 ·rcases List.mem_append.mp hz with hz | hz
  ·exact h.reach z hz
  ·rw [List.mem_singleton.mp hz]
   exact .step (h.reach w ((h.mem w).mpr (.inl hw))) ho hl hu
noncomputable def Seen (cs : List (List Int)) (own : Int → Option Nat) (dn ks : List Int) : Prop := ∀ w ∈ dn, ∀ p l, own w = some p → cs[p]? = some l → ∀ u ∈ l, u ∈ ks
structure Jk (σ σ' : St) (cs : List (List Int)) (own : Int → Option Nat) (v : Int) (ks : List Int) (ps : List Nat) (dn st : List Int) : Prop where
 ext : bV σ σ'
 keys : v7 σ' (σ.length + 1) ks
 pl : getL σ' σ.length = some (ps.map fun p => .int (p : Nat))
 sl : getL σ' (σ.length + 1 + 1) = some (st.map .int)
 inv : v9 cs own v ks ps dn st
theorem Jk.dY {v : Int} {w9 : St} {ps : List Nat} {dn st : List Int} (h : Jk σ σ' cs own v ks ps dn st) (e : bV σ' w9) : Jk σ w9 cs own v ks ps dn st := ⟨h.ext.then e, h.keys.ext e fun z => z, e.getL h.pl fun z => z, e.getL h.sl fun z => z, h.inv⟩
theorem Jk.fresh {v : Int} {ps : List Nat} {dn st : List Int} (h : Jk σ σ' cs own v ks ps dn st) {z : Nat} {o : O} (hz : σ.length ≤ z) : bV σ (σ'.set z o) := h.ext.trans (M' := fun i => i = z) (Ext.set _ rfl) fun _ e => .inr (e ▸ hz)
noncomputable def Ki (j n : Nat) (v : Int) (x y : Option V) : Loc := [some (.inst 1 j), some (.int v), some (.obj n), some (.obj (n + 1)), some (.obj (n + 1 + 1)), x, y]
noncomputable def Pb (σ : St) (j : Nat) (cs : List (List Int)) (own : Int → Option Nat) (v : Int) (t : Nat) (ρ : Loc) (σ' : St) : Prop := E6 fun ks ps dn st x y => A4 (t = cs.length + 1 - dn.length) (ρ = Ki j σ.length v x y) (Jk σ σ' cs own v ks ps dn st) (Seen cs own dn ks)
noncomputable def CIn (σ : St) (j : Nat) (cs : List (List Int)) (own : Int → Option Nat) (v w : Int) (ps : List Nat) (dn l : List Int) (t : Nat) (ρ : Loc) (σ' : St) : Prop := E3 fun ks st y => A4 (ρ = Ki j σ.length v (some (.int w)) y) (Jk σ σ' cs own v ks ps (dn ++ [w]) st) (Seen cs own dn ks) (∀ u ∈ l.take t, u ∈ ks)
theorem CP {Q : Fl → Loc → St → Prop} {v w : Int} {ps : List Nat} {dn l ks : List Int} {st : List Int} {p : Nat} {y : Option V} (s : MV σ j c m o ids cs aZ own) (K : cY cs aZ own) (ho : own w = some p) (hl : cs[p]? = some l) (h : Jk σ σ' cs own v ks ps (dn ++ [w]) st) (hd : Seen cs own dn ks)
  (hQ : ∀ w9 ks st y, Jk σ w9 cs own v ks ps (dn ++ [w]) st → Seen cs own (dn ++ [w]) ks → Q .next (Ki j σ.length v (some (.int w)) y) w9) :
  sp (XS.for (X.sub (X.attr 1 37 (X.var 0)) (X.sub (X.attr 1 33 (X.var 0)) (X.var 5))) (XA.name 6) (XS.seq (XS.ite (X.test (X.bin dH (X.var 6) (X.var 3))) (XS.seq (XS.assign (X.pure (.bool true)) (XA.item (X.var 3) (X.var 6))) (XS.seq (XS.drop (X.eY eB (X.var 4) (X.aB (X.var 6) X.aH))) XS.nil)) XS.nil) XS.nil) 1000) (Ki j σ.length v (some (.int w)) y) σ' Q := by
 have s3 := s.dY h.ext
 obtain ⟨id, hid, hcg, OC, _⟩ := s3.choice hl
 have uD := (s.uD p id l hid hl).1
 have hll := s.lens l (List.mem_of_getElem? hl)
 refine Eu ⟨.obj id, σ', bN (bP rfl (bC s3.hs rfl)) (bN (bP rfl (bC s3.hs rfl)) rfl (s3.EH ho)) hcg, l.map .int, CIn σ j cs own v w ps dn l, ⟨ks, st, y, rfl, h, hd, (fun u hu => by cases hu)⟩, by rw [List.length_map]; lia, ?_, ?_, ?_⟩
 ·rintro t ρ kS ⟨ks, st, y, rfl, h4, _⟩ ht
  exact Src.list (h4.ext.getL uD fun z => z) kS .refl t ht
 ·rintro t vv ρ kS hvv ⟨ks, st, y, rfl, h4, hd4, ht4⟩
  rw [List.getElem?_map] at hvv
  obtain ⟨u, hu, rfl⟩ := Option.map_eq_some_iff.mp hvv
  have hul : u ∈ l := List.mem_of_getElem? hu
  have hur := s.vals l (List.mem_of_getElem? hl) u hul
  have DH : ∀ z ∈ l.take (t + 1), z ∈ ks ∨ z = u := by
   intro z hz
   obtain ⟨hlt, e⟩ := List.getElem?_eq_some_iff.mp hu
   rw [List.take_succ_eq_append_getElem hlt, List.mem_append, List.mem_singleton, e] at hz
   exact hz.imp (ht4 z) fun h => h
  refine ⟨_, _, rfl, ?_⟩
  have hni := h4.keys.pP u
  by_cases hin : u ∈ ks
  ·rw [decide_eq_false (fun h => h hin)] at hni
   exact cZ (aP (aQ rfl rfl hni)) (dG ⟨ks, st, _, rfl, h4, hd4, fun z hz => (DH z hz).elim (fun h => h) fun e => e ▸ hin⟩)
  ·rw [decide_eq_true hin] at hni
   obtain ⟨pA, e5, hK5, E5⟩ := h4.keys.set (x := .bool true) hin hur
   have hS5 := E5.getL h4.sl (Nat.succ_ne_self _)
   have hP5 := E5.getL h4.pl (Nat.ne_of_lt (Nat.lt_succ_self _))
   have hlen4 := h4.inv.len
   have hkl4 := h4.keys.len
   have E6 : Ext (fun i => i = σ.length + 1 + 1) pA (pA.set (σ.length + 1 + 1) (.list (st.map .int ++ [.int u]))) := Ext.set _ rfl
   have E05 : bV σ pA := h4.ext.trans E5 fun _ e => .inr (e ▸ Nat.le_succ _)
   refine kO (aP (aQ rfl rfl hni)) (fQ rfl (Gb rfl rfl e5) (jG (fD rfl (d6 hS5) rfl (fG hS5 (by rw [List.length_map]; lia))) rfl (dG (dG ⟨ks ++ [u], st ++ [u], _, rfl, ⟨E05.trans E6 fun _ e => .inr (e ▸ Nat.le_trans (Nat.le_succ _) (Nat.le_succ _)), hK5.ext E6 (Nat.ne_of_lt (Nat.lt_succ_self _)), E6.getL hP5 (Nat.ne_of_lt (Nat.lt_succ_of_lt (Nat.lt_succ_self _))), ?_, h4.inv.grow hin (List.mem_append_right _ (.head _)) ho hl hul⟩, fun w' hw' p' l' ho' hl' z hz => List.mem_append_left _ (hd4 w' hw' p' l' ho' hl' z hz), fun z hz => (DH z hz).elim (List.mem_append_left _) fun e => e ▸ List.mem_append_right _ (.head _)⟩))))
   rw [c0 (bE hS5), List.map_append]; rfl
 ·rintro ρ kS ⟨ks, st, y, rfl, h4, hd4, ht4⟩
  refine hQ kS ks st y h4 fun w' hw' p' l' ho' hl' z hz => ?_
  rcases List.mem_append.mp hw' with hw' | hw'
  ·exact hd4 w' hw' p' l' ho' hl' z hz
  ·rw [List.mem_singleton.mp hw', ho] at ho'; cases ho'
   rw [hl] at hl'; cases hl'
   exact ht4 z (by rw [List.length_map, List.take_length]; exact hz)
theorem Fi {v : Int} {ps : List Nat} {dn : List Int} (h : Jk σ σ' cs own v ks ps dn []) (K : cY cs aZ own) (hd : Seen cs own dn ks) : qP cs own v ps ks := by
 have hI := h.inv
 have hdk : ∀ u, u ∈ ks ↔ u ∈ dn := fun u => (hI.mem u).trans ⟨fun h => h.elim (fun h => h) (fun h => by cases h), .inl⟩
 refine ⟨hI.start, hI.zS, hI.nH K, hI.xJ.trans (by rw [hI.len]; rfl), fun p hp => ?_, fun p hp => ?_, fun u hu => ?_, fun p hp l hl u hu => ?_, hI.reach⟩
 ·obtain ⟨u, _, h⟩ := hI.JD hp; exact K.lt _ _ h
 ·obtain ⟨u, h1, h2⟩ := hI.JD hp; exact ⟨u, (hdk u).mpr h1, h2⟩
 ·obtain ⟨i, hi⟩ := List.getElem?_of_mem ((hdk u).mp hu)
  have hlt := (List.getElem?_eq_some_iff.mp hi).1
  have hpl := hI.xJ
  have hpi : ps[i]? = some ps[i] := List.getElem?_eq_getElem (by lia)
  exact ⟨_, List.mem_of_getElem? hpi, by rw [hI.ow i u hi, hpi]⟩
 ·obtain ⟨w, h1, h2⟩ := hI.JD hp
  exact hd w h1 p l h2 hl u hu
theorem DZ (s : MV σ j c m o ids cs aZ own) (K : cY cs aZ own) {v : Int} (hv : -100 ≤ v ∧ v < 100) :
  wp (dJ [.inst 1 j, .int v] σ) fun r σ' => G6 σ σ' cs own v r := by
 have hsm := s.small
 have C0 : Jk σ (σ ++ [.list [], .cA [(v, .bool true)], .list [.int v]]) cs own v [v] [] [] [v] := by
  refine ⟨Ext.EE _, ⟨[(v, .bool true)], ?_, ⟨(fun p hp => by rw [List.mem_singleton.mp hp]; exact hv), List.nodup_cons.mpr ⟨by simp, .nil⟩⟩, rfl⟩, ?_, ?_, ⟨List.nodup_cons.mpr ⟨by simp, .nil⟩, rfl, (fun x => by simp), List.nodup_cons.mpr ⟨by simp, .nil⟩, rfl, (fun i w h => by cases h), (fun u hu => by rw [List.mem_singleton.mp hu]; exact .refl), .head _⟩⟩
  ·unfold eF; simp
  ·unfold getL; simp
  ·unfold getL; rw [List.getElem?_append_right (by lia), show σ.length + 1 + 1 - σ.length = 2 by lia]; rfl
 refine wp_runF rfl (fQ (v := .tup [.obj σ.length, .obj (σ.length + 1), .obj (σ.length + 1 + 1)]) (aT := σ ++ [.list [], .cA [(v, .bool true)], .list [.int v]]) ?_ rfl ?_)
 ·simp [X.eH, X.bind, X.aB, X.hY, X.aH, X.pure, X.lift, f5, X.DV, X.lM, X.Hx, X.var, intKeys, p8, eU]
 refine iZ.mpr (yR (Pb σ j cs own v) ?_ 1000 (cs.length + 1 - 0) _ _ ⟨[v], [], [], [v], none, none, rfl, rfl, C0, (fun w h => by cases h)⟩ (by lia))
 rintro t ρ aT ⟨ks, ps, dn, st, x, y, rfl, rfl, h, hd⟩
 have hlen := h.inv.len
 have hdl := h.inv.Ny K
 have hkl := h.keys.len
 have hP1 : bV aT (aT ++ [O.list []]) := Ext.push _
 have hne := HV h.sl (by lia)
 have h1 := h.dY hP1
 refine ⟨decide (st ≠ []), _, aP (aQ rfl (pZ rfl (Nat.zero_le _)) hne), ?_⟩
 generalize aT ++ [O.list []] = bH at h1 hP1
 by_cases hst : st = []
 ·subst hst
  have hso := h1.keys.sorted (by rw [hlen]; have : ([] : List Int).length = 0 := rfl; lia)
  refine lK (mO (aK rfl (aK (aN rfl hso) rfl)) (Nat.le_of_ble_eq_true rfl)) ⟨h1.ext.then (Ext.push _), .inr ⟨_, _, ps, ks, rfl, (Ext.push (M := fun _ => False) _).getL h1.pl fun z => z, cE, Fi h1 K hd, Nat.le_refl _, h1.ext.1⟩⟩
 ·obtain ⟨st', w, rfl⟩ : ∃ st' w, st = st' ++ [w] := ⟨st.dropLast, st.getLast hst, (List.dropLast_concat_getLast hst).symm⟩
  rw [decide_eq_true hst, if_pos rfl]
  have hwk : w ∈ ks := (h1.inv.mem w).mpr (.inr (List.mem_append_right _ (.head _)))
  have hS1 := h1.sl
  have JZ : Ff [.obj (σ.length + 1 + 1)] bH = some (.int w, bH.set (σ.length + 1 + 1) (.list (st'.map .int))) := by
   show (getL bH _).bind _ = _
   rw [hS1, Option.bind_some, if_pos (by rw [List.length_map]; lia)]
   simp
  have E2 : Ext (fun i => i = σ.length + 1 + 1) bH (bH.set (σ.length + 1 + 1) (.list (st'.map .int))) := Ext.set _ rfl
  have hS2 : getL (bH.set (σ.length + 1 + 1) (.list (st'.map .int))) (σ.length + 1 + 1) = some (st'.map .int) := c0 (bE hS1)
  have hP3 := E2.getL h1.pl (Nat.ne_of_lt (Nat.lt_succ_of_lt (Nat.lt_succ_self _)))
  have hK3 := h1.keys.ext E2 (Nat.ne_of_lt (Nat.lt_succ_self _))
  have E02 := h1.fresh (o := .list (st'.map .int)) (Nat.le_trans (Nat.le_succ _) (Nat.le_succ (σ.length + 1)))
  refine fQ (fD rfl (d6 hS1) rfl JZ) rfl ?_
  clear JZ E2
  generalize bH.set (σ.length + 1 + 1) (O.list (st'.map V.int)) = dQ at hS2 hP3 hK3 E02
  have s2 := s.dY E02
  have hon := s2.Hy w
  cases ho : own w with
  | none =>
   rw [ho] at hon
   exact zC (aP (aQ rfl (bP rfl (bC s2.hs rfl)) hon)) rfl ⟨E02, .inl ⟨rfl, w, h.inv.reach w hwk, ho⟩⟩
  | some p =>
   rw [ho] at hon
   have Af := K.lt _ _ ho
   have hl : cs[p]? = some cs[p] := List.getElem?_eq_getElem Af
   generalize cs[p] = l at hl
   have lP := bE hP3
   have E3 : Ext (fun i => i = σ.length) dQ (dQ.set σ.length (.list ((ps.map fun p => V.int ((p : Nat) : Int)) ++ [.int (p : Nat)]))) := Ext.set _ rfl
   have hpl := h.inv.xJ
   refine cZ (aP (aQ rfl (bP rfl (bC s2.hs rfl)) hon)) (jG (fD rfl (d6 hP3) (aK (bN (bP rfl (bC s2.hs rfl)) rfl (s2.EH ho)) rfl) (fG hP3 (by rw [List.length_map]; lia))) rfl (iZ.mpr (CP (ps := ps ++ [p]) (dn := dn) (st := st') (ks := ks) s K ho hl ⟨E02.trans E3 fun _ e => .inr (e ▸ Nat.le_refl _), hK3.ext E3 (Nat.succ_ne_self _), ?_, E3.getL hS2 (Ne.symm (Nat.ne_of_lt (Nat.lt_succ_of_lt (Nat.lt_succ_self _)))), h.inv.move ho⟩ hd ?_)))
   ·rw [c0 lP, List.map_append]; rfl
   ·intro kS PB Pw y4 h4 hd4
    have OG := h4.inv.Ny K
    rw [List.length_append] at OG
    refine dG ⟨cs.length + 1 - (dn ++ [w]).length, ?_, PB, ps ++ [p], dn ++ [w], Pw, _, _, rfl, rfl, h4, hd4⟩
    rw [List.length_append]
    have : [w].length = 1 := rfl
    lia
end
noncomputable def Ml (cs : List (List Int)) : Prop := ∀ (S : List Nat) (T : List Int), S.Nodup → (∀ q ∈ S, q < cs.length) → (∀ q ∈ S, ∀ l, cs[q]? = some l → ∀ u ∈ l, u ∈ T) → S.length ≤ T.length
noncomputable def i9 (cs : List (List Int)) (p : Nat) (v : Int) : Prop := ∀ (S : List Nat) (T : List Int), S.Nodup → (∀ q ∈ S, q < cs.length ∧ q ≠ p) → (∀ q ∈ S, ∀ l, cs[q]? = some l → ∀ u ∈ l, u ≠ v → u ∈ T) → S.length ≤ T.length
noncomputable def AH (cs : List (List Int)) (own : Int → Option Nat) (p : Nat) (v : Int) : Prop := ∃ w, Reach cs own v w ∧ (own w = none ∨ own w = some p)
noncomputable def Full (cs : List (List Int)) (aZ : Nat → Option Int) : Prop := ∀ p, p < cs.length → ∃ v, aZ p = some v
section
variable {cs : List (List Int)} {aZ : Nat → Option Int} {own : Int → Option Nat}
noncomputable def kQ (aZ : Nat → Option Int) (S : List Nat) : List Int := S.filterMap aZ
theorem rA (hf : Full cs aZ) {S : List Nat} (hS : ∀ q ∈ S, q < cs.length) : (kQ aZ S).length = S.length := by
 unfold kQ
 induction S with
 | nil => rfl
 | cons q S ih =>
  obtain ⟨v, hv⟩ := hf q (hS q (.head _))
  rw [List.filterMap_cons, hv]
  simp [ih fun q hq => hS q (.tail _ hq)]
theorem jN {S : List Nat} {v : Int} : v ∈ kQ aZ S ↔ ∃ q ∈ S, aZ q = some v := by
 unfold kQ; simp [List.mem_filterMap]
theorem wO (K : cY cs aZ own) {S : List Nat} (h : S.Nodup) : (kQ aZ S).Nodup := by
 unfold kQ
 induction S with
 | nil => simp
 | cons q S ih =>
  rw [List.nodup_cons] at h
  rw [List.filterMap_cons]
  cases hv : aZ q with
  | none => exact ih h.2
  | some v =>
   dsimp only
   rw [List.nodup_cons]
   refine ⟨fun hm => ?_, ih h.2⟩
   obtain ⟨q', hq', e⟩ := jN.mp hm
   have a := (K.iff q v).mp hv
   have b := (K.iff q' v).mp e
   rw [a] at b; cases b
   exact h.1 hq'
theorem FW (K : cY cs aZ own) (hf : Full cs aZ) : Ml cs := by
 intro S T hn hS hT
 rw [← rA hf hS]
 refine cR (wO K hn) fun v hv => ?_
 obtain ⟨q, hq, e⟩ := jN.mp hv
 have hl : cs[q]? = some (cs[q]'(hS q hq)) := List.getElem?_eq_getElem (hS q hq)
 exact hT q hq _ hl v (K.mem q v _ e hl)
theorem lF (K : cY cs aZ own) (hf : Full cs aZ) {p : Nat} {v : Int} (g : AH cs own p v) : i9 cs p v := by
 intro S T hn hS hT
 have hS' : ∀ q ∈ S, q < cs.length := fun q hq => (hS q hq).1
 have hB := rA hf hS'
 have hBn := wO K hn
 refine Classical.byContradiction fun hlt => ?_
 rw [Nat.not_le] at hlt
 have MD : ∀ b ∈ kQ aZ S, b ≠ v → b ∈ T := by
  intro b hb hne
  obtain ⟨q, hq, e⟩ := jN.mp hb
  have hl : cs[q]? = some (cs[q]'(hS' q hq)) := List.getElem?_eq_getElem (hS' q hq)
  exact hT q hq _ hl b (K.mem q b _ e hl) hne
 have hv : v ∈ kQ aZ S := by
  refine Classical.byContradiction fun h => ?_
  have := cR hBn fun b hb => MD b hb (by rintro rfl; exact h hb)
  rw [hB] at this
  exact absurd this (Nat.not_le.mpr hlt)
 have hE : ((kQ aZ S).erase v).length = S.length - 1 := by rw [List.length_erase_of_mem hv, hB]
 have hEn : ((kQ aZ S).erase v).Nodup := hBn.erase v
 have N4 : ∀ b ∈ (kQ aZ S).erase v, b ∈ T := fun b hb => by
  rw [hBn.mem_erase_iff] at hb
  exact MD b hb.2 hb.1
 have closed : ∀ q ∈ S, ∀ l, cs[q]? = some l → ∀ u ∈ l, u ∈ kQ aZ S := by
  intro q hq l hl u hu
  by_cases huv : u = v
  ·subst huv; exact hv
  ·refine Classical.byContradiction fun h => ?_
   have huT := hT q hq l hl u hu huv
   have := cR (l := u :: (kQ aZ S).erase v) (m := T) (by
    rw [List.nodup_cons]; exact ⟨fun z => h (List.mem_of_mem_erase z), hEn⟩) fun x hx => by
     rcases List.mem_cons.mp hx with rfl | hx
     ·exact huT
     ·exact N4 x hx
   rw [List.length_cons, hE] at this
   exact absurd (Nat.le_trans (Nat.le_add_of_sub_le (Nat.le_refl _)) this) (Nat.not_le.mpr hlt)
 obtain ⟨w, hr, hend⟩ := g
 have key : ∀ w, Reach cs own v w → w ∈ kQ aZ S := by
  intro w hr
  induction hr with
  | refl => exact hv
  | step _ ho hl hm ih =>
   obtain ⟨q, hq, e⟩ := jN.mp ih
   have := (K.iff _ _).mp e
   rw [ho] at this; cases this
   exact closed _ hq _ hl _ hm
 obtain ⟨q, hq, e⟩ := jN.mp (key w hr)
 have := (K.iff _ _).mp e
 rcases hend with h | h
 ·rw [h] at this; cases this
 ·rw [h] at this; cases this
  exact (hS _ hq).2 rfl
theorem Av {ps : List Nat} {ks : List Int} {p : Nat} {v : Int} (h : qP cs own v ps ks) (hp : p ∉ ps) : ¬ i9 cs p v := by
 intro H
 have := H ps (ks.erase v) h.nH (fun q hq => ⟨h.lt q hq, by rintro rfl; exact hp hq⟩) fun q hq l hl u hu hne => (List.mem_erase_of_ne hne).mpr (h.sub q hq l hl u hu)
 rw [List.length_erase_of_mem h.start, h.len] at this
 have := List.length_pos_of_mem h.start
 lia
theorem D3 {ps : List Nat} {ks : List Int} {p : Nat} {v : Int} (h : qP cs own v ps ks) (hp : p ∈ ps) : AH cs own p v := by
 obtain ⟨u, hu, ho⟩ := h.own1 p hp
 exact ⟨u, h.reach u hu, .inr ho⟩
theorem Ha {ps : List Nat} {ks : List Int} (h : I9 cs ps ks) : ¬ Ml cs := by
 intro H
 have := H ps ks h.nH h.lt h.sub
 have := h.len
 lia
theorem Reach.trans {u v w : Int} (a : Reach cs own u v) (b : Reach cs own v w) : Reach cs own u w := by
 induction b with
 | refl => exact a
 | step _ ho hl hm ih => exact .step ih ho hl hm
open Classical in
theorem GQ (K : cY cs aZ own) (hf : Full cs aZ) {p : Nat} {v : Int} (H : i9 cs p v) : AH cs own p v := by
 refine Classical.byContradiction fun hg => ?_
 have hown : ∀ w, Reach cs own v w → ∃ q, own w = some q ∧ q ≠ p := by
  intro w hr
  cases ho : own w with
  | none => exact absurd ⟨w, hr, .inl ho⟩ hg
  | some q => exact ⟨q, rfl, by rintro rfl; exact hg ⟨w, hr, .inr ho⟩⟩
 let S := (List.range cs.length).filter fun q => decide (∃ w, Reach cs own v w ∧ own w = some q)
 have HX : ∀ q, q ∈ S ↔ ∃ w, Reach cs own v w ∧ own w = some q := by
  intro q
  simp only [S, List.mem_filter, List.mem_range, decide_eq_true_eq]
  exact ⟨fun h => h.2, fun ⟨w, a, b⟩ => ⟨K.lt _ _ b, w, a, b⟩⟩
 have hSn : S.Nodup := (List.nodup_range).sublist List.filter_sublist
 have hS' : ∀ q ∈ S, q < cs.length := fun q hq => by
  obtain ⟨w, _, b⟩ := (HX q).mp hq; exact K.lt _ _ b
 have hvS : v ∈ kQ aZ S := by
  obtain ⟨q, ho, _⟩ := hown v .refl
  exact jN.mpr ⟨q, (HX q).mpr ⟨v, .refl, ho⟩, (K.iff _ _).mpr ho⟩
 have := H S ((kQ aZ S).erase v) hSn (fun q hq => ⟨hS' q hq, fun z => by
  obtain ⟨w, a, b⟩ := (HX q).mp hq
  obtain ⟨q', c, d⟩ := hown w a
  rw [b] at c; cases c; exact d z⟩) fun q hq l hl u hu hne => by
   obtain ⟨w, a, b⟩ := (HX q).mp hq
   have hru : Reach cs own v u := .step a b hl hu
   obtain ⟨q', c, _⟩ := hown u hru
   exact (List.mem_erase_of_ne hne).mpr (jN.mpr ⟨q', (HX q').mpr ⟨u, hru, c⟩, (K.iff _ _).mpr c⟩)
 rw [List.length_erase_of_mem hvS, rA hf hS'] at this
 have h2 := List.length_pos_of_mem hvS
 rw [rA hf hS'] at h2
 lia
theorem second (K : cY cs aZ own) (hf : Full cs aZ) {cs' : List (List Int)} (hlen : cs'.length = cs.length) (hcs : ∀ (p : Nat) (l l' : List Int), cs[p]? = some l → cs'[p]? = some l' → ∀ v, v ∈ l' ↔ v ∈ l ∧ i9 cs p v) :
  cY cs' aZ own ∧ Full cs' aZ ∧ ∀ (p : Nat) (l' : List Int) (v : Int), cs'[p]? = some l' → v ∈ l' → i9 cs' p v := by
 have get : ∀ {p : Nat} {l' : List Int}, cs'[p]? = some l' → ∃ l, cs[p]? = some l := fun {p l'} h => by
  have := (List.getElem?_eq_some_iff.mp h).1
  exact ⟨_, List.getElem?_eq_getElem (by lia)⟩
 have get' : ∀ {p : Nat} {l : List Int}, cs[p]? = some l → ∃ l', cs'[p]? = some l' := fun {p l} h => by
  have := (List.getElem?_eq_some_iff.mp h).1
  exact ⟨_, List.getElem?_eq_getElem (by lia)⟩
 have K' : cY cs' aZ own := ⟨K.iff, fun p v h => by rw [hlen]; exact K.lt p v h, fun p v l' h hl' => by
  obtain ⟨l, hl⟩ := get hl'
  exact (hcs p l l' hl hl' v).mpr ⟨K.mem p v l h hl, lF K hf ⟨v, .refl, .inr ((K.iff _ _).mp h)⟩⟩⟩
 have hf' : Full cs' aZ := fun p hp => hf p (by lia)
 refine ⟨K', hf', fun p l' v hl' hv => ?_⟩
 obtain ⟨l, hl⟩ := get hl'
 obtain ⟨hvl, hH⟩ := (hcs p l l' hl hl' v).mp hv
 obtain ⟨z, hr, hend⟩ := GQ K hf hH
 have key : ∀ u, Reach cs own v u → Reach cs own u z → Reach cs' own v u := by
  intro u hu
  induction hu with
  | refl => intro _; exact .refl
  | step hu0 ho Ow hm ih =>
   rename_i u0 u q lq
   intro huz
   have h1 : Reach cs own u0 z := Reach.trans (.step .refl ho Ow hm) huz
   obtain ⟨lq', Nd⟩ := get' Ow
   refine .step (ih h1) ho Nd ((hcs q lq lq' Ow Nd u).mpr ⟨hm, lF K hf ?_⟩)
   rcases hend with h | h
   ·exact ⟨z, huz, .inl h⟩
   ·exact ⟨u0, (Reach.trans huz (.step .refl h hl hvl)).trans hu0, .inr ho⟩
 exact lF K' hf' ⟨z, key z hr .refl, hend⟩
end
theorem wp_fNew {c : Nat} {F : FF} {vs : List V} {σ : St} {Q : V → St → Prop} (h : wp (F (.inst c σ.length :: vs) (σ ++ [.aV []])) fun r σ' => r = .none ∧ Q (.inst c σ.length) σ') : wp (fNew c F vs σ) Q := by
 obtain ⟨r, s, e, rfl, q⟩ := h
 unfold fNew
 rw [e]; exact wp_some.mpr q
noncomputable def aJ (l : List Nat) : List V := l.map fun x => .int (x : Nat)
theorem Pv {a b c d : Nat} (h1 : a < b) (h2 : b < c) (h3 : c < d) : [a, b, c, d].Nodup := by
 simp only [List.nodup_cons, List.mem_cons, List.not_mem_nil, or_false, not_or]
 exact ⟨⟨Nat.ne_of_lt h1, Nat.ne_of_lt (Nat.lt_trans h1 h2), Nat.ne_of_lt (Nat.lt_trans h1 (Nat.lt_trans h2 h3))⟩, ⟨Nat.ne_of_lt h2, Nat.ne_of_lt (Nat.lt_trans h2 h3)⟩, Nat.ne_of_lt h3, id, .nil⟩
section
variable {σ σ' : St} {i a f t mk nw : Nat} {doms firsts : List (List (Int × Int))} {trail marks : List V} {failed : Bool} {clash : List V}
inductive K4 (aT : St) (doms : List (List (Int × Int))) (scope : List Nat) (a b c : Option V) (k : Nat) (ρ : Loc) (σ' : St) (x : Option V) (ids : List Nat) : Prop
 | intro (e : ρ = [a, b, c, x]) (E : bV aT σ') (len : ids.length = k) (g : getL σ' aT.length = some (ids.map .obj)) (h : ∀ (p id x : Nat), ids[p]? = some id → scope[p]? = some x → getL σ' id = some ((aX (doms.getD x [])).map .int) ∧ aT.length < id)
theorem CQ (s : SV σ i a f t mk nw doms firsts trail marks failed clash) {scope : List Nat} {l0 : Option V} (h0 : scope.length ≤ 10) (h1 : doms.length ≤ 100) (hsc : ∀ x ∈ scope, x < doms.length) (hg : ∀ rs ∈ doms, Good rs ∧ (aX rs).length ≤ 20) :
  xp (X.fZ [3] (X.var 2) (XA.name 3) none (X.call qO (X.aB (X.cS 0 36 kD (X.var 1) (X.aB (X.var 3) X.aH)) X.aH)) 1000) [l0, some (.inst 0 i), some (.tup (aJ scope)), none] σ fun r σ' => r = .obj σ.length ∧ E2 fun x ids => K4 σ doms scope l0 (some (.inst 0 i)) (some (.tup (aJ scope))) scope.length [l0, some (.inst 0 i), some (.tup (aJ scope)), x] σ' x ids := by
 have hsl : (aJ scope).length = scope.length := List.length_map _
 refine tD ⟨_, _, rfl, aJ scope, fun k ρ σ' => E2 (K4 σ doms scope l0 (some (.inst 0 i)) (some (.tup (aJ scope))) k ρ σ'), ⟨none, [], rfl, .push _, rfl, cE, fun p id x h => by cases h⟩, hsl ▸ Nat.lt_of_le_of_lt h0 (by decide), rfl, fun k ρ σ' _ _ => rfl, fun k xx ρ bH hx I => ?_, fun ρ σ' I => ?_⟩
 ·obtain ⟨y, ids, rfl, E2, hk, hL, uD⟩ := I
  unfold aJ at hx
  rw [List.getElem?_map] at hx
  obtain ⟨x, hx', rfl⟩ := Option.map_eq_some_iff.mp hx
  have hxd := hsc x (List.mem_of_getElem? hx')
  have hks := (List.getElem?_eq_some_iff.mp hx').1
  have hgd := hg doms[x] (List.getElem_mem hxd)
  have Nm : doms.getD x [] = doms[x] := by rw [List.getD_eq_getElem?_getD, List.getElem?_eq_getElem hxd]; rfl
  have s2 := s.dY E2
  obtain ⟨_, dQ, e3, rfl, rfl⟩ := DU s2 hxd (Nat.le_trans h1 (by decide))
  obtain ⟨_, kS, e4, id, rfl, hid, hv, E4⟩ := wA (σ := dQ) (hgd.1.small hgd.2) (Nat.le_trans hgd.2 (by decide))
  have hL4 := E4.getL hL fun h => h
  have l3 := bE hL
  have hi := Nat.lt_of_lt_of_le l3 hid
  have hb : (ids.map V.obj).length ≤ 100000 := by rw [List.length_map, hk]; exact Nat.le_trans (Nat.le_of_lt hks) (Nat.le_trans h0 (by decide))
  refine ⟨_, _, rfl, true, _, rfl, Cu.mpr ⟨_, _, aN (aK (c9 rfl (s2.inst rfl) rfl e3) rfl) e4, _, hL4, hb, ⟨_, ids ++ [id], rfl, (E2.wB E4).trans (M' := fun i => i = σ.length) (.set _ rfl) (fun i h => .inr (h ▸ Nat.le_refl _)), by rw [List.length_append, hk]; rfl, by rw [c0 (bE hL4), List.map_append]; rfl, fun p id' x' hp hx2 => ?_⟩⟩⟩
  by_cases hlt : p < ids.length
  ·rw [List.getElem?_append_left hlt] at hp
   obtain ⟨g1, g2⟩ := uD p id' x' hp hx2
   exact ⟨(bR (Nat.ne_of_gt g2)).trans (E4.getL g1 fun h => h), g2⟩
  ·have hp2 := (List.getElem?_eq_some_iff.mp hp).1
   rw [List.length_append] at hp2
   have : p = ids.length := Nat.le_antisymm (Nat.lt_succ_iff.mp hp2) (Nat.le_of_not_lt hlt)
   subst this
   rw [List.getElem?_concat_length] at hp; cases hp
   rw [hk, hx'] at hx2; cases hx2
   exact ⟨(bR (Nat.ne_of_gt hi)).trans (hv.trans (by rw [Nm])), hi⟩
 ·obtain ⟨x, ids, rfl, E, len, g, h⟩ := I
  exact ⟨rfl, x, ids, rfl, E, len.trans hsl, g, h⟩
theorem Bc (s : SV σ i a f t mk nw doms firsts trail marks failed clash) {scope : List Nat} (h0 : scope.length ≤ 10) (h1 : doms.length ≤ 100) (hsc : ∀ x ∈ scope, x < doms.length) (hg : ∀ rs ∈ doms, Good rs ∧ (aX rs).length ≤ 20) :
  wp (fNew 1 iL [.inst 0 i, .tup (aJ scope)] σ) fun r σ' => E5 fun j c m o ids => A4 (r = .inst 1 j) ((∀ z ∈ [j, c, m, o], σ.length ≤ z) ∧ ∀ z ∈ ids, σ.length ≤ z) (MV σ' j c m o ids (scope.map fun x => aX (doms.getD x [])) (fun _ => none) (fun _ => none)) (bV σ σ') := by
 have P1 : bV σ (σ ++ [O.aV []]) := .push _
 have hsl : (aJ scope).length = scope.length := List.length_map _
 obtain ⟨_, bH, e2, rfl, x, ids, _, E2, hk, hL, uD⟩ := CQ (l0 := some (.inst 1 σ.length)) (s.dY P1) h0 h1 hsc hg
 have hj2 : bT bH σ.length = some [] := E2.bT Ai id
 have lc : (σ ++ [O.aV []]).length = σ.length + 1 := List.length_append
 have lL := bE hL
 rw [lc] at uD e2 lL hL
 have lj := fC hj2
 have q3 : bT (bH.set σ.length (.aV [(37, .obj (σ.length + 1))])) σ.length = some [(37, .obj (σ.length + 1))] := j7 lj
 have E3 : Ext (fun i => i = σ.length) bH (bH.set σ.length (.aV [(37, .obj (σ.length + 1))])) := .set _ rfl
 have l3 : (bH.set σ.length (.aV [(37, .obj (σ.length + 1))])).length = bH.length := List.length_set
 have a2 : vC 1 37 (.inst 1 σ.length) (.obj (σ.length + 1)) bH = some (bH.set σ.length (.aV [(37, .obj (σ.length + 1))])) := jV hj2 (Nat.zero_le _)
 generalize bH.set σ.length (.aV [(37, .obj (σ.length + 1))]) = dQ at q3 E3 l3 a2
 have l4 : (dQ ++ [O.list [V.none]]).length = bH.length + 1 := by rw [List.length_append, l3]; rfl
 have hmul : xK (.obj dQ.length) (.int (scope.length : Nat)) (dQ ++ [O.list [V.none]]) = some (.obj (bH.length + 1), dQ ++ [O.list [V.none]] ++ [O.list (List.replicate scope.length V.none)]) := by
  unfold xK
  dsimp only
  rw [cE (σ := dQ)]
  dsimp only [Option.bind]
  rw [if_pos ⟨by lia, by lia⟩]
  simp [l3]
 have g5 : getL (dQ ++ [O.list [V.none]] ++ [O.list (List.replicate scope.length V.none)]) (bH.length + 1) = some (List.replicate scope.length V.none) := l4 ▸ cE
 have E5 : Ext (fun i => i = σ.length) bH (dQ ++ [O.list [V.none]] ++ [O.list (List.replicate scope.length V.none)]) := E3.then (.then (.push _) (.push _))
 have q5 : bT (dQ ++ [O.list [V.none]] ++ [O.list (List.replicate scope.length V.none)]) σ.length = some [(37, .obj (σ.length + 1))] := (Ext.push (M := fun _ => False) _).bT ((Ext.push (M := fun _ => False) _).bT q3 id) id
 have l5 : (dQ ++ [O.list [V.none]] ++ [O.list (List.replicate scope.length V.none)]).length = bH.length + 2 := by rw [List.length_append, l4]; rfl
 generalize dQ ++ [O.list [V.none]] ++ [O.list (List.replicate scope.length V.none)] = pA at hmul g5 E5 q5 l5
 have a5 : vC 1 34 (.inst 1 σ.length) (.obj (bH.length + 1)) pA = some (pA.set σ.length (.aV [(37, .obj (σ.length + 1)), (34, .obj (bH.length + 1))])) := jV q5 (Nat.le_of_ble_eq_true rfl)
 have q6 : bT (pA.set σ.length (.aV [(37, .obj (σ.length + 1)), (34, .obj (bH.length + 1))])) σ.length = some [(37, .obj (σ.length + 1)), (34, .obj (bH.length + 1))] := j7 (fC q5)
 have l6 : (pA.set σ.length (.aV [(37, .obj (σ.length + 1)), (34, .obj (bH.length + 1))])).length = bH.length + 2 := List.length_set.trans l5
 have E6 : Ext (fun i => i = σ.length) bH (pA.set σ.length (.aV [(37, .obj (σ.length + 1)), (34, .obj (bH.length + 1))])) := E5.then (.set _ rfl)
 have n3 : σ.length < σ.length + 1 := Nat.lt_succ_self _
 have nm : σ.length < bH.length + 1 := Nat.lt_succ_of_lt lj
 have g6 : getL (pA.set σ.length (.aV [(37, .obj (σ.length + 1)), (34, .obj (bH.length + 1))])) (bH.length + 1) = some (List.replicate scope.length V.none) := (bR (Nat.ne_of_gt nm)).trans g5
 generalize pA.set σ.length (.aV [(37, .obj (σ.length + 1)), (34, .obj (bH.length + 1))]) = nV at a5 q6 l6 E6 g6
 have q7 : bT (nV ++ [O.cA []]) σ.length = some [(37, .obj (σ.length + 1)), (34, .obj (bH.length + 1))] := (Ext.push (M := fun _ => False) _).bT q6 id
 have a7 : vC 1 33 (.inst 1 σ.length) (.obj nV.length) (nV ++ [O.cA []]) = some ((nV ++ [O.cA []]).set σ.length (.aV (md (σ.length + 1) (bH.length + 1) nV.length))) := jV q7 (Nat.le_of_ble_eq_true rfl)
 have E8 : Ext (fun i => i = σ.length) nV ((nV ++ [O.cA []]).set σ.length (.aV (md (σ.length + 1) (bH.length + 1) nV.length))) := .then (.push _) (.set _ rfl)
 have no : bH.length + 1 < nV.length := by rw [l6]; exact Nat.lt_succ_self _
 have hN := Nat.lt_trans nm no
 refine wp_fNew (wp_runF rfl (fQ e2 (I7 rfl a2) (fQ (aQ (pZ rfl (Nat.le_of_ble_eq_true rfl)) (aN rfl (vU (by rw [hsl]; exact Nat.le_trans h0 (by decide)))) (hsl.symm ▸ hmul)) (I7 rfl a5) (fQ rfl (I7 rfl a7) (dG ⟨rfl, σ.length, σ.length + 1, bH.length + 1, nV.length, ids, rfl, ⟨?_, fun z hz => ?_⟩,
  ⟨j7 (fC q7), (E6.then E8).getL hL (Nat.succ_ne_self _), by rw [List.length_map, hk], fun p id l hp hl => ?_, ?_, ⟨[], (k5 (Nat.ne_of_gt hN)).trans uG, ⟨fun _ h => (List.not_mem_nil h).elim, .nil⟩, fun v => rfl⟩, Pv n3 (Nat.lt_succ_of_lt lL) no, by rw [List.length_map]; exact h0, fun l hl v hv => ?_, fun l hl => ?_⟩, (P1.then E2).trans (E6.then E8) fun i h => .inr (h ▸ Nat.le_refl _)⟩)))))
 ·intro z hz
  rcases List.mem_cons.mp hz with rfl | hz
  ·exact Nat.le_refl _
  ·rcases List.mem_cons.mp hz with rfl | hz
   ·exact Nat.le_succ _
   ·rcases List.mem_cons.mp hz with rfl | hz
    ·exact Nat.le_of_lt nm
    ·cases List.mem_singleton.mp hz; exact Nat.le_of_lt hN
 ·obtain ⟨p, hp⟩ := List.getElem?_of_mem hz
  have hps := hk ▸ (List.getElem?_eq_some_iff.mp hp).1
  exact Nat.le_of_lt (Nat.lt_trans n3 (uD p z _ hp (List.getElem?_eq_getElem hps)).2)
 ·rw [List.getElem?_map] at hl
  obtain ⟨x, hx, rfl⟩ := Option.map_eq_some_iff.mp hl
  obtain ⟨g1, g2⟩ := uD p id x hp hx
  have g3 := bE g1
  have n0 := Nat.ne_of_gt (Nat.lt_trans n3 g2)
  exact ⟨(E6.then E8).getL g1 n0, n0, Nat.ne_of_gt g2, Nat.ne_of_lt (Nat.lt_succ_of_lt g3), Nat.ne_of_lt (Nat.lt_trans (Nat.lt_succ_of_lt g3) no)⟩
 ·refine (E8.getL g6 (Nat.ne_of_gt nm)).trans (congrArg some ?_)
  rw [List.length_map]
  exact (List.eq_replicate_iff.mpr ⟨by rw [List.length_map, List.length_range], fun b hb => by obtain ⟨_, _, rfl⟩ := List.mem_map.mp hb; rfl⟩).symm
 ·obtain ⟨x, hx, rfl⟩ := List.mem_map.mp hl
  have hxd := hsc x hx
  rw [List.getD_eq_getElem?_getD, List.getElem?_eq_getElem hxd] at hv
  obtain ⟨p, hp, h1, h2⟩ := gQ.mp hv
  have := (hg _ (List.getElem_mem hxd)).1.each p hp
  exact ⟨Int.le_trans (by decide) (Int.le_trans this.2.1 h1), Int.lt_of_le_of_lt (Int.le_trans h2 this.2.2) (by decide)⟩
 ·obtain ⟨x, hx, rfl⟩ := List.mem_map.mp hl
  have hxd := hsc x hx
  rw [List.getD_eq_getElem?_getD, List.getElem?_eq_getElem hxd]
  exact Nat.le_trans (hg _ (List.getElem_mem hxd)).2 (by decide)
end
noncomputable def ad (scope : List Nat) : List (Nat × V) := [(32, .int (-1)), (31, .tup (aJ scope)), (30, .str 99)]
noncomputable def H3 (x : Nat) (v : Int) : V := .tup [.int x, .str 51, .int v]
noncomputable def uA (x : Nat) (v : Int) : V := .tup [.int x, .str 8, .int v]
noncomputable def t9 (x : Nat) (v : Int) : V := .tup [.int x, .str 9, .int v]
noncomputable def iY (vals few : List Int) (lo hi : Int) (x : Nat) : List V :=
 [uA x lo, t9 x hi] ++ (vals.filter fun v => decide (lo < v) && decide (v < hi) && decide (v ∉ few)).map (H3 x)
theorem yL (vals few : List Int) (lo hi : Int) (x : Nat) : (iY vals few lo hi x).length ≤ vals.length + 2 := by
 unfold iY
 rw [List.length_append, List.length_map]
 have := List.length_filter_le (fun v => decide (lo < v) && decide (v < hi) && decide (v ∉ few)) vals
 show 2 + _ ≤ _
 lia
section
variable {σ σ' : St} {i a f t mk nw r : Nat} {doms firsts : List (List (Int × Int))} {trail marks : List V} {failed : Bool} {clash : List V} {scope : List Nat}
theorem sM {kj : Nat} {few : List Int} (h : getL σ kj = some (few.map .int)) (v : Int) : dH (.int v) (.obj kj) σ = some (.bool (decide (v ∉ few)), σ) := by
 unfold dH
 rw [KJ h]
 have h1 : (few.map V.int).all (okV 6) = true := by simp [xX]
 have h2 : (few.map V.int).any (fun y => yG y (.int v)) = decide (v ∈ few) := by
  rw [Bool.eq_iff_iff, List.any_eq_true, decide_eq_true_eq]
  constructor
  ·rintro ⟨y, hy, e⟩
   obtain ⟨u, hu, rfl⟩ := List.mem_map.mp hy
   rw [F0] at e
   cases eq_of_beq e; exact hu
  ·intro hv; exact ⟨_, List.mem_map.mpr ⟨v, hv, rfl⟩, by rw [F0]; exact beq_self_eq_true v⟩
 rw [h1, h2, xX]
 simp
theorem GW {j k : Nat} {l l' : List V} (h : getL σ j = some l) (h' : getL σ k = some l') (h1 : l.length ≤ 100000) (h2 : l'.length ≤ 100000) : uK [.obj j, .obj k] σ = some (.none, σ.set j (.list (l ++ l'))) := by
 show (getL σ j).bind _ = _
 rw [h, Option.bind_some]
 show (((getL σ k).bind _) <|> none) = _
 rw [h', Option.bind_some, if_pos ⟨h1, h2⟩]; rfl
theorem By {l : List V} (h : l ≠ []) : pick l (-1) = some (l.getLast h) := by
 have hl : 0 < l.length := List.length_pos_iff.mpr h
 unfold pick
 rw [if_neg (by lia), if_pos (by lia), show (-1 + (l.length : Int)).toNat = l.length - 1 from (congrArg Int.toNat (Int.add_comm _ _)).trans (Int.toNat_sub l.length 1), List.getLast_eq_getElem h]
 exact List.getElem?_eq_getElem (Nat.sub_lt hl (by decide))
theorem BJ {k : Nat} {few : List Int} {lo : Int} (h : getL σ k = some (few.map .int)) (h0 : few[0]? = some lo) : iU (.obj k) (.int 0) σ = some (.int lo, σ) := by
 rw [lQ h]
 cases few with
 | nil => cases h0
 | cons a l => cases h0; rfl
theorem DM {k : Nat} {few : List Int} {hi : Int} (h : getL σ k = some (few.map .int)) (h1 : few.getLast? = some hi) : iU (.obj k) (.int (-1)) σ = some (.int hi, σ) := by
 obtain ⟨l, rfl⟩ := List.getLast?_eq_some_iff.mp h1
 rw [lQ h, List.map_append]
 show (pick (l.map V.int ++ [V.int hi]) (-1)).map _ = _
 rw [By (List.append_ne_nil_of_right_ne_nil _ (List.cons_ne_nil _ _)), List.getLast_concat]; rfl
theorem CX {vals few : List Int} {lo hi v : Int} {x t : Nat} (hv : vals[t]? = some v) : iY (vals.take (t + 1)) few lo hi x = iY (vals.take t) few lo hi x ++ (if lo < v ∧ v < hi ∧ v ∉ few then [H3 x v] else []) := by
 obtain ⟨hlt, e⟩ := List.getElem?_eq_some_iff.mp hv
 rw [List.take_succ_eq_append_getElem hlt, e]
 unfold iY
 rw [List.filter_append, List.map_append, ← List.append_assoc, List.append_cancel_left_eq]
 by_cases c1 : lo < v <;> by_cases c2 : v < hi <;> by_cases c3 : v ∈ few <;> simp [c1, c2, c3]
theorem Bl {W : Nat → List V} {l : List Nat} (h : ∀ p ∈ l, (W p).length ≤ 22) : (l.flatMap W).length ≤ 22 * l.length := by
 induction l with
 | nil => exact Nat.zero_le _
 | cons q l ih =>
  rw [List.flatMap_cons, List.length_append, List.length_cons, Nat.mul_succ, Nat.add_comm]
  exact Nat.add_le_add (ih fun p hp => h p (.tail _ hp)) (h q (.head _))
structure ND (W : Nat → List V) (σ : St) (a b c d : Option V) (ps : List Nat) (k : Nat) (ρ : Loc) (σ' : St) : Prop where
 e : E3 fun x y z => ρ = [a, b, c, d, some (.obj σ.length), x, y, z]
 E : bV σ σ'
 g : getL σ' σ.length = some ((ps.take k).flatMap W)
structure I8 (σ : St) (a b c d e f : Option V) (vals few : List Int) (lo hi : Int) (x : Nat) (acc : List V) (id : Nat) (t : Nat) (ρ : Loc) (σ' : St) : Prop where
 e : ∃ z, ρ = [a, b, c, d, some (.obj σ.length), e, f, z]
 E : bV σ σ'
 h : getL σ' id = some (vals.map .int)
 g : getL σ' σ.length = some (acc ++ iY (vals.take t) few lo hi x)
theorem ltB (x y : Int) : oLt (.int x) (.int y) σ = some (.bool (decide (x < y)), σ) := rfl
noncomputable def IY : XS := (XS.seq (XS.ite (X.iW (X.qE oLt oLt (X.sub (X.var 3) (X.pure (.int 0))) (X.var 7) (X.sub (X.var 3) (X.neg (X.pure (.int 1))))) (X.iW (X.test (X.bin dH (X.var 7) (X.var 3))) X.v5)) (XS.seq (XS.drop (X.eY eB (X.var 4) (X.aB (X.eH (X.aB (X.var 6) (X.aB (X.pure (.str 51)) (X.aB (X.var 7) X.aH)))) X.aH))) XS.nil) XS.nil) XS.nil)
theorem Gj {Q : Fl → Loc → St → Prop} {a b c e : Option V} {kj : Nat} {few vals : List Int} {acc : List V} {lo hi v : Int} {x id t : Nat} {ρ : Loc} {nV : St} (hk : getL σ kj = some (few.map .int)) (h0 : few[0]? = some lo) (h1 : few.getLast? = some hi) (hid : σ.length < id) (hb : acc.length ≤ 1000) (hvs : vals.length ≤ 20) (hv : vals[t]? = some v)
  (I : I8 σ a b c (some (.obj kj)) e (some (.int (x : Nat))) vals few lo hi x acc id t ρ nV) : sF (XA.name 7) IY (I8 σ a b c (some (.obj kj)) e (some (.int (x : Nat))) vals few lo hi x acc id (t + 1)) Q (.int v) ρ nV := by
 obtain ⟨⟨z, rfl⟩, E6, h6, LO⟩ := I
 have k6 := E6.getL hk fun h => h
 have e0 := BJ k6 h0
 have e1 := DM k6 h1
 refine ⟨rfl, fun Q' hn _ => ?_⟩
 have hs := CX (few := few) (lo := lo) (hi := hi) (x := x) hv
 have hno : ¬ (lo < v ∧ v < hi ∧ v ∉ few) → Q' .next [a, b, c, some (.obj kj), some (.obj σ.length), e, some (.int (x : Nat)), some (.int v)] nV := fun h => hn _ _ ⟨⟨_, rfl⟩, E6, h6, by rw [hs, if_neg h, List.append_nil]; exact LO⟩
 by_cases c1 : lo < v
 ·have q1 := (ltB (σ := nV) lo v).trans (by rw [decide_eq_true c1])
  by_cases c2 : v < hi
  ·have q2 := (ltB (σ := nV) v hi).trans (by rw [decide_eq_true c2])
   by_cases c3 : v ∈ few
   ·exact cZ (eP (Ak (bN rfl rfl e0) rfl q1 (bN rfl rfl e1) q2) (jP (aP (aQ rfl rfl ((sM k6 v).trans (by rw [decide_eq_false (fun h => h c3)])))))) (dG (hno fun h => h.2.2 c3))
   ·have hl : (acc ++ iY (vals.take t) few lo hi x).length ≤ 100000 := by
     have h9 := yL (vals.take t) few lo hi x
     have h10 : (vals.take t).length ≤ vals.length := List.length_take_le' ..
     rw [List.length_append]
     lia
    refine kO (eP (Ak (bN rfl rfl e0) rfl q1 (bN rfl rfl e1) q2) (eP (aP (aQ rfl rfl ((sM k6 v).trans (by rw [decide_eq_true c3])))) rfl)) (jG (fD rfl (d6 LO) rfl (fG LO hl)) rfl (dG (dG (hn _ _ ⟨⟨_, rfl⟩, E6.trans (M' := fun i => i = σ.length) (.set _ rfl) (fun i h => .inr (h ▸ Nat.le_refl _)), (bR (Nat.ne_of_gt hid)).trans h6, ?_⟩))))
    rw [c0 (bE LO), hs, if_pos ⟨c1, c2, c3⟩, ← List.append_assoc]; rfl
  ·exact cZ (jP (Ak (bN rfl rfl e0) rfl q1 (bN rfl rfl e1) ((ltB (σ := nV) v hi).trans (by rw [decide_eq_false c2])))) (dG (hno fun h => c2 h.2.1))
 ·exact cZ (jP (ID (bN rfl rfl e0) rfl ((ltB (σ := nV) lo v).trans (by rw [decide_eq_false c1])))) (dG (hno fun h => c1 h.1))
theorem yK (s : SV σ i a f t mk nw doms firsts trail marks failed clash) (hr : bT σ r = some (ad scope)) {pj kj : Nat} {ps : List Nat} {few : List Int} (hp : getL σ pj = some (ps.map fun p => .int (p : Nat))) (hk : getL σ kj = some (few.map .int)) {lo hi : Int} (h0 : few[0]? = some lo) (h1 : few.getLast? = some hi)
  (hps : ∀ p ∈ ps, p < scope.length) (hsc : ∀ x ∈ scope, x < firsts.length) (hg : ∀ rs ∈ firsts, Good rs ∧ (aX rs).length ≤ 20) (b1 : ps.length ≤ 10) (b2 : scope.length ≤ 10) (b3 : firsts.length ≤ 100) (b4 : few.length ≤ 100) :
  wp (bU [.inst 2 r, .inst 0 i, .obj pj, .obj kj] σ) fun v σ' => v = .tup (ps.flatMap fun p => iY (aX (firsts.getD (scope.getD p 0) [])) few lo hi (scope.getD p 0)) ∧ bV σ σ' := by
 have get {p : Nat} (h : p < scope.length) : scope[p]? = some (scope.getD p 0) := by rw [List.getD_eq_getElem?_getD, List.getElem?_eq_getElem h]; rfl
 have LQ {p : Nat} (h : p < scope.length) : ∃ (x : Nat) (hx : x < firsts.length), scope.getD p 0 = x ∧ firsts.getD x [] = firsts[x] := by
  have hx := hsc _ (List.mem_of_getElem? (get h))
  exact ⟨_, hx, rfl, by rw [List.getD_eq_getElem?_getD, List.getElem?_eq_getElem hx]; rfl⟩
 have hWl : ∀ p ∈ ps, ((fun p => iY (aX (firsts.getD (scope.getD p 0) [])) few lo hi (scope.getD p 0)) p).length ≤ 22 := fun p hp => by
  obtain ⟨x, hx, e, e2⟩ := LQ (hps p hp)
  dsimp only
  rw [e, e2]
  exact Nat.le_trans (yL _ _ _ _ _) (Nat.add_le_add_right (hg _ (List.getElem_mem hx)).2 2)
 generalize hW : (fun p => iY (aX (firsts.getD (scope.getD p 0) [])) few lo hi (scope.getD p 0)) = W at hWl ⊢
 refine wp_runF rfl (fQ (pZ rfl (Nat.zero_le _)) rfl (nE ps (fun p => .int (p : Nat)) (ND W σ (some (.inst 2 r)) (some (.inst 0 i)) (some (.obj pj)) (some (.obj kj)) ps) rfl ⟨⟨_, _, _, rfl⟩, .push _, cE⟩ (Nat.lt_of_le_of_lt b1 (by decide)) (fun k ρ σ' I hk => Src.list (I.E.getL hp id) σ' .refl k (by rw [List.length_map]; exact hk)) ?_ ?_))
 ·rintro k p ρ bH hpk ⟨⟨x0, y0, z0, rfl⟩, E2, hL⟩
  have hpm := List.mem_of_getElem? hpk
  have Af := hps p hpm
  obtain ⟨x, hxm, hxD, hgD⟩ := LQ Af
  have hx := get Af
  rw [hxD] at hx
  have s2 := s.dY E2
  have r2 := E2.bT hr id
  have k2 := E2.getL hk id
  have Ik : ((ps.take k).flatMap W).length ≤ 1000 := Nat.le_trans (Bl fun p hp => hWl p (List.mem_of_mem_take hp)) (Nat.le_trans (Nat.mul_le_mul_left 22 (Nat.le_trans (List.length_take_le' ..) b1)) (by decide))
  have hWp : W p = iY (aX firsts[x]) few lo hi x := by rw [← hW]; dsimp only; rw [hxD, hgD]
  have hnext : ((ps.take (k + 1)).flatMap W) = ((ps.take k).flatMap W) ++ iY (aX firsts[x]) few lo hi x := by
   obtain ⟨hlt, e⟩ := List.getElem?_eq_some_iff.mp hpk
   rw [List.take_succ_eq_append_getElem hlt, List.flatMap_append, List.flatMap_singleton, e, hWp]
  have LW : iU (.tup (aJ scope)) (.int (p : Nat)) bH = some (.int (x : Nat), bH) := by
   rw [EM, aJ, iD (by rw [List.length_map]; exact Af) (Nat.lt_trans (Nat.lt_of_lt_of_le Af b2) (by decide)), List.getElem_map, (List.getElem?_eq_some_iff.mp hx).2]; rfl
  have hgx := hg _ (List.getElem_mem hxm)
  clear hWl hW hg hsc hps LQ get hpm hx hgD
  generalize (ps.take k).flatMap W = acc at hL Ik hnext
  have q1 : getL (bH ++ [O.list [uA x lo, t9 x hi]]) σ.length = some acc := (Ext.push (M := fun _ => False) _).getL hL id
  have e5 := GW q1 cE (Nat.le_trans Ik (by decide)) (Nat.le_of_ble_eq_true rfl)
  have E3 : bV σ ((bH ++ [O.list [uA x lo, t9 x hi]]).set σ.length (.list (acc ++ [uA x lo, t9 x hi]))) := (E2.then (.push _)).trans (M' := fun i => i = σ.length) (.set _ rfl) (fun i h => .inr (h ▸ Nat.le_refl _))
  have q3 : getL ((bH ++ [O.list [uA x lo, t9 x hi]]).set σ.length (.list (acc ++ [uA x lo, t9 x hi]))) σ.length = some (acc ++ [uA x lo, t9 x hi]) := c0 (bE q1)
  have Pk := bE q3
  generalize (bH ++ [O.list [uA x lo, t9 x hi]]).set σ.length (.list (acc ++ [uA x lo, t9 x hi])) = dQ at e5 E3 q3 Pk
  have s3 := s.dY E3
  obtain ⟨_, kS, e4, rfl, rfl⟩ := CC s3 hxm (Nat.le_trans b3 (by decide))
  obtain ⟨_, pA, e6, id, rfl, hid, hvl, E5⟩ := wA (σ := kS) (hgx.1.small hgx.2) (Nat.le_trans hgx.2 (by decide))
  refine ⟨rfl, fun Q' hn _ => fQ (bN (bP rfl (bC r2 rfl)) rfl LW) rfl (jG (fD rfl (d6 hL) (aK (pZ (aK (mO (aK rfl (aK rfl (aK (bN rfl rfl (BJ k2 h0)) rfl))) (Nat.le_of_ble_eq_true rfl)) (aK (mO (aK rfl (aK rfl (aK (bN rfl rfl (DM k2 h1)) rfl))) (Nat.le_of_ble_eq_true rfl)) rfl)) (Nat.le_of_ble_eq_true rfl)) rfl) e5) rfl ?_)⟩
  refine nE (aX firsts[x]) .int (I8 σ (some (.inst 2 r)) (some (.inst 0 i)) (some (.obj pj)) (some (.obj kj)) (some (.int (p : Nat))) (some (.int (x : Nat))) (aX firsts[x]) few lo hi x acc id) (aN (aK (c9 rfl (s3.inst rfl) rfl e4) rfl) e6) ⟨⟨_, rfl⟩, E3.then E5, hvl, E5.getL q3 fun z => z⟩ (Nat.lt_of_le_of_lt hgx.2 (by decide)) (fun k ρ σ' I hk => Src.list I.h σ' .refl k (by rw [List.length_map]; exact hk))
   (fun t v ρ nV hv I => Gj hk h0 h1 (Nat.lt_of_lt_of_le Pk hid) Ik hgx.2 hv I) ?_
  rintro ρ nV ⟨⟨z, rfl⟩, E6, h6, LO⟩
  rw [List.take_length, ← hnext] at LO
  exact dG (hn _ _ ⟨⟨_, _, _, rfl⟩, E6, LO⟩)
 ·rintro ρ bH ⟨⟨x0, y0, z0, rfl⟩, E2, hL⟩
  rw [List.take_length] at hL
  exact lK (aN rfl (pX hL (Nat.le_trans (Bl hWl) (Nat.le_trans (Nat.mul_le_mul_left 22 b1) (by decide))))) ⟨rfl, E2⟩
end
theorem BS {α : Type} [DecidableEq α] : ∀ {l : List α}, ¬ l.Nodup → ∃ a l1 l2, l = l1 ++ a :: l2 ∧ a ∈ l1 ++ l2
 | [], h => absurd List.nodup_nil h
 | a :: l, h => by
  by_cases ha : a ∈ l
  ·exact ⟨a, [], l, rfl, ha⟩
  ·have : ¬ l.Nodup := fun z => h (List.nodup_cons.mpr ⟨ha, z⟩)
   obtain ⟨b, l1, l2, e, hb⟩ := BS this
   exact ⟨b, a :: l1, l2, by rw [e]; rfl, List.mem_cons_of_mem _ hb⟩
theorem rV {α : Type} [DecidableEq α] {ks l : List α} (hn : ks.Nodup) (hm : ∀ x, x ∈ ks ↔ x ∈ l) : ks.length = l.length ↔ l.Nodup := by
 constructor
 ·intro e
  refine Classical.byContradiction fun h => ?_
  obtain ⟨a, l1, l2, rfl, ha⟩ := BS h
  have := cR (m := l1 ++ l2) hn fun x hx => by
   rcases List.mem_append.mp ((hm x).mp hx) with h | h
   ·exact List.mem_append_left _ h
   ·rcases List.mem_cons.mp h with rfl | h
    ·exact ha
    ·exact List.mem_append_right _ h
  simp at e this
  lia
 ·intro h
  have a := cR hn fun x hx => (hm x).mp hx
  have b := cR h fun x hx => (hm x).mpr hx
  lia
theorem CN {K : Type} [DecidableEq K] {l : List (K × V)} {k : K} {v : V} (h : k ∈ l.map (·.1)) : (eU l k v).map (·.1) = l.map (·.1) := by
 unfold eU
 rw [if_pos]
 ·rw [List.map_map]
  congr 1
  funext p
  simp only [Function.comp]
  split <;> rfl
 ·obtain ⟨p, hp, e⟩ := List.mem_map.mp h
  exact List.any_eq_true.mpr ⟨p, hp, by simpa using e⟩
theorem eq_int {σ : St} {a b : Int} : oEq (.int a) (.int b) σ = some (.bool (decide (a = b)), σ) := by
 show some (V.bool (false == false && (a == b)), σ) = _
 exact congrArg (fun b => some (V.bool b, σ)) (by rw [Bool.eq_iff_iff]; simp)
section
variable {σ σ' : St}
inductive Ji (σ : St) (a b : Option V) (xs : List Int) (k : Nat) (ρ : Loc) (σ' : St) (cl : List (Int × V)) : Prop
 | intro (e : ∃ x, ρ = [a, b, x]) (E : bV σ σ') (g : eF σ' σ.length = some cl) (n : (cl.map (·.1)).Nodup) (m : ∀ x, x ∈ cl.map (·.1) ↔ x ∈ xs.take k) (c : cl.length ≤ k)
theorem H7 {cl : List (Int × V)} {xs : List Int} {k : Nat} {v : Int} {w : V} (hv : xs[k]? = some v) (hn : (cl.map (·.1)).Nodup) (hm : ∀ x, x ∈ cl.map (·.1) ↔ x ∈ xs.take k) : ((eU cl v w).map (·.1)).Nodup ∧ ∀ x, x ∈ (eU cl v w).map (·.1) ↔ x ∈ xs.take (k + 1) := by
 obtain ⟨hlt, e⟩ := List.getElem?_eq_some_iff.mp hv
 rw [List.take_succ_eq_append_getElem hlt, e]
 by_cases hin : v ∈ cl.map (·.1)
 ·rw [CN hin]
  refine ⟨hn, fun x => (hm x).trans ⟨List.mem_append_left _, fun h => ?_⟩⟩
  rcases List.mem_append.mp h with h | h
  ·exact h
  ·cases List.mem_singleton.mp h; exact (hm _).mp hin
 ·rw [vZ hin, List.nodup_append]
  refine ⟨⟨hn, List.nodup_cons.mpr ⟨List.not_mem_nil, .nil⟩, fun a ha b hb e => hin (List.mem_singleton.mp hb ▸ e ▸ ha)⟩, fun x => ?_⟩
  rw [List.mem_append, List.mem_append, hm x]
theorem Aw {r : Nat} {xs : List Int} (hx : xs.length ≤ 100) : wp (cV [.inst 2 r, .tup (xs.map .int)] σ) fun v σ' => v = .bool (decide xs.Nodup) ∧ bV σ σ' := by
 have hl : (xs.map V.int).length = xs.length := List.length_map _
 have : xp (X.F1 [2] (X.var 1) (XA.name 2) none (X.var 2) (X.pure (.bool true)) 1000) [some (.inst 2 r), some (.tup (xs.map .int)), none] σ fun v σ' => v = .obj σ.length ∧ E2 fun ρ cl => Ji σ (some (.inst 2 r)) (some (.tup (xs.map .int))) xs xs.length ρ σ' cl := by
  refine tD ⟨_, _, rfl, xs.map .int, fun k ρ σ' => ∃ cl, Ji σ (some (.inst 2 r)) (some (.tup (xs.map .int))) xs k ρ σ' cl, ⟨[], ⟨_, rfl⟩, .push _, uG, .nil, fun _ => .rfl, Nat.le_refl _⟩, hl ▸ Nat.lt_of_le_of_lt hx (by decide), rfl, fun k ρ σ' _ _ => rfl, fun k vv ρ bH hvv I => ?_, fun ρ σ' ⟨cl, I⟩ => ⟨rfl, ρ, cl, hl ▸ I⟩⟩
  obtain ⟨cl, ⟨x, rfl⟩, E, g, n, m, c⟩ := I
  rw [List.getElem?_map] at hvv
  obtain ⟨v, hv, rfl⟩ := Option.map_eq_some_iff.mp hvv
  have hk := Nat.lt_of_lt_of_le (List.getElem?_eq_some_iff.mp hv).1 hx
  obtain ⟨n', m'⟩ := H7 (w := .bool true) hv n m
  exact ⟨_, _, rfl, true, _, rfl, HY.mpr ⟨_, _, rfl, v, rfl, _, _, rfl, cl, g, Nat.le_trans c (Nat.le_trans (Nat.le_of_lt hk) (by decide)), eU cl v (.bool true), ⟨_, rfl⟩, E.trans (M' := fun i => i = σ.length) (.set _ rfl) (fun i h => .inr (h ▸ Nat.le_refl _)), lU (iJ g), n', m', Nat.le_trans (IO cl v (.bool true)) (Nat.succ_le_succ c)⟩⟩
 obtain ⟨_, bH, e, rfl, ρ, cl, ⟨⟩, E, g, n, m, c⟩ := this
 refine ⟨_, _, sL (aQ (aN (aK e rfl) (LR g (Nat.le_trans c (Nat.le_trans hx (by decide))))) (aN rfl (vU (by rw [hl]; exact Nat.le_trans hx (by decide)))) eq_int), congrArg V.bool ?_, E⟩
 rw [List.take_length] at m
 have h1 := rV n m
 rw [List.length_map] at h1
 rw [hl, decide_eq_decide, ← h1]
 exact Int.ofNat_inj
end
noncomputable def eG (doms : List (List (Int × Int))) (scope : List Nat) : List (List Int) := scope.map fun x => aX (doms.getD x [])
noncomputable def mB (firsts : List (List (Int × Int))) (scope : List Nat) (ps : List Nat) (few : List Int) (lo hi : Int) : List V :=
 ps.flatMap fun p => iY (aX (firsts.getD (scope.getD p 0) [])) few lo hi (scope.getD p 0)
section
variable {σ σ' : St} {i a f t mk nw r j c m o : Nat} {doms firsts : List (List (Int × Int))} {trail marks : List V} {clash : List V} {scope ids : List Nat} {cs : List (List Int)}
theorem Dn {σ : St} : i3 .none .none σ = some (.bool false, σ) := rfl
theorem EL {σ : St} {l : List V} : i3 (.tup l) .none σ = some (.bool true, σ) := rfl
noncomputable def BX : XS := (XS.seq (XS.assign (X.cS 1 58 iK (X.var 2) (X.aB (X.var 3) X.aH)) (XA.name 4)) (XS.seq (XS.ite (X.test (X.bin i3 (X.var 4) (X.pure .none))) (XS.seq (XS.ret (X.cS 0 22 hJ (X.var 1) (X.aB (X.cS 2 55 bU (X.var 0) (X.aB (X.var 1) (X.aB (X.sub (X.var 4) (X.pure (.int 0))) (X.aB (X.sub (X.var 4) (X.pure (.int 1))) X.aH)))) X.aH))) XS.nil) XS.nil) XS.nil))
structure Ft (σ : St) (r i j c m o : Nat) (ids : List Nat) (cs : List (List Int)) (k : Nat) (ρ : Loc) (σ' : St) (aZ : Nat → Option Int) (own : Int → Option Nat) : Prop where
 e : E2 fun x y => ρ = [some (.inst 2 r), some (.inst 0 i), some (.inst 1 j), x, y, none, none, none]
 M : MV σ' j c m o ids cs aZ own
 K : cY cs aZ own
 h1 : ∀ p, p < k → aZ p ≠ none
 h2 : ∀ p, k ≤ p → aZ p = none
 E : Ext (fun z => z = m ∨ z = o) σ σ'
theorem nZ {n : Nat} (h : n ≤ 1000000) : Src (.range 0 (n : Nat)) σ ((List.range n).map fun k => .int (k : Nat)) := by
 have := Src.range (σ := σ) (a := 0) (b := (n : Nat)) (by decide) (by decide) (Int.le_trans (by decide) (Int.natCast_nonneg n)) (Int.ofNat_le.mpr h)
 unfold rangeInts at this
 rw [List.map_map] at this
 have e : ((n : Int) - 0).toNat = n := by rw [Int.sub_zero]; rfl
 rw [e] at this
 have e2 : (V.int ∘ fun i : Nat => (0 : Int) + i) = fun k : Nat => V.int (k : Nat) := funext fun k => congrArg V.int (Int.zero_add _)
 rw [e2] at this
 exact this
theorem Ex {Q : Fl → Loc → St → Prop} (s : SV σ i a f t mk nw doms firsts trail marks false clash) (hr : bT σ r = some (ad scope)) (hcs : cs.length = scope.length)
  (hmz : ∀ z ∈ [i, a, f, t, mk, nw, r], ¬ (z = m ∨ z = o)) (hne : ∀ l ∈ cs, l ≠ []) (hsc : ∀ x ∈ scope, x < firsts.length) (hg : ∀ rs ∈ firsts, Good rs ∧ (aX rs).length ≤ 20) (b2 : scope.length ≤ 10) (b3 : firsts.length ≤ 100)
  (hfail : ∀ ρ σ' ps ks lo hi, I9 cs ps ks → (cL ks)[0]? = some lo → (cL ks).getLast? = some hi → SV σ' i a f t mk nw doms firsts trail marks true (mB firsts scope ps (cL ks) lo hi) → Ext (fun z => z = i ∨ z = m ∨ z = o) σ σ' → Q (.ret (.bool false)) ρ σ')
  {k : Nat} {ρ : Loc} {bH : St} {aZ : Nat → Option Int} {own : Int → Option Nat} (hk : k < scope.length) (I : Ft σ r i j c m o ids cs k ρ bH aZ own) : sF (XA.name 3) BX (fun ρ σ' => E2 (Ft σ r i j c m o ids cs (k + 1) ρ σ')) Q (.int (k : Nat)) ρ bH := by
 obtain ⟨⟨x, y, rfl⟩, M2, K, h1, h2, E⟩ := I
 have s2 := s.ext E fun z hz => hmz z (List.mem_append_left [r] hz)
 have r2 : bT bH r = some (ad scope) := E.bT hr (hmz r (List.mem_append_right [i, a, f, t, mk, nw] (.head _)))
 obtain ⟨v, dQ, e3, h⟩ := Gv M2 K (hcs ▸ hk) (h2 k (Nat.le_refl _))
 have ek := c9 (ρ := [some (.inst 2 r), some (.inst 0 i), some (.inst 1 j), some (.int (k : Nat)), y, none, none, none]) (f := X.var 2) (g := X.aB (X.var 3) X.aH) rfl (f4 (n := 58) M2.hs rfl) rfl e3
 refine ⟨rfl, fun Q' hn hr => fQ ek rfl ?_⟩
 rcases h with ⟨rfl, cQ, own', M3, K3, k1, k2, k3, E3⟩ | ⟨pj, kj, ps, ks, rfl, hpj, hkj, hW, hpl, E3⟩
 ·refine cZ (aP (aQ rfl rfl (b := .none) (r := (.bool false, dQ)) rfl)) (dG (hn _ _ ⟨cQ, own', ⟨_, _, rfl⟩, M3, K3, fun p hp => ?_, fun p hp => k2 p (Nat.ne_of_gt hp) (h2 p (Nat.le_of_lt hp)), E.then E3⟩))
  by_cases hpk : p = k
  ·subst hpk; exact k3
  ·exact k1 p (h1 p (Nat.lt_of_le_of_ne (Nat.le_of_lt_succ hp) hpk))
 ·clear ek e3 h1 h2 hn M2 K
  have hkc : k < cs.length := hcs.symm ▸ hk
  have hl := List.getElem?_eq_getElem hkc
  have LL : ks ≠ [] := fun z => by
   cases e : cs[k] with
   | nil => exact hne _ (List.mem_of_getElem? hl) e
   | cons u l => have := hW.sub k hpl _ hl u (e ▸ .head _); rw [z] at this; cases this
  have Ag := (lT ks).length_eq
  have EZ : cL ks ≠ [] := fun z => by rw [z] at Ag; exact LL (List.length_eq_zero_iff.mp Ag.symm)
  have KP : ps.length ≤ 10 := by
   have h10 := cR (m := List.range cs.length) hW.nH fun p hp => List.mem_range.mpr (hW.lt p hp)
   rw [List.length_range, hcs] at h10
   exact Nat.le_trans h10 b2
  have hkl : ks.length ≤ 100 := Nat.le_trans (Nat.le_succ _) (Nat.le_trans (Nat.le_of_eq hW.len.symm) (Nat.le_trans KP (by decide)))
  have e0 : (cL ks)[0]? = some ((cL ks)[0]'(List.length_pos_iff.mpr EZ)) := List.getElem?_eq_getElem _
  have e1 : (cL ks).getLast? = some ((cL ks).getLast EZ) := List.getLast?_eq_some_getLast EZ
  have s3 := s2.dY E3
  have r3 := E3.bT r2 fun h => h
  obtain ⟨_, kS, e4, rfl, E4⟩ := yK s3 r3 hpj hkj e0 e1 (fun p hp => hcs ▸ hW.lt p hp) hsc hg KP b2 b3 (Ag.symm ▸ hkl)
  have s4 := s3.dY E4
  obtain ⟨_, pA, e5, rfl, s5, E5⟩ := BN s4 (mB firsts scope ps (cL ks) _ _)
  exact kO (aP (aQ rfl rfl (b := .none) (r := (.bool true, dQ)) rfl)) (lK (c9 rfl (s3.inst rfl) (aK (c9 rfl (f4 (n := 55) r3 rfl) (aK rfl (aK (bN rfl rfl rfl) (aK (bN rfl rfl rfl) rfl))) e4) rfl) e5) (hr _ _ _ (hfail _ pA ps ks _ _ hW e0 e1 s5 ((((E.mono fun z h => .inr h).wB E3).wB E4).then (E5.mono fun z h => .inl h)))))
theorem Ey {g : XS} {Q : Fl → Loc → St → Prop} (s : SV σ i a f t mk nw doms firsts trail marks false clash) (hr : bT σ r = some (ad scope)) (M0 : MV σ j c m o ids cs (fun _ => none) (fun _ => none)) (hcs : cs.length = scope.length)
  (hmz : ∀ z ∈ [i, a, f, t, mk, nw, r], ¬ (z = m ∨ z = o)) (hne : ∀ l ∈ cs, l ≠ []) (hsc : ∀ x ∈ scope, x < firsts.length) (hg : ∀ rs ∈ firsts, Good rs ∧ (aX rs).length ≤ 20) (b2 : scope.length ≤ 10) (b3 : firsts.length ≤ 100)
  (hfail : ∀ ρ σ' ps ks lo hi, I9 cs ps ks → (cL ks)[0]? = some lo → (cL ks).getLast? = some hi → SV σ' i a f t mk nw doms firsts trail marks true (mB firsts scope ps (cL ks) lo hi) → Ext (fun z => z = i ∨ z = m ∨ z = o) σ σ' → Q (.ret (.bool false)) ρ σ')
  (hok : ∀ σ' aZ own x y, MV σ' j c m o ids cs aZ own → cY cs aZ own → Full cs aZ → Ext (fun z => z = m ∨ z = o) σ σ' → sp g [some (.inst 2 r), some (.inst 0 i), some (.inst 1 j), x, y, none, none, none] σ' Q) :
  sp (XS.seq (XS.for (X.call (bW cU) (X.aB (X.call (bW gJ) (X.aB (X.attr 2 31 (X.var 0)) X.aH)) X.aH)) (XA.name 3) BX 1000) g) [some (.inst 2 r), some (.inst 0 i), some (.inst 1 j), none, none, none, none, none] σ Q := by
 have hsl : (aJ scope).length = scope.length := List.length_map _
 have hl : (List.range scope.length).length = scope.length := List.length_range
 refine nE (List.range scope.length) (fun k => .int (k : Nat)) (fun k ρ σ' => E2 (Ft σ r i j c m o ids cs k ρ σ')) (aN (aK (aN (aK (bP rfl (bC (n := 31) hr rfl)) rfl) (vU (hsl.symm ▸ Nat.le_trans b2 (by decide)))) rfl) (by rw [hsl]; rfl)) ⟨_, _, ⟨_, _, rfl⟩, M0, ⟨fun p v => ⟨fun e => by (cases e), fun e => by (cases e)⟩, fun p v h => (by cases h), fun p v l h => (by cases h)⟩, fun p h => absurd h (Nat.not_lt_zero _), fun _ _ => rfl, .refl⟩
  (hl.symm ▸ Nat.lt_of_le_of_lt b2 (by decide)) (fun k ρ σ' _ hk => nZ (σ := σ') (Nat.le_trans b2 (by decide)) σ' .refl k (by rw [List.length_map]; exact hk)) ?_ ?_
 ·rintro k x ρ bH hx ⟨aZ, own, I⟩
  obtain ⟨hk, e⟩ := List.getElem?_eq_some_iff.mp hx
  rw [List.getElem_range] at e
  subst e
  exact Ex s hr hcs hmz hne hsc hg b2 b3 hfail (hl ▸ hk) I
 ·rintro ρ bH ⟨aZ, own, ⟨x, y, rfl⟩, M2, K, h1, h2, E⟩
  rw [hl] at h1
  refine hok bH aZ own x y M2 K (fun p hp => ?_) E
  cases e : aZ p with
  | none => exact absurd e (h1 p (hcs ▸ hp))
  | some v => exact ⟨v, rfl⟩
end
noncomputable def Jn (F : List Nat) (σ : St) (cs : List (List Int)) (own : Int → Option Nat) (v : Int) (w : V) : Prop :=
 (w = .none ∧ ∃ u, Reach cs own v u ∧ own u = none) ∨
 (E4 fun pj kj ps ks => A6 (w = .tup [.obj pj, .obj kj]) (getL σ pj = some (ps.map fun p => .int (p : Nat))) (getL σ kj = some ((cL ks).map .int)) (qP cs own v ps ks) (pj ∉ F) (kj ∉ F))
structure qM (F : List Nat) (σ : St) (nd : Nat) (cs : List (List Int)) (own : Int → Option Nat) : Prop where
 at_ : ∃ nl, A3 (eF σ nd = some nl) (mE nl) (∀ v w, fJ nl v = some w → Jn F σ cs own v w)
inductive oQ (cs : List (List Int)) (own : Int → Option Nat) (scope : List Nat) (firsts D0 : List (List (Int × Int))) : List V → List (List (Int × Int)) → Prop
 | nil : oQ cs own scope firsts D0 [] D0
 | snoc {es : List V} {D : List (List (Int × Int))} {p x : Nat} {v lo hi : Int} {rs : List (Int × Int)} {l ks : List Int} {ps : List Nat} : oQ cs own scope firsts D0 es D → scope[p]? = some x → D[x]? = some rs → v ∈ aX rs → cs[p]? = some l → v ∈ l → qP cs own v ps ks → p ∉ ps →
  (cL ks)[0]? = some lo → (cL ks).getLast? = some hi →
  oQ cs own scope firsts D0 (es ++ [.tup [.int (x : Nat), dv rs, H3 x v, .tup (mB firsts scope ps (cL ks) lo hi), .int (-1)]]) (D.set x (upto rs (v - 1) ++ dE rs (v + 1)))
structure Mid (cs : List (List Int)) (scope : List Nat) (doms D : List (List (Int × Int))) (done : Nat → Int → Prop) : Prop where
 len : D.length = doms.length
 at_ : ∀ (q x : Nat) (l : List Int), scope[q]? = some x → cs[q]? = some l → ∃ rs, A3 (D[x]? = some rs) (Good rs) (∀ u, u ∈ aX rs ↔ u ∈ l ∧ (done q u → i9 cs q u))
 IM : ∀ x, x ∉ scope → D[x]? = doms[x]?
section
variable {M : Nat → Prop} {F : List Nat} {σ σ' : St} {nd : Nat} {cs : List (List Int)} {own : Int → Option Nat}
theorem Jn.ext {v : Int} {w : V} (h : Jn F σ cs own v w) (e : Ext M σ σ') (hm : ∀ z, M z → z ∈ F) : Jn F σ' cs own v w := by
 rcases h with h | ⟨pj, kj, ps, ks, h1, h2, h3, h4, h5, h6⟩
 ·exact .inl h
 ·exact .inr ⟨pj, kj, ps, ks, h1, e.getL h2 fun z => h5 (hm _ z), e.getL h3 fun z => h6 (hm _ z), h4, h5, h6⟩
theorem qM.ext (h : qM F σ nd cs own) (e : Ext M σ σ') (hm : ∀ z, M z → z ∈ F) (hn : ¬ M nd) : qM F σ' nd cs own := by
 obtain ⟨nl, a, b, c⟩ := h.at_
 exact ⟨nl, e.eF a hn, b, fun v w hv => (c v w hv).ext e hm⟩
theorem qM.set (h : qM F σ nd cs own) (hF : nd ∈ F) {v : Int} {w : V} (hw : Jn F σ cs own v w) (h0 : -100 ≤ v ∧ v < 100) : ∃ aT, A5 (mA (.obj nd) (.int v) w σ = some aT) (qM F aT nd cs own) (iU (.obj nd) (.int v) aT = some (w, aT)) (Jn F aT cs own v w) (Ext (fun z => z = nd) σ aT) := by
 obtain ⟨nl, a, b, c⟩ := h.at_
 have lt := iJ a
 have E : Ext (fun z => z = nd) σ (σ.set nd (.cA (eU nl v w))) := Ext.set _ rfl
 have hE : ∀ z, (fun z => z = nd) z → z ∈ F := fun z hz => by dsimp only at hz; rw [hz]; exact hF
 refine ⟨_, vB a (Nat.le_trans b.len (by decide)), ⟨eU nl v w, lU lt, b.set _ h0.1 h0.2, fun u x hu => ?_⟩, ?_, hw.ext E hE, E⟩
 ·rw [rC] at hu
  by_cases huv : u = v
  ·subst huv; rw [if_pos rfl] at hu; cases hu; exact hw.ext E hE
  ·rw [if_neg huv] at hu; exact (c u x hu).ext E hE
 ·rw [Cr (lU lt), rC, if_pos rfl]; rfl
theorem qM.look (h : qM F σ nd cs own) (v : Int) : (dH (.int v) (.obj nd) σ = some (.bool true, σ)) ∨ (∃ w, A3 (dH (.int v) (.obj nd) σ = some (.bool false, σ)) (iU (.obj nd) (.int v) σ = some (w, σ)) (Jn F σ cs own v w)) := by
 obtain ⟨nl, a, b, c⟩ := h.at_
 cases e : fJ nl v with
 | none => left; unfold dH; rw [FV a, e]; rfl
 | some w => right; exact ⟨w, by unfold dH; rw [FV a, e]; rfl, by rw [Cr a, e]; rfl, c v w e⟩
theorem oQ.tr {scope : List Nat} {firsts D0 D : List (List (Int × Int))} {es : List V} (h : oQ cs own scope firsts D0 es D) : Tr D0 es D := by
 induction h with
 | nil => exact .nil
 | snoc _ _ hr _ _ _ _ _ _ _ ih => exact .snoc ih hr
end
section
variable {cs : List (List Int)} {scope : List Nat} {doms D : List (List (Int × Int))} {done : Nat → Int → Prop}
noncomputable def Ao (done : Nat → Int → Prop) (p : Nat) (v : Int) : Nat → Int → Prop := fun q u => done q u ∨ (q = p ∧ u = v)
theorem Mid.keep {p : Nat} {v : Int} (h : Mid cs scope doms D done) (hH : i9 cs p v) : Mid cs scope doms D (Ao done p v) := by
 refine ⟨h.len, fun q x l hx hl => ?_, h.IM⟩
 obtain ⟨rs, a, b, c⟩ := h.at_ q x l hx hl
 refine ⟨rs, a, b, fun u => ?_⟩
 rw [c u]
 constructor
 ·rintro ⟨h1, h2⟩
  refine ⟨h1, ?_⟩
  rintro (h3 | ⟨rfl, rfl⟩)
  ·exact h2 h3
  ·exact hH
 ·rintro ⟨h1, h2⟩
  exact ⟨h1, fun h3 => h2 (.inl h3)⟩
theorem Mid.strike {p x : Nat} {v : Int} {l : List Int} {rs : List (Int × Int)} (h : Mid cs scope doms D done) (hn : scope.Nodup) (hx : scope[p]? = some x) (hl : cs[p]? = some l) (hrs : D[x]? = some rs) (hH : ¬ i9 cs p v) :
  Mid cs scope doms (D.set x (upto rs (v - 1) ++ dE rs (v + 1))) (Ao done p v) := by
 have hxD := (List.getElem?_eq_some_iff.mp hrs).1
 refine ⟨by simp [h.len], fun q y l' hy hl' => ?_, fun y hy => ?_⟩
 ·obtain ⟨rs', a, b, c⟩ := h.at_ q y l' hy hl'
  by_cases hyx : y = x
  ·subst hyx
   have hqp : q = p := qY hn hy hx
   subst hqp
   rw [hrs] at a; cases a
   rw [hl] at hl'; cases hl'
   refine ⟨_, by simp [hxD], b.without v, fun u => ?_⟩
   rw [iP, c u]
   constructor
   ·rintro ⟨⟨h1, h2⟩, h3⟩
    refine ⟨h1, ?_⟩
    rintro (h4 | ⟨_, h4⟩)
    ·exact h2 h4
    ·exact absurd h4 h3
   ·rintro ⟨h1, h2⟩
    refine ⟨⟨h1, fun h3 => h2 (.inl h3)⟩, ?_⟩
    rintro rfl
    exact hH (h2 (.inr ⟨rfl, rfl⟩))
  ·refine ⟨rs', by rw [List.getElem?_set_ne (Ne.symm hyx)]; exact a, b, fun u => ?_⟩
   rw [c u]
   have hqp : q ≠ p := by rintro rfl; rw [hx] at hy; cases hy; exact hyx rfl
   constructor
   ·rintro ⟨h1, h2⟩
    refine ⟨h1, ?_⟩
    rintro (h4 | ⟨h4, _⟩)
    ·exact h2 h4
    ·exact absurd h4 hqp
   ·rintro ⟨h1, h2⟩
    exact ⟨h1, fun h3 => h2 (.inl h3)⟩
 ·have hxs : x ∈ scope := List.mem_of_getElem? hx
  rw [List.getElem?_set_ne (by rintro rfl; exact hy hxs)]
  exact h.IM y hy
theorem Mid.left {p x : Nat} {v u0 : Int} {l : List Int} {rs : List (Int × Int)} (h : Mid cs scope doms D done) (hx : scope[p]? = some x) (hl : cs[p]? = some l) (hrs : D[x]? = some rs) (hv : v ∈ l) (hd : ¬ done p v) (hu : u0 ∈ l) (hH : i9 cs p u0) (hne : u0 ≠ v) :
  v ∈ aX rs ∧ upto rs (v - 1) ++ dE rs (v + 1) ≠ [] ∧ upto rs (v - 1) ++ dE rs (v + 1) ≠ rs := by
 obtain ⟨rs', a, b, c⟩ := h.at_ p x l hx hl
 rw [hrs] at a; cases a
 have h1 : v ∈ aX rs := (c v).mpr ⟨hv, fun z => absurd z hd⟩
 have h2 : u0 ∈ aX (upto rs (v - 1) ++ dE rs (v + 1)) := iP.mpr ⟨(c u0).mpr ⟨hu, fun _ => hH⟩, hne⟩
 refine ⟨h1, fun z => ?_, fun z => ?_⟩
 ·rw [z] at h2; cases h2
 ·have := iP (rs := rs) (v := v) (x := v)
  rw [z] at this
  exact (this.mp h1).2 rfl
end
theorem zQ {σ : St} {kj : Nat} {ps : List Nat} (h : getL σ kj = some (ps.map fun p => .int (p : Nat))) (v : Nat) : dH (.int (v : Nat)) (.obj kj) σ = some (.bool (decide (v ∉ ps)), σ) := by
 have h' : getL σ kj = some ((ps.map fun p : Nat => (p : Int)).map .int) := by rw [h, List.map_map]; rfl
 rw [sM h']
 have : ((v : Int) ∉ ps.map fun p : Nat => (p : Int)) ↔ v ∉ ps := by
  rw [List.mem_map]
  exact not_congr ⟨fun ⟨x, h1, h2⟩ => by rw [show v = x by lia]; exact h1, fun h => ⟨v, h, rfl⟩⟩
 simp only [this]
set_option genInjectivity false in
set_option genSizeOfSpec false in
structure P2 where
 new ::
 K6 : St
 i : Nat
 a : Nat
 f : Nat
 t : Nat
 mK : Nat
 nw : Nat
 r : Nat
 nd : Nat
 j : Nat
 c : Nat
 m : Nat
 o : Nat
 ids : List Nat
 scope : List Nat
 doms : List (List (Int × Int))
 firsts : List (List (Int × Int))
 trail : List V
 marks : List V
 clash : List V
 cs : List (List Int)
 aZ : Nat → Option Int
 own : Int → Option Nat
section
variable {P : P2} {σ : St}
noncomputable def P2.F (P : P2) : List Nat := [P.i, P.a, P.f, P.t, P.mK, P.nw, P.nd]
noncomputable def P2.E (P : P2) (z : Nat) : Prop := z = P.a ∨ z = P.t ∨ z = P.nw
noncomputable def P2.ρ (P : P2) (x3 x4 x6 x7 : Option V) : Loc := [some (.inst 2 P.r), some (.inst 0 P.i), some (.inst 1 P.j), x3, x4, some (.obj P.nd), x6, x7]
structure mS (P : P2) (σ : St) (done : Nat → Int → Prop) (cnt : Nat) : Prop where
 ex : E2 fun D es => A4 (SV σ P.i P.a P.f P.t P.mK P.nw D P.firsts (P.trail ++ es) P.marks false P.clash) (Mid P.cs P.scope P.doms D done) (oQ P.cs P.own P.scope P.firsts P.doms es D) (es.length ≤ cnt)
 hr : bT σ P.r = some (ad P.scope)
 mv : MV σ P.j P.c P.m P.o P.ids P.cs P.aZ P.own
 MX : qM P.F σ P.nd P.cs P.own
 ext : Ext P.E P.K6 σ
structure NV (P : P2) : Prop where
 K : cY P.cs P.aZ P.own
 hf : Full P.cs P.aZ
 hn : P.scope.Nodup
 hcs : P.cs.length = P.scope.length
 hcn : ∀ l ∈ P.cs, l.Nodup ∧ l.length ≤ 5
 hsc : ∀ x ∈ P.scope, x < P.firsts.length
 hg : ∀ rs ∈ P.firsts, Good rs ∧ (aX rs).length ≤ 20
 b2 : P.scope.length ≤ 10
 b3 : P.firsts.length ≤ 100
 b4 : P.doms.length ≤ 100
 b5 : P.trail.length ≤ 900
 hr : ¬ P.E P.r
 hnd : ¬ P.E P.nd
 hM : ∀ z, P.E z ∨ z = P.nd → z ∉ [P.j, P.c, P.m, P.o] ∧ z ∉ P.ids
 hnd2 : ∀ z ∈ [P.i, P.a, P.f, P.t, P.mK, P.nw, P.r], z ≠ P.nd
 Ou : P.K6.length ≤ P.nd
noncomputable def v4 : XS := (XS.seq (XS.ite (X.test (X.bin dH (X.var 6) (X.var 5))) (XS.seq (XS.assign (X.cS 1 56 dJ (X.var 2) (X.aB (X.var 6) X.aH)) (XA.item (X.var 5) (X.var 6))) XS.nil) XS.nil) (XS.seq (XS.ite (X.iW (X.test (X.bin i3 (X.sub (X.var 5) (X.var 6)) (X.pure .none))) (X.iW (X.test (X.bin dH (X.var 3) (X.sub (X.sub (X.var 5) (X.var 6)) (X.pure (.int 0))))) X.v5)) (XS.seq (XS.assign (X.cS 2 55 bU (X.var 0) (X.aB (X.var 1) (X.aB (X.sub (X.sub (X.var 5) (X.var 6)) (X.pure (.int 0))) (X.aB (X.sub (X.sub (X.var 5) (X.var 6)) (X.pure (.int 1))) X.aH)))) (XA.name 7)) (XS.seq (XS.ite (X.n8 (X.test (X.cS 0 54 gW (X.var 1) (X.aB (X.eH (X.aB (X.sub (X.attr 2 31 (X.var 0)) (X.var 3)) (X.aB (X.pure (.str 51)) (X.aB (X.var 6) X.aH)))) (X.aB (X.var 7) X.aH))))) (XS.seq (XS.ret (X.pure (.bool false))) XS.nil) XS.nil) XS.nil)) XS.nil) XS.nil))
theorem GK {g : XS} {v : Int} {x3 x4 x7 : Option V} {Q : Fl → Loc → St → Prop} (hF : ∀ z ∈ P.F, z < σ.length) (M : MV σ P.j P.c P.m P.o P.ids P.cs P.aZ P.own) (K : cY P.cs P.aZ P.own) (N : qM P.F σ P.nd P.cs P.own) (hv : -100 ≤ v ∧ v < 100)
  (hQ : ∀ σ' w, qM P.F σ' P.nd P.cs P.own → iU (.obj P.nd) (.int v) σ' = some (w, σ') → Jn P.F σ' P.cs P.own v w → Ext (fun z => z = P.nd) σ σ' → sp g (P.ρ x3 x4 (some (.int v)) x7) σ' Q) :
  sp (XS.seq (XS.ite (X.test (X.bin dH (X.var 6) (X.var 5))) (XS.seq (XS.assign (X.cS 1 56 dJ (X.var 2) (X.aB (X.var 6) X.aH)) (XA.item (X.var 5) (X.var 6))) XS.nil) XS.nil) g) (P.ρ x3 x4 (some (.int v)) x7) σ Q := by
 rcases N.look v with e | ⟨w, e, g, hA⟩
 ·obtain ⟨w, aT, e1, E1, h1⟩ := DZ M K hv
  have hA : Jn P.F aT P.cs P.own v w := by
   rcases h1 with h1 | ⟨pj, kj, ps, ks, h1, h2, h3, h4, h5, h6⟩
   ·exact .inl h1
   ·exact .inr ⟨pj, kj, ps, ks, h1, h2, h3, h4, fun z => Nat.lt_irrefl _ (Nat.lt_of_lt_of_le (hF _ z) h5), fun z => Nat.lt_irrefl _ (Nat.lt_of_lt_of_le (hF _ z) h6)⟩
  obtain ⟨bH, e2, N2, g2, A2, E2⟩ := (N.ext E1 (fun _ h => h.elim) fun h => h).set (List.mem_append_right [P.i, P.a, P.f, P.t, P.mK, P.nw] (.head _)) hA hv
  exact kO (aP (aQ rfl rfl e)) (fQ (c9 rfl (f4 (n := 56) M.hs rfl) rfl e1) (Gb rfl rfl e2) (dG (hQ bH w N2 g2 A2 ((Ext.of0 E1).then E2))))
 ·exact cZ (aP (aQ rfl rfl e)) (hQ σ w N g hA .refl)
theorem Good.nodup {rs : List (Int × Int)} (g : Good rs) : (aX rs).Nodup := g.sorted.imp fun h => Int.ne_of_lt h
theorem qP.M1 {cs : List (List Int)} {own : Int → Option Nat} {v : Int} {ps : List Nat} {ks : List Int} (h : qP cs own v ps ks) (hc : cs.length ≤ 10) : ps.length ≤ 10 := by
 have := cR (m := List.range cs.length) h.nH fun p hp => List.mem_range.mpr (h.lt p hp)
 rw [List.length_range] at this; exact Nat.le_trans this hc
theorem Gx {scope : List Nat} {k x : Nat} (hx : scope[k]? = some x) (hl : scope.length ≤ 10) : iU (.tup (aJ scope)) (.int (k : Nat)) σ = some (.int (x : Nat), σ) := by
 obtain ⟨h1, h2⟩ := List.getElem?_eq_some_iff.mp hx
 rw [EM, aJ, iD (by rw [List.length_map]; exact h1) (Nat.lt_of_lt_of_le h1 (Nat.le_trans hl (by decide))), List.getElem_map, h2]; rfl
theorem I6 {k x : Nat} {v : Int} {l : List Int} {x4 x7 : Option V} {w : V} {done : Nat → Int → Prop} {cnt : Nat} {Q : Fl → Loc → St → Prop} (A : NV P) (L : mS P σ done cnt) (hx : P.scope[k]? = some x) (hl : P.cs[k]? = some l) (hv : v ∈ l) (hd : ¬ done k v) (hc2 : cnt ≤ 100)
  (g : iU (.obj P.nd) (.int v) σ = some (w, σ)) (hA : Jn P.F σ P.cs P.own v w)
  (hQ : ∀ σ' y7, mS P σ' (Ao done k v) (cnt + 1) → Q .next (P.ρ (some (.int (k : Nat))) x4 (some (.int v)) y7) σ') :
  sp (XS.seq (XS.ite (X.iW (X.test (X.bin i3 (X.sub (X.var 5) (X.var 6)) (X.pure .none))) (X.iW (X.test (X.bin dH (X.var 3) (X.sub (X.sub (X.var 5) (X.var 6)) (X.pure (.int 0))))) X.v5)) (XS.seq (XS.assign (X.cS 2 55 bU (X.var 0) (X.aB (X.var 1) (X.aB (X.sub (X.sub (X.var 5) (X.var 6)) (X.pure (.int 0))) (X.aB (X.sub (X.sub (X.var 5) (X.var 6)) (X.pure (.int 1))) X.aH)))) (XA.name 7)) (XS.seq (XS.ite (X.n8 (X.test (X.cS 0 54 gW (X.var 1) (X.aB (X.eH (X.aB (X.sub (X.attr 2 31 (X.var 0)) (X.var 3)) (X.aB (X.pure (.str 51)) (X.aB (X.var 6) X.aH)))) (X.aB (X.var 7) X.aH))))) (XS.seq (XS.ret (X.pure (.bool false))) XS.nil) XS.nil) XS.nil)) XS.nil) XS.nil) (P.ρ (some (.int (k : Nat))) x4 (some (.int v)) x7) σ Q := by
 obtain ⟨D, es, s, hm, hS, hc⟩ := L.ex
 have keep : i9 P.cs k v → Q .next (P.ρ (some (.int (k : Nat))) x4 (some (.int v)) x7) σ := fun h => hQ σ x7 ⟨⟨D, es, s, hm.keep h, hS, Nat.le_succ_of_le hc⟩, L.hr, L.mv, L.MX, L.ext⟩
 rcases hA with ⟨rfl, u, hu, ho⟩ | ⟨pj, kj, ps, ks, rfl, hpj, hkj, hC, n1, n2⟩
 ·exact cZ (jP (aP (aQ (bN rfl rfl g) rfl Dn))) (dG (keep (lF A.K A.hf ⟨u, hu, .inl ho⟩)))
 have gt := aP (aQ (ρ := P.ρ (some (.int (k : Nat))) x4 (some (.int v)) x7) (f := X.sub (X.var 5) (X.var 6)) (g := X.pure .none) (bN rfl rfl g) rfl EL)
 by_cases hk : k ∈ ps
 ·exact cZ (eP gt (jP (aP (aQ rfl (bN (bN rfl rfl g) rfl rfl) ((zQ hpj k).trans (by rw [decide_eq_false (fun h => h hk)])))))) (dG (keep (lF A.K A.hf (D3 hC hk))))
 clear keep
 have hbad := Av hC hk
 have LL : ks ≠ [] := fun z => List.not_mem_nil (z ▸ hC.start)
 have Ag := (lT ks).length_eq
 have EZ : cL ks ≠ [] := fun z => by rw [z] at Ag; exact LL (List.length_eq_zero_iff.mp Ag.symm)
 have e0 : (cL ks)[0]? = some ((cL ks)[0]'(List.length_pos_iff.mpr EZ)) := List.getElem?_eq_getElem _
 have e1 : (cL ks).getLast? = some ((cL ks).getLast EZ) := List.getLast?_eq_some_getLast EZ
 have hpl := hC.M1 (A.hcs ▸ A.b2)
 obtain ⟨u0, hu0⟩ := A.hf k (List.getElem?_eq_some_iff.mp hl).1
 have hH0 : i9 P.cs k u0 := lF A.K A.hf ⟨u0, .refl, .inr ((A.K.iff _ _).mp hu0)⟩
 obtain ⟨rs, hrs, hgr, hrm⟩ := hm.at_ k x l hx hl
 obtain ⟨hlv, hln, hlr⟩ := hm.left hx hl hrs hv hd (A.K.mem k u0 l hu0 hl) hH0 fun z => hbad (z ▸ hH0)
 have hsmall : Small rs := hgr.small (Nat.le_trans (cR hgr.nodup fun u hu => ((hrm u).mp hu).1) (Nat.le_trans (A.hcn l (List.mem_of_getElem? hl)).2 (by decide)))
 obtain ⟨_, aT, e2, rfl, E1⟩ := yK s L.hr hpj hkj e0 e1 (fun p hp => A.hcs ▸ hC.lt p hp) A.hsc A.hg hpl A.b2 A.b3 (by rw [Ag, ← hC.len]; exact Nat.le_trans hpl (by decide))
 have s1 := s.dY E1
 have r1 := E1.bT L.hr fun h => h
 obtain ⟨_, bH, e3, rfl, s2, E2⟩ := C4 s1 hrs hsmall (by rw [hm.len]; exact A.b4) (by rw [List.length_append]; exact Nat.add_le_add A.b5 (Nat.le_trans hc hc2)) hln hlr
 have E12 : Ext P.E σ bH := (Ext.of0 E1).then E2
 rw [List.append_assoc] at s2
 refine kO (eP gt (eP (aP (aQ rfl (bN (bN rfl rfl g) rfl rfl) ((zQ hpj k).trans (by rw [decide_eq_true hk])))) rfl)) (fQ (c9 rfl (f4 (n := 55) L.hr rfl) (aK rfl (aK (bN (bN rfl rfl g) rfl rfl) (aK (bN (bN rfl rfl g) rfl rfl) rfl))) e2) rfl (cZ (kK (aP (c9 rfl (s1.inst rfl) (aK (mO (aK (bN (bP rfl (bC r1 rfl)) rfl (Gx hx A.b2)) rfl) (Nat.le_of_ble_eq_true rfl)) rfl) e3))) (dG (dG ?_))))
 exact hQ bH _ ⟨⟨_, _, s2, hm.strike A.hn hx hl hrs hbad, hS.snoc hx hrs hlv hl hv hC hk e0 e1, by rw [List.length_append]; exact Nat.add_le_add_right hc 1⟩, E12.bT L.hr A.hr, L.mv.ext E12 (fun z hz h => (A.hM z (.inl h)).1 hz) (fun z hz h => (A.hM z (.inl h)).2 hz),
  L.MX.ext E12 (fun z h => h.elim (fun e => e ▸ .tail _ (.head _)) fun h => h.elim (fun e => e ▸ .tail _ (.tail _ (.tail _ (.head _)))) fun e => e ▸ .tail _ (.tail _ (.tail _ (.tail _ (.tail _ (.head _)))))) A.hnd, L.ext.then E12⟩
theorem mS.congr {done done' : Nat → Int → Prop} {cnt Nz : Nat} (L : mS P σ done cnt) (h : ∀ q u l, P.cs[q]? = some l → u ∈ l → (done q u ↔ done' q u)) (hc : cnt ≤ Nz) : mS P σ done' Nz := by
 obtain ⟨D, es, s, hm, hS, hcc⟩ := L.ex
 refine ⟨⟨D, es, s, ⟨hm.len, fun q x l hx hl => ?_, hm.IM⟩, hS, Nat.le_trans hcc hc⟩, L.hr, L.mv, L.MX, L.ext⟩
 obtain ⟨rs, h1, h2, h3⟩ := hm.at_ q x l hx hl
 refine ⟨rs, h1, h2, fun u => (h3 u).trans ⟨fun ⟨p1, p2⟩ => ⟨p1, fun z => p2 ((h q u l hl p1).mpr z)⟩, fun ⟨p1, p2⟩ => ⟨p1, fun z => p2 ((h q u l hl p1).mp z)⟩⟩⟩
theorem mS.lt {done : Nat → Int → Prop} {cnt : Nat} (L : mS P σ done cnt) : ∀ z ∈ P.F, z < σ.length := by
 intro z hz
 obtain ⟨D, es, s, _⟩ := L.ex
 rcases List.mem_append.mp (show z ∈ [P.i, P.a, P.f, P.t, P.mK, P.nw] ++ [P.nd] from hz) with h | h
 ·exact s.lt z h
 ·obtain ⟨ml, hml, _⟩ := L.MX.at_
  cases List.mem_singleton.mp h
  exact iJ hml
inductive O7 (P : P2) (x4 : Option V) (k : Nat) (l : List Int) (n : Nat) (ρ : Loc) (σ : St) : Prop
 | intro (e : E2 fun y6 y7 => ρ = P.ρ (some (.int (k : Nat))) x4 y6 y7) (L : mS P σ (fun q u => q < k ∨ (q = k ∧ u ∈ l.take n)) (5 * k + n))
theorem EV {k x n : Nat} {v : Int} {l : List Int} {x4 : Option V} {ρ : Loc} {Q : Fl → Loc → St → Prop} (A : NV P) (hx : P.scope[k]? = some x) (hl : P.cs[k]? = some l) (hv : l[n]? = some v) (I : O7 P x4 k l n ρ σ) : sF (XA.name 6) v4 (O7 P x4 k l (n + 1)) Q (.int v) ρ σ := by
 obtain ⟨⟨y6, y7, rfl⟩, L2⟩ := I
 have hlm := List.mem_of_getElem? hl
 have hvl : v ∈ l := List.mem_of_getElem? hv
 obtain ⟨hlt, hve⟩ := List.getElem?_eq_some_iff.mp hv
 have htk : l.take (n + 1) = l.take n ++ [v] := by rw [List.take_succ_eq_append_getElem hlt, hve]
 have hvn : v ∉ l.take n := by
  have h1 := (A.hcn l hlm).1.sublist (List.take_sublist (n + 1) l)
  rw [htk, List.nodup_append] at h1
  exact fun hv2 => h1.2.2 v hv2 v (.head _) rfl
 have hk := (List.getElem?_eq_some_iff.mp hx).1
 have hcb : 5 * k + n ≤ 100 := Nat.add_le_add (b := 50) (d := 50) (Nat.mul_le_mul_left 5 (Nat.le_trans (Nat.le_of_lt hk) A.b2)) (Nat.le_trans (Nat.le_of_lt hlt) (Nat.le_trans (A.hcn l hlm).2 (by decide : 5 ≤ 50)))
 refine ⟨rfl, fun Q' hn _ => GK (x3 := some (.int (k : Nat))) L2.lt L2.mv A.K L2.MX (L2.mv.vals l hlm v hvl) fun dQ w N3 g3 A3 E3 => ?_⟩
 obtain ⟨D, es, s2, hm2, hS2, hc2⟩ := L2.ex
 have L3 : mS P dQ (fun q u => q < k ∨ (q = k ∧ u ∈ l.take n)) (5 * k + n) :=
  ⟨⟨D, es, s2.ext E3 fun z hz => A.hnd2 z (List.mem_append_left [P.r] hz), hm2, hS2, hc2⟩, E3.bT L2.hr (A.hnd2 P.r (List.mem_append_right [P.i, P.a, P.f, P.t, P.mK, P.nw] (.head _))), L2.mv.ext E3 (fun z hz h => (A.hM z (.inr h)).1 hz) (fun z hz h => (A.hM z (.inr h)).2 hz), N3, L2.ext.trans E3 fun z h => .inr (h ▸ A.Ou)⟩
 refine I6 A L3 hx hl hvl (fun h => h.elim (Nat.lt_irrefl _) fun h => hvn h.2) hcb g3 A3 fun kS z7 L4 => hn _ _ ⟨⟨_, _, rfl⟩, L4.congr (fun q u l' hl' hu => ?_) (Nat.le_refl _)⟩
 rw [htk]
 constructor
 ·rintro ((h | ⟨rfl, h⟩) | ⟨rfl, rfl⟩)
  ·exact .inl h
  ·exact .inr ⟨rfl, List.mem_append_left _ h⟩
  ·exact .inr ⟨rfl, List.mem_append_right _ (.head _)⟩
 ·rintro (h | ⟨rfl, h⟩)
  ·exact .inl (.inl h)
  ·rcases List.mem_append.mp h with h | h
   ·exact .inl (.inr ⟨rfl, h⟩)
   ·exact .inr ⟨rfl, List.mem_singleton.mp h⟩
theorem EW {g : XS} {k x : Nat} {l : List Int} {x4 x6 x7 : Option V} {Q : Fl → Loc → St → Prop} (A : NV P) (L : mS P σ (fun q _ => q < k) (5 * k)) (hx : P.scope[k]? = some x) (hl : P.cs[k]? = some l)
  (hQ : ∀ σ' y6 y7, mS P σ' (fun q _ => q < k + 1) (5 * (k + 1)) → sp g (P.ρ (some (.int (k : Nat))) x4 y6 y7) σ' Q) :
  sp (XS.seq (XS.for (X.sub (X.attr 1 37 (X.var 2)) (X.var 3)) (XA.name 6) v4 1000) g) (P.ρ (some (.int (k : Nat))) x4 x6 x7) σ Q := by
 obtain ⟨id, hid, hcg, _⟩ := L.mv.choice hl
 have hll := (A.hcn l (List.mem_of_getElem? hl)).2
 refine nE l .int (O7 P x4 k l) (bN (bP rfl (bC (n := 37) L.mv.hs rfl)) rfl hcg) ⟨⟨_, _, rfl⟩, L.congr (fun q u l _ _ => ⟨.inl, fun h => h.elim (fun h => h) fun h => (List.not_mem_nil h.2).elim⟩) (Nat.le_refl _)⟩ (Nat.lt_of_le_of_lt hll (by decide)) ?_ (fun n v ρ bH hv I => EV A hx hl hv I) ?_
 ·rintro n ρ bH ⟨_, L2⟩ hn
  obtain ⟨id', Nk, _, h2, _⟩ := L2.mv.choice hl
  rw [hid] at Nk; cases Nk
  exact Src.list h2 bH .refl n (by rw [List.length_map]; exact hn)
 ·rintro ρ bH ⟨⟨y6, y7, rfl⟩, L2⟩
  refine hQ bH _ _ (L2.congr (fun q u l' hl' hu => ?_) (Nat.add_le_add_left hll _))
  rw [List.take_length]
  refine ⟨fun h => h.elim Nat.lt_succ_of_lt fun h => h.1 ▸ Nat.lt_succ_self _, fun h => ?_⟩
  rcases Nat.lt_or_eq_of_le (Nat.le_of_lt_succ h) with h | rfl
  ·exact .inl h
  ·rw [hl] at hl'; cases hl'; exact .inr ⟨rfl, hu⟩
end
section
variable {P : P2} {σ : St}
inductive O4 (P : P2) (x4 : Option V) (k : Nat) (ρ : Loc) (σ : St) : Prop
 | intro (e : E3 fun y3 y6 y7 => ρ = P.ρ y3 x4 y6 y7) (L : mS P σ (fun q _ => q < k) (5 * k))
theorem EI {g : XS} {x3 x4 : Option V} {Q : Fl → Loc → St → Prop} (A : NV P) (L : mS P σ (fun _ _ => False) 0)
  (hQ : ∀ σ' y3 y6 y7, mS P σ' (fun _ _ => True) 50 → sp g (P.ρ y3 x4 y6 y7) σ' Q) :
  sp (XS.seq (XS.for (X.call (bW cU) (X.aB (X.call (bW gJ) (X.aB (X.attr 2 31 (X.var 0)) X.aH)) X.aH)) (XA.name 3) (XS.seq (XS.for (X.sub (X.attr 1 37 (X.var 2)) (X.var 3)) (XA.name 6) v4 1000) XS.nil) 1000) g) (P.ρ x3 x4 none none) σ Q := by
 have hsl : (aJ P.scope).length = P.scope.length := List.length_map _
 have hl : (List.range P.scope.length).length = P.scope.length := List.length_range
 refine nE (List.range P.scope.length) (fun k => .int (k : Nat)) (O4 P x4) (aN (aK (aN (aK (bP rfl (bC (n := 31) L.hr rfl)) rfl) (vU (hsl.symm ▸ Nat.le_trans A.b2 (by decide)))) rfl) (by rw [hsl]; rfl)) ⟨⟨_, _, _, rfl⟩, L.congr (fun q u l _ _ => ⟨False.elim, fun h => (Nat.not_lt_zero _ h).elim⟩) (Nat.le_refl _)⟩
  (hl.symm ▸ Nat.lt_of_le_of_lt A.b2 (by decide)) (fun k ρ σ' _ hk => nZ (σ := σ') (Nat.le_trans A.b2 (by decide)) σ' .refl k (by rw [List.length_map]; exact hk)) ?_ ?_
 ·rintro k x ρ bH hx ⟨⟨y3, y6, y7, rfl⟩, L2⟩
  obtain ⟨hk, e⟩ := List.getElem?_eq_some_iff.mp hx
  rw [List.getElem_range] at e
  subst e
  rw [hl] at hk
  exact ⟨rfl, fun Q' hn _ => EW A L2 (List.getElem?_eq_getElem hk) (List.getElem?_eq_getElem (A.hcs.symm ▸ hk)) fun dQ z6 z7 L3 => dG (hn _ _ ⟨⟨_, _, _, rfl⟩, L3⟩)⟩
 ·rintro ρ bH ⟨⟨y3, y6, y7, rfl⟩, L2⟩
  rw [hl] at L2
  exact hQ bH _ _ _ (L2.congr (fun q u l h _ => ⟨fun _ => trivial, fun _ => A.hcs ▸ (List.getElem?_eq_some_iff.mp h).1⟩) (Nat.mul_le_mul_left 5 A.b2))
end
theorem zR {l : List Nat} : (l.map fun x : Nat => (x : Int)).Nodup ↔ l.Nodup := by
 unfold List.Nodup
 rw [List.pairwise_map]
 exact ⟨fun h => h.imp fun h e => h (congrArg _ e), fun h => h.imp fun h e => h (Int.ofNat.inj e)⟩
noncomputable def Kh (σ σ' : St) (i a f t mk nw : Nat) (doms firsts : List (List (Int × Int))) (trail marks clash : List V) (scope : List Nat) (v : V) : Prop :=
 Ext (fun z => z = i ∨ z = a ∨ z = t ∨ z = nw) σ σ' ∧
 ((A3 (¬ scope.Nodup) (v = .bool false) (SV σ' i a f t mk nw doms firsts trail marks true [])) ∨
  (A3 scope.Nodup (v = .bool false) (E4 fun ps ks lo hi => A4 (I9 (eG doms scope) ps ks) ((cL ks)[0]? = some lo) ((cL ks).getLast? = some hi) (SV σ' i a f t mk nw doms firsts trail marks true (mB firsts scope ps (cL ks) lo hi)))) ∨
  (A3 scope.Nodup (v = .bool true) (E4 fun aZ own D es => A6 (cY (eG doms scope) aZ own) (Full (eG doms scope) aZ) (SV σ' i a f t mk nw D firsts (trail ++ es) marks false clash) (Mid (eG doms scope) scope doms D (fun _ _ => True)) (oQ (eG doms scope) own scope firsts doms es D) (es.length ≤ 50))))
section
variable {σ : St} {i a f t mk nw r : Nat} {scope : List Nat} {doms firsts : List (List (Int × Int))} {trail marks clash : List V}
theorem fY {σ : List O} {i j : Nat} {x} {y} (h : bT σ i = some x) (k : getL σ j = some y) : i ≠ j := by
 rintro rfl; have a := yB h; rw [jT k] at a; cases a
theorem Dz {σ : List O} {i j : Nat} {x} {y} (h : bT σ i = some x) (k : eF σ j = some y) : i ≠ j := by
 rintro rfl; have a := yB h; rw [k7 k] at a; cases a
theorem BK {x : Nat} (h : x < doms.length) : doms.getD x [] = doms[x] := by rw [List.getD_eq_getElem?_getD, List.getElem?_eq_getElem h]; rfl
theorem MV.lt {j c m o : Nat} {ids : List Nat} {cs : List (List Int)} {aZ : Nat → Option Int} {own : Int → Option Nat} (M : MV σ j c m o ids cs aZ own) {z : Nat} (h : z ∈ [j, c, m, o] ∨ z ∈ ids) : z < σ.length := by
 rcases h with h | h
 ·obtain ⟨ol, hol, _⟩ := M.ho
  simp only [List.mem_cons, List.not_mem_nil, or_false] at h
  rcases h with rfl | rfl | rfl | rfl
  ·exact fC M.hs
  ·exact bE M.hc
  ·exact bE M.hm
  ·exact iJ hol
 ·obtain ⟨p, hp⟩ := List.getElem?_of_mem h
  exact bE (M.uD p z _ hp (List.getElem?_eq_getElem (M.hlen ▸ (List.getElem?_eq_some_iff.mp hp).1))).h1
theorem Oi (hsc : ∀ x ∈ scope, x < doms.length) (hg : ∀ rs ∈ doms, A3 (Good rs) ((aX rs).length ≤ 5) (aX rs ≠ [])) : Mid (eG doms scope) scope doms doms (fun _ _ => False) := by
 refine ⟨rfl, fun q x l hx hl => ?_, fun x _ => rfl⟩
 have hxd := hsc x (List.mem_of_getElem? hx)
 unfold eG at hl
 rw [List.getElem?_map, hx] at hl
 cases hl
 dsimp only
 rw [BK hxd]
 exact ⟨_, List.getElem?_eq_getElem hxd, (hg _ (List.getElem_mem hxd)).h1, fun u => ⟨fun h => ⟨h, fun z => z.elim⟩, fun h => h.1⟩⟩
theorem qD (hsc : ∀ x ∈ scope, x < doms.length) (hg : ∀ rs ∈ doms, A3 (Good rs) ((aX rs).length ≤ 5) (aX rs ≠ [])) {l : List Int} (hl : l ∈ eG doms scope) : A3 l.Nodup (l.length ≤ 5) (l ≠ []) := by
 obtain ⟨x, hx, rfl⟩ := List.mem_map.mp hl
 have hxd := hsc x hx
 rw [BK hxd]
 have := hg _ (List.getElem_mem hxd)
 exact ⟨this.h1.nodup, this.h2, this.h3⟩
theorem zJ (s : SV σ i a f t mk nw doms firsts trail marks false clash) (hr : bT σ r = some (ad scope)) (hri : r ≠ i) (hsc : ∀ x ∈ scope, x < doms.length) (hfl : firsts.length = doms.length)
  (hgf : ∀ rs ∈ firsts, Good rs ∧ (aX rs).length ≤ 20) (hg : ∀ rs ∈ doms, A3 (Good rs) ((aX rs).length ≤ 5) (aX rs ≠ [])) (b2 : scope.length ≤ 10) (b4 : doms.length ≤ 100) (b5 : trail.length ≤ 900) :
  wp (bS [.inst 2 r, .inst 0 i] σ) fun v σ' => Kh σ σ' i a f t mk nw doms firsts trail marks clash scope v := by
 have hints : aJ scope = (scope.map fun x : Nat => (x : Int)).map .int := by unfold aJ; rw [List.map_map]; rfl
 obtain ⟨_, aT, e1, rfl, E1⟩ := Aw (σ := σ) (r := r) (xs := scope.map fun x : Nat => (x : Int)) (by rw [List.length_map]; exact Nat.le_trans b2 (by decide))
 rw [← hints, decide_eq_decide.mpr zR] at e1
 have s1 := s.dY E1
 refine wp_runF rfl (cZ (aP (bP rfl (bC (n := 13) s.hs rfl))) ?_)
 have ec := c9 (ρ := [some (.inst 2 r), some (.inst 0 i), none, none, none, none, none, none]) (f := X.var 0) rfl (f4 (n := 59) hr rfl) (aK (g := X.aH) (bP (f := X.var 0) rfl (bC (n := 31) hr rfl)) rfl) e1
 by_cases hn : scope.Nodup
 case neg =>
  rw [decide_eq_false hn] at ec
  obtain ⟨_, bH, e2, rfl, s2, E2⟩ := BN s1 []
  exact zC (kK (aP ec)) (c9 rfl (s1.inst (k := 22) rfl) rfl e2) ⟨(Ext.of0 E1).then (E2.mono fun z h => .inl h), .inl ⟨hn, rfl, s2⟩⟩
 rw [decide_eq_true hn] at ec
 have r1 := E1.bT hr fun h => h
 obtain ⟨_, bH, e2, j, c, m, o, ids, rfl, ⟨hf1, hf2⟩, M2, E2⟩ := Bc s1 b2 b4 hsc fun rs h => ⟨(hg rs h).h1, Nat.le_trans (hg rs h).h2 (by decide)⟩
 refine cZ (kK (aP ec)) (fQ (aN (aK rfl (aK (bP rfl (bC (n := 31) r1 rfl)) rfl)) e2) rfl ?_)
 clear ec e1 e2
 have s2 := s1.dY E2
 have r2 := E2.bT r1 fun h => h
 have E02 := E1.then E2
 have hlow : ∀ z ∈ [i, a, f, t, mk, nw, r], z < aT.length := fun z hz => by
  rcases List.mem_append.mp (show z ∈ [i, a, f, t, mk, nw] ++ [r] from hz) with h | h
  ·exact s1.lt z h
  ·cases List.mem_singleton.mp h; exact fC r1
 have hm1 := hf1 m (.tail _ (.tail _ (.head _)))
 have ho1 := hf1 o (.tail _ (.tail _ (.tail _ (.head _))))
 have hcs : (eG doms scope).length = scope.length := List.length_map _
 have M7 : ∀ x ∈ scope, x < firsts.length := fun x hx => hfl ▸ hsc x hx
 have new {z : Nat} (h : z = m ∨ z = o) : aT.length ≤ z := h.elim (fun e => e ▸ hm1) fun e => e ▸ ho1
 refine Ey s2 r2 M2 hcs (fun z hz h => Nat.lt_irrefl _ (Nat.lt_of_lt_of_le (hlow z hz) (new h))) (fun l hl => (qD hsc hg hl).h3) M7 hgf b2 (hfl ▸ b4) ?_ ?_
 ·intro ρ dQ ps ks lo hi hW e0 e1 s3 E3
  exact ⟨(E02.of0).trans E3 fun z h => h.elim (fun h => .inl (.inl h)) fun h => .inr (Nat.le_trans E1.1 (new h)), .inr (.inl ⟨hn, rfl, ps, ks, lo, hi, hW, e0, e1, s3⟩)⟩
 ·intro dQ aZ own x y M3 K3 F3 E3
  have E03 : bV σ dQ := E02.trans E3 fun z h => .inr (Nat.le_trans E1.1 (new h))
  have s3 := s.dY E03
  have r3 := E03.bT hr fun h => h
  have P3 : bV dQ (dQ ++ [O.cA []]) := .push _
  have s4 := s3.dY P3
  have KR : ∀ z ∈ [i, a, f, t, mk, nw, r], z < dQ.length := fun z hz => Nat.lt_of_lt_of_le (hlow z hz) (Nat.le_trans E2.1 E3.1)
  obtain ⟨nl, hnl, _⟩ := s3.hn
  have hE : ∀ {z}, z = a ∨ z = t ∨ z = nw → z ∈ [i, a, f, t, mk, nw, r] := fun h => by
   rcases h with rfl | rfl | rfl
   ·exact .tail _ (.head _)
   ·exact .tail _ (.tail _ (.tail _ (.head _)))
   ·exact .tail _ (.tail _ (.tail _ (.tail _ (.tail _ (.head _)))))
  have hMl : ∀ z, z ∈ [j, c, m, o] ∨ z ∈ ids → aT.length ≤ z := fun z h => h.elim (hf1 z) (hf2 z)
  refine fQ rfl rfl (EI (P := ⟨dQ, i, a, f, t, mk, nw, r, dQ.length, j, c, m, o, ids, scope, doms, firsts, trail, marks, clash, eG doms scope, aZ, own⟩) ⟨K3, F3, hn, hcs, fun l hl => ⟨(qD hsc hg hl).h1, (qD hsc hg hl).h2⟩, M7, hgf, b2, hfl ▸ b4, b4, b5, ?_, fun h => Nat.lt_irrefl _ (KR _ (hE h)), ?_, fun z hz => Nat.ne_of_lt (KR z hz), Nat.le_refl _⟩
   ⟨⟨doms, [], (List.append_nil trail).symm ▸ s4, Oi hsc hg, .nil, Nat.le_refl _⟩, P3.bT r3 fun h => h, M3.dY P3, ⟨[], uG, ⟨fun _ h => (List.not_mem_nil h).elim, .nil⟩, fun v w h => by cases h⟩, P3.of0⟩ ?_)
  ·rintro (h | h | h)
   ·exact fY r3 s3.hd h
   ·exact fY r3 s3.ht h
   ·exact Dz r3 hnl h
  ·have key : ∀ z, z ∈ [j, c, m, o] ∨ z ∈ ids → ¬ ((z = a ∨ z = t ∨ z = nw) ∨ z = dQ.length) := fun z hz h => h.elim (fun h => Nat.lt_irrefl _ (Nat.lt_of_lt_of_le (hlow z (hE h)) (hMl z hz))) fun h => Nat.lt_irrefl _ (h ▸ M3.lt hz)
   exact fun z h => ⟨fun hm => key z (.inl hm) h, fun hm => key z (.inr hm) h⟩
  ·intro kS y3 y6 y7 L4
   obtain ⟨D, es, s5, hm5, hS5, hc5⟩ := L4.ex
   exact lK rfl ⟨E03.of0.trans L4.ext (fun z h => .inl (.inr h)), .inr (.inr ⟨hn, rfl, aZ, own, D, es, K3, F3, s5, hm5, hS5, hc5⟩)⟩
end
section
variable {ρ : Loc} {σ : St}
noncomputable def Fs (v : V) (l : List V) : Prop := ∀ σ' k, k ≤ l.length → gN v σ' k = some l[k]?
theorem Fs.tup {l : List V} : Fs (.tup l) l := fun _ _ _ => rfl
theorem Fs.range {a b : Int} (h1 : -1000000 ≤ a) (h2 : a ≤ 1000000) (h3 : -1000000 ≤ b) (h4 : b ≤ 1000000) : Fs (.range a b) ((rangeInts a b).map .int) := fun σ' k hk =>
 Src.range (σ := σ') h1 h2 h3 h4 σ' .refl k hk
theorem GU {α β : Type} (ys : α → List β) (out : α → β → Option V) {l : List α} {m : Nat} (h : ∀ x ∈ l, (ys x).length ≤ m) : (l.flatMap fun x => (ys x).filterMap (out x)).length ≤ m * l.length := by
 induction l with
 | nil => exact Nat.zero_le _
 | cons x l ih =>
  rw [List.flatMap_cons, List.length_append, List.length_cons, Nat.mul_succ, Nat.add_comm]
  exact Nat.add_le_add (ih fun y hy => h y (.tail _ hy)) (CH _ (h x (.head _)))
inductive NL {α β : Type} (a : XA) (f2 : X V) (a2 : XA) (t2 : Option (X Bool)) (e : X V) (L2 : α → Loc → Prop) (inj : α → V) (ys : α → List β) (Ic : β → V) (out : α → β → Option V) (aT : St) (x : α) (ρ : Loc) (σ : St) : Prop
 | mk {oT : Loc} {bH dQ : St} {v2 : V} (h1 : a (inj x) ρ σ = some (oT, bH)) (hL : L2 x oT) (h2 : f2 oT bH = some (v2, dQ)) (E : bV σ dQ) (hs : Fs v2 ((ys x).map Ic)) (k : ∀ y NX kS, y ∈ ys x → L2 x NX → bV aT kS → Jj t2 a2 e (L2 x) (Ic y) (out x y) NX kS)
theorem IC {α β : Type} {G : Prop} {aT : St} (L : Loc → Prop) (L2 : α → Loc → Prop) {locs : List Nat} {f f2 : X V} {a a2 : XA} {t2 : Option (X Bool)} {e : X V} {fuel : Nat} {v : V} (l : List α) (inj : α → V) (ys : α → List β) (Ic : β → V) (out : α → β → Option V) (hL : L (KZ locs ρ)) (hLL : ∀ x ρ, L2 x ρ → L ρ) (h3 : l.length ≤ 1000) (hs : Src v aT (l.map inj)) (hys : ∀ x ∈ l, (ys x).length ≤ 50)
  (k : ∀ σ', X.CA locs f a none f2 a2 t2 e fuel ρ σ = some (.obj aT.length, σ') → bV aT σ' → getL σ' aT.length = some (l.flatMap fun x => (ys x).filterMap (out x)) → G) (h1 : f ρ σ = some (v, aT)) (h2 : l.length < fuel) (h4 : 50 < fuel) (step : ∀ x cI σ', x ∈ l → L cI → bV aT σ' → NL a f2 a2 t2 e L2 inj ys Ic out aT x cI σ') : G := by
 have : xp (X.CA locs f a none f2 a2 t2 e fuel) ρ σ fun r σ' => A3 (r = .obj aT.length) (bV aT σ') (getL σ' aT.length = some (l.flatMap fun x => (ys x).filterMap (out x))) := by
  refine tD ⟨v, aT, h1, l.map inj, fun k ρ σ => A3 (L ρ) (bV aT σ) (getL σ aT.length = some ((l.take k).flatMap fun x => (ys x).filterMap (out x))), ⟨hL, .push _, cE⟩, by rw [List.length_map]; exact h2, hs aT .refl 0 (Nat.zero_le _), fun k ρ σ I hk => hs σ I.h2 k hk, fun k x ρ σ hx I => ?_, fun ρ σ I => ⟨rfl, I.h2, ?_⟩⟩
  ·rw [List.getElem?_map] at hx
   obtain ⟨x, hy, rfl⟩ := Option.map_eq_some_iff.mp hx
   have hxl := List.mem_of_getElem? hy
   obtain ⟨hlt, e⟩ := List.getElem?_eq_some_iff.mp hy
   obtain ⟨g1, gL, g2, E, gs, gk⟩ := step x ρ σ hxl I.h1 I.h2
   refine ⟨_, _, g1, true, _, rfl, JR.mpr ⟨_, _, g2, FR (l := (ys x).map Ic) (fun m ρ σ => A3 (L2 x ρ) (bV aT σ) (getL σ aT.length = some (((l.take k).flatMap fun x => (ys x).filterMap (out x)) ++ ((ys x).take m).filterMap (out x)))) (fun m ρ σ _ hm => gs σ m hm) (fun m y ρ σ hy J => ?_) (fun ρ σ J => ⟨hLL _ _ J.h1, J.h2, ?_⟩) fuel 0 _ _ ⟨gL, I.h2.then E, (List.append_nil _).symm ▸ E.getL I.h3 id⟩ (Nat.zero_le _) ?_⟩⟩
   ·rw [List.getElem?_map] at hy
    obtain ⟨y, hy2, rfl⟩ := Option.map_eq_some_iff.mp hy
    refine BR (Nat.le_refl _) (gk y ρ σ (List.mem_of_getElem? hy2) J.h1 J.h2) J.h2 hy2 J.h3 ?_
    exact Nat.le_trans (Nat.add_le_add (Nat.le_trans (GU ys out fun z hz => hys z (List.mem_of_mem_take hz)) (Nat.mul_le_mul_left 50 (Nat.le_trans (List.length_take_le' k l) h3))) (hys x hxl)) (by decide)
   ·have := J.h3
    rw [List.length_map, List.take_length] at this
    rw [this, List.take_succ_eq_append_getElem hlt, e, List.flatMap_append, List.flatMap_singleton]
   ·rw [List.length_map]; exact Nat.lt_of_le_of_lt (hys x hxl) h4
  ·have := I.h3; rw [List.length_map, List.take_length] at this; exact this
 obtain ⟨_, σ', e, rfl, E, g⟩ := this
 exact k σ' e E g
end
noncomputable def sumBits (p : Nat → Bool) : Nat := (if p 0 then 1 else 0) + (if p 1 then 2 else 0) + (if p 2 then 4 else 0) + (if p 3 then 8 else 0) + (if p 4 then 16 else 0)
theorem CV {P : Nat → Prop} (h0 : P 0) (h1 : P 1) (h2 : P 2) (h3 : P 3) (h4 : P 4) : ∀ k, k < 5 → P k
 | 0, _ => h0
 | 1, _ => h1
 | 2, _ => h2
 | 3, _ => h3
 | 4, _ => h4
 | k + 5, h => absurd h (by lia)
theorem mI (p : Nat → Bool) {k : Nat} (hk : k < 5) : (sumBits p).testBit k = p k := by
 unfold sumBits
 generalize h0 : p 0 = a
 generalize h1 : p 1 = b
 generalize h2 : p 2 = c
 generalize h3 : p 3 = d
 generalize h4 : p 4 = e
 revert hk
 refine CV (P := fun k => (((((if a = true then 1 else 0) + if b = true then 2 else 0) + if c = true then 4 else 0) + if d = true then 8 else 0) + if e = true then 16 else 0).testBit k = p k) ?_ ?_ ?_ ?_ ?_ k
 ·rw [h0]; clear h0 h1 h2 h3 h4; revert a b c d e; decide
 ·rw [h1]; clear h0 h1 h2 h3 h4; revert a b c d e; decide
 ·rw [h2]; clear h0 h1 h2 h3 h4; revert a b c d e; decide
 ·rw [h3]; clear h0 h1 h2 h3 h4; revert a b c d e; decide
 ·rw [h4]; clear h0 h1 h2 h3 h4; revert a b c d e; decide
theorem yN (p : Nat → Bool) : sumBits p < 32 :=
 have : ∀ a b c d e : Bool, (if a then 1 else 0) + (if b then 2 else 0) + (if c then 4 else 0) + (if d then 8 else 0) + (if e then 16 else 0) < 32 := by decide
 this _ _ _ _ _
theorem kT {m : Nat} (h : m < 32) : sumBits m.testBit = m := by
 have : ∀ m < 32, sumBits m.testBit = m := by decide
 exact this m h
theorem rP {p q : Nat → Bool} (h : ∀ k, k < 5 → p k = q k) : sumBits p = sumBits q := by
 unfold sumBits
 rw [h 0 (by lia), h 1 (by lia), h 2 (by lia), h 3 (by lia), h 4 (by lia)]
theorem uZ {m n : Nat} (hm : m < 32) (hn : n < 32) (h : ∀ k, k < 5 → m.testBit k = n.testBit k) : m = n := by
 rw [← kT hm, ← kT hn]; exact rP h
noncomputable def cnt (m : Nat) : Nat := ((List.range 5).filter fun k => m.testBit k).length
theorem qQ {b : Int} {m : Nat} : (vm b m).length = cnt m := by unfold vm cnt; simp
section
variable {ρ : Loc} {σ aT bH : St}
theorem Kd {m k : Nat} : (m : Int) / ((2 ^ k : Nat) : Int) % 2 = if m.testBit k = true then 1 else 0 := by
 rw [Nat.testBit_eq_decide_div_mod_eq, show (m : Int) / ((2 ^ k : Nat) : Int) % 2 = ((m / 2 ^ k % 2 : Nat) : Int) from rfl]
 rcases Nat.mod_two_eq_zero_or_one (m / 2 ^ k) with h | h <;> rw [h] <;> rfl
theorem BO {f : X V} {k : Nat} (h : f ρ σ = some (.int (k : Nat), aT)) (hk : k ≤ 20) : X.bin iT (X.pure (.int 2)) f ρ σ = some (.int ((2 ^ k : Nat) : Int), aT) := by
 refine aQ rfl h ?_
 unfold iT
 dsimp only
 rw [if_pos]
 ·rfl
 ·simp [pJ]; lia
theorem KV {f g : X V} {m k : Nat} (hf : f ρ σ = some (.int (m : Nat), aT)) (hg : g ρ aT = some (.int (k : Nat), bH)) (hk : k ≤ 20) : X.bin oMod (X.bin cH f (X.bin iT (X.pure (.int 2)) g)) (X.pure (.int 2)) ρ σ = some (.int (if m.testBit k = true then 1 else 0), bH) := by
 have hp0 : (0 : Int) < ((2 ^ k : Nat) : Int) := Int.natCast_pos.mpr (Nat.pow_pos (by decide))
 have hp1 : 2 ^ k < 1073741824 := Nat.lt_of_le_of_lt (Nat.pow_le_pow_right (by decide) hk) (by decide)
 refine aQ (aQ hf (BO hg hk) (r := (.int ((m : Int) / ((2 ^ k : Nat) : Int)), bH)) ?_) rfl ?_
 ·unfold cH
  dsimp only
  rw [if_neg (fun h => h.elim (Int.ne_of_gt hp0) fun h => h hp1), Int.fdiv_eq_ediv_of_nonneg _ (Int.le_of_lt hp0)]
 ·unfold oMod
  dsimp only
  rw [if_neg (by decide), Int.fmod_eq_emod_of_nonneg _ (by decide), Kd]
theorem vY {f g : X V} {m k : Nat} (hf : f ρ σ = some (.int (m : Nat), aT)) (hg : g ρ aT = some (.int (k : Nat), bH)) (hk : k ≤ 20) : X.test (X.bin oEq (X.bin oMod (X.bin cH f (X.bin iT (X.pure (.int 2)) g)) (X.pure (.int 2))) (X.pure (.int 1))) ρ σ = some (m.testBit k, bH) := by
 refine aP (aQ (KV hf hg hk) rfl ?_)
 rw [eq_int]
 cases m.testBit k <;> rfl
theorem zI : Src (.range 0 5) σ ((List.range 5).map fun k : Nat => V.int (k : Nat)) := nZ (n := 5) (by decide)
theorem ints_of : ∀ l : List Int, intsOf (l.map V.int) = some l
 | [] => rfl
 | a :: l => by
  show (intsOf (l.map V.int)).map (a :: ·) = _
  rw [ints_of l]; rfl
theorem Fb {i : Nat} {ns : List Int} (h : getL σ i = some (ns.map .int)) (h1 : ns.length ≤ 1000) (h2 : ∀ x ∈ ns, -1000000000 ≤ x ∧ x ≤ 1000000000) : Fc (.obj i) σ = some (.int (vE ns), σ) := by
 unfold Fc
 simp only [h, ints_of, Option.bind_some]
 rw [if_pos ⟨h1, by simpa using h2⟩]
theorem Js {m : Nat} : vE ((List.range 5).map fun k : Nat => (if m.testBit k = true then 1 else 0 : Int)) = (cnt m : Nat) := by
 have key : ∀ a b c d e : Bool, vE ([a, b, c, d, e].map fun x => if x = true then (1 : Int) else 0) = (([a, b, c, d, e].filter id).length : Nat) := by decide
 have := key (m.testBit 0) (m.testBit 1) (m.testBit 2) (m.testBit 3) (m.testBit 4)
 refine Eq.trans this (congrArg Int.ofNat ?_)
 show ((List.range 5).map m.testBit |>.filter id).length = _
 rw [List.filter_map, List.length_map]; rfl
theorem As {m : Nat} : wp (fU [.int (m : Nat)] σ) fun r σ' => r = .int (cnt m : Nat) ∧ bV σ σ' := by
 refine evMap (ρ := [some (.int (m : Nat)), none]) (σ := σ) (fun ρ => ∃ x, ρ = [some (.int (m : Nat)), x]) (List.range 5) (fun k => .int (k : Nat)) (fun k => some (.int (if m.testBit k = true then 1 else 0))) ⟨none, rfl⟩ (by decide) zI (fun σ' e E g => ⟨_, _, sL (aN (aK e rfl) (Fb (ns := (List.range 5).map fun k : Nat => (if m.testBit k = true then 1 else 0 : Int)) ?_ (Nat.le_of_ble_eq_true rfl) ?_)), congrArg V.int Js, E⟩) rfl (by decide) ?_
 ·rw [g, List.map_map]; rfl
 ·intro x hx
  obtain ⟨k, _, rfl⟩ := List.mem_map.mp hx
  split <;> decide
 ·rintro k _ σ' hk ⟨x, rfl⟩ E
  exact .put rfl ⟨_, rfl⟩ rfl (KV rfl rfl (Nat.le_trans (Nat.le_of_lt (List.mem_range.mp hk)) (by decide))) rfl .refl
end
structure xU (b : Int) (m k : Nat) (rs : List (Int × Int)) : Prop where
 each : ∀ p ∈ rs, p.1 ≤ p.2 ∧ b ≤ p.1 ∧ p.2 < b + (k : Nat)
 order : rs.Pairwise fun p q => p.2 < q.1
 mem : ∀ x, x ∈ aX rs ↔ ∃ j, j < k ∧ m.testBit j = true ∧ x = b + (j : Nat)
 last : ∀ j, k = j + 1 → m.testBit j = true → ∃ p, rs.getLast? = some p ∧ p.2 = b + (j : Nat)
 len : rs.length ≤ k
theorem zY {rs : List (Int × Int)} {p : Int × Int} {x : Int} : x ∈ aX (rs ++ [p]) ↔ x ∈ aX rs ∨ (p.1 ≤ x ∧ x ≤ p.2) := by
 rw [gQ, gQ]
 constructor
 ·rintro ⟨q, hq, h⟩
  rcases List.mem_append.mp hq with hq | hq
  ·exact .inl ⟨q, hq, h⟩
  ·cases List.mem_singleton.mp hq; exact .inr h
 ·rintro (⟨q, hq, h⟩ | h)
  ·exact ⟨q, List.mem_append_left _ hq, h⟩
  ·exact ⟨p, List.mem_append_right _ (.head _), h⟩
theorem Mz (b : Int) (k : Nat) : b + (k : Nat) < b + ((k + 1 : Nat) : Int) := Int.add_lt_add_left (Int.ofNat_lt.mpr (Nat.lt_succ_self k)) b
theorem yT {rs : List (Int × Int)} {p : Int × Int} (h : rs.Pairwise fun p q => p.2 < q.1) (h' : ∀ q ∈ rs, q.2 < p.1) : (rs ++ [p]).Pairwise fun p q => p.2 < q.1 := by
 rw [List.pairwise_append]
 exact ⟨h, List.pairwise_singleton .., fun q hq r hr => by cases List.mem_singleton.mp hr; exact h' q hq⟩
theorem FY {b x : Int} {m k : Nat} (hb : m.testBit k = true) : (∃ j, j < k + 1 ∧ m.testBit j = true ∧ x = b + (j : Nat)) ↔ (∃ j, j < k ∧ m.testBit j = true ∧ x = b + (j : Nat)) ∨ x = b + (k : Nat) := by
 constructor
 ·rintro ⟨j, h1, h2, h3⟩
  rcases Nat.lt_or_eq_of_le (Nat.le_of_lt_succ h1) with h | rfl
  ·exact .inl ⟨j, h, h2, h3⟩
  ·exact .inr h3
 ·rintro (⟨j, h1, h2, h3⟩ | h)
  ·exact ⟨j, Nat.lt_succ_of_lt h1, h2, h3⟩
  ·exact ⟨k, Nat.lt_succ_self k, hb, h⟩
theorem xU.more {b : Int} {m k : Nat} {rs : List (Int × Int)} (h : xU b m k rs) (hb : m.testBit k = true) : xU b m (k + 1) (rs ++ [(b + (k : Nat), b + (k : Nat))]) := by
 refine ⟨fun p hp => ?_, yT h.order fun q hq => (h.each q hq).2.2, fun x => ?_, fun j hj hbj => ?_, ?_⟩
 ·rcases List.mem_append.mp hp with hp | hp
  ·obtain ⟨h1, h2, h3⟩ := h.each p hp
   exact ⟨h1, h2, Int.lt_trans h3 (Mz b k)⟩
  ·cases List.mem_singleton.mp hp
   exact ⟨Int.le_refl _, Int.le_add_of_nonneg_right (Int.natCast_nonneg k), Mz b k⟩
 ·rw [zY, h.mem, FY hb]
  exact or_congr_right ⟨fun h => Int.le_antisymm h.2 h.1, fun h => ⟨Int.le_of_eq h.symm, Int.le_of_eq h⟩⟩
 ·cases hj
  exact ⟨_, List.getLast?_concat, rfl⟩
 ·rw [List.length_append]; exact Nat.succ_le_succ h.len
theorem xU.skip {b : Int} {m k : Nat} {rs : List (Int × Int)} (h : xU b m k rs) (hb : m.testBit k = false) : xU b m (k + 1) rs := by
 refine ⟨fun p hp => ?_, h.order, fun x => ?_, fun j hj hbj => ?_, Nat.le_succ_of_le h.len⟩
 ·obtain ⟨h1, h2, h3⟩ := h.each p hp
  exact ⟨h1, h2, Int.lt_trans h3 (Mz b k)⟩
 ·rw [h.mem]
  constructor
  ·rintro ⟨j, h1, h2⟩; exact ⟨j, Nat.lt_succ_of_lt h1, h2⟩
  ·rintro ⟨j, h1, h2, h3⟩
   rcases Nat.lt_or_eq_of_le (Nat.le_of_lt_succ h1) with h | rfl
   ·exact ⟨j, h, h2, h3⟩
   ·rw [hb] at h2; cases h2
 ·cases hj; rw [hb] at hbj; cases hbj
theorem xU.stretch {b : Int} {m k : Nat} {rs : List (Int × Int)} {p : Int × Int} (h : xU b m (k + 1) (rs ++ [p])) (hp2 : p.2 = b + (k : Nat)) (hb : m.testBit (k + 1) = true) : xU b m (k + 2) (rs ++ [(p.1, b + ((k + 1 : Nat) : Int))]) := by
 obtain ⟨p1, p2, p3⟩ := h.each p (List.mem_append_right _ (.head _))
 have ho := h.order
 rw [List.pairwise_append] at ho
 refine ⟨fun q hq => ?_, yT ho.1 fun q hq => ho.2.2 q hq p (.head _), fun x => ?_, fun j hj hbj => ?_, ?_⟩
 ·rcases List.mem_append.mp hq with hq | hq
  ·obtain ⟨h1, h2, h3⟩ := h.each q (List.mem_append_left _ hq)
   exact ⟨h1, h2, Int.lt_trans h3 (Mz b _)⟩
  ·cases List.mem_singleton.mp hq
   exact ⟨Int.le_trans p1 (Int.le_of_lt p3), p2, Mz b _⟩
 ·rw [FY hb, ← h.mem, zY, zY, or_assoc]
  refine or_congr_right ⟨fun ⟨h1, h2⟩ => ?_, fun h => ?_⟩
  ·rcases Int.lt_or_eq_of_le h2 with h3 | h3
   ·refine .inl ⟨h1, hp2 ▸ Int.le_of_lt_add_one ?_⟩
    rw [Int.add_assoc]; exact h3
   ·exact .inr h3
  ·rcases h with ⟨h1, h2⟩ | h
   ·exact ⟨h1, Int.le_of_lt (Int.lt_of_le_of_lt h2 p3)⟩
   ·exact ⟨Int.le_trans p1 (Int.le_of_lt (Int.lt_of_lt_of_le p3 (Int.le_of_eq h.symm))), Int.le_of_eq h⟩
 ·cases hj
  exact ⟨_, List.getLast?_concat, rfl⟩
 ·have := h.len
  rw [List.length_append] at this ⊢
  exact Nat.le_succ_of_le this
theorem xU.dom {b : Int} {m : Nat} {rs : List (Int × Int)} (h : xU b m 5 rs) (h1 : -20 ≤ b) (h2 : b ≤ 20) : kE b rs m := by
 refine ⟨⟨fun p hp => ?_, h.order⟩, h.mem⟩
 obtain ⟨q1, q2, q3⟩ := h.each p hp
 exact ⟨q1, Int.le_trans (Int.le_trans (by decide) h1) q2, Int.le_of_lt (Int.lt_of_lt_of_le q3 (Int.le_trans (Int.add_le_add_right h2 _) (by decide)))⟩
inductive O1 (σ : St) (m : Nat) (b : Int) (k : Nat) (ρ : Loc) (σ' : St) : Prop
 | intro (e : ∃ x, ρ = [some (.int (m : Nat)), some (.int b), some (.obj σ.length), x]) (E : bV σ σ') (g : ∃ rs, getL σ' σ.length = some (rs.map vD) ∧ xU b m k rs)
section
variable {σ : St}
theorem It {j : Nat} {qs : List (Int × Int)} {p : Int × Int} (h : getL σ j = some ((qs ++ [p]).map vD)) : iU (.obj j) (.int (-1)) σ = some (vD p, σ) := by
 rw [lQ h, List.map_append]
 show (pick (qs.map vD ++ [vD p]) (-1)).map _ = _
 rw [By (List.append_ne_nil_of_right_ne_nil _ (List.cons_ne_nil _ _)), List.getLast_concat]; rfl
theorem Hn {j : Nat} {qs : List (Int × Int)} {p q : Int × Int} (h : getL σ j = some ((qs ++ [p]).map vD)) : mA (.obj j) (.int (-1)) (vD q) σ = some (σ.set j (.list ((qs ++ [q]).map vD))) := by
 show (σ[j]?).bind _ = _
 rw [jT h]
 dsimp only [Option.bind]
 rw [if_neg (fun h => absurd h.1 (by decide)), if_pos (by simp), List.length_map, List.length_append]
 show some (σ.set j (.list (((qs ++ [p]).map vD).set qs.length (vD q)))) = _
 rw [List.map_append, List.map_append, List.map_singleton, List.map_singleton, List.set_append_right _ _ (Nat.le_of_eq (List.length_map _)), List.length_map, Nat.sub_self]; rfl
noncomputable def I2 : XS := (XS.seq (XS.ite (X.iW (X.test (X.bin oEq (X.bin oMod (X.bin cH (X.var 0) (X.bin iT (X.pure (.int 2)) (X.var 3))) (X.pure (.int 2))) (X.pure (.int 1)))) (X.iW (X.test (X.bin oEq (X.bin oMod (X.bin cH (X.bin xK (X.var 0) (X.pure (.int 2))) (X.bin iT (X.pure (.int 2)) (X.var 3))) (X.pure (.int 2))) (X.pure (.int 1)))) X.v5)) (XS.seq (XS.assign (X.eH (X.aB (X.sub (X.sub (X.var 2) (X.neg (X.pure (.int 1)))) (X.pure (.int 0))) (X.aB (X.bin eJ (X.var 1) (X.var 3)) X.aH))) (XA.item (X.var 2) (X.neg (X.pure (.int 1))))) XS.nil) (XS.seq (XS.ite (X.test (X.bin oEq (X.bin oMod (X.bin cH (X.var 0) (X.bin iT (X.pure (.int 2)) (X.var 3))) (X.pure (.int 2))) (X.pure (.int 1)))) (XS.seq (XS.drop (X.eY eB (X.var 2) (X.aB (X.eH (X.aB (X.bin eJ (X.var 1) (X.var 3)) (X.aB (X.bin eJ (X.var 1) (X.var 3)) X.aH))) X.aH))) XS.nil) XS.nil) XS.nil)) XS.nil)
theorem JA {m k : Nat} {b : Int} {ρ : Loc} {bH : St} {Q : Fl → Loc → St → Prop} (hm : m < 32) (hk : k < 5) (I : O1 σ m b k ρ bH) : sF (XA.name 3) I2 (O1 σ m b (k + 1)) Q (.int (k : Nat)) ρ bH := by
 obtain ⟨⟨x, rfl⟩, E, rs, hl, R⟩ := I
 have hk2 : k ≤ 20 := Nat.le_trans (Nat.le_of_lt hk) (by decide)
 have lt := bE hl
 have hE : ∀ o : O, bV σ (bH.set σ.length o) := fun o => E.trans (M' := fun i => i = σ.length) (.set _ rfl) fun i h => .inr (h ▸ Nat.le_refl _)
 have b1 := vY (f := X.var 0) (g := X.var 3) (ρ := [some (.int (m : Nat)), some (.int b), some (.obj σ.length), some (.int (k : Nat))]) (σ := bH) rfl rfl hk2
 refine ⟨rfl, fun Q' hn _ => ?_⟩
 cases hb : m.testBit k with
 | false =>
  rw [hb] at b1
  exact Fx (jP b1) (cZ b1 (dG (dG (hn _ _ ⟨⟨_, rfl⟩, E, rs, hl, R.skip hb⟩))))
 | true =>
  rw [hb] at b1
  have hm2 : xK (.int (m : Nat)) (.int 2) bH = some (.int ((m * 2 : Nat) : Int), bH) := by
   unfold xK
   dsimp only
   rw [if_pos]
   ·rfl
   ·simp [pJ]; lia
  have b2 := vY (f := X.bin xK (X.var 0) (X.pure (.int 2))) (g := X.var 3) (ρ := [some (.int (m : Nat)), some (.int b), some (.obj σ.length), some (.int (k : Nat))]) (aQ rfl rfl hm2) rfl hk2
  have new : (m * 2).testBit k = false → sp I2 [some (.int (m : Nat)), some (.int b), some (.obj σ.length), some (.int (k : Nat))] bH Q' := fun h => by
   rw [h] at b2
   exact Fx (eP b1 (jP b2)) (kO b1 (jG (fD rfl (d6 hl) rfl (fG hl (IN R.len (Nat.le_trans (Nat.le_of_lt hk) (by decide))))) rfl (dG (dG (dG (hn _ _ ⟨⟨_, rfl⟩, hE _, rs ++ [(b + (k : Nat), b + (k : Nat))], by rw [c0 lt, List.map_append]; rfl, R.more hb⟩))))))
  cases k with
  | zero => exact new (by rw [Nat.testBit_zero]; exact decide_eq_false (by rw [Nat.mul_mod_left]; decide))
  | succ j =>
   have hbb : (m * 2).testBit (j + 1) = m.testBit j := by rw [Nat.testBit_succ, Nat.mul_div_cancel _ (by decide)]
   cases hj : m.testBit j with
   | false => exact new (hbb.trans hj)
   | true =>
    clear new
    rw [hbb, hj] at b2
    obtain ⟨p, hp, hp2⟩ := R.last j rfl hj
    obtain ⟨qs, rfl⟩ := List.getLast?_eq_some_iff.mp hp
    exact kO (eP b1 (eP b2 rfl)) (fQ (mO (aK (bN (bN rfl rfl (It hl)) rfl rfl) rfl) (Nat.le_of_ble_eq_true rfl)) (Gb rfl rfl (Hn (q := (p.1, b + ((j + 1 : Nat) : Int))) hl)) (dG (dG (hn _ _ ⟨⟨_, rfl⟩, hE _, _, c0 lt, R.stretch hp2 hb⟩))))
theorem Df {m : Nat} {b : Int} (hm : m < 32) (h1 : -20 ≤ b) (h2 : b ≤ 20) : wp (f6 [.int (m : Nat), .int b] σ) fun r σ' => ∃ rs, A3 (r = dv rs) (kE b rs m) (bV σ σ') := by
 refine wp_runF rfl (fQ (pZ rfl (Nat.zero_le _)) rfl (nE (List.range 5) (fun k => .int (k : Nat)) (O1 σ m b) rfl ⟨⟨_, rfl⟩, .push _, [], cE, fun _ h => (List.not_mem_nil h).elim, .nil, fun x => ⟨fun h => (List.not_mem_nil h).elim, fun ⟨j, h, _⟩ => (Nat.not_lt_zero j h).elim⟩, (fun j hj => by cases hj), Nat.le_refl _⟩ (by decide) (fun k ρ σ' _ hk => zI (σ := σ') σ' .refl k (by rw [List.length_map]; exact hk)) ?_ ?_))
 ·intro k x ρ bH hx I
  obtain ⟨hk, e⟩ := List.getElem?_eq_some_iff.mp hx
  rw [List.getElem_range] at e
  subst e
  exact JA hm hk I
 ·rintro ρ bH ⟨⟨x, rfl⟩, E, rs, hl, R⟩
  exact lK (aN rfl (pX hl (IN R.len (by decide)))) ⟨rs, rfl, R.dom h1 h2, E⟩
end
theorem Hh : ∀ m : Nat, m < 32 → vE (((List.range 5).filter fun k => m.testBit k).map fun k => ((2 ^ k : Nat) : Int)) = (m : Int) := by decide
section
variable {σ : St}
theorem Aj {α β : Type} (g : α → β) (l : List α) : l.filterMap (fun x => some (g x)) = l.map g := congrFun (List.filterMap_eq_map' ..) l
theorem Bx {a b : Int} : (rangeInts a b).length = (b - a).toNat := by unfold rangeInts; rw [List.length_map, List.length_range]
theorem JC {rs : List (Int × Int)} {b : Int} {m : Nat} (hd : kE b rs m) : (rs.flatMap fun p => (rangeInts p.1 (p.2 + 1)).filterMap fun v => some (V.int ((2 ^ (v - b).toNat : Nat) : Int))) = (((List.range 5).filter fun k => m.testBit k).map fun k => ((2 ^ k : Nat) : Int)).map .int := by
 have : (rs.flatMap fun p => (rangeInts p.1 (p.2 + 1)).filterMap fun v => some (V.int ((2 ^ (v - b).toNat : Nat) : Int))) = (aX rs).map fun v => V.int ((2 ^ (v - b).toNat : Nat) : Int) := by
  unfold aX
  rw [List.map_flatMap]
  exact congrArg (fun f => rs.flatMap f) (funext fun p => Aj ..)
 rw [this, hd.vals]
 unfold vm
 rw [List.map_map, List.map_map]
 refine List.map_congr_left fun k _ => ?_
 have e : b + (k : Nat) - b = (k : Nat) := by rw [Int.add_comm, Int.add_sub_cancel]
 exact congrArg (fun z : Int => V.int ((2 ^ z.toNat : Nat) : Int)) e
theorem DA {rs : List (Int × Int)} {b : Int} {m : Nat} (hd : kE b rs m) (hm : m < 32) (h1 : -20 ≤ b) (h2 : b ≤ 20) : wp (mG [dv rs, .int b] σ) fun r σ' => r = .int (m : Nat) ∧ bV σ σ' := by
 have hsm := hd.small
 refine IC (α := Int × Int) (β := Int) (ρ := [some (dv rs), some (.int b), none, none, none]) (σ := σ) (fun ρ => E3 fun x y z => ρ = [some (dv rs), some (.int b), x, y, z]) (fun p ρ => ∃ z, ρ = [some (dv rs), some (.int b), some (.int p.1), some (.int p.2), z]) rs vD (fun p => rangeInts p.1 (p.2 + 1)) .int (fun p v => some (.int ((2 ^ (v - b).toNat : Nat) : Int))) ⟨none, none, none, rfl⟩ (fun p ρ ⟨z, h⟩ => ⟨_, _, _, h⟩) (Nat.le_trans hsm.len (by decide)) .tup ?_
  (fun σ' e E g => ⟨_, _, sL (aN (aK e rfl) (Fb (g.trans (congrArg some (JC hd))) ?_ ?_)), congrArg V.int (Hh m hm), E⟩) rfl (Nat.lt_of_le_of_lt hsm.len (by decide)) (by decide) ?_
 ·intro p hp
  obtain ⟨a1, a2, a3⟩ := hd.good.each p hp
  obtain ⟨k1, q1, _, q2⟩ := (hd.mem p.1).mp (gQ.mpr ⟨p, hp, Int.le_refl _, a1⟩)
  obtain ⟨k2, q3, _, q4⟩ := (hd.mem p.2).mp (gQ.mpr ⟨p, hp, a1, Int.le_refl _⟩)
  rw [Bx, q2, q4]
  lia
 ·rw [List.length_map]; exact Nat.le_trans (List.length_filter_le _ _) (by decide)
 ·intro x hx
  obtain ⟨k, hk, rfl⟩ := List.mem_map.mp hx
  exact CV (P := fun k => -1000000000 ≤ ((2 ^ k : Nat) : Int) ∧ ((2 ^ k : Nat) : Int) ≤ 1000000000) (by decide) (by decide) (by decide) (by decide) (by decide) k (List.mem_range.mp (List.mem_filter.mp hk).1)
 ·rintro p _ σ' hp ⟨x, y, z, rfl⟩ E
  obtain ⟨a1, a2⟩ := hsm.lo p hp
  obtain ⟨a3, a4⟩ := hsm.hi p hp
  refine ⟨rfl, ⟨_, rfl⟩, rfl, .refl, Fs.range (Int.le_trans (by decide) a1) (Int.le_trans a2 (by decide)) (Int.le_trans (by decide) (Int.add_le_add_right a3 1)) (Int.le_trans (Int.add_le_add_right a4 1) (by decide)), ?_⟩
  rintro v _ kS hv ⟨z, rfl⟩ E4
  obtain ⟨v1, v2⟩ := mem_rangeInts.mp hv
  obtain ⟨k, hk, _, e⟩ := (hd.mem v).mp (gQ.mpr ⟨p, hp, v1, Int.le_of_lt_add_one v2⟩)
  have e : v - b = (k : Nat) := by rw [e, Int.add_comm, Int.add_sub_cancel]
  exact .put rfl ⟨_, rfl⟩ rfl (BO (aQ rfl rfl (congrArg (fun z => some (V.int z, kS)) e)) (Nat.le_trans (Nat.le_of_lt hk) (by decide))) (by rw [e]; rfl) .refl
end
structure d7 (b : Int) (doms : List (List (Int × Int))) (ms : List Nat) : Prop where
 len : doms.length = ms.length
 at_ : ∀ (x : Nat) (rs : List (Int × Int)) (m : Nat), doms[x]? = some rs → ms[x]? = some m → kE b rs m
 lt : ∀ m ∈ ms, m < 32
section
variable {σ σ' : St} {i a f t mk nw : Nat} {doms firsts : List (List (Int × Int))} {trail marks clash : List V} {failed : Bool} {b : Int} {ms : List Nat}
theorem getD_some {x : Nat} (h : x < ms.length) : ms[x]? = some (ms.getD x 0) := by rw [List.getD_eq_getElem?_getD, List.getElem?_eq_getElem h]; rfl
theorem range_getD {α : Type} (g : Nat → α) (ms : List Nat) : ((List.range ms.length).filterMap fun k => some (g (ms.getD k 0))) = ms.map g := by
 have h : (List.range ms.length).map (fun k => ms.getD k 0) = ms := by
  apply List.ext_getElem
  ·rw [List.length_map, List.length_range]
  ·intro n h1 h2
   rw [List.getElem_map, List.getElem_range, List.getD_eq_getElem?_getD, List.getElem?_eq_getElem h2]; rfl
 refine (Aj ..).trans ?_
 conv => rhs; rw [← h]
 rw [List.map_map]; rfl
theorem lD (s : SV σ i a f t mk nw doms firsts trail marks failed clash) (hm : d7 b doms ms) (hl : ms.length ≤ 100) (h1 : -20 ≤ b) (h2 : b ≤ 20) : wp (dZ [.inst 0 i, .int b] σ) fun r σ' => ∃ j, A4 (r = .obj j) (σ.length ≤ j) (getL σ' j = some (aJ ms)) (bV σ σ') := by
 have hdl := hm.len
 have hd1 : doms.length ≤ 1000 := hdl ▸ Nat.le_trans hl (by decide)
 have hn : (List.range ms.length).length = ms.length := List.length_range
 refine evMap (ρ := [some (.inst 0 i), some (.int b), none]) (σ := σ) (fun ρ => ∃ x, ρ = [some (.inst 0 i), some (.int b), x]) (List.range ms.length) (fun k => .int (k : Nat)) (fun k => some (.int (ms.getD k 0 : Nat))) ⟨none, rfl⟩ (Nat.le_trans (Nat.le_of_eq hn) (Nat.le_trans hl (by decide))) (nZ (Nat.le_trans hl (by decide)))
  (fun σ' e E g => ⟨_, _, sL e, _, rfl, Nat.le_refl _, g.trans (congrArg some (range_getD (fun x => V.int (x : Nat)) ms)), E⟩) (aN (aK (c9 rfl (s.inst rfl) rfl (Jv s hd1)) rfl) (by rw [hdl]; rfl)) (Nat.lt_of_le_of_lt (Nat.le_of_eq hn) (Nat.lt_of_le_of_lt hl (by decide))) ?_
 rintro k _ σ' hk ⟨x, rfl⟩ E
 rw [List.mem_range] at hk
 have s' := s.dY E
 have hkd := hdl ▸ hk
 obtain ⟨_, bH, e2, rfl, rfl⟩ := DU s' hkd hd1
 have hmk := getD_some hk
 obtain ⟨_, dQ, e3, rfl, E3⟩ := DA (σ := bH) (hm.at_ k _ _ (List.getElem?_eq_getElem hkd) hmk) (hm.lt _ (List.mem_of_getElem? hmk)) h1 h2
 exact .put rfl ⟨_, rfl⟩ rfl (aN (aK (c9 rfl (s'.inst (k := 36) rfl) rfl e2) rfl) e3) rfl E3
end
noncomputable def pB (sg : Nat) (v k : Int) : Bool := if sg = 9 then decide (v ≤ k) else if sg = 8 then decide (k ≤ v) else decide (v ≠ k)
noncomputable def dF (b : Int) (m sg : Nat) (k : Int) : Nat := sumBits fun j => m.testBit j && pB sg (b + (j : Nat)) k
noncomputable def upTo (k : Nat) (q : Nat → Bool) : Nat := sumBits fun j => decide (j < k) && q j
theorem Bq (q : Nat → Bool) {k : Nat} (hk : k < 5) : upTo (k + 1) q = upTo k q + (if q k = true then 2 ^ k else 0) := by
 have key : ∀ a b c d e : Bool, ∀ k, k < 5 → upTo (k + 1) (fun j => [a, b, c, d, e].getD j false) = upTo k (fun j => [a, b, c, d, e].getD j false) + (if [a, b, c, d, e].getD k false = true then 2 ^ k else 0) := by decide +kernel
 have e : ∀ j, j < 5 → [q 0, q 1, q 2, q 3, q 4].getD j false = q j := CV rfl rfl rfl rfl rfl
 have c : ∀ n, upTo n (fun j => [q 0, q 1, q 2, q 3, q 4].getD j false) = upTo n q := fun n => rP fun j hj => congrArg _ (e j hj)
 have := key (q 0) (q 1) (q 2) (q 3) (q 4) k hk
 rw [c, c, e k hk] at this
 exact this
theorem qU {b : Int} {m sg : Nat} {k : Int} {j : Nat} (hj : j < 5) : (dF b m sg k).testBit j = (m.testBit j && pB sg (b + (j : Nat)) k) := mI _ hj
theorem tT {b : Int} {m sg : Nat} {k : Int} : dF b m sg k < 32 := yN _
section
variable {ρ : Loc} {σ aT bH dQ : St}
theorem FZ {f : X (List (V × V))} {vs : List (V × V)} {l : List (Nat × V)} (h : f ρ σ = some (vs, aT)) (hl : strKeys vs = some l) : X.wU f ρ σ = some (.obj aT.length, aT ++ [.aV (p8 l)]) := by
 unfold X.wU X.bind; simp only [h, X.lift, hl]; rfl
theorem oK {f g : X V} {h : X (List (V × V))} {a b : V} {l : List (V × V)} (h1 : f ρ σ = some (a, aT)) (h2 : g ρ aT = some (b, bH)) (h3 : h ρ bH = some (l, dQ)) : X.lM f g h ρ σ = some ((a, b) :: l, dQ) := by
 unfold X.lM X.bind; simp only [h1, h2, h3]; rfl
theorem zN {a b : Int} : iF (.int a) (.int b) σ = some (.bool (decide (a ≠ b)), σ) := by
 have := eq_int (σ := σ) (a := a) (b := b)
 unfold oEq at this
 obtain ⟨r, hr, e⟩ := Option.map_eq_some_iff.mp this
 cases e
 unfold iF oNe
 rw [hr]
 exact congrArg (fun b => some (V.bool b, σ)) (decide_not ..).symm
theorem Og {a b : Int} (h : a ≠ b) : iF (.int a) (.int b) σ = some (.bool true, σ) := by rw [zN, decide_eq_true h]
theorem MW {a b : Int} (h : a = b) : iF (.int a) (.int b) σ = some (.bool false, σ) := by rw [zN, decide_eq_false (fun z => z h)]
inductive Je (σ : St) (m sg : Nat) (x kk b : Int) (k : Nat) (ρ : Loc) (σ' : St) : Prop
 | intro (e : E4 fun a1 a2 a3 a4 => ρ = [some (.int (m : Nat)), some (.tup [.int x, .str sg, .int kk]), some (.int b), some (.int (upTo k (fun j => m.testBit j && pB sg (b + (j : Nat)) kk) : Nat)), a1, a2, a3, a4]) (E : bV σ σ')
noncomputable def I3 : XS := (XS.seq (XS.assign (X.eH (X.aB (X.bin eJ (X.var 2) (X.var 4)) (X.aB (X.sub (X.var 1) (X.pure (.int 2))) X.aH))) (XA.swap [(5, 5), (6, 73)])) (XS.seq (XS.assign (X.sub (X.wU (X.lM (X.pure (.str 9)) (X.bin oLe (X.var 5) (X.var 6)) (X.lM (X.pure (.str 8)) (X.bin oGe (X.var 5) (X.var 6)) (X.lM (X.pure (.str 7)) (X.bin oEq (X.var 5) (X.var 6)) (X.lM (X.pure (.str 51)) (X.bin iF (X.var 5) (X.var 6)) X.Hx))))) (X.sub (X.var 1) (X.pure (.int 1)))) (XA.name 7)) (XS.seq (XS.ite (X.iW (X.test (X.var 7)) (X.iW (X.test (X.bin oEq (X.bin oMod (X.bin cH (X.var 0) (X.bin iT (X.pure (.int 2)) (X.var 4))) (X.pure (.int 2))) (X.pure (.int 1)))) X.v5)) (XS.seq (XS.assign (X.bin eJ (X.var 3) (X.bin iT (X.pure (.int 2)) (X.var 4))) (XA.name 3)) XS.nil) XS.nil) XS.nil)))
theorem signs_get {sg : Nat} {y kk : Int} (hs : sg = 9 ∨ sg = 8 ∨ sg = 51) : iU (.obj σ.length) (.str sg) (σ ++ [.aV (p8 [(9, .bool (decide (y ≤ kk))), (8, .bool (decide (kk ≤ y))), (7, .bool (decide (y = kk))), (51, .bool (decide (y ≠ kk)))])]) = some (.bool (pB sg y kk), σ ++ [.aV (p8 [(9, .bool (decide (y ≤ kk))), (8, .bool (decide (kk ≤ y))), (7, .bool (decide (y = kk))), (51, .bool (decide (y ≠ kk)))])]) := by
 rw [HC Ai]
 rcases hs with rfl | rfl | rfl <;> rfl
theorem GG {m sg k : Nat} {x kk b : Int} {ρ : Loc} {Q : Fl → Loc → St → Prop} (hs : sg = 9 ∨ sg = 8 ∨ sg = 51) (hk : k < 5) (I : Je σ m sg x kk b k ρ bH) : sF (XA.name 4) I3 (Je σ m sg x kk b (k + 1)) Q (.int (k : Nat)) ρ bH := by
 obtain ⟨⟨a1, a2, a3, a4, rfl⟩, E⟩ := I
 have hk2 : k ≤ 20 := Nat.le_trans (Nat.le_of_lt hk) (by decide)
 refine ⟨rfl, fun Q' hn _ => fQ rfl rfl (fQ (bN (FZ (oK rfl rfl (oK rfl rfl (oK rfl (aQ rfl rfl eq_int) (oK rfl (aQ rfl rfl zN) rfl)))) rfl) rfl (signs_get hs)) rfl ?_)⟩
 have up := Bq (fun j => m.testBit j && pB sg (b + (j : Nat)) kk) hk
 generalize hu1 : upTo (k + 1) (fun j => m.testBit j && pB sg (b + (j : Nat)) kk) = u1 at up
 have hn' : ∀ a2 a3 a4 σ', bV σ σ' → Q' .next [some (.int (m : Nat)), some (.tup [.int x, .str sg, .int kk]), some (.int b), some (.int (u1 : Nat)), some (.int (k : Nat)), a2, a3, a4] σ' := fun a2 a3 a4 σ' E' => hn _ _ ⟨⟨_, _, _, _, by rw [hu1]⟩, E'⟩
 clear hn
 have b1 := fun u a2 a3 a4 => vY (f := X.var 0) (g := X.var 4) (ρ := [some (.int (m : Nat)), some (.tup [.int x, .str sg, .int kk]), some (.int b), u, some (.int (k : Nat)), a2, a3, a4]) (σ := bH ++ [.aV (p8 [(9, .bool (decide (b + (k : Nat) ≤ kk))), (8, .bool (decide (kk ≤ b + (k : Nat)))), (7, .bool (decide (b + (k : Nat) = kk))), (51, .bool (decide (b + (k : Nat) ≠ kk)))])]) rfl rfl hk2
 cases hl : pB sg (b + (k : Nat)) kk with
 | false =>
  rw [hl, Bool.and_false] at up
  subst up
  exact cZ (jP (aP rfl)) (dG (hn' _ _ _ _ (E.then (.push _))))
 | true =>
  cases hb : m.testBit k with
  | false =>
   rw [hb] at up b1
   subst up
   exact cZ (eP (aP rfl) (jP (b1 ..))) (dG (hn' _ _ _ _ (E.then (.push _))))
  | true =>
   rw [hb, hl] at up
   rw [hb] at b1
   subst up
   exact kO (eP (aP rfl) (eP (b1 ..) rfl)) (fQ (aQ rfl (BO rfl hk2) rfl) rfl (dG (dG (hn' _ _ _ _ (E.then (.push _))))))
theorem qT {m sg : Nat} {x kk b : Int} (hs : sg = 9 ∨ sg = 8 ∨ sg = 51) : wp (fS [.int (m : Nat), .tup [.int x, .str sg, .int kk], .int b] σ) fun r σ' => r = .int (dF b m sg kk : Nat) ∧ bV σ σ' := by
 refine wp_runF rfl (fQ rfl rfl (nE (List.range 5) (fun k => .int (k : Nat)) (Je σ m sg x kk b) rfl ⟨⟨_, _, _, _, rfl⟩, .refl⟩ (by decide) (fun k ρ σ' _ hk => zI (σ := σ') σ' .refl k (by rw [List.length_map]; exact hk)) ?_ ?_))
 ·intro k x ρ bH hx I
  obtain ⟨hk, e⟩ := List.getElem?_eq_some_iff.mp hx
  rw [List.getElem_range] at e
  subst e
  exact GG hs hk I
 ·rintro ρ bH ⟨⟨a1, a2, a3, a4, rfl⟩, E⟩
  exact lK rfl ⟨rfl, E⟩
end
noncomputable def idx (n s : Nat) : List Nat := (List.range n).filter fun k => s.testBit k
noncomputable def orM (X ms : List Nat) (ks : List Nat) : Nat := ks.foldl (fun acc k => acc ||| ms.getD (X.getD k 0) 0) 0
noncomputable def dS (X ms : List Nat) : Bool := decide X.Nodup && (List.range (2 ^ X.length)).all fun s => decide ((idx X.length s).length ≤ cnt (orM X ms (idx X.length s)))
noncomputable def B5 (b : Int) (X ms : List Nat) : Prop := ∀ (S : List Nat) (T : List Int), S.Nodup → (∀ x ∈ S, x ∈ X) → (∀ x ∈ S, ∀ u ∈ vm b (ms.getD x 0), u ∈ T) → S.length ≤ T.length
theorem Fz {X ms : List Nat} {j : Nat} : ∀ ks : List Nat, (orM X ms ks).testBit j = true ↔ ∃ k ∈ ks, (ms.getD (X.getD k 0) 0).testBit j = true := by
 have key : ∀ (ks : List Nat) (a : Nat), (ks.foldl (fun acc k => acc ||| ms.getD (X.getD k 0) 0) a).testBit j = true ↔ a.testBit j = true ∨ ∃ k ∈ ks, (ms.getD (X.getD k 0) 0).testBit j = true := by
  intro ks
  induction ks with
  | nil => intro a; simp
  | cons k ks ih =>
   intro a
   rw [List.foldl_cons, ih, Nat.testBit_or, Bool.or_eq_true]
   simp only [List.mem_cons, exists_eq_or_imp, or_assoc]
 intro ks
 unfold orM
 rw [key]; simp
theorem CY (b : Int) (m : Nat) : (vm b m).Nodup := (Bp b m).imp fun h => by lia
theorem wR (P : Nat → Bool) : ∀ n, ∃ s, s < 2 ^ n ∧ ∀ k, k < n → s.testBit k = P k
 | 0 => ⟨0, by simp, fun k h => by lia⟩
 | n + 1 => by
  obtain ⟨s, h1, h2⟩ := wR P n
  cases hP : P n with
  | false =>
   refine ⟨s, by rw [Nat.pow_succ]; lia, fun k hk => ?_⟩
   by_cases hkn : k = n
   ·subst hkn; rw [hP]; exact Nat.testBit_lt_two_pow h1
   ·exact h2 k (by lia)
  | true =>
   refine ⟨2 ^ n + s, by rw [Nat.pow_succ]; lia, fun k hk => ?_⟩
   by_cases hkn : k = n
   ·subst hkn
    rw [Nat.testBit_two_pow_add_eq, Nat.testBit_lt_two_pow h1, hP]; rfl
   ·rw [Nat.testBit_two_pow_add_gt (by lia), h2 k (by lia)]
theorem nG {α : Type} {l : List α} (hn : l.Nodup) {i j : Nat} (hi : i < l.length) (hj : j < l.length) (e : l[i] = l[j]) : i = j := by
 rcases Nat.lt_trichotomy i j with h | h | h
 ·exact absurd e (List.pairwise_iff_getElem.mp hn i j hi hj h)
 ·exact h
 ·exact absurd e.symm (List.pairwise_iff_getElem.mp hn j i hj hi h)
theorem jQ (b : Int) {X ms : List Nat} : dS X ms = true ↔ X.Nodup ∧ B5 b X ms := by
 unfold dS
 rw [Bool.and_eq_true, decide_eq_true_iff, List.all_eq_true]
 refine and_congr_right fun hn => ?_
 constructor
 ·intro h S T hS hX hT
  obtain ⟨s, h1, h2⟩ := wR (fun k => decide (X.getD k 0 ∈ S)) X.length
  have hs := h s (List.mem_range.mpr h1)
  rw [decide_eq_true_iff] at hs
  refine Nat.le_trans ?_ (Nat.le_trans hs ?_)
  ·have := cR (l := S) (m := (idx X.length s).map fun k => X.getD k 0) hS fun x hx => by
    obtain ⟨k, hk⟩ := List.getElem?_of_mem (hX x hx)
    have hlt := (List.getElem?_eq_some_iff.mp hk).1
    have hg : X.getD k 0 = x := by simp [hk]
    refine List.mem_map.mpr ⟨k, List.mem_filter.mpr ⟨List.mem_range.mpr hlt, ?_⟩, hg⟩
    rw [h2 k hlt, hg]; simpa using hx
   simpa using this
  ·rw [← qQ (b := b)]
   refine cR (CY _ _) fun u hu => ?_
   obtain ⟨j, hj, hb, rfl⟩ := eW.mp hu
   obtain ⟨k, hk, hbk⟩ := (Fz _).mp hb
   have hk' := List.mem_filter.mp hk
   have hlt := List.mem_range.mp hk'.1
   have := hk'.2
   rw [h2 k hlt, decide_eq_true_iff] at this
   exact hT _ this _ (eW.mpr ⟨j, hj, hbk, rfl⟩)
 ·intro h s _
  rw [decide_eq_true_iff]
  have hnd : ((idx X.length s).map fun k => X.getD k 0).Nodup := by
   have h1 : (idx X.length s).Nodup := List.nodup_range.sublist List.filter_sublist
   have h2 : ∀ k ∈ idx X.length s, k < X.length := fun k hk => List.mem_range.mp (List.mem_filter.mp hk).1
   unfold List.Nodup
   rw [List.pairwise_map]
   refine List.Pairwise.imp_of_mem (fun {p q} hp hq hne e => ?_) h1
   have l1 := h2 p hp
   have l2 := h2 q hq
   simp only [List.getD_eq_getElem?_getD, List.getElem?_eq_getElem l1, List.getElem?_eq_getElem l2, Option.getD_some] at e
   exact hne (nG hn l1 l2 e)
  have := h ((idx X.length s).map fun k => X.getD k 0) (vm b (orM X ms (idx X.length s))) hnd (fun x hx => ?_) (fun x hx u hu => ?_)
  ·rw [List.length_map, qQ] at this; exact this
  ·obtain ⟨k, hk, rfl⟩ := List.mem_map.mp hx
   have l1 := List.mem_range.mp (List.mem_filter.mp hk).1
   simp [l1]
  ·obtain ⟨k, hk, rfl⟩ := List.mem_map.mp hx
   obtain ⟨j, hj, hb, rfl⟩ := eW.mp hu
   exact eW.mpr ⟨j, hj, (Fz _).mpr ⟨k, hk, hb⟩, rfl⟩
theorem B5.congr {b : Int} {X ms qZ : List Nat} (h : B5 b X ms) (hm : ∀ x ∈ X, ∀ k, k < 5 → (qZ.getD x 0).testBit k = (ms.getD x 0).testBit k) : B5 b X qZ := by
 intro S T hS hX hT
 refine h S T hS hX fun x hx u hu => ?_
 obtain ⟨j, hj, hb, rfl⟩ := eW.mp hu
 exact hT x hx _ (eW.mpr ⟨j, hj, by rw [hm x (hX x hx) j hj]; exact hb, rfl⟩)
noncomputable def Seq (v : V) (σ : St) (l : List V) : Prop := v = .tup l ∨ ∃ j, v = .obj j ∧ getL σ j = some l
section
variable {σ σ' : St} {v : V} {l : List V}
theorem Seq.tup : Seq (.tup l) σ l := .inl rfl
theorem Seq.list {j : Nat} (h : getL σ j = some l) : Seq (.obj j) σ l := .inr ⟨j, rfl, h⟩
theorem Seq.ext (h : Seq v σ l) (e : bV σ σ') : Seq v σ' l := by
 rcases h with h | ⟨j, h, hl⟩
 ·exact .inl h
 ·exact .inr ⟨j, h, e.getL hl fun z => z⟩
theorem Seq.len (h : Seq v σ l) (hl : l.length ≤ 1000) : gJ v σ = some (.int l.length, σ) := by
 rcases h with rfl | ⟨j, rfl, h⟩
 ·exact vU (by lia)
 ·exact jO h (by lia)
theorem Seq.enum (h : Seq v σ l) (k : Nat) : oL v σ k = some ((l.mapIdx fun k x => V.tup [.int (k : Nat), x])[k]?) := by
 rw [List.getElem?_mapIdx]
 rcases h with rfl | ⟨j, rfl, h⟩
 ·rfl
 ·unfold oL; simp [h]
theorem HD (ns : List Int) : (Lm ns).Nodup ∧ ∀ x, x ∈ Lm ns ↔ x ∈ ns := by
 have key : ∀ (ns acc : List Int), acc.Nodup → (ns.foldl PyProof.Rows.step_dedup acc).Nodup ∧ ∀ x, x ∈ ns.foldl PyProof.Rows.step_dedup acc ↔ x ∈ acc ∨ x ∈ ns := by
  intro ns
  induction ns with
  | nil => intro acc h; exact ⟨h, fun x => by simp⟩
  | cons a ns ih =>
   intro acc h
   rw [List.foldl_cons]
   by_cases ha : a ∈ acc
   ·have e : PyProof.Rows.step_dedup acc a = acc := by
     unfold PyProof.Rows.step_dedup
     rw [if_pos (List.any_eq_true.mpr ⟨a, ha, by simp⟩)]
    rw [e]
    obtain ⟨h1, h2⟩ := ih acc h
    refine ⟨h1, fun x => ?_⟩
    rw [h2, List.mem_cons]
    constructor
    ·rintro (h | h)
     ·exact .inl h
     ·exact .inr (.inr h)
    ·rintro (h | rfl | h)
     ·exact .inl h
     ·exact .inl ha
     ·exact .inr h
   ·have e : PyProof.Rows.step_dedup acc a = acc ++ [a] := by
     unfold PyProof.Rows.step_dedup
     rw [if_neg]
     rw [List.any_eq_true]
     rintro ⟨y, hy, hya⟩
     have : y = a := by simpa using hya
     exact ha (this ▸ hy)
    rw [e]
    obtain ⟨h1, h2⟩ := ih (acc ++ [a]) (by
     rw [List.nodup_append]
     exact ⟨h, by simp, fun x hx y hy => by simp at hy; subst hy; rintro rfl; exact ha hx⟩)
    refine ⟨h1, fun x => ?_⟩
    rw [h2, List.mem_append, List.mem_singleton, List.mem_cons, or_assoc]
 have := key ns [] .nil
 refine ⟨this.1, fun x => ?_⟩
 have h2 := this.2 x
 simpa [Lm] using h2
theorem Seq.sO {xs : List Nat} (h : Seq v σ (aJ xs)) (hl : xs.length ≤ 30) : ∃ n : Nat, oJ v σ = some (.int (n : Nat), σ) ∧ (n < xs.length ↔ ¬ xs.Nodup) := by
 have h1 : ∀ l : List Nat, intsOf (aJ l) = some (l.map fun x : Nat => (x : Int)) := by
  intro l; unfold aJ; induction l with
  | nil => rfl
  | cons a l ih => simp [intsOf, ih]
 have h2 : itemsOf v σ = some (aJ xs) := by
  rcases h with rfl | ⟨j, rfl, h⟩
  ·rfl
  ·exact h
 refine ⟨(Lm (xs.map fun x : Nat => (x : Int))).length, ?_, ?_⟩
 ·unfold oJ
  simp only [h2, h1, Option.bind_some]
  rw [if_pos (by simpa using hl)]
 ·obtain ⟨g1, g2⟩ := HD (xs.map fun x : Nat => (x : Int))
  have g3 := rV g1 g2
  rw [zR, List.length_map] at g3
  have g4 := cR g1 fun x hx => (g2 x).mp hx
  rw [List.length_map] at g4
  rw [← g3]; lia
theorem Fn (a b : Nat) : Builtin.bitAnd (a : Int) (b : Int) = ((a &&& b : Nat) : Int) := by
 unfold Builtin.bitAnd
 have h1 : decide (0 ≤ (a : Int)) = true := by simp
 have h2 : decide (0 ≤ (b : Int)) = true := by simp
 rw [h1, h2]; rfl
theorem G3 (a b : Nat) : Builtin.bitOr (a : Int) (b : Int) = ((a ||| b : Nat) : Int) := by
 unfold Builtin.bitOr
 have h1 : decide (0 ≤ Builtin.bitNot (a : Int)) = false := by simp [Builtin.bitNot]; lia
 have h2 : decide (0 ≤ Builtin.bitNot (b : Int)) = false := by simp [Builtin.bitNot]; lia
 have n : ∀ a : Int, Builtin.bitNot (Builtin.bitNot a) = a := fun a => by unfold Builtin.bitNot; lia
 unfold Builtin.bitAnd
 rw [h1, h2]
 dsimp only
 rw [n, n, n]; rfl
theorem GF {l : List Nat} {x : Nat} (h : x < l.length) (h1 : x < 1000000) : pick (aJ l) (x : Int) = some (.int (l.getD x 0 : Nat)) := by
 rw [iD (by unfold aJ; simpa using h) h1]
 simp [aJ, h]
end
theorem Ie (n s : Nat) : idx (n + 1) s = idx n s ++ if s.testBit n = true then [n] else [] := by
 unfold idx
 rw [List.range_succ, List.filter_append]
 congr 1
 simp [List.filter_cons]
theorem HA (W ms ks : List Nat) (k : Nat) : orM W ms (ks ++ [k]) = orM W ms ks ||| ms.getD (W.getD k 0) 0 := by
 unfold orM; rw [List.foldl_append]; rfl
theorem Id (n : Nat) : idx n 0 = [] := by
 unfold idx; simp
inductive Mk (pv : V) (lj : Nat) (W ms : List Nat) (σ : St) (k : Nat) (ρ : Loc) (σ' : St) : Prop
 | intro (e : E5 fun a2 a3 a4 a5 a6 => ρ = [some pv, some (.obj lj), a2, a3, a4, a5, a6]) (E : bV σ σ') (all : ∀ s, s < k + 1 → (idx W.length s).length ≤ cnt (orM W ms (idx W.length s)))
structure OW (pv : V) (lj : Nat) (W ms : List Nat) (s : Nat) (σ : St) (k : Nat) (ρ : Loc) (σ' : St) : Prop where
 e : E2 fun a5 a6 => ρ = [some pv, some (.obj lj), some (.int (s : Nat)), some (.int (orM W ms (idx k s) : Nat)), some (.int ((idx k s).length : Nat)), a5, a6]
 E : bV σ σ'
section
variable {σ : St} {Q : Fl → Loc → St → Prop} {pv : V} {lj : Nat} {W ms : List Nat}
noncomputable def F4 : XS := (XS.seq (XS.ite (X.test (X.bin oEq (X.bin oMod (X.bin cH (X.var 2) (X.bin iT (X.pure (.int 2)) (X.var 5))) (X.pure (.int 2))) (X.pure (.int 1)))) (XS.seq (XS.assign (X.eH (X.aB (X.bin Oc (X.var 3) (X.sub (X.var 1) (X.var 6))) (X.aB (X.bin eJ (X.var 4) (X.pure (.int 1))) X.aH))) (XA.swap [(3, 75), (4, 62)])) XS.nil) XS.nil) XS.nil)
theorem gR {j x : Nat} {l : List Nat} (h : getL σ j = some (aJ l)) (hx : x < l.length) (h1 : l.length ≤ 1000) : iU (.obj j) (.int (x : Nat)) σ = some (.int (l.getD x 0 : Nat), σ) := by
 rw [lQ h, GF hx (Nat.lt_of_lt_of_le hx (Nat.le_trans h1 (by decide)))]; rfl
theorem Gr {g : XS} (hp : Seq pv σ (aJ W)) (hl : getL σ lj = some (aJ ms)) (hX : ∀ x ∈ W, x < ms.length) (hXl : W.length ≤ 6) (hml : ms.length ≤ 100) (s : Nat) (a5 a6 : Option V)
  (hQ : ∀ σ' a5 a6, bV σ σ' → sp g [some pv, some (.obj lj), some (.int (s : Nat)), some (.int (orM W ms (idx W.length s) : Nat)), some (.int ((idx W.length s).length : Nat)), a5, a6] σ' Q) :
  sp (XS.seq (XS.jU (X.var 0) (XA.tup [XA.name 5, XA.name 6]) F4 1000) g) [some pv, some (.obj lj), some (.int (s : Nat)), some (.int 0), some (.int 0), a5, a6] σ Q := by
 have hil : (aJ W).length = W.length := List.length_map _
 refine Hr (aJ W) (OW pv lj W ms s σ) rfl ⟨⟨_, _, rfl⟩, .refl⟩ (hil ▸ Nat.lt_of_le_of_lt hXl (by decide)) (fun k ρ σ' I => (hp.ext I.E).enum k) ?_ ?_
 ·rintro k w ρ bH hw ⟨⟨a5, a6, rfl⟩, E⟩
  unfold aJ at hw
  rw [List.getElem?_map] at hw
  obtain ⟨x, hx, rfl⟩ := Option.map_eq_some_iff.mp hw
  have hk := (List.getElem?_eq_some_iff.mp hx).1
  have hg : W.getD k 0 = x := by rw [List.getD_eq_getElem?_getD, hx]; rfl
  have b := vY (f := X.var 2) (g := X.var 5) (ρ := [some pv, some (.obj lj), some (.int (s : Nat)), some (.int (orM W ms (idx k s) : Nat)), some (.int ((idx k s).length : Nat)), some (.int (k : Nat)), some (.int (x : Nat))]) (σ := bH) rfl rfl (Nat.le_trans (Nat.le_of_lt hk) (Nat.le_trans hXl (by decide)))
  refine ⟨rfl, fun Q' hn _ => ?_⟩
  have hi := Ie k s
  cases hb : s.testBit k with
  | false =>
   rw [hb] at b hi
   rw [if_neg (by decide), List.append_nil] at hi
   exact cZ b (dG (hn _ _ ⟨⟨some (.int (k : Nat)), some (.int (x : Nat)), by rw [hi]; rfl⟩, E⟩))
  | true =>
   rw [hb] at b hi
   rw [if_pos rfl] at hi
   refine kO b (fQ (mO (aK (aQ rfl (bN rfl rfl (gR (E.getL hl id) (hX x (List.mem_of_getElem? hx)) (Nat.le_trans hml (by decide)))) (congrArg (fun z => some (V.int z, bH)) (G3 ..))) (aK rfl rfl)) (Nat.le_of_ble_eq_true rfl)) rfl (dG (dG (hn _ _ ⟨⟨some (.int (k : Nat)), some (.int (x : Nat)), ?_⟩, E⟩))))
   rw [hi, HA, hg, List.length_append]; rfl
 ·rintro ρ bH ⟨⟨a5, a6, rfl⟩, E⟩
  exact hil ▸ hQ bH a5 a6 E
theorem gO {n : Nat} (h0 : 0 < n) (h : n ≤ 1000000) : Src (.range 1 (n : Nat)) σ ((List.range (n - 1)).map fun k => .int ((k + 1 : Nat) : Int)) := by
 have := Src.range (σ := σ) (a := 1) (b := (n : Nat)) (by decide) (by decide) (Int.le_trans (by decide) (Int.natCast_nonneg n)) (Int.ofNat_le.mpr h)
 unfold rangeInts at this
 rw [List.map_map, show ((n : Int) - 1).toNat = n - 1 from Int.toNat_sub n 1] at this
 rw [show (fun k : Nat => V.int ((k + 1 : Nat) : Int)) = V.int ∘ fun i : Nat => (1 : Int) + i from funext fun k => congrArg V.int (show ((k + 1 : Nat) : Int) = 1 + (k : Int) from Int.add_comm (k : Int) 1)]
 exact this
noncomputable def I0 : XS := (XS.seq (XS.assign (X.eH (X.aB (X.pure (.int 0)) (X.aB (X.pure (.int 0)) X.aH))) (XA.tup [XA.name 3, XA.name 4])) (XS.seq (XS.jU (X.var 0) (XA.tup [XA.name 5, XA.name 6]) F4 1000) (XS.seq (XS.ite (X.test (X.bin oLt (X.call fU (X.aB (X.var 3) X.aH)) (X.var 4))) (XS.seq (XS.ret (X.pure (.bool false))) XS.nil) XS.nil) XS.nil)))
theorem Hm {k : Nat} {ρ : Loc} {bH : St} (hp : Seq pv σ (aJ W)) (hl : getL σ lj = some (aJ ms)) (hX : ∀ x ∈ W, x < ms.length) (hXl : W.length ≤ 6) (hml : ms.length ≤ 100) (hk : k + 1 < 2 ^ W.length) (hR : dS W ms = false → ∀ ρ σ', bV σ σ' → Q (.ret (.bool false)) ρ σ')
  (I : Mk pv lj W ms σ k ρ bH) : sF (XA.name 2) I0 (Mk pv lj W ms σ (k + 1)) Q (.int ((k + 1 : Nat) : Int)) ρ bH := by
 obtain ⟨⟨a2, a3, a4, a5, a6, rfl⟩, E, hall⟩ := I
 refine ⟨rfl, fun Q' hn hr => fQ rfl rfl (Gr (hp.ext E) (E.getL hl id) hX hXl hml (k + 1) a5 a6 fun dQ b5 b6 E3 => ?_)⟩
 obtain ⟨_, kS, e4, rfl, E4⟩ := As (σ := dQ) (m := orM W ms (idx W.length (k + 1)))
 have E34 := (E.then E3).then E4
 by_cases hc : cnt (orM W ms (idx W.length (k + 1))) < (idx W.length (k + 1)).length
 ·refine zC (aP (aQ (aN rfl e4) rfl (Oj (Int.ofNat_lt.mpr hc)))) rfl (hr _ _ _ (hR ?_ _ _ E34))
  unfold dS
  rw [Bool.and_eq_false_iff, List.all_eq_false]
  exact .inr ⟨k + 1, List.mem_range.mpr hk, fun h => Nat.lt_irrefl _ (Nat.lt_of_lt_of_le hc (of_decide_eq_true h))⟩
 ·refine cZ (aP (aQ (aN rfl e4) rfl (ltF fun h => hc (Int.ofNat_lt.mp h)))) (dG (hn _ _ ⟨⟨_, _, _, _, _, rfl⟩, E34, fun s hs => ?_⟩))
  rcases Nat.lt_or_eq_of_le (Nat.le_of_lt_succ hs) with h | rfl
  ·exact hall s h
  ·exact Nat.le_of_not_lt hc
theorem oN (hp : Seq pv σ (aJ W)) (hl : getL σ lj = some (aJ ms)) (hX : ∀ x ∈ W, x < ms.length) (hXl : W.length ≤ 6) (hml : ms.length ≤ 100) :
  wp (fM [pv, .obj lj] σ) fun r σ' => r = .bool (dS W ms) ∧ bV σ σ' := by
 have hil : (aJ W).length = W.length := List.length_map _
 obtain ⟨n, hn1, hn2⟩ := hp.sO (Nat.le_trans hXl (by decide))
 have hlen := hp.len (Nat.le_trans (Nat.le_of_eq hil) (Nat.le_trans hXl (by decide)))
 rw [hil] at hlen
 refine wp_runF rfl ?_
 by_cases hnd : W.Nodup
 case neg =>
  refine zC (aP (aQ (DT rfl hn1) (aN rfl hlen) (Oj (Int.ofNat_lt.mpr (hn2.mpr hnd))))) rfl ⟨?_, .refl⟩
  unfold dS
  rw [decide_eq_false hnd]; rfl
 have hpow : 2 ^ W.length ≤ 64 := Nat.pow_le_pow_right (n := 2) (j := 6) (by decide) hXl
 have KN : 0 < 2 ^ W.length := Nat.pow_pos (by decide)
 have hrl : (List.range (2 ^ W.length - 1)).length = 2 ^ W.length - 1 := List.length_range
 refine cZ (aP (aQ (DT rfl hn1) (aN rfl hlen) (ltF fun h => hn2.mp (Int.ofNat_lt.mp h) hnd))) (nE (List.range (2 ^ W.length - 1)) (fun k => .int ((k + 1 : Nat) : Int)) (Mk pv lj W ms σ) (aN (aK rfl (aK (BO (aN rfl hlen) (Nat.le_trans hXl (by decide))) rfl)) rfl) ⟨⟨_, _, _, _, _, rfl⟩, .refl, fun s hs => ?_⟩
  (Nat.lt_of_le_of_lt (Nat.le_of_eq hrl) (Nat.lt_of_le_of_lt (Nat.le_trans (Nat.sub_le _ _) hpow) (by decide))) (fun k ρ σ' _ hk => gO (σ := σ') KN (Nat.le_trans hpow (by decide)) σ' .refl k (by rw [List.length_map]; exact hk)) ?_ ?_)
 ·cases Nat.lt_one_iff.mp hs
  rw [Id]; exact Nat.zero_le _
 ·intro k x ρ bH hx I
  obtain ⟨hk, e⟩ := List.getElem?_eq_some_iff.mp hx
  rw [List.getElem_range] at e
  subst e
  exact Hm hp hl hX hXl hml (Nat.add_lt_of_lt_sub (hrl ▸ hk)) (fun h ρ σ' E => ⟨h ▸ rfl, E⟩) I
 ·rintro ρ bH ⟨⟨a2, a3, a4, a5, a6, rfl⟩, E, hall⟩
  rw [hrl, Nat.sub_add_cancel KN] at hall
  refine lK rfl ⟨?_, E⟩
  unfold dS
  rw [decide_eq_true hnd, List.all_eq_true.mpr fun s hs => decide_eq_true (hall s (List.mem_range.mp hs))]; rfl
end
noncomputable def sN (p : Nat × Nat × Int) : V := .tup [.int (p.1 : Nat), .str p.2.1, .int p.2.2]
noncomputable def B4 (n : Nat) (p : Nat × Nat × Int) : Prop := p.1 < n ∧ (p.2.1 = 9 ∨ p.2.1 = 8 ∨ p.2.1 = 51)
noncomputable def stood (b : Int) (ms : List Nat) (lits : List (Nat × Nat × Int)) : Bool := lits.all fun p => decide (dF b (ms.getD p.1 0) p.2.1 p.2.2 = ms.getD p.1 0)
noncomputable def rN (b : Int) (ms : List Nat) (lits : List (Nat × Nat × Int)) : List Nat := lits.foldl (fun acc p => acc.set p.1 (dF b (acc.getD p.1 0) p.2.1 p.2.2)) ms
theorem Ed {b : Int} : ∀ (lits : List (Nat × Nat × Int)) (ms : List Nat), (rN b ms lits).length = ms.length := by
 intro lits
 induction lits with
 | nil => intro ms; rfl
 | cons p lits ih => intro ms; show (rN b (ms.set _ _) lits).length = _; rw [ih, List.length_set]
theorem Ee {b : Int} {j : Nat} (hj : j < 5) : ∀ (lits : List (Nat × Nat × Int)) (ms : List Nat) (x : Nat), x < ms.length → (((rN b ms lits).getD x 0).testBit j = true ↔ (ms.getD x 0).testBit j = true ∧ ∀ p ∈ lits, p.1 = x → pB p.2.1 (b + (j : Nat)) p.2.2 = true) := by
 intro lits
 induction lits with
 | nil => intro ms x hx; simp [rN]
 | cons p lits ih =>
  intro ms x hx
  show ((rN b (ms.set p.1 (dF b (ms.getD p.1 0) p.2.1 p.2.2)) lits).getD x 0).testBit j = true ↔ _
  rw [ih _ x (by simpa using hx)]
  simp only [List.mem_cons, forall_eq_or_imp]
  by_cases hpx : p.1 = x
  ·subst hpx
   have : (ms.set p.1 (dF b (ms.getD p.1 0) p.2.1 p.2.2)).getD p.1 0 = dF b (ms.getD p.1 0) p.2.1 p.2.2 := by simp [hx]
   rw [this, qU hj, Bool.and_eq_true]
   simp [and_assoc]
  ·have : (ms.set p.1 (dF b (ms.getD p.1 0) p.2.1 p.2.2)).getD x 0 = ms.getD x 0 := by
    simp only [List.getD_eq_getElem?_getD]; rw [List.getElem?_set_ne hpx]
   rw [this]
   simp [hpx]
section
variable {σ : St} {lj : Nat} {ms : List Nat} {b : Int} {lits : List (Nat × Nat × Int)}
theorem D4 : ∀ l : List Bool, boolsOf (l.map V.bool) = some l
 | [] => rfl
 | a :: l => by
  show (boolsOf (l.map V.bool)).map (a :: ·) = _
  rw [D4 l]; rfl
theorem LS {i : Nat} {ns : List Bool} (h : getL σ i = some (ns.map .bool)) (h1 : ns.length ≤ 100000) : Ir (.obj i) σ = some (.bool (ns.all id), σ) := by
 unfold Ir
 simp only [h, D4, Option.bind_some]
 rw [if_pos h1]
theorem yQ (hl : getL σ lj = some (aJ ms)) (hml : ms.length ≤ 100) (ho : ∀ p ∈ lits, B4 ms.length p) (hn : lits.length ≤ 900) :
  wp (jA [.tup (lits.map sN), .obj lj, .int b] σ) fun r σ' => r = .bool (stood b ms lits) ∧ bV σ σ' := by
 have hm2 := Nat.le_trans hml (by decide : 100 ≤ 1000)
 refine evMap (α := Nat × Nat × Int) (ρ := [some (.tup (lits.map sN)), some (.obj lj), some (.int b), none]) (σ := σ) (fun ρ => ∃ x, ρ = [some (.tup (lits.map sN)), some (.obj lj), some (.int b), x]) lits sN (fun p => some (.bool (decide (dF b (ms.getD p.1 0) p.2.1 p.2.2 = ms.getD p.1 0)))) ⟨none, rfl⟩ (Nat.le_trans hn (by decide)) .tup
  (fun σ' e E g => ⟨_, _, sL (aN (aK e rfl) (LS (ns := lits.map fun p => decide (dF b (ms.getD p.1 0) p.2.1 p.2.2 = ms.getD p.1 0)) (g.trans (congrArg some ?_)) ?_)), congrArg V.bool (by unfold stood; rw [List.all_map]; rfl), E⟩) rfl (Nat.lt_of_le_of_lt hn (by decide)) ?_
 ·rw [Aj, List.map_map]; rfl
 ·rw [List.length_map]; exact Nat.le_trans hn (by decide)
 ·rintro p _ σ' hp ⟨x, rfl⟩ E
  obtain ⟨h1, h2⟩ := ho p hp
  have hl' := E.getL hl id
  obtain ⟨_, bH, e2, rfl, E2⟩ := qT (σ := σ') (m := ms.getD p.1 0) (x := (p.1 : Nat)) (kk := p.2.2) (b := b) h2
  exact .put rfl ⟨_, rfl⟩ rfl (aQ (aN (aK (bN rfl (bN rfl rfl rfl) (gR hl' h1 hm2)) rfl) e2) (bN rfl (bN rfl rfl rfl) (gR (E2.getL hl' id) h1 hm2)) eq_int) (by rw [decide_eq_decide.mpr Int.ofNat_inj]) E2
inductive Pc (pv lv : V) (ej : Nat) (b : Int) (lits : List (Nat × Nat × Int)) (ms : List Nat) (σ : St) (k : Nat) (ρ : Loc) (σ' : St) : Prop
 | intro (e : ∃ a5, ρ = [some pv, some (.obj ej), some lv, some (.int b), some (.obj σ.length), a5]) (E : bV σ σ') (g : getL σ' σ.length = some (aJ (rN b ms (lits.take k))))
theorem B1 {ej : Nat} {W : List Nat} (hl : getL σ ej = some (aJ ms)) (hml : ms.length ≤ 100) (ho : ∀ p ∈ lits, B4 ms.length p) (hn : lits.length ≤ 900) (hX : ∀ x ∈ W, x < ms.length) (hXl : W.length ≤ 6) :
  wp (kC [.tup (aJ W), .obj ej, .tup (lits.map sN), .int b] σ) fun r σ' => r = .bool (!dS W (rN b ms lits)) ∧ bV σ σ' := by
 have hgl : uH (.obj ej) σ = some (.obj σ.length, σ ++ [.list (aJ ms)]) := by
  unfold uH
  simp only [hl, Option.bind_some]
  rw [if_pos (by rw [aJ, List.length_map]; exact Nat.le_trans hml (by decide))]
 refine wp_runF rfl (fQ (aN rfl hgl) rfl (nE lits sN (Pc (.tup (aJ W)) (.tup (lits.map sN)) ej b lits ms σ) rfl ⟨⟨_, rfl⟩, .push _, cE⟩ (Nat.lt_of_le_of_lt hn (by decide)) (fun k ρ σ' _ _ => rfl) ?_ ?_))
 ·rintro k p ρ bH hp ⟨⟨a5, rfl⟩, E, hL⟩
  obtain ⟨hk, hpe⟩ := List.getElem?_eq_some_iff.mp hp
  obtain ⟨h1, h2⟩ := ho _ (List.mem_of_getElem? hp)
  have sR := Ed (b := b) (lits.take k) ms
  have hstep : rN b ms (lits.take (k + 1)) = (rN b ms (lits.take k)).set p.1 (dF b ((rN b ms (lits.take k)).getD p.1 0) p.2.1 p.2.2) := by
   rw [List.take_succ_eq_append_getElem hk, hpe]; unfold rN; rw [List.foldl_append]; rfl
  generalize rN b ms (lits.take k) = mk at sR hstep hL
  rw [← sR] at h1
  obtain ⟨_, dQ, e3, rfl, E3⟩ := qT (σ := bH) (m := mk.getD p.1 0) (x := (p.1 : Nat)) (kk := p.2.2) (b := b) h2
  have hL3 := E3.getL hL id
  have hx := Nat.lt_of_lt_of_le h1 (sR ▸ hml)
  refine ⟨rfl, fun Q' hn _ => fQ (aN (aK (bN rfl (bN rfl rfl rfl) (gR hL h1 (sR ▸ Nat.le_trans hml (by decide)))) rfl) e3) (Gb rfl (bN rfl rfl rfl) (vA hL3 (Int.natCast_nonneg _) (Int.ofNat_lt.mpr (Nat.lt_trans hx (by decide))) (by rw [aJ, List.length_map]; exact h1))) (dG (hn _ _ ⟨⟨_, rfl⟩, (E.then E3).trans (M' := fun i => i = σ.length) (.set _ rfl) (fun i h => .inr (h ▸ Nat.le_refl _)), ?_⟩))⟩
  rw [c0 (bE hL3), hstep]
  unfold aJ
  rw [List.map_set]; rfl
 ·rintro ρ bH ⟨⟨a5, rfl⟩, E, hL⟩
  rw [List.take_length] at hL
  have sR := Ed (b := b) lits ms
  obtain ⟨_, dQ, e3, rfl, E3⟩ := oN (pv := .tup (aJ W)) Seq.tup hL (sR.symm ▸ hX) hXl (sR.symm ▸ hml)
  exact lK (LU (aN rfl e3)) ⟨rfl, E.then E3⟩
end
noncomputable def jE (W ms : List Nat) (x k : Nat) : Bool := (ms.getD x 0).testBit k && dS (W.filter fun y => decide (y ≠ x)) (ms.map fun m => dC m k)
noncomputable def iC (W ms : List Nat) : List Nat := (List.range ms.length).map fun x => sumBits fun k => jE W ms x k
inductive Jc (W ms : List Nat) (lj : Nat) (σ : St) (k : Nat) (ρ : Loc) (σ' : St) : Prop
 | intro (e : E4 fun a3 a4 a5 a6 => ρ = [some (.tup (aJ W)), some (.obj lj), some (.obj σ.length), a3, a4, a5, a6, none, none]) (E : bV σ σ') (g : getL σ' σ.length = some (aJ ((List.range k).map fun x => sumBits fun k => jE W ms x k)))
inductive Jb (W ms : List Nat) (lj fj oj x : Nat) (σ : St) (k : Nat) (ρ : Loc) (σ' : St) : Prop
 | intro (e : ∃ a6, ρ = [some (.tup (aJ W)), some (.obj lj), some (.obj fj), some (.int (x : Nat)), some (.int (upTo k (jE W ms x) : Nat)), some (.obj oj), a6, none, none]) (E : bV σ σ')
noncomputable def AE : XS := (XS.seq (XS.ite (X.iW (X.test (X.bin oEq (X.bin oMod (X.bin cH (X.sub (X.var 1) (X.var 3)) (X.bin iT (X.pure (.int 2)) (X.var 6))) (X.pure (.int 2))) (X.pure (.int 1)))) (X.iW (X.test (X.call fM (X.aB (X.var 5) (X.aB (X.fZ [7] (X.var 1) (XA.name 7) none (X.bin JN (X.var 7) (X.bin rL (X.pure (.int 31)) (X.bin iT (X.pure (.int 2)) (X.var 6)))) 1000) X.aH)))) X.v5)) (XS.seq (XS.assign (X.bin eJ (X.var 4) (X.bin iT (X.pure (.int 2)) (X.var 6))) (XA.name 4)) XS.nil) XS.nil) XS.nil)
section
variable {σ : St} {Q : Fl → Loc → St → Prop} {lj fj oj x : Nat} {W ms : List Nat}
theorem Go {k : Nat} {ρ : Loc} {bH : St} (hl : getL σ lj = some (aJ ms)) (ho : getL σ oj = some (aJ (W.filter fun y => decide (y ≠ x)))) (hx : x < ms.length) (hX : ∀ x ∈ W, x < ms.length) (hXl : W.length ≤ 6) (hml : ms.length ≤ 100) (hk : k < 5)
  (I : Jb W ms lj fj oj x σ k ρ bH) : sF (XA.name 6) AE (Jb W ms lj fj oj x σ (k + 1)) Q (.int (k : Nat)) ρ bH := by
 obtain ⟨⟨a6, rfl⟩, E⟩ := I
 have hk2 : k ≤ 20 := Nat.le_trans (Nat.le_of_lt hk) (by decide)
 have hl2 := E.getL hl id
 have up := Bq (jE W ms x) hk
 generalize hu1 : upTo (k + 1) (jE W ms x) = u1 at up
 refine ⟨rfl, fun Q' hn _ => ?_⟩
 have hn' : ∀ σ', bV σ σ' → Q' .next [some (.tup (aJ W)), some (.obj lj), some (.obj fj), some (.int (x : Nat)), some (.int (u1 : Nat)), some (.obj oj), some (.int (k : Nat)), none, none] σ' := fun σ' E' => hn _ _ ⟨⟨_, by rw [hu1]⟩, E'⟩
 clear hn
 have b1 := vY (f := X.sub (X.var 1) (X.var 3)) (g := X.var 6) (ρ := [some (.tup (aJ W)), some (.obj lj), some (.obj fj), some (.int (x : Nat)), some (.int (upTo k (jE W ms x) : Nat)), some (.obj oj), some (.int (k : Nat)), none, none]) (bN rfl rfl (gR hl2 hx (Nat.le_trans hml (by decide)))) rfl hk2
 cases hb : (ms.getD x 0).testBit k with
 | false =>
  rw [hb] at b1
  have hs : jE W ms x k = false := by unfold jE; rw [hb]; rfl
  rw [hs] at up
  subst up
  exact cZ (jP b1) (dG (hn' _ E))
 | true =>
  rw [hb] at b1
  have hs : jE W ms x k = dS (W.filter fun y => decide (y ≠ x)) (ms.map fun m => dC m k) := by unfold jE; rw [hb]; rfl
  rw [hs] at up
  clear hs hb
  have OB : (31 : Int) - ((2 ^ k : Nat) : Int) = ((31 - 2 ^ k : Nat) : Int) := CV (P := fun k => (31 : Int) - ((2 ^ k : Nat) : Int) = ((31 - 2 ^ k : Nat) : Int)) (by decide) (by decide) (by decide) (by decide) (by decide) k hk
  refine evMap (locs := [7]) (f := X.var 1) (a := XA.name 7) (t := none) (e := X.bin JN (X.var 7) (X.bin rL (X.pure (.int 31)) (X.bin iT (X.pure (.int 2)) (X.var 6)))) (fuel := 1000) (ρ := [some (.tup (aJ W)), some (.obj lj), some (.obj fj), some (.int (x : Nat)), some (.int (upTo k (jE W ms x) : Nat)), some (.obj oj), some (.int (k : Nat)), none, none]) (σ := bH) (fun ρ => ∃ a7, ρ = [some (.tup (aJ W)), some (.obj lj), some (.obj fj), some (.int (x : Nat)), some (.int (upTo k (jE W ms x) : Nat)), some (.obj oj), some (.int (k : Nat)), a7, none]) ms (fun m => .int (m : Nat)) (fun m => some (.int (dC m k : Nat))) ⟨none, rfl⟩ (Nat.le_trans hml (by decide)) (.list hl2) (fun dQ e E3 g => ?_) ?_ ?_ ?_
  ·have g' : getL dQ bH.length = some (aJ (ms.map fun m => dC m k)) := by rw [g, Aj]; unfold aJ; rw [List.map_map]; rfl
   have hf : (ms.map fun m => dC m k).length = ms.length := List.length_map _
   obtain ⟨_, kS, e4, rfl, E4⟩ := oN (Seq.list (E3.getL (E.getL ho id) id)) g' (fun y hy => hf.symm ▸ hX y (List.mem_filter.mp hy).1) (Nat.le_trans (List.length_filter_le _ _) hXl) (hf.symm ▸ hml)
   have E5 := (E.then E3).then E4
   clear g' g E4
   cases hc : dS (W.filter fun y => decide (y ≠ x)) (ms.map fun m => dC m k) with
   | false =>
    rw [hc] at up e4
    subst up
    exact cZ (eP b1 (jP (aP (aN (aK rfl (aK e rfl)) e4)))) (dG (hn' _ E5))
   | true =>
    rw [hc] at up e4
    subst up
    exact kO (eP b1 (eP (aP (aN (aK rfl (aK e rfl)) e4)) rfl)) (fQ (aQ rfl (BO rfl hk2) rfl) rfl (dG (dG (hn' _ E5))))
  ·rfl
  ·exact Nat.lt_of_le_of_lt hml (by decide)
  ·rintro m _ σ' hm ⟨a7, rfl⟩ E'
   exact .put rfl ⟨_, rfl⟩ rfl (aQ rfl (aQ rfl (BO rfl hk2) (congrArg (fun z => some (V.int z, σ')) OB)) (congrArg (fun z => some (V.int z, σ')) (Fn ..))) rfl .refl
theorem Es {g : XS} (hl : getL σ lj = some (aJ ms)) (ho : getL σ oj = some (aJ (W.filter fun y => decide (y ≠ x)))) (hx : x < ms.length) (hX : ∀ x ∈ W, x < ms.length) (hXl : W.length ≤ 6) (hml : ms.length ≤ 100) (a6 : Option V)
  (hQ : ∀ σ' a6, bV σ σ' → sp g [some (.tup (aJ W)), some (.obj lj), some (.obj fj), some (.int (x : Nat)), some (.int (sumBits fun k => jE W ms x k : Nat)), some (.obj oj), a6, none, none] σ' Q) :
  sp (XS.seq (XS.for (X.call (bW cU) (X.aB (X.pure (.int 5)) X.aH)) (XA.name 6) AE 1000) g) [some (.tup (aJ W)), some (.obj lj), some (.obj fj), some (.int (x : Nat)), some (.int 0), some (.obj oj), a6, none, none] σ Q := by
 refine nE (List.range 5) (fun k => .int (k : Nat)) (Jb W ms lj fj oj x σ) rfl ⟨⟨_, rfl⟩, .refl⟩ (by decide) (fun k ρ σ' _ hk => zI (σ := σ') σ' .refl k (by rw [List.length_map]; exact hk)) ?_ ?_
 ·intro k y ρ bH hy I
  obtain ⟨hk, e⟩ := List.getElem?_eq_some_iff.mp hy
  rw [List.getElem_range] at e
  subst e
  exact Go hl ho hx hX hXl hml hk I
 ·rintro ρ bH ⟨⟨a6, rfl⟩, E⟩
  exact hQ bH a6 E
theorem others_eq (W : List Nat) (k : Nat) : (W.filterMap fun y => if y ≠ k then some (V.int (y : Nat)) else none) = aJ (W.filter fun y => decide (y ≠ k)) := by
 induction W with
 | nil => rfl
 | cons y W ih =>
  rw [List.filterMap_cons, List.filter_cons, ih]
  by_cases h : y ≠ k
  ·rw [if_pos h, if_pos (decide_eq_true h)]; rfl
  ·rw [if_neg h, if_neg fun z => h (of_decide_eq_true z)]
theorem Ca {k : Nat} {ρ : Loc} {bH : St} (hl : getL σ lj = some (aJ ms)) (hX : ∀ x ∈ W, x < ms.length) (hXl : W.length ≤ 6) (hml : ms.length ≤ 100) (hk : k < ms.length) (I : Jc W ms lj σ k ρ bH) :
  sF (XA.name 3) (XS.seq (XS.assign (X.eH (X.aB (X.pure (.int 0)) (X.aB (X.fZ [8] (X.var 0) (XA.name 8) (some (X.test (X.bin iF (X.var 8) (X.var 3)))) (X.var 8) 1000) X.aH))) (XA.swap [(4, 65), (5, 78)])) (XS.seq (XS.for (X.call (bW cU) (X.aB (X.pure (.int 5)) X.aH)) (XA.name 6) AE 1000) (XS.seq (XS.drop (X.eY eB (X.var 2) (X.aB (X.var 4) X.aH))) XS.nil))) (Jc W ms lj σ (k + 1)) Q (.int (k : Nat)) ρ bH := by
 obtain ⟨⟨a3, a4, a5, a6, rfl⟩, E, hL⟩ := I
 refine ⟨rfl, fun Q' hn _ => ?_⟩
 refine evMap (aT := bH) (locs := [8]) (f := X.var 0) (a := XA.name 8) (t := some (X.test (X.bin iF (X.var 8) (X.var 3)))) (e := X.var 8) (fuel := 1000) (ρ := [some (.tup (aJ W)), some (.obj lj), some (.obj σ.length), some (.int (k : Nat)), a4, a5, a6, none, none]) (σ := bH) (fun ρ => ∃ a8, ρ = [some (.tup (aJ W)), some (.obj lj), some (.obj σ.length), some (.int (k : Nat)), a4, a5, a6, none, a8]) W (fun y => .int (y : Nat)) (fun y => if y ≠ k then some (.int (y : Nat)) else none) ⟨none, rfl⟩ (Nat.le_trans hXl (by decide)) .tup (fun dQ e E3 g => ?_) ?_ ?_ ?_
 ·rw [others_eq] at g
  refine fQ (mO (aK rfl (aK e rfl)) (Nat.le_of_ble_eq_true rfl)) rfl (Es (fj := σ.length) ((E.then E3).getL hl id) g hk hX hXl hml a6 fun kS b6 E4 => ?_)
  have hL4 := E4.getL (E3.getL hL id) id
  refine jG (fD rfl (d6 hL4) rfl (fG hL4 ?_)) rfl (dG (hn _ _ ⟨⟨_, _, _, _, rfl⟩, ((E.then E3).then E4).trans (M' := fun i => i = σ.length) (.set _ rfl) (fun i h => .inr (h ▸ Nat.le_refl _)), ?_⟩))
  ·rw [aJ, List.length_map, List.length_map, List.length_range]
   exact Nat.le_trans (Nat.le_of_lt hk) (Nat.le_trans hml (by decide))
  ·rw [c0 (bE hL4), List.range_succ, List.map_append]
   unfold aJ
   rw [List.map_append]; rfl
 ·rfl
 ·exact Nat.lt_of_le_of_lt hXl (by decide)
 ·rintro y _ σ' hy ⟨a8, rfl⟩ E'
  by_cases h : y ≠ k
  ·exact .put rfl ⟨_, rfl⟩ (aP (aQ rfl rfl (Og fun e => h (Int.ofNat.inj e)))) rfl (if_pos h) .refl
  ·exact .skip rfl ⟨_, rfl⟩ (aP (aQ rfl rfl (MW (congrArg _ (Classical.not_not.mp h))))) (if_neg h) .refl
theorem Cb (hl : getL σ lj = some (aJ ms)) (hX : ∀ x ∈ W, x < ms.length) (hXl : W.length ≤ 6) (hml : ms.length ≤ 100) :
  wp (mF [.tup (aJ W), .obj lj] σ) fun r σ' => ∃ j, A4 (r = .obj j) (σ.length ≤ j) (getL σ' j = some (aJ (iC W ms))) (bV σ σ') := by
 have hil : (aJ ms).length = ms.length := List.length_map _
 have hrl : (List.range ms.length).length = ms.length := List.length_range
 have hl0 := (Ext.push (M := fun _ => False) (O.list [])).getL hl id
 refine wp_runF rfl (fQ (pZ rfl (Nat.zero_le _)) rfl (nE (List.range ms.length) (fun k => .int (k : Nat)) (Jc W ms lj σ) (aN (aK (aN rfl (jO hl0 (by rw [hil]; exact Nat.le_trans hml (by decide)))) rfl) (by rw [hil]; rfl)) ⟨⟨_, _, _, _, rfl⟩, .push _, cE⟩
  (Nat.lt_of_le_of_lt (Nat.le_of_eq hrl) (Nat.lt_of_le_of_lt hml (by decide))) (fun k ρ σ' _ hk => nZ (σ := σ') (Nat.le_trans hml (by decide)) σ' .refl k (by rw [List.length_map]; exact hk)) ?_ ?_))
 ·intro k y ρ bH hy I
  obtain ⟨hk, e⟩ := List.getElem?_eq_some_iff.mp hy
  rw [List.getElem_range] at e
  subst e
  exact Ca hl hX hXl hml (hrl ▸ hk) I
 ·rintro ρ bH ⟨⟨a3, a4, a5, a6, rfl⟩, E, hL⟩
  rw [hrl] at hL
  exact lK rfl ⟨_, rfl, Nat.le_refl _, hL, E⟩
end
section
variable {σ : St}
theorem at_ (σ l : List O) (k : Nat) : (σ ++ l)[σ.length + k]? = l[k]? := by rw [List.getElem?_append_right (Nat.le_add_right _ _), Nat.add_sub_cancel_left]
theorem CF {l : List O} {d : List (Nat × V)} (k : Nat) (h : l[k]? = some (.aV d)) : bT (σ ++ l) (σ.length + k) = some d := by unfold bT; rw [at_, h]; rfl
theorem yD {l : List O} {d : List V} (k : Nat) (h : l[k]? = some (.list d)) : getL (σ ++ l) (σ.length + k) = some d := by unfold getL; rw [at_, h]; rfl
theorem J3 {l : List O} {d : List (Int × V)} (k : Nat) (h : l[k]? = some (.cA d)) : eF (σ ++ l) (σ.length + k) = some d := by unfold eF; rw [at_, h]; rfl
theorem Ek {c n : Nat} {v : V} {d : List (Nat × V)} {l : List O} (h : d.length ≤ 100) : vC c n (.inst c σ.length) v (σ ++ O.aV d :: l) = some (σ ++ O.aV (eU d n v) :: l) := by
 have g : bT (σ ++ O.aV d :: l) σ.length = some d := CF (l := O.aV d :: l) 0 rfl
 rw [jV g h, List.set_append_right _ _ (Nat.le_refl _), Nat.sub_self]
 rfl
theorem Hq {c n : Nat} {f : X V} {o : O} {d : List (Nat × V)} {l : List O} {r : Loc} {g : XS} {Q : Fl → Loc → St → Prop} (hf : ∀ ρ σ, f ρ σ = some (.obj σ.length, σ ++ [o])) (h : d.length ≤ 100) (k : sp g (some (.inst c σ.length) :: r) (σ ++ O.aV (eU d n (.obj (σ.length + (l.length + 1)))) :: (l ++ [o])) Q) : sp (XS.seq (XS.assign f (XA.attr c n (X.var 0))) g) (some (.inst c σ.length) :: r) (σ ++ O.aV d :: l) Q := by
 have e := hf (some (.inst c σ.length) :: r) (σ ++ O.aV d :: l)
 rw [List.length_append, List.append_assoc] at e
 exact fQ e (I7 rfl (Ek h)) k
theorem GA {c n : Nat} {f : X V} {v : V} {d : List (Nat × V)} {l : List O} {r : Loc} {g : XS} {Q : Fl → Loc → St → Prop} (e : f (some (.inst c σ.length) :: r) (σ ++ O.aV d :: l) = some (v, σ ++ O.aV d :: l)) (h : d.length ≤ 100) (k : sp g (some (.inst c σ.length) :: r) (σ ++ O.aV (eU d n v) :: l) Q) : sp (XS.seq (XS.assign f (XA.attr c n (X.var 0))) g) (some (.inst c σ.length) :: r) (σ ++ O.aV d :: l) Q :=
 fQ e (I7 rfl (Ek h)) k
theorem yO : wp (fNew 0 g9 [] σ) fun r σ' => E6 fun i a f t mk nw => A5 (r = .inst 0 i) (σ.length ≤ i) (∀ z ∈ [a, f, t, mk, nw], σ.length ≤ z) (SV σ' i a f t mk nw [] [] [] [] false []) (bV σ σ') := by
 have hL := fun (ρ : Loc) (σ : St) => show X.hY X.aH ρ σ = some (.obj σ.length, σ ++ [.list []]) from rfl
 refine wp_fNew (wp_runF rfl ?_)
 show sp oO _ (σ ++ O.aV [] :: []) _
 refine Hq hL (Nat.le_of_ble_eq_true rfl) ?_
 show sp _ _ (σ ++ O.aV [(19, .obj (σ.length + 1))] :: [O.list []]) _
 refine Hq hL (Nat.le_of_ble_eq_true rfl) ?_
 show sp _ _ (σ ++ O.aV [(19, .obj (σ.length + 1)), (18, .obj (σ.length + 2))] :: [O.list [], .list []]) _
 refine Hq hL (Nat.le_of_ble_eq_true rfl) ?_
 show sp _ _ (σ ++ O.aV [(19, .obj (σ.length + 1)), (18, .obj (σ.length + 2)), (17, .obj (σ.length + 3))] :: [O.list [], .list [], .list []]) _
 refine Hq hL (Nat.le_of_ble_eq_true rfl) ?_
 show sp _ _ (σ ++ O.aV [(19, .obj (σ.length + 1)), (18, .obj (σ.length + 2)), (17, .obj (σ.length + 3)), (16, .obj (σ.length + 4))] :: [O.list [], .list [], .list [], .list []]) _
 refine Hq (o := .cA []) (fun _ _ => rfl) (Nat.le_of_ble_eq_true rfl) ?_
 show sp _ _ (σ ++ O.aV [(19, .obj (σ.length + 1)), (18, .obj (σ.length + 2)), (17, .obj (σ.length + 3)), (16, .obj (σ.length + 4)), (15, .obj (σ.length + 5))] :: [O.list [], .list [], .list [], .list [], .cA []]) _
 refine GA rfl (Nat.le_of_ble_eq_true rfl) (GA rfl (Nat.le_of_ble_eq_true rfl) (GA rfl (Nat.le_of_ble_eq_true rfl) (dG ?_)))
 show _ ∧ E6 fun i a f t mk nw => A5 _ _ _ (SV (σ ++ (O.aV (sd (σ.length + 1) (σ.length + 2) (σ.length + 3) (σ.length + 4) (σ.length + 5) false []) :: [O.list [], .list [], .list [], .list [], .cA []])) i a f t mk nw [] [] [] [] false []) _
 refine ⟨rfl, σ.length, σ.length + 1, σ.length + 2, σ.length + 3, σ.length + 4, σ.length + 5, rfl, Nat.le_refl _, fun z hz => ?_, ⟨CF 0 rfl, yD 1 rfl, yD 2 rfl, yD 3 rfl, yD 4 rfl, ⟨[], J3 5 rfl, fun _ h => (List.not_mem_nil h).elim, .nil⟩, ?_⟩, .EE _⟩
 ·obtain ⟨k, _, rfl⟩ := List.mem_map.mp (show z ∈ [1, 2, 3, 4, 5].map (σ.length + ·) from hz)
  exact Nat.le_add_right _ _
 ·show ([0, 1, 2, 3, 4, 5].map (σ.length + ·)).Nodup
  unfold List.Nodup
  rw [List.pairwise_map]
  exact List.Pairwise.imp (fun h e => h (Nat.add_left_cancel e)) (by decide : List.Pairwise (· ≠ ·) [0, 1, 2, 3, 4, 5])
theorem Bu {W : List Nat} (hl : W.length ≤ 100) : wp (fNew 2 bX [.tup (aJ W)] σ) fun r σ' => ∃ j, A4 (r = .inst 2 j) (σ.length ≤ j) (bT σ' j = some (ad W)) (bV σ σ') := by
 have : wp (jC [.inst 2 σ.length, .tup (aJ W), .str 99] (σ ++ [.aV []])) fun r σ' => A3 (r = .none) (bT σ' σ.length = some (ad W)) (bV σ σ') :=
  wp_runF rfl (GA rfl (Nat.zero_le _) (GA rfl (Nat.le_of_ble_eq_true rfl) (GA rfl (Nat.le_of_ble_eq_true rfl) (dG ⟨rfl, CF 0 rfl, .push _⟩))))
 obtain ⟨r, s, e, rfl, h1, h2⟩ := this
 refine wp_fNew ?_
 unfold bX Iz
 dsimp only
 rw [if_pos rfl, e]
 exact wp_some.mpr ⟨rfl, σ.length, rfl, Nat.le_refl _, h1, h2⟩
theorem Gn {r : Nat} {W : List Nat} (hr : bT σ r = some (ad W)) : wp (dN [.inst 2 r] σ) fun v σ' => v = .tup [.str 48, .tup (aJ W), .str 99] ∧ σ' = σ :=
 ⟨_, _, sL (mO (aK rfl (aK (bP rfl (bC hr rfl)) (aK (bP rfl (bC hr rfl)) rfl))) (Nat.le_of_ble_eq_true rfl)), rfl, rfl⟩
end
theorem IW {W : List Nat} (hn : W.Nodup) (P : Nat → Prop) (A : Nat → List Int) :
  (∀ (S : List Nat) (T : List Int), S.Nodup → (∀ q ∈ S, q < W.length ∧ P (W.getD q 0)) → (∀ q ∈ S, ∀ u ∈ A (W.getD q 0), u ∈ T) → S.length ≤ T.length) ↔
  (∀ (S : List Nat) (T : List Int), S.Nodup → (∀ x ∈ S, x ∈ W ∧ P x) → (∀ x ∈ S, ∀ u ∈ A x, u ∈ T) → S.length ≤ T.length) := by
 constructor
 ·intro h S T hS hX hT
  have h1 := h ((List.range W.length).filter fun q => decide (W.getD q 0 ∈ S)) T (List.nodup_range.sublist List.filter_sublist) (fun q hq => ?_) (fun q hq u hu => ?_)
  ·refine Nat.le_trans ?_ h1
   have := cR (l := S) (m := ((List.range W.length).filter fun q => decide (W.getD q 0 ∈ S)).map fun q => W.getD q 0) hS fun x hx => by
    obtain ⟨q, hq⟩ := List.getElem?_of_mem (hX x hx).1
    have hlt := (List.getElem?_eq_some_iff.mp hq).1
    have hg : W.getD q 0 = x := by simp [hq]
    exact List.mem_map.mpr ⟨q, List.mem_filter.mpr ⟨List.mem_range.mpr hlt, by rw [hg]; simpa using hx⟩, hg⟩
   simpa using this
  ·have := List.mem_filter.mp hq
   exact ⟨List.mem_range.mp this.1, (hX _ (by simpa using this.2)).2⟩
  ·have := List.mem_filter.mp hq
   exact hT _ (by simpa using this.2) u hu
 ·intro h S T hS hX hT
  have h1 := h (S.map fun q => W.getD q 0) T ?_ (fun x hx => ?_) (fun x hx u hu => ?_)
  ·simpa using h1
  ·unfold List.Nodup
   rw [List.pairwise_map]
   refine List.Pairwise.imp_of_mem (fun {p q} hp hq hne e => ?_) hS
   have l1 := (hX p hp).1
   have l2 := (hX q hq).1
   simp only [List.getD_eq_getElem?_getD, List.getElem?_eq_getElem l1, List.getElem?_eq_getElem l2, Option.getD_some] at e
   exact hne (nG hn l1 l2 e)
  ·obtain ⟨q, hq, rfl⟩ := List.mem_map.mp hx
   have := hX q hq
   refine ⟨?_, this.2⟩
   simp [this.1]
  ·obtain ⟨q, hq, rfl⟩ := List.mem_map.mp hx
   exact hT q hq u hu
noncomputable def qB (b : Int) (W ms : List Nat) : List (List Int) := W.map fun x => vm b (ms.getD x 0)
theorem lZ {b : Int} {W ms : List Nat} {q : Nat} {l : List Int} (h : (qB b W ms)[q]? = some l) : q < W.length ∧ l = vm b (ms.getD (W.getD q 0) 0) := by
 unfold qB at h
 rw [List.getElem?_map] at h
 obtain ⟨x, hx, rfl⟩ := Option.map_eq_some_iff.mp h
 exact ⟨(List.getElem?_eq_some_iff.mp hx).1, by simp [hx]⟩
theorem rD {b : Int} {W ms : List Nat} {q : Nat} (h : q < W.length) : (qB b W ms)[q]? = some (vm b (ms.getD (W.getD q 0) 0)) := by
 unfold qB
 rw [List.getElem?_map, List.getElem?_eq_getElem h]
 simp [h]
theorem iG {b : Int} {W ms : List Nat} : (qB b W ms).length = W.length := by simp [qB]
theorem uE {b : Int} {W ms : List Nat} (hn : W.Nodup) : Ml (qB b W ms) ↔ B5 b W ms := by
 have B := IW hn (fun _ => True) (fun x => vm b (ms.getD x 0))
 constructor
 ·intro h S T hS hX hT
  refine B.mp (fun S T hS hX hT => ?_) S T hS (fun x hx => ⟨hX x hx, trivial⟩) hT
  exact h S T hS (fun q hq => by rw [iG]; exact (hX q hq).1) fun q hq l hl u hu => by
   obtain ⟨_, rfl⟩ := lZ hl
   exact hT q hq u hu
 ·intro h S T hS hX hT
  refine B.mpr (fun S T hS hX hT => h S T hS (fun x hx => (hX x hx).1) hT) S T hS (fun q hq => ⟨by have := hX q hq; rwa [iG] at this, trivial⟩) fun q hq u hu => ?_
  exact hT q hq _ (rD (by have := hX q hq; rwa [iG] at this)) u hu
theorem t6 {b : Int} {m k : Nat} (hk : k < 5) {u : Int} : u ∈ vm b (dC m k) ↔ u ∈ vm b m ∧ u ≠ b + (k : Nat) := by
 rw [eW, eW]
 constructor
 ·rintro ⟨j, hj, hb, rfl⟩
  rw [iB m k j hk hj, Bool.and_eq_true, decide_eq_true_iff] at hb
  exact ⟨⟨j, hj, hb.1, rfl⟩, by lia⟩
 ·rintro ⟨⟨j, hj, hb, rfl⟩, hne⟩
  exact ⟨j, hj, by rw [iB m k j hk hj, hb]; simp; lia, rfl⟩
theorem pW {ms : List Nat} {k x : Nat} : (ms.map fun m => dC m k).getD x 0 = dC (ms.getD x 0) k := by
 simp only [List.getD_eq_getElem?_getD, List.getElem?_map]
 cases ms[x]? with
 | none => simp [dC]
 | some m => rfl
theorem E0 {b : Int} {W ms : List Nat} (hn : W.Nodup) {p k : Nat} (hp : p < W.length) (hk : k < 5) : i9 (qB b W ms) p (b + (k : Nat)) ↔ B5 b (W.filter fun y => decide (y ≠ W.getD p 0)) (ms.map fun m => dC m k) := by
 have hg : ∀ q, q < W.length → (W.getD q 0 ≠ W.getD p 0 ↔ q ≠ p) := fun q hq => by
  constructor
  ·rintro h rfl; exact h rfl
  ·intro h e
   simp only [List.getD_eq_getElem?_getD, List.getElem?_eq_getElem hq, List.getElem?_eq_getElem hp, Option.getD_some] at e
   exact h (nG hn hq hp e)
 have B := IW hn (fun y => y ≠ W.getD p 0) (fun x => vm b (dC (ms.getD x 0) k))
 constructor
 ·intro h S T hS hX hT
  refine B.mp (fun S T hS hX hT => ?_) S T hS (fun x hx => ?_) (fun x hx u hu => hT x hx u (by rw [pW]; exact hu))
  ·exact h S T hS (fun q hq => ⟨by rw [iG]; exact (hX q hq).1, (hg q (hX q hq).1).mp (hX q hq).2⟩) fun q hq l hl u hu hne => by
    obtain ⟨_, rfl⟩ := lZ hl
    exact hT q hq u ((t6 hk).mpr ⟨hu, hne⟩)
  ·have := List.mem_filter.mp (hX x hx)
   exact ⟨this.1, by simpa using this.2⟩
 ·intro h S T hS hX hT
  have hX' : ∀ q ∈ S, q < W.length ∧ q ≠ p := fun q hq => by have := hX q hq; rwa [iG] at this
  refine B.mpr (fun S T hS hX hT => h S T hS (fun x hx => List.mem_filter.mpr ⟨(hX x hx).1, by simpa using (hX x hx).2⟩) fun x hx u hu => hT x hx u (by rw [pW] at hu; exact hu)) S T hS (fun q hq => ⟨(hX' q hq).1, (hg q (hX' q hq).1).mpr (hX' q hq).2⟩) fun q hq u hu => ?_
  obtain ⟨h1, h2⟩ := (t6 hk).mp hu
  exact hT q hq _ (rD (hX' q hq).1) u h1 h2
theorem m6 {b : Int} {doms : List (List (Int × Int))} {ms : List Nat} (hm : d7 b doms ms) {W : List Nat} (hW : ∀ x ∈ W, x < ms.length) : eG doms W = qB b W ms := by
 unfold eG qB
 apply List.map_congr_left
 intro x hx
 have h1 := hW x hx
 have h2 : x < doms.length := by rw [hm.len]; exact h1
 have := (hm.at_ x _ _ (List.getElem?_eq_getElem h2) (List.getElem?_eq_getElem h1)).vals
 simp [h1, h2, this]
theorem vF {b : Int} {W ms : List Nat} (hn : W.Nodup) {p k : Nat} (hp : p < W.length) (hk : k < 5) : jE W ms (W.getD p 0) k = true ↔ (ms.getD (W.getD p 0) 0).testBit k = true ∧ i9 (qB b W ms) p (b + (k : Nat)) := by
 unfold jE
 rw [Bool.and_eq_true, jQ b, E0 hn hp hk]
 constructor
 ·rintro ⟨a, _, c⟩; exact ⟨a, c⟩
 ·rintro ⟨a, c⟩; exact ⟨a, hn.sublist List.filter_sublist, c⟩
theorem HW {b : Int} {W ms qZ : List Nat} {doms D : List (List (Int × Int))} (hm : d7 b doms ms) (hm' : d7 b D qZ) (hn : W.Nodup) (hW : ∀ x ∈ W, x < ms.length) (hcov : ∀ x, x < ms.length → x ∈ W)
  (h : Mid (eG doms W) W doms D (fun _ _ => True)) : qZ = iC W ms := by
 have hlen : qZ.length = ms.length := by rw [← hm'.len, ← hm.len]; exact h.len
 rw [m6 hm hW] at h
 apply List.ext_getElem
 ·simp [iC, hlen]
 ·intro x h1 h2
  have hx : x < ms.length := by lia
  obtain ⟨p, hp⟩ := List.getElem?_of_mem (hcov x hx)
  have hpl := (List.getElem?_eq_some_iff.mp hp).1
  have hg : W.getD p 0 = x := by simp [hp]
  obtain ⟨rs, hrs, _, hu⟩ := h.at_ p x _ hp (rD hpl)
  have hd := hm'.at_ x rs _ hrs (List.getElem?_eq_getElem h1)
  refine uZ (hm'.lt _ (List.getElem_mem h1)) ?_ fun k hk => ?_
  ·simp [iC]; exact yN _
  ·have e1 : (iC W ms)[x] = sumBits fun k => jE W ms x k := by simp [iC]
   rw [e1, mI _ hk, Bool.eq_iff_iff]
   have hs := vF (b := b) (ms := ms) hn hpl hk
   rw [hg] at hs
   rw [hs]
   have e2 : qZ[x].testBit k = true ↔ b + (k : Nat) ∈ aX rs := by
    rw [hd.mem]
    constructor
    ·intro h; exact ⟨k, hk, h, rfl⟩
    ·rintro ⟨j, _, hb, e⟩
     have : j = k := by lia
     rw [← this]; exact hb
   rw [e2, hu, hg]
   have e3 : b + (k : Nat) ∈ vm b (ms.getD x 0) ↔ (ms.getD x 0).testBit k = true := by
    rw [eW]
    constructor
    ·rintro ⟨j, _, hb, e⟩
     have : j = k := by lia
     rw [← this]; exact hb
    ·intro h; exact ⟨k, hk, h, rfl⟩
   rw [e3]
   constructor
   ·rintro ⟨a, c⟩; exact ⟨a, c trivial⟩
   ·rintro ⟨a, c⟩; exact ⟨a, fun _ => c⟩
noncomputable def jZ (firsts : List (List (Int × Int))) (scope : List Nat) (ps : List Nat) (few : List Int) (lo hi : Int) : List (Nat × Nat × Int) :=
 ps.flatMap fun p => [(scope.getD p 0, 8, lo), (scope.getD p 0, 9, hi)] ++ ((aX (firsts.getD (scope.getD p 0) [])).filter fun v => decide (lo < v) && decide (v < hi) && decide (v ∉ few)).map fun v => (scope.getD p 0, 51, v)
theorem Bn (firsts : List (List (Int × Int))) (scope ps : List Nat) (few : List Int) (lo hi : Int) : mB firsts scope ps few lo hi = (jZ firsts scope ps few lo hi).map sN := by
 unfold mB jZ
 rw [List.map_flatMap]
 congr 1
 funext p
 unfold iY
 rw [List.map_append, List.map_map]
 rfl
theorem nI {firsts : List (List (Int × Int))} {scope ps : List Nat} {few : List Int} {lo hi : Int} {z : Nat × Nat × Int} : z ∈ jZ firsts scope ps few lo hi ↔ ∃ p ∈ ps, z = (scope.getD p 0, 8, lo) ∨ z = (scope.getD p 0, 9, hi) ∨ ∃ v, v ∈ aX (firsts.getD (scope.getD p 0) []) ∧ lo < v ∧ v < hi ∧ v ∉ few ∧ z = (scope.getD p 0, 51, v) := by
 unfold jZ
 rw [List.mem_flatMap]
 refine exists_congr fun p => and_congr_right fun _ => ?_
 simp only [List.mem_append, List.mem_cons, List.not_mem_nil, or_false, List.mem_map, List.mem_filter, Bool.and_eq_true, decide_eq_true_eq, or_assoc]
 refine or_congr_right (or_congr_right ⟨?_, ?_⟩)
 ·rintro ⟨v, ⟨h1, ⟨h2, h3⟩, h4⟩, rfl⟩; exact ⟨v, h1, h2, h3, h4, rfl⟩
 ·rintro ⟨v, h1, h2, h3, h4, rfl⟩; exact ⟨v, ⟨h1, ⟨h2, h3⟩, h4⟩, rfl⟩
theorem Bo {firsts : List (List (Int × Int))} {scope : List Nat} {few : List Int} {lo hi : Int} (h : ∀ rs ∈ firsts, (aX rs).length ≤ 20) : ∀ ps : List Nat, (jZ firsts scope ps few lo hi).length ≤ 22 * ps.length := by
 intro ps
 induction ps with
 | nil => simp [jZ]
 | cons p ps ih =>
  have h1 : (jZ firsts scope (p :: ps) few lo hi) = (jZ firsts scope [p] few lo hi) ++ jZ firsts scope ps few lo hi := by
   unfold jZ; rw [List.flatMap_cons, List.flatMap_singleton]
  rw [h1, List.length_append, List.length_cons]
  have h2 : (jZ firsts scope [p] few lo hi).length ≤ 22 := by
   unfold jZ
   rw [List.flatMap_singleton, List.length_append, List.length_map]
   have := List.length_filter_le (fun v => decide (lo < v) && decide (v < hi) && decide (v ∉ few)) (aX (firsts.getD (scope.getD p 0) []))
   have h3 : (aX (firsts.getD (scope.getD p 0) [])).length ≤ 20 := by
    by_cases hx : scope.getD p 0 < firsts.length
    ·have e : firsts.getD (scope.getD p 0) [] = firsts[scope.getD p 0] := by
      rw [List.getD_eq_getElem?_getD, List.getElem?_eq_getElem hx]; rfl
     rw [e]; exact h _ (List.getElem_mem hx)
    ·have e : firsts.getD (scope.getD p 0) [] = [] := by
      rw [List.getD_eq_getElem?_getD, List.getElem?_eq_none (Nat.not_lt.mp hx)]; rfl
     rw [e]; simp [aX]
   exact Nat.add_le_add_left (Nat.le_trans this h3) 2
  rw [Nat.add_comm]
  exact Nat.add_le_add ih h2
theorem uC {ks : List Int} {lo hi : Int} (h0 : (cL ks)[0]? = some lo) (h1 : (cL ks).getLast? = some hi) : lo ∈ ks ∧ hi ∈ ks ∧ ∀ u ∈ ks, lo ≤ u ∧ u ≤ hi := by
 have hs := oE ks
 refine ⟨pN.mp (List.mem_of_getElem? h0), pN.mp (List.mem_of_getLast? h1), fun u hu => ?_⟩
 have hu' := pN.mpr hu
 have e1 : (cL ks)[(cL ks).length - 1]? = some hi := by rw [List.getLast?_eq_getElem?] at h1; exact h1
 generalize cL ks = l at *
 obtain ⟨n, hn⟩ := List.getElem?_of_mem hu'
 obtain ⟨ln, en⟩ := List.getElem?_eq_some_iff.mp hn
 obtain ⟨l0, e0⟩ := List.getElem?_eq_some_iff.mp h0
 obtain ⟨l1, e1⟩ := List.getElem?_eq_some_iff.mp e1
 have P := List.pairwise_iff_getElem.mp hs
 constructor
 ·by_cases h : n = 0
  ·subst h; rw [← e0, ← en]; exact Int.le_refl _
  ·have := P 0 n l0 ln (by lia); rw [e0, en] at this; exact this
 ·by_cases h : n = l.length - 1
  ·subst h; rw [← e1, ← en]; exact Int.le_refl _
  ·have := P n (l.length - 1) ln l1 (by lia); rw [e1, en] at this; exact this
section
variable {b : Int} {W ms es mk : List Nat} {firsts : List (List (Int × Int))} {ps : List Nat} {ks : List Int} {lo hi : Int}
theorem Fu (hW : ∀ x ∈ W, x < ms.length) (hp : ∀ p ∈ ps, p < W.length) : ∀ z ∈ jZ firsts W ps (cL ks) lo hi, B4 ms.length z := by
 intro z hz
 obtain ⟨p, hpp, h⟩ := nI.mp hz
 have hx : W.getD p 0 < ms.length := by
  have := hp p hpp
  refine hW _ ?_
  simp [this]
 rcases h with rfl | rfl | ⟨v, _, _, _, _, rfl⟩
 ·exact ⟨hx, .inr (.inl rfl)⟩
 ·exact ⟨hx, .inl rfl⟩
 ·exact ⟨hx, .inr (.inr rfl)⟩
theorem KG {v k : Int} : pB 8 v k = decide (k ≤ v) := rfl
theorem KE {v k : Int} : pB 9 v k = decide (v ≤ k) := rfl
theorem Cv {v k : Int} : pB 51 v k = decide (v ≠ k) := rfl
theorem yP (h0 : (cL ks)[0]? = some lo) (h1 : (cL ks).getLast? = some hi) (hlt : ∀ m ∈ mk, m < 32) (h : ∀ p ∈ ps, ∀ j, j < 5 → (mk.getD (W.getD p 0) 0).testBit j = true → b + (j : Nat) ∈ ks) : stood b mk (jZ firsts W ps (cL ks) lo hi) = true := by
 obtain ⟨_, _, hb⟩ := uC h0 h1
 unfold stood
 rw [List.all_eq_true]
 intro z hz
 rw [decide_eq_true_iff]
 obtain ⟨p, hp, hc⟩ := nI.mp hz
 have hx : z.1 = W.getD p 0 := by rcases hc with rfl | rfl | ⟨v, _, _, _, _, rfl⟩ <;> rfl
 have hm : mk.getD z.1 0 < 32 := by
  by_cases hl : z.1 < mk.length
  ·have : mk.getD z.1 0 = mk[z.1] := by simp [hl]
   rw [this]; exact hlt _ (List.getElem_mem hl)
  ·have : mk.getD z.1 0 = 0 := by rw [List.getD_eq_getElem?_getD, List.getElem?_eq_none (by lia)]; rfl
   rw [this]; decide
 refine uZ tT hm fun j hj => ?_
 rw [qU hj]
 cases OK : (mk.getD z.1 0).testBit j with
 | false => rfl
 | true =>
  rw [Bool.true_and]
  have hu := h p hp j hj (by rw [← hx]; exact OK)
  have hbu := hb _ hu
  rcases hc with rfl | rfl | ⟨v, _, _, _, hv, rfl⟩
  ·rw [KG, decide_eq_true_iff]; exact hbu.1
  ·rw [KE, decide_eq_true_iff]; exact hbu.2
  ·rw [Cv, decide_eq_true_iff]
   rintro rfl
   exact hv (pN.mpr hu)
theorem Bm (he : d7 b firsts es) (h0 : (cL ks)[0]? = some lo) (h1 : (cL ks).getLast? = some hi) {q : Nat} (hq : q ∈ ps) (hx : W.getD q 0 < es.length) (hlen : ms.length = es.length) {j : Nat} (hj : j < 5)
  (hsub : (ms.getD (W.getD q 0) 0).testBit j = true → (es.getD (W.getD q 0) 0).testBit j = true) (h : ((rN b ms (jZ firsts W ps (cL ks) lo hi)).getD (W.getD q 0) 0).testBit j = true) : b + (j : Nat) ∈ ks := by
 obtain ⟨hlo, hhi, _⟩ := uC h0 h1
 obtain ⟨hb, hl⟩ := (Ee hj _ _ _ (by lia)).mp h
 have g1 := hl (W.getD q 0, 8, lo) (nI.mpr ⟨q, hq, .inl rfl⟩) rfl
 have g2 := hl (W.getD q 0, 9, hi) (nI.mpr ⟨q, hq, .inr (.inl rfl)⟩) rfl
 rw [KG, decide_eq_true_iff] at g1
 rw [KE, decide_eq_true_iff] at g2
 dsimp only at g1 g2
 refine Classical.byContradiction fun hn => ?_
 have n1 : b + (j : Nat) ≠ lo := fun e => hn (e ▸ hlo)
 have n2 : b + (j : Nat) ≠ hi := fun e => hn (e ▸ hhi)
 have hv : b + (j : Nat) ∈ aX (firsts.getD (W.getD q 0) []) := by
  have hf : W.getD q 0 < firsts.length := by rw [he.len]; exact hx
  have e1 : firsts.getD (W.getD q 0) [] = firsts[W.getD q 0] := by rw [List.getD_eq_getElem?_getD, List.getElem?_eq_getElem hf]; rfl
  have e2 : es.getD (W.getD q 0) 0 = es[W.getD q 0] := by rw [List.getD_eq_getElem?_getD, List.getElem?_eq_getElem hx]; rfl
  rw [e1]
  refine ((he.at_ _ _ _ (List.getElem?_eq_getElem hf) (List.getElem?_eq_getElem hx)).mem _).mpr ⟨j, hj, ?_, rfl⟩
  rw [← e2]; exact hsub hb
 have g3 := hl (W.getD q 0, 51, b + (j : Nat)) (nI.mpr ⟨q, hq, .inr (.inr ⟨_, hv, by lia, by lia, fun z => hn (pN.mp z), rfl⟩)⟩) rfl
 rw [Cv, decide_eq_true_iff] at g3
 exact g3 rfl
theorem Ec (hn : W.Nodup) {all : List Nat} (ha : all.Nodup) (hal : ∀ q ∈ all, q < W.length) (hlen : ks.length < all.length) (h : ∀ q ∈ all, ∀ j, j < 5 → (mk.getD (W.getD q 0) 0).testBit j = true → b + (j : Nat) ∈ ks) : dS W mk = false := by
 cases hc : dS W mk with
 | false => rfl
 | true =>
  have := ((uE hn).mpr ((jQ b).mp hc).2) all ks ha (fun q hq => by rw [iG]; exact hal q hq) fun q hq l hl u hu => by
   obtain ⟨_, rfl⟩ := lZ hl
   obtain ⟨j, hj, hb, rfl⟩ := eW.mp hu
   exact h q hq j hj hb
  lia
end
noncomputable def AG (b : Int) (W es m m' : List Nat) (e : V) : Prop := E4 fun (x : Nat) (old : List (Int × Int)) (v : Int) (lits : List (Nat × Nat × Int)) => A9 (e = .tup [.int (x : Nat), dv old, sN (x, 51, v), .tup (lits.map sN), .int (-1)]) (x < m.length) (kE b old (m.getD x 0)) (m.getD x 0 < 32) (∀ z ∈ lits, B4 m.length z) (lits.length ≤ 900) (stood b m lits = true) (dS W (rN b (es.set x (es.getD x 0 - dF b (es.getD x 0) 51 v)) lits) = false) (m' = m.set x (dF b (m.getD x 0) 51 v))
inductive Told (b : Int) (W es : List Nat) : List Nat → List V → List Nat → Prop
 | nil {m : List Nat} : Told b W es m [] m
 | cons {m m1 m2 : List Nat} {e : V} {l : List V} : AG b W es m m1 e → Told b W es m1 l m2 → Told b W es m (e :: l) m2
theorem Told.snoc {b : Int} {W es m m1 m2 : List Nat} {e : V} {l : List V} (h : Told b W es m l m1) (s : AG b W es m1 m2 e) : Told b W es m (l ++ [e]) m2 := by
 induction h with
 | nil => exact .cons s .nil
 | cons s0 _ ih => exact .cons s0 (ih s)
theorem EF {b : Int} {m k : Nat} (hm : m < 32) (hk : k < 5) : dF b m 51 (b + (k : Nat)) = dC m k := by
 refine uZ tT ?_ fun j hj => ?_
 ·unfold dC
  have : m &&& (31 - 2 ^ k) ≤ m := Nat.and_le_left
  lia
 ·rw [qU hj, iB m k j hk hj, Cv]
  congr 1
  rw [decide_eq_decide]
  lia
theorem N0 (a0 b0 a1 b1 a2 b2 a3 b3 a4 b4 : Nat) : (a0 + b0) + (a1 + b1) + (a2 + b2) + (a3 + b3) + (a4 + b4) = (a0 + a1 + a2 + a3 + a4) + (b0 + b1 + b2 + b3 + b4) := by
 rw [Nat.add_add_add_comm a0 b0 a1 b1, Nat.add_add_add_comm (a0 + a1), Nat.add_add_add_comm (a0 + a1 + a2), Nat.add_add_add_comm (a0 + a1 + a2 + a3)]
theorem sub_part_bit {b : Int} {m : Nat} {v : Int} (hm : m < 32) {j : Nat} (hj : j < 5) : (m - dF b m 51 v).testBit j = (m.testBit j && decide (b + (j : Nat) = v)) := by
 have key : ∀ p q : Nat → Bool, sumBits p = sumBits (fun j => p j && q j) + sumBits fun j => p j && !q j := by
  intro p q
  have t : ∀ (a c : Bool) (n : Nat), (if a = true then n else 0) = (if (a && c) = true then n else 0) + (if (a && !c) = true then n else 0) := by
   intro a c n; cases a <;> cases c <;> simp
  unfold sumBits
  rw [t (p 0) (q 0), t (p 1) (q 1), t (p 2) (q 2), t (p 3) (q 3), t (p 4) (q 4)]
  exact N0 ..
 have h1 := key m.testBit (fun j => pB 51 (b + (j : Nat)) v)
 rw [kT hm] at h1
 have h2 : m - dF b m 51 v = sumBits fun j => m.testBit j && !pB 51 (b + (j : Nat)) v := by
  unfold dF
  lia
 rw [h2, mI _ hj, Cv]
 congr 1
 by_cases h : b + (j : Nat) = v <;> simp [h]
theorem JI {b : Int} {m : Nat} {v : Int} (hm : m < 32) : dF b m 51 v ≤ m := by
 have t : ∀ (a c : Bool) (n : Nat), (if (a && c) = true then n else 0) ≤ (if a = true then n else 0) := by
  intro a c n; cases a <;> cases c <;> simp
 have h : sumBits m.testBit = m := kT hm
 unfold dF
 conv => rhs; rw [← h]
 unfold sumBits
 have t0 := t (m.testBit 0) (pB 51 (b + (0 : Nat)) v) 1
 have t1 := t (m.testBit 1) (pB 51 (b + (1 : Nat)) v) 2
 have t2 := t (m.testBit 2) (pB 51 (b + (2 : Nat)) v) 4
 have t3 := t (m.testBit 3) (pB 51 (b + (3 : Nat)) v) 8
 have t4 := t (m.testBit 4) (pB 51 (b + (4 : Nat)) v) 16
 exact Nat.add_le_add (Nat.add_le_add (Nat.add_le_add (Nat.add_le_add t0 t1) t2) t3) t4
section
variable {b : Int} {W ms es : List Nat} {doms firsts D : List (List (Int × Int))} {own : Int → Option Nat} {ents : List V}
theorem Jp (he : d7 b firsts es) (hm : d7 b doms ms) (hlen : es.length = ms.length) (hn : W.Nodup) (hW : ∀ x ∈ W, x < ms.length) (hWl : W.length ≤ 6) (hfl : ∀ rs ∈ firsts, (aX rs).length ≤ 20) (h : oQ (qB b W ms) own W firsts doms ents D) :
  ∃ m', d7 b D m' ∧ Told b W es ms ents m' ∧ m'.length = ms.length ∧ ∀ (x j : Nat), (m'.getD x 0).testBit j = true → (ms.getD x 0).testBit j = true := by
 induction h with
 | nil => exact ⟨ms, hm, .nil, rfl, fun _ _ h => h⟩
 | snoc hs hpx hr hv hl hvl hC hp h0 h1 ih =>
  rename_i ents D p x v lo hi rs l ks ps
  obtain ⟨mk, hmk, hT, hml, hsub⟩ := ih
  obtain ⟨hpW, rfl⟩ := lZ hl
  have hgp : W.getD p 0 = x := by simp [hpx]
  have hxm : x < ms.length := hW x (List.mem_of_getElem? hpx)
  have hxk : x < mk.length := by lia
  have hgk : mk.getD x 0 = mk[x] := by rw [List.getD_eq_getElem?_getD, List.getElem?_eq_getElem hxk]; rfl
  have hd := hmk.at_ x rs _ hr (List.getElem?_eq_getElem hxk)
  have hlt := hmk.lt _ (List.getElem_mem hxk)
  obtain ⟨j0, hj0, hb0, rfl⟩ := (hd.mem v).mp hv
  have Ae : ∀ q ∈ ps, q < W.length := fun q hq => by have := hC.lt q hq; rwa [iG] at this
  have hin : ∀ q ∈ ps, ∀ j, j < 5 → (ms.getD (W.getD q 0) 0).testBit j = true → b + (j : Nat) ∈ ks := fun q hq j hj hb =>
   hC.sub q hq _ (rD (Ae q hq)) _ (eW.mpr ⟨j, hj, hb, rfl⟩)
  have hxe : x < es.length := by lia
  have hge : es.getD x 0 = es[x] := by rw [List.getD_eq_getElem?_getD, List.getElem?_eq_getElem hxe]; rfl
  have helt : es.getD x 0 < 32 := by rw [hge]; exact he.lt _ (List.getElem_mem hxe)
  have KM : (es.set x (es.getD x 0 - dF b (es.getD x 0) 51 (b + (j0 : Nat)))).getD x 0 = es.getD x 0 - dF b (es.getD x 0) 51 (b + (j0 : Nat)) := by
   rw [List.getD_eq_getElem?_getD, List.getElem?_set_self hxe]; rfl
  refine ⟨mk.set x (dF b (mk.getD x 0) 51 (b + (j0 : Nat))), ⟨by simp [hmk.len], ?_, ?_⟩, hT.snoc ⟨x, rs, b + (j0 : Nat), jZ firsts W ps (cL ks) lo hi, ?_, hxk, by rw [hgk]; exact hd, by rw [hgk]; exact hlt, ?_, ?_, ?_, ?_, rfl⟩, by simp [hml], ?_⟩
  ·intro y ry my hy hmy
   by_cases hyx : x = y
   ·subst hyx
    have hxD := (List.getElem?_eq_some_iff.mp hr).1
    rw [List.getElem?_set_self hxD] at hy
    rw [List.getElem?_set_self hxk] at hmy
    cases hy; cases hmy
    rw [hgk, EF hlt hj0]
    exact hd.without hj0
   ·rw [List.getElem?_set_ne hyx] at hy hmy
    exact hmk.at_ y ry my hy hmy
  ·intro m hm'
   rcases List.mem_or_eq_of_mem_set hm' with h | rfl
   ·exact hmk.lt m h
   ·exact tT
  ·rw [Bn]; rfl
  ·rw [hml]; exact Fu hW Ae
  ·have a := Bo (scope := W) (few := cL ks) (lo := lo) (hi := hi) hfl ps
   have : ps.length ≤ W.length := by
    have := cR (m := List.range W.length) hC.nH fun q hq => List.mem_range.mpr (Ae q hq)
    simpa using this
   lia
  ·exact yP h0 h1 hmk.lt fun q hq j hj hb => hin q hq j hj (hsub _ _ hb)
  ·refine Ec (b := b) (ks := ks) hn (all := p :: ps) (List.nodup_cons.mpr ⟨hp, hC.nH⟩) (fun q hq => ?_) (by rw [List.length_cons, hC.len]; lia) (fun q hq j hj hb => ?_)
   ·rcases List.mem_cons.mp hq with rfl | hq
    ·exact hpW
    ·exact Ae q hq
   ·rcases List.mem_cons.mp hq with rfl | hq
    ·rw [hgp] at hb
     have h2 := ((Ee hj _ _ _ (by simpa using hxe)).mp hb).1
     rw [KM, sub_part_bit helt hj, Bool.and_eq_true, decide_eq_true_iff] at h2
     rw [h2.2]; exact hC.start
    ·have hqx : W.getD q 0 < es.length := by
      have := Ae q hq
      rw [hlen]; refine hW _ ?_
      simp [this]
     refine Bm (ms := es.set x (es.getD x 0 - dF b (es.getD x 0) 51 (b + (j0 : Nat)))) he h0 h1 hq hqx (by simp) hj (fun h => ?_) hb
     by_cases hqe : x = W.getD q 0
     ·rw [← hqe] at h ⊢
      rw [KM, sub_part_bit helt hj, Bool.and_eq_true] at h
      exact h.1
     ·rw [List.getD_eq_getElem?_getD, List.getElem?_set_ne hqe] at h
      exact h
  ·intro y j hb
   by_cases hyx : x = y
   ·subst hyx
    rw [List.getD_eq_getElem?_getD, List.getElem?_set_self hxk] at hb
    refine hsub x j ?_
    by_cases hj : j < 5
    ·have : (dF b (mk.getD x 0) 51 (b + (j0 : Nat))).testBit j = true := hb
     rw [qU hj, Bool.and_eq_true] at this
     exact this.1
    ·have : (dF b (mk.getD x 0) 51 (b + (j0 : Nat))).testBit j = false := Nat.testBit_lt_two_pow (Nat.lt_of_lt_of_le tT (by
      have : 2 ^ 5 ≤ 2 ^ j := Nat.pow_le_pow_right (by lia) (by lia)
      simpa using this))
     rw [show (some (dF b (mk.getD x 0) 51 (b + (j0 : Nat)))).getD 0 = dF b (mk.getD x 0) 51 (b + (j0 : Nat)) from rfl, this] at hb
     cases hb
   ·rw [List.getD_eq_getElem?_getD, List.getElem?_set_ne hyx] at hb
    exact hsub y j hb
end
noncomputable def Gh (b : Int) (W ms : List Nat) : Prop := ∀ p k, p < W.length → k < 5 → (ms.getD (W.getD p 0) 0).testBit k = true → i9 (qB b W ms) p (b + (k : Nat))
section
variable {b : Int} {W ms es : List Nat} {doms firsts D : List (List (Int × Int))} {own : Int → Option Nat} {aZ : Nat → Option Int}
theorem G2 {x : Nat} (h : dS W ms = true) (hx : x ∈ W) : ms.getD x 0 ≠ 0 := by
 intro h0
 have := ((jQ 0).mp h).2 [x] [] (by simp) (by simpa using hx) (fun y hy u hu => by
  simp only [List.mem_singleton] at hy; subst hy
  rw [h0] at hu
  obtain ⟨k, _, hb, _⟩ := eW.mp hu
  simp at hb)
 simp at this
theorem d7.vals (h : d7 b doms ms) {rs : List (Int × Int)} (hr : rs ∈ doms) : ∃ m ∈ ms, kE b rs m := by
 obtain ⟨x, hx⟩ := List.getElem?_of_mem hr
 have hl := (List.getElem?_eq_some_iff.mp hx).1
 have hl2 : x < ms.length := by rw [← h.len]; exact hl
 exact ⟨_, List.getElem_mem hl2, h.at_ x _ _ hx (List.getElem?_eq_getElem hl2)⟩
theorem Hb {m : Nat} (hm : m < 32) (h0 : m ≠ 0) : vm b m ≠ [] := by
 intro e
 refine h0 (uZ hm (by decide) fun k hk => ?_)
 cases hb : m.testBit k with
 | false => simp
 | true =>
  have : b + (k : Nat) ∈ vm b m := eW.mpr ⟨k, hk, hb, rfl⟩
  rw [e] at this
  cases this
theorem C6 {x k : Nat} (hx : x < ms.length) (hk : k < 5) : ((iC W ms).getD x 0).testBit k = jE W ms x k := by
 have : (iC W ms).getD x 0 = sumBits fun k => jE W ms x k := by simp [iC, hx]
 rw [this, mI _ hk]
theorem Hk (K : cY (qB b W ms) aZ own) (hf : Full (qB b W ms) aZ) (hn : W.Nodup) (hW : ∀ x ∈ W, x < ms.length) : dS W (iC W ms) = true ∧ Gh b W (iC W ms) := by
 have hWp : ∀ p, p < W.length → W.getD p 0 < ms.length := fun p hp => by
  refine hW _ ?_
  simp [hp]
 obtain ⟨K', hf', hall⟩ := second K hf (cs' := qB b W (iC W ms)) (by rw [iG, iG]) fun p l l' hl hl' v => by
  obtain ⟨hp, rfl⟩ := lZ hl
  obtain ⟨_, rfl⟩ := lZ hl'
  have hx := hWp p hp
  rw [eW, eW]
  constructor
  ·rintro ⟨k, hk, hb, rfl⟩
   rw [C6 hx hk, vF (b := b) hn hp hk] at hb
   exact ⟨⟨k, hk, hb.1, rfl⟩, hb.2⟩
  ·rintro ⟨⟨k, hk, hb, rfl⟩, hH⟩
   exact ⟨k, hk, by rw [C6 hx hk, vF (b := b) hn hp hk]; exact ⟨hb, hH⟩, rfl⟩
 refine ⟨(jQ b).mpr ⟨hn, (uE hn).mp (FW K' hf')⟩, fun p k hp hk hb => ?_⟩
 exact hall p _ _ (rD hp) (eW.mpr ⟨k, hk, hb, rfl⟩)
theorem Er {scope : List Nat} {ents : List V} (hA : Gh b W ms) (h : oQ (qB b W ms) own scope firsts doms ents D) : ents = [] := by
 cases h with
 | nil => rfl
 | snoc hs hpx hr hv hl hvl hC hp h0 h1 =>
  obtain ⟨hpW, rfl⟩ := lZ hl
  obtain ⟨k, hk, hb, rfl⟩ := eW.mp hvl
  exact absurd (hA _ k hpW hk hb) (Av hC hp)
end
section
variable {σ : St} {i a f t mk nw r : Nat} {b : Int} {W ms es : List Nat} {doms firsts : List (List (Int × Int))} {trail marks clash : List V}
noncomputable def NJ (σ σ' : St) (i a f t mk nw : Nat) (b : Int) (W ms es : List Nat) (doms firsts : List (List (Int × Int))) (trail marks clash : List V) (v : V) : Prop :=
 A3 (Ext (fun z => z = i ∨ z = a ∨ z = t ∨ z = nw) σ σ') (v = .bool (dS W ms)) ((dS W ms = false ∧ ∃ lits, A5 (SV σ' i a f t mk nw doms firsts trail marks true (lits.map sN)) (∀ z ∈ lits, B4 ms.length z) (lits.length ≤ 900) (stood b ms lits = true) (dS W (rN b es lits) = false)) ∨
  (dS W ms = true ∧ E2 fun D ents => A8 (SV σ' i a f t mk nw D firsts (trail ++ ents) marks false clash) (d7 b D (iC W ms)) (Told b W es ms ents (iC W ms)) (Tr doms ents D) (ents.length ≤ 50) (dS W (iC W ms) = true) (Gh b W (iC W ms)) (Gh b W ms → ents = [])))
theorem vS (s : SV σ i a f t mk nw doms firsts trail marks false clash) (hm : d7 b doms ms) (he : d7 b firsts es) (hlen : es.length = ms.length) (hne : ∀ m ∈ ms, m ≠ 0) (hr : bT σ r = some (ad W)) (hri : r ≠ i)
  (hW : ∀ x ∈ W, x < ms.length) (hcov : ∀ x, x < ms.length → x ∈ W) (hWl : W.length ≤ 6) (hml : ms.length ≤ 10) (b5 : trail.length ≤ 900) :
  wp (bS [.inst 2 r, .inst 0 i] σ) fun v σ' => NJ σ σ' i a f t mk nw b W ms es doms firsts trail marks clash v := by
 have hdl := hm.len
 have hfl := he.len
 have hfg : ∀ rs ∈ firsts, Good rs ∧ (aX rs).length ≤ 20 := fun rs h => by
  obtain ⟨m, _, hd⟩ := he.vals h
  refine ⟨hd.good, ?_⟩
  rw [hd.vals]
  exact Nat.le_trans (B8 b m) (by decide)
 refine byC fun hG => ?_
 have hgd : ∀ rs ∈ doms, A3 (Good rs) ((aX rs).length ≤ 5) (aX rs ≠ []) := fun rs h => by
  obtain ⟨m, hmm, hd⟩ := hm.vals h
  refine ⟨hd.good, by rw [hd.vals]; exact B8 b m, ?_⟩
  rw [hd.vals]
  exact Hb (hm.lt m hmm) (hne m hmm)
 ·obtain ⟨v, σ', e, E, h⟩ := zJ s hr hri (fun x hx => hdl ▸ hW x hx) (hfl.trans (hlen.trans hdl.symm)) hfg hgd (Nat.le_trans hWl (by decide)) (hdl ▸ Nat.le_trans hml (by decide)) b5
  rw [m6 hm hW] at h
  replace hG := fun q => hG ⟨v, σ', e, q⟩
  clear e hgd
  rcases h with ⟨hn, rfl, s'⟩ | ⟨hn, rfl, ps, ks, lo, hi, hw, h0, h1, s'⟩ | ⟨hn, rfl, aZ, own, D, ents, K, hf, s', hM, hS, hc⟩
  ·have hcs : ∀ m, dS W m = false := fun m => by unfold dS; rw [decide_eq_false hn]; rfl
   exact hG ⟨E, by rw [hcs], .inl ⟨hcs _, [], s', fun _ h => (List.not_mem_nil h).elim, Nat.zero_le _, rfl, hcs _⟩⟩
  ·have hcs : dS W ms = false := by
    cases hc : dS W ms with
    | false => rfl
    | true => exact absurd ((uE hn).mpr ((jQ b).mp hc).2) (Ha hw)
   have Ae : ∀ q ∈ ps, q < W.length := fun q hq => by have := hw.lt q hq; rwa [iG] at this
   have hin : ∀ q ∈ ps, ∀ j, j < 5 → (ms.getD (W.getD q 0) 0).testBit j = true → b + (j : Nat) ∈ ks := fun q hq j hj hb =>
    hw.sub q hq _ (rD (Ae q hq)) _ (eW.mpr ⟨j, hj, hb, rfl⟩)
   refine hG ⟨E, by rw [hcs], .inl ⟨hcs, jZ firsts W ps (cL ks) lo hi, by rw [← Bn]; exact s', Fu hW Ae, ?_, yP h0 h1 hm.lt hin, ?_⟩⟩
   ·have h2 := Bo (scope := W) (few := cL ks) (lo := lo) (hi := hi) (fun rs h => (hfg rs h).2) ps
    have : ps.length ≤ W.length := by
     have := cR (m := List.range W.length) hw.nH fun q hq => List.mem_range.mpr (Ae q hq)
     simpa using this
    lia
   ·refine Ec (b := b) (ks := ks) hn hw.nH Ae (by rw [hw.len]; lia) fun q hq j hj hb => ?_
    have hqx : W.getD q 0 < es.length := by
     have := Ae q hq
     rw [hlen]; refine hW _ ?_
     simp [this]
    exact Bm he h0 h1 hq hqx rfl hj (fun h => h) hb
  ·have hcs : dS W ms = true := (jQ b).mpr ⟨hn, (uE hn).mp (FW K hf)⟩
   obtain ⟨m', hm', hT, hl', hsub⟩ := Jp he hm hlen hn hW hWl (fun rs h => (hfg rs h).2) hS
   rw [← m6 hm hW] at hM
   have hst := HW hm hm' hn hW hcov hM
   subst hst
   obtain ⟨f1, f2⟩ := Hk K hf hn hW
   exact hG ⟨E, by rw [hcs], .inr ⟨hcs, D, ents, s', hm', hT, hS.tr, hc, f1, f2, fun hA => Er hA hS⟩⟩
end
theorem GX : ∀ l m : List Nat, pC (aJ l) (aJ m) = decide (l = m) := by
 intro l
 induction l with
 | nil => intro m; cases m <;> rfl
 | cons a l ih =>
  intro m
  cases m with
  | nil => rfl
  | cons c m =>
   show (((a : Int) == (c : Int)) && pC (aJ l) (aJ m)) = _
   rw [ih, Bool.eq_iff_iff, Bool.and_eq_true, beq_iff_eq, decide_eq_true_iff, decide_eq_true_iff, List.cons.injEq, Int.ofNat_inj]
theorem nF (k : Nat) (l : List Nat) : (aJ l).all (okV k) = true := by
 rw [List.all_eq_true]
 intro x hx
 obtain ⟨n, _, rfl⟩ := List.mem_map.mp hx
 cases k <;> rfl
section
variable {σ : St}
theorem t5 {i j : Nat} {l m : List Nat} (h : getL σ i = some (aJ l)) (h' : getL σ j = some (aJ m)) (hl : l.length ≤ 1000) (hm : m.length ≤ 1000) : iF (.obj i) (.obj j) σ = some (.bool (decide (l ≠ m)), σ) := by
 have e1 : (aJ l).length = l.length := by simp [aJ]
 have e2 : (aJ m).length = m.length := by simp [aJ]
 rw [Cq h h']
 by_cases hlen : l.length = m.length
 ·rw [if_neg (by rw [e1, e2]; lia)]
  unfold oNe
  rw [CM h h' (nF 5 l) (nF 5 m), GX]
  simp
 ·rw [if_pos ⟨by rw [e1, e2]; exact hlen, by lia, by lia⟩]
  have : l ≠ m := by rintro rfl; exact hlen rfl
  simp [this]
theorem N5 {j x : Nat} {l : List V} (h : getL σ j = some l) (hl : l.length ≤ 400) : gP (.obj j) none (some (x : Int)) σ = some (.obj σ.length, σ ++ [.list (l.take x)]) := by
 unfold gP
 simp only [h, Option.bind_some]
 rw [if_pos (by lia)]
 unfold sliceOf
 simp
theorem Lc {j x : Nat} {l : List V} (h : getL σ j = some l) (hl : l.length ≤ 400) : gP (.obj j) (some ((x : Int) + 1)) none σ = some (.obj σ.length, σ ++ [.list (l.drop (x + 1))]) := by
 unfold gP
 simp only [h, Option.bind_some]
 rw [if_pos (by lia)]
 unfold sliceOf
 dsimp only
 rw [if_pos (by lia)]; rfl
theorem NC {i j : Nat} {l m : List V} (h : getL σ i = some l) (h' : getL σ j = some m) (hl : l.length + m.length ≤ 1000) : eJ (.obj i) (.obj j) σ = some (.obj σ.length, σ ++ [.list (l ++ m)]) := by
 show ((getL σ i).bind fun a => (getL σ j).bind fun b => if a.length + b.length ≤ 1000 then some (V.obj σ.length, σ ++ [O.list (a ++ b)]) else none) = _
 rw [h, h']
 exact if_pos hl
theorem splice {lj x : Nat} {l : List V} {w : V} {a0 a1 a3 a4 a5 a7 a8 a9 a10 a12 : Option V} (hl : getL σ lj = some l) (hx : x < l.length) (hlen : l.length ≤ 400) :
  xp (X.bin eJ (X.bin eJ (X.slice (X.var 2) none (some (X.var 6))) (X.hY (X.aB (X.var 11) X.aH))) (X.slice (X.var 2) (some (X.bin eJ (X.var 6) (X.pure (.int 1)))) none))
   [a0, a1, some (.obj lj), a3, a4, a5, some (.int (x : Nat)), a7, a8, a9, a10, some w, a12] σ fun r σ' => ∃ j, A3 (r = .obj j) (getL σ' j = some (l.set x w)) (bV σ σ') := by
 have e1 := N5 (x := x) hl hlen
 have P1 : bV σ (σ ++ [O.list (l.take x)]) := .push _
 have g1 := cE (σ := σ) (l := l.take x)
 generalize σ ++ [O.list (l.take x)] = aT at e1 P1 g1
 have P2 : bV aT (aT ++ [O.list [w]]) := .push _
 have ht : (l.take x).length ≤ 400 := Nat.le_trans (List.length_take_le' ..) hlen
 have e3 := NC (P2.getL g1 id) cE (Nat.add_le_add ht (Nat.le_of_ble_eq_true rfl : 1 ≤ 600))
 have P3 : bV (aT ++ [O.list [w]]) (aT ++ [O.list [w]] ++ [O.list (l.take x ++ [w])]) := .push _
 have g3 := cE (σ := aT ++ [O.list [w]]) (l := l.take x ++ [w])
 have P03 := P1.then (P2.then P3)
 have e2 := pZ (ρ := [a0, a1, some (.obj lj), a3, a4, a5, some (.int (x : Nat)), a7, a8, a9, a10, some w, a12]) (f := X.aB (X.var 11) X.aH) (σ := aT) (l := [w]) rfl (Nat.le_of_ble_eq_true rfl)
 generalize aT ++ [O.list [w]] = bH at e2 e3 P03 g3
 clear P2 P3 P1 g1
 generalize bH ++ [O.list (l.take x ++ [w])] = dQ at e3 P03 g3
 have e4 := Lc (x := x) (P03.getL hl id) hlen
 have P4 : bV dQ (dQ ++ [O.list (l.drop (x + 1))]) := .push _
 have e5 := NC (P4.getL g3 id) cE (by rw [List.length_append, List.length_drop]; exact Nat.add_le_add (Nat.add_le_add ht (Nat.le_of_ble_eq_true rfl : 1 ≤ 1)) (Nat.le_trans (Nat.sub_le _ _) (Nat.le_trans hlen (by decide : 400 ≤ 599))))
 refine ⟨_, _, aQ (aQ (rB rfl rfl e1) e2 e3) (wS rfl rfl e4) e5, _, rfl, cE.trans (congrArg some ?_), P03.then (P4.then (.push _))⟩
 rw [List.set_eq_take_append_cons_drop, if_pos hx, List.append_assoc]; rfl
end
noncomputable def IZ : XS := (XS.seq (XS.ite (X.pE (X.test (X.bin iF (X.call mG (X.aB (X.var 7) (X.aB (X.var 4) X.aH))) (X.sub (X.var 2) (X.var 6)))) (X.pE (X.n8 (X.test (X.call jA (X.aB (X.var 9) (X.aB (X.var 2) (X.aB (X.var 4) X.aH)))))) X.orZ)) (XS.seq (XS.ret (X.pure (.bool false))) XS.nil) XS.nil) (XS.seq (XS.assign (X.call fS (X.aB (X.sub (X.var 2) (X.var 6)) (X.aB (X.var 8) (X.aB (X.var 4) X.aH)))) (XA.name 11)) (XS.seq (XS.assign (X.call (bW uH) (X.aB (X.var 3) X.aH)) (XA.name 12)) (XS.seq (XS.assign (X.bin rL (X.sub (X.var 12) (X.var 6)) (X.call fS (X.aB (X.sub (X.var 12) (X.var 6)) (X.aB (X.var 8) (X.aB (X.var 4) X.aH))))) (XA.item (X.var 12) (X.var 6))) (XS.seq (XS.ite (X.n8 (X.test (X.call kC (X.aB (X.var 5) (X.aB (X.var 12) (X.aB (X.var 9) (X.aB (X.var 4) X.aH))))))) (XS.seq (XS.ret (X.pure (.bool false))) XS.nil) XS.nil) (XS.seq (XS.assign (X.bin eJ (X.bin eJ (X.slice (X.var 2) none (some (X.var 6))) (X.hY (X.aB (X.var 11) X.aH))) (X.slice (X.var 2) (some (X.bin eJ (X.var 6) (X.pure (.int 1)))) none)) (XA.name 2)) XS.nil))))))
section
variable {σ : St} {Q : Fl → Loc → St → Prop} {a0 a1 a6 a7 a8 a9 a10 a11 a12 : Option V} {lj ej : Nat} {b : Int} {W m m' es : List Nat} {e : V}
theorem J4 {j : Nat} {l : List V} (h : getL σ j = some l) (hl : l.length ≤ 1000) : uH (.obj j) σ = some (.obj σ.length, σ ++ [.list l]) := by
 unfold uH
 simp only [h, Option.bind_some]
 rw [if_pos (Nat.le_trans hl (by decide))]
theorem Gm (hl : getL σ lj = some (aJ m)) (he : getL σ ej = some (aJ es)) (hS : AG b W es m m' e) (hlen : es.length = m.length) (hml : m.length ≤ 10) (hes : ∀ x ∈ es, x < 32) (hW : ∀ x ∈ W, x < m.length) (hWl : W.length ≤ 6) (hb1 : -20 ≤ b) (hb2 : b ≤ 20)
  (hQ : ∀ σ' Mq a6 a7 a8 a9 a10 a11 a12, bV σ σ' → getL σ' Mq = some (aJ m') → Q .next [a0, a1, some (.obj Mq), some (.obj ej), some (.int b), some (.tup (aJ W)), a6, a7, a8, a9, a10, a11, a12] σ') :
  ap (XA.tup [XA.name 6, XA.name 7, XA.name 8, XA.name 9, XA.name 10]) e [a0, a1, some (.obj lj), some (.obj ej), some (.int b), some (.tup (aJ W)), a6, a7, a8, a9, a10, a11, a12] σ fun B6 aT => sp IZ B6 aT Q := by
 refine byC fun hG => ?_
 obtain ⟨x, old, v, lits, rfl, hxm, hd, LJ, hok, hn, hst, Io, rfl⟩ := hS
 have hm1 := Nat.le_trans hml (by decide : 10 ≤ 1000)
 have hm2 := Nat.le_trans hml (by decide : 10 ≤ 100)
 have hxe : x < es.length := hlen ▸ hxm
 have OF : es.getD x 0 < 32 := by rw [List.getD_eq_getElem?_getD, List.getElem?_eq_getElem hxe]; exact hes _ (List.getElem_mem hxe)
 obtain ⟨_, aT, e1, rfl, E1⟩ := DA (σ := σ) hd LJ hb1 hb2
 have hl1 := E1.getL hl id
 have g1 := gR hl1 hxm hm1
 have n1 := MW (σ := aT) (a := (m.getD x 0 : Nat)) rfl
 obtain ⟨_, bH, e2, rfl, E2⟩ := yQ (b := b) hl1 hm2 hok hn
 rw [hst] at e2
 have hl2 := E2.getL hl1 id
 have g2 := gR hl2 hxm hm1
 obtain ⟨_, dQ, e3, rfl, E3⟩ := qT (σ := bH) (m := m.getD x 0) (sg := 51) (x := x) (kk := v) (b := b) (.inr (.inr rfl))
 have E03 := (E1.then E2).then E3
 have he3 := E03.getL he id
 have hgl := J4 he3 (by unfold aJ; rw [List.length_map, hlen]; exact hm1)
 have P4 : bV dQ (dQ ++ [O.list (aJ es)]) := .push _
 have g4 : getL (dQ ++ [O.list (aJ es)]) dQ.length = some (aJ es) := cE
 have g4x := gR g4 hxe (hlen ▸ hm1)
 have E04 := E03.then P4
 have h03 := E03.1
 generalize dQ ++ [O.list (aJ es)] = kS at hgl g4 g4x E04
 generalize dQ.length = rj at hgl g4 g4x h03
 obtain ⟨_, pA, e5, rfl, E5⟩ := qT (σ := kS) (m := es.getD x 0) (sg := 51) (x := x) (kk := v) (b := b) (.inr (.inr rfl))
 have g5 := E5.getL g4 id
 have hsub : rL (.int (es.getD x 0 : Nat)) (.int (dF b (es.getD x 0) 51 v : Nat)) pA = some (.int ((es.getD x 0 - dF b (es.getD x 0) 51 v : Nat) : Int), pA) := congrArg (fun z => some (V.int z, pA)) (Int.ofNat_sub (JI OF)).symm
 have hil : (aJ es).length = es.length := List.length_map _
 have i5 := vA (v := .int ((es.getD x 0 - dF b (es.getD x 0) 51 v : Nat) : Int)) g5 (Int.natCast_nonneg x) (Int.ofNat_lt.mpr (Nat.lt_of_lt_of_le hxm (Nat.le_trans hml (by decide : 10 ≤ 100000)))) (by rw [hil]; exact hxe)
 have Ii : (aJ es).set (x : Int).toNat (.int ((es.getD x 0 - dF b (es.getD x 0) 51 v : Nat) : Int)) = aJ (es.set x (es.getD x 0 - dF b (es.getD x 0) 51 v)) := by
  unfold aJ; rw [List.map_set]; rfl
 rw [Ii] at i5
 have g6 := c0 (l := aJ (es.set x (es.getD x 0 - dF b (es.getD x 0) 51 v))) (bE g5)
 have E06 : bV σ (pA.set rj (.list (aJ (es.set x (es.getD x 0 - dF b (es.getD x 0) 51 v))))) := (E04.then E5).trans (M' := fun z => z = rj) (.set _ rfl) (fun z h => .inr (h ▸ h03))
 generalize pA.set rj (.list (aJ (es.set x (es.getD x 0 - dF b (es.getD x 0) 51 v)))) = nV at i5 g6 E06
 have hsl : (es.set x (es.getD x 0 - dF b (es.getD x 0) 51 v)).length = m.length := (List.length_set ..).trans hlen
 obtain ⟨_, En, e7, rfl, E7⟩ := B1 (b := b) g6 (by rw [hsl]; exact hm2) (by rw [hsl]; exact hok) hn (by rw [hsl]; exact hW) hWl
 rw [Io] at e7
 have E07 := E06.then E7
 have Ni : (aJ m).length = m.length := List.length_map _
 obtain ⟨_, NW, e8, Mq, rfl, g8, E8⟩ := splice (w := .int (dF b (m.getD x 0) 51 v : Nat)) (a0 := a0) (a1 := a1) (a3 := some (.obj ej)) (a4 := some (.int b)) (a5 := some (.tup (aJ W))) (a7 := some (dv old)) (a8 := some (sN (x, 51, v))) (a9 := some (.tup (lits.map sN))) (a10 := some (.int (-1))) (a12 := some (.obj rj)) (E07.getL hl id) (x := x) (by rw [Ni]; exact hxm) (by rw [Ni]; exact Nat.le_trans hml (by decide))
 have hms : (aJ m).set x (.int (dF b (m.getD x 0) 51 v : Nat)) = aJ (m.set x (dF b (m.getD x 0) 51 v)) := by
  unfold aJ; rw [List.map_set]
 rw [hms] at g8
 exact hG ⟨_, _, rfl, cZ (f3 (aP (aQ (aN rfl e1) (bN rfl rfl g1) n1)) (f3 (kK (aP (aN rfl e2))) rfl)) (fQ (aN (aK (bN rfl rfl g2) rfl) e3) rfl (fQ (aN rfl hgl) rfl (fQ (aQ (bN rfl rfl g4x) (aN (aK (bN rfl rfl g4x) rfl) e5) hsub) (Gb rfl rfl i5) (cZ (kK (aP (aN rfl e7))) (fQ e8 rfl (dG (hQ NW Mq _ _ _ _ _ _ _ (E07.then E8) g8)))))))⟩
end
inductive NG (st mk : V) (ej : Nat) (b : Int) (W es m' : List Nat) (ents : List V) (n : Nat) (σ : St) (k : Nat) (ρ : Loc) (σ' : St) (lj : Nat) (m : List Nat) : Prop
 | intro (E : bV σ σ') (r : E7 fun a6 a7 a8 a9 a10 a11 a12 => ρ = [some st, some mk, some (.obj lj), some (.obj ej), some (.int b), some (.tup (aJ W)), a6, a7, a8, a9, a10, a11, a12]) (g : getL σ' lj = some (aJ m)) (n : m.length = n) (T : Told b W es m (ents.drop k) m')
theorem Told.len {b : Int} {W es m m' : List Nat} {l : List V} (h : Told b W es m l m') : m'.length = m.length := by
 induction h with
 | nil => rfl
 | cons s _ ih =>
  obtain ⟨x, old, v, lits, _, _, _, _, _, _, _, _, rfl⟩ := s
  exact ih.trans (List.length_set ..)
section
variable {σ : St} {i a f t mk nw lj ej : Nat} {b : Int} {W ms m' es : List Nat} {D firsts : List (List (Int × Int))} {trail ents marks clash : List V} {failed : Bool}
theorem Br (s : SV σ i a f t mk nw D firsts (trail ++ ents) marks failed clash) (hT : Told b W es ms ents m') (hD : d7 b D m') (hl : getL σ lj = some (aJ ms)) (he : getL σ ej = some (aJ es)) (hlen : es.length = ms.length) (hml : ms.length ≤ 10)
  (hes : ∀ x ∈ es, x < 32) (hW : ∀ x ∈ W, x < ms.length) (hWl : W.length ≤ 6) (hb1 : -20 ≤ b) (hb2 : b ≤ 20) (hen : ents.length ≤ 900) (htr : (trail ++ ents).length ≤ 1000)
  (hf : failed = true → ∃ lits, A5 (clash = lits.map sN) (∀ z ∈ lits, B4 ms.length z) (lits.length ≤ 900) (stood b m' lits = true) (dS W (rN b es lits) = false)) :
  wp (gA [.inst 0 i, .int (trail.length : Nat), .obj lj, .obj ej, .int b, .tup (aJ W)] σ) fun r σ' => r = .bool true ∧ bV σ σ' := by
 refine byC fun hG => ?_
 have hml' := hT.len
 have hm1 := Nat.le_trans hml (by decide : 10 ≤ 1000)
 have hm2 := Nat.le_trans hml (by decide : 10 ≤ 100)
 have A1 : gP (.obj t) (some (trail.length : Int)) none σ = some (.obj σ.length, σ ++ [.list ents]) := by
  unfold gP
  simp only [s.ht, Option.bind_some]
  rw [if_pos htr]
  unfold sliceOf
  dsimp only
  rw [if_pos (Int.natCast_nonneg _), Int.toNat_natCast, List.drop_left]; rfl
 have P1 : bV σ (σ ++ [O.list ents]) := .push _
 have g1 : getL (σ ++ [O.list ents]) σ.length = some ents := cE
 have hl1 := P1.getL hl id
 have he1 := P1.getL he id
 have s1 := s.dY P1
 have E1 := wS (f := X.attr 0 17 (X.var 0)) (g := X.var 1) (ρ := [some (.inst 0 i), some (.int (trail.length : Nat)), some (.obj lj), some (.obj ej), some (.int b), some (.tup (aJ W)), none, none, none, none, none, none, none]) (bP rfl (bC (n := 17) s.hs rfl)) rfl A1
 generalize σ ++ [O.list ents] = aT at P1 g1 hl1 he1 s1 E1
 generalize σ.length = tj at g1 E1
 refine hG (wp_runF rfl (Jy ents (fun k ρ σ' => E2 (NG (.inst 0 i) (.int (trail.length : Nat)) ej b W es m' ents ms.length aT k ρ σ')) E1 ⟨lj, ms, .refl, ⟨_, _, _, _, _, _, _, rfl⟩, hl1, rfl, hT⟩ (Nat.lt_of_le_of_lt hen (by decide)) ?_ ?_ ?_))
 ·rintro k ρ σ' ⟨lj, m, E, _⟩ hk
  exact Src.list g1 σ' E k hk
 ·rintro k e ρ bH he' ⟨lj, m, E, ⟨a6, a7, a8, a9, a10, a11, a12, rfl⟩, hL, hn, hTk⟩
  obtain ⟨hk, hek⟩ := List.getElem?_eq_some_iff.mp he'
  rw [List.drop_eq_getElem_cons hk, hek] at hTk
  cases hTk with
  | cons hS hTk =>
   rename_i m1
   have hn1 : m1.length = m.length := by
    obtain ⟨x, old, v, lits, _, _, _, _, _, _, _, _, rfl⟩ := hS
    exact List.length_set ..
   have := fun Q' => Gm (Q := Q') (a0 := some (.inst 0 i)) (a1 := some (.int (trail.length : Nat))) (a6 := a6) (a7 := a7) (a8 := a8) (a9 := a9) (a10 := a10) (a11 := a11) (a12 := a12) hL (E.getL he1 id) hS (hlen.trans hn.symm) (hn ▸ hml) hes (by rw [hn]; exact hW) hWl hb1 hb2
   obtain ⟨oT, dQ, e3, _⟩ := this (fun _ _ _ => True) fun _ _ _ _ _ _ _ _ _ _ _ => trivial
   refine ⟨oT, dQ, e3, fun Q' hn' _ => ?_⟩
   obtain ⟨NX, kS, e4, k4⟩ := this Q' fun σ' Mq _ _ _ _ _ _ _ E3 hL3 => hn' _ _ ⟨Mq, m1, E.then E3, ⟨_, _, _, _, _, _, _, rfl⟩, hL3, hn1.trans hn, hTk⟩
   rw [e3] at e4
   cases e4
   exact k4
 ·rintro ρ bH ⟨lj, m, E, ⟨a6, a7, a8, a9, a10, a11, a12, rfl⟩, hL, hn, hTk⟩
  refine byC fun hG => ?_
  rw [List.drop_length] at hTk
  cases hTk
  have s2 := s1.dY E
  have h1 : m'.length ≤ 1000 := hn ▸ hm1
  have h2 : m'.length ≤ 100 := hn ▸ hm2
  obtain ⟨_, dQ, e3, nj, rfl, _, hN, E3⟩ := lD s2 hD h2 hb1 hb2
  have hL3 := E3.getL hL id
  have n1 := t5 hL3 hN h1 h1
  rw [decide_eq_false (fun h => h rfl)] at n1
  have s3 := s2.dY E3
  have he3 := (E.then E3).getL he1 id
  have E03 := (P1.then E).then E3
  have a3 := bC (c := 0) (n := 13) s3.hs rfl
  have PU := bC (c := 0) (n := 12) s3.hs rfl
  cases failed with
  | false => exact hG (cZ (aP (aQ rfl (aN rfl e3) n1)) (zC (kK (aP (bP rfl a3))) rfl ⟨rfl, E03⟩))
  | true =>
   obtain ⟨lits, rfl, hok, hln, hst, Io⟩ := hf rfl
   obtain ⟨_, kS, e4, rfl, E4⟩ := yQ (b := b) hL3 h2 (by rw [hn]; exact hok) hln
   have s4 := s3.dY E4
   have PT := bC (c := 0) (n := 12) s4.hs rfl
   obtain ⟨_, pA, e5, rfl, E5⟩ := B1 (b := b) (E4.getL he3 id) (by rw [hlen]; exact hm2) (by rw [hlen]; exact hok) hln (by rw [hlen]; exact hW) hWl
   rw [hst] at e4
   rw [Io] at e5
   exact hG (cZ (aP (aQ rfl (aN rfl e3) n1)) (cZ (kK (aP (bP rfl a3))) (lK (IE (aN (aK (bP rfl PU) rfl) e4) (aN (aK rfl (aK rfl (aK (bP rfl PT) rfl))) e5)) ⟨rfl, (E03.then E4).then E5⟩)))
end
theorem d7.snoc {b : Int} {doms : List (List (Int × Int))} {ms : List Nat} {rs : List (Int × Int)} {m : Nat} (h : d7 b doms ms) (hd : kE b rs m) (hm : m < 32) : d7 b (doms ++ [rs]) (ms ++ [m]) := by
 have hl := h.len
 refine ⟨by simp [hl], fun x r n hr hn => ?_, fun n hn => ?_⟩
 ·by_cases hx : x < doms.length
  ·rw [List.getElem?_append_left hx] at hr
   rw [List.getElem?_append_left (by lia)] at hn
   exact h.at_ x r n hr hn
  ·have hx2 : x = doms.length := by
    have := (List.getElem?_eq_some_iff.mp hr).1
    simp at this; lia
   subst hx2
   rw [List.getElem?_concat_length] at hr
   rw [hl, List.getElem?_concat_length] at hn
   cases hr; cases hn; exact hd
 ·rcases List.mem_append.mp hn with h' | h'
  ·exact h.lt n h'
  ·simp only [List.mem_singleton] at h'; subst h'; exact hm
section
variable {σ : St} {i a f t mk nw : Nat} {doms firsts : List (List (Int × Int))} {trail marks clash : List V} {failed : Bool} {b : Int} {m : Nat}
theorem BM (s : SV σ i a f t mk nw doms firsts trail marks failed clash) (hm : m < 32) (h0 : m ≠ 0) (hb1 : -20 ≤ b) (hb2 : b ≤ 20) (h1 : doms.length ≤ 100) (h2 : firsts.length ≤ 100) :
  wp (f6 [.int (m : Nat), .int b] σ) fun rv aT => wp (eR [.inst 0 i, rv] aT) fun r bH => XS.isRef r = false ∧ ∃ rs, A3 (SV bH i a f t mk nw (doms ++ [rs]) (firsts ++ [rs]) trail marks failed clash) (kE b rs m) (Ext (fun j => j = a ∨ j = f) σ bH) := by
 refine wp_mono (Df hm hb1 hb2) ?_
 rintro _ aT ⟨rs, rfl, hd, E1⟩
 have hne : rs ≠ [] := by
  rintro rfl
  have := Hb (b := b) hm h0
  rw [← hd.vals] at this
  exact this rfl
 refine wp_mono (Ct (s.dY E1) hne h1 h2) ?_
 rintro _ bH ⟨⟨x, rfl⟩, s2, E2⟩
 exact ⟨rfl, rs, s2, hd, (Ext.of0 E1).then E2⟩
end
noncomputable def K5 (Pt : Option V → Loc) (σ : St) (i a f t mk nw : Nat) (b : Int) (ms : List Nat) (k : Nat) (ρ : Loc) (σ' : St) : Prop := A3 (Ext (fun j => j = a ∨ j = f) σ σ') (∃ v, ρ = Pt v) (∃ doms, SV σ' i a f t mk nw doms doms [] [] false [] ∧ d7 b doms (ms.take k))
noncomputable def Jd (σ σ' : St) (i a f t mk nw : Nat) (b : Int) (n : Nat) (doms firsts : List (List (Int × Int))) (trail marks : List V) : Prop := Ext (fun z => z = i ∨ z = a ∨ z = t ∨ z = nw) σ σ' ∧ E5 fun D ents qZ failed fT => A7 (SV σ' i a f t mk nw D firsts (trail ++ ents) marks failed fT) (d7 b D qZ) (qZ.length = n) (∀ m ∈ qZ, m ≠ 0) (Tr doms ents D) (ents.length ≤ 50) (failed = false → fT = [])
theorem lG {W ms : List Nat} : (iC W ms).length = ms.length := by simp [iC]
theorem Fo {σ : St} {c : Bool} : i3 (.bool c) (.bool c) σ = some (.bool false, σ) := by cases c <;> rfl
section
variable {σ : St} {i a f t mk nw r ej : Nat} {b : Int} {W ms es : List Nat} {doms firsts : List (List (Int × Int))} {trail marks : List V}
theorem GJ {z i a f t mk nw : Nat} (h : z = i ∨ z = a ∨ z = t ∨ z = nw) : z ∈ [i, a, f, t, mk, nw] := by
 rcases h with rfl | rfl | rfl | rfl <;> simp
theorem zE (s : SV σ i a f t mk nw doms firsts trail marks false []) (hm : d7 b doms ms) (he : d7 b firsts es) (hlen : es.length = ms.length) (hne : ∀ m ∈ ms, m ≠ 0) (hr : bT σ r = some (ad W)) (hri : r ≠ i) (hej : getL σ ej = some (aJ es)) (hea : ej ≠ a) (het : ej ≠ t)
  (hW : ∀ x ∈ W, x < ms.length) (hcov : ∀ x, x < ms.length → x ∈ W) (hWl : W.length ≤ 6) (hml : ms.length ≤ 10) (hb1 : -20 ≤ b) (hb2 : b ≤ 20) (b5 : trail.length ≤ 800) :
  wp (d5 [.inst 0 i, .inst 2 r, .obj ej, .int b, .tup (aJ W)] σ) fun v σ' => v = .bool true ∧ Jd σ σ' i a f t mk nw b ms.length doms firsts trail marks := by
 refine byC fun hG => ?_
 have sR : ms.length ≤ 100 := Nat.le_trans hml (by decide)
 have Nc := s.lt
 obtain ⟨_, aT, e1, lj, rfl, hlj, hl, E1⟩ := lD s hm sR hb1 hb2
 have s1 := s.dY E1
 have h01 := E1.1
 have el := jO s1.ht (Nat.le_trans b5 (by decide))
 obtain ⟨_, bH, e2, i', a', f', t', mk', Bb, rfl, hi', hz', s2', E2⟩ := yO (σ := aT)
 have hl2 := E2.getL hl fun z => z
 have hnew : ∀ z ∈ [i', a', f', t', mk', Bb], σ.length ≤ z := by
  intro z hz
  rcases List.mem_cons.mp hz with rfl | hz
  ·exact Nat.le_trans h01 hi'
  ·exact Nat.le_trans h01 (hz' z hz)
 have apart : ∀ z z', z ∈ [i, a, f, t, mk, nw] → z' ∈ [i', a', f', t', mk', Bb] → z ≠ z' := fun z z' h h' e => Nat.lt_irrefl _ (Nat.lt_of_lt_of_le (e ▸ Nc z h) (hnew z' h'))
 have LK : ∀ z' ∈ [i', a', f', t', mk', Bb], lj ≠ z' := fun z' h' e => by
  have h1 := bE hl
  rcases List.mem_cons.mp h' with h | h
  ·exact Nat.lt_irrefl _ (Nat.lt_of_lt_of_le h1 (by rw [e, h]; exact hi'))
  ·exact Nat.lt_irrefl _ (Nat.lt_of_lt_of_le h1 (by rw [e]; exact hz' z' h))
 have hil : (aJ ms).length = ms.length := List.length_map _
 refine hG (wp_runF rfl (fQ (mO (aK (aN (F := dZ) (aT := σ) rfl e1) (aK (aN (aK (bC (c := 0) (n := 17) s1.hs rfl) rfl) el) rfl)) (Nat.le_of_ble_eq_true rfl)) rfl ?_))
 clear hG
 refine fQ (aN rfl e2) rfl ?_
 refine Jy (aJ ms) (K5 (fun v => [some (.inst 0 i), some (.inst 2 r), some (.obj ej), some (.int b), some (.tup (aJ W)), some (.obj lj), some (.int (trail.length : Nat)), some (.inst 0 i'), v, none, none]) bH i' a' f' t' mk' Bb b ms) (v := .obj lj) (aT := bH) rfl ⟨.refl, ⟨_, rfl⟩, [], s2', ⟨rfl, fun x r n h => by simp at h, by simp⟩⟩ (by rw [hil]; lia) ?_ ?_ ?_
 ·rintro k ρ σ' ⟨E, _⟩ hk
  exact Src.list (E.getL hl2 fun h => h.elim (LK a' (by simp)) (LK f' (by simp))) σ' .refl k hk
 ·rintro k vv ρ dQ hv ⟨E, ⟨v, rfl⟩, IS, s3, hm3⟩
  rw [aJ, List.getElem?_map] at hv
  obtain ⟨m, hm', rfl⟩ := Option.map_eq_some_iff.mp hv
  have hmm := List.mem_of_getElem? hm'
  obtain ⟨hk, hk2⟩ := List.getElem?_eq_some_iff.mp hm'
  have hdl := hm3.len
  rw [List.length_take] at hdl
  obtain ⟨rv, kS, e4, rr, pA, e5, hrr, rs, s5, hd5, E5⟩ := BM s3 (hm.lt m hmm) (hne m hmm) hb1 hb2 (by lia) (by lia)
  refine ⟨_, _, rfl, fun Q' hn _ => jG (c9 rfl (s3.inst (k := 89) rfl) (aK (aN rfl e4) rfl) e5) hrr (dG (hn _ _ ⟨E.then E5, ⟨_, rfl⟩, _, s5, ?_⟩))⟩
  rw [List.take_succ_eq_append_getElem hk, hk2]
  exact hm3.snoc hd5 (hm.lt m hmm)
 rintro ρ dQ ⟨E3, ⟨v, rfl⟩, IS, s3', hm3⟩
 rw [hil, List.take_length] at hm3
 refine byC fun hG => ?_
 have E13 : bV aT dQ := E2.trans E3 fun z h => .inr (h.elim (fun e => e ▸ hz' a' (by simp)) fun e => e ▸ hz' f' (by simp))
 have E03 := E1.then E13
 have hl3 := E13.getL hl fun z => z
 obtain ⟨_, kS, e4, rfl, E4⟩ := oN (σ := dQ) (pv := .tup (aJ W)) Seq.tup hl3 hW hWl sR
 have E04 := E03.then E4
 have s4 := s.dY E04
 have r4 := E04.bT hr fun z => z
 obtain ⟨_, pA, e5, E5, rfl, h5⟩ := vS s4 hm he hlen hne r4 hri hW hcov hWl hml (Nat.le_trans b5 (by decide))
 have s5' := (s3'.dY E4).ext E5 fun z hz h => apart z z (GJ h) hz rfl
 obtain ⟨_, nV, e6, r', rfl, On, r6, E6⟩ := Bu (σ := pA) (W := W) (Nat.le_trans hWl (by decide))
 have Py := s5'.dY E6
 obtain ⟨_, En, e7, E7, rfl, h7⟩ := vS Py hm3 hm3 rfl hne r6 (fun e => Nat.lt_irrefl _ (Nat.lt_of_lt_of_le (s5'.lt i' (by simp)) (e ▸ On))) hW hcov hWl hml (Nat.zero_le _)
 have E05 : Ext (fun z => z = i ∨ z = a ∨ z = t ∨ z = nw) σ pA := E04.of0.then E5
 have E07 : Ext (fun z => z = i ∨ z = a ∨ z = t ∨ z = nw) σ En := (E05.wB E6).trans E7 fun z h => .inr (hnew z (GJ h))
 have hl7 : getL En lj = some (aJ ms) := E7.getL (E6.getL (E5.getL (E4.getL hl3 fun z => z) fun h => Nat.lt_irrefl _ (Nat.lt_of_lt_of_le (Nc lj (GJ h)) hlj)) fun z => z) fun h => LK lj (GJ h) rfl
 obtain ⟨nl, hnl, _⟩ := s.hn
 have J2 : getL En ej = some (aJ es) := E07.getL hej fun h => h.elim (fun h => fY s.hs hej h.symm) fun h => h.elim hea fun h => h.elim het fun h => by
  have := jT hej; rw [h, k7 hnl] at this; cases this
 have Om : bT En r = some (ad W) := E07.bT hr fun h => h.elim hri fun h => h.elim (fY hr s.hd) fun h => h.elim (fY hr s.ht) (Dz hr hnl)
 have M9 : ∀ z ∈ [i, a, f, t, mk, nw], ¬ (z = i' ∨ z = a' ∨ z = t' ∨ z = Bb) := fun z hz h => apart z z hz (GJ h) rfl
 refine hG (fQ (aN rfl e4) rfl ?_)
 clear hG
 refine cZ (f3 (aP (aQ (c9 rfl (f4 (n := 86) r4 rfl) rfl e5) rfl Fo)) (f3 (aP (aQ (c9 (aN rfl e6) (f4 (n := 86) r6 rfl) rfl e7) rfl Fo)) rfl)) ?_
 refine byC fun hG => ?_
 rcases h5 with ⟨hc, lits, s5, hok, hln, hst, Io⟩ | ⟨hc, D, ents, s5, hmD, hT, hTr, hel, hc2, hA, _⟩
 ·have s7 := (s5.dY E6).ext E7 M9
  obtain ⟨_, NW, e8, rfl, E8⟩ := Br (ents := []) (by rw [List.append_nil]; exact s7) Told.nil hm hl7 J2 hlen hml he.lt hW hWl hb1 hb2 (Nat.zero_le _) (by rw [List.append_nil]; exact Nat.le_trans b5 (by decide)) fun _ => ⟨lits, rfl, hok, hln, hst, Io⟩
  rw [hc] at hG
  refine hG ?_
  refine cZ (f3 (aP (aQ (bC (c := 0) (n := 13) s7.hs rfl) rfl rfl)) (f3 (kK (aP (aN rfl e8))) rfl)) (zC rfl rfl ⟨rfl, E07.wB E8, doms, [], ms, true, lits.map sN, ?_, hm, rfl, hne, .nil, Nat.zero_le _, fun h => by cases h⟩)
  rw [List.append_nil]; exact s7.dY E8
 ·have s7 := (s5.dY E6).ext E7 M9
  rcases h7 with ⟨hc', _⟩ | ⟨_, D', ents', Px, Ov, _⟩
  ·rw [hc] at hc'; cases hc'
  have htl : (trail ++ ents).length ≤ 850 := by rw [List.length_append]; lia
  obtain ⟨_, NW, e8, rfl, E8⟩ := Br s7 hT hmD hl7 J2 hlen hml he.lt hW hWl hb1 hb2 (Nat.le_trans hel (by decide)) (Nat.le_trans htl (by decide)) fun h => by cases h
  have s8 := s7.dY E8
  have hsl : (iC W ms).length ≤ 100 := by rw [lG]; exact sR
  have JY := Nat.le_trans hsl (show 100 ≤ 1000 by decide)
  obtain ⟨_, σ9, e9, nj, rfl, _, hN, E9⟩ := lD s8 hmD hsl hb1 hb2
  obtain ⟨_, σ10, e10, sj, rfl, _, hS, E10⟩ := Cb (E9.getL (E8.getL hl7 fun z => z) fun z => z) hW hWl sR
  obtain ⟨_, σ11, PM, fj, rfl, _, hF, E11⟩ := lD (((Px.dY E8).dY E9).dY E10) Ov hsl hb1 hb2
  have Nt := E10.getL hN fun z => z
  have E8B := ((E8.then E9).then E10).then E11
  have N9 := s7.dY E8B
  have r11 := E8B.bT Om fun z => z
  have n1 := t5 Nt hS JY JY
  have n2 := t5 hF (E11.getL Nt fun z => z) JY JY
  rw [decide_eq_false (fun h => h rfl)] at n1 n2
  have Na : ∀ m ∈ iC W ms, m ≠ 0 := by
   intro m hm'
   obtain ⟨x, hx⟩ := List.getElem?_of_mem hm'
   have hxl := (List.getElem?_eq_some_iff.mp hx).1
   have := G2 hc2 (hcov x (by rw [← lG (W := W)]; exact hxl))
   rw [List.getD_eq_getElem?_getD, hx] at this
   exact this
  obtain ⟨_, σ12, Ps, E12, rfl, h12⟩ := vS N9 hmD he (by rw [lG]; exact hlen) Na r11 hri (by rw [lG]; exact hW) (by rw [lG]; exact hcov) hWl (by rw [lG]; exact hml) (Nat.le_trans htl (by decide))
  rcases h12 with ⟨hc', _⟩ | ⟨_, D2, ents2, s12, hmD2, _, OM, _, hc3, _, hnil⟩
  ·rw [hc2] at hc'; cases hc'
  have hen := hnil hA
  subst hen
  have hD2 := OM.nil_eq
  subst hD2
  rw [List.append_nil] at s12
  rw [hc2] at Ps
  rw [hc] at hG
  refine hG ?_
  refine cZ (f3 (aP (aQ (bC (c := 0) (n := 13) s7.hs rfl) rfl rfl)) (f3 (kK (aP (aN rfl e8))) rfl)) (cZ rfl (fQ (aN rfl e9) rfl ?_))
  refine cZ (f3 (aP (aQ rfl (aN rfl e10) n1)) (f3 (aP (aQ (aN rfl PM) rfl n2)) rfl)) ?_
  refine fQ (aN (aK (bC (c := 0) (n := 17) N9.hs rfl) rfl) (jO N9.ht (Nat.le_trans htl (by decide)))) rfl ?_
  refine lK (IE (c9 rfl (f4 (n := 86) r11 rfl) rfl Ps) (aQ (aN (aK (bC (c := 0) (n := 17) s12.hs rfl) rfl) (jO s12.ht (Nat.le_trans htl (by decide)))) rfl eq_int)) ⟨?_, (E07.wB E8B).then E12, D2, ents, iC W ms, false, [], s12, hmD, lG, Na, hTr, hel, fun _ => rfl⟩
  rw [decide_eq_true rfl]
end
section
variable {ρ : Loc} {σ σ' : St} {p c : Nat} {M : Nat → Prop}
theorem oR.ext (h : oR σ p c) (E : Ext M σ σ') (h1 : ¬ M p) (h2 : ¬ M c) : oR σ' p c := by
 obtain ⟨spot, mixed, cells, P⟩ := h
 exact ⟨spot, mixed, cells, E.bT P.pen h1, P.ne, E.getL P.list h2, P.Km, P.LA, P.Lz, P.nonneg, P.len⟩
theorem oR.lt (h : oR σ p c) : p < σ.length ∧ c < σ.length := by
 obtain ⟨spot, mixed, cells, P⟩ := h
 exact ⟨fC P.pen, bE P.list⟩
inductive NH (p c : Nat) (lo hi : Int) (a : XA) (e : X V) (L : Loc → Prop) (w : V) (ρ : Loc) (σ : St) : Prop
 | mk {oT : Loc} {bH : St} {y : Int} (h1 : a w ρ σ = some (oT, σ)) (hL : L oT) (h2 : e oT σ = some (.int y, bH)) (hp : oR bH p c) (E : Ext (fun z => z = p) σ bH) (lo : lo ≤ y) (hi : y < hi)
structure Ja (p c : Nat) (lo hi : Int) (L : Loc → Prop) (aT : St) (k : Nat) (ρ : Loc) (σ : St) (ys : List Int) : Prop where
 l : L ρ
 E : Ext (fun z => z = p) aT σ
 pen : oR σ p c
 n : ys.length = k
 bd : ∀ y ∈ ys, lo ≤ y ∧ y < hi
 g : getL σ aT.length = some (ys.map .int)
theorem BW {aT : St} {v : V} (L : Loc → Prop) {locs : List Nat} {f : X V} {a : XA} {e : X V} {fuel : Nat} (lo hi : Int) (l : List V) (hL : L (KZ locs ρ)) (h : f ρ σ = some (v, aT)) (hp : oR aT p c) (h1 : l.length < fuel) (h2 : l.length ≤ 1000) (hs : Fs v l)
  (step : ∀ x cI σ', x ∈ l → L cI → oR σ' p c → NH p c lo hi a e L x cI σ') : E2 fun σ' ys => X.fZ locs f a none e fuel ρ σ = some (.obj aT.length, σ') ∧ ∃ cI, Ja p c lo hi L aT l.length cI σ' ys := by
 obtain ⟨q1, q2⟩ := hp.lt
 have : xp (X.fZ locs f a none e fuel) ρ σ fun r σ' => r = .obj aT.length ∧ E2 fun cI ys => Ja p c lo hi L aT l.length cI σ' ys := by
  refine tD ⟨v, aT, h, l, fun k cI σ' => ∃ ys, Ja p c lo hi L aT k cI σ' ys, ⟨[], hL, .push _, hp.ext (M := fun _ => False) (.push _) id id, rfl, (fun _ h => (List.not_mem_nil h).elim), cE⟩, h1, hs aT 0 (Nat.zero_le _), fun k ρ σ _ hk => hs σ k hk, fun k x ρ σ hx ⟨ys, I⟩ => ?_, fun ρ σ' ⟨ys, I⟩ => ⟨rfl, ρ, ys, I⟩⟩
  have hk := (List.getElem?_eq_some_iff.mp hx).1
  obtain ⟨g1, gL, g2, gp, E, hlo, hhi⟩ := step x ρ σ (List.mem_of_getElem? hx) I.l I.pen
  rename_i oT dQ y
  have g3 := E.getL I.g (Nat.ne_of_gt q1)
  have hE : Ext (fun z => z = aT.length) dQ (dQ.set aT.length (.list (ys.map V.int ++ [.int y]))) := .set _ rfl
  refine ⟨oT, σ, g1, true, _, rfl, Cu.mpr ⟨_, _, g2, _, g3, ?_, ys ++ [y], gL, (I.E.then E).trans hE (fun z h => .inr (h ▸ Nat.le_refl _)), gp.ext hE (Nat.ne_of_lt q1) (Nat.ne_of_lt q2), ?_, fun y' hy' => ?_, ?_⟩⟩
  ·rw [List.length_map, I.n]; exact Nat.le_trans (Nat.le_of_lt hk) (Nat.le_trans h2 (by decide))
  ·rw [List.length_append, I.n]; rfl
  ·rcases List.mem_append.mp hy' with h | h
   ·exact I.bd y' h
   ·cases List.mem_singleton.mp h; exact ⟨hlo, hhi⟩
  ·rw [c0 (bE g3), List.map_append]; rfl
 obtain ⟨_, σ', e, rfl, cI, ys, I⟩ := this
 exact ⟨σ', ys, e, cI, I⟩
noncomputable def UnL (xs : List Int) (ρ : Loc) : Prop := E2 fun x y => ρ = [some (.tup (xs.map .int)), x, y]
noncomputable def OT (xs : List Int) (k : Nat) (ρ : Loc) : Prop := ∃ y, ρ = [some (.tup (xs.map .int)), some (.int (k : Nat)), y]
theorem Dj {l : List Int} {x : Nat} (h : x < l.length) (h1 : x < 1000000) : pick (l.map .int) (x : Int) = some (.int (l.getD x 0)) := by
 rw [iD (by simpa using h) h1]
 simp [h]
theorem p7 {i j : Nat} {l : List V} (h : getL σ i = some l) (ho : l.all (okV 5) = true) (h' : getL σ j = some []) : oEq (.obj i) (.obj j) σ = some (.bool l.isEmpty, σ) := by
 unfold oEq
 rw [CM h h' ho rfl]
 cases l <;> rfl
theorem yF {xs : List Int} {j : Nat} (h : j < xs.length) : xs.getD j 0 = xs[j] := by rw [List.getD_eq_getElem?_getD, List.getElem?_eq_getElem h]; rfl
theorem Mo {t : X Bool} {r : Bool × St} {ρ : Loc} (h : t ρ σ = some r) : XC.test (some t) ρ σ = some r := h
theorem DN {xs : List Int} {k : Nat} (h : k < xs.length) (hl : xs.length ≤ 20) : iU (.tup (xs.map .int)) (.int (k : Nat)) σ = some (.int (xs.getD k 0), σ) := by rw [EM, Dj h (Nat.lt_of_lt_of_le h (Nat.le_trans hl (Nat.le_of_ble_eq_true rfl)))]; rfl
theorem Ka {xs : List Int} : ((List.range xs.length).flatMap fun k => (List.range k).filterMap fun j => if xs.getD j 0 = xs.getD k 0 then some (V.int (j : Nat)) else none) = [] ↔ xs.Nodup := by
 rw [List.flatMap_eq_nil_iff]
 constructor
 ·intro h
  refine List.pairwise_iff_getElem.mpr fun j k hj hk hjk e => ?_
  have h2 := List.filterMap_eq_nil_iff.mp (h k (List.mem_range.mpr hk)) j (List.mem_range.mpr hjk)
  rw [yF hj, yF hk, if_pos e] at h2
  cases h2
 ·intro h k hk
  have hk := List.mem_range.mp hk
  refine List.filterMap_eq_nil_iff.mpr fun j hj => if_neg fun e => ?_
  have hj := List.mem_range.mp hj
  rw [yF hk, yF (Nat.lt_trans hj hk)] at e
  exact Nat.ne_of_lt hj (nG h _ hk e)
theorem CZ {xs : List Int} (hl : xs.length ≤ 20) : wp (gH [.tup (xs.map .int)] σ) fun r σ' => r = .bool (decide xs.Nodup) ∧ bV σ σ' := by
 have hl2 : (xs.map V.int).length = xs.length := List.length_map _
 have hr : (List.range xs.length).length = xs.length := List.length_range
 refine IC (α := Nat) (β := Nat) (ρ := [some (.tup (xs.map .int)), none, none]) (σ := σ) (UnL xs) (OT xs) (List.range xs.length) (fun k => .int (k : Nat)) (fun k => List.range k) (fun k => .int (k : Nat)) (fun k j => if xs.getD j 0 = xs.getD k 0 then some (.int (j : Nat)) else none) ⟨none, none, rfl⟩ (fun k ρ ⟨y, h⟩ => ⟨_, _, h⟩) (Nat.le_trans (Nat.le_of_eq hr) (Nat.le_trans hl (by decide))) (nZ (Nat.le_trans hl (by decide))) (fun k hk => ?_) (fun σ' e E g => ⟨_, _, sL (aQ e rfl (p7 ((Ext.push (M := fun _ => False) _).getL g id) (List.all_eq_true.mpr ?_) cE)), congrArg V.bool ?_, E.then (.push _)⟩) (aN (aK (aN rfl (vU (by rw [hl2]; exact Nat.le_trans hl (by decide)))) rfl) (by rw [hl2]; rfl)) (Nat.lt_of_le_of_lt (Nat.le_of_eq hr) (Nat.lt_of_le_of_lt hl (by decide))) (by decide) ?_
 ·rw [List.length_range]; exact Nat.le_trans (Nat.le_of_lt (List.mem_range.mp hk)) (Nat.le_trans hl (by decide))
 ·intro x hx
  obtain ⟨k, _, hx⟩ := List.mem_flatMap.mp hx
  obtain ⟨j, _, e⟩ := List.mem_filterMap.mp hx
  split at e
  ·cases e; rfl
  ·cases e
 ·rw [Bool.eq_iff_iff, List.isEmpty_iff, decide_eq_true_iff]; exact Ka
 ·rintro k _ σ' hk ⟨x, y, rfl⟩ E
  have hk := List.mem_range.mp hk
  have hk3 : k ≤ 1000000 := Nat.le_trans (Nat.le_of_lt hk) (Nat.le_trans hl (by decide))
  refine .mk rfl ⟨_, rfl⟩ rfl .refl (fun bH j hj => nZ hk3 bH .refl j hj) ?_
  rintro j _ kS hj ⟨y, rfl⟩ E4
  have hj := List.mem_range.mp hj
  have g1 := DN (σ := kS) (Nat.lt_trans hj hk) hl
  have g2 := DN (σ := kS) hk hl
  by_cases h : xs.getD j 0 = xs.getD k 0
  ·exact .put rfl ⟨_, rfl⟩ (Mo (aP (aQ (bN rfl rfl g1) (bN rfl rfl g2) (eq_int.trans (by rw [decide_eq_true h]))))) rfl (if_pos h) .refl
  ·exact .skip rfl ⟨_, rfl⟩ (Mo (aP (aQ (bN rfl rfl g1) (bN rfl rfl g2) (eq_int.trans (by rw [decide_eq_false h]))))) (if_neg h) .refl
end
structure El where
 id : Nat
 ms : List Nat
 D : List (List (Int × Int))
 tr : List V
inductive Stack (b : Int) (n : Nat) : List El → List (List (Int × Int)) → List V → Prop
 | nil {D : List (List (Int × Int))} {tr : List V} : Stack b n [] D tr
 | push {ls : List El} {D0 D : List (List (Int × Int))} {tr0 es : List V} {id : Nat} {NR : List Nat} : Stack b n ls D0 tr0 → d7 b D0 NR → NR.length = n → (∀ m ∈ NR, m ≠ 0) → Tr D0 es D → Stack b n (ls ++ [⟨id, NR, D0, tr0⟩]) D (tr0 ++ es)
theorem Stack.more {b : Int} {n : Nat} {ls : List El} {D D' : List (List (Int × Int))} {tr es : List V} (h : Stack b n ls D tr) (g : Tr D es D') : Stack b n ls D' (tr ++ es) := by
 cases h with
 | nil => exact .nil
 | push h1 h2 h3 h4 h5 => rw [List.append_assoc]; exact .push h1 h2 h3 h4 (h5.append g)
theorem Stack.top {b : Int} {n : Nat} {ls : List El} {D : List (List (Int × Int))} {tr : List V} (h : Stack b n ls D tr) (hne : ls ≠ []) : ∃ ls0 l es, ls = ls0 ++ [l] ∧ Stack b n ls0 l.D l.tr ∧ d7 b l.D l.ms ∧ l.ms.length = n ∧ (∀ m ∈ l.ms, m ≠ 0) ∧ Tr l.D es D ∧ tr = l.tr ++ es := by
 cases h with
 | nil => exact absurd rfl hne
 | push h1 h2 h3 h4 h5 => exact ⟨_, _, _, rfl, h1, h2, h3, h4, h5, rfl⟩
noncomputable def xY (ls : List El) : List V := ls.map fun l => .int (l.tr.length : Nat)
noncomputable def refsOf (ls : List El) : List V := ls.map fun l => .obj l.id
noncomputable def lists (c ej bj : Nat) (ls : List El) : List Nat := c :: ej :: bj :: ls.map (·.id)
structure Lap (σ : St) (p c r ej bj i a f t mk nw : Nat) (b : Int) (W es ms : List Nat) (D firsts : List (List (Int × Int))) (trail : List V) (ls : List El) (failed : Bool) (clash : List V) (N : Nat) : Prop where
 s : SV σ i a f t mk nw D firsts trail (xY ls) failed clash
 fc : failed = false → clash = []
 hm : d7 b D ms
 hn : ms.length = es.length
 nz : ∀ m ∈ ms, m ≠ 0
 pen : oR σ p c
 hr : bT σ r = some (ad W)
 hej : getL σ ej = some (aJ es)
 hbj : getL σ bj = some (refsOf ls)
 lv : ∀ l ∈ ls, getL σ l.id = some (aJ l.ms)
 st : Stack b es.length ls D trail
 dis : A3 (p ≠ i) (r ≠ i) (r ≠ p)
 lds : ∀ z ∈ lists c ej bj ls, A4 (z ≠ a) (z ≠ f) (z ≠ t) (z ≠ mk)
 NA : A3 (bj ≠ c) (bj ≠ ej) (∀ l ∈ ls, bj ≠ l.id)
 tl : trail.length ≤ N
 ll : ls.length ≤ N
theorem KC {σ : St} {i j : Nat} {x : List V} {y : List (Int × V)} (h : getL σ i = some x) (k : eF σ j = some y) : i ≠ j := by
 rintro rfl; have a := jT h; rw [k7 k] at a; cases a
section
variable {σ σ' : St} {p c r ej bj i a f t mk nw mk' Bb : Nat} {b : Int} {W es ms qZ : List Nat} {D D' firsts : List (List (Int × Int))} {trail gM clash fT : List V} {ls : List El} {failed g7 : Bool} {N N' : Nat} {M : Nat → Prop}
theorem Lap.listAt (L : Lap σ p c r ej bj i a f t mk nw b W es ms D firsts trail ls failed clash N) : ∀ z ∈ lists c ej bj ls, ∃ l, getL σ z = some l := by
 obtain ⟨spot, mixed, cells, P⟩ := L.pen
 intro z hz
 unfold lists at hz
 rcases List.mem_cons.mp hz with rfl | hz
 ·exact ⟨_, P.list⟩
 rcases List.mem_cons.mp hz with rfl | hz
 ·exact ⟨_, L.hej⟩
 rcases List.mem_cons.mp hz with rfl | hz
 ·exact ⟨_, L.hbj⟩
 obtain ⟨l, hl, rfl⟩ := List.mem_map.mp hz
 exact ⟨_, L.lv l hl⟩
theorem Lap.JF (L : Lap σ p c r ej bj i a f t mk nw b W es ms D firsts trail ls failed clash N) : ∃ l, bT σ p = some l := by
 obtain ⟨spot, mixed, cells, P⟩ := L.pen
 exact ⟨_, P.pen⟩
theorem Lap.Ew (L : Lap σ p c r ej bj i a f t mk nw b W es ms D firsts trail ls failed clash N) : ∀ z ∈ lists c ej bj ls, A8 (z ≠ i) (z ≠ a) (z ≠ f) (z ≠ t) (z ≠ mk) (z ≠ nw) (z ≠ p) (z ≠ r) := by
 intro z hz
 obtain ⟨l, hl⟩ := L.listAt z hz
 obtain ⟨d1, d2, d3, d4⟩ := L.lds z hz
 obtain ⟨nl, hnl, _⟩ := L.s.hn
 obtain ⟨pl, hpl⟩ := L.JF
 exact ⟨Ne.symm (fY L.s.hs hl), d1, d2, d3, d4, KC hl hnl, Ne.symm (fY hpl hl), Ne.symm (fY L.hr hl)⟩
theorem Lap.sepS (L : Lap σ p c r ej bj i a f t mk nw b W es ms D firsts trail ls failed clash N) : A6 (p ≠ i) (p ≠ a) (p ≠ f) (p ≠ t) (p ≠ mk) (p ≠ nw) ∧ A6 (r ≠ i) (r ≠ a) (r ≠ f) (r ≠ t) (r ≠ mk) (r ≠ nw) := by
 obtain ⟨nl, hnl, _⟩ := L.s.hn
 obtain ⟨pl, hpl⟩ := L.JF
 exact ⟨⟨L.dis.h1, fY hpl L.s.hd, fY hpl L.s.hf, fY hpl L.s.ht, fY hpl L.s.hm, Dz hpl hnl⟩, ⟨L.dis.h2, fY L.hr L.s.hd, fY L.hr L.s.hf, fY L.hr L.s.ht, fY L.hr L.s.hm, Dz L.hr hnl⟩⟩
theorem Lap.next (L : Lap σ p c r ej bj i a f t mk nw b W es ms D firsts trail ls failed clash N) (E : Ext M σ σ') (hp : ¬ M p) (hr : ¬ M r) (hl : ∀ z ∈ lists c ej bj ls, ¬ M z)
  (s' : SV σ' i a f t mk' Bb D' firsts gM (xY ls) g7 fT) (hmk : mk' = mk ∨ σ.length ≤ mk') (OP : g7 = false → fT = []) (hm' : d7 b D' qZ) (hn' : qZ.length = es.length) (Od : ∀ m ∈ qZ, m ≠ 0)
  (st' : Stack b es.length ls D' gM) (tl' : gM.length ≤ N') (PA : ls.length ≤ N') : Lap σ' p c r ej bj i a f t mk' Bb b W es qZ D' firsts gM ls g7 fT N' := by
 refine ⟨s', OP, hm', hn', Od, L.pen.ext E hp (hl c (by simp [lists])), E.bT L.hr hr, E.getL L.hej (hl ej (by simp [lists])), E.getL L.hbj (hl bj (by simp [lists])), fun l h => E.getL (L.lv l h) (hl _ ?_), st', L.dis, fun z hz => ?_, L.NA, tl', PA⟩
 ·unfold lists
  exact .tail _ (.tail _ (.tail _ (List.mem_map.mpr ⟨l, h, rfl⟩)))
 ·obtain ⟨d1, d2, d3, d4⟩ := L.lds z hz
  refine ⟨d1, d2, d3, ?_⟩
  rcases hmk with rfl | h
  ·exact d4
  ·obtain ⟨l, hl'⟩ := L.listAt z hz
   have := bE hl'
   lia
theorem Lap.dY (L : Lap σ p c r ej bj i a f t mk nw b W es ms D firsts trail ls failed clash N) (E : bV σ σ') : Lap σ' p c r ej bj i a f t mk nw b W es ms D firsts trail ls failed clash N :=
 L.next E (fun z => z) (fun z => z) (fun _ _ z => z) (L.s.dY E) (.inl rfl) L.fc L.hm L.hn L.nz L.st L.tl L.ll
theorem Lap.take (L : Lap σ p c r ej bj i a f t mk nw b W es ms D firsts trail ls failed clash N) (E : Ext (fun z => z = p) σ σ') (hp : oR σ' p c) : Lap σ' p c r ej bj i a f t mk nw b W es ms D firsts trail ls failed clash N := by
 obtain ⟨⟨p1, p2, p3, p4, p5, p6⟩, _⟩ := L.sepS
 refine ⟨L.s.ext E (fun z hz h => ?_), L.fc, L.hm, L.hn, L.nz, hp, E.bT L.hr L.dis.h3, E.getL L.hej ?_, E.getL L.hbj ?_, fun l h => E.getL (L.lv l h) ?_, L.st, L.dis, L.lds, L.NA, L.tl, L.ll⟩
 ·subst h
  simp only [List.mem_cons, List.not_mem_nil, or_false] at hz
  rcases hz with h | h | h | h | h | h
  ·exact p1 h
  ·exact p2 h
  ·exact p3 h
  ·exact p4 h
  ·exact p5 h
  ·exact p6 h
 ·exact (L.Ew ej (by simp [lists])).h7
 ·exact (L.Ew bj (by simp [lists])).h7
 ·exact (L.Ew l.id (by unfold lists; exact .tail _ (.tail _ (.tail _ (List.mem_map.mpr ⟨l, h, rfl⟩))))).h7
theorem Lap.right (L : Lap σ p c r ej bj i a f t mk nw b W es ms D firsts trail ls false clash N) (he : d7 b firsts es) (hW : ∀ x ∈ W, x < es.length) (hcov : ∀ x, x < es.length → x ∈ W) (hWl : W.length ≤ 6) (hml : es.length ≤ 10) (hb1 : -20 ≤ b) (hb2 : b ≤ 20) (hN : N ≤ 700) :
  wp (d5 [.inst 0 i, .inst 2 r, .obj ej, .int b, .tup (aJ W)] σ) fun v σ' => v = .bool true ∧ E5 fun qZ D' gM g7 fT => Lap σ' p c r ej bj i a f t mk nw b W es qZ D' firsts gM ls g7 fT (N + 50) ∧ Ext (fun z => z = i ∨ z = a ∨ z = t ∨ z = nw) σ σ' := by
 have hc := L.fc rfl
 subst hc
 have htl := L.tl
 have hn := L.hn
 have hll := L.ll
 have he' := L.lds ej (by simp [lists])
 refine wp_mono (zE L.s L.hm he L.hn.symm L.nz L.hr L.dis.h2 L.hej he'.h1 he'.h3 (by rw [hn]; exact hW) (by rw [hn]; exact hcov) hWl (by lia) hb1 hb2 (by lia)) ?_
 rintro v σ' ⟨rfl, E, D', ents, qZ, g7, fT, s', hm', hn', Od, hTr, hel, OP⟩
 obtain ⟨⟨p1, p2, p3, p4, p5, p6⟩, ⟨r1, r2, r3, r4, r5, r6⟩⟩ := L.sepS
 refine ⟨rfl, qZ, D', trail ++ ents, g7, fT, L.next E ?_ ?_ (fun z hz => ?_) s' (.inl rfl) OP hm' (by lia) Od (L.st.more hTr) (by simp; lia) (by lia), E⟩
 ·rintro (h | h | h | h)
  ·exact p1 h
  ·exact p2 h
  ·exact p4 h
  ·exact p6 h
 ·rintro (h | h | h | h)
  ·exact r1 h
  ·exact r2 h
  ·exact r4 h
  ·exact r6 h
 ·obtain ⟨q1, q2, q3, q4, q5, q6, q7, q8⟩ := L.Ew z hz
  rintro (h | h | h | h)
  ·exact q1 h
  ·exact q2 h
  ·exact q4 h
  ·exact q6 h
end
noncomputable def iE (ms : List Nat) : List Nat := (List.range ms.length).filter fun x => decide (1 < cnt (ms.getD x 0))
noncomputable def F5 : XS := (XS.seq (XS.drop (X.cS 0 95 mU (X.var 8) (X.aB (X.pure (.int 1)) X.aH))) (XS.seq (XS.ite (X.pE (X.test (X.attr 0 13 (X.var 8))) (X.pE (X.test (X.bin iF (X.call dZ (X.aB (X.var 8) (X.aB (X.var 4) X.aH))) (X.eY Ff (X.var 12) X.aH))) X.orZ)) (XS.seq (XS.ret (X.pure (.bool false))) XS.nil) XS.nil) XS.nil))
noncomputable def F2 : X Bool := (X.iW (X.test (X.bin iF (X.var 12) (X.hY X.aH))) (X.iW (X.pE (X.test (X.attr 0 13 (X.var 8))) (X.pE (X.test (X.bin oEq (X.var 15) (X.hY X.aH))) (X.pE (X.test (X.bin oEq (X.call b9 (X.aB (X.var 2) (X.aB (X.pure (.int 3)) X.aH))) (X.pure (.int 0)))) X.orZ))) X.v5))
theorem JU (q : Nat → Prop) [DecidablePred q] (l : List Nat) : (l.filterMap fun k => if q k then some (V.int (k : Nat)) else none) = aJ (l.filter fun k => decide (q k)) := by
 induction l with
 | nil => rfl
 | cons y l ih =>
  rw [List.filterMap_cons, List.filter_cons, ih]
  by_cases h : q y
  ·rw [if_pos h, if_pos (decide_eq_true h)]; rfl
  ·rw [if_neg h, if_neg fun z => h (of_decide_eq_true z)]
section
variable {σ : St} {p c r ej bj i a f t mk nw n lj oj : Nat} {b : Int} {W es ms : List Nat} {D firsts : List (List (Int × Int))} {trail clash : List V} {ls : List El} {failed : Bool} {N : Nat} {l0 l1 l6 l10 yA wP ET Bd xZ uB : Option V}
theorem zF : (refsOf ls).length = ls.length := List.length_map _
theorem JP {j k : Nat} {l : List V} (h : getL σ j = some l) (h' : getL σ k = some []) (hl : l.length ≤ 1000) : iF (.obj j) (.obj k) σ = some (.bool (!l.isEmpty), σ) := by
 rw [Cq h h']
 cases l with
 | nil =>
  rw [if_neg fun z => z.1 rfl]
  unfold oNe
  rw [CM h h' rfl rfl]; rfl
 | cons x l => rw [if_pos ⟨Nat.succ_ne_zero _, Nat.le_trans hl (by decide), Nat.zero_le _⟩]; rfl
theorem Dl (hl : getL σ lj = some (aJ ms)) (hn : n = ms.length) (hml : ms.length ≤ 100) :
  ∃ σ', A3 (X.fZ [19] (X.call (bW cU) (X.aB (X.var 3) X.aH)) (XA.name 19) (some (X.test (X.bin Kn (X.call fU (X.aB (X.sub (X.var 14) (X.var 19)) X.aH)) (X.pure (.int 1))))) (X.var 19) 1000 [l0, l1, some (.obj p), some (.int (n : Nat)), some (.int b), some (.obj ej), l6, some (.tup (aJ W)), some (.inst 0 i), some (.inst 2 r), l10, yA, some (.obj bj), wP, some (.obj lj), Bd, xZ, uB, none, none, none, none, none] σ = some (.obj σ.length, σ')) (bV σ σ') (getL σ' σ.length = some (aJ (iE ms))) := by
 subst hn
 refine evMap (α := Nat) (fun ρ => ∃ x : Option V, ρ = [l0, l1, some (.obj p), some (.int (ms.length : Nat)), some (.int b), some (.obj ej), l6, some (.tup (aJ W)), some (.inst 0 i), some (.inst 2 r), l10, yA, some (.obj bj), wP, some (.obj lj), Bd, xZ, uB, none, x, none, none, none]) (List.range ms.length) (fun k => .int (k : Nat)) (fun k => if 1 < cnt (ms.getD k 0) then some (.int (k : Nat)) else none) ⟨none, rfl⟩ (Nat.le_trans (Nat.le_of_eq List.length_range) (Nat.le_trans hml (by decide))) (nZ (Nat.le_trans hml (by decide))) (fun σ' e E g => ⟨σ', e, E, g.trans (congrArg some (JU _ _))⟩) rfl (Nat.lt_of_le_of_lt (Nat.le_of_eq List.length_range) (Nat.lt_of_le_of_lt hml (by decide))) ?_
 rintro k _ σ' hk ⟨x, rfl⟩ E
 have hk := List.mem_range.mp hk
 obtain ⟨_, bH, e2, rfl, E2⟩ := As (σ := σ') (m := ms.getD k 0)
 have gg : Kn (.int (cnt (ms.getD k 0) : Nat)) (.int 1) bH = some (.bool (decide (1 < cnt (ms.getD k 0))), bH) := congrArg (fun b => some (V.bool b, bH)) (decide_eq_decide.mpr Int.ofNat_lt)
 have g1 := gR (E.getL hl id) hk (Nat.le_trans hml (by decide))
 by_cases h : 1 < cnt (ms.getD k 0)
 ·rw [decide_eq_true h] at gg
  exact .put rfl ⟨_, rfl⟩ (Mo (aP (aQ (aN (aK (bN rfl rfl g1) rfl) e2) rfl gg))) rfl (if_pos h) E2
 ·rw [decide_eq_false h] at gg
  exact .skip rfl ⟨_, rfl⟩ (Mo (aP (aQ (aN (aK (bN rfl rfl g1) rfl) e2) rfl gg))) (if_neg h) E2
theorem G1 (L : Lap σ p c r ej bj i a f t mk nw b W es ms D firsts trail ls failed clash N) (hN : N ≤ 1000) {os : List Nat} (ho : getL σ oj = some (aJ os)) :
  E2 fun bb σ' => A4 (F2 [l0, l1, some (.obj p), some (.int (n : Nat)), some (.int b), some (.obj ej), l6, some (.tup (aJ W)), some (.inst 0 i), some (.inst 2 r), l10, yA, some (.obj bj), wP, ET, some (.obj oj), xZ, uB, none, none, none, none, none] σ = some (bb, σ')) (Lap σ' p c r ej bj i a f t mk nw b W es ms D firsts trail ls failed clash N) (Ext (fun z => z = p) σ σ') (bb = true → ls ≠ []) := by
 have P1 : bV σ (σ ++ [O.list []]) := .push _
 have L1 := L.dY P1
 have n1 := JP L1.hbj cE (by rw [zF]; exact Nat.le_trans L.ll hN)
 have eN : ∀ ρ σ, X.hY X.aH ρ σ = some (.obj σ.length, σ ++ [O.list []]) := fun ρ σ => pZ rfl (Nat.zero_le _)
 cases ls with
 | nil => exact ⟨false, _, jP (aP (aQ rfl (eN _ _) n1)), L1, .of0 P1, fun h => by cases h⟩
 | cons lv ls =>
 have hls : ∀ {q : Prop}, q → lv :: ls ≠ [] := fun _ h => by cases h
 have ef := bC (c := 0) (n := 13) L1.s.hs rfl
 cases failed with
 | true => exact ⟨true, _, eP (aP (aQ rfl (eN _ _) n1)) (eP (DS (aP (bP rfl ef))) rfl), L1, .of0 P1, hls⟩
 | false =>
 have P2 : bV (σ ++ [O.list []]) (σ ++ [O.list []] ++ [O.list []]) := .push _
 have L2 := L1.dY P2
 have n2 := p7 (P2.getL (P1.getL ho id) id) (nF 5 os) cE
 cases os with
 | nil => exact ⟨true, _, eP (aP (aQ rfl (eN _ _) n1)) (eP (f3 (aP (bP rfl ef)) (DS (aP (aQ rfl (eN _ _) n2)))) rfl), L2, .of0 (P1.then P2), hls⟩
 | cons o os =>
 obtain ⟨_, dQ, e3, y, rfl, _, _, hp3, E3, _⟩ := lC (many := 3) L2.pen (by decide)
 have L3 := L2.take E3 hp3
 have E03 : Ext (fun z => z = p) σ dQ := (Ext.of0 (P1.then P2)).then E3
 have ey := eq_int (σ := dQ) (a := y) (b := 0)
 by_cases hy : y = 0
 ·rw [decide_eq_true hy] at ey
  exact ⟨true, dQ, eP (aP (aQ rfl (eN _ _) n1)) (eP (f3 (aP (bP rfl ef)) (f3 (aP (aQ rfl (eN _ _) n2)) (DS (aP (aQ (aN (aK rfl (aK rfl rfl)) e3) rfl ey))))) rfl), L3, E03, hls⟩
 ·rw [decide_eq_false hy] at ey
  exact ⟨false, dQ, eP (aP (aQ rfl (eN _ _) n1)) (jP (f3 (aP (bP rfl ef)) (f3 (aP (aQ rfl (eN _ _) n2)) (f3 (aP (aQ (aN (aK rfl (aK rfl rfl)) e3) rfl ey)) rfl)))), L3, E03, fun h => by cases h⟩
theorem z4 {l : El} : xY (ls ++ [l]) = xY ls ++ [.int (l.tr.length : Nat)] := List.map_append
theorem Bv {l : El} : refsOf (ls ++ [l]) = refsOf ls ++ [.obj l.id] := List.map_append
theorem z9 {l : El} : lists c ej bj (ls ++ [l]) = lists c ej bj ls ++ [l.id] := congrArg (fun z => c :: ej :: bj :: z) List.map_append
theorem DG {l : El} (h : l ∈ ls) : l.id ∈ lists c ej bj ls := .tail _ (.tail _ (.tail _ (List.mem_map_of_mem h)))
theorem inB (c ej bj : Nat) (ls : List El) : bj ∈ lists c ej bj ls := .tail _ (.tail _ (.head _))
theorem Lp {x : Nat} (h1 : x ≠ i) (h2 : x ≠ a) (h3 : x ≠ f) (h4 : x ≠ t) (h5 : x ≠ mk) (h6 : x ≠ nw) : ∀ z ∈ [i, a, f, t, mk, nw], ¬ z = x := by
 rintro z hz rfl
 rcases List.mem_cons.mp hz with h | hz
 ·exact h1 h
 rcases List.mem_cons.mp hz with h | hz
 ·exact h2 h
 rcases List.mem_cons.mp hz with h | hz
 ·exact h3 h
 rcases List.mem_cons.mp hz with h | hz
 ·exact h4 h
 rcases List.mem_cons.mp hz with h | hz
 ·exact h5 h
 ·exact h6 (List.mem_singleton.mp hz)
theorem Hv (L : Lap σ p c r ej bj i a f t mk nw b W es ms D firsts trail ls failed clash N) (hN : N ≤ 800) (hne : ls ≠ []) (hf0 : ∀ rs ∈ firsts, rs ≠ []) (hel : es.length ≤ 100) (hb1 : -20 ≤ b) (hb2 : b ≤ 20) {Q : Fl → Loc → St → Prop}
  (hQ : ∀ σ' mk' Bb qZ D' gM ls', Lap σ' p c r ej bj i a f t mk' Bb b W es qZ D' firsts gM ls' false [] N → Q .next [l0, l1, some (.obj p), some (.int (n : Nat)), some (.int b), some (.obj ej), l6, some (.tup (aJ W)), some (.inst 0 i), some (.inst 2 r), l10, yA, some (.obj bj), wP, ET, Bd, xZ, uB, none, none, none, none, none] σ') :
  sp F5 [l0, l1, some (.obj p), some (.int (n : Nat)), some (.int b), some (.obj ej), l6, some (.tup (aJ W)), some (.inst 0 i), some (.inst 2 r), l10, yA, some (.obj bj), wP, ET, Bd, xZ, uB, none, none, none, none, none] σ Q := by
 obtain ⟨ls0, l, ents, rfl, hst, hm0, hn0, Ot, hTr, rfl⟩ := L.st.top hne
 have hll := L.ll
 have htl := L.tl
 have h9 := Nat.le_trans htl (Nat.le_trans hN (by decide : 800 ≤ 900))
 rw [List.length_append] at hll htl
 have hl0 := Nat.le_trans (Nat.le_add_right _ _) hll
 have hN1 := Nat.le_trans hN (by decide : 800 ≤ 1000)
 have s0 := L.s
 rw [z4] at s0
 obtain ⟨_, aT, e1, rfl, ⟨mk', Bb, Nb, hnw', s1⟩, E1⟩ := Hw s0 hTr h9 (Nat.le_trans (Nat.le_of_eq (List.length_map _)) (Nat.le_trans hl0 (Nat.le_trans hN (by decide)))) (by rw [L.hm.len, L.hn]; exact Nat.le_trans hel (by decide)) hf0
 have hlt : ∀ z ∈ lists c ej bj (ls0 ++ [l]), z < σ.length := fun z hz => (L.listAt z hz).elim fun _ h => bE h
 have hkeep : ∀ z ∈ lists c ej bj (ls0 ++ [l]), ¬ (z = i ∨ z = a ∨ z = t) := fun z hz => by
  obtain ⟨q1, q2, _, q4, _⟩ := L.Ew z hz
  exact fun h => h.elim q1 fun h => h.elim q2 q4
 have Po := fun l' (h : l' ∈ ls0 ++ [l]) => DG (c := c) (ej := ej) (bj := bj) h
 have Il : l ∈ ls0 ++ [l] := List.mem_append_right _ (.head _)
 have inB := inB c ej bj (ls0 ++ [l])
 obtain ⟨⟨p1, p2, p3, p4, p5, p6⟩, ⟨r1, r2, r3, r4, r5, r6⟩⟩ := L.sepS
 have hsm : l.ms.length ≤ 1000 := by rw [hn0]; exact Nat.le_trans hel (by decide)
 obtain ⟨_, bH, e2, nj, rfl, hnj, hN2, E2⟩ := lD s1 hm0 (by rw [hn0]; exact hel) hb1 hb2
 have hB2 := E2.getL (E1.getL L.hbj (hkeep bj inB)) id
 have hl2 := E2.getL (E1.getL (L.lv l Il) (hkeep _ (Po l Il))) id
 rw [Bv] at hB2
 have JZ := IA hB2 (by rw [List.length_append, zF]; exact Nat.le_trans hll (Nat.le_trans hN (by decide)))
 have g3 := c0 (l := refsOf ls0) (bE hB2)
 have E3 : Ext (fun z => z = bj) bH (bH.set bj (.list (refsOf ls0))) := .set _ rfl
 have Im := hlt bj inB
 obtain ⟨bd1, NB, bd3⟩ := L.NA
 have n1 := t5 (E3.getL hN2 (Nat.ne_of_gt (Nat.lt_of_lt_of_le Im (Nat.le_trans E1.1 hnj)))) (E3.getL hl2 (Ne.symm (bd3 l Il))) hsm hsm
 rw [decide_eq_false (fun h => h rfl)] at n1
 obtain ⟨b1, b2, b3, b4, b5, b6, b7, b8⟩ := L.Ew bj inB
 have E12 : Ext (fun z => z = i ∨ z = a ∨ z = t) σ bH := E1.wB E2
 have hin : ∀ l' ∈ ls0, l' ∈ ls0 ++ [l] := fun l' h => List.mem_append_left _ h
 refine jG (c9 rfl (L.s.inst (k := 95) rfl) (aK rfl rfl) e1) rfl (cZ (f3 (aP (bP rfl (bC (c := 0) (n := 13) s1.hs rfl))) (f3 (aP (aQ (aN (aK rfl (aK rfl rfl)) e2) (fD rfl (d6 hB2) rfl JZ) n1)) rfl)) (dG (hQ _ mk' Bb l.ms l.D l.tr ls0 ⟨(s1.dY E2).ext E3 (Lp b1 b2 b3 b4 (Nat.ne_of_lt (Nat.lt_of_lt_of_le Im Nb)) (Nat.ne_of_lt (Nat.lt_of_lt_of_le Im hnw'))), fun _ => rfl, hm0, hn0, Ot, (L.pen.ext E12 (fun h => h.elim p1 fun h => h.elim p2 p4) (hkeep c (.head _))).ext E3 (Ne.symm b7) (Ne.symm bd1), E3.bT (E12.bT L.hr fun h => h.elim r1 fun h => h.elim r2 r4) (Ne.symm b8), E3.getL (E12.getL L.hej (hkeep ej (.tail _ (.head _)))) (Ne.symm NB), g3, fun l' h => E3.getL (E12.getL (L.lv l' (hin l' h)) (hkeep _ (Po l' (hin l' h)))) (Ne.symm (bd3 l' (hin l' h))), hst, L.dis, fun z hz => ?_, ⟨bd1, NB, fun l' h => bd3 l' (hin l' h)⟩, Nat.le_trans (Nat.le_add_right _ _) htl, hl0⟩)))
 have hz' : z ∈ lists c ej bj (ls0 ++ [l]) := z9 ▸ List.mem_append_left _ hz
 obtain ⟨d1, d2, d3, d4⟩ := L.lds z hz'
 exact ⟨d1, d2, d3, Nat.ne_of_lt (Nat.lt_of_lt_of_le (hlt z hz') Nb)⟩
end
noncomputable def Eb : XS := (XS.seq (XS.assign (X.sub (X.var 15) (X.call b9 (X.aB (X.var 2) (X.aB (X.call (bW gJ) (X.aB (X.var 15) X.aH)) X.aH)))) (XA.name 16)) (XS.seq (XS.assign (X.fZ [18] (X.call (bW cU) (X.aB (X.pure (.int 5)) X.aH)) (XA.name 18) (some (X.test (X.bin oEq (X.bin oMod (X.bin cH (X.sub (X.var 14) (X.var 16)) (X.bin iT (X.pure (.int 2)) (X.var 18))) (X.pure (.int 2))) (X.pure (.int 1))))) (X.bin eJ (X.var 4) (X.var 18)) 1000) (XA.name 17)) (XS.seq (XS.drop (X.eY eB (X.var 12) (X.aB (X.var 14) X.aH))) (XS.seq (XS.drop (X.cS 0 97 lA (X.var 8) X.aH)) (XS.seq (XS.ite (X.n8 (X.test (X.cS 0 96 jB (X.var 8) (X.aB (X.eH (X.aB (X.var 16) (X.aB (X.pure (.str 51)) (X.aB (X.sub (X.var 17) (X.call b9 (X.aB (X.var 2) (X.aB (X.call (bW gJ) (X.aB (X.var 17) X.aH)) X.aH)))) X.aH)))) X.aH)))) (XS.seq (XS.ret (X.pure (.bool false))) XS.nil) XS.nil) XS.nil)))))
theorem d7.set {b : Int} {D : List (List (Int × Int))} {ms : List Nat} {x m' : Nat} {rs' : List (Int × Int)} (h : d7 b D ms) (hx : x < ms.length) (hd : kE b rs' m') (hm : m' < 32) : d7 b (D.set x rs') (ms.set x m') := by
 have hl := h.len
 refine ⟨by simp [hl], fun y ry my hy hmy => ?_, fun m hm' => ?_⟩
 ·by_cases hyx : x = y
  ·subst hyx
   rw [List.getElem?_set_self (by lia)] at hy
   rw [List.getElem?_set_self hx] at hmy
   cases hy; cases hmy; exact hd
  ·rw [List.getElem?_set_ne hyx] at hy hmy
   exact h.at_ y ry my hy hmy
 ·rcases List.mem_or_eq_of_mem_set hm' with h' | rfl
  ·exact h.lt m h'
  ·exact hm
theorem Hf {b v : Int} {m : Nat} (h : 1 < cnt m) : ∃ u ∈ vm b m, u ≠ v := by
 have hl : (vm b m).length = cnt m := qQ
 have hn := CY b m
 have h0 : 0 < (vm b m).length := by lia
 have h1 : 1 < (vm b m).length := by lia
 by_cases e : (vm b m)[0] = v
 ·refine ⟨(vm b m)[1], List.getElem_mem h1, fun e1 => ?_⟩
  have := nG hn h0 h1 (by rw [e, e1])
  lia
 ·exact ⟨(vm b m)[0], List.getElem_mem h0, e⟩
section
variable {σ : St} {p c r ej bj i a f t mk nw n lj oj : Nat} {b : Int} {W es ms : List Nat} {D firsts : List (List (Int × Int))} {trail clash : List V} {ls : List El} {failed : Bool} {N : Nat} {l0 l1 l6 l10 yA wP ET Bd xZ uB : Option V}
theorem My (b : Int) (m : Nat) (l : List Nat) : (l.filterMap fun k => if m.testBit k = true then some (V.int (b + (k : Nat))) else none) = ((l.filter fun k => m.testBit k).map fun k => b + (k : Nat)).map .int := by
 induction l with
 | nil => rfl
 | cons y l ih =>
  rw [List.filterMap_cons, List.filter_cons, ih]
  by_cases h : m.testBit y = true
  ·rw [if_pos h, if_pos h]; rfl
  ·rw [if_neg h, if_neg h]
theorem getD_mem {α : Type} {l : List α} {d : α} {k : Nat} (h : k < l.length) : l.getD k d ∈ l := by
 rw [List.getD_eq_getElem?_getD, List.getElem?_eq_getElem h]; exact List.getElem_mem h
theorem Ip {j x : Nat} {l : List Int} (h : getL σ j = some (l.map .int)) (hx : x < l.length) (h1 : l.length ≤ 1000) : iU (.obj j) (.int (x : Nat)) σ = some (.int (l.getD x 0), σ) := by
 rw [lQ h, Dj hx (Nat.lt_of_lt_of_le hx (Nat.le_trans h1 (by decide)))]; rfl
theorem C2 {l : List V} (hp : oR σ p c) (h : 0 < l.length) : E2 fun σ' k => A4 (b9 [.obj p, .int (l.length : Nat)] σ = some (.int (k : Nat), σ')) (k < l.length) (oR σ' p c) (Ext (fun z => z = p) σ σ') := by
 obtain ⟨_, σ', e, y, rfl, h0, h1, hp', E, _⟩ := lC hp (Int.ofNat_lt.mpr h)
 obtain ⟨k, rfl⟩ := Int.eq_ofNat_of_zero_le h0
 exact ⟨σ', k, e, Int.ofNat_lt.mp h1, hp', E⟩
theorem Gq {x : Nat} (hl : getL σ lj = some (aJ ms)) (hx : x < ms.length) (hml : ms.length ≤ 100) :
  ∃ σ', A3 ((X.fZ [18] (X.call (bW cU) (X.aB (X.pure (.int 5)) X.aH)) (XA.name 18) (some (X.test (X.bin oEq (X.bin oMod (X.bin cH (X.sub (X.var 14) (X.var 16)) (X.bin iT (X.pure (.int 2)) (X.var 18))) (X.pure (.int 2))) (X.pure (.int 1))))) (X.bin eJ (X.var 4) (X.var 18)) 1000) [l0, l1, some (.obj p), some (.int (n : Nat)), some (.int b), some (.obj ej), l6, some (.tup (aJ W)), some (.inst 0 i), some (.inst 2 r), l10, yA, some (.obj bj), wP, some (.obj lj), Bd, some (.int (x : Nat)), uB, none, none, none, none, none] σ = some (.obj σ.length, σ')) (bV σ σ') (getL σ' σ.length = some ((vm b (ms.getD x 0)).map .int)) := by
 refine evMap (α := Nat) (fun ρ => ∃ y : Option V, ρ = [l0, l1, some (.obj p), some (.int (n : Nat)), some (.int b), some (.obj ej), l6, some (.tup (aJ W)), some (.inst 0 i), some (.inst 2 r), l10, yA, some (.obj bj), wP, some (.obj lj), Bd, some (.int (x : Nat)), uB, y, none, none, none, none]) (List.range 5) (fun k => .int (k : Nat)) (fun k => if (ms.getD x 0).testBit k = true then some (.int (b + (k : Nat))) else none) ⟨none, rfl⟩ (by decide) zI (fun σ' e E g => ⟨σ', e, E, g.trans (congrArg some (My ..))⟩) rfl (by decide) ?_
 rintro k _ σ' hk ⟨y, rfl⟩ E
 have b1 := vY (f := X.sub (X.var 14) (X.var 16)) (g := X.var 18) (ρ := [l0, l1, some (.obj p), some (.int (n : Nat)), some (.int b), some (.obj ej), l6, some (.tup (aJ W)), some (.inst 0 i), some (.inst 2 r), l10, yA, some (.obj bj), wP, some (.obj lj), Bd, some (.int (x : Nat)), uB, some (.int (k : Nat)), none, none, none, none]) (σ := σ') (bN rfl rfl (gR (E.getL hl id) hx (Nat.le_trans hml (by decide)))) rfl (Nat.le_trans (Nat.le_of_lt (List.mem_range.mp hk)) (by decide))
 cases hb : (ms.getD x 0).testBit k with
 | true => rw [hb] at b1; exact .put rfl ⟨_, rfl⟩ (Mo b1) rfl (if_pos rfl) .refl
 | false => rw [hb] at b1; exact .skip rfl ⟨_, rfl⟩ (Mo b1) (if_neg Bool.false_ne_true) .refl
theorem GC (L : Lap σ p c r ej bj i a f t mk nw b W es ms D firsts trail ls false clash N) (hN : N ≤ 700) (hel : es.length ≤ 10) (hlj : getL σ lj = some (aJ ms)) (J0 : A4 (lj ≠ a) (lj ≠ f) (lj ≠ t) (lj ≠ mk)) (hlb : bj ≠ lj)
  (ho : getL σ oj = some (aJ (iE ms))) (hone : iE ms ≠ []) (hb1 : -20 ≤ b) (hb2 : b ≤ 20) {Q : Fl → Loc → St → Prop}
  (hQ : ∀ σ' xZ uB qZ D' gM Pl, Lap σ' p c r ej bj i a f t mk nw b W es qZ D' firsts gM (ls ++ [Pl]) false clash (N + 1) → Q .next [l0, l1, some (.obj p), some (.int (n : Nat)), some (.int b), some (.obj ej), l6, some (.tup (aJ W)), some (.inst 0 i), some (.inst 2 r), l10, yA, some (.obj bj), wP, some (.obj lj), some (.obj oj), xZ, uB, none, none, none, none, none] σ') :
  sp Eb [l0, l1, some (.obj p), some (.int (n : Nat)), some (.int b), some (.obj ej), l6, some (.tup (aJ W)), some (.inst 0 i), some (.inst 2 r), l10, yA, some (.obj bj), wP, some (.obj lj), some (.obj oj), xZ, uB, none, none, none, none, none] σ Q := by
 have hn := L.hn
 have hml : ms.length ≤ 10 := by rw [hn]; exact hel
 have hN1 := Nat.le_trans hN (by decide : 700 ≤ 1000)
 have hll := Nat.le_trans L.ll hN1
 have htl := Nat.le_trans L.tl hN1
 obtain ⟨⟨p1, p2, p3, p4, p5, p6⟩, ⟨r1, r2, r3, r4, r5, r6⟩⟩ := L.sepS
 obtain ⟨pl, hpl⟩ := L.JF
 have Nf : lj ≠ p := Ne.symm (fY hpl hlj)
 obtain ⟨nl, hnl, _⟩ := L.s.hn
 have Ox : lj ≠ nw := KC hlj hnl
 have hil : (aJ (iE ms)).length = (iE ms).length := List.length_map _
 have hol : (iE ms).length ≤ 10 := Nat.le_trans (List.length_filter_le _ _) (by rw [List.length_range]; exact hml)
 obtain ⟨aT, k, e1, hk, hp1, E1⟩ := C2 (l := aJ (iE ms)) L.pen (by rw [hil]; exact List.length_pos_iff.mpr hone)
 have L1 := L.take E1 hp1
 have OA := E1.getL hlj Nf
 rw [hil] at hk
 have hxo := getD_mem (d := 0) hk
 have gx := gR (E1.getL ho (Ne.symm (fY hpl ho))) hk (Nat.le_trans hol (by decide))
 generalize (iE ms).getD k 0 = x at hxo gx
 have hx := List.mem_filter.mp hxo
 have hxm := List.mem_range.mp hx.1
 have Nr := of_decide_eq_true hx.2
 obtain ⟨bH, e2, E2, hsj⟩ := Gq (l0 := l0) (l1 := l1) (l6 := l6) (l10 := l10) (yA := yA) (wP := wP) (Bd := some (.obj oj)) (uB := uB) (p := p) (r := r) (ej := ej) (bj := bj) (i := i) (n := n) (b := b) (W := W) OA hxm (Nat.le_trans hml (by decide))
 have L2 := L1.dY E2
 have Pz := bE L2.hbj
 have E3 : Ext (fun z => z = bj) bH (bH.set bj (.list (refsOf ls ++ [.obj lj]))) := .set _ rfl
 have g3 := c0 (l := refsOf ls ++ [.obj lj]) Pz
 have inB := inB c ej bj ls
 have PD : ej ∈ lists c ej bj ls := .tail _ (.head _)
 have hlt : ∀ z ∈ lists c ej bj ls, z < σ.length := fun z hz => (L.listAt z hz).elim fun _ h => bE h
 have hsep := L.Ew
 obtain ⟨b1, b2, b3, b4, b5, b6, b7, b8⟩ := hsep bj inB
 obtain ⟨cc1, PQ, cc3, PP, PO, PN, cc7, cc8⟩ := hsep c (.head _)
 obtain ⟨bd1, NB, bd3⟩ := L.NA
 have s3 := L2.s.ext E3 (Lp b1 b2 b3 b4 b5 b6)
 have Oa := E1.1
 obtain ⟨_, kS, e4, rfl, s4, E4⟩ := GD s3 htl (Nat.le_trans (Nat.le_of_eq (List.length_map _)) hll)
 have hp4 := (L2.pen.ext E3 (Ne.symm b7) (Ne.symm bd1)).ext E4 p5 PO
 have M6 := E4.getL (E3.getL hsj (Nat.ne_of_gt (Nat.lt_of_lt_of_le (hlt bj inB) Oa))) (Nat.ne_of_gt (Nat.lt_of_lt_of_le (L.s.lt mk (.tail _ (.tail _ (.tail _ (.tail _ (.head _)))))) Oa))
 have hvl : ((vm b (ms.getD x 0)).map V.int).length = (vm b (ms.getD x 0)).length := List.length_map _
 have hc5 := Nat.le_trans (B8 b (ms.getD x 0)) (by decide : 5 ≤ 1000)
 obtain ⟨pA, k', e5, hk', hp5, E5⟩ := C2 (l := (vm b (ms.getD x 0)).map V.int) hp4 (by rw [hvl, qQ]; exact Nat.lt_trans (by decide : 0 < 1) Nr)
 rw [hvl] at hk'
 have gv := Ip (E5.getL M6 (Nat.ne_of_gt (Nat.lt_of_lt_of_le (fC hpl) Oa))) hk' hc5
 have hvm := getD_mem (d := 0) hk'
 generalize (vm b (ms.getD x 0)).getD k' 0 = v at hvm gv
 obtain ⟨j, hj, hbj, rfl⟩ := eW.mp hvm
 have s5 := s4.ext E5 (Lp p1 p2 p3 p4 p5 p6)
 have hDl := L.hm.len
 have hxD : x < D.length := by rw [hDl]; exact hxm
 have hgx : ms.getD x 0 = ms[x] := by rw [List.getD_eq_getElem?_getD, List.getElem?_eq_getElem hxm]; rfl
 have hd := L.hm.at_ x _ _ (List.getElem?_eq_getElem hxD) (List.getElem?_eq_getElem hxm)
 rw [← hgx] at hd
 have LJ : ms.getD x 0 < 32 := by rw [hgx]; exact L.hm.lt _ (List.getElem_mem hxm)
 obtain ⟨u, hu, hue⟩ := Hf (b := b) (v := b + (j : Nat)) Nr
 rw [← hd.vals] at hu
 have hun : u ∈ aX (upto D[x] (b + (j : Nat) - 1) ++ dE D[x] (b + (j : Nat) + 1)) := iP.mpr ⟨hu, hue⟩
 obtain ⟨_, nV, e6, rfl, s6, E6⟩ := DW s5 (List.getElem?_eq_getElem hxD) hd.small (by rw [hDl]; exact Nat.le_trans hml (by decide)) htl (fun e => by rw [e] at hun; cases hun) fun e => by
  have : b + (j : Nat) ∈ aX D[x] := by rw [hd.vals]; exact hvm
  rw [← e] at this
  exact (iP.mp this).2 rfl
 have E02 : Ext (fun z => z = p) σ bH := E1.wB E2
 have keep : ∀ z, z ≠ p → z ≠ bj → z ≠ mk → ¬ (z = a ∨ z = t ∨ z = nw) → ∀ l, getL σ z = some l → getL nV z = some l := fun z h1 h2 h3 h4 l hl =>
  E6.getL (E5.getL (E4.getL (E3.getL (E02.getL hl h1) h2) h3) h1) h4
 have KI : ∀ z ∈ lists c ej bj ls, z ≠ bj → ∀ l, getL σ z = some l → getL nV z = some l := fun z hz hzb => by
  obtain ⟨q1, q2, q3, q4, q5, q6, q7, q8⟩ := hsep z hz
  exact keep z q7 hzb q5 (fun h => h.elim q2 fun h => h.elim q4 q6)
 have Oy := keep lj Nf (Ne.symm hlb) J0.h4 (fun h => h.elim J0.h1 fun h => h.elim J0.h3 Ox) _ hlj
 have Jm := E6.bT (E5.bT (E4.bT (E3.bT (E02.bT L.hr L.dis.h3) (Ne.symm b8)) r5) L.dis.h3) (fun h => h.elim r2 fun h => h.elim r4 r6)
 have OJ := E6.getL (E5.getL (E4.getL g3 b5) b7) (fun h => h.elim b2 fun h => h.elim b4 b6)
 have hclt : dC (ms.getD x 0) j < 32 := Nat.lt_of_le_of_lt Nat.and_le_left LJ
 have tr1 := Tr.snoc (D0 := D) (x := x) (new := upto D[x] (b + (j : Nat) - 1) ++ dE D[x] (b + (j : Nat) + 1)) (lit := .tup [.int (x : Nat), .str 51, .int (b + (j : Nat))]) (rs := .none) (sp := .int (-1)) Tr.nil (List.getElem?_eq_getElem hxD)
 have L6 : Lap nV p c r ej bj i a f t mk nw b W es (ms.set x (dC (ms.getD x 0) j)) (D.set x (upto D[x] (b + (j : Nat) - 1) ++ dE D[x] (b + (j : Nat) + 1))) firsts (trail ++ [.tup [.int (x : Nat), dv D[x], .tup [.int (x : Nat), .str 51, .int (b + (j : Nat))], .none, .int (-1)]]) (ls ++ [⟨lj, ms, D, trail⟩]) false clash (N + 1) := by
  refine ⟨by rw [z4]; exact s6, L.fc, L.hm.set hxm (hd.without hj) hclt, by rw [List.length_set]; exact hn, fun m hm' => ?_, hp5.ext E6 (fun h => h.elim p2 fun h => h.elim p4 p6) (fun h => h.elim PQ fun h => h.elim PP PN), Jm, KI ej PD (Ne.symm NB) _ L.hej, by rw [Bv]; exact OJ, fun l' h => ?_, .push L.st L.hm hn L.nz tr1, L.dis, fun z hz => ?_, ⟨bd1, NB, fun l' h => ?_⟩, ?_, ?_⟩
  ·rcases List.mem_or_eq_of_mem_set hm' with h' | rfl
   ·exact L.nz m h'
   ·intro h0
    have : u ∈ vm b (dC (ms.getD x 0) j) := by rw [← (hd.without hj).vals]; exact hun
    rw [h0] at this
    obtain ⟨k, _, hb, _⟩ := eW.mp this
    rw [Nat.zero_testBit] at hb; cases hb
  ·rcases List.mem_append.mp h with h | h
   ·exact KI _ (DG h) (Ne.symm (bd3 l' h)) _ (L.lv l' h)
   ·cases List.mem_singleton.mp h; exact Oy
  ·rw [z9] at hz
   rcases List.mem_append.mp hz with h | h
   ·exact L.lds z h
   ·cases List.mem_singleton.mp h; exact J0
  ·rcases List.mem_append.mp h with h | h
   ·exact bd3 l' h
   ·cases List.mem_singleton.mp h; exact hlb
  ·rw [List.length_append]; exact Nat.succ_le_succ L.tl
  ·rw [List.length_append]; exact Nat.succ_le_succ L.ll
 exact fQ (bN rfl (aN (aK rfl (aK (aN (aK rfl rfl) (jO ho (by rw [hil]; exact Nat.le_trans hol (by decide)))) rfl)) e1) gx) rfl (fQ e2 rfl (jG (fD rfl (d6 L2.hbj) (aK rfl rfl) (fG L2.hbj (by rw [zF]; exact Nat.le_trans hll (by decide)))) rfl (jG (c9 rfl (s3.inst (k := 97) rfl) rfl e4) rfl (cZ (kK (aP (c9 rfl (s4.inst (k := 96) rfl) (aK (mO (aK rfl (aK rfl (aK (bN rfl (aN (aK rfl (aK (aN (aK rfl rfl) (jO M6 (by rw [hvl]; exact Nat.le_trans hc5 (by decide)))) rfl)) e5) gv) rfl))) (Nat.le_of_ble_eq_true rfl)) rfl) e6))) (dG (hQ _ _ _ _ _ _ _ L6))))))
end
noncomputable def BY : XS := (XS.seq (XS.ite (X.n8 (X.test (X.call d5 (X.aB (X.var 8) (X.aB (X.var 9) (X.aB (X.var 5) (X.aB (X.var 4) (X.aB (X.var 7) X.aH)))))))) (XS.seq (XS.ret (X.pure (.bool false))) XS.nil) XS.nil) XS.nil)
noncomputable def F6 : XS := XS.seq (XS.assign (X.call dZ (X.aB (X.var 8) (X.aB (X.var 4) X.aH))) (XA.name 14)) (XS.seq (XS.assign (X.fZ [19] (X.call (bW cU) (X.aB (X.var 3) X.aH)) (XA.name 19) (some (X.test (X.bin Kn (X.call fU (X.aB (X.sub (X.var 14) (X.var 19)) X.aH)) (X.pure (.int 1))))) (X.var 19) 1000) (XA.name 15)) (XS.seq (XS.ite F2 F5 (XS.seq (XS.ite (X.pE (X.test (X.attr 0 13 (X.var 8))) (X.pE (X.test (X.bin oEq (X.var 15) (X.hY X.aH))) X.orZ)) (XS.seq (XS.ret (X.pure (.bool true))) XS.nil) Eb) XS.nil)) BY))
section
variable {σ : St} {p c r ej bj i a f t mk nw n : Nat} {b : Int} {W es ms : List Nat} {D firsts : List (List (Int × Int))} {trail clash : List V} {ls : List El} {failed : Bool} {N : Nat} {l0 l1 l6 l10 yA wP ET Bd xZ uB : Option V}
theorem zD (L : Lap σ p c r ej bj i a f t mk nw b W es ms D firsts trail ls false clash N) (he : d7 b firsts es) (hW : ∀ x ∈ W, x < es.length) (hcov : ∀ x, x < es.length → x ∈ W) (hWl : W.length ≤ 6) (hml : es.length ≤ 10) (hb1 : -20 ≤ b) (hb2 : b ≤ 20) (hN : N ≤ 700) {Q : Fl → Loc → St → Prop}
  (hQ : ∀ σ' qZ D' gM g7 fT, Lap σ' p c r ej bj i a f t mk nw b W es qZ D' firsts gM ls g7 fT (N + 50) → Q .next [l0, l1, some (.obj p), some (.int (n : Nat)), some (.int b), some (.obj ej), l6, some (.tup (aJ W)), some (.inst 0 i), some (.inst 2 r), l10, yA, some (.obj bj), wP, ET, Bd, xZ, uB, none, none, none, none, none] σ') :
  sp BY [l0, l1, some (.obj p), some (.int (n : Nat)), some (.int b), some (.obj ej), l6, some (.tup (aJ W)), some (.inst 0 i), some (.inst 2 r), l10, yA, some (.obj bj), wP, ET, Bd, xZ, uB, none, none, none, none, none] σ Q := by
 obtain ⟨_, σ', e, rfl, qZ, D', gM, g7, fT, L', _⟩ := L.right he hW hcov hWl hml hb1 hb2 hN
 exact cZ (kK (aP (aN rfl e))) (dG (hQ σ' qZ D' gM g7 fT L'))
theorem Lap.mono {N' : Nat} (L : Lap σ p c r ej bj i a f t mk nw b W es ms D firsts trail ls failed clash N) (h : N ≤ N') : Lap σ p c r ej bj i a f t mk nw b W es ms D firsts trail ls failed clash N' :=
 ⟨L.s, L.fc, L.hm, L.hn, L.nz, L.pen, L.hr, L.hej, L.hbj, L.lv, L.st, L.dis, L.lds, L.NA, Nat.le_trans L.tl h, Nat.le_trans L.ll h⟩
theorem H6 (L : Lap σ p c r ej bj i a f t mk nw b W es ms D firsts trail ls failed clash N) (he : d7 b firsts es) (hnz : ∀ m ∈ es, m ≠ 0) (hn : n = es.length) (hW : ∀ x ∈ W, x < es.length) (hcov : ∀ x, x < es.length → x ∈ W) (hWl : W.length ≤ 6) (hml : es.length ≤ 10) (hb1 : -20 ≤ b) (hb2 : b ≤ 20) (hN : N ≤ 600) {Q : Fl → Loc → St → Prop}
  (hret : ∀ ρ σ', Q (.ret (.bool true)) ρ σ')
  (hQ : ∀ σ' mk' Bb qZ D' gM ls' g7 fT ET Bd xZ uB, Lap σ' p c r ej bj i a f t mk' Bb b W es qZ D' firsts gM ls' g7 fT (N + 51) → Q .next [l0, l1, some (.obj p), some (.int (n : Nat)), some (.int b), some (.obj ej), l6, some (.tup (aJ W)), some (.inst 0 i), some (.inst 2 r), l10, yA, some (.obj bj), wP, ET, Bd, xZ, uB, none, none, none, none, none] σ') :
  sp F6 [l0, l1, some (.obj p), some (.int (n : Nat)), some (.int b), some (.obj ej), l6, some (.tup (aJ W)), some (.inst 0 i), some (.inst 2 r), l10, yA, some (.obj bj), wP, ET, Bd, xZ, uB, none, none, none, none, none] σ Q := by
 have hmn := L.hn
 have hf0 : ∀ rs ∈ firsts, rs ≠ [] := fun rs h => by
  obtain ⟨m, hm, hd⟩ := he.vals h
  rintro rfl
  exact Hb (he.lt m hm) (hnz m hm) (by rw [← hd.vals]; rfl)
 have hn2 := hn.trans hmn.symm
 have sR : ms.length ≤ 100 := by rw [hmn]; exact Nat.le_trans hml (by decide)
 have eN : ∀ ρ σ, X.hY X.aH ρ σ = some (.obj σ.length, σ ++ [O.list []]) := fun ρ σ => pZ rfl (Nat.zero_le _)
 obtain ⟨_, aT, e1, lj, rfl, Ng, hlj, E1⟩ := lD L.s L.hm sR hb1 hb2
 have L1 := L.dY E1
 obtain ⟨bH, e2, E2, hoj⟩ := Dl (l0 := l0) (l1 := l1) (l6 := l6) (l10 := l10) (yA := yA) (wP := wP) (Bd := Bd) (xZ := xZ) (uB := uB) (p := p) (r := r) (ej := ej) (bj := bj) (i := i) (n := n) (b := b) (W := W) hlj hn2 sR
 have L2 := L1.dY E2
 have Nh := E2.getL hlj id
 obtain ⟨bb, dQ, e3, L3, E3, hbb⟩ := G1 (l0 := l0) (l1 := l1) (l6 := l6) (l10 := l10) (yA := yA) (wP := wP) (ET := some (.obj lj)) (xZ := xZ) (uB := uB) (n := n) L2 (Nat.le_trans hN (by decide)) hoj
 obtain ⟨pl, hpl⟩ := L2.JF
 have Oz := E3.getL Nh (Ne.symm (fY hpl Nh))
 have M8 := E3.getL hoj (Ne.symm (fY hpl hoj))
 refine fQ (aN rfl e1) rfl (fQ e2 rfl ?_)
 have hN7 := Nat.le_trans hN (by decide : 600 ≤ 700)
 cases bb with
 | true => exact kO e3 (Hv L3 (Nat.le_trans hN (by decide)) (hbb rfl) hf0 (Nat.le_trans hml (by decide)) hb1 hb2 fun kS mk' Bb qZ D' gM ls' L4 => zD L4 he hW hcov hWl hml hb1 hb2 hN7 fun pA Pj D5 Hg J9 Md L5 => hQ pA mk' Bb Pj D5 Hg ls' J9 Md _ _ _ _ (L5.mono (Nat.le_succ _)))
 | false =>
 refine Fx e3 ?_
 have ef := bC (c := 0) (n := 13) L3.s.hs rfl
 cases failed with
 | true => exact kO (DS (aP (bP rfl ef))) (lK rfl (hret _ _))
 | false =>
 have P4 : bV dQ (dQ ++ [O.list []]) := .push _
 have n4 := p7 (P4.getL M8 id) (nF 5 _) cE
 cases hos : iE ms with
 | nil =>
  rw [hos] at n4
  exact kO (f3 (aP (bP rfl ef)) (DS (aP (aQ rfl (eN _ _) n4)))) (lK rfl (hret _ _))
 | cons o os =>
  have hone : iE ms ≠ [] := fun h => by rw [h] at hos; cases hos
  rw [hos] at n4
  have hlt : ∀ z ∈ [i, a, f, t, mk, nw], lj ≠ z := fun z h => Nat.ne_of_gt (Nat.lt_of_lt_of_le (L.s.lt z h) Ng)
  exact Fx (f3 (aP (bP rfl ef)) (f3 (aP (aQ rfl (eN _ _) n4)) rfl)) (GC (L3.dY P4) hN7 hml (P4.getL Oz id) ⟨hlt a (.tail _ (.head _)), hlt f (.tail _ (.tail _ (.head _))), hlt t (.tail _ (.tail _ (.tail _ (.head _)))), hlt mk (.tail _ (.tail _ (.tail _ (.tail _ (.head _)))))⟩ (Nat.ne_of_lt (Nat.lt_of_lt_of_le (bE L.hbj) Ng)) (P4.getL M8 id) hone hb1 hb2 fun pA xZ uB Pj D5 Hg Pl L5 => dG (zD L5 he hW hcov hWl hml hb1 hb2 (Nat.succ_le_succ (Nat.le_trans hN (by decide))) fun nV ms6 D6 La J8 Mc L6 => hQ nV mk nw ms6 D6 La _ J8 Mc _ _ _ _ L6))
end
noncomputable def Ea : XS := XS.seq (XS.assign (X.eH (X.aB (X.call (fNew 0 g9) X.aH) (X.aB (X.call (fNew 2 bX) (X.aB (X.var 7) X.aH)) X.aH))) (XA.swap [(8, 70), (9, 85)])) (XS.seq (XS.for (X.var 5) (XA.name 10) (XS.seq (XS.drop (X.cS 0 89 eR (X.var 8) (X.aB (X.call f6 (X.aB (X.var 10) (X.aB (X.var 4) X.aH))) X.aH))) XS.nil) 1000) (XS.seq (XS.assign (X.call (bW gS) (X.aB (X.fZ [20] (X.var 7) (XA.name 20) none (X.call b9 (X.aB (X.var 2) (X.aB (X.pure (.int 4)) X.aH))) 1000) X.aH)) (XA.name 11)) (XS.seq (XS.ite (X.pE (X.test (X.bin i3 (X.cS 2 59 cV (X.var 9) (X.aB (X.var 11) X.aH)) (X.call gH (X.aB (X.var 11) X.aH)))) (X.pE (X.test (X.bin iF (X.attr 2 31 (X.var 9)) (X.var 7))) X.orZ)) (XS.seq (XS.ret (X.pure (.bool false))) XS.nil) XS.nil) (XS.seq (XS.ite (X.pE (X.test (X.bin iF (X.cS 2 98 dN (X.var 9) X.aH) (X.eH (X.aB (X.pure (.str 48)) (X.aB (X.var 7) (X.aB (X.pure (.str 99)) X.aH)))))) (X.pE (X.n8 (X.test (X.call d5 (X.aB (X.var 8) (X.aB (X.var 9) (X.aB (X.var 5) (X.aB (X.var 4) (X.aB (X.var 7) X.aH)))))))) X.orZ)) (XS.seq (XS.ret (X.pure (.bool false))) XS.nil) XS.nil) (XS.seq (XS.assign (X.hY X.aH) (XA.name 12)) (XS.seq (XS.for (X.call (bW cU) (X.aB (X.bin rL (X.pure (.int 6)) (X.var 3)) X.aH)) (XA.name 13) F6 1000) (XS.seq (XS.ret (X.pure (.bool true))) XS.nil)))))))
theorem IH : ∀ (k : Nat) (v : V), okV k v = true → yG v v = true := by
 have key : ∀ (k : Nat), (∀ v : V, okV k v = true → yG v v = true) → ∀ l : List V, l.all (okV k) = true → pC l l = true := by
  intro k h l
  induction l with
  | nil => intro _; rfl
  | cons a l ih =>
   intro hl
   rw [List.all_cons, Bool.and_eq_true] at hl
   show (yG a a && pC l l) = true
   rw [h a hl.1, ih hl.2]; rfl
 intro k
 induction k with
 | zero => intro v h; cases v <;> first | rfl | exact beq_self_eq_true _ | cases h
 | succ k ih => intro v h; cases v <;> first | rfl | exact beq_self_eq_true _ | exact key k ih _ h | cases h
theorem FQ {σ : St} {l : List V} (h : okV 6 (.tup l) = true) : iF (.tup l) (.tup l) σ = some (.bool false, σ) := by
 show oNe (.tup l) (.tup l) σ = _
 unfold oNe
 rw [IJ h h, IH 6 (.tup l) h]; rfl
section
variable {σ : St} {p c ej n : Nat} {b : Int} {W es : List Nat} {l0 l1 l6 : Option V}
noncomputable def O5 (l0 l1 l6 l10 yA : Option V) (n p c r ej bj i a f t : Nat) (b : Int) (W es : List Nat) (firsts : List (List (Int × Int))) (k : Nat) (ρ : Loc) (σ' : St) : Prop :=
 E8 fun mk nw ms D trail ls failed clash => Lap σ' p c r ej bj i a f t mk nw b W es ms D firsts trail ls failed clash (50 + 51 * k) ∧ E5 fun wP ET Bd xZ uB => ρ = [l0, l1, some (.obj p), some (.int (n : Nat)), some (.int b), some (.obj ej), l6, some (.tup (aJ W)), some (.inst 0 i), some (.inst 2 r), l10, yA, some (.obj bj), wP, ET, Bd, xZ, uB, none, none, none, none, none]
theorem d7.nil {b : Int} : d7 b [] [] := ⟨rfl, (fun x r n h => by cases h), fun _ h => (List.not_mem_nil h).elim⟩
theorem H5 (hp : oR σ p c) (he : getL σ ej = some (aJ es)) (hn : n = es.length) (hn3 : 3 ≤ n) (hn4 : n ≤ 4) (h32 : ∀ m ∈ es, m < 32) (hnz : ∀ m ∈ es, m ≠ 0) (hW : ∀ x ∈ W, x < es.length) (hcov : ∀ x, x < es.length → x ∈ W) (hWl : W.length ≤ 6) (hb1 : -20 ≤ b) (hb2 : b ≤ 20) {Q : Fl → Loc → St → Prop}
  (hret : ∀ ρ σ', Q (.ret (.bool true)) ρ σ') : sp Ea [l0, l1, some (.obj p), some (.int (n : Nat)), some (.int b), some (.obj ej), l6, some (.tup (aJ W)), none, none, none, none, none, none, none, none, none, none, none, none, none, none, none] σ Q := by
 refine byC fun hG => ?_
 have hpl := hp.lt
 have hel := bE he
 have hes : es.length ≤ 10 := Nat.le_trans (Nat.le_of_eq hn.symm) (Nat.le_trans hn4 (by decide))
 have hil : (aJ es).length = es.length := List.length_map _
 obtain ⟨_, aT, e1, i, a, f, t, mk, nw, rfl, hi, hz, s1, E1⟩ := yO (σ := σ)
 obtain ⟨_, bH, e2, r, rfl, hrl, hr, E2⟩ := Bu (σ := aT) (W := W) (Nat.le_trans hWl (by decide))
 have s2 := s1.dY E2
 have E02 := E1.then E2
 have hp2 := hp.ext E02 id id
 have he2 := E02.getL he id
 have hnew : ∀ z ∈ [i, a, f, t, mk, nw], σ.length ≤ z := fun z h => by
  rcases List.mem_cons.mp h with rfl | h
  ·exact hi
  ·exact hz z h
 have ia : a ∈ [i, a, f, t, mk, nw] := .tail _ (.head _)
 have Pp : f ∈ [i, a, f, t, mk, nw] := .tail _ (.tail _ (.head _))
 have it : t ∈ [i, a, f, t, mk, nw] := .tail _ (.tail _ (.tail _ (.head _)))
 have im : mk ∈ [i, a, f, t, mk, nw] := .tail _ (.tail _ (.tail _ (.tail _ (.head _))))
 have old : ∀ z, z < σ.length → ∀ y ∈ [i, a, f, t, mk, nw], z ≠ y := fun z h y hy => Nat.ne_of_lt (Nat.lt_of_lt_of_le h (hnew y hy))
 have JL : ∀ z, z < σ.length → ¬ (z = a ∨ z = f) := fun z h q => q.elim (old z h a ia) (old z h f Pp)
 have Ll : ∀ z, z < σ.length → ¬ (z = i ∨ z = a ∨ z = t ∨ z = nw) := fun z h q => old z h z (GJ q) rfl
 have hri : r ≠ i := Nat.ne_of_gt (Nat.lt_of_lt_of_le (s1.lt i (.head _)) hrl)
 have hrp : r ≠ p := Nat.ne_of_gt (Nat.lt_of_lt_of_le hpl.1 (Nat.le_trans E1.1 hrl))
 refine hG (fQ (mO (aK (aN rfl e1) (aK (aN (aK rfl rfl) e2) rfl)) (Nat.le_of_ble_eq_true rfl)) rfl ?_)
 clear hG
 refine Jy (aJ es) (K5 (fun v => [l0, l1, some (.obj p), some (.int (n : Nat)), some (.int b), some (.obj ej), l6, some (.tup (aJ W)), some (.inst 0 i), some (.inst 2 r), v, none, none, none, none, none, none, none, none, none, none, none, none]) bH i a f t mk nw b es) (v := .obj ej) (aT := bH) rfl ⟨.refl, ⟨_, rfl⟩, [], s2, .nil⟩ (Nat.lt_of_le_of_lt (Nat.le_of_eq hil) (Nat.lt_of_le_of_lt hes (by decide))) ?_ ?_ ?_
 ·rintro k ρ σ' ⟨E, _⟩ hk
  exact Src.list (E.getL he2 (JL ej hel)) σ' .refl k hk
 ·rintro k vv ρ dQ hv ⟨E, ⟨v, rfl⟩, IS, s3, hm3⟩
  rw [aJ, List.getElem?_map] at hv
  obtain ⟨m, hm', rfl⟩ := Option.map_eq_some_iff.mp hv
  have hmm := List.mem_of_getElem? hm'
  obtain ⟨hk, hk2⟩ := List.getElem?_eq_some_iff.mp hm'
  have hdl := hm3.len
  have KT : IS.length ≤ 100 := by rw [hdl]; exact Nat.le_trans (List.length_take_le' ..) (Nat.le_trans hes (by decide))
  obtain ⟨rv, kS, e4, rr, pA, e5, hrr, rs, s5, hd5, E5⟩ := BM s3 (h32 m hmm) (hnz m hmm) hb1 hb2 KT KT
  refine ⟨_, _, rfl, fun Q' hn _ => jG (c9 rfl (s3.inst (k := 89) rfl) (aK (aN rfl e4) rfl) e5) hrr (dG (hn _ _ ⟨E.then E5, ⟨_, rfl⟩, _, s5, ?_⟩))⟩
  rw [List.take_succ_eq_append_getElem hk, hk2]
  exact hm3.snoc hd5 (h32 m hmm)
 rintro ρ dQ ⟨E3, ⟨v, rfl⟩, doms, s3, hm3⟩
 rw [hil, List.take_length] at hm3
 refine byC fun hG => ?_
 have hp3 := hp2.ext E3 (JL p hpl.1) (JL c hpl.2)
 have he3 := E3.getL he2 (JL ej hel)
 have hr3 := E3.bT hr (fun h => h.elim (fY hr s2.hd) (fY hr s2.hf))
 have hWi : (aJ W).length = W.length := List.length_map _
 have LN : (aJ W).length ≤ 10 := by rw [hWi]; exact Nat.le_trans hWl (by decide)
 obtain ⟨kS, ys, e4, _, _, E4, hp4, hys, _, hrow⟩ := BW (p := p) (c := c) (σ := dQ) (aT := dQ) (v := .tup (aJ W)) (ρ := [l0, l1, some (.obj p), some (.int (n : Nat)), some (.int b), some (.obj ej), l6, some (.tup (aJ W)), some (.inst 0 i), some (.inst 2 r), v, none, none, none, none, none, none, none, none, none, none, none, none]) (locs := [20]) (f := X.var 7) (a := XA.name 20) (e := X.call b9 (X.aB (X.var 2) (X.aB (X.pure (.int 4)) X.aH))) (fuel := 1000) (fun ρ => ∃ x : Option V, ρ = [l0, l1, some (.obj p), some (.int (n : Nat)), some (.int b), some (.obj ej), l6, some (.tup (aJ W)), some (.inst 0 i), some (.inst 2 r), v, none, none, none, none, none, none, none, none, none, x, none, none]) 0 4 (aJ W) ⟨none, rfl⟩ rfl hp3 (Nat.lt_of_le_of_lt LN (by decide)) (Nat.le_trans LN (by decide)) .tup (by
  rintro x _ σ' _ ⟨y, rfl⟩ hp'
  obtain ⟨_, kS, e4, y', rfl, h1, h2, hp4, E4, _⟩ := lC (many := 4) hp' (by decide)
  exact .mk rfl ⟨_, rfl⟩ (aN (aK rfl (aK rfl rfl)) e4) hp4 E4 h1 h2)
 have Ih : ys.length ≤ 10 := hys ▸ LN
 have s4 := s3.ext E4 fun z h => Ne.symm (old p hpl.1 z h)
 obtain ⟨_, _, _, P3⟩ := hp3
 have he4 := E4.getL he3 (Ne.symm (fY P3.pen he3))
 have hr4 := E4.bT hr3 hrp
 obtain ⟨_, pA, e5, rfl, E5⟩ := Aw (σ := kS) (r := r) (xs := ys) (Nat.le_trans Ih (by decide))
 obtain ⟨_, nV, e6, rfl, E6⟩ := CZ (σ := pA) (xs := ys) (Nat.le_trans Ih (by decide))
 have E46 := E5.then E6
 have Jm := E46.bT hr4 id
 have s6 := s4.dY E46
 have he6 := E46.getL he4 id
 have hp6 := hp4.ext E46 id id
 have ok : okV 6 (.tup [.str 48, .tup (aJ W), .str 99]) = true := by
  show (true && ((aJ W).all (okV 4) && (true && true))) = true
  rw [nF]; rfl
 obtain ⟨_, _, e6', rfl, rfl⟩ := Gn Jm
 obtain ⟨_, En, e7, rfl, E7, D, ents, qZ, failed, fT, s7, hm7, hn7, Os, hTr, OE, hfc⟩ := zE s6 hm3 hm3 rfl hnz Jm hri he6 (old ej hel a ia) (old ej hel t it) hW hcov hWl hes hb1 hb2 (Nat.zero_le _)
 have hp7 := hp6.ext E7 (Ll p hpl.1) (Ll c hpl.2)
 have he7 := E7.getL he6 (Ll ej hel)
 obtain ⟨nl, hnl, _⟩ := s6.hn
 have Om := E7.bT Jm (fun h => h.elim hri fun h => h.elim (fY Jm s6.hd) fun h => h.elim (fY Jm s6.ht) (Dz Jm hnl))
 have P8 : bV En (En ++ [O.list []]) := .push _
 have L8 : Lap (En ++ [O.list []]) p c r ej En.length i a f t mk nw b W es qZ D doms ents [] failed fT 50 := by
  refine ⟨s7.dY P8, hfc, hm7, hn7, Os, hp7.ext P8 id id, P8.bT Om id, P8.getL he7 id, cE, (fun l h => by cases h), .nil, ⟨old p hpl.1 i (.head _), hri, hrp⟩, fun z hz' => ?_, ⟨Nat.ne_of_gt hp7.lt.2, Nat.ne_of_gt (bE he7), (fun l h => by cases h)⟩, OE, Nat.zero_le _⟩
  have q : ∀ z, (∀ y ∈ [i, a, f, t, mk, nw], z ≠ y) → A4 (z ≠ a) (z ≠ f) (z ≠ t) (z ≠ mk) := fun z h => ⟨h a ia, h f Pp, h t it, h mk im⟩
  rcases List.mem_cons.mp hz' with rfl | hz'
  ·exact q _ (old _ hpl.2)
  rcases List.mem_cons.mp hz' with rfl | hz'
  ·exact q _ (old _ hel)
  ·cases List.mem_singleton.mp hz'
   exact q _ fun y hy => Nat.ne_of_gt (s7.lt y hy)
 have e6n : (6 : Int) - (n : Int) = ((6 - n : Nat) : Int) := (Int.ofNat_sub (Nat.le_trans hn4 (by decide : 4 ≤ 6))).symm
 have n6 : 6 - n ≤ 3 := Nat.sub_le_sub_left hn3 6
 have hrl : (List.range (6 - n)).length = 6 - n := List.length_range
 refine hG (fQ (aN (aK e4 rfl) (pX hrow (by rw [List.length_map]; exact Nat.le_trans Ih (by decide)))) rfl (cZ (f3 (aP (aQ (c9 rfl (f4 (n := 59) hr4 rfl) (aK rfl rfl) e5) (aN (aK rfl rfl) e6) Fo)) (f3 (aP (aQ (bP rfl (bC (n := 31) Jm rfl)) rfl (FQ (nF 5 W)))) rfl)) (cZ (f3 (aP (aQ (c9 rfl (f4 (n := 98) Jm rfl) rfl e6') (mO (aK rfl (aK rfl (aK rfl rfl))) (Nat.le_of_ble_eq_true rfl)) (FQ ok))) (f3 (kK (aP (aN rfl e7))) rfl)) (fQ (pZ rfl (Nat.zero_le _)) rfl ?_))))
 clear hG
 refine nE (List.range (6 - n)) (fun k => .int (k : Nat)) (O5 l0 l1 l6 v (some (.tup (ys.map .int))) n p c r ej En.length i a f t b W es doms) (v := .range 0 ((6 - n : Nat) : Int)) (aT := En ++ [O.list []]) (aN (aK (aQ rfl rfl (congrArg (fun z => some (V.int z, En ++ [O.list []])) e6n)) rfl) rfl) ⟨mk, nw, qZ, D, ents, [], failed, fT, L8, _, _, _, _, _, rfl⟩ (Nat.lt_of_le_of_lt (Nat.le_of_eq hrl) (Nat.lt_of_le_of_lt n6 (by decide))) (fun k ρ σ' _ hk => nZ (σ := σ') (Nat.le_trans n6 (by decide)) σ' .refl k (by rw [List.length_map]; exact hk)) ?_ ?_
 ·rintro k x ρ σ9 hx ⟨mk, nw, ms9, D9, K9, ls9, J7, Mb, L9, wP, ET, Bd, xZ, uB, rfl⟩
  have hk := (List.getElem?_eq_some_iff.mp hx).1
  rw [hrl] at hk
  have hk3 := Nat.le_trans (Nat.le_of_lt hk) n6
  exact ⟨rfl, fun Q' hn' hr' => H6 L9 hm3 hnz hn hW hcov hWl hes hb1 hb2 (Nat.le_trans (Nat.add_le_add_left (Nat.mul_le_mul_left 51 hk3) 50) (by decide)) (fun ρ σ' => hr' _ _ _ (hret ρ σ')) fun σ' mk' Bb Oh D10 Jo Ok Ix Kc m14 m15 m16 m17 PV => hn' _ _ ⟨mk', Bb, Oh, D10, Jo, Ok, Ix, Kc, PV.mono (Nat.le_of_eq (by rw [Nat.mul_succ, Nat.add_assoc])), _, _, _, _, _, rfl⟩⟩
 ·rintro ρ σ9 ⟨mk, nw, ms9, D9, K9, ls9, J7, Mb, L9, wP, ET, Bd, xZ, uB, rfl⟩
  exact lK rfl (hret _ _)
end
noncomputable def Fq (x : Int) : Int := (if x < 0 then -x else x) % 1000003
theorem Kf (x : Int) : 0 ≤ Fq x ∧ Fq x < 1000003 := ⟨Int.emod_nonneg _ (by decide), Int.emod_lt_of_pos _ (by decide)⟩
noncomputable def rot (t n : Nat) : List Nat := (List.range' t (n - t)) ++ List.range t
theorem t8 {t n x : Nat} (h : t ≤ n) : x ∈ rot t n ↔ x < n := by
 unfold rot
 rw [List.mem_append, List.mem_range'_1, List.mem_range, Nat.add_sub_cancel' h]
 exact ⟨fun a => a.elim (fun a => a.2) fun a => Nat.lt_of_lt_of_le a h, fun a => (Nat.lt_or_ge x t).elim .inr fun b => .inl ⟨b, a⟩⟩
theorem Jz {t n : Nat} (h : t ≤ n) : (rot t n).length = n := by
 unfold rot
 rw [List.length_append, List.length_range', List.length_range, Nat.sub_add_cancel h]
theorem DD (t n : Nat) : (rangeInts (t : Nat) (n : Nat)).map V.int = aJ (List.range' t (n - t)) := by
 unfold rangeInts aJ
 rw [List.range'_eq_map_range, List.map_map, List.map_map, show ((n : Int) - (t : Int)).toNat = n - t by lia]
 exact List.map_congr_left fun k _ => rfl
section
variable {σ : St}
theorem FX {g : V → St → Option (V × St)} {a : V} {r : Option (V × St)} (h : g a σ = r) : bW g [a] σ = r := h
theorem MY (a : Int) : oMod (.int a) (.int 1000003) σ = some (.int (a % 1000003), σ) := by
 unfold oMod
 dsimp only
 rw [if_neg (by decide), Int.fmod_eq_emod_of_nonneg _ (by decide)]
theorem C1 {x y : Nat} (hx : x ≤ 100) (hy : y ≤ 100) : gS (.range (x : Nat) (y : Nat)) σ = some (.tup (aJ (List.range' x (y - x))), σ) := by
 unfold gS
 dsimp only
 rw [if_pos, DD]
 exact ⟨small_one (by lia) (by lia) (by lia) (by lia), by lia⟩
theorem Ej {l m : List Nat} (h : l.length + m.length ≤ 1000) : eJ (.tup (aJ l)) (.tup (aJ m)) σ = some (.tup (aJ (l ++ m)), σ) := by
 unfold eJ
 dsimp only
 rw [if_pos (by unfold aJ; rw [List.length_map, List.length_map]; exact h)]
 unfold aJ
 rw [List.map_append]
theorem take_one {l : List Nat} (h0 : 1 < l.length) (h : l.length ≤ 1000) : gP (.tup (aJ l)) none (some 1) σ = some (.tup (aJ (l.take 1)), σ) := by
 have e : (aJ l).length = l.length := List.length_map _
 unfold gP
 dsimp only
 rw [if_pos ⟨by decide, by rw [e]; exact Int.ofNat_lt.mpr h0, by rw [e]; exact h⟩]
 unfold aJ
 rw [List.map_take]; rfl
theorem Ia {l : List Int} (h : ∀ u ∈ l, 0 ≤ u) : l.map V.int = aJ (l.map Int.toNat) := by
 unfold aJ
 rw [List.map_map]
 exact List.map_congr_left fun u hu => congrArg V.int (Int.toNat_of_nonneg (h u hu)).symm
theorem yM {p c n : Nat} (hp : oR σ p c) (h : 0 < n) : E2 fun σ' k => A4 (b9 [.obj p, .int (n : Nat)] σ = some (.int (k : Nat), σ')) (k < n) (oR σ' p c) (Ext (fun z => z = p) σ σ') := by
 obtain ⟨_, σ', e, y, rfl, h0, h1, hp', E, _⟩ := lC hp (Int.ofNat_lt.mpr h)
 obtain ⟨k, rfl⟩ := Int.eq_ofNat_of_zero_le h0
 exact ⟨σ', k, e, Int.ofNat_lt.mp h1, hp', E⟩
end
theorem H4 (ns : List Int) (hns : ns.length ≤ 63) : ∃ σ', Em [.yX ns] [] = some (.bool true, σ') := by
 refine byC fun hF => ?_
 have hG : ¬ wp (Em [.yX ns] []) fun v _ => v = .bool true := fun ⟨v, σ', e, h⟩ => hF ⟨σ', h ▸ e⟩
 clear hF
 have tl : (ns.take 30).length ≤ 30 := List.length_take_le ..
 have A0 : gP (.yX ns) none (some 30) [] = some (.obj 0, [.list ((ns.take 30).map .int)]) := by
  unfold gP
  dsimp only
  rw [if_pos ⟨by decide, Nat.le_trans hns (by decide)⟩]
  rfl
 refine evMap (α := Int) (σ := []) (aT := [O.list ((ns.take 30).map V.int)]) (locs := [22]) (f := X.slice (X.var 0) none (some (X.pure (.int 30)))) (a := XA.name 22) (t := none) (e := X.bin oMod (X.call (bW LT) (X.aB (X.var 22) X.aH)) (X.pure (.int 1000003))) (fuel := 1000) (ρ := [some (.yX ns), none, none, none, none, none, none, none, none, none, none, none, none, none, none, none, none, none, none, none, none, none, none]) (fun ρ => ∃ x : Option V, ρ = [some (.yX ns), none, none, none, none, none, none, none, none, none, none, none, none, none, none, none, none, none, none, none, none, none, x]) (ns.take 30) V.int (fun x => some (.int (Fq x))) ⟨none, rfl⟩ (Nat.le_trans tl (by decide)) (Src.list rfl) (fun aT e1 E1 hc1 => ?_) (rB rfl rfl A0) (Nat.lt_of_le_of_lt tl (by decide)) (by
  rintro x _ σ' _ ⟨y, rfl⟩ E
  exact .put rfl ⟨_, rfl⟩ rfl (aQ (aN (aK rfl rfl) rfl) rfl (MY _)) rfl .refl)
 have hcell : ∀ x ∈ (ns.take 30).map Fq, 0 ≤ x ∧ x < 1000003 := fun x hx => by
  obtain ⟨y, _, rfl⟩ := List.mem_map.mp hx
  exact Kf y
 have hcl : ((ns.take 30).map Fq).length ≤ 30 := by rw [List.length_map]; exact tl
 have hc1 : getL aT 1 = some (((ns.take 30).map Fq).map .int) := by rw [List.map_map, ← Aj]; exact hc1
 generalize (ns.take 30).map Fq = cells at hcell hcl hc1
 have hcj := bE hc1
 have e2 := Fb hc1 (Nat.le_trans hcl (by decide)) fun x hx => ⟨Int.le_trans (by decide) (hcell x hx).1, Int.le_trans (Int.le_of_lt (hcell x hx).2) (by decide)⟩
 have hm0 := Int.emod_nonneg (vE cells) (show (1000003 : Int) ≠ 0 by decide)
 have hm1 := Int.emod_lt_of_pos (vE cells) (show (0 : Int) < 1000003 by decide)
 have Pr := MY (σ := aT) (vE cells)
 generalize vE cells % 1000003 = mx at hm0 hm1 Pr
 have P2 : bV aT (aT ++ [O.aV [(64, V.obj 1), (63, V.int 0), (61, V.int (17 + mx))]]) := .push _
 have hp2 : oR (aT ++ [O.aV [(64, V.obj 1), (63, V.int 0), (61, V.int (17 + mx))]]) aT.length 1 :=
  ⟨0, 17 + mx, cells, Ai, Nat.ne_of_lt hcj, P2.getL hc1 id, by decide, by lia, by lia, fun x hx => (hcell x hx).1, Nat.le_trans hcl (by decide)⟩
 obtain ⟨dQ, y, e3, y1, hp3, E3⟩ := yM (n := 2) hp2 (by decide)
 have e3n : eJ (.int 3) (.int (y : Nat)) dQ = some (.int ((3 + y : Nat) : Int), dQ) := rfl
 obtain ⟨_, kS, e4, z, rfl, z0, z1, hp4, E4, _⟩ := lC (many := 5) hp3 (by decide)
 have hn3 : 3 ≤ 3 + y := Nat.le_add_right _ _
 have hn4 : 3 + y ≤ 4 := Nat.add_le_add_left (Nat.le_of_lt_succ y1) 3
 have hrl : ((rangeInts 0 ((3 + y : Nat) : Int)).map V.int).length = 3 + y := by rw [List.length_map, Bx, Int.sub_zero]; rfl
 obtain ⟨pA, ys, e5, _, _, _, hp5, hyl, hyb, hej⟩ := BW (p := aT.length) (c := 1) (σ := kS) (aT := kS) (v := .range 0 ((3 + y : Nat) : Int)) (ρ := [some (.yX ns), some (.obj 1), some (.obj aT.length), some (.int ((3 + y : Nat) : Int)), some (.int (z - 2)), none, none, none, none, none, none, none, none, none, none, none, none, none, none, none, none, none, none]) (locs := [21]) (f := X.call (bW cU) (X.aB (X.var 3) X.aH)) (a := XA.name 21) (e := X.bin eJ (X.pure (.int 1)) (X.call b9 (X.aB (X.var 2) (X.aB (X.pure (.int 31)) X.aH)))) (fuel := 1000) (fun ρ => ∃ x : Option V, ρ = [some (.yX ns), some (.obj 1), some (.obj aT.length), some (.int ((3 + y : Nat) : Int)), some (.int (z - 2)), none, none, none, none, none, none, none, none, none, none, none, none, none, none, none, none, x, none]) 1 32 ((rangeInts 0 ((3 + y : Nat) : Int)).map V.int) ⟨none, rfl⟩ rfl hp4 (by rw [hrl]; exact Nat.lt_of_le_of_lt hn4 (by decide)) (by rw [hrl]; exact Nat.le_trans hn4 (by decide)) (.range (by decide) (by decide) (by lia) (by lia)) (by
  rintro x _ σ' _ ⟨y, rfl⟩ hp'
  obtain ⟨_, pA, e5, w, rfl, w0, w1, hp5, E5, _⟩ := lC (many := 31) hp' (by decide)
  exact .mk rfl ⟨_, rfl⟩ (aQ rfl (aN (aK rfl (aK rfl rfl)) e5) rfl) hp5 E5 (Int.add_le_add_left w0 1) (Int.add_lt_add_left w1 1))
 rw [hrl] at hyl
 rw [Ia fun u hu => Int.le_trans (by decide) (hyb u hu).1] at hej
 have J1 : (ys.map Int.toNat).length = 3 + y := by rw [List.length_map]; exact hyl
 have No : ∀ m ∈ ys.map Int.toNat, m < 32 := fun m hm => by
  obtain ⟨u, hu, rfl⟩ := List.mem_map.mp hm
  have := hyb u hu; lia
 have Nn : ∀ m ∈ ys.map Int.toNat, m ≠ 0 := fun m hm => by
  obtain ⟨u, hu, rfl⟩ := List.mem_map.mp hm
  have := hyb u hu; lia
 generalize ys.map Int.toNat = es at hej J1 No Nn
 obtain ⟨nV, t, e6, ht, hp6, E6⟩ := yM (n := 3 + y) hp5 (Nat.lt_of_lt_of_le (by decide) hn3)
 have htn := Nat.le_of_lt ht
 have GO := Jz htn
 have KL := Nat.le_trans htn (Nat.le_trans hn4 (by decide : 4 ≤ 100))
 have g1 := C1 (σ := nV) KL (Nat.le_trans hn4 (by decide : 4 ≤ 100))
 have g2 := C1 (σ := nV) (Nat.zero_le 100) KL
 rw [Nat.sub_zero, ← List.range_eq_range'] at g2
 have g3 : eJ (.tup (aJ (List.range' t (3 + y - t)))) (.tup (aJ (List.range t))) nV = some (.tup (aJ (rot t (3 + y))), nV) := Ej (by
  rw [← List.length_append]; exact Nat.le_trans (Nat.le_of_eq GO) (Nat.le_trans hn4 (by decide)))
 have q1 : X.call (sW oI) (X.aB (X.var 6) (X.aB (X.var 3) X.aH)) [some (.yX ns), some (.obj 1), some (.obj aT.length), some (.int ((3 + y : Nat) : Int)), some (.int (z - 2)), some (.obj kS.length), some (.int (t : Nat)), none, none, none, none, none, none, none, none, none, none, none, none, none, none, none, none] nV = some (.range (t : Nat) ((3 + y : Nat) : Int), nV) := aN (aK rfl (aK rfl rfl)) rfl
 have q2 : X.call (bW cU) (X.aB (X.var 6) X.aH) [some (.yX ns), some (.obj 1), some (.obj aT.length), some (.int ((3 + y : Nat) : Int)), some (.int (z - 2)), some (.obj kS.length), some (.int (t : Nat)), none, none, none, none, none, none, none, none, none, none, none, none, none, none, none, none] nV = some (.range 0 (t : Nat), nV) := aN (aK rfl rfl) rfl
 have PL : X.bin eJ (X.call (bW gS) (X.aB (X.call (sW oI) (X.aB (X.var 6) (X.aB (X.var 3) X.aH))) X.aH)) (X.call (bW gS) (X.aB (X.call (bW cU) (X.aB (X.var 6) X.aH)) X.aH)) [some (.yX ns), some (.obj 1), some (.obj aT.length), some (.int ((3 + y : Nat) : Int)), some (.int (z - 2)), some (.obj kS.length), some (.int (t : Nat)), none, none, none, none, none, none, none, none, none, none, none, none, none, none, none, none] nV = _ := aQ (aN (aK q1 rfl) (FX g1)) (aN (aK q2 rfl) (FX g2)) g3
 obtain ⟨En, w, e7, _, hp7, E7⟩ := yM (n := 14) hp6 (by decide)
 have Np : kS.length ≠ aT.length := Nat.ne_of_gt hp4.lt.1
 have J2 := E7.getL (E6.getL hej Np) Np
 have b1 : -20 ≤ z - 2 := by lia
 have b2 : z - 2 ≤ 20 := by lia
 have fin : ∀ W : List Nat, (∀ x ∈ W, x < 3 + y) → (∀ x, x < 3 + y → x ∈ W) → W.length ≤ 6 → ∀ Q : Fl → Loc → St → Prop, (∀ ρ σ', Q (.ret (.bool true)) ρ σ') →
   sp Ea [some (.yX ns), some (.obj 1), some (.obj aT.length), some (.int ((3 + y : Nat) : Int)), some (.int (z - 2)), some (.obj kS.length), some (.int (t : Nat)), some (.tup (aJ W)), none, none, none, none, none, none, none, none, none, none, none, none, none, none, none] En Q :=
  fun W h1 h2 h3 Q hQ => H5 hp7 J2 J1.symm hn3 hn4 No Nn (by rw [J1]; exact h1) (by rw [J1]; exact h2) h3 b1 b2 hQ
 refine hG (wp_runF rfl (fQ e1 rfl (fQ (FZ (oK rfl rfl (oK rfl rfl (oK rfl (aQ rfl (aQ (aN (aK rfl rfl) e2) rfl Pr) rfl) rfl))) rfl) rfl (fQ (mO (aK (aQ rfl (aN (aK rfl (aK rfl rfl)) e3) e3n) (aK (aQ (aN (aK rfl (aK rfl rfl)) e4) rfl rfl) rfl)) (Nat.le_of_ble_eq_true rfl)) rfl (fQ e5 rfl (fQ (aN (aK rfl (aK rfl rfl)) e6) rfl (fQ PL rfl ?_)))))))
 clear hG
 have ew := eq_int (σ := En) (a := (w : Nat)) (b := 13)
 by_cases hw : (w : Int) = 13
 ·rw [decide_eq_true hw] at ew
  refine kO (aP (aQ (aN (aK rfl (aK rfl rfl)) e7) rfl ew)) (fQ (aQ rfl (rB rfl rfl (take_one (Nat.lt_of_lt_of_le (by decide) (Nat.le_trans hn3 (Nat.le_of_eq GO.symm))) (Nat.le_trans (Nat.le_of_eq GO) (Nat.le_trans hn4 (by decide))))) (Ej ?_)) rfl (dG (fin _ (fun x hx => ?_) (fun x hx => List.mem_append_left _ ((t8 htn).mpr hx)) ?_ _ fun ρ σ' => rfl)))
  ·rw [GO, List.length_take]; exact Nat.le_trans (Nat.add_le_add hn4 (Nat.min_le_left ..)) (by decide)
  ·rcases List.mem_append.mp hx with h | h
   ·exact (t8 htn).mp h
   ·exact (t8 htn).mp (List.mem_of_mem_take h)
  ·rw [List.length_append, GO, List.length_take]; exact Nat.le_trans (Nat.add_le_add hn4 (Nat.min_le_left ..)) (by decide)
 ·rw [decide_eq_false hw] at ew
  exact cZ (aP (aQ (aN (aK rfl (aK rfl rfl)) e7) rfl ew)) (fin _ (fun x hx => (t8 htn).mp hx) (fun x hx => (t8 htn).mpr hx) (Nat.le_trans (Nat.le_of_eq GO) (Nat.le_trans hn4 (by decide))) _ fun ρ σ' => rfl)
end Mine
end
section
open PySem PySem.W PyProof.Rows PySem.Calls
namespace Mine
theorem Cz {p q : Program} {loose : List Str} {Xt : Shared → Bool} {α : Type} {Yf : Shared → α} {Ya : World → α} {N : Nat} {g0 : Bool} {H₀ : Params → Heap} {gs₀ : Array GenState} {d₀ : Drawn} {k₀ : Nat} {m₀ : Nat} {ann : Option Value}
  (open_ : ∀ w : World, (fencedOpening treeTable p w N).map (fun s => (s.heap, s.gens, s.drawn, s.toks)) = some (H₀ w.params, gs₀, d₀, k₀))
  (size : ∀ w : World, ((H₀ w.params).isNs mainGlobals && gs₀.size == 0, (H₀ w.params).objs.size, (H₀ w.params).nsMap mainGlobals "__annotations__") = (true, m₀, ann))
  (run : ∀ (w : World) (os : OsState), ∃ s₁, topRun treeTable p w m₀ ann N ⟨H₀ w.params, gs₀, d₀, k₀, os⟩ (topStub p) = some s₁ ∧ (staticsOk (importedModules p.main.body) (H₀ w.params) s₁.heap && namesBound p s₁.heap && gensDone s₁ && laidKept (H₀ w.params) s₁.heap) = true ∧
   (openSeen q loose (importedModules p.main.body) Xt g0 s₁, Yf s₁) = (openGood q loose, Ya w)) : LeftO p q loose Xt Yf Ya N g0 := fun w => by
 obtain ⟨⟨h, gs, d, k, os⟩, e, e'⟩ := Option.map_eq_some_iff.mp (open_ w)
 obtain ⟨rfl, rfl, rfl, rfl⟩ : h = H₀ w.params ∧ gs = gs₀ ∧ d = d₀ ∧ k = k₀ := by simpa using e'
 obtain ⟨z1, z2, z3⟩ : _ ∧ _ ∧ _ := by simpa only [Prod.mk.injEq] using size w
 obtain ⟨s₁, r, l1, l2⟩ := run w os
 have t : topFrom treeTable p w N ⟨H₀ w.params, gs, d, k, os⟩ = some s₁ := by
  unfold topFrom
  dsimp only
  rw [z1, z2, z3, r]
  show (match staticsOk (importedModules p.main.body) (H₀ w.params) s₁.heap && namesBound p s₁.heap && gensDone s₁ && laidKept (H₀ w.params) s₁.heap with | true => _ | false => _) = _
  rw [l1]
 unfold openEnds
 rw [e]
 show (topFrom treeTable p w N _).map _ = _
 rw [t]
 exact congrArg some l2
noncomputable abbrev pR : Program := PySem.Challenge.rw_xw0067_01.row.toRowW.1
noncomputable def qV : Program := view pR [0, 2, 3, 4, 5, 6, 7, 8, 9, 10, 11, 12, 13, 14, 16, 17, 19, 20, 22, 23, 24, 25, 26, 27, 28, 29, 30, 31, 32, 33, 34, 35]
noncomputable def Dh : Pos := ⟨0, 0, 0, 0⟩
noncomputable def Lj : Pos := ⟨340, 0, 376, 15⟩
noncomputable def LZ : Env := { scope := pR.main.scope, locals := mainNs, globals := mainNs, cells := [], code := .ref 13, frame := some 14 }
noncomputable def Ph : Obj := { cls := .type "tuple", data := .seq #[] }
noncomputable def Pg : Obj := { cls := .none, data := .fields #[] }
noncomputable def Pf : Obj := { cls := .type "code", data := .fields #[.str "<module>" 182, .str "<module>" 183, .str "/claim/cut.py" 184, .int 1 0, .int 0 0, .int 0 0, .int 0 0, .int 0 0, .ref 11, .bool false, .int 181 0, .ref 12, .none, .none, .none, .none, .int 185 0, .int 1 0, .str "/claim/cut.py" 186] }
noncomputable def Pe : Obj := { cls := .type "frame", slots := #[some (.ref 13), some (.ref 3), some (.ref 3), none, some (.str "__main__" 164), none, some (.ref 0)] }
noncomputable def KS (P : Params) : Heap := { objs := #[boot_o_0 P, boot_o_1 P, boot_o_2 P, boot_o_3 P, boot_o_4 P, boot_o_5 P, boot_o_6 P, boot_o_7 P, boot_o_8 P, boot_o_9 P, boot_o_10 P, Ph, Pg, Pf, Pe] }
noncomputable def leaf (o : Obj) : BT := .node o .nil .nil
noncomputable def MC (P : Params) : BT :=
 .node (boot_o_0 P) (.node (boot_o_1 P) (.node (boot_o_3 P) (leaf (boot_o_7 P)) (leaf Ph)) (.node (boot_o_5 P) (leaf (boot_o_9 P)) (leaf Pf)))
  (.node (boot_o_2 P) (.node (boot_o_4 P) (leaf (boot_o_8 P)) (leaf Pg)) (.node (boot_o_6 P) (leaf (boot_o_10 P)) (leaf Pe)))
noncomputable def At : Code := .body (behindTheImports pR) LZ
noncomputable def sT (w : World) (os : OsState) : SharedT := { tree := MC w.params, n := 15, life := {}, gens := #[], drawn := {}, toks := 187, os := os }
theorem Li : ∀ w : World, (fun os => topGo treeTable pR w 11 (some (.ref 6)) 12 ⟨boot_heap w.params, #[], boot_drawn, boot_toks, os⟩ (topStub pR)) = fun os => some (⟨KS w.params, #[], {}, 187, os⟩, ⟨denote treeTable At, At, Dh, [topFrame Dh]⟩) := fun w => by kernel_rfl
theorem I5 : ∀ w : World, (fun os => segRun treeTable pR w 11 (some (.ref 6)) 1 1 ⟨KS w.params, #[], {}, 187, os⟩ (blockOf (behindTheImports pR) LZ At Dh [topFrame Dh])) = fun os => some (.next, (sT w os).abs, At, Dh) := fun w => by kernel_rfl
theorem JK : ∀ w : World, (fencedOpening treeTable pR w 5632).map (fun s => (s.heap, s.gens, s.drawn, s.toks)) = some (boot_heap w.params, Array.mk [], boot_drawn, boot_toks) := boot_open (by kernel_rfl) (by decide) (fun s => by kernel_rfl)
theorem Ju : ∀ w : World, ((boot_heap w.params).isNs mainGlobals && (Array.mk ([] : List GenState)).size == 0, (boot_heap w.params).objs.size, (boot_heap w.params).nsMap mainGlobals "__annotations__") = (true, 11, some (.ref 6)) := fun w => by kernel_rfl
noncomputable def dA (i : Nat) : Stmt := (PySem.Challenge.pw_xw0067_01.main.body[i]?).getD (.Pass ⟨0, 0, 0, 0⟩)
noncomputable def Me : Stmt → List Stmt
 | .ClassDef (body := b) .. => b
 | _ => []
noncomputable def iQ (i j : Nat) : Stmt := ((Me (dA i))[j]?).getD (.Pass ⟨0, 0, 0, 0⟩)
noncomputable def cG : Stmt → List Stmt
 | .FunctionDef (body := b) .. => b
 | _ => []
noncomputable def bO : Stmt → Scope
 | .FunctionDef (scope := s) .. => s
 | _ => default
noncomputable def Iv : Stmt → Arguments
 | .FunctionDef (args := s) .. => s
 | _ => default
noncomputable def S (x : String) (t : Nat) : Value := .str (Str.ofString x) t
noncomputable def D (P : Params) (n : Nat) (l : List (String × Nat × Value)) : Obj := { cls := .type "dict", data := .dict (l.map fun e => ⟨PyData.keyHash P (Str.ofString e.1), .str (Str.ofString e.1) e.2.1, e.2.2⟩).toArray n }
noncomputable def fO (st : Stmt) (name qual : String) (m : Value) (code : Nat) (cl : List (String × Nat)) (ct : Value) : Obj :=
 { cls := .type "function", data := .func { name := Str.ofString name, qualname := Str.ofString qual, params := Iv st, body := .stmts (cG st), scope := bO st, globals := 3, closure := cl.map fun x => (Str.ofString x.1, x.2), defaults := .none, kwdefaults := .none, pyModule := m, code := .ref code, closureTuple := ct } }
noncomputable def cO (name qual : String) (t line n : Nat) (x7 x8 x9 x11 x12 Pu x14 x15 : Value) (t3 t4 : Nat) : Obj :=
 { cls := .type "code", data := .fields #[S name t, S qual (t + 1), S "/claim/cut.py" (t + 2), .int line 0, .int n 0, .int 0 0, .int 0 0, x7, x8, x9, .int 181 0, x11, x12, Pu, x14, x15, .int t3 0, .int line 0, S "/claim/cut.py" t4] }
noncomputable def PS : List Addr := [2, 3, 55, 56, 60, 61, 65, 66, 72, 73, 79, 80, 86, 87, 93, 94, 114, 115, 121, 122, 128, 129, 135, 136, 142, 143, 198, 199, 205, 206, 212, 213, 219, 220, 226, 227, 233, 234, 250, 251, 268, 269, 292, 293, 308, 309, 315, 316, 322, 323, 329, 330, 332, 333, 341, 352, 353, 359, 360, 364, 365, 371, 372, 378, 379, 381, 382, 390, 391, 395, 396, 402, 403, 407, 408, 412, 413, 419, 420, 426, 427, 431, 432, 438, 439, 443, 444, 450, 451, 457, 458, 462, 463, 467, 468]
noncomputable def KQ (P : Params) : Frag := [
 (2, { cls := .none, data := .dict #[] }),
 (3, D P 41 [("__name__", 165, (S "law_xw0067_01" 684)), ("__doc__", 166, .none), ("__package__", 167, .none), ("__loader__", 168, (.builtin "__main__.__loader__#opaque")), ("__spec__", 169, .none), ("__annotations__", 170, (.ref 6)), ("__builtins__", 171, (.ref 4)), ("__file__", 173, (S "/claim/cut.py" 172)), ("__cached__", 174, .none), ("_wall", 193, (.ref 21)), ("least", 202, (.ref 28)), ("greatest", 209, (.ref 35)), ("next_from", 219, (.ref 42)), ("has", 227, (.ref 49)), ("has_domains", 228, (.ref 49)), ("values", 238, (.ref 56)), ("up_to", 244, (.ref 61)), ("from_on", 250, (.ref 66)), ("without", 258, (.ref 73)), ("meet", 271, (.ref 80)), ("negation", 281, (.ref 87)), ("struck", 291, (.ref 94)), ("said_of", 300, (.ref 101)), ("Store", 494, (.ref 251)), ("Propagator", 549, (.ref 293)), ("Matching", 616, (.ref 333)), ("AllDifferentValues", 683, (.ref 382)), ("_law_take", 694, (.ref 391)), ("_law_count", 700, (.ref 396)), ("_law_ranges", 710, (.ref 403)), ("_law_lot", 716, (.ref 408)), ("_law_lots", 722, (.ref 413)), ("_law_part", 736, (.ref 420)), ("_law_can_sit", 749, (.ref 427)), ("_law_staying", 755, (.ref 432)), ("_law_bars", 767, (.ref 439)), ("_law_stood", 773, (.ref 444)), ("_law_are_told_right", 792, (.ref 451)), ("_law_is_right", 809, (.ref 458)), ("_law_are_unlike", 815, (.ref 463)), ("law", 821, (.ref 468))]),
 (55, cO "values" "values" 229 17 1 (.int 3 0) (.ref 50) (.bool true) (.ref 51) .none (.ref 52) (.ref 53) (.ref 54) 236 237),
 (56, fO (dA 7) "values" "values" (S "fdsolve.domains" 194) 55 [] .none),
 (60, cO "up_to" "up_to" 239 22 2 (.int 3 0) (.ref 57) (.bool true) (.ref 58) .none .none .none (.ref 59) 242 243),
 (61, fO (dA 8) "up_to" "up_to" (S "fdsolve.domains" 194) 60 [] .none),
 (65, cO "from_on" "from_on" 245 24 2 (.int 3 0) (.ref 62) (.bool true) (.ref 63) .none .none .none (.ref 64) 248 249),
 (66, fO (dA 9) "from_on" "from_on" (S "fdsolve.domains" 194) 65 [] .none),
 (72, cO "without" "without" 251 26 2 (.int 3 0) (.ref 67) (.bool true) (.ref 68) .none (.ref 69) (.ref 70) (.ref 71) 256 257),
 (73, fO (dA 10) "without" "without" (S "fdsolve.domains" 194) 72 [] .none),
 (79, cO "meet" "meet" 259 28 2 (.int 3 0) (.ref 74) (.bool true) (.ref 75) .none (.ref 76) (.ref 77) (.ref 78) 269 270),
 (80, fO (dA 11) "meet" "meet" (S "fdsolve.domains" 194) 79 [] .none),
 (86, cO "negation" "negation" 272 39 1 (.int 3 0) (.ref 81) (.bool true) (.ref 82) .none (.ref 83) (.ref 84) (.ref 85) 279 280),
 (87, fO (dA 12) "negation" "negation" (S "fdsolve.domains" 194) 86 [] .none),
 (93, cO "struck" "struck" 282 46 2 (.int 3 0) (.ref 88) (.bool true) (.ref 89) .none (.ref 90) (.ref 91) (.ref 92) 289 290),
 (94, fO (dA 13) "struck" "struck" (S "fdsolve.domains" 194) 93 [] .none),
 (114, cO "__init__" "Store.__init__" 315 61 1 (.int 3 0) (.ref 109) (.bool true) (.ref 110) .none (.ref 111) (.ref 112) (.ref 113) 319 320),
 (115, fO (iQ 16 0) "__init__" "Store.__init__" (S "fdsolve.store" 301) 114 [] .none),
 (121, cO "new_var" "Store.new_var" 322 71 2 (.int 3 0) (.ref 116) (.bool true) (.ref 117) .none (.ref 118) (.ref 119) (.ref 120) 327 328),
 (122, fO (iQ 16 1) "new_var" "Store.new_var" (S "fdsolve.store" 301) 121 [] .none),
 (128, cO "size" "Store.size" 330 78 1 (.int 3 0) (.ref 123) (.bool true) (.ref 124) .none (.ref 125) (.ref 126) (.ref 127) 334 335),
 (129, fO (iQ 16 2) "size" "Store.size" (S "fdsolve.store" 301) 128 [] .none),
 (135, cO "dom" "Store.dom" 337 81 2 (.int 3 0) (.ref 130) (.bool true) (.ref 131) .none (.ref 132) (.ref 133) (.ref 134) 342 343),
 (136, fO (iQ 16 3) "dom" "Store.dom" (S "fdsolve.store" 301) 135 [] .none),
 (142, cO "initial" "Store.initial" 345 84 2 (.int 3 0) (.ref 137) (.bool true) (.ref 138) .none (.ref 139) (.ref 140) (.ref 141) 350 351),
 (143, fO (iQ 16 4) "initial" "Store.initial" (S "fdsolve.store" 301) 142 [] .none),
 (198, cO "enter" "Store.enter" 410 108 4 (.int 3 0) (.ref 193) (.bool true) (.ref 194) .none (.ref 195) (.ref 196) (.ref 197) 420 421),
 (199, fO (iQ 16 12) "enter" "Store.enter" (S "fdsolve.store" 301) 198 [] .none),
 (205, cO "strike" "Store.strike" 423 121 3 (.int 3 0) (.ref 200) (.bool true) (.ref 201) .none (.ref 202) (.ref 203) (.ref 204) 429 430),
 (206, fO (iQ 16 13) "strike" "Store.strike" (S "fdsolve.store" 301) 205 [] .none),
 (212, cO "decide" "Store.decide" 432 124 2 (.int 3 0) (.ref 207) (.bool true) (.ref 208) .none (.ref 209) (.ref 210) (.ref 211) 437 438),
 (213, fO (iQ 16 14) "decide" "Store.decide" (S "fdsolve.store" 301) 212 [] .none),
 (219, cO "fail" "Store.fail" 440 127 2 (.int 3 0) (.ref 214) (.bool true) (.ref 215) .none (.ref 216) (.ref 217) (.ref 218) 445 446),
 (220, fO (iQ 16 15) "fail" "Store.fail" (S "fdsolve.store" 301) 219 [] .none),
 (226, cO "push" "Store.push" 448 132 1 (.int 3 0) (.ref 221) (.bool true) (.ref 222) .none (.ref 223) (.ref 224) (.ref 225) 452 453),
 (227, fO (iQ 16 16) "push" "Store.push" (S "fdsolve.store" 301) 226 [] .none),
 (233, cO "pop" "Store.pop" 455 135 2 (.int 3 0) (.ref 228) (.bool true) (.ref 229) .none (.ref 230) (.ref 231) (.ref 232) 462 463),
 (234, fO (iQ 16 17) "pop" "Store.pop" (S "fdsolve.store" 301) 233 [] .none),
 (250, D P 4 [("__module__", 310, (S "fdsolve.store" 301)), ("__firstlineno__", 314, (.int 59 313)), ("__init__", 321, (.ref 115)), ("new_var", 329, (.ref 122)), ("size", 336, (.ref 129)), ("dom", 344, (.ref 136)), ("initial", 352, (.ref 143)), ("low", 360, (.ref 150)), ("high", 368, (.ref 157)), ("has", 377, (.ref 164)), ("is_fixed", 385, (.ref 171)), ("value", 393, (.ref 178)), ("width", 401, (.ref 185)), ("holds", 409, (.ref 192)), ("enter", 422, (.ref 199)), ("strike", 431, (.ref 206)), ("decide", 439, (.ref 213)), ("fail", 447, (.ref 220)), ("push", 454, (.ref 227)), ("pop", 464, (.ref 234)), ("depth", 471, (.ref 241)), ("changed", 478, (.ref 248)), ("__static_attributes__", 487, (.ref 249)), ("__dict__", 489, (.ref 252)), ("__weakref__", 491, (.ref 253)), ("__doc__", 492, .none)]),
 (251, { cls := .type "type", data := .cls { name := "Store", bases := [(.type "object")], mro := [(.ref 251), (.type "object")], ns := 250, qualname := "Store", subclasses := [] }, slots := #[none, none, some (S "Store" 303), some (S "Store" 311), some (.builtin "object.__new__"), some (.bool true)] }),
 (268, cO "__init__" "Propagator.__init__" 507 154 3 (.int 3 0) (.ref 263) (.bool true) (.ref 264) .none (.ref 265) (.ref 266) (.ref 267) 513 514),
 (269, fO (iQ 17 0) "__init__" "Propagator.__init__" (S "fdsolve.store" 301) 268 [] .none),
 (292, D P 4 [("__module__", 502, (S "fdsolve.store" 301)), ("__firstlineno__", 506, (.int 152 505)), ("__init__", 515, (.ref 269)), ("propagate", 523, (.ref 276)), ("check", 531, (.ref 283)), ("told", 538, (.ref 290)), ("__static_attributes__", 542, (.ref 291)), ("__dict__", 544, (.ref 294)), ("__weakref__", 546, (.ref 295)), ("__doc__", 547, .none)]),
 (293, { cls := .type "type", data := .cls { name := "Propagator", bases := [(.type "object")], mro := [(.ref 293), (.type "object")], ns := 292, qualname := "Propagator", subclasses := [(.ref 382)] }, slots := #[none, none, some (S "Propagator" 495), some (S "Propagator" 503), some (.builtin "object.__new__"), some (.bool true)] }),
 (308, cO "__init__" "Matching.__init__" 564 170 3 (.int 3 0) (.ref 305) (.bool true) (.ref 306) .none .none .none (.ref 307) 567 568),
 (309, fO (iQ 19 0) "__init__" "Matching.__init__" (S "fdsolve.alldiff" 550) 308 [] .none),
 (315, cO "seat" "Matching.seat" 570 175 2 (.int 3 0) (.ref 310) (.bool true) (.ref 311) .none (.ref 312) (.ref 313) (.ref 314) 579 580),
 (316, fO (iQ 19 1) "seat" "Matching.seat" (S "fdsolve.alldiff" 550) 315 [] .none),
 (322, cO "hand_on" "Matching.hand_on" 582 188 3 (.int 3 0) (.ref 317) (.bool true) (.ref 318) .none (.ref 319) (.ref 320) (.ref 321) 590 591),
 (323, fO (iQ 19 2) "hand_on" "Matching.hand_on" (S "fdsolve.alldiff" 550) 322 [] .none),
 (329, cO "closed_from" "Matching.closed_from" 593 196 2 (.int 3 0) (.ref 324) (.bool true) (.ref 325) .none (.ref 326) (.ref 327) (.ref 328) 603 604),
 (330, fO (iQ 19 3) "closed_from" "Matching.closed_from" (S "fdsolve.alldiff" 550) 329 [] .none),
 (332, D P 4 [("__module__", 559, (S "fdsolve.alldiff" 550)), ("__firstlineno__", 563, (.int 168 562)), ("__init__", 569, (.ref 309)), ("seat", 581, (.ref 316)), ("hand_on", 592, (.ref 323)), ("closed_from", 605, (.ref 330)), ("__static_attributes__", 609, (.ref 331)), ("__dict__", 611, (.ref 334)), ("__weakref__", 613, (.ref 335)), ("__doc__", 614, .none)]),
 (333, { cls := .type "type", data := .cls { name := "Matching", bases := [(.type "object")], mro := [(.ref 333), (.type "object")], ns := 332, qualname := "Matching", subclasses := [] }, slots := #[none, none, some (S "Matching" 552), some (S "Matching" 560), some (.builtin "object.__new__"), some (.bool true)] }),
 (341, { cls := .type "cell", data := .cell (some (.ref 382)) }),
 (352, cO "__init__" "AllDifferentValues.__init__" 629 210 2 (.int 3 0) (.ref 347) (.bool true) (.ref 348) .none (.ref 349) (.ref 350) (.ref 351) 635 636),
 (353, fO (iQ 20 0) "__init__" "AllDifferentValues.__init__" (S "fdsolve.alldiff" 550) 352 [("__class__", 341)] (.ref 346)),
 (359, cO "told" "AllDifferentValues.told" 638 213 1 (.int 3 0) (.ref 354) (.bool true) (.ref 355) .none (.ref 356) (.ref 357) (.ref 358) 642 643),
 (360, fO (iQ 20 1) "told" "AllDifferentValues.told" (S "fdsolve.alldiff" 550) 359 [] .none),
 (364, cO "check" "AllDifferentValues.check" 645 216 2 (.int 3 0) (.ref 361) (.bool true) (.ref 362) .none .none .none (.ref 363) 648 649),
 (365, fO (iQ 20 2) "check" "AllDifferentValues.check" (S "fdsolve.alldiff" 550) 364 [] .none),
 (371, cO "propagate" "AllDifferentValues.propagate" 651 219 2 (.int 3 0) (.ref 366) (.bool true) (.ref 367) .none (.ref 368) (.ref 369) (.ref 370) 662 663),
 (372, fO (iQ 20 3) "propagate" "AllDifferentValues.propagate" (S "fdsolve.alldiff" 550) 371 [] .none),
 (378, cO "walls" "AllDifferentValues.walls" 665 240 4 (.int 3 0) (.ref 373) (.bool true) (.ref 374) .none (.ref 375) (.ref 376) (.ref 377) 676 677),
 (379, fO (iQ 20 4) "walls" "AllDifferentValues.walls" (S "fdsolve.alldiff" 550) 378 [] .none),
 (381, D P 3 [("__module__", 624, (S "fdsolve.alldiff" 550)), ("__firstlineno__", 628, (.int 208 627)), ("__init__", 637, (.ref 353)), ("told", 644, (.ref 360)), ("check", 650, (.ref 365)), ("propagate", 664, (.ref 372)), ("walls", 678, (.ref 379)), ("__static_attributes__", 679, (.ref 380)), ("__doc__", 681, .none)]),
 (382, { cls := .type "type", data := .cls { name := "AllDifferentValues", bases := [(.ref 293)], mro := [(.ref 382), (.ref 293), (.type "object")], ns := 381, qualname := "AllDifferentValues", subclasses := [] }, slots := #[some (.ref 338), none, some (S "AllDifferentValues" 617), some (S "AllDifferentValues" 625), some (.builtin "object.__new__"), some (.bool true)] }),
 (390, cO "_law_take" "_law_take" 686 250 2 (.int 3 0) (.ref 385) (.bool true) (.ref 386) .none (.ref 387) (.ref 388) (.ref 389) 692 693),
 (391, fO (dA 22) "_law_take" "_law_take" (S "law_xw0067_01" 684) 390 [] .none),
 (395, cO "_law_count" "_law_count" 695 257 1 (.int 3 0) (.ref 392) (.bool true) (.ref 393) .none .none .none (.ref 394) 698 699),
 (396, fO (dA 23) "_law_count" "_law_count" (S "law_xw0067_01" 684) 395 [] .none),
 (402, cO "_law_ranges" "_law_ranges" 701 259 2 (.int 3 0) (.ref 397) (.bool true) (.ref 398) .none (.ref 399) (.ref 400) (.ref 401) 708 709),
 (403, fO (dA 24) "_law_ranges" "_law_ranges" (S "law_xw0067_01" 684) 402 [] .none),
 (407, cO "_law_lot" "_law_lot" 711 267 2 (.int 3 0) (.ref 404) (.bool true) (.ref 405) .none .none .none (.ref 406) 714 715),
 (408, fO (dA 25) "_law_lot" "_law_lot" (S "law_xw0067_01" 684) 407 [] .none),
 (412, cO "_law_lots" "_law_lots" 717 269 2 (.int 3 0) (.ref 409) (.bool true) (.ref 410) .none .none .none (.ref 411) 720 721),
 (413, fO (dA 26) "_law_lots" "_law_lots" (S "law_xw0067_01" 684) 412 [] .none),
 (419, cO "_law_part" "_law_part" 723 271 3 (.int 3 0) (.ref 414) (.bool true) (.ref 415) .none (.ref 416) (.ref 417) (.ref 418) 734 735),
 (420, fO (dA 27) "_law_part" "_law_part" (S "law_xw0067_01" 684) 419 [] .none),
 (426, cO "_law_can_sit" "_law_can_sit" 737 279 2 (.int 3 0) (.ref 421) (.bool true) (.ref 422) .none (.ref 423) (.ref 424) (.ref 425) 747 748),
 (427, fO (dA 28) "_law_can_sit" "_law_can_sit" (S "law_xw0067_01" 684) 426 [] .none),
 (431, cO "_law_staying" "_law_staying" 750 290 2 (.int 3 0) (.ref 428) (.bool true) (.ref 429) .none .none .none (.ref 430) 753 754),
 (432, fO (dA 29) "_law_staying" "_law_staying" (S "law_xw0067_01" 684) 431 [] .none),
 (438, cO "_law_bars" "_law_bars" 756 299 4 (.int 3 0) (.ref 433) (.bool true) (.ref 434) .none (.ref 435) (.ref 436) (.ref 437) 765 766),
 (439, fO (dA 30) "_law_bars" "_law_bars" (S "law_xw0067_01" 684) 438 [] .none),
 (443, cO "_law_stood" "_law_stood" 768 304 3 (.int 3 0) (.ref 440) (.bool true) (.ref 441) .none .none .none (.ref 442) 771 772),
 (444, fO (dA 31) "_law_stood" "_law_stood" (S "law_xw0067_01" 684) 443 [] .none),
 (450, cO "_law_are_told_right" "_law_are_told_right" 774 306 6 (.int 3 0) (.ref 445) (.bool true) (.ref 446) .none (.ref 447) (.ref 448) (.ref 449) 790 791),
 (451, fO (dA 32) "_law_are_told_right" "_law_are_told_right" (S "law_xw0067_01" 684) 450 [] .none),
 (457, cO "_law_is_right" "_law_is_right" 793 321 5 (.int 3 0) (.ref 452) (.bool true) (.ref 453) .none (.ref 454) (.ref 455) (.ref 456) 807 808),
 (458, fO (dA 33) "_law_is_right" "_law_is_right" (S "law_xw0067_01" 684) 457 [] .none),
 (462, cO "_law_are_unlike" "_law_are_unlike" 810 338 1 (.int 3 0) (.ref 459) (.bool true) (.ref 460) .none .none .none (.ref 461) 813 814),
 (463, fO (dA 34) "_law_are_unlike" "_law_are_unlike" (S "law_xw0067_01" 684) 462 [] .none),
 (467, cO "law" "law" 816 340 1 (.int 3 0) (.ref 464) (.bool true) (.ref 465) .none .none .none (.ref 466) 819 820),
 (468, fO (dA 35) "law" "law" (S "law_xw0067_01" 684) 467 [] .none)]
noncomputable def pU : Hook := kHook KQ PS (fun _ => by kernel_rfl)
noncomputable def OO (w : World) (r : Flow × SharedT × Code × Pos) : Option Shared := topRun treeTable pR w 11 (some (.ref 6)) 2 r.2.1.abs ⟨doneF r.1, r.2.2.1, r.2.2.2, [topFrame Dh]⟩
noncomputable def Ob (w : World) (os : OsState) : Option (Flow × SharedT × Code × Pos) := segRunT treeTable pR w 11 (some (.ref 6)) 1 2754 (sT w os) (piecesOf (behindTheImports pR) LZ At Dh [topFrame Dh])
noncomputable def XtR (s : Shared) : Bool := xlAt qV [] s && recOk (RowW.records PySem.Challenge.rw_xw0067_01.row.toRowW) s
noncomputable def KD (w : World) (s : Shared) : Bool := staticsOk (importedModules pR.main.body) (boot_heap w.params) s.heap && namesBound pR s.heap && gensDone s && laidKept (boot_heap w.params) s.heap
theorem GB : ∀ w : World, (fun os => (Ob w os).bind fun r => (OO w r).map fun s => (r.1, r.2.2, KD w s, openSeen qV ["has_domains"] (importedModules pR.main.body) XtR true s, pU.obs s)) = fun os => some (.next, (At, Lj), true, openGood qV ["has_domains"], pU.val w) := fun w => by kernel_rfl
theorem JT : LeftO pR qV ["has_domains"] XtR pU.obs pU.val 5632 := Cz JK Ju fun w os => by
 have h := congrFun (GB w) os
 obtain ⟨⟨fl, st, c, ps⟩, hr, h⟩ := Option.bind_eq_some_iff.mp h
 obtain ⟨s, hs, h⟩ := Option.map_eq_some_iff.mp h
 obtain ⟨h1, ⟨h5, h6⟩, h2, h3, h4⟩ : fl = .next ∧ (c = At ∧ ps = Lj) ∧ KD w s = true ∧ openSeen qV ["has_domains"] (importedModules pR.main.body) XtR true s = openGood qV ["has_domains"] ∧ pU.obs s = pU.val w := by simpa only [Option.some.injEq, Prod.mk.injEq] using h
 subst h1 h5
 refine ⟨s, ?_, h2, by rw [h3, h4]⟩
 have a := segRun_of hr
 have e : behindTheImports pR = behindTheImports pR ++ [] := (List.append_nil _).symm
 have k := piece_app (rest := []) (N := 2) a hs
 rw [List.append_nil] at k
 have k2 := piece_block (congrFun (I5 w) os) k
 have k3 := go_top (congrFun (Li w) os) k2
 exact topRun_mono (5632 - (12 + (1 + (2754 + 2)))) _ _ _ _ k3
end Mine
end
section
open PySem PySem.W PyProof.Rows
namespace Mine
section
noncomputable def Mp : List Str := [Str.ofString "found", Str.ofString "d", Str.ofString "low", Str.ofString "high", Str.ofString "k", Str.ofString "v", Str.ofString "sign", Str.ofString "=", Str.ofString ">=", Str.ofString "<=", Str.ofString "literal", Str.ofString "self", Str.ofString "clash", Str.ofString "is_failed", Str.ofString "speaker", Str.ofString "news", Str.ofString "marks", Str.ofString "trail", Str.ofString "firsts", Str.ofString "domains", Str.ofString "reasons", Str.ofString "domain", Str.ofString "fail", Str.ofString "x", Str.ofString "fresh", Str.ofString "old", Str.ofString "enter", Str.ofString "mark", Str.ofString "entry", Str.ofString "n", Str.ofString "strength", Str.ofString "scope", Str.ofString "number", Str.ofString "owner", Str.ofString "mate", Str.ofString "store", Str.ofString "dom", Str.ofString "choices", Str.ofString "left", Str.ofString "p", Str.ofString "came", Str.ofString "places", Str.ofString "hand_on", Str.ofString "place", Str.ofString "seen", Str.ofString "stack", Str.ofString "w", Str.ofString "u", Str.ofString "all_different", Str.ofString "initial", Str.ofString "few", Str.ofString "!=", Str.ofString "matching", Str.ofString "needs", Str.ofString "strike", Str.ofString "walls", Str.ofString "closed_from", Str.ofString "answer", Str.ofString "seat", Str.ofString "check", Str.ofString "pen", Str.ofString "mixed", Str.ofString "many", Str.ofString "spot", Str.ofString "cells", Str.ofString "lot", Str.ofString "begin", Str.ofString "ranges", Str.ofString "first", Str.ofString "last", Str.ofString "store_now", Str.ofString "size", Str.ofString "is_let", Str.ofString "edge", Str.ofString "some", Str.ofString "shared", Str.ofString "lots", Str.ofString "own", Str.ofString "others", Str.ofString "y", Str.ofString "literals", Str.ofString "early", Str.ofString "one", Str.ofString "kept", Str.ofString "rest", Str.ofString "rule", Str.ofString "propagate", Str.ofString "late", Str.ofString "due", Str.ofString "new_var", Str.ofString "row", Str.ofString "j", Str.ofString "lap", Str.ofString "opened", Str.ofString "before", Str.ofString "pop", Str.ofString "decide", Str.ofString "push", Str.ofString "told", Str.ofString "values", Str.ofString "turn", Str.ofString "script", Str.ofString "cell"]
noncomputable def c8 (k : Nat) : Str := match Mp[k]? with | some x => x | none => ⟨Array.replicate (k + 100) 97⟩
theorem GI : Mp.Nodup := by decide +kernel
theorem BD : ∀ x ∈ Mp, x.cps.size < 100 := by decide +kernel
theorem Ly : ∀ x ∈ Mp, PyData.strOk x = true := by decide +kernel
theorem Lx (k : Nat) : PyData.strOk (c8 k) = true := by
 unfold c8
 split
 ·rename_i x e; exact Ly x (List.mem_of_getElem? e)
 ·unfold PyData.strOk
  rw [Array.all_eq_true]
  intro i hi
  simp
theorem JO : ∀ x y, c8 x = c8 y → x = y := by
 intro x y e
 unfold c8 at e
 cases ha : Mp[x]? <;> cases hb : Mp[y]? <;> simp only [ha, hb] at e
 ·have := congrArg (fun s : Str => s.cps.size) e
  simp at this
  exact this
 ·rename_i b
  have := BD b (List.mem_of_getElem? hb)
  rw [← e] at this
  simp at this
  lia
 ·rename_i a
  have := BD a (List.mem_of_getElem? ha)
  rw [e] at this
  simp at this
  lia
 ·subst e
  exact (List.getElem?_inj (List.getElem?_eq_some_iff.mp ha).1 GI).mp (ha.trans hb.symm)
noncomputable def OQ (c : Nat) : Addr := if c = 0 then 251 else if c = 1 then 333 else if c = 2 then 382 else 293
noncomputable def KF (w : World) : Frag := KQ w.params
noncomputable def bJ (w : World) (h : Heap) : gK := ⟨PySem.Challenge.rw_xw0067_01.row.prog, w, h, c8, JO, OQ⟩
variable {w : World} {h : Heap}
structure Wd (w : World) (h : Heap) : Prop where
 KX : (KF w).In h
 mg : ∃ mg, h.Ns mainGlobals mg
 mb : ∃ mb, h.Ns builtinsNs mb ∧ ∀ x : Str, x ≠ "__name__" → mb x = bootBuiltins x
 lim : h.NoLimit
 sys : ∃ o, h.get? sysModules = some o
theorem Wd.iA (W : Wd w h) : mT (bJ w h) := ⟨Lx, W.sys⟩
theorem gn (W : Wd w h) {x : Str} {a : Addr} (e : nsIn (KF w) mainGlobals x = some (some (.ref a))) : cW (bJ w h) x (.ref a) := by
 obtain ⟨mg, hg⟩ := W.mg
 exact ⟨mg, hg, .inl (mg_of W.KX hg e)⟩
theorem bn (W : Wd w h) {x : Str} {v : Value} (e : nsIn (KF w) mainGlobals x = some none) (hx : x ≠ "__name__") (hb : bootBuiltins x = some v) : cW (bJ w h) x v := by
 obtain ⟨mg, hg⟩ := W.mg
 obtain ⟨mb, hm, hq⟩ := W.mb
 exact ⟨mg, hg, .inr ⟨mg_none_of W.KX hg e, mb, hm, (hq x hx).trans hb⟩⟩
noncomputable def OL (K : Frag) (C : Addr) : Bool := (clsIn K C).any (·.hasDict)
theorem Au {K : Frag} {C : Addr} (h1 : OL K C = true) (h2 : findIn K (.ref C) "__getattribute__" = some (some (.builtin "object.__getattribute__"))) (h3 : findIn K (.ref C) "__getattr__" = some none)
  (h4 : findIn K (.ref C) "__setattr__" = some (some (.builtin "object.__setattr__"))) (h5 : plainOver K C = true) : o9 (bJ w h) K C := by
 obtain ⟨cd, a, b⟩ := any_some h1
 exact ⟨⟨cd, a, b⟩, h2, h3, h4, h5⟩
noncomputable def IV (names : List (Str × NameKind)) (vars : List (Nat × Nat)) : Bool :=
 vars.all (fun p => names.lookup (c8 p.2) == some .local || names.lookup (c8 p.2) == some .cell) && (vars.all fun p => vars.all fun q => (p.2 == q.2) == (p.1 == q.1))
theorem aR.of {cx : Cx} (e : IV cx.sc.names cx.vars = true) : aR (bJ w h) cx := by
 unfold IV at e
 rw [Bool.and_eq_true] at e
 have e2 : ∀ p ∈ cx.vars, ∀ q ∈ cx.vars, (p.2 == q.2) = (p.1 == q.1) := fun p hp q hq => by
  have := List.all_eq_true.mp (List.all_eq_true.mp e.2 p hp) q hq
  exact eq_of_beq this
 refine ⟨fun p hp => ?_, fun p hp q hq z => ?_, fun p hp q hq z => ?_⟩
 ·have := List.all_eq_true.mp e.1 p hp
  rw [Bool.or_eq_true] at this
  exact this.imp eq_of_beq eq_of_beq
 ·have := e2 p hp q hq
  rw [z, beq_self_eq_true] at this
  exact Prod.ext (eq_of_beq this.symm) z
 ·have := e2 p hp q hq
  rw [z, beq_self_eq_true] at this
  exact Prod.ext z (eq_of_beq this)
noncomputable def Hi (cx : Cx) (scope : Scope) (vars : List (Nat × Nat)) (locs : List Nat) : Bool :=
 (scope.kind == .function) && IV (tQ cx scope).names vars &&
 (vars.all fun p => !((tQ cx scope).names.lookup (c8 p.2) == some .local) || locs.contains p.1) &&
 (vars.all fun p => !((tQ cx scope).names.lookup (c8 p.2) == some .cell) || (cx.vars.contains p && cx.sc.names.lookup (c8 p.2) == some .cell && scope.names.contains (c8 p.2, .free))) &&
 (scope.names.all fun q => !(q.2 == .free) || cx.vars.any fun p => c8 p.2 == q.1 && cx.sc.names.lookup (c8 p.2) == some .cell) &&
 (scope.names.all fun q => !(q.2 == .cell)) &&
 (scope.names.all fun q => !(q.2 == .local) || scope.names.lookup q.1 == some .local)
theorem fL.of {cx : Cx} {scope : Scope} (vars : List (Nat × Nat)) (locs : List Nat) (e : Hi cx scope vars locs = true) : fL (bJ w h) cx ⟨tQ cx scope, vars, false⟩ scope locs := by
 unfold Hi at e
 simp only [Bool.and_eq_true] at e
 obtain ⟨⟨⟨⟨⟨⟨a, b⟩, c⟩, d⟩, e⟩, f⟩, g⟩ := e
 refine ⟨rfl, eq_of_beq a, rfl, aR.of b, fun p hp hk => ?_, fun p hp hk => ?_, fun q hq hk => ?_, fun q hq hk => ?_, fun q hq hk => ?_⟩
 ·have := List.all_eq_true.mp c p hp
  have hk' : (tQ cx scope).names.lookup (c8 p.2) = some .local := hk
  rw [hk'] at this
  simpa using this
 ·have := List.all_eq_true.mp d p hp
  have hk' : (tQ cx scope).names.lookup (c8 p.2) = some .cell := hk
  rw [hk'] at this
  simp only [beq_self_eq_true, Bool.not_true, Bool.false_or, Bool.and_eq_true] at this
  exact ⟨by simpa using this.1.1, eq_of_beq this.1.2, by show (c8 p.2, NameKind.free) ∈ scope.names; simpa using this.2⟩
 ·have := List.all_eq_true.mp e q hq
  rw [hk] at this
  simp only [beq_self_eq_true, Bool.not_true, Bool.false_or] at this
  obtain ⟨p, hp, hq⟩ := List.any_eq_true.mp this
  rw [Bool.and_eq_true] at hq
  exact ⟨p, hp, eq_of_beq hq.1, eq_of_beq hq.2⟩
 ·have := List.all_eq_true.mp f q hq
  rw [hk] at this
  simp at this
 ·have := List.all_eq_true.mp g q hq
  rw [hk] at this
  simpa using this
noncomputable def fnOf (w : World) (a : Addr) : FuncData := match (KF w).lookup a with
 | some ⟨_, _, .func fd, _⟩ => fd
 | _ => default
noncomputable def FU (w : World) (a : Addr) : Bool := match (KF w).lookup a with
 | some ⟨_, _, .func _, _⟩ => true
 | _ => false
theorem BG {w : World} {a : Addr} (e : FU w a = true) : ∃ oc od osl, (KF w).lookup a = some ⟨oc, od, .func (fnOf w a), osl⟩ := by
 unfold FU at e
 unfold fnOf
 cases h : (KF w).lookup a with
 | none => rw [h] at e; cases e
 | some o =>
  rw [h] at e
  obtain ⟨oc, od, dd, osl⟩ := o
  cases dd with
  | func fd => exact ⟨oc, od, osl, rfl⟩
  | _ => cases e
theorem fnAt (W : Wd w h) {a : Addr} {body : List Stmt} (h1 : FU w a = true) (h2 : codeIn (KF w) (fnOf w a).code (fnOf w a).qualname = true) (h3 : (fnOf w a).body = .stmts body) (h4 : (fnOf w a).globals = mainGlobals) (h5 : (fnOf w a).builtins = builtinsNs)
  (h6 : (fnOf w a).closure = []) (h7 : (fnOf w a).scope.isCoroutine = false) (h8 : (fnOf w a).scope.isGenerator = false) (h9 : (fnOf w a).scope.kind = .function) : FnAt (bJ w h) a (fnOf w a) body := by
 refine ⟨?_, codeRec_of W.KX h2, h3, h4, h5, h6, h7, h8, h9⟩
 obtain ⟨oc, od, osl, e⟩ := BG h1
 exact ⟨_, W.KX _ _ e, rfl⟩
noncomputable def EG (cx : Cx) (names : List Nat) : Bool := (names.zipIdx.all fun p => cx.vars.contains (p.2, p.1)) && decide (names.map c8).Nodup
theorem Gf.of' {cx : Cx} {fd : FuncData} {names : List Nat} (hs : cx.sc = fd.scope) (hf : cx.fn = true) (ok : aR (bJ w h) cx) (e : EG cx names = true) (hb : ∀ us : List Value, us.length = names.length → bindArgs fd ⟨us, []⟩ = pure ((names.map c8).zip us)) : Gf (bJ w h) cx fd names := by
 unfold EG at e
 rw [Bool.and_eq_true] at e
 refine ⟨hs, hf, ok, fun i k hik => ?_, of_decide_eq_true e.2, hb⟩
 have := List.all_eq_true.mp e.1 (k, i) (by rw [List.mem_zipIdx_iff_getElem?]; simpa using hik)
 simpa using this
theorem GL {us : List Value} {n : Nat} (e : us.length = n + 1) : ∃ a us', us = a :: us' ∧ us'.length = n := by
 cases us with
 | nil => cases e
 | cons a l => exact ⟨a, l, rfl, Nat.succ.inj e⟩
theorem Cy {us : List Value} (e : us.length = 1) : ∃ a, us = [a] := by
 obtain ⟨a, l, rfl, e2⟩ := GL e
 cases List.eq_nil_of_length_eq_zero e2
 exact ⟨a, rfl⟩
theorem mZ {us : List Value} (e : us.length = 2) : ∃ a b, us = [a, b] := by
 obtain ⟨a, l, rfl, e2⟩ := GL e
 obtain ⟨b, rfl⟩ := Cy e2
 exact ⟨a, b, rfl⟩
theorem ES {us : List Value} (e : us.length = 3) : ∃ a b c, us = [a, b, c] := by
 obtain ⟨a, l, rfl, e2⟩ := GL e
 obtain ⟨b, c, rfl⟩ := mZ e2
 exact ⟨a, b, c, rfl⟩
theorem JS {us : List Value} (e : us.length = 4) : ∃ a b c d, us = [a, b, c, d] := by
 obtain ⟨a, l, rfl, e2⟩ := GL e
 obtain ⟨b, c, d, rfl⟩ := ES e2
 exact ⟨a, b, c, d, rfl⟩
theorem MZ {us : List Value} (e : us.length = 5) : ∃ a b c d f, us = [a, b, c, d, f] := by
 obtain ⟨a, l, rfl, e2⟩ := GL e
 obtain ⟨b, c, d, f, rfl⟩ := JS e2
 exact ⟨a, b, c, d, f, rfl⟩
theorem Ol {us : List Value} (e : us.length = 6) : ∃ a b c d f g, us = [a, b, c, d, f, g] := by
 obtain ⟨a, l, rfl, e2⟩ := GL e
 obtain ⟨b, c, d, f, g, rfl⟩ := MZ e2
 exact ⟨a, b, c, d, f, g, rfl⟩
theorem mY : c8 0 = ("found" : Str) := by kernel_rfl
theorem Dw : c8 1 = ("d" : Str) := by kernel_rfl
theorem EO : c8 2 = ("low" : Str) := by kernel_rfl
theorem EN : c8 3 = ("high" : Str) := by kernel_rfl
theorem f7 : c8 4 = ("k" : Str) := by kernel_rfl
theorem gI : c8 5 = ("v" : Str) := by kernel_rfl
theorem Lv : c8 6 = ("sign" : Str) := by kernel_rfl
theorem MN : c8 7 = ("=" : Str) := by kernel_rfl
theorem Lu : c8 8 = (">=" : Str) := by kernel_rfl
theorem Ls : c8 9 = ("<=" : Str) := by kernel_rfl
theorem kP : c8 10 = ("literal" : Str) := by kernel_rfl
theorem bQ : c8 11 = ("self" : Str) := by kernel_rfl
theorem Dv : c8 12 = ("clash" : Str) := by kernel_rfl
theorem tY : c8 13 = ("is_failed" : Str) := by kernel_rfl
theorem FP : c8 14 = ("speaker" : Str) := by kernel_rfl
theorem HS : c8 15 = ("news" : Str) := by kernel_rfl
theorem zX : c8 16 = ("marks" : Str) := by kernel_rfl
theorem tX : c8 17 = ("trail" : Str) := by kernel_rfl
theorem FO : c8 18 = ("firsts" : Str) := by kernel_rfl
theorem wN : c8 19 = ("domains" : Str) := by kernel_rfl
theorem wM : c8 20 = ("reasons" : Str) := by kernel_rfl
theorem HR : c8 21 = ("domain" : Str) := by kernel_rfl
theorem HQ : c8 22 = ("fail" : Str) := by kernel_rfl
theorem dO : c8 23 = ("x" : Str) := by kernel_rfl
theorem wL : c8 24 = ("fresh" : Str) := by kernel_rfl
theorem BC : c8 25 = ("old" : Str) := by kernel_rfl
theorem KB : c8 26 = ("enter" : Str) := by kernel_rfl
theorem BB : c8 27 = ("mark" : Str) := by kernel_rfl
theorem HP : c8 28 = ("entry" : Str) := by kernel_rfl
theorem HO : c8 29 = ("n" : Str) := by kernel_rfl
theorem HN : c8 30 = ("strength" : Str) := by kernel_rfl
theorem oW : c8 31 = ("scope" : Str) := by kernel_rfl
theorem MU : c8 32 = ("number" : Str) := by kernel_rfl
theorem zW : c8 33 = ("owner" : Str) := by kernel_rfl
theorem HM : c8 34 = ("mate" : Str) := by kernel_rfl
theorem tW : c8 35 = ("store" : Str) := by kernel_rfl
theorem KA : c8 36 = ("dom" : Str) := by kernel_rfl
theorem FN : c8 37 = ("choices" : Str) := by kernel_rfl
theorem Kz : c8 38 = ("left" : Str) := by kernel_rfl
theorem FM : c8 39 = ("p" : Str) := by kernel_rfl
theorem Du : c8 40 = ("came" : Str) := by kernel_rfl
theorem eO : c8 41 = ("places" : Str) := by kernel_rfl
theorem MT : c8 42 = ("hand_on" : Str) := by kernel_rfl
theorem tV : c8 43 = ("place" : Str) := by kernel_rfl
theorem HL : c8 44 = ("seen" : Str) := by kernel_rfl
theorem HK : c8 45 = ("stack" : Str) := by kernel_rfl
theorem FL : c8 46 = ("w" : Str) := by kernel_rfl
theorem FK : c8 47 = ("u" : Str) := by kernel_rfl
theorem Ky : c8 48 = ("all_different" : Str) := by kernel_rfl
theorem MS : c8 49 = ("initial" : Str) := by kernel_rfl
theorem Dt : c8 50 = ("few" : Str) := by kernel_rfl
theorem FJ : c8 51 = ("!=" : Str) := by kernel_rfl
theorem FI : c8 52 = ("matching" : Str) := by kernel_rfl
theorem zV : c8 53 = ("needs" : Str) := by kernel_rfl
theorem MR : c8 54 = ("strike" : Str) := by kernel_rfl
theorem Kx : c8 55 = ("walls" : Str) := by kernel_rfl
theorem MQ : c8 56 = ("closed_from" : Str) := by kernel_rfl
theorem FH : c8 57 = ("answer" : Str) := by kernel_rfl
theorem MP : c8 58 = ("seat" : Str) := by kernel_rfl
theorem Kw : c8 59 = ("check" : Str) := by kernel_rfl
theorem j6 : c8 60 = ("pen" : Str) := by kernel_rfl
theorem FG : c8 61 = ("mixed" : Str) := by kernel_rfl
theorem pQ : c8 62 = ("many" : Str) := by kernel_rfl
theorem zU : c8 63 = ("spot" : Str) := by kernel_rfl
theorem BA : c8 64 = ("cells" : Str) := by kernel_rfl
theorem oV : c8 65 = ("lot" : Str) := by kernel_rfl
theorem eX : c8 66 = ("begin" : Str) := by kernel_rfl
theorem MO : c8 67 = ("ranges" : Str) := by kernel_rfl
theorem Kv : c8 68 = ("first" : Str) := by kernel_rfl
theorem Ku : c8 69 = ("last" : Str) := by kernel_rfl
theorem fF : c8 70 = ("store_now" : Str) := by kernel_rfl
theorem MM : c8 71 = ("size" : Str) := by kernel_rfl
theorem Kt : c8 72 = ("is_let" : Str) := by kernel_rfl
theorem FE : c8 73 = ("edge" : Str) := by kernel_rfl
theorem Ds : c8 74 = ("some" : Str) := by kernel_rfl
theorem HJ : c8 75 = ("shared" : Str) := by kernel_rfl
theorem fR : c8 76 = ("lots" : Str) := by kernel_rfl
theorem Ks : c8 77 = ("own" : Str) := by kernel_rfl
theorem ML : c8 78 = ("others" : Str) := by kernel_rfl
theorem HI : c8 79 = ("y" : Str) := by kernel_rfl
theorem Kr : c8 80 = ("literals" : Str) := by kernel_rfl
theorem wK : c8 81 = ("early" : Str) := by kernel_rfl
theorem FD : c8 82 = ("one" : Str) := by kernel_rfl
theorem Kq : c8 83 = ("kept" : Str) := by kernel_rfl
theorem Dr : c8 84 = ("rest" : Str) := by kernel_rfl
theorem zT : c8 85 = ("rule" : Str) := by kernel_rfl
theorem HG : c8 86 = ("propagate" : Str) := by kernel_rfl
theorem HF : c8 87 = ("late" : Str) := by kernel_rfl
theorem Dq : c8 88 = ("due" : Str) := by kernel_rfl
theorem Kp : c8 89 = ("new_var" : Str) := by kernel_rfl
theorem Bz : c8 90 = ("row" : Str) := by kernel_rfl
theorem HE : c8 91 = ("j" : Str) := by kernel_rfl
theorem MK : c8 92 = ("lap" : Str) := by kernel_rfl
theorem Dp : c8 93 = ("opened" : Str) := by kernel_rfl
theorem FC : c8 94 = ("before" : Str) := by kernel_rfl
theorem MJ : c8 95 = ("pop" : Str) := by kernel_rfl
theorem MI : c8 96 = ("decide" : Str) := by kernel_rfl
theorem MH : c8 97 = ("push" : Str) := by kernel_rfl
theorem MG : c8 98 = ("told" : Str) := by kernel_rfl
theorem Ko : c8 99 = ("values" : Str) := by kernel_rfl
theorem EP : c8 100 = ("turn" : Str) := by kernel_rfl
theorem Lw : c8 101 = ("script" : Str) := by kernel_rfl
theorem HT : c8 102 = ("cell" : Str) := by kernel_rfl
theorem BI (W : Wd w h) : cW (bJ w h) "values" (.ref 56) := gn W (by kernel_rfl)
theorem DJ (W : Wd w h) : cW (bJ w h) "up_to" (.ref 61) := gn W (by kernel_rfl)
theorem Ah (W : Wd w h) : cW (bJ w h) "from_on" (.ref 66) := gn W (by kernel_rfl)
theorem Fa (W : Wd w h) : cW (bJ w h) "without" (.ref 73) := gn W (by kernel_rfl)
theorem GR (W : Wd w h) : cW (bJ w h) "struck" (.ref 94) := gn W (by kernel_rfl)
theorem eA (W : Wd w h) : cW (bJ w h) "_law_take" (.ref 391) := gn W (by kernel_rfl)
theorem rX (W : Wd w h) : cW (bJ w h) "_law_count" (.ref 396) := gn W (by kernel_rfl)
theorem pV (W : Wd w h) : cW (bJ w h) "_law_ranges" (.ref 403) := gn W (by kernel_rfl)
theorem wQ (W : Wd w h) : cW (bJ w h) "_law_lot" (.ref 408) := gn W (by kernel_rfl)
theorem gZ (W : Wd w h) : cW (bJ w h) "_law_lots" (.ref 413) := gn W (by kernel_rfl)
theorem k0 (W : Wd w h) : cW (bJ w h) "_law_part" (.ref 420) := gn W (by kernel_rfl)
theorem kJ (W : Wd w h) : cW (bJ w h) "_law_can_sit" (.ref 427) := gn W (by kernel_rfl)
theorem xL (W : Wd w h) : cW (bJ w h) "_law_staying" (.ref 432) := gn W (by kernel_rfl)
theorem uF (W : Wd w h) : cW (bJ w h) "_law_bars" (.ref 439) := gn W (by kernel_rfl)
theorem rW (W : Wd w h) : cW (bJ w h) "_law_stood" (.ref 444) := gn W (by kernel_rfl)
theorem oG (W : Wd w h) : cW (bJ w h) "_law_are_told_right" (.ref 451) := gn W (by kernel_rfl)
theorem nJ (W : Wd w h) : cW (bJ w h) "_law_is_right" (.ref 458) := gn W (by kernel_rfl)
theorem sS (W : Wd w h) : cW (bJ w h) "_law_are_unlike" (.ref 463) := gn W (by kernel_rfl)
theorem DK (W : Wd w h) : cW (bJ w h) "Store" (.ref 251) := gn W (by kernel_rfl)
theorem DL (W : Wd w h) : cW (bJ w h) "Matching" (.ref 333) := gn W (by kernel_rfl)
theorem jI (W : Wd w h) : cW (bJ w h) "AllDifferentValues" (.ref 382) := gn W (by kernel_rfl)
theorem eK (W : Wd w h) : cW (bJ w h) "len" (.builtin "len") := bn W (by kernel_rfl) (by decide +kernel) (by kernel_rfl)
theorem iH (W : Wd w h) : cW (bJ w h) "tuple" (.type "tuple") := bn W (by kernel_rfl) (by decide +kernel) (by kernel_rfl)
theorem F7 (W : Wd w h) : cW (bJ w h) "list" (.type "list") := bn W (by kernel_rfl) (by decide +kernel) (by kernel_rfl)
theorem Mg (W : Wd w h) : cW (bJ w h) "min" (.builtin "min") := bn W (by kernel_rfl) (by decide +kernel) (by kernel_rfl)
theorem Mh (W : Wd w h) : cW (bJ w h) "max" (.builtin "max") := bn W (by kernel_rfl) (by decide +kernel) (by kernel_rfl)
theorem Mj (W : Wd w h) : cW (bJ w h) "abs" (.builtin "abs") := bn W (by kernel_rfl) (by decide +kernel) (by kernel_rfl)
theorem Fm (W : Wd w h) : cW (bJ w h) "sum" (.builtin "sum") := bn W (by kernel_rfl) (by decide +kernel) (by kernel_rfl)
theorem Mi (W : Wd w h) : cW (bJ w h) "all" (.builtin "all") := bn W (by kernel_rfl) (by decide +kernel) (by kernel_rfl)
theorem BZ (W : Wd w h) : cW (bJ w h) "sorted" (.builtin "sorted") := bn W (by kernel_rfl) (by decide +kernel) (by kernel_rfl)
theorem dI (W : Wd w h) : cW (bJ w h) "range" (.type "range") := bn W (by kernel_rfl) (by decide +kernel) (by kernel_rfl)
theorem Mf (W : Wd w h) : cW (bJ w h) "set" (.type "set") := bn W (by kernel_rfl) (by decide +kernel) (by kernel_rfl)
theorem CU (W : Wd w h) : cW (bJ w h) "enumerate" (.type "enumerate") := bn W (by kernel_rfl) (by decide +kernel) (by kernel_rfl)
theorem I4 (W : Wd w h) : cW (bJ w h) "super" (.type "super") := bn W (by kernel_rfl) (by decide +kernel) (by kernel_rfl)
theorem dD (W : Wd w h) : o9 (bJ w h) (KF w) ((bJ w h).cls 0) := Au (by kernel_rfl) (by kernel_rfl) (by kernel_rfl) (by kernel_rfl) (by kernel_rfl)
theorem qC (W : Wd w h) : o9 (bJ w h) (KF w) ((bJ w h).cls 1) := Au (by kernel_rfl) (by kernel_rfl) (by kernel_rfl) (by kernel_rfl) (by kernel_rfl)
theorem nR (W : Wd w h) : o9 (bJ w h) (KF w) ((bJ w h).cls 2) := Au (by kernel_rfl) (by kernel_rfl) (by kernel_rfl) (by kernel_rfl) (by kernel_rfl)
theorem Bg (w : World) : findIn (KF w) (.ref 251) "__init__" = some (some (.ref 115)) := by kernel_rfl
theorem nK (w : World) : findIn (KF w) (.ref 251) "new_var" = some (some (.ref 122)) := by kernel_rfl
theorem Be (w : World) : findIn (KF w) (.ref 251) "size" = some (some (.ref 129)) := by kernel_rfl
theorem uJ (w : World) : findIn (KF w) (.ref 251) "dom" = some (some (.ref 136)) := by kernel_rfl
theorem vV (w : World) : findIn (KF w) (.ref 251) "initial" = some (some (.ref 143)) := by kernel_rfl
theorem pY (w : World) : findIn (KF w) (.ref 251) "enter" = some (some (.ref 199)) := by kernel_rfl
theorem xM (w : World) : findIn (KF w) (.ref 251) "strike" = some (some (.ref 206)) := by kernel_rfl
theorem xN (w : World) : findIn (KF w) (.ref 251) "decide" = some (some (.ref 213)) := by kernel_rfl
theorem m4 (w : World) : findIn (KF w) (.ref 251) "fail" = some (some (.ref 220)) := by kernel_rfl
theorem Bf (w : World) : findIn (KF w) (.ref 251) "push" = some (some (.ref 227)) := by kernel_rfl
theorem CJ (w : World) : findIn (KF w) (.ref 251) "pop" = some (some (.ref 234)) := by kernel_rfl
theorem vX (w : World) : findIn (KF w) (.ref 333) "__init__" = some (some (.ref 309)) := by kernel_rfl
theorem vW (w : World) : findIn (KF w) (.ref 333) "seat" = some (some (.ref 316)) := by kernel_rfl
theorem rM (w : World) : findIn (KF w) (.ref 333) "hand_on" = some (some (.ref 323)) := by kernel_rfl
theorem nL (w : World) : findIn (KF w) (.ref 333) "closed_from" = some (some (.ref 330)) := by kernel_rfl
theorem lW (w : World) : findIn (KF w) (.ref 382) "__init__" = some (some (.ref 353)) := by kernel_rfl
theorem lV (w : World) : findIn (KF w) (.ref 382) "told" = some (some (.ref 360)) := by kernel_rfl
theorem gE (w : World) : findIn (KF w) (.ref 382) "check" = some (some (.ref 365)) := by kernel_rfl
theorem dM (w : World) : findIn (KF w) (.ref 382) "propagate" = some (some (.ref 372)) := by kernel_rfl
theorem gD (w : World) : findIn (KF w) (.ref 382) "walls" = some (some (.ref 379)) := by kernel_rfl
end
section
variable {w : World} {h : Heap} {d d' : Nat} {cx : Cx} {x : Str} {p pos : Pos} {es : List PySem.Expr} {e o : PySem.Expr} {f g : X V} {G : X (List V)} {F : FF} {k : Nat}
theorem vr (i : Nat) (hx : c8 k = x) (O : aR (bJ w h) cx) (hm : cx.vars.contains (i, k) = true := by kernel_rfl) (hd : (x == ("__debug__" : Str)) = false := by rfl) : aC (bJ w h) d cx (.Name x pos) (X.var i) := aC.var (Γ := bJ w h) hx (List.contains_iff_mem.mp hm) O hd
theorem an (i : Nat) (hx : c8 k = x) (O : aR (bJ w h) cx) (hm : cx.vars.contains (i, k) = true := by kernel_rfl) (hf : cx.fn = true := by rfl) : eC (bJ w h) d cx (.Name x pos) (XA.name i) := eC.name (Γ := bJ w h) hx (List.contains_iff_mem.mp hm) O (.inl hf)
theorem am (i : Nat) (hx : c8 k = x) (O : aR (bJ w h) cx) (hm : cx.vars.contains (i, k) = true := by kernel_rfl) (hf : f8 (bJ w h) cx k = some .local := by kernel_rfl) : eC (bJ w h) d cx (.Name x pos) (XA.name i) := eC.name (Γ := bJ w h) hx (List.contains_iff_mem.mp hm) O (.inr hf)
theorem en : hV (bJ w h) d cx [] X.aH := hV.nil
theorem ec (hf : aC (bJ w h) d cx e f) (hg : hV (bJ w h) d cx es G) (he : ∀ env, starEach (e :: es) env = (false, eval e env) :: starEach es env := by exact fun _ => rfl) : hV (bJ w h) d cx (e :: es) (X.aB f G) := hV.cons hf hg he
theorem cC (W : Wd w h) {a : Addr} (N : cW (bJ w h) x (.ref a)) (hs : hV (bJ w h) d cx es G) (hF : bB (bJ w h) d' (.ref a) F) (hx : cx.sc.names.lookup x = some .globalImplicit := by kernel_rfl) (hk : keepIn (KF w) (.ref a) = true := by kernel_rfl) (hp : Plain es := by exact fun _ => rfl) (hl : d' ≤ d := by decide) (hd : (x == ("__debug__" : Str)) = false := by rfl) : aC (bJ w h) d cx (.Call (.Name x p) es [] pos) (X.call F G) :=
 aC.call N hx (kB.K W.KX hk) hp hs (hF.mono hl) hd
theorem cF (W : Wd w h) {a : Addr} (N : cW (bJ w h) x (.ref a)) (hs : hV (bJ w h) d cx es G) (hF : dT (bJ w h) d' a F) (hx : cx.sc.names.lookup x = some .globalImplicit := by kernel_rfl) (hk : keepIn (KF w) (.ref a) = true := by kernel_rfl) (hp : Plain es := by exact fun _ => rfl) (hl : d' ≤ d := by decide) (hd : (x == ("__debug__" : Str)) = false := by rfl) : aC (bJ w h) d cx (.Call (.Name x p) es [] pos) (X.call F G) :=
 cC W N hs (bB.ofF hF) hx hk hp hl hd
theorem cB {id : String} (N : cW (bJ w h) x (.builtin id)) (hs : hV (bJ w h) d cx es G) (hF : bB (bJ w h) d (.builtin id) F) (hx : cx.sc.names.lookup x = some .globalImplicit := by kernel_rfl) (hp : Plain es := by exact fun _ => rfl) (hd : (x == ("__debug__" : Str)) = false := by rfl) : aC (bJ w h) d cx (.Call (.Name x p) es [] pos) (X.call F G) :=
 aC.call N hx kB.builtin hp hs hF hd
theorem cT {id : String} (N : cW (bJ w h) x (.type id)) (hs : hV (bJ w h) d cx es G) (hF : bB (bJ w h) d (.type id) F) (hx : cx.sc.names.lookup x = some .globalImplicit := by kernel_rfl) (hp : Plain es := by exact fun _ => rfl) (hd : (x == ("__debug__" : Str)) = false := by rfl) : aC (bJ w h) d cx (.Call (.Name x p) es [] pos) (X.call F G) :=
 aC.call N hx kB.type hp hs hF hd
theorem lm {id : String} (hf : aC (bJ w h) d cx o f) (hs : hV (bJ w h) d cx es G) (hF : bB (bJ w h) d (.builtin id) F) (sl : Slot "list" x id) (ty : typeOf (.builtin id) = pure (.type "method_descriptor")) (he : qN o x p es pos := by exact fun _ => ⟨_, rfl⟩) (hp : Plain es := by exact fun _ => rfl) : aC (bJ w h) d cx (.Call (.Attribute o x p) es [] pos) (X.eY F f G) :=
 aC.eY he sl ty hp hf hs hF
theorem im (W : Wd w h) {c : Nat} {a : Addr} (hx : c8 k = x) (C : o9 (bJ w h) (KF w) ((bJ w h).cls c)) (hi : findIn (KF w) (.ref ((bJ w h).cls c)) x = some (some (.ref a))) (hf : aC (bJ w h) d cx o f) (hs : hV (bJ w h) d cx es G) (hF : dT (bJ w h) d' a F) (he : qN o x p es pos := by exact fun _ => ⟨_, rfl⟩) (ht : typeIn (KF w) (.ref a) = some (.type "function") := by kernel_rfl) (hk : keepIn (KF w) (.ref a) = true := by kernel_rfl) (hp : Plain es := by exact fun _ => rfl) (hl : d' ≤ d := by decide) : aC (bJ w h) d cx (.Call (.Attribute o x p) es [] pos) (X.cS c k F f G) :=
 aC.cS (Γ := bJ w h) hx he W.KX C hi ht (kB.K W.KX hk) hp hf hs ((bB.ofF hF).mono hl)
theorem ea (W : Wd w h) {c : Nat} (hx : c8 k = x) (C : o9 (bJ w h) (KF w) ((bJ w h).cls c)) (hf : aC (bJ w h) d cx e f) (hk : findIn (KF w) (.ref ((bJ w h).cls c)) x = some Option.none := by kernel_rfl) (he : ∀ env, eval (.Attribute e x pos) env = (do
 let o ← eval e env
 standAt pos.atName
 let r ← holding [o] (getAttr o x true)
 letTemporaryGo e o r
 pure r) := by exact fun _ => rfl) : aC (bJ w h) d cx (.Attribute e x pos) (X.attr c k f) := aC.attr (Γ := bJ w h) hx W.KX C hk hf he
theorem aa (W : Wd w h) {c : Nat} (hx : c8 k = x) (C : o9 (bJ w h) (KF w) ((bJ w h).cls c)) (hf : aC (bJ w h) d cx o f) (hk : takerIn (KF w) ((bJ w h).cls c) x = some Option.none := by kernel_rfl) : eC (bJ w h) d cx (.Attribute o x pos) (XA.attr c k f) := eC.attr (Γ := bJ w h) hx W.KX C hk hf
theorem sfo (W : Wd w h) (k : Nat) {a : Addr} {body : List Stmt} {names : List Nat} {g : XS} (O : aR (bJ w h) cx) (hb : ∀ us : List Value, us.length = names.length → bindArgs (fnOf w a) ⟨us, []⟩ = pure ((names.map c8).zip us)) (hg : aE (bJ w h) d cx body g)
  (h1 : FU w a = true := by kernel_rfl) (h2 : codeIn (KF w) (fnOf w a).code (fnOf w a).qualname = true := by kernel_rfl) (h3 : (fnOf w a).body = .stmts body := by kernel_rfl) (h4 : (fnOf w a).globals = mainGlobals := by kernel_rfl) (h5 : (fnOf w a).builtins = builtinsNs := by kernel_rfl)
  (h6 : (fnOf w a).closure = [] := by kernel_rfl) (h7 : (fnOf w a).scope.isCoroutine = false := by kernel_rfl) (h8 : (fnOf w a).scope.isGenerator = false := by kernel_rfl) (h9 : (fnOf w a).scope.kind = .function := by kernel_rfl)
  (hs : cx.sc = (fnOf w a).scope := by kernel_rfl) (hf : cx.fn = true := by rfl) (hc : EG cx names = true := by kernel_rfl) : dT (bJ w h) (d + 1) a (eM names.length k g) :=
 dT.of k W.lim (fnAt W h1 h2 h3 h4 h5 h6 h7 h8 h9) (Gf.of' hs hf O hc hb) hg
end
section
variable {w : World} {h : Heap}
noncomputable def D7 : List Stmt := cG (dA 7)
noncomputable def EA : Scope := bO (dA 7)
noncomputable def BU : Cx := ⟨EA, [(0, 1), (1, 0), (2, 2), (3, 3)], true⟩
theorem gY : aR (bJ w h) BU := aR.of (by kernel_rfl)
theorem Gy (W : Wd w h) : aE (bJ w h) 0 BU D7 Ef :=
 (aE.cons (aM.assign (aC.lst en) (an 1 mY gY) (fun _ _ => rfl) (fun _ _ => rfl) (fun _ => rfl))
  (aE.cons (aM.for 1000 (vr 0 Dw gY) (eC.tup (dP.cons (an 2 EO gY) (fun _ => rfl) (dP.cons (an 3 EN gY) (fun _ => rfl) dP.nil))) (aE.cons (aM.expr (lm (vr 1 mY gY) (ec (cT (dI W) (ec (vr 2 EO gY) (ec (aC.bin (vr 3 EN gY) aC.int bY.add) en)) bB.Cp) en) bB.extend PySem.F.slot_list_extend PySem.F.type_list_extend) (fun _ => rfl))
  aE.nil) (fun _ _ => rfl))
  (aE.cons (aM.ret (vr 1 mY gY))
  aE.nil)))
theorem Bt (W : Wd w h) : dT (bJ w h) 1 56 qO :=
 sfo W 3 (names := [1]) gY (fun us e => by obtain ⟨a, rfl⟩ := Cy e; kernel_rfl) (Gy W)
noncomputable def Fk : List Stmt := cG (dA 8)
noncomputable def Gw : Scope := bO (dA 8)
noncomputable def DX : Cx := ⟨Gw, [(0, 1), (1, 4)], true⟩
theorem Dm : aR (bJ w h) DX := aR.of (by kernel_rfl)
theorem Ho (W : Wd w h) : aE (bJ w h) 0 DX Fk F8 :=
 (aE.cons (aM.ret (cT (iH W) (ec (aC.uT (tt := some _) 1000 (fL.of [(2, 2), (3, 3), (1, 4)] [2, 3] (by kernel_rfl)) (vr 0 Dw Dm) (eC.tup (dP.cons (am 2 EO (aR.of (by kernel_rfl))) (fun _ => rfl) (dP.cons (am 3 EN (aR.of (by kernel_rfl))) (fun _ => rfl) dP.nil))) (.one (bK.cmp (vr 2 EO (aR.of (by kernel_rfl))) (vr 1 f7 (aR.of (by kernel_rfl))) bY.le (by rfl))) (aC.tup (ec (vr 2 EO (aR.of (by kernel_rfl))) (ec (cB (Mg W) (ec (vr 3 EN (aR.of (by kernel_rfl))) (ec (vr 1 f7 (aR.of (by kernel_rfl))) en)) bB.min) en))) (fun _ _ => rfl)) en) bB.tuple))
  aE.nil)
theorem C9 (W : Wd w h) : dT (bJ w h) 1 61 yI :=
 sfo W 2 (names := [1, 4]) Dm (fun us e => by obtain ⟨a, b, rfl⟩ := mZ e; kernel_rfl) (Ho W)
noncomputable def CT : List Stmt := cG (dA 9)
noncomputable def Db : Scope := bO (dA 9)
noncomputable def Ar : Cx := ⟨Db, [(0, 1), (1, 4)], true⟩
theorem zM : aR (bJ w h) Ar := aR.of (by kernel_rfl)
theorem ED (W : Wd w h) : aE (bJ w h) 0 Ar CT B3 :=
 (aE.cons (aM.ret (cT (iH W) (ec (aC.uT (tt := some _) 1000 (fL.of [(2, 2), (3, 3), (1, 4)] [2, 3] (by kernel_rfl)) (vr 0 Dw zM) (eC.tup (dP.cons (am 2 EO (aR.of (by kernel_rfl))) (fun _ => rfl) (dP.cons (am 3 EN (aR.of (by kernel_rfl))) (fun _ => rfl) dP.nil))) (.one (bK.cmp (vr 3 EN (aR.of (by kernel_rfl))) (vr 1 f7 (aR.of (by kernel_rfl))) bY.ge (by rfl))) (aC.tup (ec (cB (Mh W) (ec (vr 2 EO (aR.of (by kernel_rfl))) (ec (vr 1 f7 (aR.of (by kernel_rfl))) en)) bB.max) (ec (vr 3 EN (aR.of (by kernel_rfl))) en))) (fun _ _ => rfl)) en) bB.tuple))
  aE.nil)
theorem yU (W : Wd w h) : dT (bJ w h) 1 66 rG :=
 sfo W 2 (names := [1, 4]) zM (fun us e => by obtain ⟨a, b, rfl⟩ := mZ e; kernel_rfl) (ED W)
noncomputable def CS : List Stmt := cG (dA 10)
noncomputable def Da : Scope := bO (dA 10)
noncomputable def Aq : Cx := ⟨Da, [(0, 1), (1, 5)], true⟩
theorem lN : aR (bJ w h) Aq := aR.of (by kernel_rfl)
theorem EC (W : Wd w h) : aE (bJ w h) 1 Aq CS B2 :=
 (aE.cons (aM.ret (aC.bin (cF W (DJ W) (ec (vr 0 Dw lN) (ec (aC.bin (vr 1 gI lN) aC.int bY.sub) en)) (C9 W)) (cF W (Ah W) (ec (vr 0 Dw lN) (ec (aC.bin (vr 1 gI lN) aC.int bY.add) en)) (yU W)) bY.add))
  aE.nil)
theorem Ev (W : Wd w h) : dT (bJ w h) 2 73 v8 :=
 sfo W 0 (names := [1, 5]) lN (fun us e => by obtain ⟨a, b, rfl⟩ := mZ e; kernel_rfl) (EC W)
noncomputable def D8 : List Stmt := cG (dA 13)
noncomputable def EB : Scope := bO (dA 13)
noncomputable def BV : Cx := ⟨EB, [(0, 10), (1, 1), (2, 6), (3, 4)], true⟩
theorem eD : aR (bJ w h) BV := aR.of (by kernel_rfl)
theorem Gz (W : Wd w h) : aE (bJ w h) 2 BV D8 Eg :=
 (aE.cons (aM.swap (ids := [(2, 6), (3, 4)]) (aC.tup (ec (aC.sub (vr 0 kP eD) aC.int (fun _ _ => rfl)) (ec (aC.sub (vr 0 kP eD) aC.int (fun _ _ => rfl)) en))) eD (by intro p hp; simp only [List.mem_cons, List.not_mem_nil, or_false] at hp; rcases hp with rfl | rfl <;> first | exact jH 2 (by rfl) | exact jH 3 (by rfl)) (fun _ _ => .inl rfl) (fun _ _ => rfl) (fun _ h => (dW h _ _).trans (by kernel_rfl)))
  (aE.cons (aM.ite (bK.cmp (vr 2 Lv eD) (aC.str (k := 9) Ls) (bY.eq W.iA) (by rfl)) (aE.cons (aM.ret (cF W (DJ W) (ec (vr 1 Dw eD) (ec (vr 3 f7 eD) en)) (C9 W)))
  aE.nil) aE.nil)
  (aE.cons (aM.ite (bK.cmp (vr 2 Lv eD) (aC.str (k := 8) Lu) (bY.eq W.iA) (by rfl)) (aE.cons (aM.ret (cF W (Ah W) (ec (vr 1 Dw eD) (ec (vr 3 f7 eD) en)) (yU W)))
  aE.nil) aE.nil)
  (aE.cons (aM.ret (aC.ite (bK.cmp (vr 2 Lv eD) (aC.str (k := 7) MN) (bY.eq W.iA) (by rfl)) aC.fail (cF W (Fa W) (ec (vr 1 Dw eD) (ec (vr 3 f7 eD) en)) (Ev W))))
  aE.nil))))
theorem Gs (W : Wd w h) : dT (bJ w h) 3 94 AI :=
 sfo W 2 (names := [10, 1]) eD (fun us e => by obtain ⟨a, b, rfl⟩ := mZ e; kernel_rfl) (Gz W)
noncomputable def xS : List Stmt := cG (iQ 16 0)
noncomputable def y8 : Scope := bO (iQ 16 0)
noncomputable def r9 : Cx := ⟨y8, [(0, 11)], true⟩
theorem dX : aR (bJ w h) r9 := aR.of (by kernel_rfl)
theorem AY (W : Wd w h) : aE (bJ w h) 0 r9 xS oO :=
 (aE.cons (aM.assign (aC.lst en) (aa W wN (dD W) (vr 0 bQ dX)) (fun _ _ => rfl) (fun _ _ => rfl) (fun _ => rfl))
  (aE.cons (aM.assign (aC.lst en) (aa W FO (dD W) (vr 0 bQ dX)) (fun _ _ => rfl) (fun _ _ => rfl) (fun _ => rfl))
  (aE.cons (aM.assign (aC.lst en) (aa W tX (dD W) (vr 0 bQ dX)) (fun _ _ => rfl) (fun _ _ => rfl) (fun _ => rfl))
  (aE.cons (aM.assign (aC.lst en) (aa W zX (dD W) (vr 0 bQ dX)) (fun _ _ => rfl) (fun _ _ => rfl) (fun _ => rfl))
  (aE.cons (aM.assign aC.oX (aa W HS (dD W) (vr 0 bQ dX)) (fun _ _ => rfl) (fun _ _ => rfl) (fun _ => rfl))
  (aE.cons (aM.assign (aC.neg aC.int) (aa W FP (dD W) (vr 0 bQ dX)) (fun _ _ => rfl) (fun _ _ => rfl) (fun _ => rfl))
  (aE.cons (aM.assign aC.bool (aa W tY (dD W) (vr 0 bQ dX)) (fun _ _ => rfl) (fun _ _ => rfl) (fun _ => rfl))
  (aE.cons (aM.assign (aC.tup en) (aa W Dv (dD W) (vr 0 bQ dX)) (fun _ _ => rfl) (fun _ _ => rfl) (fun _ => rfl))
  aE.nil))))))))
theorem AL (W : Wd w h) : dT (bJ w h) 1 115 g9 :=
 sfo W 0 (names := [11]) dX (fun us e => by obtain ⟨a, rfl⟩ := Cy e; kernel_rfl) (AY W)
theorem Dc (W : Wd w h) : bB (bJ w h) 2 (.ref 251) (fNew 0 g9) := bB.cls (K := KF w) (c := 0) W.KX (by kernel_rfl) (Bg w) (by kernel_rfl) (AL W)
noncomputable def xT : List Stmt := cG (iQ 16 15)
noncomputable def y9 : Scope := bO (iQ 16 15)
noncomputable def sA : Cx := ⟨y9, [(0, 11), (1, 20)], true⟩
theorem jS : aR (bJ w h) sA := aR.of (by kernel_rfl)
theorem AZ (W : Wd w h) : aE (bJ w h) 0 sA xT u8 :=
 (aE.cons (aM.assign aC.bool (aa W tY (dD W) (vr 0 bQ jS)) (fun _ _ => rfl) (fun _ _ => rfl) (fun _ => rfl))
  (aE.cons (aM.assign (cT (iH W) (ec (vr 1 wM jS) en) bB.tuple) (aa W Dv (dD W) (vr 0 bQ jS)) (fun _ _ => rfl) (fun _ _ => rfl) (fun _ => rfl))
  (aE.cons (aM.ret aC.bool)
  aE.nil)))
theorem mV (W : Wd w h) : dT (bJ w h) 1 220 hJ :=
 sfo W 0 (names := [11, 20]) jS (fun us e => by obtain ⟨a, b, rfl⟩ := mZ e; kernel_rfl) (AZ W)
noncomputable def sY : List Stmt := cG (iQ 16 1)
noncomputable def tM : Scope := bO (iQ 16 1)
noncomputable def nN : Cx := ⟨tM, [(0, 11), (1, 21)], true⟩
theorem dB : aR (bJ w h) nN := aR.of (by kernel_rfl)
theorem vO (W : Wd w h) : aE (bJ w h) 1 nN sY o5 :=
 (aE.cons (aM.expr (lm (ea W wN (dD W) (vr 0 bQ dB)) (ec (vr 1 HR dB) en) bB.append PySem.F.slot_list_append PySem.F.type_list_append) (fun _ => rfl))
  (aE.cons (aM.expr (lm (ea W FO (dD W) (vr 0 bQ dB)) (ec (vr 1 HR dB) en) bB.append PySem.F.slot_list_append PySem.F.type_list_append) (fun _ => rfl))
  (aE.cons (aM.ite (bK.cmp (vr 1 HR dB) (aC.tup en) (bY.eq W.iA) (by rfl)) (aE.cons (aM.expr (im W HQ (dD W) (m4 w) (vr 0 bQ dB) (ec (aC.tup en) en) (mV W)) (fun _ => rfl))
  aE.nil) aE.nil)
  (aE.cons (aM.ret (aC.bin (cB (eK W) (ec (ea W wN (dD W) (vr 0 bQ dB)) en) (bB.len W.iA)) aC.int bY.sub))
  aE.nil))))
theorem m9 (W : Wd w h) : dT (bJ w h) 2 122 eR :=
 sfo W 0 (names := [11, 21]) dB (fun us e => by obtain ⟨a, b, rfl⟩ := mZ e; kernel_rfl) (vO W)
noncomputable def xQ : List Stmt := cG (iQ 16 2)
noncomputable def y2 : Scope := bO (iQ 16 2)
noncomputable def r7 : Cx := ⟨y2, [(0, 11)], true⟩
theorem rU : aR (bJ w h) r7 := aR.of (by kernel_rfl)
theorem AW (W : Wd w h) : aE (bJ w h) 0 r7 xQ u6 :=
 (aE.cons (aM.ret (cB (eK W) (ec (ea W wN (dD W) (vr 0 bQ rU)) en) (bB.len W.iA)))
  aE.nil)
theorem AJ (W : Wd w h) : dT (bJ w h) 1 129 oS :=
 sfo W 0 (names := [11]) rU (fun us e => by obtain ⟨a, rfl⟩ := Cy e; kernel_rfl) (AW W)
noncomputable def AD : List Stmt := cG (iQ 16 3)
noncomputable def AT : Scope := bO (iQ 16 3)
noncomputable def uR : Cx := ⟨AT, [(0, 11), (1, 23)], true⟩
theorem n5 : aR (bJ w h) uR := aR.of (by kernel_rfl)
theorem Co (W : Wd w h) : aE (bJ w h) 0 uR AD w8 :=
 (aE.cons (aM.ret (aC.sub (ea W wN (dD W) (vr 0 bQ n5)) (vr 1 dO n5) (fun _ _ => rfl)))
  aE.nil)
theorem tK (W : Wd w h) : dT (bJ w h) 1 136 kD :=
 sfo W 0 (names := [11, 23]) n5 (fun us e => by obtain ⟨a, b, rfl⟩ := mZ e; kernel_rfl) (Co W)
noncomputable def sZ : List Stmt := cG (iQ 16 4)
noncomputable def tN : Scope := bO (iQ 16 4)
noncomputable def nO : Cx := ⟨tN, [(0, 11), (1, 23)], true⟩
theorem jM : aR (bJ w h) nO := aR.of (by kernel_rfl)
theorem vP (W : Wd w h) : aE (bJ w h) 0 nO sZ o6 :=
 (aE.cons (aM.ret (aC.sub (ea W FO (dD W) (vr 0 bQ jM)) (vr 1 dO jM) (fun _ _ => rfl)))
  aE.nil)
theorem vG (W : Wd w h) : dT (bJ w h) 1 143 kN :=
 sfo W 0 (names := [11, 23]) jM (fun us e => by obtain ⟨a, b, rfl⟩ := mZ e; kernel_rfl) (vP W)
noncomputable def v3 : List Stmt := cG (iQ 16 12)
noncomputable def xE : Scope := bO (iQ 16 12)
noncomputable def qA : Cx := ⟨xE, [(0, 11), (1, 10), (2, 20), (3, 14), (4, 23), (5, 25), (6, 24)], true⟩
theorem aW : aR (bJ w h) qA := aR.of (by kernel_rfl)
theorem zB (W : Wd w h) : aE (bJ w h) 3 qA v3 sE :=
 (aE.cons (aM.assign (aC.sub (vr 1 kP aW) aC.int (fun _ _ => rfl)) (an 4 dO aW) (fun _ _ => rfl) (fun _ _ => rfl) (fun _ => rfl))
  (aE.cons (aM.assign (aC.sub (ea W wN (dD W) (vr 0 bQ aW)) (vr 4 dO aW) (fun _ _ => rfl)) (an 5 BC aW) (fun _ _ => rfl) (fun _ _ => rfl) (fun _ => rfl))
  (aE.cons (aM.assign (cF W (GR W) (ec (vr 1 kP aW) (ec (vr 5 BC aW) en)) (Gs W)) (an 6 wL aW) (fun _ _ => rfl) (fun _ _ => rfl) (fun _ => rfl))
  (aE.cons (aM.ite (bK.cmp (vr 6 wL aW) (aC.tup en) (bY.eq W.iA) (by rfl)) (aE.cons aM.fail
  aE.nil) aE.nil)
  (aE.cons (aM.ite (bK.cmp (vr 6 wL aW) (vr 5 BC aW) (bY.eq W.iA) (by rfl)) (aE.cons (aM.ret aC.bool)
  aE.nil) aE.nil)
  (aE.cons (aM.expr (lm (ea W tX (dD W) (vr 0 bQ aW)) (ec (aC.tup (ec (vr 4 dO aW) (ec (vr 5 BC aW) (ec (vr 1 kP aW) (ec (vr 2 wM aW) (ec (vr 3 FP aW) en)))))) en) bB.append PySem.F.slot_list_append PySem.F.type_list_append) (fun _ => rfl))
  (aE.cons (aM.assign (vr 6 wL aW) (eC.item (ea W wN (dD W) (vr 0 bQ aW)) (vr 4 dO aW)) (fun _ _ => rfl) (fun _ _ => rfl) (fun _ => rfl))
  (aE.cons (aM.assign aC.bool (eC.item (ea W HS (dD W) (vr 0 bQ aW)) (vr 4 dO aW)) (fun _ _ => rfl) (fun _ _ => rfl) (fun _ => rfl))
  (aE.cons (aM.ret aC.bool)
  aE.nil)))))))))
theorem pL (W : Wd w h) : dT (bJ w h) 4 199 jW :=
 sfo W 3 (names := [11, 10, 20, 14]) aW (fun us e => by obtain ⟨a, b, c, d, rfl⟩ := JS e; kernel_rfl) (zB W)
noncomputable def uX : List Stmt := cG (iQ 16 13)
noncomputable def vL : Scope := bO (iQ 16 13)
noncomputable def o0 : Cx := ⟨vL, [(0, 11), (1, 10), (2, 20)], true⟩
theorem fX : aR (bJ w h) o0 := aR.of (by kernel_rfl)
theorem xH (W : Wd w h) : aE (bJ w h) 4 o0 uX qJ :=
 (aE.cons (aM.ret (im W KB (dD W) (pY w) (vr 0 bQ fX) (ec (vr 1 kP fX) (ec (cT (iH W) (ec (vr 2 wM fX) en) bB.tuple) (ec (ea W FP (dD W) (vr 0 bQ fX)) en))) (pL W)))
  aE.nil)
theorem xB (W : Wd w h) : dT (bJ w h) 5 206 gW :=
 sfo W 0 (names := [11, 10, 20]) fX (fun us e => by obtain ⟨a, b, c, rfl⟩ := ES e; kernel_rfl) (xH W)
noncomputable def uY : List Stmt := cG (iQ 16 14)
noncomputable def vM : Scope := bO (iQ 16 14)
noncomputable def o3 : Cx := ⟨vM, [(0, 11), (1, 10)], true⟩
theorem kI : aR (bJ w h) o3 := aR.of (by kernel_rfl)
theorem xI (W : Wd w h) : aE (bJ w h) 4 o3 uY qK :=
 (aE.cons (aM.ret (im W KB (dD W) (pY w) (vr 0 bQ kI) (ec (vr 1 kP kI) (ec aC.none (ec (aC.neg aC.int) en))) (pL W)))
  aE.nil)
theorem xC (W : Wd w h) : dT (bJ w h) 5 213 jB :=
 sfo W 0 (names := [11, 10]) kI (fun us e => by obtain ⟨a, b, rfl⟩ := mZ e; kernel_rfl) (xI W)
noncomputable def xR : List Stmt := cG (iQ 16 16)
noncomputable def y5 : Scope := bO (iQ 16 16)
noncomputable def r8 : Cx := ⟨y5, [(0, 11)], true⟩
theorem mX : aR (bJ w h) r8 := aR.of (by kernel_rfl)
theorem AX (W : Wd w h) : aE (bJ w h) 0 r8 xR u7 :=
 (aE.cons (aM.expr (lm (ea W zX (dD W) (vr 0 bQ mX)) (ec (cB (eK W) (ec (ea W tX (dD W) (vr 0 bQ mX)) en) (bB.len W.iA)) en) bB.append PySem.F.slot_list_append PySem.F.type_list_append) (fun _ => rfl))
  aE.nil)
theorem AK (W : Wd w h) : dT (bJ w h) 1 227 lA :=
 sfo W 0 (names := [11]) mX (fun us e => by obtain ⟨a, rfl⟩ := Cy e; kernel_rfl) (AX W)
noncomputable def AC : List Stmt := cG (iQ 16 17)
noncomputable def AS : Scope := bO (iQ 16 17)
noncomputable def uQ : Cx := ⟨AS, [(0, 11), (1, 29), (2, 27), (3, 28)], true⟩
theorem bL : aR (bJ w h) uQ := aR.of (by kernel_rfl)
theorem Cm (W : Wd w h) : aE (bJ w h) 0 uQ AC w7 :=
 (aE.cons (aM.ite (bK.cmp (vr 1 HO bL) aC.int bY.lt (by rfl)) (aE.cons aM.JB
  aE.nil) aE.nil)
  (aE.cons (aM.assign (aC.sub (ea W zX (dD W) (vr 0 bQ bL)) (aC.bin (cB (eK W) (ec (ea W zX (dD W) (vr 0 bQ bL)) en) (bB.len W.iA)) (vr 1 HO bL) bY.sub) (fun _ _ => rfl)) (an 2 BB bL) (fun _ _ => rfl) (fun _ _ => rfl) (fun _ => rfl))
  (aE.cons (aM.assign (aC.slice (g := none) (h := some _) (ea W zX (dD W) (vr 0 bQ bL)) .nil (.one (aC.bin (cB (eK W) (ec (ea W zX (dD W) (vr 0 bQ bL)) en) (bB.len W.iA)) (vr 1 HO bL) bY.sub))) (aa W zX (dD W) (vr 0 bQ bL)) (fun _ _ => rfl) (fun _ _ => rfl) (fun _ => rfl))
  (aE.cons (aM.while 1000 (bK.cmp (cB (eK W) (ec (ea W tX (dD W) (vr 0 bQ bL)) en) (bB.len W.iA)) (vr 2 BB bL) bY.gt (by rfl)) (aE.cons (aM.assign (lm (ea W tX (dD W) (vr 0 bQ bL)) en bB.pop PySem.F.slot_list_pop PySem.F.type_list_pop) (an 3 HP bL) (fun _ _ => rfl) (fun _ _ => rfl) (fun _ => rfl))
  (aE.cons (aM.assign (aC.sub (vr 3 HP bL) aC.int (fun _ _ => rfl)) (eC.item (ea W wN (dD W) (vr 0 bQ bL)) (aC.sub (vr 3 HP bL) aC.int (fun _ _ => rfl))) (fun _ _ => rfl) (fun _ _ => rfl) (fun _ => rfl))
  aE.nil)))
  (aE.cons (aM.assign aC.oX (aa W HS (dD W) (vr 0 bQ bL)) (fun _ _ => rfl) (fun _ _ => rfl) (fun _ => rfl))
  (aE.cons (aM.assign (aC.cmp (aC.tup en) (ea W FO (dD W) (vr 0 bQ bL)) (bY.PC W.iA) (by rfl)) (aa W tY (dD W) (vr 0 bQ bL)) (fun _ _ => rfl) (fun _ _ => rfl) (fun _ => rfl))
  (aE.cons (aM.assign (aC.tup en) (aa W Dv (dD W) (vr 0 bQ bL)) (fun _ _ => rfl) (fun _ _ => rfl) (fun _ => rfl))
  aE.nil)))))))
theorem Cg (W : Wd w h) : dT (bJ w h) 1 234 mU :=
 sfo W 2 (names := [11, 29]) bL (fun us e => by obtain ⟨a, b, rfl⟩ := mZ e; kernel_rfl) (Cm W)
noncomputable def qG : List Stmt := cG (iQ 17 0)
noncomputable def rJ : Scope := bO (iQ 17 0)
noncomputable def lY : Cx := ⟨rJ, [(0, 11), (1, 31), (2, 30)], true⟩
theorem dR : aR (bJ w h) lY := aR.of (by kernel_rfl)
theorem sK (W : Wd w h) : aE (bJ w h) 0 lY qG mQ :=
 (aE.cons (aM.assign (aC.neg aC.int) (aa W MU (nR W) (vr 0 bQ dR)) (fun _ _ => rfl) (fun _ _ => rfl) (fun _ => rfl))
  (aE.cons (aM.assign (cT (iH W) (ec (vr 1 oW dR) en) bB.tuple) (aa W oW (nR W) (vr 0 bQ dR)) (fun _ _ => rfl) (fun _ _ => rfl) (fun _ => rfl))
  (aE.cons (aM.assign (vr 2 HN dR) (aa W HN (nR W) (vr 0 bQ dR)) (fun _ _ => rfl) (fun _ _ => rfl) (fun _ => rfl))
  aE.nil)))
theorem sH (W : Wd w h) : dT (bJ w h) 1 269 jC :=
 sfo W 0 (names := [11, 31, 30]) dR (fun us e => by obtain ⟨a, b, c, rfl⟩ := ES e; kernel_rfl) (sK W)
noncomputable def kM : List Stmt := cG (iQ 20 0)
theorem Jr (W : Wd w h) {body : List Stmt} (hb : kM = body) : Gc (bJ w h) (KF w) 353 269 2 2 (fnOf w 353) body "values" "__init__" "self" "row" 99 where
 lk := by
  exact BG (by kernel_rfl)
 body := by rw [← hb]; kernel_rfl
 globals := by kernel_rfl
 builtins := by kernel_rfl
 code := by kernel_rfl
 bind := fun us => by kernel_rfl
 names := by decide +kernel
 hself := by kernel_rfl
 hrow := by kernel_rfl
 cells := by
  have h1 : ((fnOf w 353).scope.names.all fun x => !(x.2 == .cell)) = true := by kernel_rfl
  intro x hx e
  have := List.all_eq_true.mp h1 x hx
  rw [e] at this
  simp at this
 co := by kernel_rfl
 gen := by kernel_rfl
 kind := by kernel_rfl
 hks := by kernel_rfl
 hkc := by kernel_rfl
 clo := by
  have h1 : (match (KF w).lookup 341 with | some ⟨_, _, .cell (some (.ref a)), _⟩ => a == 382 | _ => false) = true := by kernel_rfl
  refine ⟨341, by kernel_rfl, ?_⟩
  split at h1
  ·rename_i x y a z e
   have : a = 382 := eq_of_beq h1
   subst this
   exact ⟨_, _, _, e⟩
  ·cases h1
 par := ⟨_, rfl, rfl⟩
 file := ⟨_, _, _, _, _, _, _, rfl, rfl, rfl, rfl⟩
 top := by kernel_rfl
 cD := by
  have h1 : (clsIn (KF w) 382).isSome = true := by kernel_rfl
  exact Option.isSome_iff_exists.mp h1
 sub := by kernel_rfl
 any := by kernel_rfl
 meth := by kernel_rfl
 typ := by kernel_rfl
 fnP := by kernel_rfl
 hy := by kernel_rfl
 hx := Ko
theorem lI (W : Wd w h) : dT (bJ w h) 2 353 bX :=
 dT.super (K := KF w) (c := 2) (D := 2) W.KX W.lim (Jr W rfl) (I4 W) (by rfl) (fun _ => rfl) (fun _ => ⟨_, rfl⟩) (fun _ => rfl) (fun _ => rfl) (sH W)
theorem jF (W : Wd w h) : bB (bJ w h) 3 (.ref 382) (fNew 2 bX) := bB.cls (K := KF w) (c := 2) W.KX (by kernel_rfl) (lW w) (by kernel_rfl) (lI W)
noncomputable def tA : List Stmt := cG (iQ 19 0)
noncomputable def tP : Scope := bO (iQ 19 0)
noncomputable def nQ : Cx := ⟨tP, [(0, 11), (1, 35), (2, 31)], true⟩
theorem eE : aR (bJ w h) nQ := aR.of (by kernel_rfl)
theorem vR (W : Wd w h) : aE (bJ w h) 1 nQ tA o8 :=
 (aE.cons (aM.assign (aC.uT (tt := none) 1000 (fL.of [(3, 23), (1, 35)] [3] (by kernel_rfl)) (vr 2 oW eE) (am 3 dO (aR.of (by kernel_rfl))) .nil (cF W (BI W) (ec (im W KA (dD W) (uJ w) (vr 1 tW (aR.of (by kernel_rfl))) (ec (vr 3 dO (aR.of (by kernel_rfl))) en) (tK W)) en) (Bt W)) (fun _ _ => rfl)) (aa W FN (qC W) (vr 0 bQ eE)) (fun _ _ => rfl) (fun _ _ => rfl) (fun _ => rfl))
  (aE.cons (aM.assign (aC.bin (aC.lst (ec aC.none en)) (cB (eK W) (ec (vr 2 oW eE) en) (bB.len W.iA)) bY.mul) (aa W HM (qC W) (vr 0 bQ eE)) (fun _ _ => rfl) (fun _ _ => rfl) (fun _ => rfl))
  (aE.cons (aM.assign aC.oX (aa W zW (qC W) (vr 0 bQ eE)) (fun _ _ => rfl) (fun _ _ => rfl) (fun _ => rfl))
  aE.nil)))
theorem vI (W : Wd w h) : dT (bJ w h) 2 309 iL :=
 sfo W 1 (names := [11, 35, 31]) eE (fun us e => by obtain ⟨a, b, c, rfl⟩ := ES e; kernel_rfl) (vR W)
theorem Dd (W : Wd w h) : bB (bJ w h) 3 (.ref 333) (fNew 1 iL) := bB.cls (K := KF w) (c := 1) W.KX (by kernel_rfl) (vX w) (by kernel_rfl) (vI W)
noncomputable def pD : List Stmt := cG (iQ 19 2)
noncomputable def pM : Scope := bO (iQ 19 2)
noncomputable def kR : Cx := ⟨pM, [(0, 11), (1, 5), (2, 40), (3, 39), (4, 38)], true⟩
theorem aU : aR (bJ w h) kR := aR.of (by kernel_rfl)
theorem rK (W : Wd w h) : aE (bJ w h) 0 kR pD l9 :=
 (aE.cons (aM.while 1000 (bK.cmp (vr 1 gI aU) aC.none bY.BF (by rfl)) (aE.cons (aM.assign (aC.sub (vr 2 Du aU) (vr 1 gI aU) (fun _ _ => rfl)) (an 3 FM aU) (fun _ _ => rfl) (fun _ _ => rfl) (fun _ => rfl))
  (aE.cons (aM.assign (aC.sub (ea W HM (qC W) (vr 0 bQ aU)) (vr 3 FM aU) (fun _ _ => rfl)) (an 4 Kz aU) (fun _ _ => rfl) (fun _ _ => rfl) (fun _ => rfl))
  (aE.cons (aM.assign (vr 1 gI aU) (eC.item (ea W HM (qC W) (vr 0 bQ aU)) (vr 3 FM aU)) (fun _ _ => rfl) (fun _ _ => rfl) (fun _ => rfl))
  (aE.cons (aM.assign (vr 3 FM aU) (eC.item (ea W zW (qC W) (vr 0 bQ aU)) (vr 1 gI aU)) (fun _ _ => rfl) (fun _ _ => rfl) (fun _ => rfl))
  (aE.cons (aM.assign (vr 4 Kz aU) (an 1 gI aU) (fun _ _ => rfl) (fun _ _ => rfl) (fun _ => rfl))
  aE.nil))))))
  aE.nil)
theorem rH (W : Wd w h) : dT (bJ w h) 1 323 fV :=
 sfo W 2 (names := [11, 5, 40]) aU (fun us e => by obtain ⟨a, b, c, rfl⟩ := ES e; kernel_rfl) (rK W)
noncomputable def s9 : List Stmt := cG (iQ 19 1)
noncomputable def tO : Scope := bO (iQ 19 1)
noncomputable def nP : Cx := ⟨tO, [(0, 11), (1, 43), (2, 40), (3, 41), (4, 4), (5, 5)], true⟩
theorem aO : aR (bJ w h) nP := aR.of (by kernel_rfl)
theorem vQ (W : Wd w h) : aE (bJ w h) 1 nP s9 o7 :=
 (aE.cons (aM.swap (ids := [(2, 40), (3, 41), (4, 4)]) (aC.tup (ec aC.oX (ec (aC.lst (ec (vr 1 tV aO) en)) (ec aC.int en)))) aO (by intro p hp; simp only [List.mem_cons, List.not_mem_nil, or_false] at hp; rcases hp with rfl | rfl | rfl <;> first | exact jH 2 (by rfl) | exact jH 3 (by rfl) | exact jH 4 (by rfl)) (fun _ _ => .inl rfl) (fun _ _ => rfl) (fun _ h => (dW h _ _).trans (by kernel_rfl)))
  (aE.cons (aM.while 1000 (bK.cmp (vr 4 f7 aO) (cB (eK W) (ec (vr 3 eO aO) en) (bB.len W.iA)) bY.lt (by rfl)) (aE.cons (aM.for 1000 (aC.sub (ea W FN (qC W) (vr 0 bQ aO)) (aC.sub (vr 3 eO aO) (vr 4 f7 aO) (fun _ _ => rfl)) (fun _ _ => rfl)) (an 5 gI aO) (aE.cons (aM.ite (bK.cmp (vr 5 gI aO) (vr 2 Du aO) (bY.pP W.iA) (by rfl)) (aE.cons (aM.assign (aC.sub (vr 3 eO aO) (vr 4 f7 aO) (fun _ _ => rfl)) (eC.item (vr 2 Du aO) (vr 5 gI aO)) (fun _ _ => rfl) (fun _ _ => rfl) (fun _ => rfl))
  (aE.cons (aM.ite (bK.cmp (vr 5 gI aO) (ea W zW (qC W) (vr 0 bQ aO)) (bY.pP W.iA) (by rfl)) (aE.cons (aM.expr (im W MT (qC W) (rM w) (vr 0 bQ aO) (ec (vr 5 gI aO) (ec (vr 2 Du aO) en)) (rH W)) (fun _ => rfl))
  (aE.cons (aM.ret aC.none)
  aE.nil)) aE.nil)
  (aE.cons (aM.expr (lm (vr 3 eO aO) (ec (aC.sub (ea W zW (qC W) (vr 0 bQ aO)) (vr 5 gI aO) (fun _ _ => rfl)) en) bB.append PySem.F.slot_list_append PySem.F.type_list_append) (fun _ => rfl))
  aE.nil))) aE.nil)
  aE.nil) (fun _ _ => rfl))
  (aE.cons (aM.assign (aC.bin (vr 4 f7 aO) aC.int bY.add) (an 4 f7 aO) (fun _ _ => rfl) (fun _ _ => rfl) (fun _ => rfl))
  aE.nil)))
  (aE.cons (aM.ret (aC.tup (ec (vr 3 eO aO) (ec (cB (BZ W) (ec (vr 2 Du aO) en) (bB.sorted W.iA)) en))))
  aE.nil)))
theorem vH (W : Wd w h) : dT (bJ w h) 2 316 iK :=
 sfo W 4 (names := [11, 43]) aO (fun us e => by obtain ⟨a, b, rfl⟩ := mZ e; kernel_rfl) (vQ W)
noncomputable def mH : List Stmt := cG (iQ 19 3)
noncomputable def mW : Scope := bO (iQ 19 3)
noncomputable def iR : Cx := ⟨mW, [(0, 11), (1, 5), (2, 41), (3, 44), (4, 45), (5, 46), (6, 47)], true⟩
theorem aL : aR (bJ w h) iR := aR.of (by kernel_rfl)
theorem nC (W : Wd w h) : aE (bJ w h) 0 iR mH i7 :=
 (aE.cons (aM.swap (ids := [(2, 41), (3, 44), (4, 45)]) (aC.tup (ec (aC.lst en) (ec (aC.Ma [(_, _)] rfl rfl (fun _ => rfl) (by simp) (by simp) (iI.cons (vr 1 gI aL) aC.bool iI.nil)) (ec (aC.lst (ec (vr 1 gI aL) en)) en)))) aL (by intro p hp; simp only [List.mem_cons, List.not_mem_nil, or_false] at hp; rcases hp with rfl | rfl | rfl <;> first | exact jH 2 (by rfl) | exact jH 3 (by rfl) | exact jH 4 (by rfl)) (fun _ _ => .inl rfl) (fun _ _ => rfl) (fun _ h => (dW h _ _).trans (by kernel_rfl)))
  (aE.cons (aM.while 1000 (bK.cmp (vr 4 HK aL) (aC.lst en) (bY.Eo W.iA) (by rfl)) (aE.cons (aM.assign (lm (vr 4 HK aL) en bB.pop PySem.F.slot_list_pop PySem.F.type_list_pop) (an 5 FL aL) (fun _ _ => rfl) (fun _ _ => rfl) (fun _ => rfl))
  (aE.cons (aM.ite (bK.cmp (vr 5 FL aL) (ea W zW (qC W) (vr 0 bQ aL)) (bY.pP W.iA) (by rfl)) (aE.cons (aM.ret aC.none)
  aE.nil) aE.nil)
  (aE.cons (aM.expr (lm (vr 2 eO aL) (ec (aC.sub (ea W zW (qC W) (vr 0 bQ aL)) (vr 5 FL aL) (fun _ _ => rfl)) en) bB.append PySem.F.slot_list_append PySem.F.type_list_append) (fun _ => rfl))
  (aE.cons (aM.for 1000 (aC.sub (ea W FN (qC W) (vr 0 bQ aL)) (aC.sub (ea W zW (qC W) (vr 0 bQ aL)) (vr 5 FL aL) (fun _ _ => rfl)) (fun _ _ => rfl)) (an 6 FK aL) (aE.cons (aM.ite (bK.cmp (vr 6 FK aL) (vr 3 HL aL) (bY.pP W.iA) (by rfl)) (aE.cons (aM.assign aC.bool (eC.item (vr 3 HL aL) (vr 6 FK aL)) (fun _ _ => rfl) (fun _ _ => rfl) (fun _ => rfl))
  (aE.cons (aM.expr (lm (vr 4 HK aL) (ec (vr 6 FK aL) en) bB.append PySem.F.slot_list_append PySem.F.type_list_append) (fun _ => rfl))
  aE.nil)) aE.nil)
  aE.nil) (fun _ _ => rfl))
  aE.nil)))))
  (aE.cons (aM.ret (aC.tup (ec (vr 2 eO aL) (ec (cB (BZ W) (ec (vr 3 HL aL) en) (bB.sorted W.iA)) en))))
  aE.nil)))
theorem nA (W : Wd w h) : dT (bJ w h) 1 330 dJ :=
 sfo W 5 (names := [11, 5]) aL (fun us e => by obtain ⟨a, b, rfl⟩ := mZ e; kernel_rfl) (nC W)
noncomputable def kL : List Stmt := cG (iQ 20 1)
noncomputable def kW : Scope := bO (iQ 20 1)
noncomputable def gT : Cx := ⟨kW, [(0, 11)], true⟩
theorem eI : aR (bJ w h) gT := aR.of (by kernel_rfl)
theorem lJ (W : Wd w h) : aE (bJ w h) 0 gT kL hU :=
 (aE.cons (aM.ret (aC.tup (ec (aC.str (k := 48) Ky) (ec (ea W oW (nR W) (vr 0 bQ eI)) (ec (ea W HN (nR W) (vr 0 bQ eI)) en)))))
  aE.nil)
theorem lH (W : Wd w h) : dT (bJ w h) 1 360 dN :=
 sfo W 0 (names := [11]) eI (fun us e => by obtain ⟨a, rfl⟩ := Cy e; kernel_rfl) (lJ W)
noncomputable def kA : List Stmt := cG (iQ 20 2)
noncomputable def kH : Scope := bO (iQ 20 2)
noncomputable def gG : Cx := ⟨kH, [(0, 11), (1, 0)], true⟩
theorem d9 : aR (bJ w h) gG := aR.of (by kernel_rfl)
theorem kY (W : Wd w h) : aE (bJ w h) 0 gG kA gV :=
 (aE.cons (aM.ret (aC.cmp (cB (eK W) (ec (aC.F1 (tt := none) 1000 (fL.of [(2, 5)] [2] (by kernel_rfl)) (vr 1 mY d9) (am 2 gI (aR.of (by kernel_rfl))) .nil (vr 2 gI (aR.of (by kernel_rfl))) aC.bool (fun _ _ => rfl)) en) (bB.len W.iA)) (cB (eK W) (ec (vr 1 mY d9) en) (bB.len W.iA)) (bY.eq W.iA) (by rfl)))
  aE.nil)
theorem gC (W : Wd w h) : dT (bJ w h) 1 365 cV :=
 sfo W 1 (names := [11, 0]) d9 (fun us e => by obtain ⟨a, b, rfl⟩ := mZ e; kernel_rfl) (kY W)
noncomputable def j9 : List Stmt := cG (iQ 20 4)
noncomputable def kG : Scope := bO (iQ 20 4)
noncomputable def gF : Cx := ⟨kG, [(0, 11), (1, 35), (2, 41), (3, 50), (4, 0), (5, 43), (6, 23), (7, 5)], true⟩
theorem aG : aR (bJ w h) gF := aR.of (by kernel_rfl)
theorem kX (W : Wd w h) : aE (bJ w h) 1 gF j9 gU :=
 (aE.cons (aM.assign (aC.lst en) (an 4 mY aG) (fun _ _ => rfl) (fun _ _ => rfl) (fun _ => rfl))
  (aE.cons (aM.for 1000 (vr 2 eO aG) (an 5 tV aG) (aE.cons (aM.assign (aC.sub (ea W oW (nR W) (vr 0 bQ aG)) (vr 5 tV aG) (fun _ _ => rfl)) (an 6 dO aG) (fun _ _ => rfl) (fun _ _ => rfl) (fun _ => rfl))
  (aE.cons (aM.expr (lm (vr 4 mY aG) (ec (aC.lst (ec (aC.tup (ec (vr 6 dO aG) (ec (aC.str (k := 8) Lu) (ec (aC.sub (vr 3 Dt aG) aC.int (fun _ _ => rfl)) en)))) (ec (aC.tup (ec (vr 6 dO aG) (ec (aC.str (k := 9) Ls) (ec (aC.sub (vr 3 Dt aG) (aC.neg aC.int) (fun _ _ => rfl)) en)))) en))) en) bB.extend PySem.F.slot_list_extend PySem.F.type_list_extend) (fun _ => rfl))
  (aE.cons (aM.for 1000 (cF W (BI W) (ec (im W MS (dD W) (vV w) (vr 1 tW aG) (ec (vr 6 dO aG) en) (vG W)) en) (Bt W)) (an 7 gI aG) (aE.cons (aM.ite (bK.boolop (bM.cons (bK.qE (aC.sub (vr 3 Dt aG) aC.int (fun _ _ => rfl)) (vr 7 gI aG) (aC.sub (vr 3 Dt aG) (aC.neg aC.int) (fun _ _ => rfl)) bY.lt bY.lt (by rfl)) (bM.cons (bK.cmp (vr 7 gI aG) (vr 3 Dt aG) (bY.pP W.iA) (by rfl)) bM.nil))) (aE.cons (aM.expr (lm (vr 4 mY aG) (ec (aC.tup (ec (vr 6 dO aG) (ec (aC.str (k := 51) FJ) (ec (vr 7 gI aG) en)))) en) bB.append PySem.F.slot_list_append PySem.F.type_list_append) (fun _ => rfl))
  aE.nil) aE.nil)
  aE.nil) (fun _ _ => rfl))
  aE.nil))) (fun _ _ => rfl))
  (aE.cons (aM.ret (cT (iH W) (ec (vr 4 mY aG) en) bB.tuple))
  aE.nil)))
theorem gB (W : Wd w h) : dT (bJ w h) 2 379 bU :=
 sfo W 4 (names := [11, 35, 41, 50]) aG (fun us e => by obtain ⟨a, b, c, d, rfl⟩ := JS e; kernel_rfl) (kX W)
noncomputable def iV : List Stmt := cG (iQ 20 3)
noncomputable def i0 : Scope := bO (iQ 20 3)
noncomputable def fB : Cx := ⟨i0, [(0, 11), (1, 35), (2, 52), (3, 43), (4, 57), (5, 53), (6, 5), (7, 20)], true⟩
theorem aA : aR (bJ w h) fB := aR.of (by kernel_rfl)
theorem jD (W : Wd w h) : aE (bJ w h) 5 fB iV fK :=
 (aE.cons (aM.ite (bK.ofE (ea W tY (dD W) (vr 1 tW aA)) (fun _ _ => rfl)) (aE.cons (aM.ret aC.bool)
  aE.nil) aE.nil)
  (aE.cons (aM.ite (bK.not (bK.ofE (im W Kw (nR W) (gE w) (vr 0 bQ aA) (ec (ea W oW (nR W) (vr 0 bQ aA)) en) (gC W)) (fun _ _ => rfl))) (aE.cons (aM.ret (im W HQ (dD W) (m4 w) (vr 1 tW aA) (ec (aC.tup en) en) (mV W)))
  aE.nil) aE.nil)
  (aE.cons (aM.assign (cC W (DL W) (ec (vr 1 tW aA) (ec (ea W oW (nR W) (vr 0 bQ aA)) en)) (Dd W)) (an 2 FI aA) (fun _ _ => rfl) (fun _ _ => rfl) (fun _ => rfl))
  (aE.cons (aM.for 1000 (cT (dI W) (ec (cB (eK W) (ec (ea W oW (nR W) (vr 0 bQ aA)) en) (bB.len W.iA)) en) bB.gO) (an 3 tV aA) (aE.cons (aM.assign (im W MP (qC W) (vW w) (vr 2 FI aA) (ec (vr 3 tV aA) en) (vH W)) (an 4 FH aA) (fun _ _ => rfl) (fun _ _ => rfl) (fun _ => rfl))
  (aE.cons (aM.ite (bK.cmp (vr 4 FH aA) aC.none bY.BF (by rfl)) (aE.cons (aM.ret (im W HQ (dD W) (m4 w) (vr 1 tW aA) (ec (im W Kx (nR W) (gD w) (vr 0 bQ aA) (ec (vr 1 tW aA) (ec (aC.sub (vr 4 FH aA) aC.int (fun _ _ => rfl)) (ec (aC.sub (vr 4 FH aA) aC.int (fun _ _ => rfl)) en))) (gB W)) en) (mV W)))
  aE.nil) aE.nil)
  aE.nil)) (fun _ _ => rfl))
  (aE.cons (aM.assign aC.oX (an 5 zV aA) (fun _ _ => rfl) (fun _ _ => rfl) (fun _ => rfl))
  (aE.cons (aM.for 1000 (cT (dI W) (ec (cB (eK W) (ec (ea W oW (nR W) (vr 0 bQ aA)) en) (bB.len W.iA)) en) bB.gO) (an 3 tV aA) (aE.cons (aM.for 1000 (aC.sub (ea W FN (qC W) (vr 2 FI aA)) (vr 3 tV aA) (fun _ _ => rfl)) (an 6 gI aA) (aE.cons (aM.ite (bK.cmp (vr 6 gI aA) (vr 5 zV aA) (bY.pP W.iA) (by rfl)) (aE.cons (aM.assign (im W MQ (qC W) (nL w) (vr 2 FI aA) (ec (vr 6 gI aA) en) (nA W)) (eC.item (vr 5 zV aA) (vr 6 gI aA)) (fun _ _ => rfl) (fun _ _ => rfl) (fun _ => rfl))
  aE.nil) aE.nil)
  (aE.cons (aM.ite (bK.boolop (bM.cons (bK.cmp (aC.sub (vr 5 zV aA) (vr 6 gI aA) (fun _ _ => rfl)) aC.none bY.BF (by rfl)) (bM.cons (bK.cmp (vr 3 tV aA) (aC.sub (aC.sub (vr 5 zV aA) (vr 6 gI aA) (fun _ _ => rfl)) aC.int (fun _ _ => rfl)) (bY.pP W.iA) (by rfl)) bM.nil))) (aE.cons (aM.assign (im W Kx (nR W) (gD w) (vr 0 bQ aA) (ec (vr 1 tW aA) (ec (aC.sub (aC.sub (vr 5 zV aA) (vr 6 gI aA) (fun _ _ => rfl)) aC.int (fun _ _ => rfl)) (ec (aC.sub (aC.sub (vr 5 zV aA) (vr 6 gI aA) (fun _ _ => rfl)) aC.int (fun _ _ => rfl)) en))) (gB W)) (an 7 wM aA) (fun _ _ => rfl) (fun _ _ => rfl) (fun _ => rfl))
  (aE.cons (aM.ite (bK.not (bK.ofE (im W MR (dD W) (xM w) (vr 1 tW aA) (ec (aC.tup (ec (aC.sub (ea W oW (nR W) (vr 0 bQ aA)) (vr 3 tV aA) (fun _ _ => rfl)) (ec (aC.str (k := 51) FJ) (ec (vr 6 gI aA) en)))) (ec (vr 7 wM aA) en)) (xB W)) (fun _ _ => rfl))) (aE.cons (aM.ret aC.bool)
  aE.nil) aE.nil)
  aE.nil)) aE.nil)
  aE.nil)) (fun _ _ => rfl))
  aE.nil) (fun _ _ => rfl))
  (aE.cons (aM.ret aC.bool)
  aE.nil)))))))
theorem dL (W : Wd w h) : dT (bJ w h) 6 372 bS :=
 sfo W 6 (names := [11, 35]) aA (fun us e => by obtain ⟨a, b, rfl⟩ := mZ e; kernel_rfl) (jD W)
noncomputable def Ay : List Stmt := cG (dA 22)
noncomputable def AO : Scope := bO (dA 22)
noncomputable def uM : Cx := ⟨AO, [(0, 60), (1, 62), (2, 63)], true⟩
theorem cP : aR (bJ w h) uM := aR.of (by kernel_rfl)
theorem Ci (W : Wd w h) : aE (bJ w h) 0 uM Ay wZ :=
 (aE.cons (aM.assign (aC.sub (vr 0 j6 cP) (aC.str (k := 63) zU) (fun _ _ => rfl)) (an 2 zU cP) (fun _ _ => rfl) (fun _ _ => rfl) (fun _ => rfl))
  (aE.cons (aM.assign (aC.bin (vr 2 zU cP) aC.int bY.add) (eC.item (vr 0 j6 cP) (aC.str (k := 63) zU)) (fun _ _ => rfl) (fun _ _ => rfl) (fun _ => rfl))
  (aE.cons (aM.ite (bK.cmp (vr 2 zU cP) (cB (eK W) (ec (aC.sub (vr 0 j6 cP) (aC.str (k := 64) BA) (fun _ _ => rfl)) en) (bB.len W.iA)) bY.lt (by rfl)) (aE.cons (aM.ret (aC.bin (aC.sub (aC.sub (vr 0 j6 cP) (aC.str (k := 64) BA) (fun _ _ => rfl)) (vr 2 zU cP) (fun _ _ => rfl)) (vr 1 pQ cP) bY.mod))
  aE.nil) aE.nil)
  (aE.cons (aM.assign (aC.bin (aC.bin (aC.bin (aC.sub (vr 0 j6 cP) (aC.str (k := 61) FG) (fun _ _ => rfl)) aC.int bY.mul) aC.int bY.add) aC.int bY.mod) (eC.item (vr 0 j6 cP) (aC.str (k := 61) FG)) (fun _ _ => rfl) (fun _ _ => rfl) (fun _ => rfl))
  (aE.cons (aM.ret (aC.bin (aC.bin (aC.sub (vr 0 j6 cP) (aC.str (k := 61) FG) (fun _ _ => rfl)) aC.int bY.floordiv) (vr 1 pQ cP) bY.mod))
  aE.nil)))))
theorem d8 (W : Wd w h) : dT (bJ w h) 1 391 b9 :=
 sfo W 1 (names := [60, 62]) cP (fun us e => by obtain ⟨a, b, rfl⟩ := mZ e; kernel_rfl) (Ci W)
noncomputable def xP : List Stmt := cG (dA 23)
noncomputable def yZ : Scope := bO (dA 23)
noncomputable def r0 : Cx := ⟨yZ, [(0, 65)], true⟩
theorem Ba : aR (bJ w h) r0 := aR.of (by kernel_rfl)
theorem AV (W : Wd w h) : aE (bJ w h) 0 r0 xP u5 :=
 (aE.cons (aM.ret (cB (Fm W) (ec (aC.uT (tt := none) 1000 (fL.of [(1, 4), (0, 65)] [1] (by kernel_rfl)) (cT (dI W) (ec aC.int en) bB.gO) (am 1 f7 (aR.of (by kernel_rfl))) .nil (aC.bin (aC.bin (vr 0 oV (aR.of (by kernel_rfl))) (aC.bin aC.int (vr 1 f7 (aR.of (by kernel_rfl))) bY.pow) bY.floordiv) aC.int bY.mod) (fun _ _ => rfl)) en) bB.sum))
  aE.nil)
theorem rS (W : Wd w h) : dT (bJ w h) 1 396 fU :=
 sfo W 1 (names := [65]) Ba (fun us e => by obtain ⟨a, rfl⟩ := Cy e; kernel_rfl) (AV W)
noncomputable def v0 : List Stmt := cG (dA 24)
noncomputable def xD : Scope := bO (dA 24)
noncomputable def p9 : Cx := ⟨xD, [(0, 65), (1, 66), (2, 0), (3, 4)], true⟩
theorem bI : aR (bJ w h) p9 := aR.of (by kernel_rfl)
theorem zA (W : Wd w h) : aE (bJ w h) 0 p9 v0 sD :=
 (aE.cons (aM.assign (aC.lst en) (an 2 mY bI) (fun _ _ => rfl) (fun _ _ => rfl) (fun _ => rfl))
  (aE.cons (aM.for 1000 (cT (dI W) (ec aC.int en) bB.gO) (an 3 f7 bI) (aE.cons (aM.ite (bK.boolop (bM.cons (bK.cmp (aC.bin (aC.bin (vr 0 oV bI) (aC.bin aC.int (vr 3 f7 bI) bY.pow) bY.floordiv) aC.int bY.mod) aC.int (bY.eq W.iA) (by rfl)) (bM.cons (bK.cmp (aC.bin (aC.bin (aC.bin (vr 0 oV bI) aC.int bY.mul) (aC.bin aC.int (vr 3 f7 bI) bY.pow) bY.floordiv) aC.int bY.mod) aC.int (bY.eq W.iA) (by rfl)) bM.nil))) (aE.cons (aM.assign (aC.tup (ec (aC.sub (aC.sub (vr 2 mY bI) (aC.neg aC.int) (fun _ _ => rfl)) aC.int (fun _ _ => rfl)) (ec (aC.bin (vr 1 eX bI) (vr 3 f7 bI) bY.add) en))) (eC.item (vr 2 mY bI) (aC.neg aC.int)) (fun _ _ => rfl) (fun _ _ => rfl) (fun _ => rfl))
  aE.nil) (aE.cons (aM.ite (bK.cmp (aC.bin (aC.bin (vr 0 oV bI) (aC.bin aC.int (vr 3 f7 bI) bY.pow) bY.floordiv) aC.int bY.mod) aC.int (bY.eq W.iA) (by rfl)) (aE.cons (aM.expr (lm (vr 2 mY bI) (ec (aC.tup (ec (aC.bin (vr 1 eX bI) (vr 3 f7 bI) bY.add) (ec (aC.bin (vr 1 eX bI) (vr 3 f7 bI) bY.add) en))) en) bB.append PySem.F.slot_list_append PySem.F.type_list_append) (fun _ => rfl))
  aE.nil) aE.nil)
  aE.nil))
  aE.nil) (fun _ _ => rfl))
  (aE.cons (aM.ret (cT (iH W) (ec (vr 2 mY bI) en) bB.tuple))
  aE.nil)))
theorem pK (W : Wd w h) : dT (bJ w h) 1 403 f6 :=
 sfo W 2 (names := [65, 66]) bI (fun us e => by obtain ⟨a, b, rfl⟩ := mZ e; kernel_rfl) (zA W)
noncomputable def Bj : List Stmt := cG (dA 25)
noncomputable def Ch : Scope := bO (dA 25)
noncomputable def wV : Cx := ⟨Ch, [(0, 67), (1, 66)], true⟩
theorem wI : aR (bJ w h) wV := aR.of (by kernel_rfl)
theorem De (W : Wd w h) : aE (bJ w h) 0 wV Bj AF :=
 (aE.cons (aM.ret (cB (Fm W) (ec (aC.KY (tt := none) (NP := none) 1000 (fL.of [(2, 68), (3, 69), (4, 5), (1, 66)] [2, 3, 4] (by kernel_rfl)) (vr 0 MO wI) (eC.tup (dP.cons (am 2 Kv (aR.of (by kernel_rfl))) (fun _ => rfl) (dP.cons (am 3 Ku (aR.of (by kernel_rfl))) (fun _ => rfl) dP.nil))) .nil (cT (dI W) (ec (vr 2 Kv (aR.of (by kernel_rfl))) (ec (aC.bin (vr 3 Ku (aR.of (by kernel_rfl))) aC.int bY.add) en)) bB.Cp) (am 4 gI (aR.of (by kernel_rfl))) .nil (aC.bin aC.int (aC.bin (vr 4 gI (aR.of (by kernel_rfl))) (vr 1 eX (aR.of (by kernel_rfl))) bY.sub) bY.pow) (fun _ _ => rfl) (fun _ _ => rfl)) en) bB.sum))
  aE.nil)
theorem wF (W : Wd w h) : dT (bJ w h) 1 408 mG :=
 sfo W 3 (names := [67, 66]) wI (fun us e => by obtain ⟨a, b, rfl⟩ := mZ e; kernel_rfl) (De W)
noncomputable def AA : List Stmt := cG (dA 26)
noncomputable def AQ : Scope := bO (dA 26)
noncomputable def uO : Cx := ⟨AQ, [(0, 70), (1, 66)], true⟩
theorem tU : aR (bJ w h) uO := aR.of (by kernel_rfl)
theorem Ck (W : Wd w h) : aE (bJ w h) 1 uO AA w5 :=
 (aE.cons (aM.ret (aC.uT (tt := none) 1000 (fL.of [(2, 23), (1, 66), (0, 70)] [2] (by kernel_rfl)) (cT (dI W) (ec (im W MM (dD W) (Be w) (vr 0 fF tU) en (AJ W)) en) bB.gO) (am 2 dO (aR.of (by kernel_rfl))) .nil (cF W (wQ W) (ec (im W KA (dD W) (uJ w) (vr 0 fF (aR.of (by kernel_rfl))) (ec (vr 2 dO (aR.of (by kernel_rfl))) en) (tK W)) (ec (vr 1 eX (aR.of (by kernel_rfl))) en)) (wF W)) (fun _ _ => rfl)))
  aE.nil)
theorem gX (W : Wd w h) : dT (bJ w h) 2 413 dZ :=
 sfo W 1 (names := [70, 66]) tU (fun us e => by obtain ⟨a, b, rfl⟩ := mZ e; kernel_rfl) (Ck W)
noncomputable def Az : List Stmt := cG (dA 27)
noncomputable def AP : Scope := bO (dA 27)
noncomputable def uN : Cx := ⟨AP, [(0, 65), (1, 10), (2, 66), (3, 0), (4, 4), (5, 5), (6, 73), (7, 72)], true⟩
theorem bF : aR (bJ w h) uN := aR.of (by kernel_rfl)
theorem Cj (W : Wd w h) : aE (bJ w h) 0 uN Az w4 :=
 (aE.cons (aM.assign aC.int (an 3 mY bF) (fun _ _ => rfl) (fun _ _ => rfl) (fun _ => rfl))
  (aE.cons (aM.for 1000 (cT (dI W) (ec aC.int en) bB.gO) (an 4 f7 bF) (aE.cons (aM.swap (ids := [(5, 5), (6, 73)]) (aC.tup (ec (aC.bin (vr 2 eX bF) (vr 4 f7 bF) bY.add) (ec (aC.sub (vr 1 kP bF) aC.int (fun _ _ => rfl)) en))) bF (by intro p hp; simp only [List.mem_cons, List.not_mem_nil, or_false] at hp; rcases hp with rfl | rfl <;> first | exact jH 5 (by rfl) | exact jH 6 (by rfl)) (fun _ _ => .inl rfl) (fun _ _ => rfl) (fun _ h => (dW h _ _).trans (by kernel_rfl)))
  (aE.cons (aM.assign (aC.sub (aC.IT [(_, _), (_, _), (_, _), (_, _)] rfl rfl (fun _ => rfl) (by simp) (by simp) (iI.cons (aC.str (k := 9) Ls) (aC.cmp (vr 5 gI bF) (vr 6 FE bF) bY.le (by rfl)) (iI.cons (aC.str (k := 8) Lu) (aC.cmp (vr 5 gI bF) (vr 6 FE bF) bY.ge (by rfl)) (iI.cons (aC.str (k := 7) MN) (aC.cmp (vr 5 gI bF) (vr 6 FE bF) (bY.eq W.iA) (by rfl)) (iI.cons (aC.str (k := 51) FJ) (aC.cmp (vr 5 gI bF) (vr 6 FE bF) (bY.Eo W.iA) (by rfl)) iI.nil))))) (aC.sub (vr 1 kP bF) aC.int (fun _ _ => rfl)) (fun _ _ => rfl)) (an 7 Kt bF) (fun _ _ => rfl) (fun _ _ => rfl) (fun _ => rfl))
  (aE.cons (aM.ite (bK.boolop (bM.cons (bK.ofE (vr 7 Kt bF) (fun _ _ => rfl)) (bM.cons (bK.cmp (aC.bin (aC.bin (vr 0 oV bF) (aC.bin aC.int (vr 4 f7 bF) bY.pow) bY.floordiv) aC.int bY.mod) aC.int (bY.eq W.iA) (by rfl)) bM.nil))) (aE.cons (aM.assign (aC.bin (vr 3 mY bF) (aC.bin aC.int (vr 4 f7 bF) bY.pow) bY.add) (an 3 mY bF) (fun _ _ => rfl) (fun _ _ => rfl) (fun _ => rfl))
  aE.nil) aE.nil)
  aE.nil))) (fun _ _ => rfl))
  (aE.cons (aM.ret (vr 3 mY bF))
  aE.nil)))
theorem kU (W : Wd w h) : dT (bJ w h) 1 420 fS :=
 sfo W 5 (names := [65, 10, 66]) bF (fun us e => by obtain ⟨a, b, c, rfl⟩ := ES e; kernel_rfl) (Cj W)
noncomputable def uW : List Stmt := cG (dA 28)
noncomputable def vK : Scope := bO (dA 28)
noncomputable def oZ : Cx := ⟨vK, [(0, 41), (1, 76), (2, 74), (3, 75), (4, 62), (5, 4), (6, 23)], true⟩
theorem bD : aR (bJ w h) oZ := aR.of (by kernel_rfl)
theorem xG (W : Wd w h) : aE (bJ w h) 1 oZ uW qI :=
 (aE.cons (aM.ite (bK.cmp (aC.sO (eK W) (Mf W) (by kernel_rfl) (by kernel_rfl) (by rfl) (by rfl) (fun _ => rfl) (fun _ => rfl) (vr 0 eO bD)) (cB (eK W) (ec (vr 0 eO bD) en) (bB.len W.iA)) bY.lt (by rfl)) (aE.cons (aM.ret aC.bool)
  aE.nil) aE.nil)
  (aE.cons (aM.for 1000 (cT (dI W) (ec aC.int (ec (aC.bin aC.int (cB (eK W) (ec (vr 0 eO bD) en) (bB.len W.iA)) bY.pow) en)) bB.Cp) (an 2 Ds bD) (aE.cons (aM.assign (aC.tup (ec aC.int (ec aC.int en))) (eC.tup (dP.cons (an 3 HJ bD) (fun _ => rfl) (dP.cons (an 4 pQ bD) (fun _ => rfl) dP.nil))) (fun _ _ => rfl) (fun _ h => (dW h _ _).trans (by kernel_rfl)) (fun _ => rfl))
  (aE.cons (aM.jU 1000 (CU W) (by kernel_rfl) (by rfl) (fun _ => rfl) (vr 0 eO bD) (eC.tup (dP.cons (an 5 f7 bD) (fun _ => rfl) (dP.cons (an 6 dO bD) (fun _ => rfl) dP.nil))) (aE.cons (aM.ite (bK.cmp (aC.bin (aC.bin (vr 2 Ds bD) (aC.bin aC.int (vr 5 f7 bD) bY.pow) bY.floordiv) aC.int bY.mod) aC.int (bY.eq W.iA) (by rfl)) (aE.cons (aM.swap (ids := [(3, 75), (4, 62)]) (aC.tup (ec (aC.bin (vr 3 HJ bD) (aC.sub (vr 1 fR bD) (vr 6 dO bD) (fun _ _ => rfl)) bY.or) (ec (aC.bin (vr 4 pQ bD) aC.int bY.add) en))) bD (by intro p hp; simp only [List.mem_cons, List.not_mem_nil, or_false] at hp; rcases hp with rfl | rfl <;> first | exact jH 3 (by rfl) | exact jH 4 (by rfl)) (fun _ _ => .inl rfl) (fun _ _ => rfl) (fun _ h => (dW h _ _).trans (by kernel_rfl)))
  aE.nil) aE.nil)
  aE.nil) (fun _ _ => rfl))
  (aE.cons (aM.ite (bK.cmp (cF W (rX W) (ec (vr 3 HJ bD) en) (rS W)) (vr 4 pQ bD) bY.lt (by rfl)) (aE.cons (aM.ret aC.bool)
  aE.nil) aE.nil)
  aE.nil))) (fun _ _ => rfl))
  (aE.cons (aM.ret aC.bool)
  aE.nil)))
theorem kF (W : Wd w h) : dT (bJ w h) 2 427 fM :=
 sfo W 5 (names := [41, 76]) bD (fun us e => by obtain ⟨a, b, rfl⟩ := mZ e; kernel_rfl) (xG W)
noncomputable def uV : List Stmt := cG (dA 29)
noncomputable def vJ : Scope := bO (dA 29)
noncomputable def oY : Cx := ⟨vJ, [(0, 41), (1, 76), (2, 0), (3, 23), (4, 65), (5, 78), (6, 4)], true⟩
theorem bG : aR (bJ w h) oY := aR.of (by kernel_rfl)
theorem xF (W : Wd w h) : aE (bJ w h) 2 oY uV qH :=
 (aE.cons (aM.assign (aC.lst en) (an 2 mY bG) (fun _ _ => rfl) (fun _ _ => rfl) (fun _ => rfl))
  (aE.cons (aM.for 1000 (cT (dI W) (ec (cB (eK W) (ec (vr 1 fR bG) en) (bB.len W.iA)) en) bB.gO) (an 3 dO bG) (aE.cons (aM.swap (ids := [(4, 65), (5, 78)]) (aC.tup (ec aC.int (ec (aC.uT (tt := some _) 1000 (fL.of [(8, 79), (3, 23)] [8] (by kernel_rfl)) (vr 0 eO bG) (am 8 HI (aR.of (by kernel_rfl))) (.one (bK.cmp (vr 8 HI (aR.of (by kernel_rfl))) (vr 3 dO (aR.of (by kernel_rfl))) (bY.Eo W.iA) (by rfl))) (vr 8 HI (aR.of (by kernel_rfl))) (fun _ _ => rfl)) en))) bG (by intro p hp; simp only [List.mem_cons, List.not_mem_nil, or_false] at hp; rcases hp with rfl | rfl <;> first | exact jH 4 (by rfl) | exact jH 5 (by rfl)) (fun _ _ => .inl rfl) (fun _ _ => rfl) (fun _ h => (dW h _ _).trans (by kernel_rfl)))
  (aE.cons (aM.for 1000 (cT (dI W) (ec aC.int en) bB.gO) (an 6 f7 bG) (aE.cons (aM.ite (bK.boolop (bM.cons (bK.cmp (aC.bin (aC.bin (aC.sub (vr 1 fR bG) (vr 3 dO bG) (fun _ _ => rfl)) (aC.bin aC.int (vr 6 f7 bG) bY.pow) bY.floordiv) aC.int bY.mod) aC.int (bY.eq W.iA) (by rfl)) (bM.cons (bK.ofE (cF W (kJ W) (ec (vr 5 ML bG) (ec (aC.uT (tt := none) 1000 (fL.of [(7, 77), (6, 4)] [7] (by kernel_rfl)) (vr 1 fR bG) (am 7 Ks (aR.of (by kernel_rfl))) .nil (aC.bin (vr 7 Ks (aR.of (by kernel_rfl))) (aC.bin aC.int (aC.bin aC.int (vr 6 f7 (aR.of (by kernel_rfl))) bY.pow) bY.sub) bY.and) (fun _ _ => rfl)) en)) (kF W)) (fun _ _ => rfl)) bM.nil))) (aE.cons (aM.assign (aC.bin (vr 4 oV bG) (aC.bin aC.int (vr 6 f7 bG) bY.pow) bY.add) (an 4 oV bG) (fun _ _ => rfl) (fun _ _ => rfl) (fun _ => rfl))
  aE.nil) aE.nil)
  aE.nil) (fun _ _ => rfl))
  (aE.cons (aM.expr (lm (vr 2 mY bG) (ec (vr 4 oV bG) en) bB.append PySem.F.slot_list_append PySem.F.type_list_append) (fun _ => rfl))
  aE.nil))) (fun _ _ => rfl))
  (aE.cons (aM.ret (vr 2 mY bG))
  aE.nil)))
theorem xA (W : Wd w h) : dT (bJ w h) 3 432 mF :=
 sfo W 7 (names := [41, 76]) bG (fun us e => by obtain ⟨a, b, rfl⟩ := mZ e; kernel_rfl) (xF W)
noncomputable def AB : List Stmt := cG (dA 30)
noncomputable def AR : Scope := bO (dA 30)
noncomputable def uP : Cx := ⟨AR, [(0, 41), (1, 81), (2, 80), (3, 66), (4, 76), (5, 10)], true⟩
theorem cX : aR (bJ w h) uP := aR.of (by kernel_rfl)
theorem Cl (W : Wd w h) : aE (bJ w h) 2 uP AB w6 :=
 (aE.cons (aM.assign (cT (F7 W) (ec (vr 1 wK cX) en) bB.list) (an 4 fR cX) (fun _ _ => rfl) (fun _ _ => rfl) (fun _ => rfl))
  (aE.cons (aM.for 1000 (vr 2 Kr cX) (an 5 kP cX) (aE.cons (aM.assign (cF W (k0 W) (ec (aC.sub (vr 4 fR cX) (aC.sub (vr 5 kP cX) aC.int (fun _ _ => rfl)) (fun _ _ => rfl)) (ec (vr 5 kP cX) (ec (vr 3 eX cX) en))) (kU W)) (eC.item (vr 4 fR cX) (aC.sub (vr 5 kP cX) aC.int (fun _ _ => rfl))) (fun _ _ => rfl) (fun _ _ => rfl) (fun _ => rfl))
  aE.nil) (fun _ _ => rfl))
  (aE.cons (aM.ret (aC.not (cF W (kJ W) (ec (vr 0 eO cX) (ec (vr 4 fR cX) en)) (kF W))))
  aE.nil)))
theorem tJ (W : Wd w h) : dT (bJ w h) 3 439 kC :=
 sfo W 2 (names := [41, 81, 80, 66]) cX (fun us e => by obtain ⟨a, b, c, d, rfl⟩ := JS e; kernel_rfl) (Cl W)
noncomputable def xO : List Stmt := cG (dA 31)
noncomputable def yY : Scope := bO (dA 31)
noncomputable def rZ : Cx := ⟨yY, [(0, 80), (1, 76), (2, 66)], true⟩
theorem rT : aR (bJ w h) rZ := aR.of (by kernel_rfl)
theorem AU (W : Wd w h) : aE (bJ w h) 1 rZ xO u4 :=
 (aE.cons (aM.ret (cB (Mi W) (ec (aC.uT (tt := none) 1000 (fL.of [(3, 82), (2, 66), (1, 76)] [3] (by kernel_rfl)) (vr 0 Kr rT) (am 3 FD (aR.of (by kernel_rfl))) .nil (aC.cmp (cF W (k0 W) (ec (aC.sub (vr 1 fR (aR.of (by kernel_rfl))) (aC.sub (vr 3 FD (aR.of (by kernel_rfl))) aC.int (fun _ _ => rfl)) (fun _ _ => rfl)) (ec (vr 3 FD (aR.of (by kernel_rfl))) (ec (vr 2 eX (aR.of (by kernel_rfl))) en))) (kU W)) (aC.sub (vr 1 fR (aR.of (by kernel_rfl))) (aC.sub (vr 3 FD (aR.of (by kernel_rfl))) aC.int (fun _ _ => rfl)) (fun _ _ => rfl)) (bY.eq W.iA) (by rfl)) (fun _ _ => rfl)) en) bB.all))
  aE.nil)
theorem rR (W : Wd w h) : dT (bJ w h) 2 444 jA :=
 sfo W 1 (names := [80, 76, 66]) rT (fun us e => by obtain ⟨a, b, c, rfl⟩ := ES e; kernel_rfl) (AU W)
noncomputable def m7 : List Stmt := cG (dA 32)
noncomputable def nB : Scope := bO (dA 32)
noncomputable def i6 : Cx := ⟨nB, [(0, 70), (1, 27), (2, 76), (3, 81), (4, 66), (5, 41), (6, 23), (7, 25), (8, 10), (9, 20), (10, 14), (11, 83), (12, 84)], true⟩
theorem aD : aR (bJ w h) i6 := aR.of (by kernel_rfl)
theorem nY (W : Wd w h) : aE (bJ w h) 3 i6 m7 jJ :=
 (aE.cons (aM.for 1000 (aC.slice (g := some _) (h := none) (ea W tX (dD W) (vr 0 fF aD)) (.one (vr 1 BB aD)) .nil) (eC.tup (dP.cons (an 6 dO aD) (fun _ => rfl) (dP.cons (an 7 BC aD) (fun _ => rfl) (dP.cons (an 8 kP aD) (fun _ => rfl) (dP.cons (an 9 wM aD) (fun _ => rfl) (dP.cons (an 10 FP aD) (fun _ => rfl) dP.nil)))))) (aE.cons (aM.ite (bK.boolop (bM.cons (bK.cmp (cF W (wQ W) (ec (vr 7 BC aD) (ec (vr 4 eX aD) en)) (wF W)) (aC.sub (vr 2 fR aD) (vr 6 dO aD) (fun _ _ => rfl)) (bY.Eo W.iA) (by rfl)) (bM.cons (bK.not (bK.ofE (cF W (rW W) (ec (vr 9 wM aD) (ec (vr 2 fR aD) (ec (vr 4 eX aD) en))) (rR W)) (fun _ _ => rfl))) bM.nil))) (aE.cons (aM.ret aC.bool)
  aE.nil) aE.nil)
  (aE.cons (aM.assign (cF W (k0 W) (ec (aC.sub (vr 2 fR aD) (vr 6 dO aD) (fun _ _ => rfl)) (ec (vr 8 kP aD) (ec (vr 4 eX aD) en))) (kU W)) (an 11 Kq aD) (fun _ _ => rfl) (fun _ _ => rfl) (fun _ => rfl))
  (aE.cons (aM.assign (cT (F7 W) (ec (vr 3 wK aD) en) bB.list) (an 12 Dr aD) (fun _ _ => rfl) (fun _ _ => rfl) (fun _ => rfl))
  (aE.cons (aM.assign (aC.bin (aC.sub (vr 12 Dr aD) (vr 6 dO aD) (fun _ _ => rfl)) (cF W (k0 W) (ec (aC.sub (vr 12 Dr aD) (vr 6 dO aD) (fun _ _ => rfl)) (ec (vr 8 kP aD) (ec (vr 4 eX aD) en))) (kU W)) bY.sub) (eC.item (vr 12 Dr aD) (vr 6 dO aD)) (fun _ _ => rfl) (fun _ _ => rfl) (fun _ => rfl))
  (aE.cons (aM.ite (bK.not (bK.ofE (cF W (uF W) (ec (vr 5 eO aD) (ec (vr 12 Dr aD) (ec (vr 9 wM aD) (ec (vr 4 eX aD) en)))) (tJ W)) (fun _ _ => rfl))) (aE.cons (aM.ret aC.bool)
  aE.nil) aE.nil)
  (aE.cons (aM.assign (aC.bin (aC.bin (aC.slice (g := none) (h := some _) (vr 2 fR aD) .nil (.one (vr 6 dO aD))) (aC.lst (ec (vr 11 Kq aD) en)) bY.add) (aC.slice (g := some _) (h := none) (vr 2 fR aD) (.one (aC.bin (vr 6 dO aD) aC.int bY.add)) .nil) bY.add) (an 2 fR aD) (fun _ _ => rfl) (fun _ _ => rfl) (fun _ => rfl))
  aE.nil)))))) (fun _ _ => rfl))
  (aE.cons (aM.ite (bK.cmp (vr 2 fR aD) (cF W (gZ W) (ec (vr 0 fF aD) (ec (vr 4 eX aD) en)) (gX W)) (bY.Eo W.iA) (by rfl)) (aE.cons (aM.ret aC.bool)
  aE.nil) aE.nil)
  (aE.cons (aM.ite (bK.not (bK.ofE (ea W tY (dD W) (vr 0 fF aD)) (fun _ _ => rfl))) (aE.cons (aM.ret aC.bool)
  aE.nil) aE.nil)
  (aE.cons (aM.ret (aC.boolop (cF W (rW W) (ec (ea W Dv (dD W) (vr 0 fF aD)) (ec (vr 2 fR aD) (ec (vr 4 eX aD) en))) (rR W)) (cF W (uF W) (ec (vr 5 eO aD) (ec (vr 3 wK aD) (ec (ea W Dv (dD W) (vr 0 fF aD)) (ec (vr 4 eX aD) en)))) (tJ W))))
  aE.nil))))
theorem nX (W : Wd w h) : dT (bJ w h) 4 451 gA :=
 sfo W 7 (names := [70, 27, 76, 81, 66, 41]) aD (fun us e => by obtain ⟨a, b, c, d, f, g, rfl⟩ := Ol e; kernel_rfl) (nY W)
noncomputable def sX : List Stmt := cG (dA 33)
noncomputable def tL : Scope := bO (dA 33)
noncomputable def nM : Cx := ⟨tL, [(0, 70), (1, 85), (2, 81), (3, 66), (4, 41), (5, 76), (6, 27), (7, 24), (8, 65), (9, 88), (10, 87)], true⟩
theorem aF : aR (bJ w h) nM := aR.of (by kernel_rfl)
theorem vN (W : Wd w h) : aE (bJ w h) 6 nM sX o4 :=
 (aE.cons (aM.swap (ids := [(5, 76), (6, 27)]) (aC.tup (ec (cF W (gZ W) (ec (vr 0 fF aF) (ec (vr 3 eX aF) en)) (gX W)) (ec (cB (eK W) (ec (ea W tX (dD W) (vr 0 fF aF)) en) (bB.len W.iA)) en))) aF (by intro p hp; simp only [List.mem_cons, List.not_mem_nil, or_false] at hp; rcases hp with rfl | rfl <;> first | exact jH 5 (by rfl) | exact jH 6 (by rfl)) (fun _ _ => .inl rfl) (fun _ _ => rfl) (fun _ h => (dW h _ _).trans (by kernel_rfl)))
  (aE.cons (aM.assign (cC W (DK W) en (Dc W)) (an 7 wL aF) (fun _ _ => rfl) (fun _ _ => rfl) (fun _ => rfl))
  (aE.cons (aM.for 1000 (vr 5 fR aF) (an 8 oV aF) (aE.cons (aM.expr (im W Kp (dD W) (nK w) (vr 7 wL aF) (ec (cF W (pV W) (ec (vr 8 oV aF) (ec (vr 3 eX aF) en)) (pK W)) en) (m9 W)) (fun _ => rfl))
  aE.nil) (fun _ _ => rfl))
  (aE.cons (aM.assign (cF W (kJ W) (ec (vr 4 eO aF) (ec (vr 5 fR aF) en)) (kF W)) (an 9 Dq aF) (fun _ _ => rfl) (fun _ _ => rfl) (fun _ => rfl))
  (aE.cons (aM.ite (bK.boolop (bM.cons (bK.cmp (im W HG (nR W) (dM w) (vr 1 zT aF) (ec (vr 0 fF aF) en) (dL W)) (vr 9 Dq aF) bY.BF (by rfl)) (bM.cons (bK.cmp (im W HG (nR W) (dM w) (cC W (jI W) (ec (vr 4 eO aF) en) (jF W)) (ec (vr 7 wL aF) en) (dL W)) (vr 9 Dq aF) bY.BF (by rfl)) bM.nil))) (aE.cons (aM.ret aC.bool)
  aE.nil) aE.nil)
  (aE.cons (aM.ite (bK.boolop (bM.cons (bK.cmp (ea W tY (dD W) (vr 0 fF aF)) (vr 9 Dq aF) bY.is (by rfl)) (bM.cons (bK.not (bK.ofE (cF W (oG W) (ec (vr 0 fF aF) (ec (vr 6 BB aF) (ec (vr 5 fR aF) (ec (vr 2 wK aF) (ec (vr 3 eX aF) (ec (vr 4 eO aF) en)))))) (nX W)) (fun _ _ => rfl))) bM.nil))) (aE.cons (aM.ret aC.bool)
  aE.nil) aE.nil)
  (aE.cons (aM.ite (bK.not (bK.ofE (vr 9 Dq aF) (fun _ _ => rfl))) (aE.cons (aM.ret aC.bool)
  aE.nil) aE.nil)
  (aE.cons (aM.assign (cF W (gZ W) (ec (vr 0 fF aF) (ec (vr 3 eX aF) en)) (gX W)) (an 10 HF aF) (fun _ _ => rfl) (fun _ _ => rfl) (fun _ => rfl))
  (aE.cons (aM.ite (bK.boolop (bM.cons (bK.cmp (vr 10 HF aF) (cF W (xL W) (ec (vr 4 eO aF) (ec (vr 5 fR aF) en)) (xA W)) (bY.Eo W.iA) (by rfl)) (bM.cons (bK.cmp (cF W (gZ W) (ec (vr 7 wL aF) (ec (vr 3 eX aF) en)) (gX W)) (vr 10 HF aF) (bY.Eo W.iA) (by rfl)) bM.nil))) (aE.cons (aM.ret aC.bool)
  aE.nil) aE.nil)
  (aE.cons (aM.assign (cB (eK W) (ec (ea W tX (dD W) (vr 0 fF aF)) en) (bB.len W.iA)) (an 6 BB aF) (fun _ _ => rfl) (fun _ _ => rfl) (fun _ => rfl))
  (aE.cons (aM.ret (aC.boolop (im W HG (nR W) (dM w) (vr 1 zT aF) (ec (vr 0 fF aF) en) (dL W)) (aC.cmp (cB (eK W) (ec (ea W tX (dD W) (vr 0 fF aF)) en) (bB.len W.iA)) (vr 6 BB aF) (bY.eq W.iA) (by rfl))))
  aE.nil)))))))))))
theorem m8 (W : Wd w h) : dT (bJ w h) 7 458 d5 :=
 sfo W 6 (names := [70, 85, 81, 66, 41]) aF (fun us e => by obtain ⟨a, b, c, d, f, rfl⟩ := MZ e; kernel_rfl) (vN W)
noncomputable def qF : List Stmt := cG (dA 34)
noncomputable def rI : Scope := bO (dA 34)
noncomputable def lX : Cx := ⟨rI, [(0, 90)], true⟩
theorem lO : aR (bJ w h) lX := aR.of (by kernel_rfl)
theorem sJ (W : Wd w h) : aE (bJ w h) 0 lX qF mP :=
 (aE.cons (aM.ret (aC.cmp (aC.KY (tt := none) (NP := some _) 1000 (fL.of [(1, 4), (2, 91), (0, 90)] [1, 2] (by kernel_rfl)) (cT (dI W) (ec (cB (eK W) (ec (vr 0 Bz lO) en) (bB.len W.iA)) en) bB.gO) (am 1 f7 (aR.of (by kernel_rfl))) .nil (cT (dI W) (ec (vr 1 f7 (aR.of (by kernel_rfl))) en) bB.gO) (am 2 HE (aR.of (by kernel_rfl))) (.one (bK.cmp (aC.sub (vr 0 Bz (aR.of (by kernel_rfl))) (vr 2 HE (aR.of (by kernel_rfl))) (fun _ _ => rfl)) (aC.sub (vr 0 Bz (aR.of (by kernel_rfl))) (vr 1 f7 (aR.of (by kernel_rfl))) (fun _ _ => rfl)) (bY.eq W.iA) (by rfl))) (vr 2 HE (aR.of (by kernel_rfl))) (fun _ _ => rfl) (fun _ _ => rfl)) (aC.lst en) (bY.eq W.iA) (by rfl)))
  aE.nil)
theorem sG (W : Wd w h) : dT (bJ w h) 1 463 gH :=
 sfo W 2 (names := [90]) lO (fun us e => by obtain ⟨a, rfl⟩ := Cy e; kernel_rfl) (sJ W)
noncomputable def IX : List Stmt := cG (dA 35)
noncomputable def Jx : Scope := bO (dA 35)
noncomputable def IU : Cx := ⟨Jx, [(0, 101), (1, 64), (2, 60), (3, 62), (4, 66), (5, 81), (6, 100), (7, 41), (8, 70), (9, 85), (10, 65), (11, 90), (12, 94), (13, 92), (14, 76), (15, 93), (16, 23), (17, 74)], true⟩
theorem aS : aR (bJ w h) IU := aR.of (by kernel_rfl)
theorem Lg (W : Wd w h) : aE (bJ w h) 7 IU IX K0 :=
 (aE.cons (aM.oP (an 1 BA aS) (fun _ h => (nW h _ _ _).trans (by kernel_rfl)) (fun _ => rfl) (rE (tt := none) 1000 (fL.of [(22, 102)] [22] (by kernel_rfl)) (aC.slice (g := none) (h := some _) (vr 0 Lw aS) .nil (.one aC.int)) (am 22 HT (aR.of (by kernel_rfl))) .nil (aC.bin (cB (Mj W) (ec (vr 22 HT (aR.of (by kernel_rfl))) en) bB.abs) aC.int bY.mod) (fun _ _ => rfl)))
  (aE.cons (aM.assign (aC.IT [(_, _), (_, _), (_, _)] rfl rfl (fun _ => rfl) (by simp) (by simp) (iI.cons (aC.str (k := 64) BA) (vr 1 BA aS) (iI.cons (aC.str (k := 63) zU) aC.int (iI.cons (aC.str (k := 61) FG) (aC.bin aC.int (aC.bin (cB (Fm W) (ec (vr 1 BA aS) en) bB.sum) aC.int bY.mod) bY.add) iI.nil)))) (an 2 j6 aS) (fun _ _ => rfl) (fun _ _ => rfl) (fun _ => rfl))
  (aE.cons (aM.assign (aC.tup (ec (aC.bin aC.int (cF W (eA W) (ec (vr 2 j6 aS) (ec aC.int en)) (d8 W)) bY.add) (ec (aC.bin (cF W (eA W) (ec (vr 2 j6 aS) (ec aC.int en)) (d8 W)) aC.int bY.sub) en))) (eC.tup (dP.cons (an 3 pQ aS) (fun _ => rfl) (dP.cons (an 4 eX aS) (fun _ => rfl) dP.nil))) (fun _ _ => rfl) (fun _ h => (dW h _ _).trans (by kernel_rfl)) (fun _ => rfl))
  (aE.cons (aM.oP (an 5 wK aS) (fun _ h => (nW h _ _ _).trans (by kernel_rfl)) (fun _ => rfl) (rE (tt := none) 1000 (fL.of [(21, 23), (2, 60)] [21] (by kernel_rfl)) (cT (dI W) (ec (vr 3 pQ aS) en) bB.gO) (am 21 dO (aR.of (by kernel_rfl))) .nil (aC.bin aC.int (cF W (eA W) (ec (vr 2 j6 (aR.of (by kernel_rfl))) (ec aC.int en)) (d8 W)) bY.add) (fun _ _ => rfl)))
  (aE.cons (aM.assign (cF W (eA W) (ec (vr 2 j6 aS) (ec (vr 3 pQ aS) en)) (d8 W)) (an 6 EP aS) (fun _ _ => rfl) (fun _ _ => rfl) (fun _ => rfl))
  (aE.cons (aM.assign (aC.bin (cT (iH W) (ec (cT (dI W) (ec (vr 6 EP aS) (ec (vr 3 pQ aS) en)) bB.Cp) en) bB.tuple) (cT (iH W) (ec (cT (dI W) (ec (vr 6 EP aS) en) bB.gO) en) bB.tuple) bY.add) (an 7 eO aS) (fun _ _ => rfl) (fun _ _ => rfl) (fun _ => rfl))
  (aE.cons (aM.ite (bK.cmp (cF W (eA W) (ec (vr 2 j6 aS) (ec aC.int en)) (d8 W)) aC.int (bY.eq W.iA) (by rfl)) (aE.cons (aM.assign (aC.bin (vr 7 eO aS) (aC.slice (g := none) (h := some _) (vr 7 eO aS) .nil (.one aC.int)) bY.add) (an 7 eO aS) (fun _ _ => rfl) (fun _ _ => rfl) (fun _ => rfl))
  aE.nil) aE.nil)
  (aE.cons (aM.swap (ids := [(8, 70), (9, 85)]) (aC.tup (ec (cC W (DK W) en (Dc W)) (ec (cC W (jI W) (ec (vr 7 eO aS) en) (jF W)) en))) aS (by intro p hp; simp only [List.mem_cons, List.not_mem_nil, or_false] at hp; rcases hp with rfl | rfl <;> first | exact jH 8 (by rfl) | exact jH 9 (by rfl)) (fun _ _ => .inl rfl) (fun _ _ => rfl) (fun _ h => (dW h _ _).trans (by kernel_rfl)))
  (aE.cons (aM.for 1000 (vr 5 wK aS) (an 10 oV aS) (aE.cons (aM.expr (im W Kp (dD W) (nK w) (vr 8 fF aS) (ec (cF W (pV W) (ec (vr 10 oV aS) (ec (vr 4 eX aS) en)) (pK W)) en) (m9 W)) (fun _ => rfl))
  aE.nil) (fun _ _ => rfl))
  (aE.cons (aM.assign (cT (iH W) (ec (aC.uT (tt := none) 1000 (fL.of [(20, 23), (2, 60)] [20] (by kernel_rfl)) (vr 7 eO aS) (am 20 dO (aR.of (by kernel_rfl))) .nil (cF W (eA W) (ec (vr 2 j6 (aR.of (by kernel_rfl))) (ec aC.int en)) (d8 W)) (fun _ _ => rfl)) en) bB.tuple) (an 11 Bz aS) (fun _ _ => rfl) (fun _ _ => rfl) (fun _ => rfl))
  (aE.cons (aM.ite (bK.boolop (bM.cons (bK.cmp (im W Kw (nR W) (gE w) (vr 9 zT aS) (ec (vr 11 Bz aS) en) (gC W)) (cF W (sS W) (ec (vr 11 Bz aS) en) (sG W)) bY.BF (by rfl)) (bM.cons (bK.cmp (ea W oW (nR W) (vr 9 zT aS)) (vr 7 eO aS) (bY.Eo W.iA) (by rfl)) bM.nil))) (aE.cons (aM.ret aC.bool)
  aE.nil) aE.nil)
  (aE.cons (aM.ite (bK.boolop (bM.cons (bK.cmp (im W MG (nR W) (lV w) (vr 9 zT aS) en (lH W)) (aC.tup (ec (aC.str (k := 48) Ky) (ec (vr 7 eO aS) (ec (aC.str (k := 99) Ko) en)))) (bY.Eo W.iA) (by rfl)) (bM.cons (bK.not (bK.ofE (cF W (nJ W) (ec (vr 8 fF aS) (ec (vr 9 zT aS) (ec (vr 5 wK aS) (ec (vr 4 eX aS) (ec (vr 7 eO aS) en))))) (m8 W)) (fun _ _ => rfl))) bM.nil))) (aE.cons (aM.ret aC.bool)
  aE.nil) aE.nil)
  (aE.cons (aM.assign (aC.lst en) (an 12 FC aS) (fun _ _ => rfl) (fun _ _ => rfl) (fun _ => rfl))
  (aE.cons (aM.for 1000 (cT (dI W) (ec (aC.bin aC.int (vr 3 pQ aS) bY.sub) en) bB.gO) (an 13 MK aS) (aE.cons (aM.assign (cF W (gZ W) (ec (vr 8 fF aS) (ec (vr 4 eX aS) en)) (gX W)) (an 14 fR aS) (fun _ _ => rfl) (fun _ _ => rfl) (fun _ => rfl))
  (aE.cons (aM.oP (an 15 Dp aS) (fun _ h => (nW h _ _ _).trans (by kernel_rfl)) (fun _ => rfl) (rE (tt := some _) 1000 (fL.of [(19, 23), (14, 76)] [19] (by kernel_rfl)) (cT (dI W) (ec (vr 3 pQ aS) en) bB.gO) (am 19 dO (aR.of (by kernel_rfl))) (.one (bK.cmp (cF W (rX W) (ec (aC.sub (vr 14 fR (aR.of (by kernel_rfl))) (vr 19 dO (aR.of (by kernel_rfl))) (fun _ _ => rfl)) en) (rS W)) aC.int bY.gt (by rfl))) (vr 19 dO (aR.of (by kernel_rfl))) (fun _ _ => rfl)))
  (aE.cons (aM.ite (bK.boolop (bM.cons (bK.cmp (vr 12 FC aS) (aC.lst en) (bY.Eo W.iA) (by rfl)) (bM.cons (bK.boolop (bM.cons (bK.ofE (ea W tY (dD W) (vr 8 fF aS)) (fun _ _ => rfl)) (bM.cons (bK.cmp (vr 15 Dp aS) (aC.lst en) (bY.eq W.iA) (by rfl)) (bM.cons (bK.cmp (cF W (eA W) (ec (vr 2 j6 aS) (ec aC.int en)) (d8 W)) aC.int (bY.eq W.iA) (by rfl)) bM.nil)))) bM.nil))) (aE.cons (aM.expr (im W MJ (dD W) (CJ w) (vr 8 fF aS) (ec aC.int en) (Cg W)) (fun _ => rfl))
  (aE.cons (aM.ite (bK.boolop (bM.cons (bK.ofE (ea W tY (dD W) (vr 8 fF aS)) (fun _ _ => rfl)) (bM.cons (bK.cmp (cF W (gZ W) (ec (vr 8 fF aS) (ec (vr 4 eX aS) en)) (gX W)) (lm (vr 12 FC aS) en bB.pop PySem.F.slot_list_pop PySem.F.type_list_pop) (bY.Eo W.iA) (by rfl)) bM.nil))) (aE.cons (aM.ret aC.bool)
  aE.nil) aE.nil)
  aE.nil)) (aE.cons (aM.ite (bK.boolop (bM.cons (bK.ofE (ea W tY (dD W) (vr 8 fF aS)) (fun _ _ => rfl)) (bM.cons (bK.cmp (vr 15 Dp aS) (aC.lst en) (bY.eq W.iA) (by rfl)) bM.nil))) (aE.cons (aM.ret aC.bool)
  aE.nil) (aE.cons (aM.assign (aC.sub (vr 15 Dp aS) (cF W (eA W) (ec (vr 2 j6 aS) (ec (cB (eK W) (ec (vr 15 Dp aS) en) (bB.len W.iA)) en)) (d8 W)) (fun _ _ => rfl)) (an 16 dO aS) (fun _ _ => rfl) (fun _ _ => rfl) (fun _ => rfl))
  (aE.cons (aM.oP (an 17 Ds aS) (fun _ h => (nW h _ _ _).trans (by kernel_rfl)) (fun _ => rfl) (rE (tt := some _) 1000 (fL.of [(18, 4), (14, 76), (16, 23), (4, 66)] [18] (by kernel_rfl)) (cT (dI W) (ec aC.int en) bB.gO) (am 18 f7 (aR.of (by kernel_rfl))) (.one (bK.cmp (aC.bin (aC.bin (aC.sub (vr 14 fR (aR.of (by kernel_rfl))) (vr 16 dO (aR.of (by kernel_rfl))) (fun _ _ => rfl)) (aC.bin aC.int (vr 18 f7 (aR.of (by kernel_rfl))) bY.pow) bY.floordiv) aC.int bY.mod) aC.int (bY.eq W.iA) (by rfl))) (aC.bin (vr 4 eX (aR.of (by kernel_rfl))) (vr 18 f7 (aR.of (by kernel_rfl))) bY.add) (fun _ _ => rfl)))
  (aE.cons (aM.expr (lm (vr 12 FC aS) (ec (vr 14 fR aS) en) bB.append PySem.F.slot_list_append PySem.F.type_list_append) (fun _ => rfl))
  (aE.cons (aM.expr (im W MH (dD W) (Bf w) (vr 8 fF aS) en (AK W)) (fun _ => rfl))
  (aE.cons (aM.ite (bK.not (bK.ofE (im W MI (dD W) (xN w) (vr 8 fF aS) (ec (aC.tup (ec (vr 16 dO aS) (ec (aC.str (k := 51) FJ) (ec (aC.sub (vr 17 Ds aS) (cF W (eA W) (ec (vr 2 j6 aS) (ec (cB (eK W) (ec (vr 17 Ds aS) en) (bB.len W.iA)) en)) (d8 W)) (fun _ _ => rfl)) en)))) en) (xC W)) (fun _ _ => rfl))) (aE.cons (aM.ret aC.bool)
  aE.nil) aE.nil)
  aE.nil))))))
  aE.nil))
  (aE.cons (aM.ite (bK.not (bK.ofE (cF W (nJ W) (ec (vr 8 fF aS) (ec (vr 9 zT aS) (ec (vr 5 wK aS) (ec (vr 4 eX aS) (ec (vr 7 eO aS) en))))) (m8 W)) (fun _ _ => rfl))) (aE.cons (aM.ret aC.bool)
  aE.nil) aE.nil)
  aE.nil)))) (fun _ _ => rfl))
  (aE.cons (aM.ret aC.bool)
  aE.nil)))))))))))))))
theorem Ld (W : Wd w h) : dT (bJ w h) 8 468 Em :=
 sfo W 22 (names := [101]) aS (fun us e => by obtain ⟨a, rfl⟩ := Cy e; kernel_rfl) (Lg W)
end
end Mine
end
section
open PySem PySem.W PyProof.Rows PySem.Calls
namespace Mine
theorem GP {w : World} {s₁ : Shared} (W : Wd w s₁.heap) (hp : ∀ ns : List Int, ns.length ≤ 63 → ∃ σ', Em [.yX ns] [] = some (.bool true, σ')) {l : Addr} {vs : List Value} {ns : List Int}
  (hL : s₁.heap.get? l = some { cls := .type "list", data := .seq vs.toArray }) (hI : IntsAre vs ns) (hlen : ns.length ≤ 63) {R : Result → Shared → Prop}
  (hR : ∀ s', (∀ b o, s₁.heap.get? b = some o → s'.heap.get? b = some o) → s'.gens = s₁.gens → s'.os = s₁.os → R (.ok (.ret (.bool true))) s') :
  codeAny (model PySem.Challenge.rw_xw0067_01.row.prog w) callerA (.call (.ref 468) ⟨[.ref l], []⟩) R s₁ := by
 obtain ⟨σ', e⟩ := hp ns hlen
 refine Ld W callerA (fun _ => 0) [] s₁ [.yX ns] [.ref l] (.bool true) σ' R ⟨rfl, by decide +kernel, by decide +kernel⟩ ⟨fun _ _ e => e, fun i o e => by simp at e, fun i j h => absurd h (Nat.not_lt_zero _), fun i h => absurd h (Nat.not_lt_zero _)⟩ ?_ e fun u dU s' H' S' V' => ?_
 ·exact .cons (.yX (k := 0) (items := vs.toArray) hL hI) .nil
 ·cases V'
  exact hR s' (fun b o e => S'.tR b o e fun ⟨i, hi, _⟩ => absurd hi (Nat.not_lt_zero _)) S'.gens S'.os
theorem JE (args ds : List WData) : PySem.Challenge.rw_xw0067_01.row.claim.post args (.bool true) ds = true := by kernel_rfl
theorem Gi : OpenLaw.wellSaid PySem.Challenge.rw_xw0067_01 = true := by decide +kernel
theorem head (hp : ∀ ns : List Int, ns.length ≤ 63 → ∃ σ', Em [.yX ns] [] = some (.bool true, σ')) : PySem.Challenge.rw_xw0067_01.Holds := by
 refine holds_law Gi fun said => ?_
 refine holds_open (q := qV) (loose := ["has_domains"]) (Xt := XtR) (XP := XL qV []) (Yf := pU.obs) (Ya := pU.val) (YP := pU.says) (d := ⟨"law", Iv (dA 35), cG (dA 35), bO (dA 35), Lj⟩) (kwd := []) (N := 5632) JT pU.of pU.keeps (fun s e => xl_of s (Bool.and_eq_true_iff.mp e).1) XL.keeps (by kernel_rfl) (by kernel_rfl) (by kernel_rfl) (fun s e => recFacts_of (Bool.and_eq_true_iff.mp e).2) (by rfl) said (by decide +kernel) ⟨rfl, rfl, rfl, rfl, rfl, by decide +kernel⟩ ?hw ?hc
 case hw => w_witness2
 case hc =>
  intro w s₀ s₁ mg mb G Y fa o pm cd doc dV kV ho hd hcd hD hmg hg args vals as hpre hlay hrd hwl hlo
  have KX := kIn_of Y
  refine Ground.open G ?_
  intro T B D TE TW
  have hfa : mg "law" = some (.ref fa) := hmg
  clear ho hd hcd hD D TE TW B Y hmg
  have W : Wd w s₁.heap := ⟨KX, ⟨mg, T.g⟩, ⟨mb, T.b, T.builtins⟩, T.nolimit, by
   obtain ⟨mm, ⟨o, _, _, ho, _⟩, _⟩ := (T.seer (by kernel_rfl)).mods
   exact ⟨o, ho⟩⟩
  have Nx : mg "law" = some (.ref 468) := mg_of KX T.g (by kernel_rfl)
  rw [hfa] at Nx
  cases Nx
  wrow_args hpre hlay hrd hwl hlo
  all_goals (
   first | refine callC_kw (enter_call ?_) | refine enter_call ?_ | refine callC_kw (enter_callW ?_) | refine enter_callW ?_ | w_how)
  rename_i ns _ _ _ _ _ _ _ l vs _ hL0 _ w1 _ hI _ hc _
  cases w1 with
  | list =>
  rename_i vs2 hL _
  obtain ⟨o, ho, hoc, n, hod⟩ := hL0
  rw [hL] at ho
  cases ho
  have e1 : vs2 = vs := by
   have := congrArg Array.toList (Data.seq.inj hod).1
   simpa using this
  subst e1
  refine GP W hp hL hI (by lia) fun s' hk hgens hos => GoodW.toG ⟨.inl ⟨_, .bool true, [], rfl, fun cls => by rfl, .bool _, JE _ _, fun _ => ⟨.nil, fun a h => by cases h⟩⟩, hk, hos, hgens.trans hg⟩
end Mine
end
theorem PySem.Challenge.cw_xw0067_01_holds : PySem.Challenge.rw_xw0067_01.Holds :=
 Mine.head Mine.H4
