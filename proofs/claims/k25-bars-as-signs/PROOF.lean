import PyProof.Rows.All
import Wide.All
import OpenK.AllK
import Wide.FinOn
import HandS.ForMost
import HandS.ForExc
import HandS.ExcIs
import HandS.Small
import HandS.Text
import KE.KDictSum
import HandS.IsInst
import HandS.WideBits
import HandS.Wide
import HandS.WideMore
import HandS.Steps
import HandS.SortRule
import HandS.SortInts
import HandS.TupLe
import HandS.RevTup
import HandS.Rev
import HandS.Iter
import KE.KDictList
import PySem.Challenge.RW_evernever_k25_bars_as_signs
set_option Elab.async false
set_option linter.all false
set_option maxRecDepth 100000
set_option maxHeartbeats 8000000
namespace Z
open PySem PySem.Spec PyProof.Rows L2

/-! ### Option as the monad of a mirror: what an answer is wanted for -/
def OP {α : Type} (m : Option α) (A : α → Prop) : Prop := match m with
  | some a => A a
  | none => False
theorem OP.bind {α β : Type} {m : Option α} {k : α → Option β} {A : β → Prop} (h : OP (m.bind k) A) : ∃ x, m = some x ∧ OP (k x) A := by
  cases m with
  | none => exact h.elim
  | some x => exact ⟨x, rfl, h⟩
theorem OP.of {α β : Type} {m : Option α} {k : α → Option β} {A : β → Prop} (h : OP (m.bind k) A) : OP m (fun x => OP (k x) A) := by
  cases m with
  | none => exact h.elim
  | some x => exact h
theorem OP.some {α : Type} {a : α} {A : α → Prop} (h : OP (some a) A) : A a := h
theorem OP.get {α : Type} {m : Option α} {A : α → Prop} (h : OP m A) : ∃ a, m = .some a ∧ A a := by
  cases m with
  | none => exact h.elim
  | some x => exact ⟨x, rfl, h⟩
theorem OP.mk {α : Type} {m : Option α} {a : α} {A : α → Prop} (e : m = .some a) (h : A a) : OP m A := by subst e; exact h
theorem OP.mono {α : Type} {m : Option α} {A B : α → Prop} (h : OP m A) (f : ∀ a, A a → B a) : OP m B := by
  cases m with
  | none => exact h.elim
  | some x => exact f _ h
/-- a guard -/
@[irreducible] def grd {β : Type} (c : Prop) [Decidable c] (k : Option β) : Option β := if c then k else none
theorem OP.grd {β : Type} {c : Prop} {_ : Decidable c} {k : Option β} {A : β → Prop} (h : OP (Z.grd c k) A) : c ∧ OP k A := by
  unfold Z.grd at h
  by_cases hc : c
  · rw [if_pos hc] at h
    exact ⟨hc, h⟩
  · rw [if_neg hc] at h
    exact h.elim
theorem grd_some {β : Type} {c : Prop} {_ : Decidable c} {k : Option β} {r : β} (h : Z.grd c k = some r) : c ∧ k = some r := by
  unfold Z.grd at h
  by_cases hc : c
  · rw [if_pos hc] at h
    exact ⟨hc, h⟩
  · rw [if_neg hc] at h
    cases h
theorem grd_of {β : Type} {c : Prop} [Decidable c] {k : Option β} (h : c) : Z.grd c k = k := by
  unfold Z.grd
  rw [if_pos h]
theorem bind_some {α β : Type} {m : Option α} {k : α → Option β} {r : β} (h : m.bind k = some r) : ∃ x, m = some x ∧ k x = some r := by
  cases m with
  | none => cases h
  | some x => exact ⟨x, rfl, h⟩
/-- a mirror's test -/
@[irreducible] def ifo {α : Type} (c : Bool) (m n : Option α) : Option α := if c = true then m else n
theorem ifo_eq {α : Type} (c : Bool) (m n : Option α) : ifo c m n = if c = true then m else n := by unfold ifo; rfl
theorem ifo_t {α : Type} {c : Bool} {m n : Option α} (h : c = true) : ifo c m n = m := by rw [ifo_eq, if_pos h]
theorem ifo_f {α : Type} {c : Bool} {m n : Option α} (h : c = false) : ifo c m n = n := by rw [ifo_eq, if_neg (by rw [h]; exact Bool.false_ne_true)]
/-- a mirror's loops: without, with an early answer -/
def forO' {α σ : Type} (body : α → σ → Option σ) : List α → σ → Option σ
  | [], s => some s
  | x :: xs, s => (body x s).bind fun s' => forO' body xs s'
@[irreducible] def forO {α σ : Type} (body : α → σ → Option σ) (xs : List α) (s : σ) : Option σ := forO' body xs s
def forR' {α σ ρ : Type} (body : α → σ → Option (σ ⊕ ρ)) : List α → σ → Option (σ ⊕ ρ)
  | [], s => some (.inl s)
  | x :: xs, s => (body x s).bind fun r => match r with
    | .inl s' => forR' body xs s'
    | .inr v => some (.inr v)
@[irreducible] def forR {α σ ρ : Type} (body : α → σ → Option (σ ⊕ ρ)) (xs : List α) (s : σ) : Option (σ ⊕ ρ) := forR' body xs s
def whileO' {σ : Type} (c : σ → Option Bool) (body : σ → Option σ) : Nat → σ → Option σ
  | 0, _ => none
  | n + 1, s => (c s).bind fun b => if b = true then (body s).bind fun s' => whileO' c body n s' else some s
@[irreducible] def whileO {σ : Type} (c : σ → Option Bool) (body : σ → Option σ) (n : Nat) (s : σ) : Option σ := whileO' c body n s
def whileR' {σ ρ : Type} (c : σ → Option Bool) (body : σ → Option (σ ⊕ ρ)) : Nat → σ → Option (σ ⊕ ρ)
  | 0, _ => none
  | n + 1, s => (c s).bind fun b => if b = true then (body s).bind fun r => match r with
    | .inl s' => whileR' c body n s'
    | .inr v => some (.inr v) else some (.inl s)
@[irreducible] def whileR {σ ρ : Type} (c : σ → Option Bool) (body : σ → Option (σ ⊕ ρ)) (n : Nat) (s : σ) : Option (σ ⊕ ρ) := whileR' c body n s
theorem forO_nil {α σ : Type} {body : α → σ → Option σ} {s : σ} : forO body [] s = some s := by unfold forO; rfl
theorem forO_cons {α σ : Type} {body : α → σ → Option σ} {x : α} {xs : List α} {s : σ} : forO body (x :: xs) s = (body x s).bind fun s' => forO body xs s' := by unfold forO; rfl
theorem forR_nil {α σ ρ : Type} {body : α → σ → Option (σ ⊕ ρ)} {s : σ} : forR body [] s = some (.inl s) := by unfold forR; rfl
theorem forR_cons {α σ ρ : Type} {body : α → σ → Option (σ ⊕ ρ)} {x : α} {xs : List α} {s : σ} : forR body (x :: xs) s = (body x s).bind fun r => match r with
    | .inl s' => forR body xs s'
    | .inr v => some (.inr v) := by unfold forR; rfl
theorem whileO_zero {σ : Type} {c : σ → Option Bool} {body : σ → Option σ} {s : σ} : whileO c body 0 s = none := by unfold whileO; rfl
theorem whileO_succ {σ : Type} {c : σ → Option Bool} {body : σ → Option σ} {n : Nat} {s : σ} : whileO c body (n + 1) s = (c s).bind fun b => if b = true then (body s).bind fun s' => whileO c body n s' else some s := by unfold whileO; rfl
theorem whileR_zero {σ ρ : Type} {c : σ → Option Bool} {body : σ → Option (σ ⊕ ρ)} {s : σ} : whileR c body 0 s = none := by unfold whileR; rfl
theorem whileR_succ {σ ρ : Type} {c : σ → Option Bool} {body : σ → Option (σ ⊕ ρ)} {n : Nat} {s : σ} : whileR c body (n + 1) s = (c s).bind fun b => if b = true then (body s).bind fun r => match r with
    | .inl s' => whileR c body n s'
    | .inr v => some (.inr v) else some (.inl s) := by unfold whileR; rfl
def rangeI (lo : Int) (n : Nat) : List Int := (List.range n).map fun (i : Nat) => lo + (i : Int)

/-! ### a datum of Lean's at a value of the heap -/
structure Rep (K : PySem.W.Frag) (α : Type) where
  R : Hp → V → α → Prop
  mono : ∀ {H H' : Hp} {v : V} {x : α}, Same H H' → R H v x → R H' v x
abbrev RL {K : PySem.W.Frag} {α : Type} (τ : Rep K α) (H : Hp) (ws : List V) (xs : List α) : Prop := Paired (τ.R H) ws xs
theorem RL.mono {K : PySem.W.Frag} {α : Type} {τ : Rep K α} {H H' : Hp} (e : Same H H') : ∀ {ws : List V} {xs : List α}, RL τ H ws xs → RL τ H' ws xs
  | _, _, .nil => .nil
  | _, _, .cons a b => .cons (τ.mono e a) (RL.mono e b)
theorem RL.length {K : PySem.W.Frag} {α : Type} {τ : Rep K α} {H : Hp} {ws : List V} {xs : List α} (h : RL τ H ws xs) : ws.length = xs.length := Paired.length h
theorem RL.app {K : PySem.W.Frag} {α : Type} {τ : Rep K α} {H : Hp} : ∀ {ws ws' : List V} {xs xs' : List α}, RL τ H ws xs → RL τ H ws' xs' → RL τ H (ws ++ ws') (xs ++ xs')
  | _, _, _, _, .nil, s => s
  | _, _, _, _, .cons a b, s => .cons a (RL.app b s)
theorem RL.get {K : PySem.W.Frag} {α : Type} {τ : Rep K α} {H : Hp} : ∀ {ws : List V} {xs : List α} {i : Nat} {x : α}, RL τ H ws xs → xs[i]? = some x → ∃ w, ws[i]? = some w ∧ τ.R H w x
  | _, _, _, _, .nil, e => by simp at e
  | _, _, 0, _, .cons r _, e => by simp at e; subst e; exact ⟨_, rfl, r⟩
  | _, _, i + 1, x, .cons _ t, e => by
    obtain ⟨w, h1, h2⟩ := RL.get (i := i) (x := x) t (by simpa using e)
    exact ⟨w, by simpa using h1, h2⟩
theorem RL.set {K : PySem.W.Frag} {α : Type} {τ : Rep K α} {H : Hp} {v : V} {x : α} (r : τ.R H v x) : ∀ {ws : List V} {xs : List α} (i : Nat), RL τ H ws xs → RL τ H (ws.set i v) (xs.set i x)
  | _, _, _, .nil => .nil
  | _, _, 0, .cons _ t => .cons r t
  | _, _, i + 1, .cons q t => .cons q (RL.set r i t)
theorem RL.drop {K : PySem.W.Frag} {α : Type} {τ : Rep K α} {H : Hp} : ∀ {ws : List V} {xs : List α} (n : Nat), RL τ H ws xs → RL τ H (ws.drop n) (xs.drop n)
  | _, _, 0, r => r
  | _, _, _ + 1, .nil => .nil
  | _, _, n + 1, .cons _ t => RL.drop n t
theorem RL.take {K : PySem.W.Frag} {α : Type} {τ : Rep K α} {H : Hp} : ∀ {ws : List V} {xs : List α} (n : Nat), RL τ H ws xs → RL τ H (ws.take n) (xs.take n)
  | _, _, 0, _ => .nil
  | _, _, _ + 1, .nil => .nil
  | _, _, n + 1, .cons r t => .cons r (RL.take n t)
theorem RL.dropLast {K : PySem.W.Frag} {α : Type} {τ : Rep K α} {H : Hp} {ws : List V} {xs : List α} (h : RL τ H ws xs) : RL τ H ws.dropLast xs.dropLast := by
  rw [List.dropLast_eq_take, List.dropLast_eq_take, h.length]
  exact h.take _
theorem RL.reverse {K : PySem.W.Frag} {α : Type} {τ : Rep K α} {H : Hp} : ∀ {ws : List V} {xs : List α}, RL τ H ws xs → RL τ H ws.reverse xs.reverse
  | _, _, .nil => .nil
  | _, _, .cons r t => by
    rw [List.reverse_cons, List.reverse_cons]
    exact (RL.reverse t).app (.cons r .nil)
theorem RL.map {K : PySem.W.Frag} {α : Type} {τ : Rep K α} {H : Hp} (f : α → V) (hf : ∀ x, τ.R H (f x) x) : ∀ xs : List α, RL τ H (xs.map f) xs
  | [] => .nil
  | x :: xs => .cons (hf x) (RL.map f hf xs)
theorem RL.eqmap {K : PySem.W.Frag} {α : Type} {τ : Rep K α} {H : Hp} (f : α → V) (hf : ∀ v x, τ.R H v x → v = f x) : ∀ {ws : List V} {xs : List α}, RL τ H ws xs → ws = xs.map f
  | _, _, .nil => rfl
  | _, _, .cons r t => by
    rw [List.map_cons, hf _ _ r, RL.eqmap f hf t]

section
variable {K : PySem.W.Frag}
def qI : Rep K Int := ⟨fun _ v x => v = .int x, fun _ h => h⟩
def qB : Rep K Bool := ⟨fun _ v x => v = .bl x, fun _ h => h⟩
def qS : Rep K Str := ⟨fun _ v x => v = .str x, fun _ h => h⟩
def qU : Rep K Unit := ⟨fun _ v _ => v = .non, fun _ h => h⟩
def qOpt {α : Type} (τ : Rep K α) : Rep K (Option α) := ⟨fun H v x => match x with | none => v = .non | some y => v ≠ .non ∧ τ.R H v y, fun {H H' v x} e h => by
  cases x with
  | none => exact h
  | some y => exact ⟨h.1, τ.mono e h.2⟩⟩
def qT2 {α β : Type} (τ : Rep K α) (υ : Rep K β) : Rep K (α × β) := ⟨fun H v x => ∃ a w1 w2, v = .ref a ∧ H a = some (.tup [w1, w2]) ∧ τ.R H w1 x.1 ∧ υ.R H w2 x.2, fun {H H' v x} e h => by
  obtain ⟨a, w1, w2, h1, h2, h3, h4⟩ := h
  exact ⟨a, w1, w2, h1, e _ _ h2, τ.mono e h3, υ.mono e h4⟩⟩
def qT3 {α β γ : Type} (τ : Rep K α) (υ : Rep K β) (φ : Rep K γ) : Rep K (α × β × γ) := ⟨fun H v x => ∃ a w1 w2 w3, v = .ref a ∧ H a = some (.tup [w1, w2, w3]) ∧ τ.R H w1 x.1 ∧ υ.R H w2 x.2.1 ∧ φ.R H w3 x.2.2, fun {H H' v x} e h => by
  obtain ⟨a, w1, w2, w3, h1, h2, h3, h4, h5⟩ := h
  exact ⟨a, w1, w2, w3, h1, e _ _ h2, τ.mono e h3, υ.mono e h4, φ.mono e h5⟩⟩
/-- a list that is tracked -/
def qL {α : Type} (τ : Rep K α) : Rep K (List α) := ⟨fun H v x => ∃ a ws, v = .ref a ∧ H a = some (.lst ws) ∧ RL τ H ws x, fun {H H' v x} e h => by
  obtain ⟨a, ws, h1, h2, h3⟩ := h
  exact ⟨a, ws, h1, e _ _ h2, RL.mono e h3⟩⟩
/-- a list that is to be read (the script) -/
def qQ {α : Type} (τ : Rep K α) : Rep K (List α) := ⟨fun H v x => ∃ a ws, v = .ref a ∧ SqL K H a ws ∧ RL τ H ws x, fun {H H' v x} e h => by
  obtain ⟨a, ws, h1, h2, h3⟩ := h
  exact ⟨a, ws, h1, e.seq h2, RL.mono e h3⟩⟩
theorem qL_qQ {α : Type} {τ : Rep K α} {H : Hp} {v : V} {x : List α} (h : (qL τ).R H v x) : (qQ τ).R H v x := by
  obtain ⟨a, ws, h1, h2, h3⟩ := h
  exact ⟨a, ws, h1, SqL.of h2, h3⟩
end

/-! ### heaps: S what stands for good, H the whole; L the lists that a def may change -/
/-- what may change -/
def mo : HO → Bool
  | .tup _ => false
  | _ => true
structure Grow (L : List Addr) (S0 H0 S H : Hp) : Prop where
  ss : Same S0 S
  sh : Same S H
  hh : ∀ a o, a ∉ L → H0 a = some o → H a = some o
  fr : ∀ a o, S0 a = none → H0 a = some o → mo o = true → S a = none
  ne : ∀ a o, H0 a = some o → ∃ o', H a = some o' ∧ (mo o = true → mo o' = true)
/-- a cell: an object that may change -/
structure Cel (L : List Addr) (H0 S H : Hp) (l : Addr) (o : HO) : Prop where
  h : H l = some o
  s : S l = none
  z : H0 l = none ∨ l ∈ L
  m : mo o = true
section
variable {L L' : List Addr} {S0 H0 S H S' H' : Hp} {p l l' : Addr} {o o' : HO}
theorem sne {x : HO} {H : Hp} {a : Addr} (h : H a = some x) : H a ≠ none := by rw [h]; exact fun q => by cases q
theorem Grow.refl (h : Same S H) : Grow L S H S H := ⟨Same.refl _, h, fun _ _ _ e => e, fun _ _ e _ _ => e, fun _ o e => ⟨o, e, id⟩⟩
theorem Grow.ext (g : Grow L S0 H0 S H) (e : Same H H') : Grow L S0 H0 S H' :=
  ⟨g.ss, g.sh.trans e, fun a o hl ha => e _ _ (g.hh a o hl ha), g.fr, fun a o ha => by
    obtain ⟨o', h1, h2⟩ := g.ne a o ha
    exact ⟨o', e _ _ h1, h2⟩⟩
theorem Grow.snone (g : Grow L S0 H0 S H) (hp : H p = none) : S p = none := g.sh.free hp
theorem Grow.hnone (g : Grow L S0 H0 S H) (hp : H p = none) : H0 p = none := by
  cases z : H0 p with
  | none => rfl
  | some x =>
    obtain ⟨o', h1, _⟩ := g.ne p x z
    rw [hp] at h1; cases h1
theorem Grow.imm (g : Grow L S0 H0 S H) (hp : H p = none) : Grow L S0 H0 (upd S p o) (upd H p o) where
  ss := fun a x e => by rw [upd_ne (ne_of_none (g.ss a x e) (g.snone hp))]; exact g.ss a x e
  sh := fun a x e => by
    by_cases h : a = p
    · subst h
      rw [upd_same] at e ⊢
      exact e
    · rw [upd_ne h] at e ⊢
      exact g.sh a x e
  hh := fun a x hl e => by rw [upd_ne (ne_of_none (g.hh a x hl e) hp)]; exact g.hh a x hl e
  fr := fun a x e h m => by
    have n : a ≠ p := fun q => by subst q; rw [g.hnone hp] at h; cases h
    rw [upd_ne n]
    exact g.fr a x e h m
  ne := fun a x h => by
    have n : a ≠ p := fun q => by subst q; rw [g.hnone hp] at h; cases h
    rw [upd_ne n]; exact g.ne a x h
theorem Grow.cell (g : Grow L S0 H0 S H) (hp : H p = none) : Grow L S0 H0 S (upd H p o) := g.ext fun a x e => by rw [upd_ne (ne_of_none e hp)]; exact e
/-- a tuple that stands may be kept for good -/
theorem Grow.tup (g : Grow L S0 H0 S H) {ws : List V} (hp : H p = some (.tup ws)) : Grow L S0 H0 (upd S p (.tup ws)) H where
  ss := fun a x e => by
    by_cases h : a = p
    · subst h
      have q := g.sh _ _ (g.ss _ _ e)
      rw [hp] at q; cases q
      exact upd_same
    · rw [upd_ne h]; exact g.ss a x e
  sh := fun a x e => by
    by_cases h : a = p
    · subst h; rw [upd_same] at e; cases e; exact hp
    · rw [upd_ne h] at e; exact g.sh a x e
  hh := g.hh
  fr := fun a x e h m => by
    have n : a ≠ p := fun q => by
      subst q
      obtain ⟨o', h1, h2⟩ := g.ne _ _ h
      rw [hp] at h1; cases h1
      exact absurd (h2 m) Bool.false_ne_true
    rw [upd_ne n]; exact g.fr a x e h m
  ne := g.ne
theorem Grow.wr (g : Grow L S0 H0 S H) (c : Cel L H0 S H l o') (hm : mo o = true) : Grow L S0 H0 S (upd H l o) where
  ss := g.ss
  sh := fun a x e => by
    have n : a ≠ l := fun q => by subst q; rw [c.s] at e; cases e
    rw [upd_ne n]
    exact g.sh a x e
  hh := fun a x hl e => by
    have n : a ≠ l := fun q => by
      subst q
      rcases c.z with z | z
      · rw [z] at e; cases e
      · exact hl z
    rw [upd_ne n]
    exact g.hh a x hl e
  fr := g.fr
  ne := fun a x h => by
    by_cases q : a = l
    · subst q; exact ⟨o, upd_same, fun _ => hm⟩
    · rw [upd_ne q]; exact g.ne a x h
theorem Grow.call (g : Grow L S0 H0 S H) (c : Grow L' S H S' H') (hL : ∀ l ∈ L', H0 l = none ∨ l ∈ L) : Grow L S0 H0 S' H' where
  ss := g.ss.trans c.ss
  sh := c.sh
  hh := fun a x hl e => c.hh a x (fun q => by
    rcases hL a q with z | z
    · rw [z] at e; cases e
    · exact hl z) (g.hh a x hl e)
  fr := fun a x e h m => by
    obtain ⟨o', h1, h2⟩ := g.ne a x h
    exact c.fr a o' (g.fr a x e h m) h1 (h2 m)
  ne := fun a x h => by
    obtain ⟨o', h1, h2⟩ := g.ne a x h
    obtain ⟨o2, h3, h4⟩ := c.ne a o' h1
    exact ⟨o2, h3, fun m => h4 (h2 m)⟩
theorem Grow.call0 (g : Grow L S0 H0 S H) (c : Grow [] S H S' H') : Grow L S0 H0 S' H' := g.call c fun _ q => by cases q
theorem Grow.same0 (c : Grow [] S H S' H') : Same H H' := fun a o e => c.hh a o (fun q => by cases q) e
/-- a cell that is not to change any more -/
theorem Grow.freeze (g : Grow L S0 H0 S H) (c : Cel L H0 S H l o) (hl : H0 l = none) : Grow L S0 H0 (upd S l o) H where
  ss := fun a x e => by
    have q := g.ss a x e
    rw [upd_ne (ne_of_none q c.s)]; exact q
  sh := fun a x e => by
    by_cases h : a = l
    · subst h; rw [upd_same] at e; cases e; exact c.h
    · rw [upd_ne h] at e; exact g.sh a x e
  hh := g.hh
  fr := fun a x e h m => by
    have n : a ≠ l := fun q => by subst q; rw [hl] at h; cases h
    rw [upd_ne n]
    exact g.fr a x e h m
  ne := g.ne
theorem Cel.own (g : Grow L S0 H0 S H) (e : Same H H') (hp : H p = none) (hp' : H' p = some o) (hm : mo o = true) : Cel L H0 S H' p o := ⟨hp', g.snone hp, .inl (g.hnone hp), hm⟩
theorem Cel.ext (c : Cel L H0 S H l o) (e : Same H H') : Cel L H0 S H' l o := ⟨e _ _ c.h, c.s, c.z, c.m⟩
theorem Cel.wr (c : Cel L H0 S H l o) (hm : mo o' = true) : Cel L H0 S (upd H l o') l o' := ⟨upd_same, c.s, c.z, hm⟩
theorem Cel.wrn (c : Cel L H0 S H l o) (n : l ≠ l') : Cel L H0 S (upd H l' o') l o := ⟨by rw [upd_ne n]; exact c.h, c.s, c.z, c.m⟩
theorem Cel.call (c : Cel L H0 S H l o) (g : Grow L' S H S' H') (n : l ∉ L') : Cel L H0 S' H' l o := ⟨g.hh _ _ n c.h, g.fr _ _ c.s c.h c.m, c.z, c.m⟩
theorem Cel.call0 (c : Cel L H0 S H l o) (g : Grow [] S H S' H') : Cel L H0 S' H' l o := c.call g fun q => by cases q
theorem Cel.mut (c : Cel L H0 S H l o) (g : Grow L' S H S' H') (h : H' l = some o') (hm : mo o' = true) : Cel L H0 S' H' l o' := ⟨h, g.fr _ _ c.s c.h c.m, c.z, hm⟩
theorem Cel.freeze (c : Cel L H0 S H l o) (n : l ≠ l') : Cel L H0 (upd S l' o') H l o := ⟨c.h, by rw [upd_ne n]; exact c.s, c.z, c.m⟩
theorem Cel.ne (c : Cel L H0 S H l o) (hp : H p = none) : l ≠ p := ne_of_none c.h hp
theorem Cel.z0 (c : Cel [] H0 S H l o) : H0 l = none := c.z.elim id fun q => by cases q
theorem same_upd {H : Hp} {p : Addr} {o : HO} (h : H p = none) : Same H (upd H p o) := fun b x e => by
  rw [upd_ne (ne_of_none e h)]
  exact e
end
end Z

namespace Z
open PySem PySem.Spec PyProof.Rows L2

/-! ### the mirror's words -/
def lt {α β : Type} (e : α) (k : α → Option β) : Option β := k e
theorem OP.lt {α β : Type} {e : α} {k : α → Option β} {A : β → Prop} (h : OP (Z.lt e k) A) : ∃ x, e = x ∧ OP (k x) A := ⟨e, rfl, h⟩
theorem lt_some {α β : Type} {e : α} {k : α → Option β} {r : β} (h : Z.lt e k = some r) : ∃ x, e = x ∧ k x = some r := ⟨e, rfl, h⟩
theorem OP.cut {α β : Type} {m : Option α} {k : α → Option β} {A : β → Prop} (h : OP (m.bind k) A) : ∃ B : α → Prop, OP m B ∧ ∀ x, B x → OP (k x) A := ⟨_, OP.of h, fun _ z => z⟩
/-- an early answer, or what follows -/
def SE {σ ρ : Type} (B : σ → Prop) (A : ρ → Prop) : σ ⊕ ρ → Prop
  | .inl s => B s
  | .inr v => A v
def brk {σ ρ : Type} (m : Option (σ ⊕ ρ)) (k : σ → Option ρ) : Option ρ := m.bind fun r => match r with
  | .inl s => k s
  | .inr v => some v
theorem OP.brk {σ ρ : Type} {m : Option (σ ⊕ ρ)} {k : σ → Option ρ} {A : ρ → Prop} (h : OP (Z.brk m k) A) : ∃ B : σ → Prop, OP m (SE B A) ∧ ∀ x, B x → OP (k x) A := by
  refine ⟨fun x => OP (k x) A, ?_, fun _ z => z⟩
  cases m with
  | none => exact h.elim
  | some r => cases r with
    | inl s => exact h
    | inr v => exact h
def un2 {α β γ : Type} (f : α → β → γ) (s : α × β) : γ := f s.1 s.2
def un3 {α β γ δ : Type} (f : α → β → γ → δ) (s : α × β × γ) : δ := f s.1 s.2.1 s.2.2
def un4 {α β γ δ ε : Type} (f : α → β → γ → δ → ε) (s : α × β × γ × δ) : ε := f s.1 s.2.1 s.2.2.1 s.2.2.2
def un5 {α β γ δ ε ζ : Type} (f : α → β → γ → δ → ε → ζ) (s : α × β × γ × δ × ε) : ζ := f s.1 s.2.1 s.2.2.1 s.2.2.2.1 s.2.2.2.2
def un6 {α β γ δ ε ζ η : Type} (f : α → β → γ → δ → ε → ζ → η) (s : α × β × γ × δ × ε × ζ) : η := f s.1 s.2.1 s.2.2.1 s.2.2.2.1 s.2.2.2.2.1 s.2.2.2.2.2
def un0 {γ : Type} (f : γ) (_ : Unit) : γ := f
theorem OP.un0 {γ : Type} {f : Option γ} {u : Unit} {A : γ → Prop} (h : OP (Z.un0 f u) A) : OP f A := h
theorem OP.un2 {α β γ : Type} {f : α → β → Option γ} {a : α} {b : β} {A : γ → Prop} (h : OP (Z.un2 f (a, b)) A) : OP (f a b) A := h
theorem OP.un3 {α β γ δ : Type} {f : α → β → γ → Option δ} {a : α} {b : β} {c : γ} {A : δ → Prop} (h : OP (Z.un3 f (a, b, c)) A) : OP (f a b c) A := h
theorem OP.un4 {α β γ δ ε : Type} {f : α → β → γ → δ → Option ε} {a : α} {b : β} {c : γ} {d : δ} {A : ε → Prop} (h : OP (Z.un4 f (a, b, c, d)) A) : OP (f a b c d) A := h
theorem OP.un5 {α β γ δ ε ζ : Type} {f : α → β → γ → δ → ε → Option ζ} {a : α} {b : β} {c : γ} {d : δ} {e : ε} {A : ζ → Prop} (h : OP (Z.un5 f (a, b, c, d, e)) A) : OP (f a b c d e) A := h
theorem OP.un6 {α β γ δ ε ζ η : Type} {f : α → β → γ → δ → ε → ζ → Option η} {a : α} {b : β} {c : γ} {d : δ} {e : ε} {z : ζ} {A : η → Prop} (h : OP (Z.un6 f (a, b, c, d, e, z)) A) : OP (f a b c d e z) A := h
theorem OP.ite1 {α : Type} {c : Bool} {m n : Option α} {A : α → Prop} (hc : c = true) (h : OP (ifo c m n) A) : OP m A := by rw [ifo_t hc] at h; exact h
theorem OP.ite0 {α : Type} {c : Bool} {m n : Option α} {A : α → Prop} (hc : c = false) (h : OP (ifo c m n) A) : OP n A := by rw [ifo_f hc] at h; exact h
theorem OP.forO {α σ : Type} {body : α → σ → Option σ} {x : α} {xs : List α} {s : σ} {A : σ → Prop} (h : OP (Z.forO body (x :: xs) s) A) : OP (body x s) (fun s' => OP (Z.forO body xs s') A) := by
  rw [forO_cons] at h
  exact OP.of h
theorem OP.forO_nil {α σ : Type} {body : α → σ → Option σ} {s : σ} {A : σ → Prop} (h : OP (Z.forO body [] s) A) : A s := by
  rw [Z.forO_nil] at h
  exact h
theorem OP.forR {α σ ρ : Type} {body : α → σ → Option (σ ⊕ ρ)} {x : α} {xs : List α} {s : σ} {B : σ → Prop} {A : ρ → Prop} (h : OP (Z.forR body (x :: xs) s) (SE B A)) : OP (body x s) (SE (fun s' => OP (Z.forR body xs s') (SE B A)) A) := by
  rw [forR_cons] at h
  have q := OP.of h
  cases e : body x s with
  | none => rw [e] at q; exact q.elim
  | some r =>
    rw [e] at q
    cases r with
    | inl s' => exact q
    | inr v => exact q
theorem OP.forR_nil {α σ ρ : Type} {body : α → σ → Option (σ ⊕ ρ)} {s : σ} {B : σ → Prop} {A : ρ → Prop} (h : OP (Z.forR body [] s) (SE B A)) : B s := by
  rw [Z.forR_nil] at h
  exact h
theorem OP.whileO {σ : Type} {c : σ → Option Bool} {body : σ → Option σ} {n : Nat} {s : σ} {A : σ → Prop} (h : OP (Z.whileO c body n s) A) :
    ∃ n', n = n' + 1 ∧ OP (c s) (fun b => if b = true then OP (body s) (fun s' => OP (Z.whileO c body n' s') A) else A s) := by
  cases n with
  | zero => rw [whileO_zero] at h; exact h.elim
  | succ n' =>
    refine ⟨n', rfl, ?_⟩
    rw [whileO_succ] at h
    have q := OP.of h
    refine q.mono fun b z => ?_
    cases b with
    | true => exact OP.of z
    | false => exact z
theorem OP.whileR {σ ρ : Type} {c : σ → Option Bool} {body : σ → Option (σ ⊕ ρ)} {n : Nat} {s : σ} {B : σ → Prop} {A : ρ → Prop} (h : OP (Z.whileR c body n s) (SE B A)) :
    ∃ n', n = n' + 1 ∧ OP (c s) (fun b => if b = true then OP (body s) (SE (fun s' => OP (Z.whileR c body n' s') (SE B A)) A) else B s) := by
  cases n with
  | zero => rw [whileR_zero] at h; exact h.elim
  | succ n' =>
    refine ⟨n', rfl, ?_⟩
    rw [whileR_succ] at h
    have q := OP.of h
    refine q.mono fun b z => ?_
    cases b with
    | true =>
      have z' := OP.of z
      show OP (body s) _
      refine z'.mono fun r y => ?_
      cases r with
      | inl s' => exact y
      | inr v => exact y
    | false => exact z
@[irreducible] def bigN : Nat := 1000000
theorem bigN_eq : bigN = 1000000 := by unfold bigN; rfl

/-! ### ints -/
abbrev shl (i j : Int) : Int := i * 2 ^ j.toNat
abbrev shr (i j : Int) : Int := i / 2 ^ j.toNat
abbrev band (i j : Int) : Int := Builtin.bitAnd i j
abbrev bor (i j : Int) : Int := Builtin.bitOr i j
abbrev bxor (i j : Int) : Int := Builtin.bitXor i j
abbrev bnot (i : Int) : Int := Builtin.bitNot i
def blen (i : Int) : Int := ((Builtin.Int.intBits i : Nat) : Int)

/-! ### values of expressions that leave the heap as it is -/
section
variable {K : PySem.W.Frag} {σ σ' : L2.St} {H : Hp} {ta tb te : TE} {t u : TT} {x y z v : V} {i j : Int} {b c : Bool}
theorem v_eq {v w : V} (h : Val te σ H v) (e : v = w) : Val te σ H w := e ▸ h
theorem v_o2 {g : Int → Int → V} (ha : Val ta σ H (.int i)) (hb : Val tb σ H (.int j)) : Val (tOp (rI0 g) ta tb) σ H (g i j) := fun Q q => ha _ (hb _ ⟨i, j, rfl, rfl, q⟩)
theorem v_o2c {C : Int → Int → Prop} {g : Int → Int → V} (ha : Val ta σ H (.int i)) (hb : Val tb σ H (.int j)) (hc : C i j) : Val (tOp (rI C g) ta tb) σ H (g i j) := fun Q q => ha _ (hb _ ⟨i, j, rfl, rfl, hc, q⟩)
theorem v_u {g : Int → V} (ha : Val ta σ H (.int i)) : Val (tUn (rU g) ta) σ H (g i) := fun Q q => ha _ ⟨i, rfl, q⟩
theorem dec_int : decide (V.int i = V.int j) = decide (i = j) := decide_eq_decide.mpr ⟨V.int.inj, fun e => by rw [e]⟩
theorem dec_str {s t : Str} : decide (V.str s = V.str t) = decide (s = t) := decide_eq_decide.mpr ⟨V.str.inj, fun e => by rw [e]⟩
theorem dec_bl : decide (V.bl b = V.bl c) = decide (b = c) := decide_eq_decide.mpr ⟨V.bl.inj, fun e => by rw [e]⟩
theorem v_eqI (ha : Val ta σ H (.int i)) (hb : Val tb σ H (.int j)) : Val (tOp rEq ta tb) σ H (.bl (decide (i = j))) := fun Q q => ha _ (hb _ ⟨rfl, by rw [dec_int]; exact q⟩)
theorem v_neI (ha : Val ta σ H (.int i)) (hb : Val tb σ H (.int j)) : Val (tOp rNe ta tb) σ H (.bl (!decide (i = j))) := fun Q q => ha _ (hb _ ⟨rfl, by rw [dec_int]; exact q⟩)
theorem v_eqS {s t : Str} (ha : Val ta σ H (.str s)) (hb : Val tb σ H (.str t)) : Val (tOp rEq ta tb) σ H (.bl (decide (s = t))) := fun Q q => ha _ (hb _ ⟨rfl, by rw [dec_str]; exact q⟩)
theorem v_neS {s t : Str} (ha : Val ta σ H (.str s)) (hb : Val tb σ H (.str t)) : Val (tOp rNe ta tb) σ H (.bl (!decide (s = t))) := fun Q q => ha _ (hb _ ⟨rfl, by rw [dec_str]; exact q⟩)
theorem v_eqB (ha : Val ta σ H (.bl b)) (hb : Val tb σ H (.bl c)) : Val (tOp rEq ta tb) σ H (.bl (decide (b = c))) := fun Q q => ha _ (hb _ ⟨rfl, by rw [dec_bl]; exact q⟩)
theorem v_neB (ha : Val ta σ H (.bl b)) (hb : Val tb σ H (.bl c)) : Val (tOp rNe ta tb) σ H (.bl (!decide (b = c))) := fun Q q => ha _ (hb _ ⟨rfl, by rw [dec_bl]; exact q⟩)
theorem v_test (h : Val te σ H (.bl b)) : Ans (tTest te) σ H b := fun Q q => h _ ⟨b, rfl, q⟩
theorem v_B (h : Val te σ H (.bl b)) : Ans (tB te) σ H b := fun Q q => h _ ⟨b, rfl, q⟩
theorem a_eq (h : Ans t σ H b) (e : b = c) : Ans t σ H c := e ▸ h
theorem a_not (h : Ans t σ H b) : Ans (tNot t) σ H (!b) := fun Q q => h _ q
theorem a_and (h1 : Ans t σ H b) (h2 : Ans u σ H c) : Ans (tAnd t u) σ H (b && c) := fun Q q => h1 _ (by
  cases b with
  | true => exact (show (if true = true then u σ H Q else Q false H) from h2 _ q)
  | false => exact (show (if false = true then u σ H Q else Q false H) from q))
theorem a_or (h1 : Ans t σ H b) (h2 : Ans u σ H c) : Ans (tOr t u) σ H (b || c) := fun Q q => h1 _ (by
  cases b with
  | true => exact (show (if true = true then Q true H else u σ H Q) from q)
  | false => exact (show (if false = true then Q true H else u σ H Q) from h2 _ q))
theorem a_andP {m : Option Bool} (h1 : Ans t σ H b) (hm : ifo b m (some false) = some c) (h2 : b = true → m = some c → Ans u σ H c) : Ans (tAnd t u) σ H c := fun Q q => h1 _ (by
  cases b with
  | true => exact (show (if true = true then u σ H Q else Q false H) from h2 rfl (by first | (rw [ifo_t rfl] at hm; exact hm) | (rw [ifo_f rfl] at hm; exact hm)) _ q)
  | false =>
    have e : false = c := by rw [ifo_f rfl] at hm; exact Option.some.inj hm
    subst e
    exact (show (if false = true then u σ H Q else Q false H) from q))
theorem a_orP {m : Option Bool} (h1 : Ans t σ H b) (hm : ifo b (some true) m = some c) (h2 : b = false → m = some c → Ans u σ H c) : Ans (tOr t u) σ H c := fun Q q => h1 _ (by
  cases b with
  | true =>
    have e : true = c := by rw [ifo_t rfl] at hm; exact Option.some.inj hm
    subst e
    exact (show (if true = true then Q true H else u σ H Q) from q)
  | false => exact (show (if false = true then Q true H else u σ H Q) from h2 rfl (by first | (rw [ifo_t rfl] at hm; exact hm) | (rw [ifo_f rfl] at hm; exact hm)) _ q))
theorem v_and (h1 : Val ta σ H (.bl b)) (h2 : Val tb σ H (.bl c)) : Val (tAndV ta tb) σ H (.bl (b && c)) := fun Q q => h1 _ ⟨b, rfl, by
  cases b with
  | true => exact (show (if true = true then tb σ H Q else Q (.bl false) H) from h2 _ q)
  | false => exact (show (if false = true then tb σ H Q else Q (.bl false) H) from q)⟩
theorem v_or (h1 : Val ta σ H (.bl b)) (h2 : Val tb σ H (.bl c)) : Val (tOrV ta tb) σ H (.bl (b || c)) := fun Q q => h1 _ ⟨b, rfl, by
  cases b with
  | true => exact (show (if true = true then Q (.bl true) H else tb σ H Q) from q)
  | false => exact (show (if false = true then Q (.bl true) H else tb σ H Q) from h2 _ q)⟩
theorem v_not (h : Val ta σ H (.bl b)) : Val (tNotV ta) σ H (.bl (!b)) := fun Q q => h _ ⟨b, rfl, q⟩
theorem v_andP {m : Option Bool} (h1 : Val ta σ H (.bl b)) (hm : ifo b m (some false) = some c) (h2 : b = true → m = some c → Val tb σ H (.bl c)) : Val (tAndV ta tb) σ H (.bl c) := fun Q q => h1 _ ⟨b, rfl, by
  cases b with
  | true => exact (show (if true = true then tb σ H Q else Q (.bl false) H) from h2 rfl (by first | (rw [ifo_t rfl] at hm; exact hm) | (rw [ifo_f rfl] at hm; exact hm)) _ q)
  | false =>
    have e : false = c := by rw [ifo_f rfl] at hm; exact Option.some.inj hm
    subst e
    exact (show (if false = true then tb σ H Q else Q (.bl false) H) from q)⟩
theorem v_orP {m : Option Bool} (h1 : Val ta σ H (.bl b)) (hm : ifo b (some true) m = some c) (h2 : b = false → m = some c → Val tb σ H (.bl c)) : Val (tOrV ta tb) σ H (.bl c) := fun Q q => h1 _ ⟨b, rfl, by
  cases b with
  | true =>
    have e : true = c := by rw [ifo_t rfl] at hm; exact Option.some.inj hm
    subst e
    exact (show (if true = true then Q (.bl true) H else tb σ H Q) from q)
  | false => exact (show (if false = true then Q (.bl true) H else tb σ H Q) from h2 rfl (by first | (rw [ifo_t rfl] at hm; exact hm) | (rw [ifo_f rfl] at hm; exact hm)) _ q)⟩
/-- t[0], t[1] of a pair, xs[i] -/
theorem v_t20 {β : Type} {υ : Rep K β} {p : Int × β} (ha : Val ta σ H v) (hb : Val tb σ H (.int 0)) (hr : (qT2 qI υ).R H v p) : Val (tOp (rIxT K) ta tb) σ H (.int p.1) := by
  obtain ⟨a, w1, w2, rfl, h2, h3, _⟩ := hr
  cases (show w1 = .int p.1 from h3)
  exact fun Q q => ha _ (hb _ ⟨a, _, 0, _, rfl, rfl, SqT.of h2, rfl, q⟩)
theorem v_t21 {α : Type} {τ : Rep K α} {p : α × Int} (ha : Val ta σ H v) (hb : Val tb σ H (.int 1)) (hr : (qT2 τ qI).R H v p) : Val (tOp (rIxT K) ta tb) σ H (.int p.2) := by
  obtain ⟨a, w1, w2, rfl, h2, _, h3⟩ := hr
  cases (show w2 = .int p.2 from h3)
  exact fun Q q => ha _ (hb _ ⟨a, _, 1, _, rfl, rfl, SqT.of h2, rfl, q⟩)
theorem atI_get {α β : Type} {R : α → β → Prop} {ws : List α} {xs : List β} {k : Int} {x : β} (hl : ws.length = xs.length) (hg : ∀ (j : Nat), xs[j]? = some x → ∃ w, ws[j]? = some w ∧ R w x) (h : atI xs k = some x) : ∃ w, atI ws k = some w ∧ R w x := by
  unfold atI at h ⊢
  rw [hl]
  cases e : ixN xs.length k with
  | none => rw [e] at h; cases h
  | some j => rw [e] at h; exact hg j h
theorem RL.at {α : Type} {τ : Rep K α} {ws : List V} {xs : List α} {k : Int} {x : α} (r : RL τ H ws xs) (h : atI xs k = some x) : ∃ w, atI ws k = some w ∧ τ.R H w x := atI_get r.length (fun _ e => r.get e) h
theorem v_ixq {α : Type} {τ : Rep K α} {xs : List α} {q : α} (ha : Val ta σ H v) (hb : Val tb σ H (.int i)) (hr : (qQ τ).R H v xs) (hx : atI xs i = some q) : ∃ w, Val (tOp (rIxL K) ta tb) σ H w ∧ τ.R H w q := by
  obtain ⟨a, ws, rfl, h2, h3⟩ := hr
  obtain ⟨w, e, r⟩ := h3.at hx
  exact ⟨w, fun Q z => ha _ (hb _ ⟨a, ws, i, w, rfl, rfl, h2, e, z⟩), r⟩
theorem v_ixI {xs : List Int} {q : Int} (ha : Val ta σ H v) (hb : Val tb σ H (.int i)) (hr : (qQ (K := K) qI).R H v xs) (hx : atI xs i = some q) : Val (tOp (rIxL K) ta tb) σ H (.int q) := by
  obtain ⟨w, h, r⟩ := v_ixq ha hb hr hx
  cases (show w = .int q from r)
  exact h
theorem v_ixB {xs : List Bool} {q : Bool} (ha : Val ta σ H v) (hb : Val tb σ H (.int i)) (hr : (qQ (K := K) qB).R H v xs) (hx : atI xs i = some q) : Val (tOp (rIxL K) ta tb) σ H (.bl q) := by
  obtain ⟨w, h, r⟩ := v_ixq ha hb hr hx
  cases (show w = .bl q from r)
  exact h
theorem v_ixS {xs : List Str} {q : Str} (ha : Val ta σ H v) (hb : Val tb σ H (.int i)) (hr : (qQ (K := K) qS).R H v xs) (hx : atI xs i = some q) : Val (tOp (rIxL K) ta tb) σ H (.str q) := by
  obtain ⟨w, h, r⟩ := v_ixq ha hb hr hx
  cases (show w = .str q from r)
  exact h
/-- what a list's length, a tuple's length tells -/
def rLenS (K : PySem.W.Frag) : List V → Hp → VK → Prop := fun xs H Q => ∃ p ys, xs = [.ref p] ∧ (SqL K H p ys ∨ SqT K H p ys) ∧ Q (.int ys.length) H
theorem v_len {α : Type} {τ : Rep K α} {xs : List α} (ha : Val ta σ H v) (hr : (qQ τ).R H v xs) : Val (tCB (rLenS K) (tCons ta tNil)) σ H (.int (xs.length : Int)) := by
  obtain ⟨a, ws, rfl, h2, h3⟩ := hr
  rw [← h3.length]
  exact fun Q q => ha _ ⟨a, ws, rfl, .inl h2, q⟩
theorem v_lenT2 {α β : Type} {τ : Rep K α} {υ : Rep K β} {p : α × β} (ha : Val ta σ H v) (hr : (qT2 τ υ).R H v p) : Val (tCB (rLenS K) (tCons ta tNil)) σ H (.int 2) := by
  obtain ⟨a, w1, w2, rfl, h2, _⟩ := hr
  exact fun Q q => ha _ ⟨a, _, rfl, .inr (SqT.of h2), q⟩
theorem v_isi {T n : String} {k : Bool} (ha : Val ta σ H x) (ty : TyX K H x (.type T)) (hk : kitB T n = some k) : Val (tCB (rIsi K) (tCons ta (tCons (tC (.ty n)) tNil))) σ H (.bl k) := fun Q q => ha _ ⟨x, .ty n, _, _, k, rfl, .ty n, ty, kit_ty hk, q⟩
theorem ty_int : TyX K H (.int i) (.type "int") := .base (.int i)
theorem ty_bl : TyX K H (.bl b) (.type "bool") := .base (.bl b)
theorem ty_str {s : Str} : TyX K H (.str s) (.type "str") := .base (.str s)
theorem ty_non : TyX K H .non (.type "NoneType") := .base .non
theorem ty_t2 {α β : Type} {τ : Rep K α} {υ : Rep K β} {p : α × β} (hr : (qT2 τ υ).R H v p) : TyX K H v (.type "tuple") := by
  obtain ⟨a, w1, w2, rfl, h2, _⟩ := hr
  exact .base (.tup h2)
theorem ty_t3 {α β γ : Type} {τ : Rep K α} {υ : Rep K β} {φ : Rep K γ} {p : α × β × γ} (hr : (qT3 τ υ φ).R H v p) : TyX K H v (.type "tuple") := by
  obtain ⟨a, w1, w2, w3, rfl, h2, _⟩ := hr
  exact .base (.tup h2)
theorem ty_l {α : Type} {τ : Rep K α} {xs : List α} (hr : (qL τ).R H v xs) : TyX K H v (.type "list") := by
  obtain ⟨a, ws, rfl, h2, _⟩ := hr
  exact .base (.lst h2)
/-- arguments -/
def VA (ta : TA) (σ : L2.St) (H : Hp) (vs : List V) : Prop := ∀ Q : List V → Hp → Prop, Q vs H → ta σ H Q
theorem va_nil : VA tNil σ H [] := fun _ q => q
theorem va_cons {tr : TA} {vs : List V} (ha : Val ta σ H x) (hr : VA tr σ H vs) : VA (tCons ta tr) σ H (x :: vs) := fun _ q => ha _ (hr _ q)
theorem v_call {sp : Sp} {dvs vs : List V} {E : XK} {tr : TA} (ha : VA tr σ H vs) (hs : ∀ Q : VK, Q z H → sp (vs ++ dvs) H Q E) : Val (tCall sp dvs E tr) σ H z := fun Q q => ha _ (hs Q q)
theorem v_cb {r : List V → Hp → VK → Prop} {vs : List V} {tr : TA} (ha : VA tr σ H vs) (hs : ∀ Q : VK, Q z H → r vs H Q) : Val (tCB r tr) σ H z := fun Q q => ha _ (hs Q q)
theorem v_bits (ha : Val ta σ H (.int i)) : Val (tBits ta) σ H (.int (blen i)) := fun Q q => ha _ ⟨i, rfl, q⟩
theorem v_isN (ha : Val ta σ H x) (e : decide (x = .non) = b) : Val (tOp rIsN ta (tC .non)) σ H (.bl b) := fun Q q => ha _ ⟨rfl, by rw [e]; exact q⟩
theorem v_notN (ha : Val ta σ H x) (e : (!decide (x = .non)) = b) : Val (tOp rNotN ta (tC .non)) σ H (.bl b) := fun Q q => ha _ ⟨rfl, by rw [e]; exact q⟩
theorem opt_dec {α : Type} {τ : Rep K α} {o : Option α} (hr : (qOpt τ).R H v o) : decide (v = .non) = o.isNone := by
  cases o with
  | none => exact decide_eq_true hr
  | some y => exact decide_eq_false hr.1
theorem opt_decN {α : Type} {τ : Rep K α} {o : Option α} (hr : (qOpt τ).R H v o) : (!decide (v = .non)) = o.isSome := by
  rw [opt_dec hr]
  cases o <;> rfl
theorem opt_get {α : Type} {τ : Rep K α} {o : Option α} {y : α} (hr : (qOpt τ).R H v o) (e : o = some y) : τ.R H v y := by
  subst e
  exact hr.2

/-! ### statements -/
variable {D : Ends} {t1 t2 ts tu : TS} {w : V} {k n : Nat}
theorem z_next (q : D.nx σ H) : tNext D σ H := q
theorem z_set (hv : Val te σ H v) (he : v = w) (hs : σ.set k (some w) = σ') (q : tu D σ' H) : tSeq (tAsg te (gName k)) tu D σ H := hv _ (by
  subst he; subst hs
  exact q)
theorem z_aug {ti : TIp} (hx : σ[k]? = some (some x)) (hv : Val te σ H y) (hr : ∀ Q : VK, Q v H → ti x y H Q) (he : v = w) (hs : σ.set k (some w) = σ') (q : tu D σ' H) : tSeq (tAug k te ti) tu D σ H := by
  subst he; subst hs
  exact ⟨x, hx, hv _ (hr _ q)⟩
theorem z_augI {g : Int → Int → V} (hx : σ[k]? = some (some (.int i))) (hv : Val te σ H (.int j)) (he : g i j = w) (hs : σ.set k (some w) = σ') (q : tu D σ' H) : tSeq (tAug k te (rI0 g)) tu D σ H :=
  z_aug hx hv (fun _ q => ⟨i, j, rfl, rfl, q⟩) he hs q
theorem z_augC {C : Int → Int → Prop} {g : Int → Int → V} (hx : σ[k]? = some (some (.int i))) (hv : Val te σ H (.int j)) (hc : C i j) (he : g i j = w) (hs : σ.set k (some w) = σ') (q : tu D σ' H) : tSeq (tAug k te (rI C g)) tu D σ H :=
  z_aug hx hv (fun _ q => ⟨i, j, rfl, rfl, hc, q⟩) he hs q
theorem z_ret (hv : Val te σ H v) (q : D.rt v H) : tSeq (tRet te) tu D σ H := hv _ q
theorem z_if {c : Bool} {tc : TT} (hc : Ans tc σ H c) (h1 : c = true → t1 { D with nx := tu D } σ H) (h2 : c = false → t2 { D with nx := tu D } σ H) : tSeq (tIfS tc t1 t2) tu D σ H := hc _ (by
  cases c with
  | true => exact (show (if true = true then t1 { D with nx := tu D } σ H else t2 { D with nx := tu D } σ H) from h1 rfl)
  | false => exact (show (if false = true then t1 { D with nx := tu D } σ H else t2 { D with nx := tu D } σ H) from h2 rfl))
theorem z_ifj {c : Bool} {tc : TT} (P : L2.St → Hp → Prop) (hc : Ans tc σ H c) (hP : ∀ σ' H', P σ' H' → tu D σ' H')
    (h1 : c = true → ∀ N : L2.St → Hp → Prop, (∀ σ' H', P σ' H' → N σ' H') → t1 { D with nx := N } σ H) (h2 : c = false → ∀ N : L2.St → Hp → Prop, (∀ σ' H', P σ' H' → N σ' H') → t2 { D with nx := N } σ H) : tSeq (tIfS tc t1 t2) tu D σ H :=
  z_if hc (fun e => h1 e _ hP) (fun e => h2 e _ hP)
theorem rangeI_zero {lo : Int} : rangeI lo 0 = [] := rfl
theorem rangeI_succ {lo : Int} {n : Nat} : rangeI lo (n + 1) = lo :: rangeI (lo + 1) n := by
  unfold rangeI
  rw [List.range_succ_eq_map, List.map_cons, List.map_map]
  congr 1
  · exact Int.add_zero lo
  · refine List.map_congr_left fun a _ => ?_
    show lo + ((a + 1 : Nat) : Int) = lo + 1 + (a : Int)
    omega
/-- the turns over a range, by what is left -/
theorem turns_range {lo : Int} {n : Nat} {g : TG} {tb : TS} (Pv : List Int → L2.St → Hp → Prop) (h0 : Pv (rangeI lo n) σ H)
    (hs : ∀ x xs σ' H', Pv (x :: xs) σ' H' → ∀ N : L2.St → Hp → Prop, (∀ σ'' H'', Pv xs σ'' H'' → N σ'' H'') → g (.int x) σ' H' fun σ2 H2 => tb { D with nx := N, ct := N, bk := D.nx } σ2 H2) (hd : ∀ σ' H', Pv [] σ' H' → D.nx σ' H') :
    ∃ W : Nat → Nat → L2.St → Hp → Prop, (∃ m, W 0 m σ H) ∧ ∀ i m σ H, W i m σ H →
      ((Itr lo n).stop i H ∧ D.nx σ H) ∨ ((Itr lo n).go i H ∧ ∃ N : L2.St → Hp → Prop, (∀ σ' H', N σ' H' → ∃ m', m' < m ∧ W (i + 1) m' σ' H') ∧ ∀ x H', (Itr lo n).yld i H x H' → g x σ H' fun σ2 H2 => tb { D with nx := N, ct := N, bk := D.nx } σ2 H2) := by
  refine for_range (fun i σ H => i ≤ n ∧ Pv (rangeI (lo + (i : Int)) (n - i)) σ H) ⟨Nat.zero_le _, by
    rw [show lo + ((0 : Nat) : Int) = lo from Int.add_zero lo]; exact h0⟩ (fun i σ' H' hi p => ?_) (fun σ' H' p => hd _ _ (by
    have q := p.2
    rw [Nat.sub_self] at q
    exact q))
  have e : n - i = (n - (i + 1)) + 1 := by omega
  have q := p.2
  rw [e, rangeI_succ] at q
  refine hs _ _ σ' H' q _ fun σ'' H'' r => ⟨hi, ?_⟩
  rw [show lo + ((i + 1 : Nat) : Int) = lo + (i : Int) + 1 by omega]
  exact r
theorem z_for1 {ta : TA} {g : TG} {tb : TS} {j : Int} (ha : VA ta σ H [.int j]) (hj : -(2 ^ 62) ≤ j ∧ j < 2 ^ 62) (Pv : List Int → L2.St → Hp → Prop) (h0 : Pv (rangeI 0 j.toNat) σ H)
    (hs : ∀ x xs σ' H', Pv (x :: xs) σ' H' → ∀ N : L2.St → Hp → Prop, (∀ σ'' H'', Pv xs σ'' H'' → N σ'' H'') → g (.int x) σ' H' fun σ2 H2 => tb { D with nx := N, ct := N, bk := tu D } σ2 H2) (hd : ∀ σ' H', Pv [] σ' H' → tu D σ' H') :
    tSeq (tFor (iRng1 ta) g tb) tu D σ H := ha _ ⟨j, rfl, hj.1, hj.2, turns_range (D := { D with nx := tu D }) Pv h0 hs hd⟩
theorem z_for2 {ta : TA} {g : TG} {tb : TS} {i j : Int} (ha : VA ta σ H [.int i, .int j]) (hj : -(2 ^ 62) ≤ i ∧ i < 2 ^ 62 ∧ -(2 ^ 62) ≤ j ∧ j < 2 ^ 62) (Pv : List Int → L2.St → Hp → Prop) (h0 : Pv (rangeI i (j - i).toNat) σ H)
    (hs : ∀ x xs σ' H', Pv (x :: xs) σ' H' → ∀ N : L2.St → Hp → Prop, (∀ σ'' H'', Pv xs σ'' H'' → N σ'' H'') → g (.int x) σ' H' fun σ2 H2 => tb { D with nx := N, ct := N, bk := tu D } σ2 H2) (hd : ∀ σ' H', Pv [] σ' H' → tu D σ' H') :
    tSeq (tFor (iRng2 ta) g tb) tu D σ H := ha _ ⟨i, j, rfl, hj, turns_range (D := { D with nx := tu D }) Pv h0 hs hd⟩
/-- the turns over a list that stands, by what is left -/
theorem turns_list {α : Type} {R : V → α → Prop} {a : Addr} {ws : List V} {xs : List α} {g : TG} {tb : TS} (hp : Paired R ws xs) (Pv : List α → L2.St → Hp → Prop) (h0 : Pv xs σ H) (hl : ∀ ys σ' H', Pv ys σ' H' → SqL K H' a ws)
    (hs : ∀ w y ys σ' H', R w y → Pv (y :: ys) σ' H' → ∀ N : L2.St → Hp → Prop, (∀ σ'' H'', Pv ys σ'' H'' → N σ'' H'') → g w σ' H' fun σ2 H2 => tb { D with nx := N, ct := N, bk := D.nx } σ2 H2) (hd : ∀ σ' H', Pv [] σ' H' → D.nx σ' H') :
    ∃ W : Nat → Nat → L2.St → Hp → Prop, (∃ m, W 0 m σ H) ∧ ∀ i m σ H, W i m σ H →
      ((Itl K a).stop i H ∧ D.nx σ H) ∨ ((Itl K a).go i H ∧ ∃ N : L2.St → Hp → Prop, (∀ σ' H', N σ' H' → ∃ m', m' < m ∧ W (i + 1) m' σ' H') ∧ ∀ x H', (Itl K a).yld i H x H' → g x σ H' fun σ2 H2 => tb { D with nx := N, ct := N, bk := D.nx } σ2 H2) := by
  have hlen := Paired.length hp
  refine for_list (K := K) (a := a) (xs := ws) (fun i σ H => i ≤ ws.length ∧ ∃ ys, Paired R (ws.drop i) ys ∧ Pv ys σ H) ⟨Nat.zero_le _, xs, hp, h0⟩ (fun i σ' H' _ p => ?_) (fun i x σ' H' hx p => ?_) (fun σ' H' p => ?_)
  · obtain ⟨_, ys, _, q⟩ := p
    exact hl _ _ _ q
  · obtain ⟨_, ys, r, q⟩ := p
    have hi : i < ws.length := (List.getElem?_eq_some_iff.mp hx).1
    have e : ws.drop i = x :: ws.drop (i + 1) := by
      rw [List.drop_eq_getElem_cons hi]
      rw [(List.getElem?_eq_some_iff.mp hx).2]
    rw [e] at r
    cases r with
    | cons a b => exact hs _ _ _ σ' H' a q _ fun σ'' H'' z => ⟨hi, _, b, z⟩
  · obtain ⟨_, ys, r, q⟩ := p
    rw [List.drop_length] at r
    cases r
    exact hd _ _ q
theorem z_forL {α : Type} {R : V → α → Prop} {a : Addr} {ws : List V} {xs : List α} {tl : TE} {g : TG} {tb : TS} (ha : Val tl σ H (.ref a)) (hp : Paired R ws xs) (Pv : List α → L2.St → Hp → Prop) (h0 : Pv xs σ H) (hl : ∀ ys σ' H', Pv ys σ' H' → SqL K H' a ws)
    (hs : ∀ w y ys σ' H', R w y → Pv (y :: ys) σ' H' → ∀ N : L2.St → Hp → Prop, (∀ σ'' H'', Pv ys σ'' H'' → N σ'' H'') → g w σ' H' fun σ2 H2 => tb { D with nx := N, ct := N, bk := tu D } σ2 H2) (hd : ∀ σ' H', Pv [] σ' H' → tu D σ' H') :
    tSeq (tFor (iList K tl) g tb) tu D σ H := ha _ ⟨a, rfl, ⟨ws, hl _ _ _ h0⟩, turns_list (D := { D with nx := tu D }) hp Pv h0 hl hs hd⟩
theorem g_name {q : L2.St → Hp → Prop} (hs : σ.set k (some v) = σ') (h : q σ' H) : gName k v σ H q := by
  subst hs
  exact h
/-- a while with a test that leaves the heap as it is -/
theorem z_while {tc : TT} {tb : TS} {n0 : Nat} (Pv : Nat → L2.St → Hp → Prop) (h0 : Pv n0 σ H)
    (hs : ∀ n σ' H', Pv n σ' H' → ∃ b, Ans tc σ' H' b ∧ (b = true → ∃ n', n = n' + 1 ∧ ∀ N : L2.St → Hp → Prop, (∀ σ'' H'', Pv n' σ'' H'' → N σ'' H'') → tb { D with nx := N, ct := N, bk := tu D } σ' H') ∧ (b = false → tu D σ' H')) :
    tSeq (tWhile tc tb) tu D σ H := by
  refine ⟨Pv, ⟨n0, h0⟩, fun m σ' H' w => ?_⟩
  obtain ⟨b, hb, h1, h2⟩ := hs m σ' H' w
  refine hb _ ?_
  cases b with
  | true =>
    obtain ⟨n', e, h⟩ := h1 rfl
    exact (show (if true = true then _ else _) from ⟨Pv n', fun σ'' H'' p => ⟨n', by omega, p⟩, h _ fun _ _ z => z⟩)
  | false => exact (show (if false = true then _ else _) from h2 rfl)
end
/-! ### facts of the builtins' table -/
theorem bt_int : bootBuiltins "int" = some (.type "int") := by decide +kernel
theorem bt_bool : bootBuiltins "bool" = some (.type "bool") := by decide +kernel
theorem bt_str : bootBuiltins "str" = some (.type "str") := by decide +kernel
theorem bt_list : bootBuiltins "list" = some (.type "list") := by decide +kernel
theorem bt_tuple : bootBuiltins "tuple" = some (.type "tuple") := by decide +kernel
theorem bt_isinstance : bootBuiltins "isinstance" = some (.builtin "isinstance") := by decide +kernel
theorem bt_len : bootBuiltins "len" = some (.builtin "len") := by decide +kernel
end Z

namespace Z
open PySem PySem.Spec PyProof.Rows L2

theorem OP.nameO {α σ : Type} {f : α → σ → Option σ} {xs : List α} {s : σ} {A : σ → Prop} (h : OP (Z.forO f xs s) A) : ∃ F, F = f ∧ OP (Z.forO F xs s) A := ⟨f, rfl, h⟩
theorem OP.nameR {α σ ρ : Type} {f : α → σ → Option (σ ⊕ ρ)} {xs : List α} {s : σ} {A : σ ⊕ ρ → Prop} (h : OP (Z.forR f xs s) A) : ∃ F, F = f ∧ OP (Z.forR F xs s) A := ⟨f, rfl, h⟩
theorem OP.fcall2 {α σ τ : Type} {F f : α → σ → Option τ} {x : α} {s : σ} {A : τ → Prop} (e : F = f) (h : OP (F x s) A) : OP (f x s) A := e ▸ h
theorem OP.fcall1 {σ τ : Type} {F f : σ → Option τ} {s : σ} {A : τ → Prop} (e : F = f) (h : OP (F s) A) : OP (f s) A := e ▸ h
def gMul (i j : Int) : Prop := (-(2 ^ 64) < i ∧ i < 2 ^ 64) ∨ (-(2 ^ 64) < j ∧ j < 2 ^ 64)
def gDiv (j : Int) : Prop := 0 < j ∧ j < 1073741824
def gPow (i j : Int) : Prop := 0 ≤ j ∧ j ≤ 1000000 ∧ i.natAbs < 2 ^ 64
def gR (j : Int) : Prop := -(2 ^ 62) ≤ j ∧ j < 2 ^ 62
def gR2 (i j : Int) : Prop := -(2 ^ 62) ≤ i ∧ i < 2 ^ 62 ∧ -(2 ^ 62) ≤ j ∧ j < 2 ^ 62
instance (i j : Int) : Decidable (gMul i j) := by unfold gMul; infer_instance
instance (j : Int) : Decidable (gDiv j) := by unfold gDiv; infer_instance
instance (i j : Int) : Decidable (gPow i j) := by unfold gPow; infer_instance
instance (j : Int) : Decidable (gR j) := by unfold gR; infer_instance
instance (i j : Int) : Decidable (gR2 i j) := by unfold gR2; infer_instance
abbrev ipow (i j : Int) : Int := i ^ j.toNat
def setI {α : Type} (xs : List α) (i : Int) (v : α) : Option (List α) := (ixN xs.length i).bind fun j => some (xs.set j v)

/-! ### data that == compares -/
structure Dat {K : PySem.W.Frag} {α : Type} [DecidableEq α] (τ : Rep K α) where
  enc : α → PyData
  dp : ∀ {H : Hp} {v : V} {x : α}, τ.R H v x → Dp K H v (enc x)
  lay : ∀ x, (enc x).canLay0 = true
  n : Nat
  dep : ∀ x, (enc x).depth ≤ n
  eqv : ∀ x y, PyData.eqv (enc x) (enc y) = decide (x = y)
section
variable {K : PySem.W.Frag}
theorem Dat.shaped {α : Type} [DecidableEq α] {τ : Rep K α} (d : Dat τ) (hn : d.n ≤ 64) (x : α) : SeqAt.shaped (d.enc x) = true := by
  unfold SeqAt.shaped
  rw [d.lay x, decide_eq_true (Nat.le_trans (d.dep x) hn)]
  rfl
def dI : Dat (K := K) qI := ⟨.int, fun {H v x} h => by cases (show v = .int x from h); exact .int x, fun _ => rfl, 1, fun x => by show PyData.depth (.int x) ≤ 1; simp [PyData.depth], fun x y => by
  show (x == y) = decide (x = y)
  rw [Bool.beq_eq_decide_eq]⟩
def dB : Dat (K := K) qB := ⟨.bool, fun {H v x} h => by cases (show v = .bl x from h); exact .bl x, fun _ => rfl, 1, fun x => by show PyData.depth (.bool x) ≤ 1; simp [PyData.depth], fun x y => by
  show (x == y) = decide (x = y)
  rw [Bool.beq_eq_decide_eq]⟩
theorem eqvAll2 {a b c d : PyData} : PyData.eqv (.tuple [a, b]) (.tuple [c, d]) = (PyData.eqv a c && PyData.eqv b d) := by
  simp [PyData.eqv, PyData.eqvAll]
def dT2 {α β : Type} [DecidableEq α] [DecidableEq β] {τ : Rep K α} {υ : Rep K β} (a : Dat τ) (b : Dat υ) : Dat (qT2 τ υ) := ⟨fun x => .tuple [a.enc x.1, b.enc x.2], fun {H v x} h => by
    obtain ⟨p, w1, w2, rfl, h2, h3, h4⟩ := h
    exact .tup (SqT.of h2) (.cons (a.dp h3) (.cons (b.dp h4) .nil)), fun x => by
    show PyData.canLayAll0 [a.enc x.1, b.enc x.2] = true
    simp [PyData.canLayAll0, a.lay, b.lay], max a.n b.n + 1, fun x => by
    have h1 := a.dep x.1
    have h2 := b.dep x.2
    show PyData.depth (.tuple [a.enc x.1, b.enc x.2]) ≤ _
    simp only [PyData.depth, PyData.depthAll]
    omega, fun x y => by
    rw [eqvAll2, a.eqv, b.eqv, ← Bool.decide_and]
    exact decide_eq_decide.mpr ⟨fun h => Prod.ext h.1 h.2, fun h => by rw [h]; exact ⟨rfl, rfl⟩⟩⟩
theorem dpAll {α : Type} [DecidableEq α] {τ : Rep K α} (a : Dat τ) {H : Hp} : ∀ {ws : List V} {xs : List α}, RL τ H ws xs → DpAll K H ws (xs.map a.enc)
  | _, _, .nil => .nil
  | _, _, .cons r t => .cons (a.dp r) (dpAll a t)
theorem layAll {α : Type} [DecidableEq α] {τ : Rep K α} (a : Dat τ) : ∀ xs : List α, PyData.canLayAll0 (xs.map a.enc) = true
  | [] => rfl
  | x :: xs => by
    show (PyData.canLay0 (a.enc x) && PyData.canLayAll0 (xs.map a.enc)) = true
    rw [a.lay, layAll a xs]
    rfl
theorem depAll {α : Type} [DecidableEq α] {τ : Rep K α} (a : Dat τ) : ∀ xs : List α, PyData.depthAll (xs.map a.enc) ≤ a.n
  | [] => by simp [PyData.depthAll]
  | x :: xs => by
    rw [List.map_cons]
    simp only [PyData.depthAll]
    have h1 := a.dep x
    have h2 := depAll a xs
    omega
theorem eqvAllD {α : Type} [DecidableEq α] {τ : Rep K α} (a : Dat τ) : ∀ xs ys : List α, PyData.eqvAll (xs.map a.enc) (ys.map a.enc) = decide (xs = ys)
  | [], [] => rfl
  | [], y :: ys => by simp [PyData.eqvAll]
  | x :: xs, [] => by simp [PyData.eqvAll]
  | x :: xs, y :: ys => by
    rw [List.map_cons, List.map_cons]
    simp only [PyData.eqvAll]
    rw [a.eqv, eqvAllD a xs ys, ← Bool.decide_and]
    exact decide_eq_decide.mpr ⟨fun h => by rw [h.1, h.2], fun h => by injection h with h1 h2; exact ⟨h1, h2⟩⟩
def dQ {α : Type} [DecidableEq α] {τ : Rep K α} (a : Dat τ) : Dat (qQ τ) := ⟨fun xs => .list (xs.map a.enc), fun {H v x} h => by
    obtain ⟨p, ws, rfl, h2, h3⟩ := h
    exact .lst h2 (dpAll a h3), fun xs => layAll a xs, a.n + 1, fun xs => by
    have h := depAll a xs
    show PyData.depth (.list (xs.map a.enc)) ≤ _
    simp only [PyData.depth]
    omega, fun x y => by
    show PyData.eqvAll (x.map a.enc) (y.map a.enc) = _
    exact eqvAllD a x y⟩
def dL {α : Type} [DecidableEq α] {τ : Rep K α} (a : Dat τ) : Dat (qL τ) := ⟨(dQ a).enc, fun h => (dQ a).dp (qL_qQ h), (dQ a).lay, (dQ a).n, (dQ a).dep, (dQ a).eqv⟩
end

/-! ### values that move the heap: the goal goes from te σ H Q to Q v H' -/
section
variable {K : PySem.W.Frag} {σ σ' : L2.St} {S H S0 H0 : Hp} {L : List Addr} {ta tb te : TE} {t u tc : TT} {tr : TA} {x y z v : V} {i j : Int} {b c : Bool} {Q : VK} {D : Ends} {t1 t2 tu : TS} {g : TG} {vs ws : List V}
theorem c_val (h : Val te σ H v) (q : Q v H) : te σ H Q := h _ q
theorem c_op {r : R2} (h : ta σ H fun x H1 => tb σ H1 fun y H2 => r x y H2 Q) : tOp r ta tb σ H Q := h
theorem c_un {r : V → Hp → VK → Prop} (h : ta σ H fun x H1 => r x H1 Q) : tUn r ta σ H Q := h
theorem c_cons {q : List V → Hp → Prop} (h : ta σ H fun x H1 => tr σ H1 fun xs H2 => q (x :: xs) H2) : tCons ta tr σ H q := h
theorem c_nil {q : List V → Hp → Prop} (h : q [] H) : tNil σ H q := h
theorem c_args {q : List V → Hp → Prop} (ha : VA tr σ H vs) (h : q vs H) : tr σ H q := ha _ h
theorem c_tup (h : tr σ H fun xs H1 => xs.length ≤ sizeLine ∧ ∀ p, H1 p = none → Q (.ref p) (upd H1 p (.tup xs))) : tTup tr σ H Q := h
theorem c_lst (h : tr σ H fun xs H1 => xs.length ≤ sizeLine ∧ ∀ p, H1 p = none → Q (.ref p) (upd H1 p (.lst xs))) : tLst tr σ H Q := h
theorem c_tupE (h : ∀ Q' : VK, Q' = Q → tr σ H fun xs H1 => xs.length ≤ sizeLine ∧ ∀ p, H1 p = none → Q' (.ref p) (upd H1 p (.tup xs))) : tTup tr σ H Q := h _ rfl
theorem c_lstE (h : ∀ Q' : VK, Q' = Q → tr σ H fun xs H1 => xs.length ≤ sizeLine ∧ ∀ p, H1 p = none → Q' (.ref p) (upd H1 p (.lst xs))) : tLst tr σ H Q := h _ rfl
theorem c_cbE {r : List V → Hp → VK → Prop} (h : ∀ Q' : VK, Q' = Q → tr σ H fun vs H1 => r vs H1 Q') : tCB r tr σ H Q := h _ rfl
theorem q_eq {Q' : VK} (e : Q' = Q) (h : Q v H) : Q' v H := e ▸ h
theorem c_call {sp : Sp} {dvs : List V} {E : XK} (h : tr σ H fun vs H1 => sp (vs ++ dvs) H1 Q E) : tCall sp dvs E tr σ H Q := h
theorem c_cb {r : List V → Hp → VK → Prop} (h : tr σ H fun vs H1 => r vs H1 Q) : tCB r tr σ H Q := h
theorem c_newtup (e : Same S H) (hl : vs.length ≤ 1000) (k : ∀ p S' H', Grow [] S H S' H' → S' p = some (.tup vs) → Q (.ref p) H') : vs.length ≤ sizeLine ∧ ∀ p, H p = none → Q (.ref p) (upd H p (.tup vs)) :=
  ⟨Nat.le_trans hl (by decide), fun p hp => k p _ _ ((Grow.refl e).imm hp) upd_same⟩
theorem c_newlst (hl : vs.length ≤ 1000) (k : ∀ p H', Same H H' → H p = none → H' p = some (.lst vs) → Q (.ref p) H') : vs.length ≤ sizeLine ∧ ∀ p, H p = none → Q (.ref p) (upd H p (.lst vs)) :=
  ⟨Nat.le_trans hl (by decide), fun p hp => k p _ (same_upd hp) hp upd_same⟩
theorem c_not {q : Bool → Hp → Prop} (h : t σ H fun b H1 => q (!b) H1) : tNot t σ H q := h
theorem c_test {q : Bool → Hp → Prop} (h : te σ H fun x H' => ∃ k, x = .bl k ∧ q k H') : tTest te σ H q := h
theorem c_B {q : Bool → Hp → Prop} (h : te σ H fun x H' => ∃ k, x = .bl k ∧ q k H') : tB te σ H q := h
theorem c_ans {q : Bool → Hp → Prop} (h : Ans t σ H b) (k : q b H) : t σ H q := h _ k
theorem c_bl {q : Bool → Hp → Prop} (h : q b H) : ∃ k, V.bl b = .bl k ∧ q k H := ⟨b, rfl, h⟩
theorem c_and {q : Bool → Hp → Prop} (h : t σ H fun c H1 => if c = true then u σ H1 q else q false H1) : tAnd t u σ H q := h
theorem c_or {q : Bool → Hp → Prop} (h : t σ H fun c H1 => if c = true then q true H1 else u σ H1 q) : tOr t u σ H q := h
theorem c_andV (h : ta σ H fun x H1 => ∃ c, x = .bl c ∧ if c = true then tb σ H1 Q else Q (.bl false) H1) : tAndV ta tb σ H Q := h
theorem c_orV (h : ta σ H fun x H1 => ∃ c, x = .bl c ∧ if c = true then Q (.bl true) H1 else tb σ H1 Q) : tOrV ta tb σ H Q := h
theorem c_cutT {q : Bool → Hp → Prop} (P : Bool → Hp → Prop) (hc : ∀ q' : Bool → Hp → Prop, (∀ b H', P b H' → q' b H') → t σ H q') (hP : ∀ b H', P b H' → q b H') : t σ H q := hc _ hP
theorem c_cutV (P : Bool → Hp → Prop) (hc : ∀ q' : VK, (∀ b H', P b H' → q' (.bl b) H') → te σ H q') (hP : ∀ b H', P b H' → Q (.bl b) H') : te σ H Q := hc _ hP
theorem ifb {A B : Prop} (h1 : c = true → A) (h2 : c = false → B) : if c = true then A else B := by
  cases c with
  | true => exact (show (if true = true then A else B) from h1 rfl)
  | false => exact (show (if false = true then A else B) from h2 rfl)
/-- the ends of the operators -/
theorem e_o2 {g : Int → Int → V} (q : Q (g i j) H) : rI0 g (.int i) (.int j) H Q := ⟨i, j, rfl, rfl, q⟩
theorem e_o2c {C : Int → Int → Prop} {g : Int → Int → V} (hc : C i j) (q : Q (g i j) H) : rI C g (.int i) (.int j) H Q := ⟨i, j, rfl, rfl, hc, q⟩
theorem e_u {g : Int → V} (q : Q (g i) H) : rU g (.int i) H Q := ⟨i, rfl, q⟩
theorem e_eqI (q : Q (.bl (decide (i = j))) H) : rEq (.int i) (.int j) H Q := ⟨rfl, by rw [dec_int]; exact q⟩
theorem e_neI (q : Q (.bl (!decide (i = j))) H) : rNe (.int i) (.int j) H Q := ⟨rfl, by rw [dec_int]; exact q⟩
theorem e_eqS {s t : Str} (q : Q (.bl (decide (s = t))) H) : rEq (.str s) (.str t) H Q := ⟨rfl, by rw [dec_str]; exact q⟩
theorem e_neS {s t : Str} (q : Q (.bl (!decide (s = t))) H) : rNe (.str s) (.str t) H Q := ⟨rfl, by rw [dec_str]; exact q⟩
theorem e_eqB (q : Q (.bl (decide (b = c))) H) : rEq (.bl b) (.bl c) H Q := ⟨rfl, by rw [dec_bl]; exact q⟩
theorem e_neB (q : Q (.bl (!decide (b = c))) H) : rNe (.bl b) (.bl c) H Q := ⟨rfl, by rw [dec_bl]; exact q⟩
theorem e_eqD {α : Type} [DecidableEq α] {τ υ : Rep K α} (d : Dat τ) (d' : Dat υ) (he : d.enc = d'.enc) (hn : d.n ≤ 64) {p q : α} (h1 : τ.R H x p) (h2 : υ.R H y q) (k : Q (.bl (decide (p = q))) H) : rEqD K x y H Q :=
  ⟨d.enc p, d.enc q, d.dp h1, by rw [he]; exact d'.dp h2, d.shaped hn p, d.shaped hn q, by rw [d.eqv]; exact k⟩
theorem e_neD {α : Type} [DecidableEq α] {τ υ : Rep K α} (d : Dat τ) (d' : Dat υ) (he : d.enc = d'.enc) (hn : d.n ≤ 64) {p q : α} (h1 : τ.R H x p) (h2 : υ.R H y q) (k : Q (.bl (!decide (p = q))) H) : rNeD K x y H Q :=
  ⟨d.enc p, d.enc q, d.dp h1, by rw [he]; exact d'.dp h2, d.shaped hn p, d.shaped hn q, by rw [d.eqv]; exact k⟩
theorem v_eqD {α : Type} [DecidableEq α] {τ υ : Rep K α} (d : Dat τ) (d' : Dat υ) (he : d.enc = d'.enc) (hn : d.n ≤ 64) {p q : α} (ha : Val ta σ H x) (hb : Val tb σ H y) (h1 : τ.R H x p) (h2 : υ.R H y q) : Val (tOp (rEqD K) ta tb) σ H (.bl (decide (p = q))) :=
  fun Q k => ha _ (hb _ (e_eqD d d' he hn h1 h2 k))
theorem v_neD {α : Type} [DecidableEq α] {τ υ : Rep K α} (d : Dat τ) (d' : Dat υ) (he : d.enc = d'.enc) (hn : d.n ≤ 64) {p q : α} (ha : Val ta σ H x) (hb : Val tb σ H y) (h1 : τ.R H x p) (h2 : υ.R H y q) : Val (tOp (rNeD K) ta tb) σ H (.bl (!decide (p = q))) :=
  fun Q k => ha _ (hb _ (e_neD d d' he hn h1 h2 k))
/-- a shallow datum: tuples of scalars; it may be kept for good -/
def Shal {α : Type} (τ : Rep K α) : Prop := ∀ {S H : Hp} {v : V} {x : α}, Same S H → τ.R H v x → ∃ S', Grow [] S H S' H ∧ τ.R S' v x
theorem shI : Shal (K := K) qI := fun e h => ⟨_, Grow.refl e, h⟩
theorem shB : Shal (K := K) qB := fun e h => ⟨_, Grow.refl e, h⟩
theorem shS : Shal (K := K) qS := fun e h => ⟨_, Grow.refl e, h⟩
theorem shU : Shal (K := K) qU := fun e h => ⟨_, Grow.refl e, h⟩
theorem shOpt {α : Type} {τ : Rep K α} (a : Shal τ) : Shal (qOpt τ) := fun {S H v x} e h => by
  cases x with
  | none => exact ⟨_, Grow.refl e, h⟩
  | some y =>
    obtain ⟨S', g, r⟩ := a e h.2
    exact ⟨S', g, h.1, r⟩
theorem shT2 {α β : Type} {τ : Rep K α} {υ : Rep K β} (a : Shal τ) (b : Shal υ) : Shal (qT2 τ υ) := fun {S H v x} e h => by
  obtain ⟨p, w1, w2, rfl, h2, h3, h4⟩ := h
  obtain ⟨S1, g1, r1⟩ := a e h3
  obtain ⟨S2, g2, r2⟩ := b g1.sh h4
  have g3 := (g1.call0 g2).tup h2
  have e3 : Same S2 (upd S2 p (.tup [w1, w2])) := ((Grow.refl (L := []) g2.sh).tup h2).ss
  exact ⟨_, g3, p, w1, w2, rfl, upd_same, τ.mono (g2.ss.trans e3) r1, υ.mono e3 r2⟩
theorem shL {α : Type} {τ : Rep K α} (a : Shal τ) {S H : Hp} : ∀ {ws : List V} {xs : List α}, Same S H → RL τ H ws xs → ∃ S', Grow [] S H S' H ∧ RL τ S' ws xs
  | _, _, e, .nil => ⟨_, Grow.refl e, .nil⟩
  | _, _, e, .cons r t => by
    obtain ⟨S1, g1, r1⟩ := a e r
    obtain ⟨S2, g2, r2⟩ := shL a g1.sh t
    exact ⟨S2, g1.call0 g2, .cons (τ.mono g2.ss r1) r2⟩
theorem RL.sc {α : Type} {τ : Rep K α} {H H' : Hp} (f : α → V) (hf : ∀ {H v x}, τ.R H v x ↔ v = f x) : ∀ {ws : List V} {xs : List α}, RL τ H ws xs → RL τ H' ws xs
  | _, _, .nil => .nil
  | _, _, .cons r t => .cons (hf.mpr (hf.mp r)) (RL.sc f hf t)
theorem RL.scI {H H' : Hp} {ws : List V} {xs : List Int} (h : RL (K := K) qI H ws xs) : RL (K := K) qI H' ws xs := RL.sc V.int Iff.rfl h
theorem RL.scB {H H' : Hp} {ws : List V} {xs : List Bool} (h : RL (K := K) qB H ws xs) : RL (K := K) qB H' ws xs := RL.sc V.bl Iff.rfl h
theorem RL.scS {H H' : Hp} {ws : List V} {xs : List Str} (h : RL (K := K) qS H ws xs) : RL (K := K) qS H' ws xs := RL.sc V.str Iff.rfl h
/-- where a new list comes from -/
theorem e_listQ {α : Type} {τ : Rep K α} {xs : List α} (h : (qQ τ).R H v xs) (k : ∀ p ws H', Same H H' → H p = none → H' p = some (.lst ws) → RL τ H ws xs → Q (.ref p) H') :
    ∃ p ys, [v] = [.ref p] ∧ (SqL K H p ys ∨ SqT K H p ys) ∧ ∀ l, H l = none → Q (.ref l) (upd H l (.lst ys)) := by
  obtain ⟨a, ws, rfl, h2, h3⟩ := h
  exact ⟨a, ws, rfl, .inl h2, fun l hl => k l ws _ (same_upd hl) hl upd_same h3⟩
theorem RL.cut {α : Type} {τ : Rep K α} {ws : List V} {xs : List α} (h : RL τ H ws xs) (lo hi : Option Int) : RL τ H (cutV ws lo hi) ((xs.drop (HT.sIx xs.length 0 lo)).take (HT.sIx xs.length xs.length hi - HT.sIx xs.length 0 lo)) := by
  unfold cutV
  rw [h.length]
  exact (h.drop _).take _
def cutI {α : Type} (xs : List α) (lo hi : Option Int) : List α := (xs.drop (HT.sIx xs.length 0 lo)).take (HT.sIx xs.length xs.length hi - HT.sIx xs.length 0 lo)
theorem e_slice {α : Type} {τ : Rep K α} {xs : List α} {lo hi : Option Int} (h : (qQ τ).R H v xs) (k : ∀ p ws H', Same H H' → H p = none → H' p = some (.lst ws) → RL τ H ws (cutI xs lo hi) → Q (.ref p) H') : rSlL K v lo hi H Q := by
  obtain ⟨a, ws, rfl, h2, h3⟩ := h
  exact ⟨a, ws, rfl, h2, fun l hl => k l _ _ (same_upd hl) hl upd_same (h3.cut lo hi)⟩
theorem c_slice {r : V → Option Int → Option Int → Hp → VK → Prop} {tl th : TO} {lo hi : Option Int} (ha : Val te σ H v) (hl : ∀ q : Option Int → Hp → Prop, q lo H → tl σ H q) (hh : ∀ q : Option Int → Hp → Prop, q hi H → th σ H q) (k : r v lo hi H Q) : tSl r te tl th σ H Q := ha _ (hl _ (hh _ k))
theorem po0 : ∀ q : Option Int → Hp → Prop, q none H → tNoPart σ H q := fun _ z => z
theorem po1 (h : Val te σ H (.int i)) : ∀ q : Option Int → Hp → Prop, q (some i) H → tPart te σ H q := fun _ z => h _ ⟨i, rfl, z⟩
theorem e_cat {α : Type} {τ : Rep K α} {xs ys : List α} (h1 : (qL τ).R H x xs) (h2 : (qL τ).R H y ys) (hz : xs.length + ys.length ≤ 16777216) (k : ∀ p ws H', Same H H' → H p = none → H' p = some (.lst ws) → RL τ H ws (xs ++ ys) → Q (.ref p) H') : rCat x y H Q := by
  obtain ⟨a, ws, rfl, ha, ra⟩ := h1
  obtain ⟨b, us, rfl, hb, rb⟩ := h2
  exact ⟨a, b, ws, us, rfl, rfl, ha, hb, by rw [ra.length, rb.length]; exact hz, fun p hp => k p _ _ (same_upd hp) hp upd_same (ra.app rb)⟩

/-! ### statements -/
theorem z_start {N : List Str} {t : TS} (hs : start N vs = σ) (q : t D σ H) : t D (start N vs) H := hs ▸ q
theorem z_nextR (q : tu D σ H) : tNext { D with nx := tu D } σ H := q
theorem z_setE {k : Nat} (h : te σ H fun v H' => gName k v σ H' (tu D)) : tSeq (tAsg te (gName k)) tu D σ H := h
theorem z_asgE (h : te σ H fun v H' => g v σ H' (tu D)) : tSeq (tAsg te g) tu D σ H := h
theorem z_retE (h : te σ H D.rt) : tSeq (tRet te) tu D σ H := h
theorem z_retN (h : D.rt .non H) : tSeq tRetN tu D σ H := h
theorem z_pass (h : tu D σ H) : tSeq tNext tu D σ H := h
theorem z_cont (h : D.ct σ H) : tSeq tCont tu D σ H := h
theorem z_brk (h : D.bk σ H) : tSeq tBreak tu D σ H := h
theorem z_dropE (h : te σ H fun _ H' => tu D σ H') : tSeq (tDrop te) tu D σ H := h
theorem z_ifE (h : tc σ H fun b H1 => if b = true then t1 { D with nx := tu D } σ H1 else t2 { D with nx := tu D } σ H1) : tSeq (tIfS tc t1 t2) tu D σ H := h
theorem z_ifbj (P : L2.St → Hp → Prop) (hP : ∀ σ' H', P σ' H' → tu D σ' H')
    (h1 : c = true → ∀ N : L2.St → Hp → Prop, (∀ σ' H', P σ' H' → N σ' H') → t1 { D with nx := N } σ H) (h2 : c = false → ∀ N : L2.St → Hp → Prop, (∀ σ' H', P σ' H' → N σ' H') → t2 { D with nx := N } σ H) : if c = true then t1 { D with nx := tu D } σ H else t2 { D with nx := tu D } σ H :=
  ifb (fun e => h1 e _ hP) (fun e => h2 e _ hP)
/-- xs.append(v) -/
theorem c_app {α : Type} {τ : Rep K α} {l : Addr} {xs ys : List α} {q : α} (g : Grow L S0 H0 S H) (cl : Cel L H0 S H l (.lst ws)) (r : RL τ S ws xs) (rv : τ.R S v q) (hz : xs.length < 16777216) (he : xs ++ [q] = ys)
    (k : ∀ ws' H', Grow L S0 H0 S H' → Cel L H0 S H' l (.lst ws') → RL τ S ws' ys → (∀ l' o', l' ≠ l → Cel L H0 S H l' o' → Cel L H0 S H' l' o') → Q .non H') : rAppend (.ref l) [v] H Q := by
  subst he
  exact ⟨l, ws, v, rfl, rfl, cl.h, by rw [r.length]; exact hz, k _ _ (g.wr cl rfl) (cl.wr rfl) (r.app (.cons rv .nil)) fun l' o' n c => c.wrn n⟩
theorem c_bm {T : String} {r : V → List V → Hp → VK → Prop} {l : Addr} (ha : Val ta σ H (.ref l)) (h : tyV K T (.ref l) H) (k : tr σ H fun xs H2 => r (.ref l) xs H2 Q) : tBM K T r ta tr σ H Q := ha _ ⟨h, k⟩
theorem c_bm0 {T : String} {r : V → List V → Hp → VK → Prop} {l : Addr} (ha : Val ta σ H (.ref l)) (h : tyV K T (.ref l) H) (k : r (.ref l) [] H Q) : tBM0 K T r ta σ H Q := ha _ ⟨h, k⟩
theorem tyL {l : Addr} (h : H l = some (.lst ws)) : tyV K "list" (.ref l) H := .inl ⟨rfl, _, SqL.of h⟩
/-- xs[i] = v -/
theorem c_setL {α : Type} {τ : Rep K α} {l : Addr} {xs ys : List α} {q : α} (g : Grow L S0 H0 S H) (cl : Cel L H0 S H l (.lst ws)) (r : RL τ S ws xs) (rv : τ.R S v q) (ho : Val ta σ H (.ref l)) (hi : Val tb σ H (.int i)) (he : setI xs i q = some ys)
    (k : ∀ ws' H', Grow L S0 H0 S H' → Cel L H0 S H' l (.lst ws') → RL τ S ws' ys → (∀ l' o', l' ≠ l → Cel L H0 S H l' o' → Cel L H0 S H' l' o') → tu D σ H') : gSub ta tb rSetL v σ H (tu D) := by
  unfold setI at he
  cases e : ixN xs.length i with
  | none => rw [e] at he; cases he
  | some j =>
    rw [e] at he
    cases (Option.some.inj he)
    exact ho _ (hi _ ⟨l, ws, i, j, rfl, rfl, cl.h, by rw [r.length]; exact e, k _ _ (g.wr cl rfl) (cl.wr rfl) (r.set rv j) fun l' o' n c => c.wrn n⟩)
theorem c_clear {α : Type} {τ : Rep K α} {l : Addr} (g : Grow L S0 H0 S H) (cl : Cel L H0 S H l (.lst ws))
    (k : ∀ H', Grow L S0 H0 S H' → Cel L H0 S H' l (.lst []) → RL τ S [] ([] : List α) → (∀ l' o', l' ≠ l → Cel L H0 S H l' o' → Cel L H0 S H' l' o') → Q .non H') : rClear (.ref l) [] H Q :=
  ⟨l, ws, rfl, rfl, cl.h, k _ (g.wr cl rfl) (cl.wr rfl) .nil fun l' o' n c => c.wrn n⟩
theorem v_chain {g g' : Int → Int → V} {p q : Int → Int → Bool} {k l m : Int} (ha : Val ta σ H (.int k)) (hb : Val tb σ H (.int l)) (hc : Val te σ H (.int m)) (h1 : g k l = .bl b) (h2 : g' l m = .bl c) : Val (tChain (rI0 g) (rI0 g') ta tb te) σ H (.bl (b && c)) := fun Q z => ha _ (hb _ ⟨k, l, rfl, rfl, b, h1, by
  cases b with
  | true => exact (show (if true = true then _ else _) from hc _ ⟨l, m, rfl, rfl, by rw [h2]; exact z⟩)
  | false => exact (show (if false = true then _ else _) from z)⟩)
theorem Same.seqt {H H' : Hp} {a : Addr} {xs : List V} (e : Same H H') (h : SqT K H a xs) : SqT K H' a xs := by
  rcases h with (h | ⟨o, h⟩) | h
  · exact .inl (.inl (e _ _ h))
  · exact .inl (.inr ⟨o, e _ _ h⟩)
  · exact .inr h
theorem turns_tup {α : Type} {R : V → α → Prop} {a : Addr} {ws : List V} {xs : List α} {g : TG} {tb : TS} (hp : Paired R ws xs) (Pv : List α → L2.St → Hp → Prop) (h0 : Pv xs σ H) (hl : ∀ ys σ' H', Pv ys σ' H' → SqT K H' a ws)
    (hs : ∀ w y ys σ' H', R w y → Pv (y :: ys) σ' H' → ∀ N : L2.St → Hp → Prop, (∀ σ'' H'', Pv ys σ'' H'' → N σ'' H'') → g w σ' H' fun σ2 H2 => tb { D with nx := N, ct := N, bk := D.nx } σ2 H2) (hd : ∀ σ' H', Pv [] σ' H' → D.nx σ' H') :
    ∃ W : Nat → Nat → L2.St → Hp → Prop, (∃ m, W 0 m σ H) ∧ ∀ i m σ H, W i m σ H →
      ((Itt K a).stop i H ∧ D.nx σ H) ∨ ((Itt K a).go i H ∧ ∃ N : L2.St → Hp → Prop, (∀ σ' H', N σ' H' → ∃ m', m' < m ∧ W (i + 1) m' σ' H') ∧ ∀ x H', (Itt K a).yld i H x H' → g x σ H' fun σ2 H2 => tb { D with nx := N, ct := N, bk := D.nx } σ2 H2) := by
  refine for_tup (K := K) (a := a) (xs := ws) (fun i σ H => i ≤ ws.length ∧ ∃ ys, Paired R (ws.drop i) ys ∧ Pv ys σ H) ⟨Nat.zero_le _, xs, hp, h0⟩ (fun i σ' H' _ p => ?_) (fun i x σ' H' hx p => ?_) (fun σ' H' p => ?_)
  · obtain ⟨_, ys, _, q⟩ := p
    exact hl _ _ _ q
  · obtain ⟨_, ys, r, q⟩ := p
    have hi : i < ws.length := (List.getElem?_eq_some_iff.mp hx).1
    have e : ws.drop i = x :: ws.drop (i + 1) := by
      rw [List.drop_eq_getElem_cons hi]
      rw [(List.getElem?_eq_some_iff.mp hx).2]
    rw [e] at r
    cases r with
    | cons a b => exact hs _ _ _ σ' H' a q _ fun σ'' H'' z => ⟨hi, _, b, z⟩
  · obtain ⟨_, ys, r, q⟩ := p
    rw [List.drop_length] at r
    cases r
    exact hd _ _ q
theorem z_forT {α : Type} {R : V → α → Prop} {a : Addr} {ws : List V} {xs : List α} {tl : TE} {g : TG} {tb : TS} (ha : Val tl σ H (.ref a)) (hp : Paired R ws xs) (Pv : List α → L2.St → Hp → Prop) (h0 : Pv xs σ H) (hl : ∀ ys σ' H', Pv ys σ' H' → SqT K H' a ws)
    (hs : ∀ w y ys σ' H', R w y → Pv (y :: ys) σ' H' → ∀ N : L2.St → Hp → Prop, (∀ σ'' H'', Pv ys σ'' H'' → N σ'' H'') → g w σ' H' fun σ2 H2 => tb { D with nx := N, ct := N, bk := tu D } σ2 H2) (hd : ∀ σ' H', Pv [] σ' H' → tu D σ' H') :
    tSeq (tFor (iTup K tl) g tb) tu D σ H := ha _ ⟨a, rfl, ⟨ws, hl _ _ _ h0⟩, turns_tup (D := { D with nx := tu D }) hp Pv h0 hl hs hd⟩
end
theorem bt_min : bootBuiltins "min" = some (.builtin "min") := by decide +kernel
theorem bt_max : bootBuiltins "max" = some (.builtin "max") := by decide +kernel
end Z

namespace Z
open PySem PySem.Spec PyProof.Rows L2

/-! ### comprehensions -/
def consO {β : Type} (r : Option β) (ys : List β) : List β := match r with
  | some y => y :: ys
  | none => ys
def compO' {α β : Type} (f : α → Option (Option β)) : List α → Option (List β)
  | [] => some []
  | x :: xs => (f x).bind fun r => (compO' f xs).bind fun ys => some (consO r ys)
@[irreducible] def compO {α β : Type} (f : α → Option (Option β)) (xs : List α) : Option (List β) := if xs.length ≤ 16777216 then compO' f xs else none
theorem compO_some {α β : Type} {f : α → Option (Option β)} {xs : List α} {ys : List β} (h : compO f xs = some ys) : xs.length ≤ 16777216 ∧ compO' f xs = some ys := by
  unfold compO at h
  split at h
  · rename_i q; exact ⟨q, h⟩
  · cases h
theorem compO_eq {α β : Type} {f : α → Option (Option β)} {g : α → Option β} {xs : List α} (hl : xs.length ≤ 16777216) (h : ∀ x ∈ xs, f x = some (g x)) : compO f xs = some (xs.filterMap g) := by
  unfold compO
  rw [if_pos hl]
  clear hl
  induction xs with
  | nil => rfl
  | cons x xs ih =>
    unfold compO'
    rw [h x (List.mem_cons_self), ih fun y hy => h y (List.mem_cons_of_mem _ hy), List.filterMap_cons]
    cases g x <;> rfl
section
variable {K : PySem.W.Frag} {σ : L2.St} {S H : Hp} {ta tl te : TE} {tt : TT} {tr : TA} {v : V} {Q : VK} {D : Ends} {tu : TS}
theorem wipe_one (j : Nat) : wipe σ [j] = σ.set j none := rfl
theorem wipe_again (j : Nat) (v : V) : wipe ((wipe σ [j]).set j (some v)) [j] = wipe σ [j] := by
  rw [wipe_one, wipe_one, List.set_set, List.set_set]
theorem turnsC_range {lo : Int} {n : Nat} {g : TG} {vs : List Nat} {H1 : Hp} {P : Addr} {Qd : Hp → Prop} (Pv : List Int → Hp → Prop) (h0 : Pv (rangeI lo n) (upd H1 P (.lst [])))
    (hs : ∀ x xs H', Pv (x :: xs) H' → ∀ N : Hp → Prop, (∀ H'', Pv xs H'' → N H'') → g (.int x) (wipe σ vs) H' fun σ2 H2 => wipe σ2 vs = wipe σ vs ∧ tt σ2 H2 fun b H3 =>
      if b = true then te σ2 H3 fun y H4 => ∃ acc, H4 P = some (.lst acc) ∧ acc.length < sizeLine ∧ N (upd H4 P (.lst (acc ++ [y]))) else N H3) (hd : ∀ H', Pv [] H' → Qd H') :
    ∃ W : Nat → Nat → Hp → Prop, (∃ m, W 0 m (upd H1 P (.lst []))) ∧ ∀ i m H, W i m H →
      ((Itr lo n).stop i H ∧ Qd H) ∨ ((Itr lo n).go i H ∧ ∃ Nx : Hp → Prop, (∀ H', Nx H' → ∃ m', m' < m ∧ W (i + 1) m' H') ∧ ∀ x H', (Itr lo n).yld i H x H' → g x (wipe σ vs) H' fun σ2 H2 => wipe σ2 vs = wipe σ vs ∧ tt σ2 H2 fun b H3 =>
        if b = true then te σ2 H3 fun y H4 => ∃ acc, H4 P = some (.lst acc) ∧ acc.length < sizeLine ∧ Nx (upd H4 P (.lst (acc ++ [y]))) else Nx H3) := by
  refine lc_range (fun i H => i ≤ n ∧ Pv (rangeI (lo + (i : Int)) (n - i)) H) ⟨Nat.zero_le _, by
    rw [show lo + ((0 : Nat) : Int) = lo from Int.add_zero lo]; exact h0⟩ (fun i H' hi p => ?_) (fun H' p => hd _ (by
    have q := p.2
    rw [Nat.sub_self] at q
    exact q))
  have e : n - i = (n - (i + 1)) + 1 := by omega
  have q := p.2
  rw [e, rangeI_succ] at q
  refine hs _ _ H' q (fun H => i + 1 ≤ n ∧ Pv (rangeI (lo + ((i + 1 : Nat) : Int)) (n - (i + 1))) H) fun H'' z => ⟨hi, ?_⟩
  rw [show lo + ((i + 1 : Nat) : Int) = lo + (i : Int) + 1 by omega]
  exact z
theorem turnsC_list {α : Type} {R : V → α → Prop} {a : Addr} {ws : List V} {xs : List α} {g : TG} {vs : List Nat} {H1 : Hp} {P : Addr} {Qd : Hp → Prop} (hp : Paired R ws xs) (Pv : List α → Hp → Prop) (h0 : Pv xs (upd H1 P (.lst []))) (hl : ∀ ys H', Pv ys H' → SqL K H' a ws)
    (hs : ∀ w x xs H', R w x → Pv (x :: xs) H' → ∀ N : Hp → Prop, (∀ H'', Pv xs H'' → N H'') → g w (wipe σ vs) H' fun σ2 H2 => wipe σ2 vs = wipe σ vs ∧ tt σ2 H2 fun b H3 =>
      if b = true then te σ2 H3 fun y H4 => ∃ acc, H4 P = some (.lst acc) ∧ acc.length < sizeLine ∧ N (upd H4 P (.lst (acc ++ [y]))) else N H3) (hd : ∀ H', Pv [] H' → Qd H') :
    ∃ W : Nat → Nat → Hp → Prop, (∃ m, W 0 m (upd H1 P (.lst []))) ∧ ∀ i m H, W i m H →
      ((Itl K a).stop i H ∧ Qd H) ∨ ((Itl K a).go i H ∧ ∃ Nx : Hp → Prop, (∀ H', Nx H' → ∃ m', m' < m ∧ W (i + 1) m' H') ∧ ∀ x H', (Itl K a).yld i H x H' → g x (wipe σ vs) H' fun σ2 H2 => wipe σ2 vs = wipe σ vs ∧ tt σ2 H2 fun b H3 =>
        if b = true then te σ2 H3 fun y H4 => ∃ acc, H4 P = some (.lst acc) ∧ acc.length < sizeLine ∧ Nx (upd H4 P (.lst (acc ++ [y]))) else Nx H3) := by
  refine lc_list (K := K) (a := a) (xs := ws) (fun i H => i ≤ ws.length ∧ ∃ ys, Paired R (ws.drop i) ys ∧ Pv ys H) ⟨Nat.zero_le _, xs, hp, h0⟩ (fun i H' _ p => ?_) (fun i x H' hx p => ?_) (fun H' p => ?_)
  · obtain ⟨_, ys, _, q⟩ := p
    exact hl _ _ q
  · obtain ⟨_, ys, r, q⟩ := p
    have hi : i < ws.length := (List.getElem?_eq_some_iff.mp hx).1
    have e : ws.drop i = x :: ws.drop (i + 1) := by
      rw [List.drop_eq_getElem_cons hi]
      rw [(List.getElem?_eq_some_iff.mp hx).2]
    rw [e] at r
    cases r with
    | cons a b => exact hs _ _ _ H' a q (fun H => i + 1 ≤ ws.length ∧ ∃ ys, Paired R (ws.drop (i + 1)) ys ∧ Pv ys H) fun H'' z => ⟨hi, _, b, z⟩
  · obtain ⟨_, ys, r, q⟩ := p
    rw [List.drop_length] at r
    cases r
    exact hd _ q
/-- what holds between two turns of a comprehension whose parts leave the heap as it is: P the new list, zs what is left -/
def CPv {α β : Type} (τ : Rep K β) (S H : Hp) (P : Addr) (f : α → Option (Option β)) (ys : List β) (zs : List α) (H' : Hp) : Prop :=
  ∃ acc ys1 ys2, H' P = some (.lst acc) ∧ RL τ S acc ys1 ∧ Same H H' ∧ compO' f zs = some ys2 ∧ ys1 ++ ys2 = ys ∧ acc.length + zs.length ≤ 16777216
theorem CPv.start {α β : Type} {τ : Rep K β} {P : Addr} {f : α → Option (Option β)} {ys : List β} {zs : List α} (hP : H P = none) (h : compO f zs = some ys) : CPv τ S H P f ys zs (upd H P (.lst [])) := by
  obtain ⟨h1, h2⟩ := compO_some h
  exact ⟨[], [], ys, upd_same, .nil, same_upd hP, h2, rfl, by simpa using h1⟩
theorem CPv.turn {α β : Type} {τ : Rep K β} {P : Addr} {f : α → Option (Option β)} {ys : List β} {x : α} {zs : List α} {H' : Hp} {j : Nat} {w : V} {σx : L2.St} (hP : H P = none) (hσ : σ.set j (some w) = σx)
    (turn : ∀ H', Same H H' → ∀ r, f x = some r → ∃ b, Ans tt σx H' b ∧ (b = true → ∃ v y, r = some y ∧ Val te σx H' v ∧ τ.R S v y) ∧ (b = false → r = none))
    (p : CPv τ S H P f ys (x :: zs) H') (N : Hp → Prop) (hN : ∀ H'', CPv τ S H P f ys zs H'' → N H'') :
    gName j w (wipe σ [j]) H' fun σ2 H2 => wipe σ2 [j] = wipe σ [j] ∧ tt σ2 H2 fun b H3 =>
      if b = true then te σ2 H3 fun y H4 => ∃ acc, H4 P = some (.lst acc) ∧ acc.length < sizeLine ∧ N (upd H4 P (.lst (acc ++ [y]))) else N H3 := by
  obtain ⟨acc, ys1, ys2, h1, h2, h3, h4, h5, h6⟩ := p
  have e : (wipe σ [j]).set j (some w) = σx := by rw [wipe_one, List.set_set]; exact hσ
  have e2 : wipe σx [j] = wipe σ [j] := by rw [← e]; exact wipe_again j w
  unfold compO' at h4
  cases hf : f x with
  | none => rw [hf] at h4; cases h4
  | some r =>
    rw [hf] at h4
    cases hr : compO' f zs with
    | none => rw [hr] at h4; cases h4
    | some ys3 =>
      rw [hr] at h4
      have h4 : consO r ys3 = ys2 := Option.some.inj h4
      obtain ⟨b, ha, ht, hn⟩ := turn H' h3 r hf
      refine g_name e ?_
      refine ⟨e2, ha _ ?_⟩
      cases b with
      | true =>
        obtain ⟨v, y, rfl, hv, hR⟩ := ht rfl
        refine (show (if true = true then _ else _) from hv _ ⟨acc, h1, ?_, hN _ ⟨acc ++ [v], ys1 ++ [y], ys3, upd_same, h2.app (.cons hR .nil), fun a o q => ?_, hr, ?_, ?_⟩⟩)
        · rw [sizeLine_eq]; simp only [List.length_cons] at h6; omega
        · rw [upd_ne (ne_of_none q hP)]; exact h3 a o q
        · rw [← h5, ← h4, List.append_assoc]; rfl
        · rw [List.length_append]; simp only [List.length_cons, List.length_nil] at h6 ⊢; omega
      | false =>
        have hn := hn rfl
        subst hn
        refine (show (if false = true then _ else _) from hN _ ⟨acc, ys1, ys3, h1, h2, h3, hr, ?_, ?_⟩)
        · rw [← h5, ← h4]; rfl
        · simp only [List.length_cons] at h6; omega
theorem CPv.done {α β : Type} {τ : Rep K β} {P : Addr} {f : α → Option (Option β)} {ys : List β} {H' : Hp} (p : CPv τ S H P f ys [] H') : ∃ acc, H' P = some (.lst acc) ∧ RL τ S acc ys ∧ Same H H' := by
  obtain ⟨acc, ys1, ys2, h1, h2, h3, h4, h5, _⟩ := p
  have : ys2 = [] := (Option.some.inj h4).symm
  subst this
  rw [List.append_nil] at h5
  subst h5
  exact ⟨acc, h1, h2, h3⟩
theorem c_lcR1 {β : Type} {τ : Rep K β} {n : Int} {f : Int → Option (Option β)} {ys : List β} {j : Nat} (ha : VA tr σ H [.int n]) (hj : gR n) (h : compO f (rangeI 0 n.toNat) = some ys)
    (turn : ∀ x H', Same H H' → ∀ r, f x = some r → ∃ b, Ans tt (σ.set j (some (.int x))) H' b ∧ (b = true → ∃ v y, r = some y ∧ Val te (σ.set j (some (.int x))) H' v ∧ τ.R S v y) ∧ (b = false → r = none))
    (k : ∀ p ws H', Same H H' → H p = none → H' p = some (.lst ws) → RL τ S ws ys → Q (.ref p) H') : tLc (iRng1 tr) (gName j) tt te [j] σ H Q :=
  ha _ ⟨n, rfl, hj.1, hj.2, fun P hP => turnsC_range (CPv τ S H P f ys) (CPv.start hP h) (fun x xs H' p N hN => CPv.turn hP rfl (fun H' e r hr => turn x H' e r hr) p N hN) fun H' p => by
    obtain ⟨acc, h1, h2, h3⟩ := p.done
    exact k P acc H' h3 hP h1 h2⟩
theorem c_lcR2 {β : Type} {τ : Rep K β} {m n : Int} {f : Int → Option (Option β)} {ys : List β} {j : Nat} (ha : VA tr σ H [.int m, .int n]) (hj : gR2 m n) (h : compO f (rangeI m (n - m).toNat) = some ys)
    (turn : ∀ x H', Same H H' → ∀ r, f x = some r → ∃ b, Ans tt (σ.set j (some (.int x))) H' b ∧ (b = true → ∃ v y, r = some y ∧ Val te (σ.set j (some (.int x))) H' v ∧ τ.R S v y) ∧ (b = false → r = none))
    (k : ∀ p ws H', Same H H' → H p = none → H' p = some (.lst ws) → RL τ S ws ys → Q (.ref p) H') : tLc (iRng2 tr) (gName j) tt te [j] σ H Q :=
  ha _ ⟨m, n, rfl, hj, fun P hP => turnsC_range (CPv τ S H P f ys) (CPv.start hP h) (fun x xs H' p N hN => CPv.turn hP rfl (fun H' e r hr => turn x H' e r hr) p N hN) fun H' p => by
    obtain ⟨acc, h1, h2, h3⟩ := p.done
    exact k P acc H' h3 hP h1 h2⟩
theorem c_lcL {α β : Type} {τ : Rep K β} {R : V → α → Prop} {a : Addr} {us : List V} {xs : List α} {f : α → Option (Option β)} {ys : List β} {j : Nat} (ha : Val tl σ H (.ref a)) (hq : SqL K H a us) (hp : Paired R us xs) (h : compO f xs = some ys)
    (turn : ∀ w x H', R w x → Same H H' → ∀ r, f x = some r → ∃ b, Ans tt (σ.set j (some w)) H' b ∧ (b = true → ∃ v y, r = some y ∧ Val te (σ.set j (some w)) H' v ∧ τ.R S v y) ∧ (b = false → r = none))
    (k : ∀ p ws H', Same H H' → H p = none → H' p = some (.lst ws) → RL τ S ws ys → Q (.ref p) H') : tLc (iList K tl) (gName j) tt te [j] σ H Q :=
  ha _ ⟨a, rfl, ⟨us, hq⟩, fun P hP => turnsC_list hp (CPv τ S H P f ys) (CPv.start hP h) (fun zs H' p => by
    obtain ⟨_, _, _, _, _, e, _⟩ := p
    exact e.seq hq) (fun w x xs H' rw_ p N hN => CPv.turn hP rfl (fun H' e r hr => turn w x H' rw_ e r hr) p N hN) fun H' p => by
    obtain ⟨acc, h1, h2, h3⟩ := p.done
    exact k P acc H' h3 hP h1 h2⟩
theorem a_yes {b : Bool} (h : b = true) : Ans tYes σ H b := by subst h; exact fun _ q => q

/-! ### further forms of loops -/
theorem z_forLE {g : TG} {tb : TS} (h : tl σ H fun x H1 => tSeq (tFor (iList K (tC x)) g tb) tu D σ H1) : tSeq (tFor (iList K tl) g tb) tu D σ H := h
theorem c_lcLE {g : TG} {vs : List Nat} (h : tl σ H fun x H1 => tLc (iList K (tC x)) g tt te vs σ H1 Q) : tLc (iList K tl) g tt te vs σ H Q := h
theorem v_ixq2 {α : Type} {τ : Rep K α} {xs : List α} {q : α} {i : Int} (e : Same S H) (hr : (qQ τ).R S v xs) (hx : atI xs i = some q) : ∃ w, (∀ {σ : L2.St} {ta tb : TE}, Val ta σ H v → Val tb σ H (.int i) → Val (tOp (rIxL K) ta tb) σ H w) ∧ τ.R S w q := by
  obtain ⟨a, ws, rfl, h2, h3⟩ := hr
  obtain ⟨w, ew, r⟩ := h3.at hx
  exact ⟨w, fun ha hb Q z => ha _ (hb _ ⟨a, ws, i, w, rfl, rfl, e.seq h2, ew, z⟩), r⟩
theorem v_ixc {α : Type} {τ : Rep K α} {l : Addr} {ws : List V} {xs : List α} {q : α} {i : Int} (hl : H l = some (.lst ws)) (hr : RL τ S ws xs) (hx : atI xs i = some q) : ∃ w, (∀ {σ : L2.St} {ta tb : TE}, Val ta σ H (.ref l) → Val tb σ H (.int i) → Val (tOp (rIxL K) ta tb) σ H w) ∧ τ.R S w q := by
  obtain ⟨w, ew, r⟩ := hr.at hx
  exact ⟨w, fun ha hb Q z => ha _ (hb _ ⟨l, ws, i, w, rfl, rfl, SqL.of hl, ew, z⟩), r⟩
/-- a part of a tuple -/
theorem v_p20 {α β : Type} {τ : Rep K α} {υ : Rep K β} {p : α × β} (e : Same S H) (hr : (qT2 τ υ).R S v p) : ∃ w, (∀ {σ : L2.St} {ta tb : TE}, Val ta σ H v → Val tb σ H (.int 0) → Val (tOp (rIxT K) ta tb) σ H w) ∧ τ.R S w p.1 := by
  obtain ⟨a, w1, w2, rfl, h2, h3, _⟩ := hr
  exact ⟨w1, fun ha hb Q q => ha _ (hb _ ⟨a, _, 0, _, rfl, rfl, SqT.of (e _ _ h2), rfl, q⟩), h3⟩
theorem v_p21 {α β : Type} {τ : Rep K α} {υ : Rep K β} {p : α × β} (e : Same S H) (hr : (qT2 τ υ).R S v p) : ∃ w, (∀ {σ : L2.St} {ta tb : TE}, Val ta σ H v → Val tb σ H (.int 1) → Val (tOp (rIxT K) ta tb) σ H w) ∧ υ.R S w p.2 := by
  obtain ⟨a, w1, w2, rfl, h2, _, h3⟩ := hr
  exact ⟨w2, fun ha hb Q q => ha _ (hb _ ⟨a, _, 1, _, rfl, rfl, SqT.of (e _ _ h2), rfl, q⟩), h3⟩
theorem eun2 {α β γ : Type} {f : α → β → γ} {a : α} {b : β} {r : γ} (h : un2 f (a, b) = r) : f a b = r := h
theorem eun3 {α β γ δ : Type} {f : α → β → γ → δ} {a : α} {b : β} {c : γ} {r : δ} (h : un3 f (a, b, c) = r) : f a b c = r := h
theorem eun4 {α β γ δ ε : Type} {f : α → β → γ → δ → ε} {a : α} {b : β} {c : γ} {d : δ} {r : ε} (h : un4 f (a, b, c, d) = r) : f a b c d = r := h
theorem eun5 {α β γ δ ε ζ : Type} {f : α → β → γ → δ → ε → ζ} {a : α} {b : β} {c : γ} {d : δ} {e : ε} {r : ζ} (h : un5 f (a, b, c, d, e) = r) : f a b c d e = r := h
theorem OP.nameW {σ : Type} {c : σ → Option Bool} {f : σ → Option σ} {n : Nat} {s : σ} {A : σ → Prop} (h : OP (Z.whileO c f n s) A) : ∃ C F, C = c ∧ F = f ∧ OP (Z.whileO C F n s) A := ⟨c, f, rfl, rfl, h⟩
theorem OP.nameX {σ ρ : Type} {c : σ → Option Bool} {f : σ → Option (σ ⊕ ρ)} {n : Nat} {s : σ} {A : σ ⊕ ρ → Prop} (h : OP (Z.whileR c f n s) A) : ∃ C F, C = c ∧ F = f ∧ OP (Z.whileR C F n s) A := ⟨c, f, rfl, rfl, h⟩
theorem fcall {σ τ : Type} {F f : σ → Option τ} {s : σ} {r : τ} (e : F = f) (h : F s = some r) : f s = some r := e ▸ h
theorem nn_t2 {α β : Type} {τ : Rep K α} {υ : Rep K β} {p : α × β} (hr : (qT2 τ υ).R H v p) : v ≠ .non := by
  obtain ⟨a, w1, w2, rfl, _⟩ := hr
  exact fun z => nomatch z
theorem nn_l {α : Type} {τ : Rep K α} {xs : List α} (hr : (qL τ).R H v xs) : v ≠ .non := by
  obtain ⟨a, ws, rfl, _⟩ := hr
  exact fun z => nomatch z
theorem v_isiO {T n : String} {α : Type} {τ : Rep K α} {o : Option α} (ha : Val ta σ H v) (hr : (qOpt τ).R H v o) (ty : ∀ {y : α}, τ.R H v y → TyX K H v (.type T)) (hk : kitB T n = some true) (hn : kitB "NoneType" n = some false) : Val (tCB (rIsi K) (tCons ta (tCons (tC (.ty n)) tNil))) σ H (.bl o.isSome) := by
  cases o with
  | none =>
    cases (show v = .non from hr)
    exact v_isi ha ty_non hn
  | some y => exact v_isi ha (ty hr.2) hk
theorem v_isiN {T n : String} {α : Type} {τ : Rep K α} {o : Option α} (ha : Val ta σ H v) (hr : (qOpt τ).R H v o) (ty : ∀ {y : α}, τ.R H v y → TyX K H v (.type T)) (hk : kitB T n = some false) (hn : kitB "NoneType" n = some false) : Val (tCB (rIsi K) (tCons ta (tCons (tC (.ty n)) tNil))) σ H (.bl false) := by
  cases o with
  | none =>
    cases (show v = .non from hr)
    exact v_isi ha ty_non hn
  | some y => exact v_isi ha (ty hr.2) hk
end
end Z

namespace Z
open PySem PySem.Spec PyProof.Rows L2

/-! ### answers -/
theorem OP.fin {α : Type} {A F : α → Prop} {x : α} (hA : A = F) (h : OP (Option.some x) A) : F x := hA ▸ h
def EXP {α : Type} (r : Except Nat α) (P : α → Prop) (N : Nat → Prop) : Prop := match r with
  | .ok x => P x
  | .error c => N c
theorem EXP.ok {α : Type} {x : α} {P : α → Prop} {N : Nat → Prop} (h : EXP (.ok x) P N) : P x := h
theorem EXP.er {α : Type} {c : Nat} {P : α → Prop} {N : Nat → Prop} (h : EXP (.error c) P N) : N c := h
theorem LM0 {P : Addr → Prop} : ∀ l ∈ ([] : List Addr), P l := fun _ h => nomatch h
theorem LM1 {P : Addr → Prop} {a : Addr} {as : List Addr} (h : P a) (t : ∀ l ∈ as, P l) : ∀ l ∈ a :: as, P l := fun l q => by
  cases q with
  | head => exact h
  | tail _ q => exact t l q
theorem NM0 {a : Addr} : a ∉ ([] : List Addr) := fun h => nomatch h
theorem NM1 {a b : Addr} {bs : List Addr} (h : a ≠ b) (t : a ∉ bs) : a ∉ b :: bs := fun q => by
  cases q with
  | head => exact h rfl
  | tail _ q => exact t q

section
variable {K : PySem.W.Frag} {σ σ' : L2.St} {S S1 H S0 H0 : Hp} {L L' : List Addr} {ta tb te tl : TE} {t u tc : TT} {tr : TA} {x y z v : V} {i j : Int} {b c : Bool} {Q : VK} {D : Ends} {t1 t2 tu : TS} {g : TG} {vs ws : List V}

/-! ### lists that are only read -/
/-- a list written by the top -/
def Wr (K : PySem.W.Frag) (a : Addr) (xs : List V) : Prop := ∃ (o : Obj) (its : Array Value) (n : Nat), K.lookup a = some o ∧ o.cls = .type "list" ∧ o.dict = none ∧ o.data = .seq its n ∧ its.size ≤ sizeLine ∧ Vals xs its.toList
def StL (K : PySem.W.Frag) (L : List Addr) (H0 : Hp) (a : Addr) (ws : List V) : Prop := ((H0 a = some (.lst ws) ∨ ∃ o, H0 a = some (.frz o (.lst ws))) ∧ a ∉ L) ∨ Wr K a ws
theorem StL.sq {a : Addr} (h : StL K L H0 a ws) : SqL K H0 a ws := by
  rcases h with ⟨h | ⟨o, h⟩, _⟩ | h
  · exact .inl (.inl h)
  · exact .inl (.inr ⟨o, h⟩)
  · exact .inr h
theorem Grow.st {a : Addr} (g : Grow L S0 H0 S H) (h : StL K L H0 a ws) : StL K L H a ws := by
  rcases h with ⟨h | ⟨o, h⟩, n⟩ | h
  · exact .inl ⟨.inl (g.hh _ _ n h), n⟩
  · exact .inl ⟨.inr ⟨o, g.hh _ _ n h⟩, n⟩
  · exact .inr h
theorem Grow.sq {a : Addr} (g : Grow L S0 H0 S H) (h : StL K L H0 a ws) : SqL K H a ws := (g.st h).sq
theorem StL.to {a : Addr} (h : StL K L H0 a ws) (g : Grow L S0 H0 S H) (hL : ∀ l ∈ L', H0 l = none ∨ l ∈ L) : StL K L' H a ws := by
  rcases h with ⟨q, n⟩ | q
  · rcases g.st (.inl ⟨q, n⟩ : StL K L H0 a ws) with ⟨q', _⟩ | q'
    · refine .inl ⟨q', fun m => ?_⟩
      rcases hL a m with z | z
      · rcases q with q | ⟨o, q⟩
        · rw [z] at q; cases q
        · rw [z] at q; cases q
      · exact n z
    · exact .inr q'
  · exact .inr q
def RdL {α : Type} (τ : Rep K α) (L : List Addr) (S H0 : Hp) (v : V) (x : List α) : Prop := ∃ a ws, v = .ref a ∧ StL K L H0 a ws ∧ RL τ S ws x
/-- what a loop, a slice .. reads -/
def LS {α : Type} (τ : Rep K α) (S H : Hp) (v : V) (x : List α) : Prop := ∃ a ws, v = .ref a ∧ SqL K H a ws ∧ RL τ S ws x
def LP {α : Type} (τ : Rep K α) (S H : Hp) (v : V) (x : List α) : Prop := ∃ a ws, v = .ref a ∧ H a = some (.lst ws) ∧ RL τ S ws x
section
variable {α : Type} {τ : Rep K α} {xs ys : List α} {l : Addr} {o o' : HO}
theorem RdL.mono (e : Same S S1) (h : RdL τ L S H0 v xs) : RdL τ L S1 H0 v xs := by
  obtain ⟨a, ws, rfl, h1, h2⟩ := h
  exact ⟨a, ws, rfl, h1, RL.mono e h2⟩
theorem RdL.q (g : Grow L S0 H0 S H) (h : RdL τ L S H0 v xs) : (qQ τ).R H v xs := by
  obtain ⟨a, ws, rfl, h1, h2⟩ := h
  exact ⟨a, ws, rfl, g.sq h1, RL.mono g.sh h2⟩
theorem RdL.to (g : Grow L S0 H0 S H) (h : RdL τ L S H0 v xs) (hL : ∀ l ∈ L', H0 l = none ∨ l ∈ L) : RdL τ L' S H v xs := by
  obtain ⟨a, ws, rfl, h1, h2⟩ := h
  exact ⟨a, ws, rfl, h1.to g hL, h2⟩
theorem RdL.ofL (e : Same S H) (h : (qL τ).R S v xs) (hL : ∀ l ∈ L', S l = none) : RdL τ L' S H v xs := by
  obtain ⟨a, ws, rfl, h1, h2⟩ := h
  exact ⟨a, ws, rfl, .inl ⟨.inl (e _ _ h1), fun m => by rw [hL a m] at h1; cases h1⟩, h2⟩
theorem RdL.ofC (h : H l = some (.lst ws)) (n : l ∉ L') (r : RL τ S ws xs) : RdL τ L' S H (.ref l) xs := ⟨l, ws, rfl, .inl ⟨.inl h, n⟩, r⟩
theorem RdL.start {a : Addr} (h : SqL K H a ws) (r : RL τ S ws xs) : RdL τ [] S H (.ref a) xs := by
  refine ⟨a, ws, rfl, ?_, r⟩
  rcases h with (h | ⟨o, h⟩) | h
  · exact .inl ⟨.inl h, NM0⟩
  · exact .inl ⟨.inr ⟨o, h⟩, NM0⟩
  · exact .inr h
theorem RdL.ofQ (e : Same S H) (h : (qQ τ).R S v xs) (_ : ∀ l ∈ ([] : List Addr), S l = none) : RdL τ [] S H v xs := by
  obtain ⟨a, ws, rfl, h1, h2⟩ := h
  exact RdL.start (e.seq h1) h2
theorem qL_of (h : H l = some (.lst ws)) (r : RL τ H ws xs) : (qL τ).R H (.ref l) xs := ⟨l, ws, rfl, h, r⟩
theorem LS.ofL (e : Same S H) (h : (qL τ).R S v xs) : LS τ S H v xs := by
  obtain ⟨a, ws, rfl, h1, h2⟩ := h
  exact ⟨a, ws, rfl, SqL.of (e _ _ h1), h2⟩
theorem LS.ofQ (e : Same S H) (h : (qQ τ).R S v xs) : LS τ S H v xs := by
  obtain ⟨a, ws, rfl, h1, h2⟩ := h
  exact ⟨a, ws, rfl, e.seq h1, h2⟩
theorem LS.rd (g : Grow L S0 H0 S H) (h : RdL τ L S H0 v xs) : LS τ S H v xs := by
  obtain ⟨a, ws, rfl, h1, h2⟩ := h
  exact ⟨a, ws, rfl, g.sq h1, h2⟩
theorem LS.cel (h : H l = some (.lst ws)) (r : RL τ S ws xs) : LS τ S H (.ref l) xs := ⟨l, ws, rfl, SqL.of h, r⟩
theorem LP.ofL (e : Same S H) (h : (qL τ).R S v xs) : LP τ S H v xs := by
  obtain ⟨a, ws, rfl, h1, h2⟩ := h
  exact ⟨a, ws, rfl, e _ _ h1, h2⟩
theorem LP.cel (h : H l = some (.lst ws)) (r : RL τ S ws xs) : LP τ S H (.ref l) xs := ⟨l, ws, rfl, h, r⟩
theorem c_freeze (g : Grow L S0 H0 S H) (c : Cel L H0 S H l (.lst ws)) (z : H0 l = none) (r : RL τ S ws xs) :
    ∃ S1, Grow L S0 H0 S1 H ∧ Same S S1 ∧ (qL τ).R S1 (.ref l) xs ∧ ∀ l' o', l' ≠ l → Cel L H0 S H l' o' → Cel L H0 S1 H l' o' :=
  ⟨_, g.freeze c z, same_upd c.s, ⟨l, ws, rfl, upd_same, RL.mono (same_upd c.s) r⟩, fun _ _ n c' => c'.freeze n⟩
theorem look_none {ns : List Str} {fs : List (Str × V)} {m : Str} (e : fs.map (·.1) = ns) (h : m ∉ ns) : fs.lookup m = none := by
  subst e
  induction fs with
  | nil => rfl
  | cons p fs ih =>
    obtain ⟨k, w⟩ := p
    rw [List.map_cons, List.mem_cons, not_or] at h
    rw [List.lookup_cons]
    have : (m == k) = false := beq_eq_false_iff_ne.mpr h.1
    rw [this]
    exact ih h.2

/-! ### values -/
theorem nn_q (h : (qQ τ).R H v xs) : v ≠ .non := by
  obtain ⟨a, ws, rfl, _⟩ := h
  exact fun z => nomatch z
theorem ty_q (h : (qQ τ).R H v xs) : TyX K H v (.type "list") := by
  obtain ⟨a, ws, rfl, h, _⟩ := h
  rcases h with (h | ⟨o, h⟩) | ⟨o, its, n, h, c, _⟩
  · exact .base (.lst h)
  · exact .base (.frz h)
  · exact .kList h c
theorem dec_nn (h : v ≠ .non) : decide (v = .non) = false := decide_eq_false h
theorem dec_nnN (h : v ≠ .non) : (!decide (v = .non)) = true := by rw [decide_eq_false h]; rfl
theorem ty_scI (h : (qI (K := K)).R H v i) : TyX K H v (.type "int") := by cases h; exact ty_int
theorem ty_scB (h : (qB (K := K)).R H v b) : TyX K H v (.type "bool") := by cases h; exact ty_bl
theorem ty_scS {s : Str} (h : (qS (K := K)).R H v s) : TyX K H v (.type "str") := by cases h; exact ty_str
theorem v_catS {s t : Str} (ha : Val ta σ H (.str s)) (hb : Val tb σ H (.str t)) (hz : s.length + t.length ≤ 16777216) : Val (tOp (fun x y H Q => ∃ i j, x = .str i ∧ y = .str j ∧ i.length + j.length ≤ sizeLine ∧ Q (.str (i ++ j)) H) ta tb) σ H (.str (s ++ t)) := fun Q q => ha _ (hb _ ⟨s, t, rfl, rfl, hz, q⟩)
theorem e_catS {s t : Str} (hz : s.length + t.length ≤ 16777216) (q : Q (.str (s ++ t)) H) : (fun (x y : V) (H : Hp) (Q : VK) => ∃ i j, x = .str i ∧ y = .str j ∧ i.length + j.length ≤ sizeLine ∧ Q (.str (i ++ j)) H) (.str s) (.str t) H Q := ⟨s, t, rfl, rfl, hz, q⟩
theorem v_lenS {s : Str} (hz : s.length ≤ 16777216) (ha : Val ta σ H (.str s)) : Val (tCB (fun xs H Q => ∃ z, xs = [.str z] ∧ z.length ≤ sizeLine ∧ Q (.int z.length) H) (tCons ta tNil)) σ H (.int (s.length : Int)) := fun Q q => ha _ ⟨s, rfl, hz, q⟩
theorem e_len (h : (qQ τ).R H v xs) (q : Q (.int (xs.length : Int)) H) : rLenS K [v] H Q := by
  obtain ⟨a, ws, rfl, h2, h3⟩ := h
  exact ⟨a, ws, rfl, .inl h2, by rw [h3.length]; exact q⟩
theorem ints_of {xs : List Int} : ∀ {ws : List V}, RL (K := K) qI H ws xs → ws = xs.map V.int := fun h => RL.eqmap V.int (fun _ _ q => q) h
theorem e_sum {xs : List Int} (h : (qQ (K := K) qI).R H v xs) (q : Q (.int xs.sum) H) : rSum K [v] H Q := by
  obtain ⟨a, ws, rfl, h2, h3⟩ := h
  exact ⟨a, xs, rfl, by rw [← ints_of h3]; exact h2, q⟩
theorem v_sum {xs : List Int} (ha : Val ta σ H v) (h : (qQ (K := K) qI).R H v xs) : Val (tCB (rSum K) (tCons ta tNil)) σ H (.int xs.sum) := fun Q q => ha _ (e_sum h q)
theorem e_isN (e : decide (x = .non) = b) (q : Q (.bl b) H) : rIsN x .non H Q := ⟨rfl, by rw [e]; exact q⟩
theorem e_notN (e : (!decide (x = .non)) = b) (q : Q (.bl b) H) : rNotN x .non H Q := ⟨rfl, by rw [e]; exact q⟩
/-- pairs of whole numbers in order -/
def ltP2 (p q : Int × Int) : Bool := SrtO.lexB p q
theorem lex2 (p q : Int × Int) : HT.lexLt [p.1, p.2] [q.1, q.2] = ltP2 p q := by
  unfold ltP2 SrtO.lexB
  rw [HT.lexLt_cons, HT.lexLt_cons, HT.lexLt_nil_nil]
  by_cases h1 : p.1 = q.1
  · rw [if_pos h1, if_pos h1]
    by_cases h2 : p.2 = q.2
    · rw [if_pos h2, h2]; simp
    · rw [if_neg h2]
  · rw [if_neg h1, if_neg h1]
def rPair (f : Int × Int → Int × Int → Bool) (K : PySem.W.Frag) : R2 := fun x y H Q => ∃ (a b : Addr) (p q : Int × Int), x = .ref a ∧ y = .ref b ∧ SqT K H a [.int p.1, .int p.2] ∧ SqT K H b [.int q.1, .int q.2] ∧ Q (.bl (f p q)) H
theorem op_ltP {X : Cx} (hu : X.A.units < cLine) : OpR X (compareOp .Lt) (rPair ltP2 X.K) := fun pins s σ H x y v u Q I rx ry h => by
  obtain ⟨a, b, p, q, rfl, rfl, ha, hb, k⟩ := h
  exact op_ltT hu pins s σ H _ _ v u Q I rx ry ⟨a, b, [p.1, p.2], [q.1, q.2], rfl, rfl, ha, hb, by rw [lex2]; exact k⟩
theorem op_geP {X : Cx} (hu : X.A.units < cLine) : OpR X (compareOp .GtE) (rPair (fun p q => !ltP2 p q) X.K) := by
  intro pins s σ H x y v u Q I rx ry h
  obtain ⟨a, b, p, q, rfl, rfl, ha, hb, k⟩ := h
  cases rx
  cases ry
  obtain ⟨its, r1, p1, _⟩ := I.tuple ha
  obtain ⟨its2, r2, p2, _⟩ := I.tuple hb
  obtain ⟨ns, ens⟩ : ∃ ns, ns = [p.1, p.2] := ⟨_, rfl⟩
  obtain ⟨ms, ems⟩ : ∃ ms, ms = [q.1, q.2] := ⟨_, rfl⟩
  have i1 : IntsAre its ns := by rw [ens]; exact Vals.ints (ns := [p.1, p.2]) r1
  have i2 : IntsAre its2 ms := by rw [ems]; exact Vals.ints (ns := [q.1, q.2]) r2
  have e1 : its.toArray.size = ns.length := by rw [List.size_toArray]; exact i1.length
  have e2 : its2.toArray.size = ms.length := by rw [List.size_toArray]; exact i2.length
  have at1 : ∀ j (h1 : j < its.toArray.size), ∃ t, its.toArray[j] = .int (ns.getD j 0) t := fun j h1 => PyProof.Rows.IntsAre.int_at i1 _ _ (by simp at h1; simp [h1])
  have at2 : ∀ j (h1 : j < its2.toArray.size), ∃ t, its2.toArray[j] = .int (ms.getD j 0) t := fun j h1 => PyProof.Rows.IntsAre.int_at i2 _ _ (by simp at h1; simp [h1])
  have R := Ob.RcOp.tuples_ge (A := X.A) (s := s) (e := fun j => decide (ns.getD j 0 = ms.getD j 0)) (r := fun j => decide (ms.getD j 0 ≤ ns.getD j 0)) p1 p2 hu (fun j h1 h2 => by
    obtain ⟨t, et⟩ := at1 j h1
    obtain ⟨t', et'⟩ := at2 j h2
    rw [et, et']
    have z : (ns.getD j 0 == ms.getD j 0) = decide (ns.getD j 0 = ms.getD j 0) := by
      by_cases q : ns.getD j 0 = ms.getD j 0
      · rw [decide_eq_true q]; exact beq_iff_eq.mpr q
      · rw [decide_eq_false q]; exact beq_eq_false_iff_ne.mpr q
    rw [← z]
    exact SeqAt.EqAt.int_int _ _ _ _) (fun j h1 h2 _ => by
    obtain ⟨t, et⟩ := at1 j h1
    obtain ⟨t', et'⟩ := at2 j h2
    rw [et, et']
    exact Ob.RcOp.ge_int _ _ _ _)
  rw [e1, e2] at R
  have key : Ob.lexAt (fun j => decide (ns.getD j 0 = ms.getD j 0)) (fun j => decide (ms.getD j 0 ≤ ns.getD j 0)) (decide (ns.length ≥ ms.length)) 0 (min ns.length ms.length) = !ltP2 p q := by
    subst ens; subst ems
    show Ob.lexAt _ _ _ 0 2 = _
    rw [Ob.lexAt_succ, Ob.lexAt_succ, Ob.lexAt_zero]
    unfold ltP2 SrtO.lexB
    simp only [List.getD_cons_zero, List.getD_cons_succ, decide_eq_true_iff]
    by_cases h1 : p.1 = q.1
    · rw [if_pos h1, if_pos h1]
      by_cases h2 : p.2 = q.2
      · rw [if_pos h2, h2]; simp
      · rw [if_neg h2]
        have : decide (q.2 ≤ p.2) = !decide (p.2 < q.2) := by rw [← decide_not]; exact decide_eq_decide.mpr (by omega)
        rw [this]
    · rw [if_neg h1, if_neg h1]
      have : decide (q.1 ≤ p.1) = !decide (p.1 < q.1) := by rw [← decide_not]; exact decide_eq_decide.mpr (by omega)
      rw [this]
  rw [key] at R
  have z : wpAny (model X.prog X.w) X.A (compareOp .GtE (.ref a) (.ref b)) (EP X pins σ Q) X.xe s := R X.prog X.w X.xe (EP X pins σ Q) ⟨.bl _, H, I, rfl, k⟩
  exact z
theorem e_P2 {f : Int × Int → Int × Int → Bool} {p q : Int × Int} (h1 : (qT2 (K := K) qI qI).R H x p) (h2 : (qT2 (K := K) qI qI).R H y q) (k : Q (.bl (f p q)) H) : rPair f K x y H Q := by
  obtain ⟨a, w1, w2, rfl, ha, rfl, rfl⟩ := h1
  obtain ⟨b, u1, u2, rfl, hb, rfl, rfl⟩ := h2
  exact ⟨a, b, p, q, rfl, rfl, SqT.of ha, SqT.of hb, k⟩
theorem v_P2 {f : Int × Int → Int × Int → Bool} {p q : Int × Int} (ha : Val ta σ H x) (hb : Val tb σ H y) (h1 : (qT2 (K := K) qI qI).R H x p) (h2 : (qT2 (K := K) qI qI).R H y q) : Val (tOp (rPair f K) ta tb) σ H (.bl (f p q)) := fun Q k => ha _ (hb _ (e_P2 h1 h2 k))

/-! ### new lists -/
theorem l_slice {lo hi : Option Int} (h : LS τ S H v xs) (k : ∀ p ws H', Same H H' → H p = none → H' p = some (.lst ws) → RL τ S ws (cutI xs lo hi) → Q (.ref p) H') : rSlL K v lo hi H Q := by
  obtain ⟨a, ws, rfl, h2, h3⟩ := h
  exact ⟨a, ws, rfl, h2, fun l hl => k l _ _ (same_upd hl) hl upd_same (h3.cut lo hi)⟩
theorem l_list (h : LS τ S H v xs) (k : ∀ p ws H', Same H H' → H p = none → H' p = some (.lst ws) → RL τ S ws xs → Q (.ref p) H') :
    ∃ p ys, [v] = [.ref p] ∧ (SqL K H p ys ∨ SqT K H p ys) ∧ ∀ l, H l = none → Q (.ref l) (upd H l (.lst ys)) := by
  obtain ⟨a, ws, rfl, h2, h3⟩ := h
  exact ⟨a, ws, rfl, .inl h2, fun l hl => k l ws _ (same_upd hl) hl upd_same h3⟩
theorem l_cat (h1 : LP τ S H x xs) (h2 : LP τ S H y ys) (hz : xs.length + ys.length ≤ 16777216) (k : ∀ p ws H', Same H H' → H p = none → H' p = some (.lst ws) → RL τ S ws (xs ++ ys) → Q (.ref p) H') : rCat x y H Q := by
  obtain ⟨a, ws, rfl, ha, ra⟩ := h1
  obtain ⟨b, us, rfl, hb, rb⟩ := h2
  exact ⟨a, b, ws, us, rfl, rfl, ha, hb, by rw [ra.length, rb.length]; exact hz, fun p hp => k p _ _ (same_upd hp) hp upd_same (ra.app rb)⟩
/-- rising, by insertion -/
def insB {β : Type} (lt : β → β → Bool) (x : β) : List β → List β
  | [] => [x]
  | y :: ys => if lt y x = true then y :: insB lt x ys else x :: y :: ys
def sortB {β : Type} (lt : β → β → Bool) : List β → List β
  | [] => []
  | x :: xs => insB lt x (sortB lt xs)
theorem insB_perm {β : Type} {lt : β → β → Bool} {x : β} : ∀ ys : List β, (insB lt x ys).Perm (x :: ys)
  | [] => .refl _
  | y :: ys => by
    unfold insB
    split
    · exact ((insB_perm ys).cons y).trans (.swap x y ys)
    · exact .refl _
theorem sortB_perm {β : Type} {lt : β → β → Bool} : ∀ xs : List β, (sortB lt xs).Perm xs
  | [] => .refl _
  | x :: xs => (insB_perm _).trans ((sortB_perm xs).cons x)
theorem insB_srt {β : Type} {lt : β → β → Bool} (asy : ∀ a b, lt a b = true → lt b a = false) (tr : ∀ a b c, lt b a = false → lt c b = false → lt c a = false) {x : β} : ∀ {ys : List β}, SrtO.Srtd lt ys → SrtO.Srtd lt (insB lt x ys)
  | [], _ => List.pairwise_singleton _ _
  | y :: ys, h => by
    unfold insB
    obtain ⟨h1, h2⟩ := List.pairwise_cons.mp h
    split
    · rename_i q
      refine List.pairwise_cons.mpr ⟨fun z hz => ?_, insB_srt asy tr h2⟩
      rcases List.mem_cons.mp ((insB_perm ys).mem_iff.mp hz) with rfl | hz
      · exact asy _ _ q
      · exact h1 z hz
    · rename_i q
      have q : lt y x = false := by cases e : lt y x <;> simp_all
      refine List.pairwise_cons.mpr ⟨fun z hz => ?_, h⟩
      rcases List.mem_cons.mp hz with rfl | hz
      · exact q
      · exact tr _ _ _ q (h1 z hz)
theorem sortB_srt {β : Type} {lt : β → β → Bool} (asy : ∀ a b, lt a b = true → lt b a = false) (tr : ∀ a b c, lt b a = false → lt c b = false → lt c a = false) : ∀ xs : List β, SrtO.Srtd lt (sortB lt xs)
  | [] => List.Pairwise.nil
  | x :: xs => insB_srt asy tr (sortB_srt asy tr xs)
/-- two rising lists of the same things are one, where neither-below is equal -/
theorem srt_uniq {β : Type} {lt : β → β → Bool} (tot : ∀ a b, lt a b = false → lt b a = false → a = b) : ∀ {xs ys : List β}, xs.Perm ys → SrtO.Srtd lt xs → SrtO.Srtd lt ys → xs = ys
  | [], ys, p, _, _ => (List.Perm.nil_eq p)
  | x :: xs, [], p, _, _ => absurd p.length_eq (by simp)
  | x :: xs, y :: ys, p, h1, h2 => by
    obtain ⟨a1, a2⟩ := List.pairwise_cons.mp h1
    obtain ⟨b1, b2⟩ := List.pairwise_cons.mp h2
    have e : x = y := by
      rcases List.mem_cons.mp (p.mem_iff.mp List.mem_cons_self) with e | hx
      · exact e
      · rcases List.mem_cons.mp (p.mem_iff.mpr List.mem_cons_self) with e | hy
        · exact e.symm
        · exact tot x y (b1 x hx) (a1 y hy)
    subst e
    rw [srt_uniq tot (p.cons_inv) a2 b2]
abbrev sortP (xs : List (Int × Int)) : List (Int × Int) := sortB ltP2 xs
abbrev ltI (a b : Int) : Bool := decide (a < b)
abbrev sortI (xs : List Int) : List Int := sortB ltI xs
theorem ltP2_iff {p q : Int × Int} : ltP2 p q = true ↔ p.1 < q.1 ∨ (p.1 = q.1 ∧ p.2 < q.2) := SrtO.lexB_iff
theorem ltP2_no {p q : Int × Int} : ltP2 p q = false ↔ ¬ (p.1 < q.1 ∨ (p.1 = q.1 ∧ p.2 < q.2)) := SrtO.lexB_no
theorem ltP2_tot (a b : Int × Int) (h1 : ltP2 a b = false) (h2 : ltP2 b a = false) : a = b := by
  rw [ltP2_no] at h1 h2
  exact Prod.ext (by omega) (by omega)
theorem ltP2_asy (a b : Int × Int) (h : ltP2 a b = true) : ltP2 b a = false := by
  rw [ltP2_iff] at h
  rw [ltP2_no]; omega
theorem ltP2_tr (a b c : Int × Int) (h1 : ltP2 b a = false) (h2 : ltP2 c b = false) : ltP2 c a = false := by
  rw [ltP2_no] at h1 h2 ⊢; omega
theorem ltI_tot (a b : Int) (h1 : ltI a b = false) (h2 : ltI b a = false) : a = b := by
  have := of_decide_eq_false h1
  have := of_decide_eq_false h2
  omega
theorem ltI_asy (a b : Int) (h : ltI a b = true) : ltI b a = false := by
  have := of_decide_eq_true h
  exact decide_eq_false (by omega)
theorem ltI_tr (a b c : Int) (h1 : ltI b a = false) (h2 : ltI c b = false) : ltI c a = false := by
  have := of_decide_eq_false h1
  have := of_decide_eq_false h2
  exact decide_eq_false (by omega)
theorem RL.perm : ∀ {ws : List V} {xs : List α} {ws' : List V}, RL τ H ws xs → ws'.Perm ws → ∃ xs', xs'.Perm xs ∧ RL τ H ws' xs' := by
  intro ws xs ws' r p
  induction p generalizing xs with
  | nil => exact ⟨xs, .refl _, r⟩
  | cons x p ih =>
    cases r with
    | cons a b =>
      obtain ⟨ys, q, s⟩ := ih b
      exact ⟨_ :: ys, q.cons _, .cons a s⟩
  | swap x y l =>
    cases r with
    | cons a b =>
      cases b with
      | cons b c => exact ⟨_, .swap _ _ _, .cons b (.cons a c)⟩
  | trans p q ih1 ih2 =>
    obtain ⟨ys, q1, s1⟩ := ih2 r
    obtain ⟨zs, q2, s2⟩ := ih1 s1
    exact ⟨zs, q2.trans q1, s2⟩
/-- the pair that stands at a value -/
def pairAt (H : Hp) (v : V) : Int × Int := match v with
  | .ref a => match H a with
    | some (.tup [.int i, .int j]) => (i, j)
    | _ => (0, 0)
  | _ => (0, 0)
theorem pairAt_of {p : Int × Int} (h : (qT2 (K := K) qI qI).R H v p) : pairAt H v = p := by
  obtain ⟨a, w1, w2, rfl, h2, rfl, rfl⟩ := h
  simp only [pairAt, h2]
theorem l_sortP {xs : List (Int × Int)} (e : Same S H) (h : LS (qT2 (K := K) qI qI) S H v xs) (k : ∀ p ws H', Same H H' → H p = none → H' p = some (.lst ws) → RL (qT2 (K := K) qI qI) S ws (sortP xs) → Q (.ref p) H') : rSortedPO K [v] H Q := by
  obtain ⟨a, ws, rfl, h2, h3⟩ := h
  have all : ∀ {us : List V} {ys : List (Int × Int)}, RL (qT2 (K := K) qI qI) S us ys → us.map (pairAt H) = ys := by
    intro us ys r
    induction r with
    | nil => rfl
    | cons a _ ih => rw [List.map_cons, ih, pairAt_of (Rep.mono _ e a)]
  refine ⟨a, ws, pairAt H, rfl, h2, fun x hx => ?_, fun ys p h4 h5 hp => ?_⟩
  · clear all k h2
    revert hx
    induction h3 with
    | nil => intro hx; cases hx
    | cons a _ ih =>
      intro hx
      rcases List.mem_cons.mp hx with rfl | hx
      · have r := Rep.mono _ e a
        have z := pairAt_of r
        obtain ⟨t, w1, w2, rfl, ht, rfl, rfl⟩ := r
        exact ⟨t, rfl, by rw [z]; exact ht⟩
      · exact ih hx
  · obtain ⟨zs, q, r⟩ := RL.perm h3 h5.perm
    have ez : zs = ys.map (pairAt H) := (all r).symm
    have s1 : SrtO.Srtd ltP2 zs := by
      rw [ez]
      exact List.pairwise_map.mpr h4
    have : zs = sortP xs := srt_uniq ltP2_tot (q.trans (sortB_perm xs).symm) s1 (sortB_srt ltP2_asy ltP2_tr xs)
    exact k p ys _ (same_upd hp) hp upd_same (this ▸ r)
theorem l_sortI {xs : List Int} (e : Same S H) (h : LS (K := K) qI S H v xs) (k : ∀ p ws H', Same H H' → H p = none → H' p = some (.lst ws) → RL (K := K) qI S ws (sortI xs) → Q (.ref p) H') : rSortedI K [v] H Q := by
  obtain ⟨a, ws, rfl, h2, h3⟩ := h
  refine ⟨a, xs, rfl, by rw [← ints_of h3]; exact h2, fun ns p q h4 hp => ?_⟩
  have s1 : SrtO.Srtd ltI ns := h4.imp fun h => decide_eq_false (by omega)
  have : ns = sortI xs := srt_uniq ltI_tot (q.trans (sortB_perm xs).symm) s1 (sortB_srt ltI_asy ltI_tr xs)
  subst this
  exact k p _ _ (same_upd hp) hp upd_same (RL.map V.int (fun _ => rfl) _)
theorem c_sliceE {r : V → Option Int → Option Int → Hp → VK → Prop} {tl th : TO} (h : te σ H fun x H1 => tSl r (tC x) tl th σ H1 Q) : tSl r te tl th σ H Q := h
theorem c_slice2 {r : V → Option Int → Option Int → Hp → VK → Prop} {tl th : TO} {lo hi : Option Int} (hl : ∀ q : Option Int → Hp → Prop, q lo H → tl σ H q) (hh : ∀ q : Option Int → Hp → Prop, q hi H → th σ H q) (k : r v lo hi H Q) : tSl r (tC v) tl th σ H Q := hl _ (hh _ k)
/-! ### parts -/
theorem e_ix {q : α} (h : LS τ S H v xs) (hx : atI xs i = some q) (k : ∀ w, τ.R S w q → Q w H) : rIxL K v (.int i) H Q := by
  obtain ⟨a, ws, rfl, h2, h3⟩ := h
  obtain ⟨w, ew, r⟩ := h3.at hx
  exact ⟨a, ws, i, w, rfl, rfl, h2, ew, k w r⟩
theorem v_ixr {q : α} (g : Grow L S0 H0 S H) (h : RdL τ L S H0 v xs) (hx : atI xs i = some q) : ∃ w, (∀ {σ : L2.St} {ta tb : TE}, Val ta σ H v → Val tb σ H (.int i) → Val (tOp (rIxL K) ta tb) σ H w) ∧ τ.R S w q := by
  obtain ⟨a, ws, rfl, h2, h3⟩ := LS.rd g h
  obtain ⟨w, ew, r⟩ := h3.at hx
  exact ⟨w, fun ha hb Q z => ha _ (hb _ ⟨a, ws, i, w, rfl, rfl, h2, ew, z⟩), r⟩
end
section
variable {α β γ : Type} {τ : Rep K α} {υ : Rep K β} {φ : Rep K γ}
theorem e_p20 {p : α × β} (e : Same S H) (h : (qT2 τ υ).R S v p) (k : ∀ w, τ.R S w p.1 → Q w H) : rIxT K v (.int 0) H Q := by
  obtain ⟨a, w1, w2, rfl, h2, h3, h4⟩ := h
  exact ⟨a, _, 0, _, rfl, rfl, SqT.of (e _ _ h2), rfl, k w1 h3⟩
theorem e_p21 {p : α × β} (e : Same S H) (h : (qT2 τ υ).R S v p) (k : ∀ w, υ.R S w p.2 → Q w H) : rIxT K v (.int 1) H Q := by
  obtain ⟨a, w1, w2, rfl, h2, h3, h4⟩ := h
  exact ⟨a, _, 1, _, rfl, rfl, SqT.of (e _ _ h2), rfl, k w2 h4⟩
theorem g_tup2 {n : Nat} {p : α × β} {t1 t2 : TG} {q : L2.St → Hp → Prop} (hn : 2 = n) (e : Same S H) (h : (qT2 τ υ).R S v p) (k : ∀ w1 w2, τ.R S w1 p.1 → υ.R S w2 p.2 → t1 w1 σ H fun σ1 H1 => gCons t2 gNil [w2] σ1 H1 q) : gTup K n (gCons t1 (gCons t2 gNil)) v σ H q := by
  subst hn
  obtain ⟨a, w1, w2, rfl, h2, h3, h4⟩ := h
  exact ⟨a, _, rfl, SqT.of (e _ _ h2), rfl, w1, _, rfl, k w1 w2 h3 h4⟩
theorem g_tup3 {n : Nat} {p : α × β × γ} {t1 t2 t3 : TG} {q : L2.St → Hp → Prop} (hn : 3 = n) (e : Same S H) (h : (qT3 τ υ φ).R S v p) (k : ∀ w1 w2 w3, τ.R S w1 p.1 → υ.R S w2 p.2.1 → φ.R S w3 p.2.2 → t1 w1 σ H fun σ1 H1 => gCons t2 (gCons t3 gNil) [w2, w3] σ1 H1 q) : gTup K n (gCons t1 (gCons t2 (gCons t3 gNil))) v σ H q := by
  subst hn
  obtain ⟨a, w1, w2, w3, rfl, h2, h3, h4, h5⟩ := h
  exact ⟨a, _, rfl, SqT.of (e _ _ h2), rfl, w1, _, rfl, k w1 w2 w3 h3 h4 h5⟩
end
theorem g_next {t : TG} {u : TGs} {q : L2.St → Hp → Prop} (k : t v σ H fun σ' H' => u vs σ' H' q) : gCons t u (v :: vs) σ H q := ⟨v, vs, rfl, k⟩
theorem g_end {q : L2.St → Hp → Prop} (k : q σ H) : gNil [] σ H q := ⟨rfl, k⟩
/-- a new pair that is put apart at once -/
theorem g_pair {n : Nat} {p : Addr} {H2 : Hp} {t1 t2 : TG} {w1 w2 : V} {q : L2.St → Hp → Prop} (e : H2 = upd H p (.tup [w1, w2])) (h : H2 p = some (.tup [w1, w2])) (hn : 2 = n) (k : t1 w1 σ H2 fun σ1 H1 => gCons t2 gNil [w2] σ1 H1 q) : gTup K n (gCons t1 (gCons t2 gNil)) (.ref p) σ (upd H p (.tup [w1, w2])) q := by
  subst e; subst hn
  exact ⟨p, _, rfl, SqT.of h, rfl, w1, _, rfl, k⟩

/-! ### loops -/
section
variable {α β : Type} {R : V → α → Prop} {R2 : V → β → Prop} {a : Addr} {us : List V} {xs : List α} {ys : List β}
theorem paired_get {R : V → α → Prop} : ∀ {ws : List V} {xs : List α}, Paired R ws xs → ∀ {i : Nat} {w : V}, ws[i]? = some w → ∃ x, xs[i]? = some x ∧ R w x
  | _, _, .nil, i, w, h => by cases h
  | _, _, .cons r t, 0, w, h => by
    cases h
    exact ⟨_, rfl, r⟩
  | _, _, .cons r t, i + 1, w, h => paired_get t (i := i) h
/-- for x in reversed(xs) -/
theorem z_forV {ws : List V} {tl : TE} {g : TG} {tb : TS} (ha : Val tl σ H (.ref a)) (hp : Paired R ws xs) (Pv : List α → L2.St → Hp → Prop) (h0 : Pv xs.reverse σ H) (hl : ∀ ys σ' H', Pv ys σ' H' → SqL K H' a ws)
    (hs : ∀ w y ys σ' H', R w y → Pv (y :: ys) σ' H' → ∀ N : L2.St → Hp → Prop, (∀ σ'' H'', Pv ys σ'' H'' → N σ'' H'') → g w σ' H' fun σ2 H2 => tb { D with nx := N, ct := N, bk := tu D } σ2 H2) (hd : ∀ σ' H', Pv [] σ' H' → tu D σ' H') :
    tSeq (tFor (iRev K (tCons tl tNil)) g tb) tu D σ H := ha _ ⟨a, ws, rfl, hl _ _ _ h0, by
  have hlen := Paired.length hp
  refine ⟨fun i m σ H => m = ws.length - i ∧ i ≤ ws.length ∧ Pv (xs.reverse.drop i) σ H, ⟨_, rfl, Nat.zero_le _, h0⟩, ?_⟩
  rintro i m σ' H' ⟨rfl, hi, p⟩
  by_cases hlt : i < ws.length
  · have hj : ws.length - 1 - i < ws.length := by omega
    have hx : ws[ws.length - 1 - i]? = some ws[ws.length - 1 - i] := List.getElem?_eq_getElem hj
    refine .inr ⟨⟨hlt, ws, _, hl _ _ _ p, hx⟩, fun σ'' H'' => Pv (xs.reverse.drop (i + 1)) σ'' H'', fun σ'' H'' p' => ⟨ws.length - (i + 1), by omega, rfl, hlt, p'⟩, fun x H'' y => ?_⟩
    obtain ⟨rfl, f1⟩ := y
    have e1 := f1 ws (hl _ _ _ p)
    obtain ⟨q, hq, r⟩ := paired_get hp e1
    have e2 : xs.reverse[i]? = some q := by rw [List.getElem?_reverse (by omega), ← hlen]; exact hq
    have e3 : xs.reverse.drop i = q :: xs.reverse.drop (i + 1) := by
      have hi2 := (List.getElem?_eq_some_iff.mp e2)
      obtain ⟨h1, h2⟩ := hi2
      rw [List.drop_eq_getElem_cons h1, h2]
    rw [e3] at p
    exact hs x q _ σ' H'' r p _ fun _ _ z => z
  · refine .inl ⟨by show ws.length ≤ i; omega, hd σ' H' ?_⟩
    have : xs.reverse.drop i = [] := List.drop_eq_nil_of_le (by rw [List.length_reverse]; omega)
    rw [this] at p
    exact p⟩
def enumF {α : Type} : Nat → List α → List (Int × α)
  | _, [] => []
  | k, x :: xs => ((k : Nat), x) :: enumF (k + 1) xs
def enumI {α : Type} (xs : List α) : List (Int × α) := enumF 0 xs
theorem enumF_len : ∀ (xs : List α) (k : Nat), (enumF k xs).length = xs.length
  | [], _ => rfl
  | _ :: xs, k => congrArg (· + 1) (enumF_len xs (k + 1))
theorem enumF_get : ∀ (xs : List α) (k i : Nat) (x : α), xs[i]? = some x → (enumF k xs)[i]? = some (((k + i : Nat) : Int), x)
  | [], _, i, x, h => by cases h
  | y :: ys, k, 0, x, h => by cases h; rfl
  | y :: ys, k, i + 1, x, h => by
    have := enumF_get ys (k + 1) i x h
    rw [show k + (i + 1) = k + 1 + i by omega]
    exact this
/-- for i, x in enumerate(xs) -/
theorem z_forN {ws : List V} {tl : TE} {g : TG} {tb : TS} (ha : Val tl σ H (.ref a)) (hp : Paired R ws xs) (Pv : List (Int × α) → L2.St → Hp → Prop) (h0 : Pv (enumI xs) σ H) (hl : ∀ ys σ' H', Pv ys σ' H' → SqL K H' a ws)
    (hs : ∀ w (y : Int × α) ys σ' H', R w y.2 → Pv (y :: ys) σ' H' → ∀ N : L2.St → Hp → Prop, (∀ σ'' H'', Pv ys σ'' H'' → N σ'' H'') → ∀ t, H' t = none → g (.ref t) σ' (upd H' t (.tup [.int y.1, w])) fun σ2 H2 => tb { D with nx := N, ct := N, bk := tu D } σ2 H2) (hd : ∀ σ' H', Pv [] σ' H' → tu D σ' H') :
    tSeq (tFor (iEnum K (tCons tl tNil)) g tb) tu D σ H := ha _ ⟨a, ws, rfl, hl _ _ _ h0, by
  have hlen := Paired.length hp
  refine ⟨fun i m σ H => m = ws.length - i ∧ i ≤ ws.length ∧ Pv ((enumI xs).drop i) σ H, ⟨_, rfl, Nat.zero_le _, h0⟩, ?_⟩
  rintro i m σ' H' ⟨rfl, hi, p⟩
  by_cases hlt : i < ws.length
  · have hx : ws[i]? = some ws[i] := List.getElem?_eq_getElem hlt
    refine .inr ⟨⟨ws, _, hl _ _ _ p, hx⟩, fun σ'' H'' => Pv ((enumI xs).drop (i + 1)) σ'' H'', fun σ'' H'' p' => ⟨ws.length - (i + 1), by omega, rfl, hlt, p'⟩, fun x H'' y => ?_⟩
    obtain ⟨t, w, rfl, ht, rfl, f1⟩ := y
    have e1 := f1 ws (hl _ _ _ p)
    obtain ⟨q, hq, r⟩ := paired_get hp e1
    have e2 : (enumI xs)[i]? = some ((i : Int), q) := by
      have := enumF_get xs 0 i q hq
      rw [Nat.zero_add] at this
      exact this
    have e3 : (enumI xs).drop i = ((i : Int), q) :: (enumI xs).drop (i + 1) := by
      obtain ⟨h1, h2⟩ := List.getElem?_eq_some_iff.mp e2
      rw [List.drop_eq_getElem_cons h1, h2]
    rw [e3] at p
    exact hs w _ _ σ' H' r p _ (fun _ _ z => z) t ht
  · refine .inl ⟨⟨ws, hl _ _ _ p, by omega⟩, hd σ' H' ?_⟩
    have : (enumI xs).drop i = [] := List.drop_eq_nil_of_le (by unfold enumI; rw [enumF_len]; omega)
    rw [this] at p
    exact p⟩
/-- for x, y in zip(xs, ys) -/
theorem z_forZ {b : Addr} {ws vs : List V} {tl tl2 : TE} {g : TG} {tb : TS} (ha : Val tl σ H (.ref a)) (hb : Val tl2 σ H (.ref b)) (hp : Paired R ws xs) (hp2 : Paired R2 vs ys) (Pv : List (α × β) → L2.St → Hp → Prop) (h0 : Pv (List.zip xs ys) σ H) (hl : ∀ zs σ' H', Pv zs σ' H' → SqL K H' a ws ∧ SqL K H' b vs)
    (hs : ∀ w w2 (y : α × β) zs σ' H', R w y.1 → R2 w2 y.2 → Pv (y :: zs) σ' H' → ∀ N : L2.St → Hp → Prop, (∀ σ'' H'', Pv zs σ'' H'' → N σ'' H'') → ∀ t, H' t = none → g (.ref t) σ' (upd H' t (.tup [w, w2])) fun σ2 H2 => tb { D with nx := N, ct := N, bk := tu D } σ2 H2) (hd : ∀ σ' H', Pv [] σ' H' → tu D σ' H') :
    tSeq (tFor (iZip K (tCons tl (tCons tl2 tNil))) g tb) tu D σ H := ha _ (hb _ ⟨a, b, ws, vs, rfl, (hl _ _ _ h0).1, (hl _ _ _ h0).2, by
  have hlen := Paired.length hp
  have hlen2 := Paired.length hp2
  refine ⟨fun i m σ H => m = ws.length - i ∧ Pv ((List.zip xs ys).drop i) σ H, ⟨_, rfl, h0⟩, ?_⟩
  rintro i m σ' H' ⟨rfl, p⟩
  obtain ⟨qx, qy⟩ := hl _ _ _ p
  by_cases hlt : i < ws.length ∧ i < vs.length
  · obtain ⟨l1, l2⟩ := hlt
    refine .inr ⟨⟨ws, vs, _, _, qx, qy, List.getElem?_eq_getElem l1, List.getElem?_eq_getElem l2⟩, fun σ'' H'' => Pv ((List.zip xs ys).drop (i + 1)) σ'' H'', fun σ'' H'' p' => ⟨ws.length - (i + 1), by omega, rfl, p'⟩, fun x H'' y => ?_⟩
    obtain ⟨t, w, w2, rfl, ht, rfl, f1, f2⟩ := y
    obtain ⟨q, hq, r⟩ := paired_get hp (f1 ws qx)
    obtain ⟨q2, hq2, r2⟩ := paired_get hp2 (f2 vs qy)
    have e2 : (List.zip xs ys)[i]? = some (q, q2) := by rw [List.getElem?_zip_eq_some]; exact ⟨hq, hq2⟩
    have e3 : (List.zip xs ys).drop i = (q, q2) :: (List.zip xs ys).drop (i + 1) := by
      obtain ⟨h1, h2⟩ := List.getElem?_eq_some_iff.mp e2
      rw [List.drop_eq_getElem_cons h1, h2]
    rw [e3] at p
    exact hs w w2 _ _ σ' H' r r2 p _ (fun _ _ z => z) t ht
  · refine .inl ⟨⟨ws, vs, qx, qy, by omega⟩, hd σ' H' ?_⟩
    have : (List.zip xs ys).drop i = [] := List.drop_eq_nil_of_le (by rw [List.length_zip]; omega)
    rw [this] at p
    exact p⟩)
theorem z_forreversedE {g : TG} {tb : TS} (h : tl σ H fun x H1 => tSeq (tFor (iRev K (tCons (tC x) tNil)) g tb) tu D σ H1) : tSeq (tFor (iRev K (tCons tl tNil)) g tb) tu D σ H := h
theorem z_forenumerateE {g : TG} {tb : TS} (h : tl σ H fun x H1 => tSeq (tFor (iEnum K (tCons (tC x) tNil)) g tb) tu D σ H1) : tSeq (tFor (iEnum K (tCons tl tNil)) g tb) tu D σ H := h
theorem z_forzipE {tl2 : TE} {g : TG} {tb : TS} (h : tl σ H fun x H1 => tl2 σ H1 fun y H2 => tSeq (tFor (iZip K (tCons (tC x) (tCons (tC y) tNil))) g tb) tu D σ H2) : tSeq (tFor (iZip K (tCons tl (tCons tl2 tNil))) g tb) tu D σ H := h
end

/-! ### objects, calls -/
theorem v_fld {l C dx : Addr} {fs : List (Str × V)} {f : Str} {w : V} (ha : Val ta σ H (.ref l)) (h : H l = some (.ins C dx fs)) (c : Cls K C) (n : NoAttr K C f) (hf : fs.lookup f = some w) : Val (tFld K ta f) σ H w := fun Q q => ha _ ⟨l, C, dx, fs, w, rfl, h, c, n, hf, q⟩
theorem c_methO {l C dx : Addr} {fs : List (Str × V)} {m : Str} {sp : Sp} {dvs : List V} {E : XK} {t : TA} (ha : Val ta σ H (.ref l)) (h : H l = some (.ins C dx fs)) (hm : fs.lookup m = none) (k : t σ H fun vs H2 => sp (.ref l :: (vs ++ dvs)) H2 Q E) : tMeth C m sp dvs E ta t σ H Q := ha _ ⟨l, dx, fs, rfl, h, hm, k⟩
theorem c_meth {C : Addr} {ns : List Str} {m : Str} {sp : Sp} {dvs : List V} {E : XK} {t : TA} (ha : Val ta σ H v) (h : ∃ (l dx : Addr) (fs : List (Str × V)), v = .ref l ∧ H l = some (.ins C dx fs) ∧ ∀ m : Str, m ∉ ns → fs.lookup m = none) (hm : m ∉ ns) (k : t σ H fun vs H2 => sp (v :: (vs ++ dvs)) H2 Q E) : tMeth C m sp dvs E ta t σ H Q := by
  obtain ⟨l, dx, fs, rfl, h1, h2⟩ := h
  exact ha _ ⟨l, dx, fs, rfl, h1, h2 m hm, k⟩
theorem v_methO {l C dx : Addr} {fs : List (Str × V)} {m : Str} {sp : Sp} {dvs : List V} {E : XK} {t : TA} {vs : List V} (ha : Val ta σ H (.ref l)) (h : H l = some (.ins C dx fs)) (hm : fs.lookup m = none) (ht : VA t σ H vs) (hs : ∀ Q : VK, Q z H → sp (.ref l :: (vs ++ dvs)) H Q E) : Val (tMeth C m sp dvs E ta t) σ H z := fun Q q => c_methO ha h hm (ht _ (hs Q q))
theorem v_meth {C : Addr} {ns : List Str} {m : Str} {sp : Sp} {dvs : List V} {E : XK} {t : TA} {vs : List V} (ha : Val ta σ H v) (h : ∃ (l dx : Addr) (fs : List (Str × V)), v = .ref l ∧ H l = some (.ins C dx fs) ∧ ∀ m : Str, m ∉ ns → fs.lookup m = none) (hm : m ∉ ns) (ht : VA t σ H vs) (hs : ∀ Q : VK, Q z H → sp (v :: (vs ++ dvs)) H Q E) : Val (tMeth C m sp dvs E ta t) σ H z := fun Q q => c_meth ha h hm (ht _ (hs Q q))
theorem c_make {C : Addr} {sp : Sp} {dvs : List V} {E : XK} {t : TA} (h : t σ H fun vs H1 => ∀ x dx, H1 x = none → H1 dx = none → dx ≠ x →
    sp (.ref x :: (vs ++ dvs)) (upd (upd H1 dx (.own x)) x (.ins C dx [])) (fun v H2 => v = .non ∧ Q (.ref x) H2) E) : tMake C sp dvs E t σ H Q := h
theorem make_in {C : Addr} {vs : List V} {sp : Sp} {Qf : Addr → VK} {E : XK} (h : ∀ x dx H', Same H H' → H x = none → H' x = some (.ins C dx []) → sp (.ref x :: vs) H' (Qf x) E) : ∀ x dx, H x = none → H dx = none → dx ≠ x → sp (.ref x :: vs) (upd (upd H dx (.own x)) x (.ins C dx [])) (Qf x) E :=
  fun x dx hx hdx n => h x dx _ ((same_upd hdx).trans (same_upd (by rw [upd_ne n.symm]; exact hx))) hx upd_same
theorem v_chn {g g' : Int → Int → V} {k l m : Int} (ha : Val ta σ H (.int k)) (hb : Val tb σ H (.int l)) (hc : Val te σ H (.int m)) (h1 : g k l = .bl b) (h2 : g' l m = .bl c) : Val (tChain (rI0 g) (rI0 g') ta tb te) σ H (.bl (b && c)) := v_chain (p := fun _ _ => b) (q := fun _ _ => c) ha hb hc h1 h2
theorem z_fldE {f : Str} (h : te σ H fun y H1 => ta σ H1 fun x H2 => ∃ a C dx fs, x = .ref a ∧ H2 a = some (.ins C dx fs) ∧ Cls K C ∧ NoAttr K C f ∧ fs.length < 1000 ∧ tu D σ (upd H2 a (.ins C dx (putF f y fs)))) : tSeq (sFld K ta te f) tu D σ H := h
theorem c_setF {l C dx : Addr} {fs fs' : List (Str × V)} {f : Str} (g : Grow L S0 H0 S H) (cl : Cel L H0 S H l (.ins C dx fs)) (ho : Val ta σ H (.ref l)) (c : Cls K C) (n : NoAttr K C f) (hn : fs.length < 1000) (he : putF f y fs = fs')
    (k : ∀ H', Grow L S0 H0 S H' → Cel L H0 S H' l (.ins C dx fs') → (∀ l' o', l' ≠ l → Cel L H0 S H l' o' → Cel L H0 S H' l' o') → tu D σ H') :
    ta σ H fun x H2 => ∃ a C dx fs, x = .ref a ∧ H2 a = some (.ins C dx fs) ∧ Cls K C ∧ NoAttr K C f ∧ fs.length < 1000 ∧ tu D σ (upd H2 a (.ins C dx (putF f y fs))) := by
  subst he
  exact ho _ ⟨l, C, dx, fs, rfl, cl.h, c, n, hn, k _ (g.wr cl rfl) (cl.wr rfl) fun l' o' n c => c.wrn n⟩

def gDivW (j : Int) : Prop := 0 < j ∧ j < 2 ^ 200
instance (j : Int) : Decidable (gDivW j) := by unfold gDivW; infer_instance
theorem gDivW.ok {i j : Int} (h : gDivW j) : CDivW i j := wide_div (b := 200) h.1 (by
  have h1 := h.1
  have h2 := h.2
  omega) (by decide) (by decide)
theorem gDivW_nat {n : Nat} (h0 : 0 < n) (h : n < 2 ^ 200) : gDivW (n : Int) := ⟨by omega, by omega⟩
/-! ### more of lists -/
section
variable {α : Type} {τ : Rep K α} {l : Addr} {xs ys : List α}
theorem c_rev (g : Grow L S0 H0 S H) (cl : Cel L H0 S H l (.lst ws)) (r : RL τ S ws xs)
    (k : ∀ H', Grow L S0 H0 S H' → Cel L H0 S H' l (.lst ws.reverse) → RL τ S ws.reverse xs.reverse → (∀ l' o', l' ≠ l → Cel L H0 S H l' o' → Cel L H0 S H' l' o') → Q .non H') : rReverse (.ref l) [] H Q :=
  ⟨l, ws, rfl, rfl, cl.h, k _ (g.wr cl rfl) (cl.wr rfl) r.reverse fun l' o' n c => c.wrn n⟩
theorem c_pop {q : α} (g : Grow L S0 H0 S H) (cl : Cel L H0 S H l (.lst ws)) (r : RL τ S ws xs) (he : xs.getLast? = some q)
    (k : ∀ w, τ.R S w q → ∀ ws' H', Grow L S0 H0 S H' → Cel L H0 S H' l (.lst ws') → RL τ S ws' xs.dropLast → (∀ l' o', l' ≠ l → Cel L H0 S H l' o' → Cel L H0 S H' l' o') → Q w H') : rPop (.ref l) [] H Q := by
  rw [List.getLast?_eq_getElem?] at he
  obtain ⟨w, ew, rw_⟩ := r.get he
  exact ⟨l, ws, w, rfl, rfl, cl.h, by rw [r.length]; exact ew, k w rw_ _ _ (g.wr cl rfl) (cl.wr rfl) r.dropLast fun l' o' n c => c.wrn n⟩
theorem c_setL2 {q : α} {P : Hp → Prop} (g : Grow L S0 H0 S H) (cl : Cel L H0 S H l (.lst ws)) (r : RL τ S ws xs) (rv : τ.R S v q) (he : setI xs i q = some ys)
    (k : ∀ ws' H', Grow L S0 H0 S H' → Cel L H0 S H' l (.lst ws') → RL τ S ws' ys → (∀ l' o', l' ≠ l → Cel L H0 S H l' o' → Cel L H0 S H' l' o') → P H') : rSetL (.ref l) (.int i) v H P := by
  unfold setI at he
  cases e : ixN xs.length i with
  | none => rw [e] at he; cases he
  | some j =>
    rw [e] at he
    cases (Option.some.inj he)
    exact ⟨l, ws, i, j, rfl, rfl, cl.h, by rw [r.length]; exact e, k _ _ (g.wr cl rfl) (cl.wr rfl) (r.set rv j) fun l' o' n c => c.wrn n⟩
end
/-- xs[i] op= e -/
def sXAug (td ty tv : TE) (ri : R2) (rd : TIp) (t : TSet) : TS := fun D σ H => td σ H fun x H1 => ty σ H1 fun y H2 => ri x y H2 fun v H3 => tv σ H3 fun y2 H4 => rd v y2 H4 fun z H5 => t x y z H5 fun H6 => D.nx σ H6
theorem get_list {X : Cx} {pins : List (Addr × Obj)} {s : Shared} {u w : Value} (I : Inv X pins σ H s) (rx : RelV x u) (ry : RelV y w) (h : rIxL X.K x y H Q) : wpAny (model X.prog X.w) X.A (getItem u w) (EP X pins σ Q) X.xe s := by
  obtain ⟨p, xs, i, z, rfl, rfl, hq, he, q⟩ := h
  cases rx
  obtain ⟨t, rfl⟩ := ry
  obtain ⟨its, r, pl, hz⟩ := I.list hq
  obtain ⟨j, h1, h2, h3, h4, h5⟩ := L2.atI_get he
  obtain ⟨w, ew, rw'⟩ := r.get h2
  have hl := r.length
  have hn := line63
  have fin : EP X pins σ Q w s := ⟨z, H, I, rw', q⟩
  by_cases h0 : 0 ≤ i
  · have hj : i.toNat = j := by
      rw [seqIndex_of h0 h5] at h1
      exact Option.some.inj h1
    exact wpAny_getItem_list pl.isList h0 (by omega) (by rw [hj]; simpa using ew) fin
  · have hj : (i + (its.toArray.size : Int)).toNat = j := by
      rw [seqIndex_neg (by omega) h4] at h1
      rw [List.size_toArray, ← hl]
      exact Option.some.inj h1
    exact wpAny_getItem_list_neg pl.isList (by omega) (by rw [List.size_toArray] <;> omega) (by omega) (by rw [hj]; simpa using ew) fin
theorem ps_xaug {X : Cx} {o i value : Expr} {tpos pos : Pos} {op : Operator} {td ty tv : TE} {rd : TIp} (ho : PE X o td) (hi : PE X i ty) (hv : PE X value tv) (hop : PIp X op rd)
    (ha : ∀ ov iv new, augStore i ov iv new = (do holding [new, ov, iv] (setItem ov iv new); release [new, ov, iv] []; pure .next)) : PS X (.AugAssign (.Subscript o i tpos) op value pos) (sXAug td ty tv (rIxL X.K) rd rSetL) := by
  refine ⟨fun pins s σ H D I h => ?_⟩
  refine wpAny_AugAssign_SubscriptAny (thn (ho.run pins s σ H _ I h) fun u s1 ⟨x, H1, I1, rx, q1⟩ => thn (hi.run pins s1 σ H1 _ I1 q1) fun iv s2 ⟨y, H2, I2, ry, q2⟩ => ?_) ha
  refine thn (get_list I2 rx ry q2) fun w' s3 ⟨v, H3, I3, rw', q3⟩ => thn (hv.run pins s3 σ H3 _ I3 q3) fun w2 s4 ⟨y2, H4, I4, ry2, q4⟩ => thn (hop pins s4 σ H4 v y2 w' w2 _ I4 rw' ry2 q4) fun w3 s5 ⟨z, H5, I5, rz, q5⟩ => ?_
  exact thn (set_list pins s5 σ H5 x y z u iv w3 _ I5 rx ry rz q5) fun _ s6 ⟨H6, I6, q6⟩ => ⟨σ, H6, I6, q6⟩
theorem z_xaug {α : Type} {τ : Rep K α} {l : Addr} {xs : List α} {q : α} {rd : TIp} {t : TSet} {f : α → V} (ho : Val ta σ H (.ref l)) (hi : Val tb σ H (.int i)) (h : H l = some (.lst ws)) (r : RL τ S ws xs) (hx : atI xs i = some q)
    (k : ∀ w, τ.R S w q → te σ H fun y2 H4 => rd w y2 H4 fun z H5 => t (.ref l) (.int i) z H5 fun H6 => tu D σ H6) : tSeq (sXAug ta tb te (rIxL K) rd t) tu D σ H := by
  obtain ⟨w, ew, rw_⟩ := r.at hx
  exact ho _ (hi _ ⟨l, ws, i, w, rfl, rfl, SqL.of h, ew, k w rw_⟩)
theorem z_xaugI {l : Addr} {xs : List Int} {q : Int} {rd : TIp} {t : TSet} (ho : Val ta σ H (.ref l)) (hi : Val tb σ H (.int i)) (h : H l = some (.lst ws)) (r : RL (K := K) qI S ws xs) (hx : atI xs i = some q)
    (k : te σ H fun y2 H4 => rd (.int q) y2 H4 fun z H5 => t (.ref l) (.int i) z H5 fun H6 => tu D σ H6) : tSeq (sXAug ta tb te (rIxL K) rd t) tu D σ H :=
  z_xaug (τ := qI) (f := V.int) ho hi h r hx fun w e => by cases e; exact k
theorem z_augE {k : Nat} {ti : TIp} (hx : σ[k]? = some (some x)) (h : te σ H fun y H1 => ti x y H1 fun v H2 => tu D (σ.set k (some v)) H2) : tSeq (tAug k te ti) tu D σ H := ⟨x, hx, h⟩
theorem q_set {k : Nat} {w : V} (e : v = w) (hs : σ.set k (some w) = σ') (q : tu D σ' H) : tu D (σ.set k (some v)) H := by subst e; subst hs; exact q
theorem z_augS {k : Nat} {w : V} {s r : Str} (hx : σ[k]? = some (some (.str s))) (hv : Val te σ H (.str r)) (hz : s.length + r.length ≤ 16777216) (he : V.str (s ++ r) = w) (hs : σ.set k (some w) = σ') (q : tu D σ' H) :
    tSeq (tAug k te (fun x y H Q => ∃ i j, x = .str i ∧ y = .str j ∧ i.length + j.length ≤ sizeLine ∧ Q (.str (i ++ j)) H)) tu D σ H :=
  z_aug hx hv (fun _ q => ⟨s, r, rfl, rfl, hz, q⟩) he hs q
theorem c_bits (h : te σ H fun x H1 => ∃ i, x = .int i ∧ Q (.int (Builtin.Int.intBits i : Nat)) H1) : tBits te σ H Q := h
theorem c_notV (h : ta σ H fun x H1 => ∃ c, x = .bl c ∧ Q (.bl (!c)) H1) : tNotV ta σ H Q := h
theorem c_chain {r r' : R2} (h : ta σ H fun x H1 => tb σ H1 fun y H2 => r x y H2 fun z H3 => ∃ k, z = .bl k ∧ if k = true then te σ H3 fun w' H4 => r' y w' H4 Q else Q (.bl false) H3) : tChain r r' ta tb te σ H Q := h
theorem e_chain {g g' : Int → Int → V} {k l m : Int} (hc : Val te σ H (.int m)) (h1 : g k l = .bl b) (h2 : g' l m = .bl c) (q : Q (.bl (b && c)) H) : rI0 g (.int k) (.int l) H fun z H3 => ∃ k, z = .bl k ∧ if k = true then te σ H3 fun w' H4 => rI0 g' (.int l) w' H4 Q else Q (.bl false) H3 := ⟨k, l, rfl, rfl, b, h1, by
  cases b with
  | true => exact (show (if true = true then _ else _) from hc _ ⟨l, m, rfl, rfl, by rw [h2]; exact q⟩)
  | false => exact (show (if false = true then _ else _) from q)⟩
end
/-! ### classes of errors -/
structure ExF (K : PySem.W.Frag) (C : Addr) : Prop where
  x : PySem.W.excIn K C [.type "ValueError", .type "Exception", .type "BaseException", .type "object"] "ValueError.__new__" = true
  k : PySem.W.keepIn K (.ref C) = true
  b : PySem.W.subIn K (.ref C) (.type "BaseException") = some true
  t : PySem.W.typeIn K (.ref C) = some (.type "type")
theorem bt_sorted : bootBuiltins "sorted" = some (.builtin "sorted") := by decide +kernel
theorem bt_sum : bootBuiltins "sum" = some (.builtin "sum") := by decide +kernel
end Z

namespace Z
open PySem PySem.Spec PyProof.Rows L2 RT
/-! ### list(reversed(xs)) -/
section
variable {prog : Program} {w : World} {A : Around} {E : Value → Shared → Prop} {s : Shared} {it l : Addr} {items : Array Value}
abbrev RvOf (items : Array Value) : Nat → Value → Prop := fun i v => items[items.size - 1 - i]? = some v
theorem rl_extend {R : Result → Shared → Prop} (hh : A.handled = none) (hit : s.heap.IsRevIter it l ((items.size : Int) - 1)) (hl : s.heap.IsList l items) (hne : l ≠ it) (hn : items.size ≤ sizeLine)
    (S : Addr) (hSi : S ≠ it) (hSl : S ≠ l) (res : Value) (c₀ : Nat) (hS : s.heap.get? S = some { cls := .type "list", data := .seq #[] c₀ })
    (hR : ∀ h' tk acc' c', (∀ b o, b ≠ S → b ≠ it → s.heap.get? b = some o → h'.get? b = some o) → h'.get? S = some { cls := .type "list", dict := none, data := .seq acc' c', slots := #[] } → ItemsOf (RvOf items) acc' items.size → R (.ok (.ret res)) { s with heap := h', toks := tk }) :
    wpAny (model prog w) A.in1 (Builtin.List.listExtendWith (.ref S) (.ref it) res)
      (fun fin s' => match fin with | .done f => R (.ok f) s' | .again c' => c'.quiet = true ∧ codeAny (model prog w) A c' R s') (fun e s' => R (.error e) s') s := by
  have W := (Walks.listRev (prog := prog) (w := w) (A := A.in1) hh it l hne items).toS
  have hSf : S ∉ [it, l] := by simp only [List.mem_cons, List.not_mem_nil, or_false, not_or]; exact ⟨hSi, hSl⟩
  have hT : s.TypeIs (.ref it) "list_reverseiterator" := Heap.IsRevIter.typeIs (s := s) hit
  have h1 : Builtin.List.listSameRef (.ref S) (.ref it) = false := by simp [Builtin.List.listSameRef, hSi]
  unfold Builtin.List.listExtendWith
  refine wpAny_bind (wpAny_typeOf hT ?_)
  rw [if_neg (by rw [h1]; decide)]
  refine wpAny_bind (wpAny_pyIter_revIter hit ?_)
  refine wpAny_bind (wpAny_holding ?_)
  unfold Builtin.List.listLengthHint
  refine wpAny_bind (wpAny_specialOf hT nolen_lri ?_)
  show wpAny _ A.in1 (specialOf (Value.ref it) (Str.ofString "__length_hint__") >>= _) _ _ _
  refine wpAny_bind (wpAny_specialOf hT hint_lri ?_)
  generalize hid : ("list_reverseiterator.__length_hint__" : String) = id0
  wp_delta
  rw [show splitId id0 = some ("list_reverseiterator", "__length_hint__") from by subst hid; decide +kernel]
  subst hid
  refine wpAny_bind (wpAny_isInstance (b := true) hT (by rw [isSubtype_type]; kernel_rfl) ?_)
  refine wpAny_pure ?_
  rw [if_neg (by decide)]
  have e0 : ((items.size : Nat) : Int) - 1 - ((0 : Nat) : Int) = (items.size : Int) - 1 := by omega
  refine wpAny_pure ⟨plainId_quiet PySem.F.plain_extend_loop _, codeAny_extend_loopS W hn _ hSf _ items.size 0 _ _ _ rfl (Nat.zero_le _) ⟨Nat.zero_le _, by rw [e0]; exact hit, hl⟩ hS (ItemsOf.nil _) fun s' acc' c' hm hS' hacc => ?_⟩
  rw [Moved.eq_with hm]
  refine hR s'.heap s'.toks acc' c' (fun b o hb hb2 e => hm.heap b o (fun hmem => ?_) e) hS' hacc
  rcases List.mem_cons.mp hmem with e' | hmem
  · exact hb e'
  · exact hb2 (List.mem_singleton.mp hmem)
theorem rl_init {R : Result → Shared → Prop} (hh : A.handled = none) (hit : s.heap.IsRevIter it l ((items.size : Int) - 1)) (hl : s.heap.IsList l items) (hne : l ≠ it) (hn : items.size ≤ sizeLine)
    (S : Addr) (hSi : S ≠ it) (hSl : S ≠ l) (hS : s.heap.get? S = some { cls := .type "list", data := .seq #[] })
    (hR : ∀ h' tk acc' c', (∀ b o, b ≠ S → b ≠ it → s.heap.get? b = some o → h'.get? b = some o) → h'.get? S = some { cls := .type "list", dict := none, data := .seq acc' c', slots := #[] } → ItemsOf (RvOf items) acc' items.size → R (.ok (.ret .none)) { s with heap := h', toks := tk }) :
    wpAny (model prog w) A.in1 (Builtin.«list.__init__» ⟨[.ref S, .ref it], []⟩)
      (fun fin s' => match fin with | .done f => R (.ok f) s' | .again c' => c'.quiet = true ∧ codeAny (model prog w) A c' R s') (fun e s' => R (.error e) s') s := by
  show wpAny _ _ (do let old ← Builtin.List.listItems (.ref S); Builtin.List.listUpdate (.ref S) (fun _ => #[]); letGo old.toList.reverse; Builtin.List.listExtendWith (.ref S) (.ref it) .none) _ _ s
  refine wpAny_bind ?_
  unfold Builtin.List.listItems
  refine wpAny_bind (wpAny_seqItems hS rfl (wpAny_pure ?_))
  show wpAny _ _ (updateSeq S (fun _ => #[]) >>= fun _ => letGo (#[] : Array Value).toList.reverse >>= fun _ => Builtin.List.listExtendWith (.ref S) (.ref it) .none) _ _ s
  refine wpAny_bind (wpAny_updateSeq hS rfl ?_)
  have hS₂ := Heap.get?_update_self (Obj.mapSeq (fun _ => (#[] : Array Value))) hS rfl
  have oth : ∀ b o, b ≠ S → s.heap.get? b = some o → (s.heap.update S (Obj.mapSeq (fun _ => (#[] : Array Value)))).get? b = some o :=
    fun b o hb e => (Heap.get?_update_other _ _ (Ne.symm hb)).trans e
  refine wpAny_bind (wpAny_letGo ?_)
  refine rl_extend (s := { s with heap := s.heap.update S (Obj.mapSeq (fun _ => (#[] : Array Value))) }) hh (hit.at fun o e => oth it o hSi.symm e) (hl.at fun o e => oth l o hSl.symm e) hne hn S hSi hSl .none _ hS₂ (fun h' tk acc' c' hk hS' hacc => ?_)
  exact hR h' tk acc' c' (fun b o hb hb2 e => hk b o hb hb2 (oth b o hb e)) hS' hacc
theorem call_list_rev {Q : Value → Shared → Prop} (hh : A.handled = none) (hit : s.heap.IsRevIter it l ((items.size : Int) - 1)) (hl : s.heap.IsList l items) (hne : l ≠ it) (hn : items.size ≤ sizeLine)
    (hQ : ∀ h' tk acc' c', (∀ b o, b ≠ it → s.heap.get? b = some o → h'.get? b = some o) → h'.get? s.heap.objs.size = some { cls := .type "list", dict := none, data := .seq acc' c', slots := #[] } → ItemsOf (RvOf items) acc' items.size → Q (.ref s.heap.objs.size) { s with heap := h', toks := tk }) :
    wpAny (model prog w) A (call (.type "list") [.ref it]) Q E s := by
  refine callType_codes (Q₁ := fun obj s₁ => obj = .ref s.heap.objs.size ∧ s₁ = { s with heap := s.heap.push { cls := .type "list", data := .seq #[] } }) PySem.F.called_list (PySem.F.typeCall_list_1 _) PySem.F.entry_list_init
    (code_list_new _ ⟨rfl, rfl⟩) fun obj s₁ h₁ => ?_
  obtain ⟨rfl, rfl⟩ := h₁
  have hS : (s.heap.push { cls := .type "list", data := .seq #[] }).get? s.heap.objs.size = some { cls := .type "list", data := .seq #[] } := Heap.get?_push_size _ rfl
  obtain ⟨oi, hoi, _⟩ := id hit
  obtain ⟨ol, hol, _⟩ := id hl
  refine ⟨⟨_, hS, rfl⟩, PySem.F.args_list_init_2 _ _, rl_init (A := A.in1) (s := { s with heap := s.heap.push { cls := .type "list", data := .seq #[] } }) hh (hit.at fun o e => Heap.get?_push_of_some _ e) (hl.push _) hne hn _ (Nat.ne_of_gt (Heap.lt_size hoi)) (Nat.ne_of_gt (Heap.lt_size hol)) hS (fun h' tk acc' c' hk hS' hacc => ?_)⟩
  exact ⟨rfl, hQ h' tk acc' c' (fun b o hb e => hk b o (Nat.ne_of_lt (Heap.lt_size e)) hb (Heap.get?_push_of_some _ e)) hS' hacc⟩
end
def rListRev (K : PySem.W.Frag) (v : V) (H : Hp) (Q : VK) : Prop := ∃ (a : Addr) (xs : List V), v = .ref a ∧ SqL K H a xs ∧ ∀ q, H q = none → Q (.ref q) (upd H q (.lst xs.reverse))
def tListRev (K : PySem.W.Frag) (te : TE) : TE := fun σ H Q => te σ H fun v H1 => rListRev K v H1 Q
theorem pe_listRev {X : Cx} {e : Expr} {te : TE} {p p2 pos pos2 : Pos} (hc : X.calm = true) (hg : Gl X "list") (hm : X.mg "list" = none) (hg2 : Gl X "reversed") (hm2 : X.mg "reversed" = none) (he : PE X e te)
    (hs : starEach [e] X.env = (false, eval e X.env) :: starEach [] X.env := by rfl)
    (hs2 : starEach [.Call (.Name "reversed" p2) [e] [] pos2] X.env = (false, eval (.Call (.Name "reversed" p2) [e] [] pos2) X.env) :: starEach [] X.env := by rfl) :
    PE X (.Call (.Name "list" p) [.Call (.Name "reversed" p2) [e] [] pos2] [] pos) (tListRev X.K te) := by
  refine ⟨fun pins s σ H Q I h => ?_⟩
  refine Call_ (ld_blt I hg hm bt_list (PyProof.Rows.callWith_type1 (args_cons (Call_ (ld_blt I hg2 hm2 PyProof.Rows.boot_reversed (PyProof.Rows.callWith_type1 (args_cons (thn (he.run pins s σ H _ I h) fun u s1 ⟨v, H1, I1, r1, q1⟩ => args_nil ?_) hs) hs rfl))) hs2) hs2 rfl))
  obtain ⟨a, xs, ev, hq, q⟩ := q1
  subst ev
  obtain rfl : u = Value.ref a := r1
  obtain ⟨its, rv, p', hz⟩ := I1.list hq
  refine call_reversed_list p'.isList (args_nil ?_)
  have k0 : ∀ b o, s1.heap.get? b = some o → (s1.heap.push (revObj a ((its.toArray.size : Int) - 1))).get? b = some o := fun b o e => Heap.get?_push_of_some _ e
  have I2 : Inv X pins σ H1 { s1 with heap := s1.heap.push (revObj a ((its.toArray.size : Int) - 1)) } := I1.kept (t' := s1.toks) k0
  obtain ⟨f0, f1, f2, f3, f4, f5⟩ := I1.fpOk (H' := H1) (b := s1.heap.objs.size) (Nat.le_refl _) (I1.hok.fresh (Nat.le_refl _))
  have hl := p'.isList
  obtain ⟨ol, hol, _⟩ := id hl
  have hne : a ≠ s1.heap.objs.size := Nat.ne_of_lt (Heap.lt_size hol)
  have hn : its.toArray.size ≤ sizeLine := by rw [List.size_toArray, ← rv.length]; exact hz
  refine call_list_rev (s := { s1 with heap := s1.heap.push (revObj a ((its.toArray.size : Int) - 1)) }) (I1.ok.hd hc) ⟨_, Heap.get?_push_size _ rfl, rfl, rfl⟩ (hl.push _) hne hn fun h' tk acc c' hk hS hi => ?_
  refine ⟨.ref _, upd H1 _ (.lst xs.reverse), I2.turnedNew (t' := tk) (ch := [s1.heap.objs.size]) (fun b o hb e => hk b o (fun z => hb (by rw [z]; exact List.mem_singleton.mpr rfl)) e) (fun b hb => by cases List.mem_singleton.mp hb; exact ⟨f0, f1, f2, f3, f4, f5⟩) (Nat.le_refl _) (show ObjOk X.prog X.w _ h' _ (.lst xs.reverse) from ⟨by rw [List.length_reverse]; exact hz, acc.toList, c', vals_rev rv hi, by rw [Array.toArray_toList]; exact hS⟩), rfl, q _ (I2.hok.fresh (Nat.le_refl _))⟩
section
variable {K : PySem.W.Frag} {σ : L2.St} {S H : Hp} {te : TE} {v : V} {Q : VK} {α : Type} {τ : Rep K α} {xs : List α}
theorem c_lrE (h : ∀ Q' : VK, Q' = Q → te σ H fun v H1 => rListRev K v H1 Q') : tListRev K te σ H Q := h _ rfl
theorem l_listRev (h : LS τ S H v xs) (k : ∀ p ws H', Same H H' → H p = none → H' p = some (.lst ws) → RL τ S ws xs.reverse → Q (.ref p) H') : rListRev K v H Q := by
  obtain ⟨a, ws, rfl, h2, h3⟩ := h
  exact ⟨a, ws, rfl, h2, fun l hl => k l _ _ (same_upd hl) hl upd_same h3.reverse⟩
end
end Z

namespace Z
open PySem PySem.Spec PyProof.Rows L2
section
variable {K : PySem.W.Frag}
theorem enc_lay_none : (PyData.none).canLay0 = true := rfl
/-- what is never None -/
def NN {α : Type} [DecidableEq α] {τ : Rep K α} (d : Dat τ) : Prop := ∀ x, PyData.eqv .none (d.enc x) = false ∧ PyData.eqv (d.enc x) .none = false
def dOpt {α : Type} [DecidableEq α] {τ : Rep K α} (d : Dat τ) (hn : NN d) : Dat (qOpt τ) := ⟨fun o => match o with
    | none => .none
    | some x => d.enc x, fun {H v o} h => by
    cases o with
    | none => cases (show v = .non from h); exact .non
    | some x => exact d.dp h.2, fun o => by
    cases o with
    | none => rfl
    | some x => exact d.lay x, max d.n 1, fun o => by
    cases o with
    | none => show PyData.depth .none ≤ _; simp [PyData.depth]
    | some x => exact Nat.le_trans (d.dep x) (Nat.le_max_left _ _), fun a b => by
    cases a with
    | none =>
      cases b with
      | none => rfl
      | some y => exact (hn y).1.trans (decide_eq_false (fun e => nomatch e)).symm
    | some x =>
      cases b with
      | none => exact (hn x).2.trans (decide_eq_false (fun e => nomatch e)).symm
      | some y =>
        show PyData.eqv (d.enc x) (d.enc y) = _
        rw [d.eqv]
        exact decide_eq_decide.mpr ⟨fun e => by rw [e], fun e => Option.some.inj e⟩⟩
theorem nnI : NN (K := K) dI := fun _ => ⟨rfl, rfl⟩
theorem nnB : NN (K := K) dB := fun _ => ⟨rfl, rfl⟩
theorem nnL {α : Type} [DecidableEq α] {τ : Rep K α} (d : Dat τ) : NN (dL d) := fun _ => ⟨rfl, rfl⟩
theorem nnQ {α : Type} [DecidableEq α] {τ : Rep K α} (d : Dat τ) : NN (dQ d) := fun _ => ⟨rfl, rfl⟩
theorem nnT2 {α β : Type} [DecidableEq α] [DecidableEq β] {τ : Rep K α} {υ : Rep K β} (a : Dat τ) (b : Dat υ) : NN (dT2 a b) := fun _ => ⟨rfl, rfl⟩
theorem eqvAll3 {a b c a' b' c' : PyData} : PyData.eqv (.tuple [a, b, c]) (.tuple [a', b', c']) = (PyData.eqv a a' && (PyData.eqv b b' && PyData.eqv c c')) := by
  simp [PyData.eqv, PyData.eqvAll]
def dT3 {α β γ : Type} [DecidableEq α] [DecidableEq β] [DecidableEq γ] {τ : Rep K α} {υ : Rep K β} {φ : Rep K γ} (a : Dat τ) (b : Dat υ) (c : Dat φ) : Dat (qT3 τ υ φ) := ⟨fun x => .tuple [a.enc x.1, b.enc x.2.1, c.enc x.2.2], fun {H v x} h => by
    obtain ⟨p, w1, w2, w3, rfl, h2, h3, h4, h5⟩ := h
    exact .tup (SqT.of h2) (.cons (a.dp h3) (.cons (b.dp h4) (.cons (c.dp h5) .nil))), fun x => by
    show PyData.canLayAll0 [a.enc x.1, b.enc x.2.1, c.enc x.2.2] = true
    simp [PyData.canLayAll0, a.lay, b.lay, c.lay], max a.n (max b.n c.n) + 1, fun x => by
    have h1 := a.dep x.1
    have h2 := b.dep x.2.1
    have h3 := c.dep x.2.2
    show PyData.depth (.tuple [a.enc x.1, b.enc x.2.1, c.enc x.2.2]) ≤ _
    simp only [PyData.depth, PyData.depthAll]
    omega, fun x y => by
    rw [eqvAll3, a.eqv, b.eqv, c.eqv, ← Bool.decide_and, ← Bool.decide_and]
    exact decide_eq_decide.mpr ⟨fun h => Prod.ext h.1 (Prod.ext h.2.1 h.2.2), fun h => by rw [h]; exact ⟨rfl, rfl, rfl⟩⟩⟩
theorem nnT3 {α β γ : Type} [DecidableEq α] [DecidableEq β] [DecidableEq γ] {τ : Rep K α} {υ : Rep K β} {φ : Rep K γ} (a : Dat τ) (b : Dat υ) (c : Dat φ) : NN (dT3 a b c) := fun _ => ⟨rfl, rfl⟩
end
end Z
namespace Z
open PySem PySem.Spec PyProof.Rows L2
/-! ### range with a step -/
def gR3 (i j c : Int) : Prop := 0 < c ∧ c < 1073741824 ∧ Builtin.Range.small i j c = true
instance (i j c : Int) : Decidable (gR3 i j c) := by unfold gR3; infer_instance
def rangeS (i j c : Int) : List Int := (List.range (Builtin.Range.rangeSize i j c).toNat).map fun (k : Nat) => i + (k : Int) * c
theorem rsize_nn {i j c : Int} (h : 0 < c) : 0 ≤ Builtin.Range.rangeSize i j c := by
  unfold Builtin.Range.rangeSize
  rw [if_pos h]
  split
  · have := Int.ediv_nonneg (show 0 ≤ j - i - 1 by omega) (show 0 ≤ c by omega)
    omega
  · omega
section
variable {K : PySem.W.Frag} {σ : L2.St} {H : Hp} {ta : TA} {D : Ends} {tu : TS}
theorem z_for3 {g : TG} {tb : TS} {i j c : Int} (ha : VA ta σ H [.int i, .int j, .int c]) (hj : gR3 i j c) (Pv : List Int → L2.St → Hp → Prop) (h0 : Pv (rangeS i j c) σ H)
    (hs : ∀ x xs σ' H', Pv (x :: xs) σ' H' → ∀ N : L2.St → Hp → Prop, (∀ σ'' H'', Pv xs σ'' H'' → N σ'' H'') → g (.int x) σ' H' fun σ2 H2 => tb { D with nx := N, ct := N, bk := tu D } σ2 H2) (hd : ∀ σ' H', Pv [] σ' H' → tu D σ' H') :
    tSeq (tFor (iRng3 ta) g tb) tu D σ H := ha _ ⟨i, j, c, (Builtin.Range.rangeSize i j c).toNat, rfl, ⟨by have := hj.1; omega, by have h1 := hj.1; have h2 := hj.2.1; omega, hj.2.2, by have := rsize_nn (i := i) (j := j) hj.1; omega⟩, by
  obtain ⟨n, hn⟩ : ∃ n, n = (Builtin.Range.rangeSize i j c).toNat := ⟨_, rfl⟩
  have h0' : Pv ((List.range n).map fun (k : Nat) => i + (k : Int) * c) σ H := by rw [hn]; exact h0
  rw [← hn]
  have hlen : ((List.range n).map fun (k : Nat) => i + (k : Int) * c).length = n := by rw [List.length_map, List.length_range]
  refine for_rangeC (D := { D with nx := tu D }) (fun k σ H => k ≤ n ∧ Pv (((List.range n).map fun (k : Nat) => i + (k : Int) * c).drop k) σ H) ⟨Nat.zero_le _, h0'⟩ (fun k σ' H' hk p => ?_) (fun σ' H' p => hd _ _ (by
    have q := p.2
    rw [List.drop_eq_nil_of_le (by omega)] at q
    exact q))
  have e : ((List.range n).map fun (k : Nat) => i + (k : Int) * c).drop k = (i + (k : Int) * c) :: ((List.range n).map fun (k : Nat) => i + (k : Int) * c).drop (k + 1) := by
    rw [List.drop_eq_getElem_cons (by omega), List.getElem_map, List.getElem_range]
  have q := p.2
  rw [e] at q
  exact hs _ _ σ' H' q _ fun σ'' H'' r => ⟨hk, r⟩⟩
end
/-! ### a list of one's own, or None -/
def optC {α β : Type} (o : Option α) (n : Option β) (s : α → Option β) : Option β := match o with
  | none => n
  | some x => s x
section
variable {K : PySem.W.Frag} {α : Type} {τ : Rep K α}
/-- what a call hands back then: H ahead of it, S' H' behind it -/
def OwnR (τ : Rep K α) (H S' H' : Hp) (v : V) (r : Option (List α)) : Prop := match r with
  | none => v = .non
  | some x => ∃ p ws, v = .ref p ∧ H p = none ∧ H' p = some (.lst ws) ∧ S' p = none ∧ RL τ S' ws x
theorem OwnR.frz {L : List Addr} {S0 H0 S H Sp Hp : L2.Hp} {v : V} {r : Option (List α)} (g : Grow L S0 H0 S H) (gp : Grow L S0 H0 Sp Hp) (h : OwnR τ Hp S H v r) :
    ∃ S1, Grow L S0 H0 S1 H ∧ Same S S1 ∧ (qOpt (qL τ)).R S1 v r ∧ ∀ l' o', Hp l' ≠ none → Cel L H0 S H l' o' → Cel L H0 S1 H l' o' := by
  cases r with
  | none => exact ⟨S, g, Same.refl _, h, fun _ _ _ c => c⟩
  | some x =>
    obtain ⟨p, ws, rfl, h1, h2, h3, h4⟩ := h
    have c : Cel L H0 S H p (.lst ws) := ⟨h2, h3, .inl (gp.hnone h1), rfl⟩
    obtain ⟨S1, a, b, d, e⟩ := c_freeze g c (gp.hnone h1) h4
    exact ⟨S1, a, b, ⟨(fun z => nomatch z), d⟩, fun l' o' n c' => e l' o' (fun q => n (q ▸ h1)) c'⟩
theorem OP.optN {β : Type} {n : Option β} {s : α → Option β} {A : β → Prop} (h : OP (optC none n s) A) : OP n A := h
theorem OP.optS {β : Type} {x : α} {n : Option β} {s : α → Option β} {A : β → Prop} (h : OP (optC (Option.some x) n s) A) : OP (s x) A := h
end
end Z

namespace Z
open PySem PySem.Spec PyProof.Rows L2
/-! ### one of several readings -/
def tAlt (t u : TE) : TE := fun σ H Q => t σ H Q ∨ u σ H Q
theorem pe_alt {X : Cx} {e : Expr} {t u : TE} (h : PE X e t) (g : PE X e u) : PE X e (tAlt t u) := ⟨fun pins s σ H Q I q => by
  rcases q with q | q
  · exact h.run pins s σ H Q I q
  · exact g.run pins s σ H Q I q⟩
theorem fn_none {P : Program} {w : World} {K : PySem.W.Frag} {mg : Str → Option Value} {base : Heap} {CX : CXT} {k : Nat} {f : Addr} {fd : FuncData} {ps : List Str} {sp : Sp} (h : ∀ vs H Q E, ¬ sp vs H Q E) : FnOk P w K mg base CX k f fd ps sp :=
  ⟨fun vs H Q E q => absurd q (h vs H Q E), fun A outer s H args us vs Q E _ _ _ _ q => absurd q (h vs H Q E)⟩
/-- what isinstance asks of an own class -/
structure InsH (K : PySem.W.Frag) (C : Addr) : Prop where
  ha : PySem.W.findIn K (.ref C) "__class__" = some (some (.builtin "object.__class__"))
  hn : PySem.W.specialIn K (.builtin "object.__class__") "__get__" = some (some (.builtin "getset_descriptor.__get__"))
  htk : PySem.W.takesIn K (.builtin "object.__class__") = some true
  hm : PySem.W.mroIn K C (.type "object") = some true
theorem v_isO {K : PySem.W.Frag} {σ : L2.St} {H : Hp} {ta : TE} {l C D dx : Addr} {fs : List (Str × V)} {b : Bool} (ha : Val ta σ H (.ref l)) (hp : H l = some (.ins C dx fs)) (cl : Cls K C) (i : InsH K C) (e : PySem.W.kitOne K (.ref C) (.ref D) = some b) : Val (tCB (rIsi K) (tCons ta (tCons (tC (.ref D)) tNil))) σ H (.bl b) :=
  fun Q q => ha _ ⟨_, .ref D, _, _, _, rfl, .own D, .base (TyOf.ins hp cl i.ha i.hn i.htk i.hm), e, q⟩
theorem kit_t {K : PySem.W.Frag} {C D : Addr} (i : PySem.W.isClsIn K D = true) (t : PySem.W.typeIn K (.ref D) = some (.type "type")) (s : PySem.W.subIn K (.ref C) (.ref D) = some true) : PySem.W.kitOne K (.ref C) (.ref D) = some true := by
  unfold PySem.W.kitOne
  split
  · rfl
  · unfold PySem.W.kitCls
    show (if ((PySem.W.clsIn K D).isSome && PySem.W.typeIn K (.ref D) == some (.type "type")) = true then PySem.W.subIn K (.ref C) (.ref D) else none) = _
    have i' : (PySem.W.clsIn K D).isSome = true := i
    rw [i', t, if_pos, s]
    simp
theorem kit_f {K : PySem.W.Frag} {C D : Addr} (i : PySem.W.isClsIn K D = true) (t : PySem.W.typeIn K (.ref D) = some (.type "type")) (s : PySem.W.subIn K (.ref C) (.ref D) = some false) (sd : PySem.W.subIn K (.ref D) (.ref D) = some true) : PySem.W.kitOne K (.ref C) (.ref D) = some false := by
  unfold PySem.W.kitOne
  split
  · rename_i h
    have : (Value.ref C) = .ref D := beq_iff_eq.mp h
    rw [this] at s
    rw [s] at sd
    cases sd
  · unfold PySem.W.kitCls
    show (if ((PySem.W.clsIn K D).isSome && PySem.W.typeIn K (.ref D) == some (.type "type")) = true then PySem.W.subIn K (.ref C) (.ref D) else none) = _
    have i' : (PySem.W.clsIn K D).isSome = true := i
    rw [i', t, if_pos, s]
    simp

/-! ### comprehensions whose parts change the heap -/
section
variable {K : PySem.W.Frag} {σ : L2.St} {S H S0 H0 : Hp} {L : List Addr} {ta tl te : TE} {tt : TT} {tr : TA} {v : V} {Q : VK} {g : TG} {vs : List Nat}
theorem c_lcGL {α : Type} {R : V → α → Prop} {a : Addr} {us : List V} {xs : List α} (ha : Val tl σ H (.ref a)) (hp : Paired R us xs) (hq : SqL K H a us)
    (k : ∀ P, H P = none → ∃ Pv : List α → Hp → Prop, Pv xs (upd H P (.lst [])) ∧ (∀ ys H', Pv ys H' → SqL K H' a us) ∧ (∀ w x xs H', R w x → Pv (x :: xs) H' → ∀ N : Hp → Prop, (∀ H'', Pv xs H'' → N H'') → g w (wipe σ vs) H' fun σ2 H2 => wipe σ2 vs = wipe σ vs ∧ tt σ2 H2 fun b H3 =>
      if b = true then te σ2 H3 fun y H4 => ∃ acc, H4 P = some (.lst acc) ∧ acc.length < sizeLine ∧ N (upd H4 P (.lst (acc ++ [y]))) else N H3) ∧ ∀ H', Pv [] H' → Q (.ref P) H') : tLc (iList K tl) g tt te vs σ H Q :=
  ha _ ⟨a, rfl, ⟨us, hq⟩, fun P hP => by
    obtain ⟨Pv, h0, hl, hs, hd⟩ := k P hP
    exact turnsC_list hp Pv h0 hl hs hd⟩
theorem c_lcGR1 {n : Int} (ha : VA tr σ H [.int n]) (hj : gR n)
    (k : ∀ P, H P = none → ∃ Pv : List Int → Hp → Prop, Pv (rangeI 0 n.toNat) (upd H P (.lst [])) ∧ (∀ x xs H', Pv (x :: xs) H' → ∀ N : Hp → Prop, (∀ H'', Pv xs H'' → N H'') → g (.int x) (wipe σ vs) H' fun σ2 H2 => wipe σ2 vs = wipe σ vs ∧ tt σ2 H2 fun b H3 =>
      if b = true then te σ2 H3 fun y H4 => ∃ acc, H4 P = some (.lst acc) ∧ acc.length < sizeLine ∧ N (upd H4 P (.lst (acc ++ [y]))) else N H3) ∧ ∀ H', Pv [] H' → Q (.ref P) H') : tLc (iRng1 tr) g tt te vs σ H Q :=
  ha _ ⟨n, rfl, hj.1, hj.2, fun P hP => by
    obtain ⟨Pv, h0, hs, hd⟩ := k P hP
    exact turnsC_range Pv h0 hs hd⟩
theorem c_lcGR2 {m n : Int} (ha : VA tr σ H [.int m, .int n]) (hj : gR2 m n)
    (k : ∀ P, H P = none → ∃ Pv : List Int → Hp → Prop, Pv (rangeI m (n - m).toNat) (upd H P (.lst [])) ∧ (∀ x xs H', Pv (x :: xs) H' → ∀ N : Hp → Prop, (∀ H'', Pv xs H'' → N H'') → g (.int x) (wipe σ vs) H' fun σ2 H2 => wipe σ2 vs = wipe σ vs ∧ tt σ2 H2 fun b H3 =>
      if b = true then te σ2 H3 fun y H4 => ∃ acc, H4 P = some (.lst acc) ∧ acc.length < sizeLine ∧ N (upd H4 P (.lst (acc ++ [y]))) else N H3) ∧ ∀ H', Pv [] H' → Q (.ref P) H') : tLc (iRng2 tr) g tt te vs σ H Q :=
  ha _ ⟨m, n, rfl, hj, fun P hP => by
    obtain ⟨Pv, h0, hs, hd⟩ := k P hP
    exact turnsC_range Pv h0 hs hd⟩
theorem c_yes {q : Bool → Hp → Prop} (h : q true H) : tYes σ H q := h
theorem c_yesE {Z Z' : Prop} {q : Bool → Hp → Prop} (e : q true H = if true = true then Z else Z') (h : Z) : tYes σ H q := by
  show q true H
  rw [e, if_pos rfl]
  exact h
theorem ift {A B : Prop} (h : A) : if true = true then A else B := by rw [if_pos rfl]; exact h
theorem c_acc {α : Type} {τ : Rep K α} {l : Addr} {ws : List V} {xs ys : List α} {q : α} {N : Hp → Prop} (g : Grow L S0 H0 S H) (cl : Cel L H0 S H l (.lst ws)) (r : RL τ S ws xs) (rv : τ.R S v q) (hz : xs.length < 16777216) (he : xs ++ [q] = ys)
    (k : ∀ ws' H', Grow L S0 H0 S H' → Cel L H0 S H' l (.lst ws') → RL τ S ws' ys → (∀ l' o', l' ≠ l → Cel L H0 S H l' o' → Cel L H0 S H' l' o') → N H') : ∃ acc, H l = some (.lst acc) ∧ acc.length < sizeLine ∧ N (upd H l (.lst (acc ++ [v]))) := by
  subst he
  exact ⟨ws, cl.h, by rw [r.length, sizeLine_eq]; exact hz, k _ _ (g.wr cl rfl) (cl.wr rfl) (r.app (.cons rv .nil)) fun l' o' n c => c.wrn n⟩
end
end Z

namespace Z
open PySem PySem.Spec PyProof.Rows L2
/-! ### a fault: a text of three, and numbers -/
inductive Tag | start | step | bad deriving DecidableEq
def Tag.s : Tag → Str
  | .start => "start"
  | .step => "step"
  | .bad => "bad"
structure VT where
  t : Tag
  ns : List Int
deriving DecidableEq
theorem Tag.inj {a b : Tag} (h : a.s = b.s) : a = b := by
  cases a <;> cases b <;> first | rfl | (exact absurd h (by decide))
theorem Tag.ok (a : Tag) : PyData.strOk a.s = true := by cases a <;> decide +kernel
section
variable {K : PySem.W.Frag} {σ : L2.St} {S H : Hp} {v : V} {ta tb tc : TE}
def qV : Rep K VT := ⟨fun H v x => ∃ a, v = .ref a ∧ H a = some (.tup (.str x.t.s :: x.ns.map .int)), fun {H H' v x} e h => by
  obtain ⟨a, h1, h2⟩ := h
  exact ⟨a, h1, e _ _ h2⟩⟩
def qN : Rep K (List Int) := ⟨fun H v x => ∃ a, v = .ref a ∧ H a = some (.tup (x.map .int)), fun {H H' v x} e h => by
  obtain ⟨a, h1, h2⟩ := h
  exact ⟨a, h1, e _ _ h2⟩⟩
theorem qV1 {t : Tag} {s : Str} {i : Int} (h : (qT2 (K := K) qS qI).R S v (s, i)) (e : s = t.s) : (qV (K := K)).R S v ⟨t, [i]⟩ := by
  obtain ⟨a, w1, w2, rfl, h2, h3, h4⟩ := h
  cases (show w1 = .str s from h3)
  cases (show w2 = .int i from h4)
  exact ⟨a, rfl, by rw [h2, e]; rfl⟩
theorem qV2 {t : Tag} {s : Str} {i j : Int} (h : (qT3 (K := K) qS qI qI).R S v (s, i, j)) (e : s = t.s) : (qV (K := K)).R S v ⟨t, [i, j]⟩ := by
  obtain ⟨a, w1, w2, w3, rfl, h2, h3, h4, h5⟩ := h
  cases (show w1 = .str s from h3)
  cases (show w2 = .int i from h4)
  cases (show w3 = .int j from h5)
  exact ⟨a, rfl, by rw [h2, e]; rfl⟩
theorem nn_v {x : VT} (h : (qV (K := K)).R H v x) : v ≠ .non := by
  obtain ⟨a, rfl, _⟩ := h
  exact fun z => nomatch z
theorem ty_v {x : VT} (h : (qV (K := K)).R H v x) : TyX K H v (.type "tuple") := by
  obtain ⟨a, rfl, h2⟩ := h
  exact .base (.tup h2)
theorem v_lenV {x : VT} (ha : Val ta σ H v) (h : (qV (K := K)).R H v x) : Val (tCB (rLenS K) (tCons ta tNil)) σ H (.int ((x.ns.length : Int) + 1)) := by
  obtain ⟨a, rfl, h2⟩ := h
  refine fun Q q => ha _ ⟨a, _, rfl, .inr (SqT.of h2), ?_⟩
  rw [List.length_cons, List.length_map]
  exact q
theorem v_V0 {x : VT} (ha : Val ta σ H v) (hb : Val tb σ H (.int 0)) (h : (qV (K := K)).R H v x) : Val (tOp (rIxT K) ta tb) σ H (.str x.t.s) := by
  obtain ⟨a, rfl, h2⟩ := h
  exact fun Q q => ha _ (hb _ ⟨a, _, 0, _, rfl, rfl, SqT.of h2, L2.atI_nat (j := 0) rfl, q⟩)
theorem dpInts {H : Hp} : ∀ xs : List Int, DpAll K H (xs.map .int) (xs.map .int)
  | [] => .nil
  | x :: xs => .cons (.int x) (dpInts xs)
def dV : Dat (K := K) qV := ⟨fun x => .tuple (.str x.t.s :: x.ns.map .int), fun {H v x} h => by
    obtain ⟨a, rfl, h2⟩ := h
    exact .tup (SqT.of h2) (.cons (.str _) (dpInts _)), fun x => by
    show PyData.canLayAll0 (.str x.t.s :: x.ns.map .int) = true
    have h : ∀ xs : List Int, PyData.canLayAll0 (xs.map .int) = true := fun xs => layAll (K := K) dI xs
    show (PyData.canLay0 (.str x.t.s) && PyData.canLayAll0 (x.ns.map .int)) = true
    rw [h, Bool.and_true]
    exact x.t.ok, 2, fun x => by
    have h : PyData.depthAll (x.ns.map .int) ≤ 1 := depAll (K := K) dI x.ns
    show PyData.depth (.tuple (.str x.t.s :: x.ns.map .int)) ≤ _
    simp only [PyData.depth, PyData.depthAll]
    omega, fun x y => by
    have h : PyData.eqvAll (x.ns.map .int) (y.ns.map .int) = decide (x.ns = y.ns) := eqvAllD (K := K) dI x.ns y.ns
    show PyData.eqvAll (.str x.t.s :: x.ns.map .int) (.str y.t.s :: y.ns.map .int) = _
    simp only [PyData.eqvAll]
    rw [h]
    have e : PyData.eqv (.str x.t.s) (.str y.t.s) = decide (x.t.s = y.t.s) := by
      show (x.t.s == y.t.s) = _
      rw [Bool.beq_eq_decide_eq]
    rw [e, ← Bool.decide_and]
    exact decide_eq_decide.mpr ⟨fun h => by
      cases x; cases y
      rw [VT.mk.injEq]
      exact ⟨Tag.inj h.1, h.2⟩, fun h => by rw [h]; exact ⟨rfl, rfl⟩⟩⟩
theorem nnV : NN (K := K) dV := fun _ => ⟨rfl, rfl⟩
/-- x[1:] of a fault -/
theorem e_tailV {x : VT} {Q : VK} (h : (qV (K := K)).R H v x) (k : ∀ p H', Same H H' → H p = none → H' p = some (.tup (x.ns.map .int)) → Q (.ref p) H') : rSlT K v (some 1) none H Q := by
  obtain ⟨a, rfl, h2⟩ := h
  have e : HT.sIx (V.str x.t.s :: x.ns.map .int).length 0 (some 1) = 1 := by
    rw [List.length_cons]
    show HT.sIx _ 0 (some ((1 : Nat) : Int)) = 1
    rw [HT.sIx_nat]
    omega
  refine ⟨a, _, rfl, SqT.of h2, fun z => ?_, fun p hp => ?_⟩
  · rw [e] at z
    exact absurd z.1 (by decide)
  · refine k p _ (same_upd hp) hp ?_
    rw [show cutV (V.str x.t.s :: x.ns.map .int) (some 1) none = x.ns.map .int from ?_]
    · exact upd_same
    · unfold cutV
      rw [e]
      show (List.drop 1 _).take ((V.str x.t.s :: x.ns.map .int).length - 1) = _
      rw [List.drop_one, List.tail_cons, List.length_cons, Nat.add_sub_cancel, List.take_length]
theorem z_forTE {D : Ends} {g : TG} {tb : TS} {tl : TE} {tu : TS} (h : tl σ H fun x H1 => tSeq (tFor (iTup K (tC x)) g tb) tu D σ H1) : tSeq (tFor (iTup K tl) g tb) tu D σ H := h
end
end Z

namespace Z
open PySem PySem.Spec PyProof.Rows L2
/-! ### errors told -/
def exE {α β : Type} (r : Except Nat α) (er : Nat → Option β) (ok : α → Option β) : Option β := match r with
  | .ok x => ok x
  | .error c => er c
theorem OP.exO {α β : Type} {x : α} {er : Nat → Option β} {ok : α → Option β} {A : β → Prop} (h : OP (exE (.ok x) er ok) A) : OP (ok x) A := h
theorem OP.exR {α β : Type} {c : Nat} {er : Nat → Option β} {ok : α → Option β} {A : β → Prop} (h : OP (exE (.error c) er ok) A) : OP (er c) A := h
theorem takesN {X : Cx} : Takes X (fun _ _ _ _ => False) := fun _ _ ⟨_, _, _, _, _, _, _, _, _, _, _, _, _, _, _, _, z⟩ => z.elim
theorem passL {X : Cx} : Passes (L2.CX X.prog X.w) X (fun _ _ _ => False) := passes_call takesN (fun _ _ _ _ h => h)
theorem z_cutj {σ : L2.St} {H : Hp} {D : Ends} {t tu : TS} (P : L2.St → Hp → Prop) (hP : ∀ σ' H', P σ' H' → tu D σ' H') (h : ∀ N : L2.St → Hp → Prop, (∀ σ' H', P σ' H' → N σ' H') → t { D with nx := N } σ H) : tSeq t tu D σ H := h _ hP
/-- the first clause, with a name, takes what the body raises -/
def wA1 (K : PySem.W.Frag) (c : Value) (i : Nat) (ts : Addr → Value → Option Addr → TS) (D : Ends) : WX := fun cls d σ H =>
  PySem.W.exmOne K cls c = some true ∧ ∀ a, H a = none → ts a cls d { nx := fun σ1 H1 => D.nx (σ1.set i none) H1, rt := D.rt, bk := fun σ1 H1 => D.bk (σ1.set i none) H1, ct := fun σ1 H1 => D.ct (σ1.set i none) H1 } (σ.set i (some (.ref a))) H
section
variable {X : Cx} {x n : Str} {c : Value} {i : Nat} {bd su : List Stmt} {st0 : Stmt} {hds : List ExceptHandler} {q1 q2 q3 : Pos} {tb : WX → TS} {ts : Addr → Value → Option Addr → TS}
theorem ps_tryA (eS : X.stack = X.env :: X.outer) (eF : X.env.frame = some X.env.locals) (nd : X.N.Nodup) (gi : X.N[i]? = some n) (lc : X.env.kindOf n = some .local) (nm : Names X x c)
    (hbd : ∀ (W : WX) (pn : List (Addr × Obj)) (xe : Value → Shared → Prop), Takes (X.tr pn xe) W → PassesOwn (model X.prog X.w) X.A X.env xe → PSs (X.tr pn xe) bd (tb W))
    (hs : ∀ (a : Addr) (oe : Obj) (cls : Value) (d : Option Addr) (pn : List (Addr × Obj)), Zc cls d oe → (∃ vs, oe.data = .fields vs) → PSs (X.suite a ((a, oe) :: pn)) (st0 :: su) (ts a cls d)) :
    PS X (.Try bd (.ExceptHandler (some (.Name x q1)) (some n) (st0 :: su) q2 :: hds) [] [] q3) (fun D σ H => tb (wA1 X.K c i ts D) D σ H) := ⟨fun pins s σ H D I h => by
  have okI := I.ok
  have frm : X.A.frames = some (X.env :: X.outer) := okI.frames.trans (congrArg some eS)
  refine wpAny_Try_except (wpAny_mono ((hbd (wA1 X.K c i ts D) (X.pn ++ pins) (fun e s₁ => wpAny (model X.prog X.w) X.A (noteFrame e X.env) (fun _ s₂ => wpAny (model X.prog X.w) X.A (setFlight e none) (fun _ s₃ => wpAny (model X.prog X.w) X.A (handleBy e X.env (.ExceptHandler (some (.Name x q1)) (some n) (st0 :: su) q2 :: hds)) (SP X pins D) X.xe s₃) X.xe s₂) X.xe s₁) (fun u t1 air => ?_) PassesOwn.looking).run [] s σ H D (I.toTry _) h) (fun fl t1 sp => ?_) fun e t1 z => z)
  · obtain ⟨ea, Bd, sB, pinsB, σB, HB, cls, dd, rfl, IB', nbB, upB, sky0, naB, osB, agB, em, wsh⟩ := air
    have IB : Inv X pins σB HB sB := Inv.ofTry IB' okI
    have sky1 : Sky Bd (X.env :: X.outer) ea (Zc cls dd) X.env.locals t1.heap := eS ▸ sky0
    show wpAny (model X.prog X.w) X.A (noteFrame (Value.ref ea) X.env) _ _ _
    refine Sky.land Zc.steady frm eF sky1 fun hA flA upA => ?_
    have IA : Inv X pins σB HB { t1 with heap := hA } := Inv.landed IB nbB flA.1 (upB.trans upA) osB agB
    obtain ⟨oA, vA, getA, zA, datA⟩ := flA.there
    have noF : ea ∉ frs (X.env :: X.outer) := fun hm => by
      obtain ⟨_, o', e', hnf⟩ := (flA.2.2.1).mem hm
      rw [getA] at e'; cases e'
      exact hnf _ datA
    have n1 : ea ≠ X.env.locals := fun z => noF (List.mem_filterMap.mpr ⟨X.env, List.mem_cons_self, by rw [eF, z]⟩)
    have n2 : ea ∉ X.fs := fun hm => by
      obtain ⟨e, he, q⟩ := List.mem_filterMap.mp hm
      exact noF (List.mem_filterMap.mpr ⟨e, List.mem_cons_of_mem _ he, q⟩)
    have SA := Inv.suite IA getA datA naB n1 n2
    refine wpAny_handleBy_cons (codeAny_handlers_test ?_) (fun q => by cases q)
    have lookT : PySem.W.Looks (model X.prog X.w) hA (typeOf (.ref ea)) cls := fun A Q E s k q => wpAny_typeOf_ref (k _ _ getA) (by rw [zA.1]; exact q)
    have lookM := PySem.W.exm_one (M := model X.prog X.w) IA.kIn lookT em
    have tst : ∀ {Q E : Value → Shared → Prop}, Q c { t1 with heap := hA } → wpAny (model X.prog X.w) (X.A.mark (some (.ref ea))) (eval (.Name x q1) X.env) Q E { t1 with heap := hA } := fun {Q E} q => by
      rcases nm with ⟨hg, hdbg, hm | ⟨hm, hv, hnn⟩⟩
      · exact ld_glob (X := X.suite ea ((ea, oA) :: (X.pn ++ pins))) SA hg hm q hdbg
      · exact ld_blt (X := X.suite ea ((ea, oA) :: (X.pn ++ pins))) SA hg hm hv q hnn hdbg
    refine tst (lookM.here (codeAny_handlers_suite_as (HandSPX.lands_againZ flA fun hC flC upC => ?_)))
    have IC : Inv X pins σB HB { t1 with heap := hC } := Inv.landed IB nbB flC.1 ((upB.trans upA).trans upC) osB agB
    obtain ⟨oC, vC, getC, zC, datC⟩ := flC.there
    refine store_ok (X := X.suite ea ((ea, oC) :: (X.pn ++ pins))) (v := .ref ea) (Inv.suite IC getC datC naB n1 n2) nd gi (.inl lc) rfl (fun s5 S5 => ?_) (.inr lc)
    refine wpAny_mono ((hs ea oC cls dd (X.pn ++ pins) zC ⟨_, datC⟩).run [] s5 _ HB _ S5 (wsh ea naB)) (fun fl s6 sp => ?_) fun _ _ z => z.elim
    have gone : ∀ {σ6 : L2.St} {H6 : Hp} {Q : Shared → Prop}, Inv (X.suite ea ((ea, oC) :: (X.pn ++ pins))) [] σ6 H6 s6 → (∀ s7, Inv X pins (σ6.set i none) H6 s7 → Q s7) →
        wpAny (model X.prog X.w) X.A (do bindName X.env n .none; unbindBehindTheSuite X.env n q2) (fun _ s7 => Q s7) X.xe s6 := fun {σ6 H6 Q} S6 hq => gone_ok (S6.unsuite okI) nd gi lc hq
    cases fl with
    | next =>
      obtain ⟨σ6, H6, S6, k6⟩ := sp
      exact gone S6 fun s7 J7 => ⟨_, _, J7, k6⟩
    | brk =>
      obtain ⟨σ6, H6, S6, k6⟩ := sp
      exact gone S6 fun s7 J7 => ⟨_, _, J7, k6⟩
    | cont =>
      obtain ⟨σ6, H6, S6, k6⟩ := sp
      exact gone S6 fun s7 J7 => ⟨_, _, J7, k6⟩
    | ret u =>
      obtain ⟨v6, σ6, H6, S6, r6, k6⟩ := sp
      exact gone S6 fun s7 J7 => ⟨_, _, _, J7, r6, k6⟩
  · cases fl with
    | next =>
      obtain ⟨σ1, H1, J1, k⟩ := sp
      exact wpAny_execs_nil ⟨σ1, H1, J1.ofTry okI, k⟩
    | brk =>
      obtain ⟨σ1, H1, J1, k⟩ := sp
      exact ⟨σ1, H1, J1.ofTry okI, k⟩
    | cont =>
      obtain ⟨σ1, H1, J1, k⟩ := sp
      exact ⟨σ1, H1, J1.ofTry okI, k⟩
    | ret u =>
      obtain ⟨v, σ1, H1, J1, r, k⟩ := sp
      exact ⟨v, σ1, H1, J1.ofTry okI, r, k⟩⟩
end
theorem EXP.sp {α β : Type} {x : Except Nat α} {P : α → Prop} {N : Nat → Prop} {er : Nat → Option β} {ok : α → Option β} {A : β → Prop} (h : OP (exE x er ok) A) (hr : ∀ c, x = .error c → OP (er c) A → N c) (ho : ∀ v, x = .ok v → OP (ok v) A → P v) : EXP x P N := by
  cases x with
  | ok v => exact ho v rfl h
  | error c => exact hr c rfl h
theorem z_seqE {σ : L2.St} {H : Hp} {D : Ends} {t tu : TS} (h : t { D with nx := tu D } σ H) : tSeq t tu D σ H := h
theorem z_sl {σ σ' : L2.St} {H : Hp} {D : Ends} {tu : TS} (e : σ = σ') (h : tu D σ' H) : tu D σ H := e ▸ h
/-- isinstance(e, c), isinstance(e, (c1, c2, ..)), e the exception that the suite holds -/
def rIsES (K : PySem.W.Frag) (cls : Value) (d : Option Addr) (a : Addr) : List V → Hp → VK → Prop := fun xs H Q => ∃ (D : Addr) (c : V) (cv : Value) (b : Bool), cls = .ref D ∧ d = none ∧ ExcC K D ∧ xs = [.ref a, c] ∧ ClsV c cv ∧ PySem.W.kitOne K (.ref D) cv = some b ∧ Q (.bl b) H
def rIsET (K : PySem.W.Frag) (cls : Value) (d : Option Addr) (a : Addr) : List V → Hp → VK → Prop := fun xs H Q => ∃ (D tp : Addr) (cs : List V) (us : List Value) (b : Bool), cls = .ref D ∧ d = none ∧ ExcC K D ∧ xs = [.ref a, .ref tp] ∧ H tp = some (.tup cs) ∧ Paired ClsV cs us ∧ PySem.W.kitAny K (.ref D) us = some b ∧ Q (.bl b) H
theorem pin_inst {X : Cx} {a D : Addr} {oe : Obj} {pn pins : List (Addr × Obj)} {σ : L2.St} {H : Hp} {s : Shared} (I : Inv (X.suite a ((a, oe) :: pn)) pins σ H s) (hz : Zc (.ref D) none oe) (hf : ∃ vs, oe.data = .fields vs) : PySem.W.InstAt s.heap a oe D none := by
  obtain ⟨gt, _⟩ := I.pin (a, oe) (List.mem_append.mpr (.inl List.mem_cons_self))
  obtain ⟨vs, hv⟩ := hf
  obtain ⟨oc, od, oda, osl⟩ := oe
  obtain ⟨z1, z2⟩ := hz
  dsimp only at z1 z2 hv
  subst z1 z2 hv
  exact ⟨gt, rfl, rfl, trivial⟩
theorem call_isES {X : Cx} {a : Addr} {cls : Value} {d : Option Addr} {oe : Obj} {pn : List (Addr × Obj)} (hz : Zc cls d oe) (hf : ∃ vs, oe.data = .fields vs) : CallR (X.suite a ((a, oe) :: pn)) (.builtin "isinstance") (rIsES X.K cls d a) := by
  intro pins s σ H xs us Q I r h
  obtain ⟨D, c, cv, b, rfl, rfl, C, rfl, kc, e, q⟩ := h
  exact call_isE C hz hf pins s σ H _ us Q I r ⟨c, cv, b, rfl, fun u ru => kc.eq ru, e, q⟩
theorem call_isET {X : Cx} {a : Addr} {cls : Value} {d : Option Addr} {oe : Obj} {pn : List (Addr × Obj)} (hz : Zc cls d oe) (hf : ∃ vs, oe.data = .fields vs) : CallR (X.suite a ((a, oe) :: pn)) (.builtin "isinstance") (rIsET X.K cls d a) := by
  intro pins s σ H xs us Q I r h
  obtain ⟨D, tp, cs, ws, b, rfl, rfl, C, rfl, hT, k, e, q⟩ := h
  obtain ⟨u1, u2, rfl, r1, r2⟩ := vals2 r
  cases (show u2 = Value.ref tp from r2)
  cases (show u1 = Value.ref a from r1)
  have J := pin_inst I hz hf
  obtain ⟨_, its, rv, o, h1, h2, n, h3⟩ := I.hok tp _ hT
  have e3 := ClsV.all k rv
  subst e3
  obtain ⟨oc, od, dt, sl⟩ := o
  simp only at h2 h3
  subst h2 h3
  exact PySem.W.kia_tup (PySem.W.handS_kitx_exc C.hg C.hk C.hs C.hd C.ha C.hn C.ht C.hm) I.kIn J h1 e (fun z => nomatch z) fun tk => ⟨.bl b, H, I.kept (t' := tk) fun _ _ z => z, rfl, q⟩
section
variable {K : PySem.W.Frag} {σ : L2.St} {H : Hp} {ta tb : TE} {a D : Addr} {c : V} {cv : Value} {b : Bool}
theorem v_isE (C : ExcC K D) (ha : Val ta σ H (.ref a)) (hb : Val tb σ H c) (kc : ClsV c cv) (e : PySem.W.kitOne K (.ref D) cv = some b) : Val (tCB (rIsES K (.ref D) none a) (tCons ta (tCons tb tNil))) σ H (.bl b) :=
  fun Q q => ha _ (hb _ ⟨D, c, cv, b, rfl, rfl, C, rfl, kc, e, q⟩)
end
theorem kit_bt {K : PySem.W.Frag} {D : Addr} {T : String} {b : Bool} (m : PySem.W.kitMeta T = true) (s : PySem.W.subIn K (.ref D) (.type T) = some b) : PySem.W.kitOne K (.ref D) (.type T) = some b := by
  unfold PySem.W.kitOne
  have hne : ((Value.ref D : Value) == Value.type T) = false := by
    cases e : ((Value.ref D : Value) == Value.type T) with
    | false => rfl
    | true => cases beq_iff_eq.mp e
  rw [hne, if_neg Bool.false_ne_true]
  unfold PySem.W.kitCls
  show (if PySem.W.kitMeta T = true then PySem.W.subIn K (.ref D) (.type T) else none) = _
  rw [if_pos m, s]
theorem bt_ValueError : bootBuiltins "ValueError" = some (.type "ValueError") := by decide +kernel
theorem meta_ValueError : PySem.W.kitMeta "ValueError" = true := by decide +kernel
/-- o.m(e, ..), where what is raised is wished for at the slots -/
def tMethX (C : Addr) (m : Str) (sp : Sp) (E : L2.St → XK) (ta : TE) (t : TA) : TE := fun σ H Q => ta σ H fun x H1 => ∃ a dx fs, x = .ref a ∧ H1 a = some (.ins C dx fs) ∧ fs.lookup m = none ∧ t σ H1 fun vs H2 => sp (x :: vs) H2 Q (E σ)
theorem pe_methX {X : Cx} {CX : CXT} {k : Nat} {f C : Addr} {fd : FuncData} {ps : List Str} {sp : Sp} {E : L2.St → XK} {m : Str} {pos apos : Pos} {e o : Expr} {es : List Expr} {ta : TE} {t : TA} {pl : Sem Bool} (he : PE X o ta) (c : Cls X.K C) (hm : Meth X.K C m f) (F : FnOk X.prog X.w X.K X.mg X.base CX k f fd ps sp) (hr : Room k X.A) (hb : Binds X.K fd ps []) (hx : ∀ σ, PassesAt CX X σ (E σ)) (ha : PA X (e :: es) t)
    (hst : starEach (e :: es) X.env = (false, eval e X.env) :: starEach es X.env := by rfl) (hpl : (backTo pos (starEach es X.env)).any (·.1) = false := by rfl)
    (ht : eval (.Call (.Attribute o m apos) (e :: es) [] pos) X.env = (eval o X.env >>= fun ov => standAt apos.atName >>= fun _ => holding [ov] (getMethod ov m pl) >>= fun z => callWith pos z.1 z.2 (backTo pos (starEach (e :: es) X.env)) (backToKw pos (keywordEach [] X.env))) := by rfl) :
    PE X (.Call (.Attribute o m apos) (e :: es) [] pos) (tMethX C m sp E ta t) := ⟨fun pins s σ H Q I h => by
  refine PySem.W.methodCall_KW (pl := pl) (thn (he.run pins s σ H _ I h) fun u s1 ⟨x, H1, I1, rx, a, dx, fs, ex, ea, l, q⟩ => ?_) ht
  cases ex
  cases (show u = Value.ref a from rx)
  refine getmeth_ok I1 ea c hm l (PySem.W.callWith_K (first := [.ref a]) (h₀ := X.base) I.ok.mod.kin hm.kp (thn (ha.run pos pins s1 σ H1 _ I1 q) fun us s2 ⟨vs, H2, I2, r, q2⟩ => ⟨I2.kIn, ?_⟩) hst hpl)
  exact run_fnS (us := .ref a :: us) (vs := .ref a :: vs) F hr hb (hx σ) I2 (.cons rfl r) q2⟩
theorem kitAny_f {K : PySem.W.Frag} {t c : Value} {r : List Value} {b : Bool} (h : PySem.W.kitOne K t c = some false) (k : PySem.W.kitAny K t r = some b) : PySem.W.kitAny K t (c :: r) = some b := by
  unfold PySem.W.kitAny
  rw [h]
  exact k
theorem kitAny_t {K : PySem.W.Frag} {t c : Value} {r : List Value} (h : PySem.W.kitOne K t c = some true) : PySem.W.kitAny K t (c :: r) = some true := by
  unfold PySem.W.kitAny
  rw [h]
end Z
namespace Z
open PySem PySem.Spec PyProof.Rows L2
theorem z_suite {σ σ' : L2.St} {H : Hp} {D : Ends} {t tu : TS} {i : Nat} {a : Addr} (e : σ.set i (some (.ref a)) = σ') (h : ∀ (N Bk Ct : L2.St → Hp → Prop), (∀ σ1 H1, tu D (σ1.set i none) H1 → N σ1 H1) → t { nx := N, rt := D.rt, bk := Bk, ct := Ct } σ' H) :
    t { nx := fun σ1 H1 => (tu D) (σ1.set i none) H1, rt := D.rt, bk := fun σ1 H1 => D.bk (σ1.set i none) H1, ct := fun σ1 H1 => D.ct (σ1.set i none) H1 } (σ.set i (some (.ref a))) H := e ▸ h _ _ _ fun _ _ z => z
end Z
namespace Z
open PySem PySem.Spec PyProof.Rows L2
theorem c_callS {sp : Sp} {E : L2.St → XK} {tr : TA} {σ : L2.St} {H : Hp} {Q : VK} (h : tr σ H fun vs H1 => sp vs H1 Q (E σ)) : tCallS sp E tr σ H Q := h
end Z

namespace Z
open PySem PySem.Spec PyProof.Rows L2 PySem.Calls
/-! ### sorted(d.keys()) -/
def tSortKeys (te : TE) : TE := fun σ H Q => te σ H fun v H1 => ∃ (a : Addr) (kvs : List (Key × V)) (ks : List Int), v = .ref a ∧ H1 a = some (.dK kvs) ∧ kvs.map (·.1) = ks.map .inl ∧
  ∀ (zs : List Int) (p : Addr), zs.Perm ks → zs.Pairwise (· ≤ ·) → H1 p = none → Q (.ref p) (upd H1 p (.lst (zs.map V.int)))
theorem kv_keys : ∀ {kvs : List (Key × V)} {vs : List (Key × Value)}, KV kvs vs → kvs.map (·.1) = vs.map (·.1)
  | _, _, .nil => rfl
  | _, _, .cons a b => by rw [List.map_cons, List.map_cons, a.1, kv_keys b]
theorem keysInts {P : Program} {w : World} : ∀ {us : List Value} {ks : List Int} {vs : List (Key × Value)}, us.length = vs.length → (∀ (i : Nat) (v : Value), us[i]? = some v → ∃ k x, vs[i]? = some (k, x) ∧ (mixKind P w).is k v = true) → vs.map (·.1) = ks.map .inl → IntsAre us ks
  | [], ks, vs, hl, _, hk => by
    cases vs with
    | nil =>
      cases ks with
      | nil => exact .nil
      | cons => cases hk
    | cons => cases hl
  | u :: us, ks, vs, hl, h, hk => by
    cases vs with
    | nil => cases hl
    | cons q vs =>
      cases ks with
      | nil => cases hk
      | cons n ks =>
        rw [List.map_cons, List.map_cons] at hk
        injection hk with h1 h2
        obtain ⟨k, x, e, i⟩ := h 0 u rfl
        rw [List.getElem?_cons_zero] at e
        cases e
        rw [mixKind_is] at i
        have h1' : k = Sum.inl n := h1
        subst h1'
        rcases keyIs_shape i with ⟨j, t, e1, e2⟩ | ⟨y, t, e1, e2⟩
        · cases e1
          subst e2
          exact .cons n t (keysInts (P := P) (w := w) (by simpa using hl) (fun i v e => h (i + 1) v (by rw [List.getElem?_cons_succ]; exact e)) h2)
        · cases e1
theorem pe_sortedKeys {X : Cx} {e : Expr} {te : TE} {p pos apos cpos : Pos} (hc : X.calm = true) (hg : Gl X "sorted") (hm : X.mg "sorted" = none) (he : PE X e te)
    (hbase : attributeBase e "keys" X.env (eval e X.env) = eval e X.env := by rfl) (hline : (apos.endLine == cpos.line) = true := by rfl)
    (hs : starEach [.Call (.Attribute e "keys" apos) [] [] cpos] X.env = (false, eval (.Call (.Attribute e "keys" apos) [] [] cpos) X.env) :: starEach [] X.env := by rfl) :
    PE X (.Call (.Name "sorted" p) [.Call (.Attribute e "keys" apos) [] [] cpos] [] pos) (tSortKeys te) := by
  refine ⟨fun pins s σ H Q I h => ?_⟩
  refine wpAny_Call_Name_kw (ld_blt I hg hm bt_sorted ?_)
  refine PyProof.Rows.callWith_builtin1 (args_cons ?_ hs) hs rfl
  refine wpAny_Call_method (T := "dict") (id := "dict.keys") hbase rfl hline F.plainAttrs_dict F.slot_dict_keys F.type_dict_keys (thn (he.run pins s σ H _ I h) fun u s1 ⟨x, H1, I1, rx, d, kvs, ks, ex, hd, hks, q⟩ => ?_)
  subst ex
  obtain rfl : u = Value.ref d := rx
  obtain ⟨hz, hgd, vs, kv, hm⟩ := I1.hok d _ hd
  have hl : kvs.length = vs.length := Paired.length kv
  refine ⟨hm.typeIs, hm.mapOf.noDict, ?_⟩
  have I2 : Inv X pins σ H1 { s1 with heap := s1.heap.push { cls := .type "dict_keys", data := .fields #[.ref d] } } := I1.kept (t' := s1.toks) fun b ob q => Heap.get?_push_of_some _ q
  have fin : wpAny (model X.prog X.w) X.A (call (.builtin "sorted") [.ref s1.heap.objs.size]) (EP X pins σ Q) X.xe { s1 with heap := s1.heap.push { cls := .type "dict_keys", data := .fields #[.ref d] } } := by
    obtain ⟨ep, hat⟩ := hm.dictAt
    have hat2 := hat.push { cls := .type "dict_keys", data := .fields #[.ref d] }
    refine call_function_entry kind_sorted plain_sorted entry_sorted (args_sorted1 _) ?_
    unfold Builtin.«sorted»
    refine wpAny_bind (m := checkCount "sorted" 1 1 _) (wpAny_pure ?_)
    refine wpAny_bind (PySem.W.kdu_collect (A := X.A.in1) (PySem.W.kdl_keys (knd := mixKind X.prog X.w) (kvs := vs) (ep := ep)) (I1.ok.hd hc) ⟨⟨_, Heap.get?_push_size _ rfl, rfl, rfl⟩, hat2⟩ (by rw [← hl]; exact hz) fun h' tk acc hk hacc => ?_)
    have hlen : acc.toList.length = vs.length := by rw [Array.length_toList]; exact hacc.1
    refine wpAny_bind (wpAny_newList ?_ (by rw [hlen, ← hl]; exact hz))
    have hi : IntsAre acc.toList ks := keysInts (P := X.prog) (w := X.w) hlen (fun j v e => hacc.2 j v (by rw [← Array.getElem?_toList]; exact e)) ((kv_keys kv).symm.trans hks)
    have hzz : acc.toList.length ≤ sizeLine := by rw [hlen, ← hl]; exact hz
    have hob : (h'.push { cls := .type "list", data := .seq acc.toList.toArray }).get? h'.objs.size = some { cls := .type "list", data := .seq acc.toList.toArray } := Heap.get?_push_size _ rfl
    refine wpAny_bind (wpAny_holding (wpAny_call_entry slot_list_sort ⟨_, hob, rfl⟩ entry_list_sort (SrtO.list_sort_ord SrtO.swo_int hob hzz (fun h2 => SrtO.ints_sortable hi h2) fun out h1 h2 => ⟨_, rfl, ?_⟩) (args_list_sort _)))
    refine wpAny_pure ⟨_, rfl, ?_⟩
    obtain ⟨k1, k2, k3⟩ := SrtO.ints_out hi h1 h2
    obtain ⟨ep2, he'⟩ := PyProof.Rows.sortedHeap_at (vs := acc.toList) (out := out.toArray) hob
    have hlo : ((out.map SrtO.iv).map V.int).length ≤ sizeLine := by
      rw [List.length_map, k2.length_eq]
      have := congrArg List.length hks
      rw [List.length_map, List.length_map] at this
      rw [← this]; exact hz
    have old : ∀ b u, (s1.heap.push { cls := .type "dict_keys", data := .fields #[.ref d] }).get? b = some u → (sortedHeap (h'.push { cls := .type "list", data := .seq acc.toList.toArray }) h'.objs.size acc.toList out.toArray).get? b = some u := fun b u hu => by
      have h3 := hk b u hu
      have h4 : (h'.push { cls := .type "list", data := .seq acc.toList.toArray }).get? b = some u := Heap.get?_push_of_some _ h3
      rw [PyProof.Rows.sortedHeap_old (Nat.ne_of_lt (Heap.lt_size h3)) (Heap.lt_size h4)]
      exact h4
    have hsz : s1.heap.objs.size + 1 ≤ h'.objs.size := by
      have h3 := hk s1.heap.objs.size _ (Heap.get?_push_size _ rfl)
      exact Heap.lt_size h3
    have hpz : (s1.heap.push { cls := .type "dict_keys", data := .fields #[.ref d] }).objs.size ≤ h'.objs.size := by rw [size_push']; exact hsz
    exact ⟨.ref _, upd H1 h'.objs.size (.lst ((out.map SrtO.iv).map V.int)), I2.laid (t' := tk) old hpz ⟨hlo, out, ep2, vals_of_ints k1, he'⟩, rfl, q _ _ k2 k3 (I2.hok.fresh hpz)⟩
  show wpAny _ _ (callWith cpos (.builtin "dict.keys") [.ref d] [] []) _ _ s1
  exact method_meetsIn F.slot_dict_keys F.entry_dict_keys rfl (PySem.evalArgs_none ⟨rfl, hm.typeIs, F.args_dict_keys_1 _, _, PySem.W.kdl_meets_keys (mixKind X.prog X.w) d hgd, ⟨vs, hm⟩, args_nil fin⟩)
end Z
namespace Z
open PySem PySem.Spec PyProof.Rows L2
/-! ### dicts of one's own, keys ints -/
section
variable {K : PySem.W.Frag} {σ : L2.St} {S H S0 H0 : Hp} {L : List Addr} {ta tb te : TE} {β : Type} {Q : VK} {v : V} {D : Ends} {tu : TS}
def kvD (vf : β → V) (x : List (Int × β)) : List (Key × V) := x.map fun p => (.inl p.1, vf p.2)
def KR (vf : β → V) (kvs : List (Key × V)) (x : List (Int × β)) : Prop := kvs = kvD vf x
def putD (x : List (Int × β)) (k : Int) (v : β) : List (Int × β) := if (x.any fun p => decide (p.1 = k)) = true then x.map (fun p => if p.1 = k then (p.1, v) else p) else x ++ [(k, v)]
theorem KR.nil {vf : β → V} : KR vf [] [] := rfl
theorem KR.length {vf : β → V} {kvs : List (Key × V)} {x : List (Int × β)} (h : KR vf kvs x) : kvs.length = x.length := by rw [h]; unfold kvD; rw [List.length_map]
theorem KR.keys {vf : β → V} {kvs : List (Key × V)} {x : List (Int × β)} (h : KR vf kvs x) : kvs.map (·.1) = (x.map (·.1)).map .inl := by
  rw [h]
  unfold kvD
  rw [List.map_map, List.map_map]
  rfl
theorem KR.put {vf : β → V} {kvs : List (Key × V)} {x : List (Int × β)} (h : KR vf kvs x) (k : Int) (v : β) : KR vf (putK kvs (.inl k) (vf v)) (putD x k v) := by
  have inl : ∀ a : Int, decide ((Sum.inl a : Key) = .inl k) = decide (a = k) := fun a => decide_eq_decide.mpr ⟨fun e => Sum.inl.inj e, fun e => by rw [e]⟩
  have e1 : (kvs.any fun kv => decide (kv.1 = (.inl k : Key))) = x.any fun p => decide (p.1 = k) := by
    rw [h]
    unfold kvD
    rw [List.any_map]
    congr 1
    funext p
    exact inl p.1
  unfold KR putK putD
  rw [e1]
  split
  · rw [h]
    unfold kvD
    rw [List.map_map, List.map_map]
    apply List.map_congr_left
    intro p _
    show (if (Sum.inl p.1 : Key) = .inl k then ((Sum.inl p.1 : Key), vf v) else (.inl p.1, vf p.2)) = _
    by_cases e : p.1 = k
    · rw [if_pos (by rw [e])]
      show _ = ((.inl (if p.1 = k then (p.1, v) else p).1 : Key), vf (if p.1 = k then (p.1, v) else p).2)
      rw [if_pos e]
    · rw [if_neg (fun q => e (Sum.inl.inj q))]
      show _ = ((.inl (if p.1 = k then (p.1, v) else p).1 : Key), vf (if p.1 = k then (p.1, v) else p).2)
      rw [if_neg e]
  · rw [h]
    unfold kvD
    rw [List.map_append]
    rfl
theorem c_newdK (k : ∀ p H', Same H H' → H p = none → H' p = some (.dK []) → Q (.ref p) H') : tDNewK σ H Q := fun p hp => k p _ (same_upd hp) hp upd_same
theorem c_dnE (h : ∀ Q' : VK, Q' = Q → tDNewK σ H Q') : tDNewK σ H Q := h _ rfl
theorem c_setD {vf : β → V} {l : Addr} {kvs : List (Key × V)} {x : List (Int × β)} {i : Int} {q : β} (g : Grow L S0 H0 S H) (cl : Cel L H0 S H l (.dK kvs)) (r : KR vf kvs x) (ho : Val ta σ H (.ref l)) (hi : Val tb σ H (.int i)) (hz : x.length < 16777216)
    (k : ∀ kvs' H', Grow L S0 H0 S H' → Cel L H0 S H' l (.dK kvs') → KR vf kvs' (putD x i q) → (∀ l' o', l' ≠ l → Cel L H0 S H l' o' → Cel L H0 S H' l' o') → tu D σ H') : gSub ta tb rSetD (vf q) σ H (tu D) :=
  ho _ (hi _ ⟨l, _, rfl, DPut.k (k := .inl i) cl.h (by rw [r.length]; show _ < sizeLine; rw [sizeLine_eq]; exact hz), k _ _ (g.wr cl rfl) (cl.wr rfl) (r.put i q) fun l' o' n c => c.wrn n⟩)
theorem c_skE (h : ∀ Q' : VK, Q' = Q → tSortKeys te σ H Q') : tSortKeys te σ H Q := h _ rfl
theorem l_sortKeys {vf : β → V} {l : Addr} {kvs : List (Key × V)} {x : List (Int × β)} (ha : Val te σ H (.ref l)) (cl : Cel L H0 S H l (.dK kvs)) (r : KR vf kvs x) (k : ∀ p ws H', Same H H' → H p = none → H' p = some (.lst ws) → RL (K := K) qI S ws (sortI (x.map (·.1))) → Q (.ref p) H') : tSortKeys te σ H Q :=
  ha _ ⟨l, kvs, x.map (·.1), rfl, cl.h, r.keys, fun zs p h1 h2 hp => by
    have s1 : SrtO.Srtd ltI zs := h2.imp fun h => decide_eq_false (by omega)
    have : zs = sortI (x.map (·.1)) := srt_uniq ltI_tot (h1.trans (sortB_perm _).symm) s1 (sortB_srt ltI_asy ltI_tr _)
    subst this
    exact k p _ _ (same_upd hp) hp upd_same (RL.map V.int (fun _ => rfl) _)⟩
end
end Z

namespace Z
open PySem PySem.Spec PyProof.Rows L2
/-! ### texts -/
section
variable {K : PySem.W.Frag} {σ : L2.St} {S H S0 H0 : Hp} {L : List Addr} {ta tb te : TE} {Q : VK} {v : V} {D : Ends} {tu : TS}
def chS (s : Str) (i : Int) : Option Str := (L2.atI s.cps.toList i).map fun c => ⟨#[c]⟩
theorem v_chr {s c : Str} {i : Int} (ha : Val ta σ H (.str s)) (hb : Val tb σ H (.int i)) (hz : s.length ≤ 16777216) (he : chS s i = some c) : Val (tOp rIxS ta tb) σ H (.str c) := fun Q q => by
  unfold chS at he
  obtain ⟨n, e1, rfl⟩ := Option.map_eq_some_iff.mp he
  exact ha _ (hb _ ⟨s, i, n, rfl, rfl, hz, e1, q⟩)
@[irreducible] def inS (a b : Str) : Bool := !(Builtin.Str.occurrences b a 0 b.length 1).isEmpty
def rInT : R2 := fun x y H Q => ∃ i j, x = .str i ∧ y = .str j ∧ Q (.bl (!(Builtin.Str.occurrences j i 0 j.length 1).isEmpty)) H
def rNinT : R2 := fun x y H Q => ∃ i j, x = .str i ∧ y = .str j ∧ Q (.bl (!(!(Builtin.Str.occurrences j i 0 j.length 1).isEmpty))) H
theorem op_inT {X : Cx} : OpR X (compareOp .In) rInT := op_in_str
theorem op_ninT {X : Cx} : OpR X (compareOp .NotIn) rNinT := op_notin_str
theorem v_inS {a b : Str} (ha : Val ta σ H (.str a)) (hb : Val tb σ H (.str b)) : Val (tOp rInT ta tb) σ H (.bl (inS a b)) := fun Q q => ha _ (hb _ ⟨a, b, rfl, rfl, by unfold inS at q; exact q⟩)
theorem v_ninS {a b : Str} (ha : Val ta σ H (.str a)) (hb : Val tb σ H (.str b)) : Val (tOp rNinT ta tb) σ H (.bl (!(inS a b))) := fun Q q => ha _ (hb _ ⟨a, b, rfl, rfl, by unfold inS at q; exact q⟩)
theorem v_cutS {s : Str} {tl th : TO} {lo hi : Option Int} (ha : Val te σ H (.str s)) (hl : ∀ q : Option Int → Hp → Prop, q lo H → tl σ H q) (hh : ∀ q : Option Int → Hp → Prop, q hi H → th σ H q) (hz : s.length ≤ 16777216) :
    Val (tSl rSlS te tl th) σ H (.str (cutS s lo hi)) := fun Q q => c_slice ha hl hh ⟨s, rfl, hz, q⟩
def gStr (i : Int) : Prop := i.natAbs < 1073741824
instance (i : Int) : Decidable (gStr i) := by unfold gStr; infer_instance
def strI (i : Int) : Str := (toString i : String)
theorem v_strI {i : Int} (ha : Val ta σ H (.int i)) (hz : gStr i) : Val (tCB (fun xs H Q => ∃ i, xs = [.int i] ∧ i.natAbs.log2 < 1920 ∧ Q (.str (toString i)) H) (tCons ta tNil)) σ H (.str (strI i)) := fun Q q => ha _ ⟨i, rfl, by
  unfold gStr at hz
  by_cases h0 : i.natAbs = 0
  · rw [h0]; decide
  · have := Nat.log2_lt (n := i.natAbs) (k := 30) h0
    have h2 : i.natAbs.log2 < 30 := this.mpr hz
    omega, q⟩
/-! a text's sgs -/
def sgs (x : Str) : List Str := x.cps.toList.map fun c => ⟨#[c]⟩
theorem z_forS {x : Str} {te : TE} {g : TG} {tb : TS} (ha : Val te σ H (.str x)) (Pv : List Str → L2.St → Hp → Prop) (h0 : Pv (sgs x) σ H)
    (hs : ∀ y ys σ' H', Pv (y :: ys) σ' H' → ∀ N : L2.St → Hp → Prop, (∀ σ'' H'', Pv ys σ'' H'' → N σ'' H'') → g (.str y) σ' H' fun σ2 H2 => tb { D with nx := N, ct := N, bk := tu D } σ2 H2) (hd : ∀ σ' H', Pv [] σ' H' → tu D σ' H') :
    tSeq (tFor (iStr te) g tb) tu D σ H := ha _ ⟨x, rfl, by
  refine ⟨fun i m σ H => i ≤ x.cps.size ∧ m = x.cps.size - i ∧ Pv ((sgs x).drop i) σ H, ⟨_, Nat.zero_le _, rfl, h0⟩, fun i m σ H h => ?_⟩
  obtain ⟨hi, rfl, hp⟩ := h
  have hl : (sgs x).length = x.cps.size := by unfold sgs; rw [List.length_map, Array.length_toList]
  by_cases hc : i < x.cps.size
  · refine .inr ⟨hc, fun σ' H' => Pv ((sgs x).drop (i + 1)) σ' H', fun σ' H' q => ⟨x.cps.size - (i + 1), by omega, by omega, rfl, q⟩, fun v H' hy => ?_⟩
    obtain ⟨rfl, c, ec, rfl⟩ := hy
    have e : (sgs x).drop i = (⟨#[c]⟩ : Str) :: (sgs x).drop (i + 1) := by
      rw [List.drop_eq_getElem_cons (by rw [hl]; exact hc)]
      congr 1
      unfold sgs
      rw [List.getElem_map, Array.getElem_toList]
      rw [Array.getElem?_eq_getElem hc] at ec
      rw [Option.some.inj ec]
    rw [e] at hp
    exact hs _ _ σ H' hp _ fun σ'' H'' z => z
  · refine .inl ⟨by show x.cps.size ≤ i; omega, ?_⟩
    rw [List.drop_eq_nil_of_le (by omega)] at hp
    exact hd _ _ hp⟩
/-! x in a new tuple of texts -/
theorem inV_str (x : Str) : ∀ ys : List Str, inV (.str x) (ys.map V.str) = ys.any fun y => decide (y = x)
  | [] => rfl
  | y :: ys => by
    show (y == x || inV (.str x) (ys.map V.str)) = _
    rw [inV_str x ys, List.any_cons]
    congr 1
theorem e_inTS {x : Str} {p : Addr} {ys : List Str} (h : H p = some (.tup (ys.map V.str))) (q : Q (.bl (ys.any fun y => decide (y = x))) H) : rIn K false (.str x) (.ref p) H Q :=
  ⟨p, _, rfl, .inr (SqT.of h), rfl, by rw [List.all_map]; exact List.all_eq_true.mpr fun _ _ => rfl, by
    show Q (.bl (inV _ _)) H
    rw [inV_str]; exact q⟩
end
end Z
namespace Z
open PySem PySem.Spec PyProof.Rows L2
/-! ### enumerate(text) -/
theorem draws_str {prog : Program} {w : World} {A : Around} (hh : A.handled = none) (it : Addr) (x : Str) (t : Tok) :
    Draws prog w A it [it] x.cps.size (fun i v => ∃ c u, x.cps[i]? = some c ∧ v = .str ⟨#[c]⟩ u) (fun i h => h.IsStrIter it (strIterType x) x t i) := by
  unfold strIterType
  split
  · exact Draws.strAscii hh it x t
  · exact Draws.strWide hh it x t
def Iten (x : Str) : It :=
  ⟨fun i _ => i < x.cps.size, fun i H v H' => ∃ T c, v = .ref T ∧ H T = none ∧ H' = upd H T (.tup [.int (i : Nat), .str ⟨#[c]⟩]) ∧ x.cps[i]? = some c, fun i _ => x.cps.size ≤ i⟩
theorem turn_enumS {P : Program} {w : World} {K : PySem.W.Frag} {elts : List Expr} {kk : Nat} {tpos : Pos} (x : Str) (t : Tok) (e it : Addr) :
    Turn P w K (.Tuple elts kk tpos) (Iten x) [e, it] e (fun i h => (∃ old, IsEnum h e it ((i : Nat) : Int) old) ∧ h.IsStrIter it (strIterType x) x t i ∧ e ≠ it ∧ i ≤ x.cps.size) where
  mem := by simp
  obj := fun i h st b hb => by
    obtain ⟨⟨old, he⟩, ⟨o, ho, hc, hd⟩, _⟩ := st
    have e' : b = e ∨ b = it := by simpa using hb
    rcases e' with z | z
    · rw [z]; exact ⟨_, he, fun v q => nomatch q⟩
    · rw [z]; exact ⟨o, ho, fun v q => by rw [hd] at q; cases q⟩
  keep := fun i h h' st k => let ⟨⟨old, he⟩, ⟨o, ho, r⟩, hne⟩ := st; ⟨⟨old, k e (by simp) _ he⟩, ⟨o, k it (by simp) o ho, r⟩, hne⟩
  item := by
    intro X hP hw hK hc i pins s σ H E I hf st hg
    subst hP hw hK
    obtain ⟨⟨old, he⟩, hit, hne, hsz0⟩ := st
    have hel : e < s.heap.objs.size := Heap.lt_size he
    have hil : it < s.heap.objs.size := by obtain ⟨_, q, _⟩ := hit; exact Heap.lt_size q
    refine wpAny_pyNext_enum_itemD (draws_str (show X.A.in1.handled = none from I.ok.hd hc) it x t) he hit hg hne (by simp [hne]) fun v h' tk hv ho hit' hT hsz hk => ?_
    obtain ⟨c, u, hcx, rfl⟩ := hv
    refine ⟨_, rfl, wpAny_letOwnedTupleGo_enum (s := { s with heap := h', toks := tk + 1 }) ho fun h'' he' sb => ?_⟩
    have hT2 : h''.get? s.heap.objs.size = some { cls := .type "tuple", data := .seq #[.int i tk, .str ⟨#[c]⟩ u] } := (sb.2 _ (Nat.ne_of_gt hel)).trans hT
    have new : ObjOk X.prog X.w (upd H s.heap.objs.size (.tup [.int (i : Nat), .str ⟨#[c]⟩])) h'' s.heap.objs.size (.tup [.int (i : Nat), .str ⟨#[c]⟩]) :=
      ⟨by show 2 ≤ sizeLine; decide, [.int i tk, .str ⟨#[c]⟩ u], .cons ⟨_, rfl⟩ (.cons ⟨_, rfl⟩ .nil), ⟨_, hT2, rfl, _, rfl⟩⟩
    have I1 : Inv X pins σ (upd H s.heap.objs.size (.tup [.int (i : Nat), .str ⟨#[c]⟩])) { s with heap := h'', toks := tk + 1 } :=
      I.turnedNew (ch := [e, it]) (fun b ob hb q => (sb.2 b (fun z => hb (by simp [z]))).trans (hk b ob (fun z => hb (by simp [z])) (fun z => hb (by simp [z])) q)) hf (Nat.le_refl _) new
    have hit2 : h''.IsStrIter it (strIterType x) x t (i + 1) := by
      obtain ⟨o, q1, q2⟩ := hit'
      exact ⟨o, (sb.2 it (Ne.symm hne)).trans q1, q2⟩
    refine ⟨.ref s.heap.objs.size, _, I1, rfl, ⟨_, c, rfl, I.hok.fresh (Nat.le_refl _), rfl, hcx⟩, ⟨⟨Value.str ⟨#[c]⟩ u, ?_⟩, hit2, hne, hg⟩, fun b hb => ?_⟩
    · have e1 : ((i + 1 : Nat) : Int) = (i : Int) + 1 := by omega
      rw [e1]; exact he'
    · have hb' : b < s.heap.objs.size := by
        have e' : b = e ∨ b = it := by simpa using hb
        rcases e' with z | z
        · rw [z]; exact hel
        · rw [z]; exact hil
      rw [upd_ne (Nat.ne_of_lt hb')]
      exact (hf b hb).1
  done := by
    intro X hP hw hK hc i pins s σ H E I hf st hg
    subst hP hw hK
    obtain ⟨⟨old, he⟩, hit, hne, hsz0⟩ := st
    obtain ⟨f0, f1, f2, f3, f4, f5⟩ := hf it (by simp)
    obtain rfl : i = x.cps.size := Nat.le_antisymm hsz0 hg
    exact wpAny_pyNext_enum_endD (draws_str (show X.A.in1.handled = none from I.ok.hd hc) it x t) he hit fun h' eb => ⟨rfl, I.turned (t' := s.toks) (fun b o hb q => eb b o hb q) f0 f1 f3 f4 f5⟩
  self := fun A i s Q E st h => let ⟨⟨_, he⟩, _⟩ := st; wpAny_pyIter_enum he h
def iEnumS (ta : TA) : TI := fun σ H R => ta σ H fun vs H1 => ∃ x, vs = [.str x] ∧ R (Iten x) H1
theorem pi_enumS {X : Cx} {e : Expr} {ta : TA} {p pos tpos : Pos} {elts : List Expr} {kk : Nat} (hg : Gl X "enumerate") (hm : X.mg "enumerate" = none) (ha : PA X [e] ta) (hs : starEach [e] X.env = [(false, eval e X.env)] := by rfl) :
    PI X (.Tuple elts kk tpos) (.Call (.Name "enumerate" p) [e] [] pos) (iEnumS ta) := by
  refine ⟨fun pins s σ H R I h => ?_⟩
  refine Call_ (ld_blt I hg hm boot_enumerate (PyProof.Rows.callWith_type1 (thn (ha.run pos pins s σ H _ I h) fun us s1 ⟨vs, H1, I1, r1, q1⟩ => ?_) hs rfl))
  obtain ⟨x, ex, q⟩ := q1
  subst ex
  cases r1 with
  | cons r rr =>
    cases rr
    obtain ⟨t, rfl⟩ := r
    refine call_enumerate_str fun h' he hit hsz hk => wpAny_pyIter_enum he ?_
    have I2 : Inv X pins σ H1 { s1 with heap := h' } := I1.kept (t' := s1.toks) hk
    refine ⟨s1.heap.objs.size + 1, [s1.heap.objs.size + 1, s1.heap.objs.size], _, _, H1, rfl, I2, turn_enumS x t (s1.heap.objs.size + 1) s1.heap.objs.size, ⟨⟨.none, he⟩, hit, Nat.succ_ne_self _, Nat.zero_le _⟩, fun b hb => ?_, q⟩
    have e' : b = s1.heap.objs.size + 1 ∨ b = s1.heap.objs.size := by simpa using hb
    have hle : s1.heap.objs.size ≤ b := by
      rcases e' with z | z
      · rw [z]; exact Nat.le_add_right _ _
      · rw [z]; exact Nat.le_refl _
    exact I1.fpOk hle (I1.hok.fresh hle)
section
variable {K : PySem.W.Frag} {σ : L2.St} {H : Hp} {te : TE} {D : Ends} {tu : TS}
theorem z_forNS {x : Str} {g : TG} {tb : TS} (ha : Val te σ H (.str x)) (Pv : List (Int × Str) → L2.St → Hp → Prop) (h0 : Pv (enumI (sgs x)) σ H)
    (hs : ∀ (y : Int × Str) ys σ' H', Pv (y :: ys) σ' H' → ∀ N : L2.St → Hp → Prop, (∀ σ'' H'', Pv ys σ'' H'' → N σ'' H'') → ∀ t, H' t = none → g (.ref t) σ' (upd H' t (.tup [.int y.1, .str y.2])) fun σ2 H2 => tb { D with nx := N, ct := N, bk := tu D } σ2 H2) (hd : ∀ σ' H', Pv [] σ' H' → tu D σ' H') :
    tSeq (tFor (iEnumS (tCons te tNil)) g tb) tu D σ H := ha _ ⟨x, rfl, by
  have hl : (sgs x).length = x.cps.size := by unfold sgs; rw [List.length_map, Array.length_toList]
  refine ⟨fun i m σ H => i ≤ x.cps.size ∧ m = x.cps.size - i ∧ Pv ((enumI (sgs x)).drop i) σ H, ⟨_, Nat.zero_le _, rfl, h0⟩, fun i m σ H h => ?_⟩
  obtain ⟨hi, rfl, hp⟩ := h
  by_cases hc : i < x.cps.size
  · refine .inr ⟨hc, fun σ' H' => Pv ((enumI (sgs x)).drop (i + 1)) σ' H', fun σ' H' q => ⟨x.cps.size - (i + 1), by omega, by omega, rfl, q⟩, fun v H' hy => ?_⟩
    obtain ⟨T, c, rfl, hT, rfl, ec⟩ := hy
    have e2 : (enumI (sgs x))[i]? = some ((i : Int), (⟨#[c]⟩ : Str)) := by
      have := enumF_get (sgs x) 0 i ⟨#[c]⟩ (by
        unfold sgs
        rw [List.getElem?_map, Array.getElem?_toList, ec]; rfl)
      rw [Nat.zero_add] at this
      exact this
    have e3 : (enumI (sgs x)).drop i = ((i : Int), (⟨#[c]⟩ : Str)) :: (enumI (sgs x)).drop (i + 1) := by
      obtain ⟨h1, h2⟩ := List.getElem?_eq_some_iff.mp e2
      rw [List.drop_eq_getElem_cons h1, h2]
    rw [e3] at hp
    exact hs _ _ σ H hp _ (fun _ _ z => z) T hT
  · refine .inl ⟨by show x.cps.size ≤ i; omega, ?_⟩
    rw [List.drop_eq_nil_of_le (by unfold enumI; rw [enumF_len]; omega)] at hp
    exact hd _ _ hp⟩
end
end Z

namespace E
open PySem PySem.Spec PyProof.Rows L2 Z
def top (i : Nat) : Stmt := PySem.Challenge.pw_evernever_k25_bars_as_signs.main.body.getD i (.Pass ⟨0, 0, 0, 0⟩)
structure Cl where
  mk ::
  EverError : Addr
  NoBar : Addr
  NoChart : Addr
  NoFence : Addr
  NoFormula : Addr
  NoFrame : Addr
  NoLine : Addr
  NoMachine : Addr
  NoName : Addr
  NoStep : Addr
  NotShut : Addr
  NothingLeft : Addr
  TooMany : Addr
def clsV (c : Cl) : Nat → Value
  | 6 => .ref c.NoBar
  | _ => .none
section
variable {P : Program} {w : World} {K : PySem.W.Frag} {mg : Str → Option Value} {base : Heap}

structure Tx (K : PySem.W.Frag) (mg : Str → Option Value) : Type where
  c : Cl
  f__law_bar_of : Addr
  d__law_bar_of : FuncData
  F__law_bar_of : Fun K "_law_bar_of" "_law_bar_of" (top 23) f__law_bar_of d__law_bar_of
  b__law_bar_of : Binds K d__law_bar_of ["_law_text"] []
  m__law_bar_of : mg "_law_bar_of" = some (.ref f__law_bar_of)
  f__law_cell_at : Addr
  d__law_cell_at : FuncData
  F__law_cell_at : Fun K "_law_cell_at" "_law_cell_at" (top 20) f__law_cell_at d__law_cell_at
  b__law_cell_at : Binds K d__law_cell_at ["_law_script", "_law_k"] []
  m__law_cell_at : mg "_law_cell_at" = some (.ref f__law_cell_at)
  f__law_signs : Addr
  d__law_signs : FuncData
  F__law_signs : Fun K "_law_signs" "_law_signs" (top 21) f__law_signs d__law_signs
  b__law_signs : Binds K d__law_signs ["_law_cell", "_law_size"] []
  m__law_signs : mg "_law_signs" = some (.ref f__law_signs)
  f__law_spoilt : Addr
  d__law_spoilt : FuncData
  F__law_spoilt : Fun K "_law_spoilt" "_law_spoilt" (top 22) f__law_spoilt d__law_spoilt
  b__law_spoilt : Binds K d__law_spoilt ["_law_text", "_law_cell"] []
  m__law_spoilt : mg "_law_spoilt" = some (.ref f__law_spoilt)
  f_read_bar : Addr
  d_read_bar : FuncData
  F_read_bar : Fun K "read_bar" "read_bar" (top 18) f_read_bar d_read_bar
  b_read_bar : Binds K d_read_bar ["text"] []
  m_read_bar : mg "read_bar" = some (.ref f_read_bar)
  f__law_read : Addr
  d__law_read : FuncData
  F__law_read : Fun K "_law_read" "_law_read" (top 24) f__law_read d__law_read
  b__law_read : Binds K d__law_read ["_law_text"] []
  m__law_read : mg "_law_read" = some (.ref f__law_read)
  f__law_refused_alone : Addr
  d__law_refused_alone : FuncData
  F__law_refused_alone : Fun K "_law_refused_alone" "_law_refused_alone" (top 25) f__law_refused_alone d__law_refused_alone
  b__law_refused_alone : Binds K d__law_refused_alone ["_law_text"] []
  m__law_refused_alone : mg "_law_refused_alone" = some (.ref f__law_refused_alone)
  f__law_told : Addr
  d__law_told : FuncData
  F__law_told : Fun K "_law_told" "_law_told" (top 26) f__law_told d__law_told
  b__law_told : Binds K d__law_told ["_law_text"] []
  m__law_told : mg "_law_told" = some (.ref f__law_told)
  f_asks_for : Addr
  d_asks_for : FuncData
  F_asks_for : Fun K "asks_for" "asks_for" (top 1) f_asks_for d_asks_for
  b_asks_for : Binds K d_asks_for ["bar", "lamp"] []
  m_asks_for : mg "asks_for" = some (.ref f_asks_for)
  f_shown_bar : Addr
  d_shown_bar : FuncData
  F_shown_bar : Fun K "shown_bar" "shown_bar" (top 17) f_shown_bar d_shown_bar
  b_shown_bar : Binds K d_shown_bar ["many", "bar"] []
  m_shown_bar : mg "shown_bar" = some (.ref f_shown_bar)
  f_law : Addr
  d_law : FuncData
  F_law : Fun K "law" "law" (top 27) f_law d_law
  b_law : Binds K d_law ["_law_script"] []
  m_law : mg "law" = some (.ref f_law)
  i_NoBar_NoBar : PySem.W.kitOne K (.ref c.NoBar) (.ref c.NoBar) = some true
  i_NoBar_NoChart : PySem.W.kitOne K (.ref c.NoBar) (.ref c.NoChart) = some false
  i_NoBar_NoFence : PySem.W.kitOne K (.ref c.NoBar) (.ref c.NoFence) = some false
  i_NoBar_NoFormula : PySem.W.kitOne K (.ref c.NoBar) (.ref c.NoFormula) = some false
  i_NoBar_NoFrame : PySem.W.kitOne K (.ref c.NoBar) (.ref c.NoFrame) = some false
  i_NoBar_NoLine : PySem.W.kitOne K (.ref c.NoBar) (.ref c.NoLine) = some false
  i_NoBar_NoMachine : PySem.W.kitOne K (.ref c.NoBar) (.ref c.NoMachine) = some false
  i_NoBar_NoName : PySem.W.kitOne K (.ref c.NoBar) (.ref c.NoName) = some false
  i_NoBar_NoStep : PySem.W.kitOne K (.ref c.NoBar) (.ref c.NoStep) = some false
  i_NoBar_NotShut : PySem.W.kitOne K (.ref c.NoBar) (.ref c.NotShut) = some false
  i_NoBar_NothingLeft : PySem.W.kitOne K (.ref c.NoBar) (.ref c.NothingLeft) = some false
  i_NoBar_TooMany : PySem.W.kitOne K (.ref c.NoBar) (.ref c.TooMany) = some false
  m_EverError : mg "EverError" = some (.ref c.EverError)
  m_NoBar : mg "NoBar" = some (.ref c.NoBar)
  m_NoChart : mg "NoChart" = some (.ref c.NoChart)
  m_NoFence : mg "NoFence" = some (.ref c.NoFence)
  m_NoFormula : mg "NoFormula" = some (.ref c.NoFormula)
  m_NoFrame : mg "NoFrame" = some (.ref c.NoFrame)
  m_NoLine : mg "NoLine" = some (.ref c.NoLine)
  m_NoMachine : mg "NoMachine" = some (.ref c.NoMachine)
  m_NoName : mg "NoName" = some (.ref c.NoName)
  m_NoStep : mg "NoStep" = some (.ref c.NoStep)
  m_NotShut : mg "NotShut" = some (.ref c.NotShut)
  m_NothingLeft : mg "NothingLeft" = some (.ref c.NothingLeft)
  m_TooMany : mg "TooMany" = some (.ref c.TooMany)
  e_NoBar : ExF K c.NoBar
  x_NoBar_EverError : PySem.W.exmOne K (.ref c.NoBar) (.ref c.EverError) = some true
  x_NoBar_NoBar : PySem.W.exmOne K (.ref c.NoBar) (.ref c.NoBar) = some true
  xc_NoBar : ExcC K c.NoBar
  ib_NoBar_ValueError : PySem.W.subIn K (.ref c.NoBar) (.type "ValueError") = some true
  n_ValueError : mg "ValueError" = none
  n_bool : mg "bool" = none
  n_enumerate : mg "enumerate" = none
  n_int : mg "int" = none
  n_isinstance : mg "isinstance" = none
  n_len : mg "len" = none
  n_range : mg "range" = none
  n_str : mg "str" = none
  n_tuple : mg "tuple" = none


@[irreducible] def m__law_bar_of (text1 : Str) : Option (Option (Int × Int)) :=
brk (forR (fun sign2 s =>
un3 (fun asked11 lit12 worth13 =>
ifo (!(inS sign2 ("01-" : Str))) (
some (.inr none)) (
(ifo (!(decide (sign2 = ("-" : Str)))) (
lt (asked11 + worth13) fun asked27 =>
some asked27) (
some asked11)).bind (fun asked19 =>
(ifo (decide (sign2 = ("1" : Str))) (
lt (lit12 + worth13) fun lit26 =>
some lit26) (
some lit12)).bind (fun lit23 =>
lt (worth13 * 2) fun worth25 =>
some (.inl (asked19, lit23, worth25)))))) s) ((sgs text1)) (0, 0, 1)) (fun s => un3 (fun asked11 lit12 worth13 =>
grd (text1.length ≤ 16777216) <|
(ifo (decide ((text1.length : Int) < 1)) (some true) (grd (text1.length ≤ 16777216) <|
some (decide (6 < (text1.length : Int))))).bind fun c_31 =>
ifo c_31 (
some none) (
some (some (asked11, lit12)))) s)
abbrev s__law_bar_of : Stmt := top 23
abbrev sn__law_bar_of : List Str := ["_law_text", "_law_asked", "_law_lit", "_law_worth", "_law_sign"]
theorem sc__law_bar_of : FnScope ["_law_text", "_law_asked", "_law_lit", "_law_worth", "_law_sign"] ["_law_text"] (defScope (s__law_bar_of)) := ⟨rfl, rfl, rfl, by decide +kernel, rfl, by decide +kernel, by decide +kernel⟩
def p__law_bar_of (K : PySem.W.Frag) (c : Cl) : Sp := fun vs H Q E => ∃ (S : Hp) (text1 : Str), vs = [.str text1] ∧ Same S H ∧ OP (m__law_bar_of text1) (fun r => ∀ (S' H' : Hp) (v : V), Grow [] S H S' H' → ((qOpt (qT2 (qI (K := K)) (qI (K := K))))).R S' v r → Q v H')
theorem ok__law_bar_of (T : Tx K mg) : FnOk P w K mg base CX0 1 T.f__law_bar_of T.d__law_bar_of ["_law_text"] (p__law_bar_of K T.c) := by
  refine T.F__law_bar_of.ok sc__law_bar_of (fun vs H Q E h => by obtain ⟨S, text1, rfl, _⟩ := h; rfl) (fun cdv A outer s H vs Q E hr h => ?_)
  obtain ⟨S, text1, rfl, gS, h⟩ := h
  obtain ⟨A_, hA⟩ : ∃ A_, A_ = (fun r : (Option (Int × Int)) => ∀ (S' H' : Hp) (v : V), Grow [] S H S' H' → ((qOpt (qT2 (qI (K := K)) (qI (K := K))))).R S' v r → Q v H') := ⟨_, rfl⟩
  replace h : OP (m__law_bar_of text1) A_ := hA ▸ h
  rw [m__law_bar_of] at h
  refine ⟨_, (pss_cons (ps_set (i := 1) sc__law_bar_of.nd rfl (.inl rfl) pe_int)
      (pss_cons (ps_set (i := 2) sc__law_bar_of.nd rfl (.inl rfl) pe_int)
      (pss_cons (ps_set (i := 3) sc__law_bar_of.nd rfl (.inl rfl) pe_int)
      (pss_cons (ps_for PassesOwn.never rfl (pi_str (pe_var (i := 0) rfl (.inl rfl) rfl rfl)) (pg_name (i := 4) sc__law_bar_of.nd rfl (.inl rfl)) (pss_cons (ps_if (pt_cmpR (show OpR _ _ rNinT from op_ninT) (pe_var (i := 4) rfl (.inl rfl) rfl rfl) pe_str rfl) (pss_cons (ps_ret pe_non)
      pss_nil) pss_nil)
      (pss_cons (ps_if (pt_cmpR op_ne (pe_var (i := 4) rfl (.inl rfl) rfl rfl) pe_str (nomark _)) (pss_cons (ps_set (i := 1) sc__law_bar_of.nd rfl (.inl rfl) (pe_op op_add (pe_var (i := 1) rfl (.inl rfl) rfl rfl) (pe_var (i := 3) rfl (.inl rfl) rfl rfl)))
      pss_nil) pss_nil)
      (pss_cons (ps_if (pt_cmpR op_eq (pe_var (i := 4) rfl (.inl rfl) rfl rfl) pe_str (nomark _)) (pss_cons (ps_set (i := 2) sc__law_bar_of.nd rfl (.inl rfl) (pe_op op_add (pe_var (i := 2) rfl (.inl rfl) rfl rfl) (pe_var (i := 3) rfl (.inl rfl) rfl rfl)))
      pss_nil) pss_nil)
      (pss_cons (ps_set (i := 3) sc__law_bar_of.nd rfl (.inl rfl) (pe_op op_mul (pe_var (i := 3) rfl (.inl rfl) rfl rfl) pe_int))
      pss_nil)))))
      (pss_cons (ps_if (PW.pt (pw_or (pt_cmpR op_lt (pe_callB call_len_str rfl T.n_len bt_len (pa_cons (pe_var (i := 0) rfl (.inl rfl) rfl rfl) pa_nil)) pe_int (nomark _)) (pw_or1 (pt_cmpR op_gt (pe_callB call_len_str rfl T.n_len bt_len (pa_cons (pe_var (i := 0) rfl (.inl rfl) rfl rfl) pa_nil)) pe_int (nomark _))))) (pss_cons (ps_ret pe_non)
      pss_nil) pss_nil)
      (pss_cons (ps_ret (pe_tup (pa_cons (pe_var (i := 1) rfl (.inl rfl) rfl rfl) (pa_cons (pe_var (i := 2) rfl (.inl rfl) rfl rfl) pa_nil))))
      pss_nil)))))), ?_⟩
  refine z_start (σ := [some (.str text1), none, none, none, none]) rfl ?_
  have g : Grow [] S H S H := Grow.refl gS
  refine z_set (w := (.int 0)) (σ' := [some (.str text1), some (.int 0), none, none, none]) val_c rfl rfl ?_
  refine z_set (w := (.int 0)) (σ' := [some (.str text1), some (.int 0), some (.int 0), none, none]) val_c rfl rfl ?_
  refine z_set (w := (.int 1)) (σ' := [some (.str text1), some (.int 0), some (.int 0), some (.int 1), none]) val_c rfl rfl ?_
  obtain ⟨B5, h, hB6⟩ := OP.brk h
  obtain ⟨F7, hF8, h⟩ := OP.nameR h
  refine z_forS (val_var rfl) (fun ys10 σ' H' => ∃ (asked11 : Int) (lit12 : Int) (worth13 : Int) (u14 : Option V), σ' = [some (.str text1), some (.int asked11), some (.int lit12), some (.int worth13), u14] ∧ H = H' ∧ OP (forR F7 ys10 (asked11, lit12, worth13)) (SE B5 A_)) ⟨_, _, _, _, rfl, rfl, h⟩ (fun sign2 ys10 σ' H_15 p N hN9 => ?_) ?_
  · obtain ⟨asked11, lit12, worth13, u14, rfl, rfl, h⟩ := p
    replace h := OP.forR h
    replace h := OP.fcall2 hF8 h
    replace h := OP.un3 h
    refine g_name (σ' := [some (.str text1), some (.int asked11), some (.int lit12), some (.int worth13), some (.str sign2)]) rfl ?_
    refine z_if (v_test (v_ninS (val_var rfl) val_c)) (fun hc => ?_) (fun hc => ?_)
    · replace h := OP.ite1 hc h
      refine z_ret val_c ?_
      have r16 := (show ((qOpt (qT2 (qI (K := K)) (qI (K := K))))).R S .non none from rfl)
      have h := OP.fin hA h
      exact h _ _ _ g r16
    · replace h := OP.ite0 hc h
      refine z_nextR ?_
      obtain ⟨B17, h, hB18⟩ := OP.cut h
      refine z_ifj (fun σ' H' => ∃ (asked19 : Int), σ' = [some (.str text1), some (.int asked19), some (.int lit12), some (.int worth13), some (.str sign2)] ∧ H = H' ∧ B17 asked19) (v_test (v_neS (val_var rfl) val_c)) ?_ (fun hc N hN => ?_) (fun hc N hN => ?_)
      · intro σ' H_20 p
        obtain ⟨asked19, rfl, rfl, h⟩ := p
        replace h := hB18 _ h
        obtain ⟨B21, h, hB22⟩ := OP.cut h
        refine z_ifj (fun σ' H' => ∃ (lit23 : Int), σ' = [some (.str text1), some (.int asked19), some (.int lit23), some (.int worth13), some (.str sign2)] ∧ H = H' ∧ B21 lit23) (v_test (v_eqS (val_var rfl) val_c)) ?_ (fun hc N hN => ?_) (fun hc N hN => ?_)
        · intro σ' H_24 p
          obtain ⟨lit23, rfl, rfl, h⟩ := p
          replace h := hB22 _ h
          obtain ⟨worth25, eworth25, h⟩ := OP.lt h
          refine z_set (w := (.int worth25)) (σ' := [some (.str text1), some (.int asked19), some (.int lit23), some (.int worth25), some (.str sign2)]) (v_o2c (val_var rfl) val_c (.inr ⟨by decide, by decide⟩)) (congrArg V.int eworth25) rfl ?_
          refine z_next ?_
          exact hN9 _ _ ⟨_, _, _, _, rfl, rfl, h⟩
        · replace h := OP.ite1 hc h
          obtain ⟨lit26, elit26, h⟩ := OP.lt h
          refine z_set (w := (.int lit26)) (σ' := [some (.str text1), some (.int asked19), some (.int lit26), some (.int worth13), some (.str sign2)]) (v_o2 (val_var rfl) (val_var rfl)) (congrArg V.int elit26) rfl ?_
          refine z_next ?_
          exact hN _ _ ⟨_, rfl, rfl, h⟩
        · replace h := OP.ite0 hc h
          refine z_next ?_
          exact hN _ _ ⟨_, rfl, rfl, h⟩
      · replace h := OP.ite1 hc h
        obtain ⟨asked27, easked27, h⟩ := OP.lt h
        refine z_set (w := (.int asked27)) (σ' := [some (.str text1), some (.int asked27), some (.int lit12), some (.int worth13), some (.str sign2)]) (v_o2 (val_var rfl) (val_var rfl)) (congrArg V.int easked27) rfl ?_
        refine z_next ?_
        exact hN _ _ ⟨_, rfl, rfl, h⟩
      · replace h := OP.ite0 hc h
        refine z_next ?_
        exact hN _ _ ⟨_, rfl, rfl, h⟩
  · intro σ' H_28 p
    obtain ⟨asked11, lit12, worth13, u14, rfl, rfl, h⟩ := p
    replace h := hB6 _ (OP.forR_nil h)
    replace h := OP.un3 h
    obtain ⟨g29, h⟩ := OP.grd h
    obtain ⟨c_31, ec_31, h⟩ := OP.bind h
    refine z_if (a_orP (v_test (v_o2 (v_lenS g29 (val_var rfl)) val_c)) ec_31 (fun hb hm => by
          obtain ⟨g30, hm⟩ := grd_some hm
          exact (a_eq (v_test (v_o2 (v_lenS g30 (val_var rfl)) val_c)) (Option.some.inj hm)))) (fun hc => ?_) (fun hc => ?_)
    · replace h := OP.ite1 hc h
      refine z_ret val_c ?_
      have r32 := (show ((qOpt (qT2 (qI (K := K)) (qI (K := K))))).R S .non none from rfl)
      have h := OP.fin hA h
      exact h _ _ _ g r32
    · replace h := OP.ite0 hc h
      refine z_nextR ?_
      refine z_retE ?_
      refine c_tupE fun Q_33 hQ_33 => ?_
      refine c_args (va_cons (val_var rfl) (va_cons (val_var rfl) va_nil)) ?_
      refine c_newtup (Q := Q_33) (vs := [(.int asked11), (.int lit12)]) g.sh (show 2 ≤ 1000 by decide) fun p34 S_35 H_36 gs37 ep38 => ?_
      refine q_eq hQ_33 ?_
      replace g := g.call0 gs37
      have r39 : ((qT2 (qI (K := K)) (qI (K := K)))).R S_35 (.ref p34) (asked11, lit12) := ⟨p34, _, _, rfl, ep38, rfl, rfl⟩
      have r40 := (show ((qOpt (qT2 (qI (K := K)) (qI (K := K))))).R S_35 (.ref p34) (some (asked11, lit12)) from ⟨(fun z => nomatch z), r39⟩)
      have h := OP.fin hA h
      exact h _ _ _ g r40

@[irreducible] def m__law_cell_at (script1 : (List Int)) (k4 : Int) : Option Int :=
ifo (decide (k4 < (script1.length : Int))) (
(atI script1 k4).bind fun i5 =>
some i5) (
some 0)
abbrev s__law_cell_at : Stmt := top 20
abbrev sn__law_cell_at : List Str := ["_law_script", "_law_k"]
theorem sc__law_cell_at : FnScope ["_law_script", "_law_k"] ["_law_script", "_law_k"] (defScope (s__law_cell_at)) := ⟨rfl, rfl, rfl, by decide +kernel, rfl, by decide +kernel, by decide +kernel⟩
def p__law_cell_at (K : PySem.W.Frag) (c : Cl) : Sp := fun vs H Q E => ∃ (v2 : V) (script1 : (List Int)) (k4 : Int), vs = [v2, .int k4] ∧ ((qQ (qI (K := K)))).R H v2 script1 ∧ OP (m__law_cell_at script1 k4) (fun r => Q (.int r) H)
theorem ok__law_cell_at (T : Tx K mg) : FnOk P w K mg base CX0 1 T.f__law_cell_at T.d__law_cell_at ["_law_script", "_law_k"] (p__law_cell_at K T.c) := by
  refine T.F__law_cell_at.ok sc__law_cell_at (fun vs H Q E h => by obtain ⟨v2, script1, k4, rfl, _⟩ := h; rfl) (fun cdv A outer s H vs Q E hr h => ?_)
  obtain ⟨v2, script1, k4, rfl, r3, h⟩ := h
  obtain ⟨A_, hA⟩ : ∃ A_, A_ = (fun r : Int => Q (.int r) H) := ⟨_, rfl⟩
  replace h : OP (m__law_cell_at script1 k4) A_ := hA ▸ h
  rw [m__law_cell_at] at h
  refine ⟨_, (pss_cons (ps_if (pt_cmpR op_lt (pe_var (i := 1) rfl (.inl rfl) rfl rfl) (pe_callB (show CallR _ (.builtin "len") (Z.rLenS K) from call_len_seq) rfl T.n_len bt_len (pa_cons (pe_var (i := 0) rfl (.inl rfl) rfl rfl) pa_nil)) (nomark _)) (pss_cons (ps_ret (pe_ix (show IxR _ (rIxL K) from ix_list) (pe_var (i := 0) rfl (.inl rfl) rfl rfl) (pe_var (i := 1) rfl (.inl rfl) rfl rfl) (fun _ _ => rfl)))
      pss_nil) pss_nil)
      (pss_cons (ps_ret pe_int)
      pss_nil)), ?_⟩
  refine z_start (σ := [some v2, some (.int k4)]) rfl ?_
  have g : Grow [] H H H H := Grow.refl (Same.refl _)
  refine z_if (v_test (v_o2 (val_var rfl) (v_len (val_var rfl) (Rep.mono _ g.sh r3)))) (fun hc => ?_) (fun hc => ?_)
  · replace h := OP.ite1 hc h
    obtain ⟨i5, ei5, h⟩ := OP.bind h
    refine z_ret (v_ixI (val_var rfl) (val_var rfl) (Rep.mono _ g.sh r3) ei5) ?_
    have h := OP.fin hA h
    exact h
  · replace h := OP.ite0 hc h
    refine z_nextR ?_
    refine z_ret val_c ?_
    have h := OP.fin hA h
    exact h

@[irreducible] def m__law_signs (cell1 : Int) (size2 : Int) : Option Str :=
lt ("" : Str) fun text3 =>
grd (gR size2) <|
(forO (fun k5 s =>
un2 (fun cell14 text15 =>
grd (("01-" : Str).length ≤ 16777216) <|
(chS ("01-" : Str) (cell14 % 3)).bind fun i19 =>
grd (text15.length + i19.length ≤ 16777216) <|
lt (text15 ++ i19) fun text21 =>
lt (cell14 / 3) fun cell22 =>
some (cell22, text21)) s) (rangeI 0 (Int.toNat size2)) (cell1, text3)).bind (fun s => un2 (fun cell14 text15 =>
some text15) s)
abbrev s__law_signs : Stmt := top 21
abbrev sn__law_signs : List Str := ["_law_cell", "_law_size", "_law_text", "_law_k"]
theorem sc__law_signs : FnScope ["_law_cell", "_law_size", "_law_text", "_law_k"] ["_law_cell", "_law_size"] (defScope (s__law_signs)) := ⟨rfl, rfl, rfl, by decide +kernel, rfl, by decide +kernel, by decide +kernel⟩
def p__law_signs (K : PySem.W.Frag) (c : Cl) : Sp := fun vs H Q E => ∃ (cell1 : Int) (size2 : Int), vs = [.int cell1, .int size2] ∧ OP (m__law_signs cell1 size2) (fun r => Q (.str r) H)
theorem ok__law_signs (T : Tx K mg) : FnOk P w K mg base CX0 1 T.f__law_signs T.d__law_signs ["_law_cell", "_law_size"] (p__law_signs K T.c) := by
  refine T.F__law_signs.ok sc__law_signs (fun vs H Q E h => by obtain ⟨cell1, size2, rfl, _⟩ := h; rfl) (fun cdv A outer s H vs Q E hr h => ?_)
  obtain ⟨cell1, size2, rfl, h⟩ := h
  obtain ⟨A_, hA⟩ : ∃ A_, A_ = (fun r : Str => Q (.str r) H) := ⟨_, rfl⟩
  replace h : OP (m__law_signs cell1 size2) A_ := hA ▸ h
  rw [m__law_signs] at h
  refine ⟨_, (pss_cons (ps_set (i := 2) sc__law_signs.nd rfl (.inl rfl) pe_str)
      (pss_cons (ps_for PassesOwn.never rfl (pi_range1 rfl T.n_range (pa_cons (pe_var (i := 1) rfl (.inl rfl) rfl rfl) pa_nil)) (pg_name (i := 3) sc__law_signs.nd rfl (.inl rfl)) (pss_cons (ps_set (i := 2) sc__law_signs.nd rfl (.inl rfl) (pe_op op_add_str (pe_var (i := 2) rfl (.inl rfl) rfl rfl) (pe_ix ix_str pe_str (pe_op op_mod (pe_var (i := 0) rfl (.inl rfl) rfl rfl) pe_int) (fun _ _ => rfl))))
      (pss_cons (ps_set (i := 0) sc__law_signs.nd rfl (.inl rfl) (pe_op op_fdiv (pe_var (i := 0) rfl (.inl rfl) rfl rfl) pe_int))
      pss_nil)))
      (pss_cons (ps_ret (pe_var (i := 2) rfl (.inl rfl) rfl rfl))
      pss_nil))), ?_⟩
  refine z_start (σ := [some (.int cell1), some (.int size2), none, none]) rfl ?_
  have g : Grow [] H H H H := Grow.refl (Same.refl _)
  obtain ⟨text3, etext3, h⟩ := OP.lt h
  refine z_set (w := (.str text3)) (σ' := [some (.int cell1), some (.int size2), some (.str text3), none]) val_c (congrArg V.str etext3) rfl ?_
  obtain ⟨g4, h⟩ := OP.grd h
  obtain ⟨B8, h, hB9⟩ := OP.cut h
  obtain ⟨F10, hF11, h⟩ := OP.nameO h
  refine z_for1 (j := size2) (va_cons (val_var rfl) va_nil) g4 (fun ys13 σ' H' => ∃ (cell14 : Int) (text15 : Str) (u16 : Option V), σ' = [some (.int cell14), some (.int size2), some (.str text15), u16] ∧ H = H' ∧ OP (forO F10 ys13 (cell14, text15)) B8) ⟨_, _, _, rfl, rfl, h⟩ (fun k5 ys13 σ' H_17 p N hN12 => ?_) ?_
  · obtain ⟨cell14, text15, u16, rfl, rfl, h⟩ := p
    replace h := OP.forO h
    replace h := OP.fcall2 hF11 h
    replace h := OP.un2 h
    refine g_name (σ' := [some (.int cell14), some (.int size2), some (.str text15), some (.int k5)]) rfl ?_
    obtain ⟨g18, h⟩ := OP.grd h
    obtain ⟨i19, ei19, h⟩ := OP.bind h
    obtain ⟨g20, h⟩ := OP.grd h
    obtain ⟨text21, etext21, h⟩ := OP.lt h
    refine z_set (w := (.str text21)) (σ' := [some (.int cell14), some (.int size2), some (.str text21), some (.int k5)]) (v_catS (val_var rfl) (v_chr val_c (v_o2c (val_var rfl) val_c (show (0 : Int) < 3 by decide)) g18 ei19) g20) (congrArg V.str etext21) rfl ?_
    obtain ⟨cell22, ecell22, h⟩ := OP.lt h
    refine z_set (w := (.int cell22)) (σ' := [some (.int cell22), some (.int size2), some (.str text21), some (.int k5)]) (v_o2c (val_var rfl) val_c ⟨by decide, by decide⟩) (congrArg V.int ecell22) rfl ?_
    refine z_next ?_
    exact hN12 _ _ ⟨_, _, _, rfl, rfl, h⟩
  · intro σ' H_23 p
    obtain ⟨cell14, text15, u16, rfl, rfl, h⟩ := p
    replace h := hB9 _ (OP.forO_nil h)
    replace h := OP.un2 h
    refine z_ret (val_var rfl) ?_
    have h := OP.fin hA h
    exact h

@[irreducible] def m__law_spoilt (text1 : Str) (cell2 : Int) : Option Str :=
lt ("2+ _Oolxa.,;|()9~3\n\t" : Str) fun others3 =>
grd (text1.length ≤ 16777216) <|
grd (0 < ((text1.length : Int) + 1)) <|
lt ((cell2 / 8) % ((text1.length : Int) + 1)) fun at_6 =>
grd (others3.length ≤ 16777216) <|
grd (0 < (others3.length : Int)) <|
grd (others3.length ≤ 16777216) <|
(chS others3 (((cell2 / 8) / 9) % (others3.length : Int))).bind fun i10 =>
lt i10 fun sign11 =>
ifo (decide ((cell2 % 2) = 1)) (
grd (text1.length ≤ 16777216) <|
grd ((cutS text1 none (some at_6)).length + sign11.length ≤ 16777216) <|
grd (text1.length ≤ 16777216) <|
grd (((cutS text1 none (some at_6)) ++ sign11).length + (cutS text1 (some at_6) none).length ≤ 16777216) <|
some (((cutS text1 none (some at_6)) ++ sign11) ++ (cutS text1 (some at_6) none))) (
grd (text1.length ≤ 16777216) <|
grd ((cutS text1 none (some at_6)).length + sign11.length ≤ 16777216) <|
grd (text1.length ≤ 16777216) <|
grd (((cutS text1 none (some at_6)) ++ sign11).length + (cutS text1 (some (at_6 + 1)) none).length ≤ 16777216) <|
some (((cutS text1 none (some at_6)) ++ sign11) ++ (cutS text1 (some (at_6 + 1)) none)))
abbrev s__law_spoilt : Stmt := top 22
abbrev sn__law_spoilt : List Str := ["_law_text", "_law_cell", "_law_others", "_law_at", "_law_sign"]
theorem sc__law_spoilt : FnScope ["_law_text", "_law_cell", "_law_others", "_law_at", "_law_sign"] ["_law_text", "_law_cell"] (defScope (s__law_spoilt)) := ⟨rfl, rfl, rfl, by decide +kernel, rfl, by decide +kernel, by decide +kernel⟩
def p__law_spoilt (K : PySem.W.Frag) (c : Cl) : Sp := fun vs H Q E => ∃ (text1 : Str) (cell2 : Int), vs = [.str text1, .int cell2] ∧ OP (m__law_spoilt text1 cell2) (fun r => Q (.str r) H)
theorem ok__law_spoilt (T : Tx K mg) : FnOk P w K mg base CX0 1 T.f__law_spoilt T.d__law_spoilt ["_law_text", "_law_cell"] (p__law_spoilt K T.c) := by
  refine T.F__law_spoilt.ok sc__law_spoilt (fun vs H Q E h => by obtain ⟨text1, cell2, rfl, _⟩ := h; rfl) (fun cdv A outer s H vs Q E hr h => ?_)
  obtain ⟨text1, cell2, rfl, h⟩ := h
  obtain ⟨A_, hA⟩ : ∃ A_, A_ = (fun r : Str => Q (.str r) H) := ⟨_, rfl⟩
  replace h : OP (m__law_spoilt text1 cell2) A_ := hA ▸ h
  rw [m__law_spoilt] at h
  refine ⟨_, (pss_cons (ps_set (i := 2) sc__law_spoilt.nd rfl (.inl rfl) pe_str)
      (pss_cons (ps_set (i := 3) sc__law_spoilt.nd rfl (.inl rfl) (pe_op op_mod (pe_op op_fdiv (pe_var (i := 1) rfl (.inl rfl) rfl rfl) pe_int) (pe_op op_add (pe_callB call_len_str rfl T.n_len bt_len (pa_cons (pe_var (i := 0) rfl (.inl rfl) rfl rfl) pa_nil)) pe_int)))
      (pss_cons (ps_set (i := 4) sc__law_spoilt.nd rfl (.inl rfl) (pe_ix ix_str (pe_var (i := 2) rfl (.inl rfl) rfl rfl) (pe_op op_mod (pe_op op_fdiv (pe_op op_fdiv (pe_var (i := 1) rfl (.inl rfl) rfl rfl) pe_int) pe_int) (pe_callB call_len_str rfl T.n_len bt_len (pa_cons (pe_var (i := 2) rfl (.inl rfl) rfl rfl) pa_nil))) (fun _ _ => rfl)))
      (pss_cons (ps_if (pt_cmpR op_eq (pe_op op_mod (pe_var (i := 1) rfl (.inl rfl) rfl rfl) pe_int) pe_int (nomark _)) (pss_cons (ps_ret (pe_op op_add_str (pe_op op_add_str (pe_slice sl_str (pe_var (i := 0) rfl (.inl rfl) rfl rfl) po_none (po_some (pe_var (i := 3) rfl (.inl rfl) rfl rfl))) (pe_var (i := 4) rfl (.inl rfl) rfl rfl)) (pe_slice sl_str (pe_var (i := 0) rfl (.inl rfl) rfl rfl) (po_some (pe_var (i := 3) rfl (.inl rfl) rfl rfl)) po_none)))
      pss_nil) pss_nil)
      (pss_cons (ps_ret (pe_op op_add_str (pe_op op_add_str (pe_slice sl_str (pe_var (i := 0) rfl (.inl rfl) rfl rfl) po_none (po_some (pe_var (i := 3) rfl (.inl rfl) rfl rfl))) (pe_var (i := 4) rfl (.inl rfl) rfl rfl)) (pe_slice sl_str (pe_var (i := 0) rfl (.inl rfl) rfl rfl) (po_some (pe_op op_add (pe_var (i := 3) rfl (.inl rfl) rfl rfl) pe_int)) po_none)))
      pss_nil))))), ?_⟩
  refine z_start (σ := [some (.str text1), some (.int cell2), none, none, none]) rfl ?_
  have g : Grow [] H H H H := Grow.refl (Same.refl _)
  obtain ⟨others3, eothers3, h⟩ := OP.lt h
  refine z_set (w := (.str others3)) (σ' := [some (.str text1), some (.int cell2), some (.str others3), none, none]) val_c (congrArg V.str eothers3) rfl ?_
  obtain ⟨g4, h⟩ := OP.grd h
  obtain ⟨g5, h⟩ := OP.grd h
  obtain ⟨at_6, eat_6, h⟩ := OP.lt h
  refine z_set (w := (.int at_6)) (σ' := [some (.str text1), some (.int cell2), some (.str others3), some (.int at_6), none]) (v_o2c (v_o2c (val_var rfl) val_c ⟨by decide, by decide⟩) (v_o2 (v_lenS g4 (val_var rfl)) val_c) g5) (congrArg V.int eat_6) rfl ?_
  obtain ⟨g7, h⟩ := OP.grd h
  obtain ⟨g8, h⟩ := OP.grd h
  obtain ⟨g9, h⟩ := OP.grd h
  obtain ⟨i10, ei10, h⟩ := OP.bind h
  obtain ⟨sign11, esign11, h⟩ := OP.lt h
  refine z_set (w := (.str sign11)) (σ' := [some (.str text1), some (.int cell2), some (.str others3), some (.int at_6), some (.str sign11)]) (v_chr (val_var rfl) (v_o2c (v_o2c (v_o2c (val_var rfl) val_c ⟨by decide, by decide⟩) val_c ⟨by decide, by decide⟩) (v_lenS g7 (val_var rfl)) g8) g9 ei10) (congrArg V.str esign11) rfl ?_
  refine z_if (v_test (v_eqI (v_o2c (val_var rfl) val_c (show (0 : Int) < 2 by decide)) val_c)) (fun hc => ?_) (fun hc => ?_)
  · replace h := OP.ite1 hc h
    obtain ⟨g12, h⟩ := OP.grd h
    obtain ⟨g13, h⟩ := OP.grd h
    obtain ⟨g14, h⟩ := OP.grd h
    obtain ⟨g15, h⟩ := OP.grd h
    refine z_ret (v_catS (v_catS (v_cutS (val_var rfl) po0 (po1 (val_var rfl)) g12) (val_var rfl) g13) (v_cutS (val_var rfl) (po1 (val_var rfl)) po0 g14) g15) ?_
    have h := OP.fin hA h
    exact h
  · replace h := OP.ite0 hc h
    refine z_nextR ?_
    obtain ⟨g16, h⟩ := OP.grd h
    obtain ⟨g17, h⟩ := OP.grd h
    obtain ⟨g18, h⟩ := OP.grd h
    obtain ⟨g19, h⟩ := OP.grd h
    refine z_ret (v_catS (v_catS (v_cutS (val_var rfl) po0 (po1 (val_var rfl)) g16) (val_var rfl) g17) (v_cutS (val_var rfl) (po1 (v_o2 (val_var rfl) val_c)) po0 g18) g19) ?_
    have h := OP.fin hA h
    exact h

@[irreducible] def m_read_bar (text1 : Str) : Option (Except Nat (Int × Int)) :=
grd (text1.length ≤ 16777216) <|
ifo (!((decide (1 ≤ (text1.length : Int))) && (decide ((text1.length : Int) ≤ 6)))) (
some (.error 6)) (
brk (forR (fun x3 s =>
un2 (fun asked12 lit13 =>
ifo (!(inS x3.2 ("01-" : Str))) (
some (.inr (.error 6))) (
(ifo (!(decide (x3.2 = ("-" : Str)))) (
grd (gPow 1 x3.1) <|
lt (bor asked12 (shl 1 x3.1)) fun asked30 =>
some asked30) (
some asked12)).bind (fun asked25 =>
ifo (decide (x3.2 = ("1" : Str))) (
grd (gPow 1 x3.1) <|
lt (bor lit13 (shl 1 x3.1)) fun lit28 =>
some (.inl (asked25, lit28))) (
some (.inl (asked25, lit13)))))) s) (enumI (sgs text1)) (0, 0)) (fun s => un2 (fun asked12 lit13 =>
some (.ok (asked12, lit13))) s))
abbrev s_read_bar : Stmt := top 18
abbrev sn_read_bar : List Str := ["text", "asked", "lit", "lamp", "sign"]
theorem sc_read_bar : FnScope ["text", "asked", "lit", "lamp", "sign"] ["text"] (defScope (s_read_bar)) := ⟨rfl, rfl, rfl, by decide +kernel, rfl, by decide +kernel, by decide +kernel⟩
def p_read_bar (K : PySem.W.Frag) (c : Cl) : Sp := fun vs H Q E => ∃ (S : Hp) (text1 : Str), vs = [.str text1] ∧ Same S H ∧ OP (m_read_bar text1) (fun r => EXP r (fun x => ∀ (S' H' : Hp) (v : V), Grow [] S H S' H' → ((qT2 (qI (K := K)) (qI (K := K)))).R S' v x → Q v H') (fun x => ∀ (S' H' : Hp), Grow [] S H S' H' → E (clsV c x) none H'))
theorem ok_read_bar (T : Tx K mg) : FnOk P w K mg base (L2.CX P w) 1 T.f_read_bar T.d_read_bar ["text"] (p_read_bar K T.c) := by
  refine T.F_read_bar.okX sc_read_bar (fun vs H Q E h => by obtain ⟨S, text1, rfl, _⟩ := h; rfl) (fun cdv A outer s H vs Q E hr h => ?_)
  obtain ⟨S, text1, rfl, gS, h⟩ := h
  obtain ⟨A_, hA⟩ : ∃ A_, A_ = (fun r : (Except Nat (Int × Int)) => EXP r (fun x => ∀ (S' H' : Hp) (v : V), Grow [] S H S' H' → ((qT2 (qI (K := K)) (qI (K := K)))).R S' v x → Q v H') (fun x => ∀ (S' H' : Hp), Grow [] S H S' H' → E (clsV T.c x) none H')) := ⟨_, rfl⟩
  replace h : OP (m_read_bar text1) A_ := hA ▸ h
  rw [m_read_bar] at h
  refine ⟨_, (pss_cons (ps_if (pt_not (pt_chain op_le op_le pe_int (pe_callB call_len_str rfl T.n_len bt_len (pa_cons (pe_var (i := 0) rfl (.inl rfl) rfl rfl) pa_nil)) pe_int)) (pss_cons (ps_raise rfl (takes_of rfl rfl rfl rfl) (pmk_own PySem.F.excBase_ValueError T.e_NoBar.x T.m_NoBar T.e_NoBar.k (raises_own T.e_NoBar.b T.e_NoBar.t) rfl))
      pss_nil) pss_nil)
      (pss_cons (ps_set (i := 1) sc_read_bar.nd rfl (.inl rfl) pe_int)
      (pss_cons (ps_set (i := 2) sc_read_bar.nd rfl (.inl rfl) pe_int)
      (pss_cons (ps_for (passes_of rfl) rfl (pi_enumS rfl T.n_enumerate (pa_cons (pe_var (i := 0) rfl (.inl rfl) rfl rfl) pa_nil)) (pg_tup rfl (pgs_cons (pg_name (i := 3) sc_read_bar.nd rfl (.inl rfl)) (pgs_cons (pg_name (i := 4) sc_read_bar.nd rfl (.inl rfl)) pgs_nil))) (pss_cons (ps_if (pt_cmpR (show OpR _ _ rNinT from op_ninT) (pe_var (i := 4) rfl (.inl rfl) rfl rfl) pe_str rfl) (pss_cons (ps_raise rfl (takes_of rfl rfl rfl rfl) (pmk_own PySem.F.excBase_ValueError T.e_NoBar.x T.m_NoBar T.e_NoBar.k (raises_own T.e_NoBar.b T.e_NoBar.t) rfl))
      pss_nil) pss_nil)
      (pss_cons (ps_if (pt_cmpR op_ne (pe_var (i := 4) rfl (.inl rfl) rfl rfl) pe_str (nomark _)) (pss_cons (ps_aug (i := 1) sc_read_bar.nd rfl (.inl rfl) (pe_op op_shl pe_int (pe_var (i := 3) rfl (.inl rfl) rfl rfl)) iop_or)
      pss_nil) pss_nil)
      (pss_cons (ps_if (pt_cmpR op_eq (pe_var (i := 4) rfl (.inl rfl) rfl rfl) pe_str (nomark _)) (pss_cons (ps_aug (i := 2) sc_read_bar.nd rfl (.inl rfl) (pe_op op_shl pe_int (pe_var (i := 3) rfl (.inl rfl) rfl rfl)) iop_or)
      pss_nil) pss_nil)
      pss_nil))))
      (pss_cons (ps_ret (pe_tup (pa_cons (pe_var (i := 1) rfl (.inl rfl) rfl rfl) (pa_cons (pe_var (i := 2) rfl (.inl rfl) rfl rfl) pa_nil))))
      pss_nil))))), ?_⟩
  refine z_start (σ := [some (.str text1), none, none, none, none]) rfl ?_
  have g : Grow [] S H S H := Grow.refl gS
  obtain ⟨g2, h⟩ := OP.grd h
  refine z_if (a_not (v_test (v_chn val_c (v_lenS g2 (val_var rfl)) val_c rfl rfl))) (fun hc => ?_) (fun hc => ?_)
  · replace h := OP.ite1 hc h
    have h := OP.fin hA h
    replace h := EXP.er h
    exact h _ _ g
  · replace h := OP.ite0 hc h
    refine z_nextR ?_
    refine z_set (w := (.int 0)) (σ' := [some (.str text1), some (.int 0), none, none, none]) val_c rfl rfl ?_
    refine z_set (w := (.int 0)) (σ' := [some (.str text1), some (.int 0), some (.int 0), none, none]) val_c rfl rfl ?_
    obtain ⟨B6, h, hB7⟩ := OP.brk h
    obtain ⟨F8, hF9, h⟩ := OP.nameR h
    refine z_forNS (val_var rfl) (fun ys11 σ' H' => ∃ (asked12 : Int) (lit13 : Int) (u14 : Option V) (u15 : Option V) (S_16 : Hp), σ' = [some (.str text1), some (.int asked12), some (.int lit13), u14, u15] ∧ Grow [] S H S_16 H' ∧ Same S S_16 ∧ OP (forR F8 ys11 (asked12, lit13)) (SE B6 A_)) ⟨_, _, _, _, _, rfl, g, (Same.refl _), h⟩ (fun x3 ys11 σ' H_17 p N hN10 t19 nt20 => ?_) ?_
    · obtain ⟨asked12, lit13, u14, u15, S_16, rfl, gN, eS18, h⟩ := p
      replace g := gN
      replace h := OP.forR h
      replace h := OP.fcall2 hF9 h
      replace h := OP.un2 h
      obtain ⟨H_22, e21, qH_22⟩ : ∃ H2, Same H_17 H2 ∧ H2 = upd H_17 t19 (.tup [.int x3.1, .str x3.2]) := ⟨_, same_upd nt20, rfl⟩
      have tH_22 : H_22 t19 = some (.tup [.int x3.1, .str x3.2]) := by rw [qH_22]; exact upd_same
      replace g := g.ext e21
      refine g_pair qH_22 tH_22 rfl ?_
      refine g_name (σ' := [some (.str text1), some (.int asked12), some (.int lit13), some (.int x3.1), u15]) rfl ?_
      refine g_next ?_
      refine g_name (σ' := [some (.str text1), some (.int asked12), some (.int lit13), some (.int x3.1), some (.str x3.2)]) rfl ?_
      refine g_end ?_
      refine z_if (v_test (v_ninS (val_var rfl) val_c)) (fun hc => ?_) (fun hc => ?_)
      · replace h := OP.ite1 hc h
        have h := OP.fin hA h
        replace h := EXP.er h
        exact h _ _ g
      · replace h := OP.ite0 hc h
        refine z_nextR ?_
        obtain ⟨B23, h, hB24⟩ := OP.cut h
        refine z_ifj (fun σ' H' => ∃ (asked25 : Int), σ' = [some (.str text1), some (.int asked25), some (.int lit13), some (.int x3.1), some (.str x3.2)] ∧ H_22 = H' ∧ B23 asked25) (v_test (v_neS (val_var rfl) val_c)) ?_ (fun hc N hN => ?_) (fun hc N hN => ?_)
        · intro σ' H_26 p
          obtain ⟨asked25, rfl, rfl, h⟩ := p
          replace h := hB24 _ h
          refine z_if (v_test (v_eqS (val_var rfl) val_c)) (fun hc => ?_) (fun hc => ?_)
          · replace h := OP.ite1 hc h
            obtain ⟨g27, h⟩ := OP.grd h
            obtain ⟨lit28, elit28, h⟩ := OP.lt h
            refine z_augI (w := (.int lit28)) (σ' := [some (.str text1), some (.int asked25), some (.int lit28), some (.int x3.1), some (.str x3.2)]) rfl (v_o2c val_c (val_var rfl) g27) (congrArg V.int elit28) rfl ?_
            refine z_nextR ?_
            refine z_next ?_
            exact hN10 _ _ ⟨_, _, _, _, _, rfl, g, eS18, h⟩
          · replace h := OP.ite0 hc h
            refine z_nextR ?_
            refine z_next ?_
            exact hN10 _ _ ⟨_, _, _, _, _, rfl, g, eS18, h⟩
        · replace h := OP.ite1 hc h
          obtain ⟨g29, h⟩ := OP.grd h
          obtain ⟨asked30, easked30, h⟩ := OP.lt h
          refine z_augI (w := (.int asked30)) (σ' := [some (.str text1), some (.int asked30), some (.int lit13), some (.int x3.1), some (.str x3.2)]) rfl (v_o2c val_c (val_var rfl) g29) (congrArg V.int easked30) rfl ?_
          refine z_next ?_
          exact hN _ _ ⟨_, rfl, rfl, h⟩
        · replace h := OP.ite0 hc h
          refine z_next ?_
          exact hN _ _ ⟨_, rfl, rfl, h⟩
    · intro σ' H_17 p
      obtain ⟨asked12, lit13, u14, u15, S_16, rfl, gN, eS18, h⟩ := p
      replace g := gN
      replace h := hB7 _ (OP.forR_nil h)
      replace h := OP.un2 h
      refine z_retE ?_
      refine c_tupE fun Q_31 hQ_31 => ?_
      refine c_args (va_cons (val_var rfl) (va_cons (val_var rfl) va_nil)) ?_
      refine c_newtup (Q := Q_31) (vs := [(.int asked12), (.int lit13)]) g.sh (show 2 ≤ 1000 by decide) fun p32 S_33 H_34 gs35 ep36 => ?_
      refine q_eq hQ_31 ?_
      replace g := g.call0 gs35
      have r37 : ((qT2 (qI (K := K)) (qI (K := K)))).R S_33 (.ref p32) (asked12, lit13) := ⟨p32, _, _, rfl, ep36, rfl, rfl⟩
      have h := OP.fin hA h
      replace h := EXP.ok h
      exact h _ _ _ g r37

@[irreducible] def m__law_read (text1 : Str) : Option (Option (Int × Int)) :=
(m_read_bar text1).bind fun v2 =>
exE v2 (fun c_7 =>
grd (c_7 = 6) <|
some none) fun v8 =>
some (some v8)
abbrev s__law_read : Stmt := top 24
abbrev sn__law_read : List Str := ["_law_text", "_law_found"]
theorem sc__law_read : FnScope ["_law_text", "_law_found"] ["_law_text"] (defScope (s__law_read)) := ⟨rfl, rfl, rfl, by decide +kernel, rfl, by decide +kernel, by decide +kernel⟩
def p__law_read (K : PySem.W.Frag) (c : Cl) : Sp := fun vs H Q E => ∃ (S : Hp) (text1 : Str), vs = [.str text1] ∧ Same S H ∧ OP (m__law_read text1) (fun r => ∀ (S' H' : Hp) (v : V), Grow [] S H S' H' → ((qOpt (qT2 (qI (K := K)) (qI (K := K))))).R S' v r → Q v H')
theorem ok__law_read (T : Tx K mg) : FnOk P w K mg base CX0 2 T.f__law_read T.d__law_read ["_law_text"] (p__law_read K T.c) := by
  refine T.F__law_read.ok sc__law_read (fun vs H Q E h => by obtain ⟨S, text1, rfl, _⟩ := h; rfl) (fun cdv A outer s H vs Q E hr h => ?_)
  obtain ⟨S, text1, rfl, gS, h⟩ := h
  obtain ⟨A_, hA⟩ : ∃ A_, A_ = (fun r : (Option (Int × Int)) => ∀ (S' H' : Hp) (v : V), Grow [] S H S' H' → ((qOpt (qT2 (qI (K := K)) (qI (K := K))))).R S' v r → Q v H') := ⟨_, rfl⟩
  replace h : OP (m__law_read text1) A_ := hA ▸ h
  rw [m__law_read] at h
  have hr1 : Room 1 _ := hr.mono (by decide)
  refine ⟨_, (pss_cons (ps_try_only (c := .ref T.c.NoBar) rfl rfl ⟨rfl, by decide, .inl T.m_NoBar⟩ Z.takesN (fun W pn xe tk po => (pss_cons (ps_set (i := 1) sc__law_read.nd rfl (.inl rfl) (pe_callS (ok_read_bar T) hr1 rfl T.m_read_bar T.F_read_bar.kp T.b_read_bar (fun σ => passAt tk σ) (pa_cons (pe_var (i := 0) rfl (.inl rfl) rfl rfl) pa_nil)))
      pss_nil)) (fun a oe cls d pn hz hf => (pss_cons (ps_ret pe_non)
      pss_nil)))
      (pss_cons (ps_ret (pe_var (i := 1) rfl (.inl rfl) rfl rfl))
      pss_nil)), ?_⟩
  refine z_start (σ := [some (.str text1), none]) rfl ?_
  have g : Grow [] S H S H := Grow.refl gS
  refine z_seqE ?_
  refine z_setE ?_
  refine c_callS ?_
  refine c_args (va_cons (val_var rfl) va_nil) ?_
  have gL6 : ∀ l ∈ [], H l = none ∨ l ∈ [] := LM0
  refine ⟨S, _, rfl, g.sh, (OP.of h).mono fun v2 h => ?_⟩
  refine EXP.sp h (fun c_7 _ h S_14 H_15 gc16 => ?_) (fun v8 _ h S_9 H_10 v12 gc11 r13 => ?_)
  · replace g := g.call gc16 gL6
    replace h := OP.grd h
    obtain ⟨hcx, h⟩ := h
    subst hcx
    refine ⟨true, T.x_NoBar_NoBar, fun _ a17 na18 => ?_, fun q => nomatch q⟩
    refine z_ret val_c ?_
    have r19 := (show ((qOpt (qT2 (qI (K := K)) (qI (K := K))))).R S_14 .non none from rfl)
    have h := OP.fin hA h
    exact h _ _ _ g r19
  replace g := g.call gc11 gL6
  refine g_name (σ' := [some (.str text1), some v12]) rfl ?_
  refine z_nextR ?_
  refine z_ret (val_var rfl) ?_
  have r20 := (show ((qOpt (qT2 (qI (K := K)) (qI (K := K))))).R S_9 v12 (some v8) from ⟨(nn_t2 r13), r13⟩)
  have h := OP.fin hA h
  exact h _ _ _ g r20

@[irreducible] def m__law_refused_alone (text1 : Str) : Option Bool :=
(m_read_bar text1).bind fun v2 =>
exE v2 (fun c_7 =>
grd (c_7 = 6) <|
ifo false (
none) (
ifo false (
none) (
some (true && true)))) fun v8 =>
some false
abbrev s__law_refused_alone : Stmt := top 25
abbrev sn__law_refused_alone : List Str := ["_law_text", "e"]
theorem sc__law_refused_alone : FnScope ["_law_text", "e"] ["_law_text"] (defScope (s__law_refused_alone)) := ⟨rfl, rfl, rfl, by decide +kernel, rfl, by decide +kernel, by decide +kernel⟩
def p__law_refused_alone (K : PySem.W.Frag) (c : Cl) : Sp := fun vs H Q E => ∃ (S : Hp) (text1 : Str), vs = [.str text1] ∧ Same S H ∧ OP (m__law_refused_alone text1) (fun r => ∀ (S' H' : Hp), Grow [] S H S' H' → Q (.bl r) H')
theorem ok__law_refused_alone (T : Tx K mg) : FnOk P w K mg base CX0 2 T.f__law_refused_alone T.d__law_refused_alone ["_law_text"] (p__law_refused_alone K T.c) := by
  refine T.F__law_refused_alone.ok sc__law_refused_alone (fun vs H Q E h => by obtain ⟨S, text1, rfl, _⟩ := h; rfl) (fun cdv A outer s H vs Q E hr h => ?_)
  obtain ⟨S, text1, rfl, gS, h⟩ := h
  obtain ⟨A_, hA⟩ : ∃ A_, A_ = (fun r : Bool => ∀ (S' H' : Hp), Grow [] S H S' H' → Q (.bl r) H') := ⟨_, rfl⟩
  replace h : OP (m__law_refused_alone text1) A_ := hA ▸ h
  rw [m__law_refused_alone] at h
  have hr1 : Room 1 _ := hr.mono (by decide)
  refine ⟨_, (pss_cons (ps_tryA (i := 1) (c := .ref T.c.EverError) rfl rfl sc__law_refused_alone.nd rfl rfl ⟨rfl, by decide, .inl T.m_EverError⟩ (fun W pn xe tk po => (pss_cons (ps_expr (pe_callS (ok_read_bar T) hr1 rfl T.m_read_bar T.F_read_bar.kp T.b_read_bar (fun σ => passAt tk σ) (pa_cons (pe_var (i := 0) rfl (.inl rfl) rfl rfl) pa_nil)))
      pss_nil)) (fun a oe cls d pn hz hf => (pss_cons (ps_if (pt_val (pe_callB (call_isET hz hf) rfl T.n_isinstance bt_isinstance (pa_cons (pe_var (i := 1) rfl (.inl rfl) rfl rfl) (pa_cons (pe_tup (pa_cons (pe_glob (v := .ref T.c.NoFormula) rfl T.m_NoFormula (show Value.ref T.c.NoFormula = _ from rfl)) (pa_cons (pe_glob (v := .ref T.c.NoChart) rfl T.m_NoChart (show Value.ref T.c.NoChart = _ from rfl)) (pa_cons (pe_glob (v := .ref T.c.NoStep) rfl T.m_NoStep (show Value.ref T.c.NoStep = _ from rfl)) (pa_cons (pe_glob (v := .ref T.c.NoLine) rfl T.m_NoLine (show Value.ref T.c.NoLine = _ from rfl)) (pa_cons (pe_glob (v := .ref T.c.NoName) rfl T.m_NoName (show Value.ref T.c.NoName = _ from rfl)) (pa_cons (pe_glob (v := .ref T.c.NotShut) rfl T.m_NotShut (show Value.ref T.c.NotShut = _ from rfl)) pa_nil))))))) pa_nil)))) (pss_cons (ps_ret pe_bl)
      pss_nil) pss_nil)
      (pss_cons (ps_if (pt_val (pe_callB (call_isET hz hf) rfl T.n_isinstance bt_isinstance (pa_cons (pe_var (i := 1) rfl (.inl rfl) rfl rfl) (pa_cons (pe_tup (pa_cons (pe_glob (v := .ref T.c.NoFrame) rfl T.m_NoFrame (show Value.ref T.c.NoFrame = _ from rfl)) (pa_cons (pe_glob (v := .ref T.c.NoFence) rfl T.m_NoFence (show Value.ref T.c.NoFence = _ from rfl)) (pa_cons (pe_glob (v := .ref T.c.NoMachine) rfl T.m_NoMachine (show Value.ref T.c.NoMachine = _ from rfl)) (pa_cons (pe_glob (v := .ref T.c.NothingLeft) rfl T.m_NothingLeft (show Value.ref T.c.NothingLeft = _ from rfl)) (pa_cons (pe_glob (v := .ref T.c.TooMany) rfl T.m_TooMany (show Value.ref T.c.TooMany = _ from rfl)) pa_nil)))))) pa_nil)))) (pss_cons (ps_ret pe_bl)
      pss_nil) pss_nil)
      (pss_cons (ps_ret (pe_and (pe_callB (call_isES hz hf) rfl T.n_isinstance bt_isinstance (pa_cons (pe_var (i := 1) rfl (.inl rfl) rfl rfl) (pa_cons (pe_glob (v := .ref T.c.NoBar) rfl T.m_NoBar (show Value.ref T.c.NoBar = _ from rfl)) pa_nil))) (pe_one (pe_callB (call_isES hz hf) rfl T.n_isinstance bt_isinstance (pa_cons (pe_var (i := 1) rfl (.inl rfl) rfl rfl) (pa_cons (pe_bltn (v := .ty "ValueError") rfl T.n_ValueError bt_ValueError rfl) pa_nil))))))
      pss_nil)))))
      (pss_cons (ps_ret pe_bl)
      pss_nil)), ?_⟩
  refine z_start (σ := [some (.str text1), none]) rfl ?_
  have g : Grow [] S H S H := Grow.refl gS
  refine z_seqE ?_
  refine z_dropE ?_
  refine c_callS ?_
  refine c_args (va_cons (val_var rfl) va_nil) ?_
  have gL6 : ∀ l ∈ [], H l = none ∨ l ∈ [] := LM0
  refine ⟨S, _, rfl, g.sh, (OP.of h).mono fun v2 h => ?_⟩
  refine EXP.sp h (fun c_7 _ h S_14 H_15 gc16 => ?_) (fun v8 _ h S_9 H_10 v12 gc11 r13 => ?_)
  · replace g := g.call gc16 gL6
    replace h := OP.grd h
    obtain ⟨hcx, h⟩ := h
    subst hcx
    refine ⟨T.x_NoBar_EverError, fun a17 na18 => ?_⟩
    refine z_suite (σ' := [some (.str text1), some (.ref a17)]) rfl fun N19 _ _ hN20 => ?_
    refine z_ifE ?_
    refine c_B ?_
    refine c_cb ?_
    refine c_cons (c_val (val_var rfl) ?_)
    refine c_cons ?_
    refine c_tupE fun Q_21 hQ_21 => ?_
    refine c_args (va_cons val_c (va_cons val_c (va_cons val_c (va_cons val_c (va_cons val_c (va_cons val_c va_nil)))))) ?_
    refine c_newtup (Q := Q_21) (vs := [.ref T.c.NoFormula, .ref T.c.NoChart, .ref T.c.NoStep, .ref T.c.NoLine, .ref T.c.NoName, .ref T.c.NotShut]) g.sh (show 6 ≤ 1000 by decide) fun p22 S_23 H_24 gs25 ep26 => ?_
    refine q_eq hQ_21 ?_
    replace g := g.call0 gs25
    refine c_nil ?_
    refine ⟨_, p22, _, _, false, rfl, rfl, T.xc_NoBar, rfl, g.sh _ _ ep26, (.cons (.own _) (.cons (.own _) (.cons (.own _) (.cons (.own _) (.cons (.own _) (.cons (.own _) .nil)))))), (kitAny_f T.i_NoBar_NoFormula (kitAny_f T.i_NoBar_NoChart (kitAny_f T.i_NoBar_NoStep (kitAny_f T.i_NoBar_NoLine (kitAny_f T.i_NoBar_NoName (kitAny_f T.i_NoBar_NotShut rfl)))))), ?_⟩
    refine ⟨_, rfl, ?_⟩
    refine ifb (fun hc => ?_) (fun hc => ?_)
    · cases hc
    · replace h := OP.ite0 hc h
      refine z_nextR ?_
      refine z_ifE ?_
      refine c_B ?_
      refine c_cb ?_
      refine c_cons (c_val (val_var rfl) ?_)
      refine c_cons ?_
      refine c_tupE fun Q_27 hQ_27 => ?_
      refine c_args (va_cons val_c (va_cons val_c (va_cons val_c (va_cons val_c (va_cons val_c va_nil))))) ?_
      refine c_newtup (Q := Q_27) (vs := [.ref T.c.NoFrame, .ref T.c.NoFence, .ref T.c.NoMachine, .ref T.c.NothingLeft, .ref T.c.TooMany]) g.sh (show 5 ≤ 1000 by decide) fun p28 S_29 H_30 gs31 ep32 => ?_
      refine q_eq hQ_27 ?_
      replace g := g.call0 gs31
      refine c_nil ?_
      refine ⟨_, p28, _, _, false, rfl, rfl, T.xc_NoBar, rfl, g.sh _ _ ep32, (.cons (.own _) (.cons (.own _) (.cons (.own _) (.cons (.own _) (.cons (.own _) .nil))))), (kitAny_f T.i_NoBar_NoFrame (kitAny_f T.i_NoBar_NoFence (kitAny_f T.i_NoBar_NoMachine (kitAny_f T.i_NoBar_NothingLeft (kitAny_f T.i_NoBar_TooMany rfl))))), ?_⟩
      refine ⟨_, rfl, ?_⟩
      refine ifb (fun hc => ?_) (fun hc => ?_)
      · cases hc
      · replace h := OP.ite0 hc h
        refine z_nextR ?_
        refine z_ret (v_and (v_isE T.xc_NoBar (val_var rfl) val_c (.own _) T.i_NoBar_NoBar) (v_isE T.xc_NoBar (val_var rfl) val_c (.ty _) (kit_bt meta_ValueError T.ib_NoBar_ValueError))) ?_
        have h := OP.fin hA h
        exact h _ _ g
  replace g := g.call gc11 gL6
  refine z_nextR ?_
  refine z_ret val_c ?_
  have h := OP.fin hA h
  exact h _ _ g

@[irreducible] def m__law_told (text1 : Str) : Option Bool :=
(m__law_bar_of text1).bind fun v2 =>
(m__law_read text1).bind fun v9 =>
ifo v2.isNone (
(ifo v9.isNone (
(m__law_refused_alone text1).bind fun v24 =>
some v24) (
some false)).bind fun b29 =>
some b29) (
(ifo (!v9.isSome) (some true) ((v9).bind fun y30 =>
some (!(decide (2 = 2))))).bind fun c_32 =>
ifo c_32 (
some false) (
(v9).bind fun y33 =>
brk (forR (fun number35 _ =>
ifo ((!true) || false) (
some (.inr false)) (
some (.inl ()))) ([y33.1, y33.2]) ()) (fun _ =>
some (decide (v9 = v2)))))
abbrev s__law_told : Stmt := top 26
abbrev sn__law_told : List Str := ["_law_text", "_law_due", "_law_found", "_law_number"]
theorem sc__law_told : FnScope ["_law_text", "_law_due", "_law_found", "_law_number"] ["_law_text"] (defScope (s__law_told)) := ⟨rfl, rfl, rfl, by decide +kernel, rfl, by decide +kernel, by decide +kernel⟩
def p__law_told (K : PySem.W.Frag) (c : Cl) : Sp := fun vs H Q E => ∃ (S : Hp) (text1 : Str), vs = [.str text1] ∧ Same S H ∧ OP (m__law_told text1) (fun r => ∀ (S' H' : Hp), Grow [] S H S' H' → Q (.bl r) H')
theorem ok__law_told (T : Tx K mg) : FnOk P w K mg base CX0 3 T.f__law_told T.d__law_told ["_law_text"] (p__law_told K T.c) := by
  refine T.F__law_told.ok sc__law_told (fun vs H Q E h => by obtain ⟨S, text1, rfl, _⟩ := h; rfl) (fun cdv A outer s H vs Q E hr h => ?_)
  obtain ⟨S, text1, rfl, gS, h⟩ := h
  obtain ⟨A_, hA⟩ : ∃ A_, A_ = (fun r : Bool => ∀ (S' H' : Hp), Grow [] S H S' H' → Q (.bl r) H') := ⟨_, rfl⟩
  replace h : OP (m__law_told text1) A_ := hA ▸ h
  rw [m__law_told] at h
  have hr1 : Room 1 _ := hr.mono (by decide)
  have hr2 : Room 2 _ := hr.mono (by decide)
  refine ⟨_, (pss_cons (ps_set (i := 1) sc__law_told.nd rfl (.inl rfl) (pe_call (ok__law_bar_of T) hr1 rfl T.m__law_bar_of T.F__law_bar_of.kp T.b__law_bar_of .nil pass0 (pa_cons (pe_var (i := 0) rfl (.inl rfl) rfl rfl) pa_nil)))
      (pss_cons (ps_set (i := 2) sc__law_told.nd rfl (.inl rfl) (pe_call (ok__law_read T) hr2 rfl T.m__law_read T.F__law_read.kp T.b__law_read .nil pass0 (pa_cons (pe_var (i := 0) rfl (.inl rfl) rfl rfl) pa_nil)))
      (pss_cons (ps_if (pt_cmpR op_isN1 (pe_var (i := 1) rfl (.inl rfl) rfl rfl) pe_non (nomark _)) (pss_cons (ps_ret (pe_and (pe_cmpR op_isN1 (pe_var (i := 2) rfl (.inl rfl) rfl rfl) pe_non (nomark _)) (pe_one (pe_call (ok__law_refused_alone T) hr2 rfl T.m__law_refused_alone T.F__law_refused_alone.kp T.b__law_refused_alone .nil pass0 (pa_cons (pe_var (i := 0) rfl (.inl rfl) rfl rfl) pa_nil)))))
      pss_nil) pss_nil)
      (pss_cons (ps_if (PW.pt (pw_or (pt_not (pt_val (pe_callB (show CallR _ (.builtin "isinstance") (rIsi K) from call_isi) rfl T.n_isinstance bt_isinstance (pa_cons (pe_var (i := 2) rfl (.inl rfl) rfl rfl) (pa_cons (pe_bltn (v := .ty "tuple") rfl T.n_tuple bt_tuple rfl) pa_nil))))) (pw_or1 (pt_cmpR op_ne (pe_callB (show CallR _ (.builtin "len") (Z.rLenS K) from call_len_seq) rfl T.n_len bt_len (pa_cons (pe_var (i := 2) rfl (.inl rfl) rfl rfl) pa_nil)) pe_int (nomark _))))) (pss_cons (ps_ret pe_bl)
      pss_nil) pss_nil)
      (pss_cons (ps_for PassesOwn.never rfl (pi_tup (pe_var (i := 2) rfl (.inl rfl) rfl rfl)) (pg_name (i := 3) sc__law_told.nd rfl (.inl rfl)) (pss_cons (ps_if (PW.pt (pw_or (pt_not (pt_val (pe_callB (show CallR _ (.builtin "isinstance") (rIsi K) from call_isi) rfl T.n_isinstance bt_isinstance (pa_cons (pe_var (i := 3) rfl (.inl rfl) rfl rfl) (pa_cons (pe_bltn (v := .ty "int") rfl T.n_int bt_int rfl) pa_nil))))) (pw_or1 (pt_val (pe_callB (show CallR _ (.builtin "isinstance") (rIsi K) from call_isi) rfl T.n_isinstance bt_isinstance (pa_cons (pe_var (i := 3) rfl (.inl rfl) rfl rfl) (pa_cons (pe_bltn (v := .ty "bool") rfl T.n_bool bt_bool rfl) pa_nil))))))) (pss_cons (ps_ret pe_bl)
      pss_nil) pss_nil)
      pss_nil))
      (pss_cons (ps_ret (pe_cmpR (show OpR _ _ (rEqD K) from op_eqD hr.units) (pe_var (i := 2) rfl (.inl rfl) rfl rfl) (pe_var (i := 1) rfl (.inl rfl) rfl rfl) (nomark _)))
      pss_nil)))))), ?_⟩
  refine z_start (σ := [some (.str text1), none, none, none]) rfl ?_
  have g : Grow [] S H S H := Grow.refl gS
  refine z_setE ?_
  refine c_call ?_
  refine c_args (va_cons (val_var rfl) va_nil) ?_
  have gL8 : ∀ l ∈ [], H l = none ∨ l ∈ [] := LM0
  refine ⟨S, _, rfl, g.sh, (OP.of h).mono fun v2 h S_3 H_4 v6 gc5 r7 => ?_⟩
  replace g := g.call gc5 gL8
  refine g_name (σ' := [some (.str text1), some v6, none, none]) rfl ?_
  refine z_setE ?_
  refine c_call ?_
  refine c_args (va_cons (val_var rfl) va_nil) ?_
  have gL15 : ∀ l ∈ [], H l = none ∨ l ∈ [] := LM0
  refine ⟨S_3, _, rfl, g.sh, (OP.of h).mono fun v9 h S_10 H_11 v13 gc12 r14 => ?_⟩
  replace r7 := Rep.mono _ gc12.ss r7
  replace g := g.call gc12 gL15
  refine g_name (σ' := [some (.str text1), some v6, some v13, none]) rfl ?_
  refine z_if (v_test (v_isN (val_var rfl) (opt_dec (Rep.mono _ g.sh r7)))) (fun hc => ?_) (fun hc => ?_)
  · replace h := OP.ite1 hc h
    refine z_retE ?_
    obtain ⟨B16, h, hB17⟩ := OP.cut h
    refine c_cutV (fun b H' => ∃ (S_20 : Hp), Grow [] S H S_20 H' ∧ Same S_10 S_20 ∧ B16 b) (fun q18 hq19 => ?_) ?_
    · have sn23 := Same.refl S_10
      refine c_andV ?_
      refine c_val (v_isN (val_var rfl) (opt_dec (Rep.mono _ g.sh r14))) ?_
      refine ⟨_, rfl, ?_⟩
      refine ifb (fun hc => ?_) (fun hc => ?_)
      · replace h := OP.ite1 hc h
        refine c_call ?_
        refine c_args (va_cons (val_var rfl) va_nil) ?_
        have gL28 : ∀ l ∈ [], H l = none ∨ l ∈ [] := LM0
        refine ⟨S_10, _, rfl, g.sh, (OP.of h).mono fun v24 h S_25 H_26 gc27 => ?_⟩
        replace r7 := Rep.mono _ gc27.ss r7
        replace r14 := Rep.mono _ gc27.ss r14
        replace sn23 := sn23.trans gc27.ss
        replace g := g.call gc27 gL28
        exact hq19 _ _ ⟨_, g, sn23, h⟩
      · replace h := OP.ite0 hc h
        exact hq19 _ _ ⟨_, g, sn23, h⟩
    intro b29 H_21 p
    obtain ⟨S_20, gN, eS22, h⟩ := p
    replace g := gN
    replace r7 := Rep.mono _ eS22 r7
    replace r14 := Rep.mono _ eS22 r14
    replace h := hB17 _ h
    have h := OP.fin hA h
    exact h _ _ g
  · replace h := OP.ite0 hc h
    refine z_nextR ?_
    obtain ⟨c_32, ec_32, h⟩ := OP.bind h
    refine z_if (a_orP (a_not (v_B (v_isiO (val_var rfl) (Rep.mono _ g.sh r14) (fun hv => (ty_t2 hv)) (by decide +kernel) (by decide +kernel)))) ec_32 (fun hb hm => by
          obtain ⟨y30, ey30, hm⟩ := bind_some hm
          have r31 := opt_get r14 ey30
          exact (a_eq (v_test (v_neI (v_lenT2 (val_var rfl) (Rep.mono _ g.sh r31)) val_c)) (Option.some.inj hm)))) (fun hc => ?_) (fun hc => ?_)
    · replace h := OP.ite1 hc h
      refine z_ret val_c ?_
      have h := OP.fin hA h
      exact h _ _ g
    · replace h := OP.ite0 hc h
      refine z_nextR ?_
      obtain ⟨y33, ey33, h⟩ := OP.bind h
      have r34 := opt_get r14 ey33
      obtain ⟨B38, h, hB39⟩ := OP.brk h
      obtain ⟨F40, hF41, h⟩ := OP.nameR h
      obtain ⟨q46a, q46w0, q46w1, q46e, q46t, q46r0, q46r1⟩ := id (Rep.mono _ g.sh r34)
      have q46p : Paired ((qI (K := K)).R H_11) [q46w0, q46w1] ([y33.1, y33.2]) := (.cons q46r0 (.cons q46r1 .nil))
      have q46h := SqT.of (K := K) q46t
      refine z_forT (v_eq (val_var rfl) q46e) q46p (fun ys43 σ' H' => ∃ (u44 : Option V), σ' = [some (.str text1), some v6, some v13, u44] ∧ H_11 = H' ∧ OP (forR F40 ys43 ()) (SE B38 A_)) ⟨_, rfl, rfl, h⟩ (fun ys σ' H' p => by obtain ⟨u44, rfl, rfl, h⟩ := p; exact q46h) (fun w_36 number35 ys43 σ' H_45 rw37 p N hN42 => ?_) ?_
      · obtain ⟨u44, rfl, rfl, h⟩ := p
        replace h := OP.forR h
        replace h := OP.fcall2 hF41 h
        cases (show w_36 = (.int number35) from rw37)
        refine g_name (σ' := [some (.str text1), some v6, some v13, some (.int number35)]) rfl ?_
        refine z_if (a_or (a_not (v_B (v_isi (val_var rfl) ty_int (k := true) (by decide +kernel)))) (v_B (v_isi (val_var rfl) ty_int (k := false) (by decide +kernel)))) (fun hc => ?_) (fun hc => ?_)
        · replace h := OP.ite1 hc h
          refine z_ret val_c ?_
          have h := OP.fin hA h
          exact h _ _ g
        · replace h := OP.ite0 hc h
          refine z_nextR ?_
          refine z_next ?_
          exact hN42 _ _ ⟨_, rfl, rfl, h⟩
      · intro σ' H_47 p
        obtain ⟨u44, rfl, rfl, h⟩ := p
        replace h := hB39 _ (OP.forR_nil h)
        refine z_ret (v_eqD (dOpt (dT2 dI dI) (nnT2 _ _)) (dOpt (dT2 dI dI) (nnT2 _ _)) rfl (Nat.le_of_ble_eq_true rfl) (val_var rfl) (val_var rfl) (Rep.mono _ g.sh r14) (Rep.mono _ g.sh r7)) ?_
        have h := OP.fin hA h
        exact h _ _ g

@[irreducible] def m_asks_for (bar1 : (Int × Int)) (lamp4 : Int) : Option Bool :=
grd (0 ≤ lamp4) <|
some (decide ((band (shr bar1.1 lamp4) 1) = 1))
abbrev s_asks_for : Stmt := top 1
abbrev sn_asks_for : List Str := ["bar", "lamp"]
theorem sc_asks_for : FnScope ["bar", "lamp"] ["bar", "lamp"] (defScope (s_asks_for)) := ⟨rfl, rfl, rfl, by decide +kernel, rfl, by decide +kernel, by decide +kernel⟩
def p_asks_for (K : PySem.W.Frag) (c : Cl) : Sp := fun vs H Q E => ∃ (v2 : V) (bar1 : (Int × Int)) (lamp4 : Int), vs = [v2, .int lamp4] ∧ ((qT2 (qI (K := K)) (qI (K := K)))).R H v2 bar1 ∧ OP (m_asks_for bar1 lamp4) (fun r => Q (.bl r) H)
theorem ok_asks_for (T : Tx K mg) : FnOk P w K mg base CX0 1 T.f_asks_for T.d_asks_for ["bar", "lamp"] (p_asks_for K T.c) := by
  refine T.F_asks_for.ok sc_asks_for (fun vs H Q E h => by obtain ⟨v2, bar1, lamp4, rfl, _⟩ := h; rfl) (fun cdv A outer s H vs Q E hr h => ?_)
  obtain ⟨v2, bar1, lamp4, rfl, r3, h⟩ := h
  obtain ⟨A_, hA⟩ : ∃ A_, A_ = (fun r : Bool => Q (.bl r) H) := ⟨_, rfl⟩
  replace h : OP (m_asks_for bar1 lamp4) A_ := hA ▸ h
  rw [m_asks_for] at h
  refine ⟨_, (pss_cons (ps_ret (pe_cmpR op_eq (pe_op op_and (pe_op op_shr (pe_ix (show IxR _ (rIxT K) from ix_tup) (pe_var (i := 0) rfl (.inl rfl) rfl rfl) pe_int (fun _ _ => rfl)) (pe_var (i := 1) rfl (.inl rfl) rfl rfl)) pe_int) pe_int (nomark _)))
      pss_nil), ?_⟩
  refine z_start (σ := [some v2, some (.int lamp4)]) rfl ?_
  have g : Grow [] H H H H := Grow.refl (Same.refl _)
  obtain ⟨g5, h⟩ := OP.grd h
  refine z_ret (v_eqI (v_o2 (v_o2c (v_t20 (val_var rfl) val_c (Rep.mono _ g.sh r3)) (val_var rfl) g5) val_c) val_c) ?_
  have h := OP.fin hA h
  exact h

@[irreducible] def m_shown_bar (many1 : Int) (bar2 : (Int × Int)) : Option Str :=
lt ("" : Str) fun line5 =>
grd (gR many1) <|
(forO (fun lamp7 line16 =>
(m_asks_for bar2 lamp7).bind fun v19 =>
ifo (!v19) (
grd (line16.length + ("-" : Str).length ≤ 16777216) <|
lt (line16 ++ ("-" : Str)) fun line21 =>
some line21) (
grd (0 ≤ lamp7) <|
grd (gStr (band (shr bar2.2 lamp7) 1)) <|
grd (line16.length + (strI (band (shr bar2.2 lamp7) 1)).length ≤ 16777216) <|
lt (line16 ++ (strI (band (shr bar2.2 lamp7) 1))) fun line25 =>
some line25)) (rangeI 0 (Int.toNat many1)) line5).bind (fun line16 =>
some line16)
abbrev s_shown_bar : Stmt := top 17
abbrev sn_shown_bar : List Str := ["many", "bar", "line", "lamp"]
theorem sc_shown_bar : FnScope ["many", "bar", "line", "lamp"] ["many", "bar"] (defScope (s_shown_bar)) := ⟨rfl, rfl, rfl, by decide +kernel, rfl, by decide +kernel, by decide +kernel⟩
def p_shown_bar (K : PySem.W.Frag) (c : Cl) : Sp := fun vs H Q E => ∃ (many1 : Int) (v3 : V) (bar2 : (Int × Int)), vs = [.int many1, v3] ∧ ((qT2 (qI (K := K)) (qI (K := K)))).R H v3 bar2 ∧ OP (m_shown_bar many1 bar2) (fun r => Q (.str r) H)
theorem ok_shown_bar (T : Tx K mg) : FnOk P w K mg base CX0 2 T.f_shown_bar T.d_shown_bar ["many", "bar"] (p_shown_bar K T.c) := by
  refine T.F_shown_bar.ok sc_shown_bar (fun vs H Q E h => by obtain ⟨many1, v3, bar2, rfl, _⟩ := h; rfl) (fun cdv A outer s H vs Q E hr h => ?_)
  obtain ⟨many1, v3, bar2, rfl, r4, h⟩ := h
  obtain ⟨A_, hA⟩ : ∃ A_, A_ = (fun r : Str => Q (.str r) H) := ⟨_, rfl⟩
  replace h : OP (m_shown_bar many1 bar2) A_ := hA ▸ h
  rw [m_shown_bar] at h
  have hr1 : Room 1 _ := hr.mono (by decide)
  refine ⟨_, (pss_cons (ps_set (i := 2) sc_shown_bar.nd rfl (.inl rfl) pe_str)
      (pss_cons (ps_for PassesOwn.never rfl (pi_range1 rfl T.n_range (pa_cons (pe_var (i := 0) rfl (.inl rfl) rfl rfl) pa_nil)) (pg_name (i := 3) sc_shown_bar.nd rfl (.inl rfl)) (pss_cons (ps_if (pt_not (pt_val (pe_call (ok_asks_for T) hr1 rfl T.m_asks_for T.F_asks_for.kp T.b_asks_for .nil pass0 (pa_cons (pe_var (i := 1) rfl (.inl rfl) rfl rfl) (pa_cons (pe_var (i := 3) rfl (.inl rfl) rfl rfl) pa_nil))))) (pss_cons (ps_aug (i := 2) sc_shown_bar.nd rfl (.inl rfl) pe_str iop_add_str)
      pss_nil) (pss_cons (ps_aug (i := 2) sc_shown_bar.nd rfl (.inl rfl) (pe_callTy call_str_int rfl T.n_str bt_str (pa_cons (pe_op op_and (pe_op op_shr (pe_ix (show IxR _ (rIxT K) from ix_tup) (pe_var (i := 1) rfl (.inl rfl) rfl rfl) pe_int (fun _ _ => rfl)) (pe_var (i := 3) rfl (.inl rfl) rfl rfl)) pe_int) pa_nil)) iop_add_str)
      pss_nil))
      pss_nil))
      (pss_cons (ps_ret (pe_var (i := 2) rfl (.inl rfl) rfl rfl))
      pss_nil))), ?_⟩
  refine z_start (σ := [some (.int many1), some v3, none, none]) rfl ?_
  have g : Grow [] H H H H := Grow.refl (Same.refl _)
  obtain ⟨line5, eline5, h⟩ := OP.lt h
  refine z_set (w := (.str line5)) (σ' := [some (.int many1), some v3, some (.str line5), none]) val_c (congrArg V.str eline5) rfl ?_
  obtain ⟨g6, h⟩ := OP.grd h
  obtain ⟨B10, h, hB11⟩ := OP.cut h
  obtain ⟨F12, hF13, h⟩ := OP.nameO h
  refine z_for1 (j := many1) (va_cons (val_var rfl) va_nil) g6 (fun ys15 σ' H' => ∃ (line16 : Str) (u17 : Option V), σ' = [some (.int many1), some v3, some (.str line16), u17] ∧ H = H' ∧ OP (forO F12 ys15 line16) B10) ⟨_, _, rfl, rfl, h⟩ (fun lamp7 ys15 σ' H_18 p N hN14 => ?_) ?_
  · obtain ⟨line16, u17, rfl, rfl, h⟩ := p
    replace h := OP.forO h
    replace h := OP.fcall2 hF13 h
    refine g_name (σ' := [some (.int many1), some v3, some (.str line16), some (.int lamp7)]) rfl ?_
    obtain ⟨v19, ev19, h⟩ := OP.bind h
    refine z_if (a_not (v_B (v_call (va_cons (val_var rfl) (va_cons (val_var rfl) va_nil)) fun Q q => ⟨_, _, _, rfl, (Rep.mono _ g.sh r4), OP.mk ev19 q⟩))) (fun hc => ?_) (fun hc => ?_)
    · replace h := OP.ite1 hc h
      obtain ⟨g20, h⟩ := OP.grd h
      obtain ⟨line21, eline21, h⟩ := OP.lt h
      refine z_augS (w := (.str line21)) (σ' := [some (.int many1), some v3, some (.str line21), some (.int lamp7)]) rfl val_c g20 (congrArg V.str eline21) rfl ?_
      refine z_nextR ?_
      refine z_next ?_
      exact hN14 _ _ ⟨_, _, rfl, rfl, h⟩
    · replace h := OP.ite0 hc h
      obtain ⟨g22, h⟩ := OP.grd h
      obtain ⟨g23, h⟩ := OP.grd h
      obtain ⟨g24, h⟩ := OP.grd h
      obtain ⟨line25, eline25, h⟩ := OP.lt h
      refine z_augS (w := (.str line25)) (σ' := [some (.int many1), some v3, some (.str line25), some (.int lamp7)]) rfl (v_strI (v_o2 (v_o2c (v_t21 (val_var rfl) val_c (Rep.mono _ g.sh r4)) (val_var rfl) g22) val_c) g23) g24 (congrArg V.str eline25) rfl ?_
      refine z_nextR ?_
      refine z_next ?_
      exact hN14 _ _ ⟨_, _, rfl, rfl, h⟩
  · intro σ' H_26 p
    obtain ⟨line16, u17, rfl, rfl, h⟩ := p
    replace h := hB11 _ (OP.forO_nil h)
    refine z_ret (val_var rfl) ?_
    have h := OP.fin hA h
    exact h

@[irreducible] def m_law (script1 : (List Int)) : Option Bool :=
(m__law_cell_at script1 0).bind fun v4 =>
(m__law_cell_at script1 1).bind fun v5 =>
(m__law_signs v5 (1 + (v4 % 6))).bind fun v6 =>
lt v6 fun text7 =>
(m__law_bar_of text7).bind fun v8 =>
(v8).bind fun y15 =>
(m_shown_bar (1 + (v4 % 6)) y15).bind fun v17 =>
lt v17 fun shown18 =>
(ifo (!true) (
some true) (
ifo (!(decide (shown18 = text7))) (
some true) (
(m__law_told text7).bind fun v27 =>
some (!v27)))).bind fun b32 =>
ifo b32 (
some false) (
(m__law_cell_at script1 2).bind fun v33 =>
(m__law_cell_at script1 3).bind fun v34 =>
(m__law_signs v33 (v34 % 9)).bind fun v35 =>
lt v35 fun other36 =>
(ifo (decide (((v4 / 6) % 2) = 1)) (
(m__law_cell_at script1 4).bind fun v60 =>
(m__law_spoilt other36 v60).bind fun v61 =>
lt v61 fun other62 =>
some other62) (
some other36)).bind (fun other39 =>
((m__law_told other39).bind fun v49 =>
ifo v49 (
(m__law_told text7).bind fun v54 =>
some v54) (
some false)).bind fun b59 =>
some b59))
abbrev s_law : Stmt := top 27
abbrev sn_law : List Str := ["_law_script", "_law_first", "_law_text", "_law_bar", "_law_shown", "_law_other"]
theorem sc_law : FnScope ["_law_script", "_law_first", "_law_text", "_law_bar", "_law_shown", "_law_other"] ["_law_script"] (defScope (s_law)) := ⟨rfl, rfl, rfl, by decide +kernel, rfl, by decide +kernel, by decide +kernel⟩
def p_law (K : PySem.W.Frag) (c : Cl) : Sp := fun vs H Q E => ∃ (S : Hp) (v2 : V) (script1 : (List Int)), vs = [v2] ∧ Same S H ∧ RdL (qI (K := K)) [] S H v2 script1 ∧ OP (m_law script1) (fun r => ∀ (S' H' : Hp), Grow [] S H S' H' → Q (.bl r) H')
theorem ok_law (T : Tx K mg) : FnOk P w K mg base CX0 4 T.f_law T.d_law ["_law_script"] (p_law K T.c) := by
  refine T.F_law.ok sc_law (fun vs H Q E h => by obtain ⟨S, v2, script1, rfl, _⟩ := h; rfl) (fun cdv A outer s H vs Q E hr h => ?_)
  obtain ⟨S, v2, script1, rfl, gS, r3, h⟩ := h
  obtain ⟨A_, hA⟩ : ∃ A_, A_ = (fun r : Bool => ∀ (S' H' : Hp), Grow [] S H S' H' → Q (.bl r) H') := ⟨_, rfl⟩
  replace h : OP (m_law script1) A_ := hA ▸ h
  rw [m_law] at h
  have hr1 : Room 1 _ := hr.mono (by decide)
  have hr2 : Room 2 _ := hr.mono (by decide)
  have hr3 : Room 3 _ := hr.mono (by decide)
  refine ⟨_, (pss_cons (ps_set (i := 1) sc_law.nd rfl (.inl rfl) (pe_call (ok__law_cell_at T) hr1 rfl T.m__law_cell_at T.F__law_cell_at.kp T.b__law_cell_at .nil pass0 (pa_cons (pe_var (i := 0) rfl (.inl rfl) rfl rfl) (pa_cons pe_int pa_nil))))
      (pss_cons (ps_set (i := 2) sc_law.nd rfl (.inl rfl) (pe_call (ok__law_signs T) hr1 rfl T.m__law_signs T.F__law_signs.kp T.b__law_signs .nil pass0 (pa_cons (pe_call (ok__law_cell_at T) hr1 rfl T.m__law_cell_at T.F__law_cell_at.kp T.b__law_cell_at .nil pass0 (pa_cons (pe_var (i := 0) rfl (.inl rfl) rfl rfl) (pa_cons pe_int pa_nil))) (pa_cons (pe_op op_add pe_int (pe_op op_mod (pe_var (i := 1) rfl (.inl rfl) rfl rfl) pe_int)) pa_nil))))
      (pss_cons (ps_set (i := 3) sc_law.nd rfl (.inl rfl) (pe_call (ok__law_bar_of T) hr1 rfl T.m__law_bar_of T.F__law_bar_of.kp T.b__law_bar_of .nil pass0 (pa_cons (pe_var (i := 2) rfl (.inl rfl) rfl rfl) pa_nil)))
      (pss_cons (ps_set (i := 4) sc_law.nd rfl (.inl rfl) (pe_call (ok_shown_bar T) hr2 rfl T.m_shown_bar T.F_shown_bar.kp T.b_shown_bar .nil pass0 (pa_cons (pe_op op_add pe_int (pe_op op_mod (pe_var (i := 1) rfl (.inl rfl) rfl rfl) pe_int)) (pa_cons (pe_var (i := 3) rfl (.inl rfl) rfl rfl) pa_nil))))
      (pss_cons (ps_if (PW.pt (pw_or (pt_not (pt_val (pe_callB (show CallR _ (.builtin "isinstance") (rIsi K) from call_isi) rfl T.n_isinstance bt_isinstance (pa_cons (pe_var (i := 4) rfl (.inl rfl) rfl rfl) (pa_cons (pe_bltn (v := .ty "str") rfl T.n_str bt_str rfl) pa_nil))))) (pw_or (pt_cmpR op_ne (pe_var (i := 4) rfl (.inl rfl) rfl rfl) (pe_var (i := 2) rfl (.inl rfl) rfl rfl) (nomark _)) (pw_or1 (pt_not (pt_val (pe_call (ok__law_told T) hr3 rfl T.m__law_told T.F__law_told.kp T.b__law_told .nil pass0 (pa_cons (pe_var (i := 2) rfl (.inl rfl) rfl rfl) pa_nil)))))))) (pss_cons (ps_ret pe_bl)
      pss_nil) pss_nil)
      (pss_cons (ps_set (i := 5) sc_law.nd rfl (.inl rfl) (pe_call (ok__law_signs T) hr1 rfl T.m__law_signs T.F__law_signs.kp T.b__law_signs .nil pass0 (pa_cons (pe_call (ok__law_cell_at T) hr1 rfl T.m__law_cell_at T.F__law_cell_at.kp T.b__law_cell_at .nil pass0 (pa_cons (pe_var (i := 0) rfl (.inl rfl) rfl rfl) (pa_cons pe_int pa_nil))) (pa_cons (pe_op op_mod (pe_call (ok__law_cell_at T) hr1 rfl T.m__law_cell_at T.F__law_cell_at.kp T.b__law_cell_at .nil pass0 (pa_cons (pe_var (i := 0) rfl (.inl rfl) rfl rfl) (pa_cons pe_int pa_nil))) pe_int) pa_nil))))
      (pss_cons (ps_if (pt_cmpR op_eq (pe_op op_mod (pe_op op_fdiv (pe_var (i := 1) rfl (.inl rfl) rfl rfl) pe_int) pe_int) pe_int (nomark _)) (pss_cons (ps_set (i := 5) sc_law.nd rfl (.inl rfl) (pe_call (ok__law_spoilt T) hr1 rfl T.m__law_spoilt T.F__law_spoilt.kp T.b__law_spoilt .nil pass0 (pa_cons (pe_var (i := 5) rfl (.inl rfl) rfl rfl) (pa_cons (pe_call (ok__law_cell_at T) hr1 rfl T.m__law_cell_at T.F__law_cell_at.kp T.b__law_cell_at .nil pass0 (pa_cons (pe_var (i := 0) rfl (.inl rfl) rfl rfl) (pa_cons pe_int pa_nil))) pa_nil))))
      pss_nil) pss_nil)
      (pss_cons (ps_ret (pe_and (pe_call (ok__law_told T) hr3 rfl T.m__law_told T.F__law_told.kp T.b__law_told .nil pass0 (pa_cons (pe_var (i := 5) rfl (.inl rfl) rfl rfl) pa_nil)) (pe_one (pe_call (ok__law_told T) hr3 rfl T.m__law_told T.F__law_told.kp T.b__law_told .nil pass0 (pa_cons (pe_var (i := 2) rfl (.inl rfl) rfl rfl) pa_nil)))))
      pss_nil)))))))), ?_⟩
  refine z_start (σ := [some v2, none, none, none, none, none]) rfl ?_
  have g : Grow [] S H S H := Grow.refl gS
  obtain ⟨v4, ev4, h⟩ := OP.bind h
  refine z_set (w := (.int v4)) (σ' := [some v2, some (.int v4), none, none, none, none]) (v_call (va_cons (val_var rfl) (va_cons val_c va_nil)) fun Q q => ⟨_, _, _, rfl, (RdL.q g r3), OP.mk ev4 q⟩) rfl rfl ?_
  obtain ⟨v5, ev5, h⟩ := OP.bind h
  obtain ⟨v6, ev6, h⟩ := OP.bind h
  obtain ⟨text7, etext7, h⟩ := OP.lt h
  refine z_set (w := (.str text7)) (σ' := [some v2, some (.int v4), some (.str text7), none, none, none]) (v_call (va_cons (v_call (va_cons (val_var rfl) (va_cons val_c va_nil)) fun Q q => ⟨_, _, _, rfl, (RdL.q g r3), OP.mk ev5 q⟩) (va_cons (v_o2 val_c (v_o2c (val_var rfl) val_c (show (0 : Int) < 6 by decide))) va_nil)) fun Q q => ⟨_, _, rfl, OP.mk ev6 q⟩) (congrArg V.str etext7) rfl ?_
  refine z_setE ?_
  refine c_call ?_
  refine c_args (va_cons (val_var rfl) va_nil) ?_
  have gL14 : ∀ l ∈ [], H l = none ∨ l ∈ [] := LM0
  refine ⟨S, _, rfl, g.sh, (OP.of h).mono fun v8 h S_9 H_10 v12 gc11 r13 => ?_⟩
  replace r3 := RdL.mono gc11.ss r3
  replace g := g.call gc11 gL14
  refine g_name (σ' := [some v2, some (.int v4), some (.str text7), some v12, none, none]) rfl ?_
  obtain ⟨y15, ey15, h⟩ := OP.bind h
  have r16 := opt_get r13 ey15
  obtain ⟨v17, ev17, h⟩ := OP.bind h
  obtain ⟨shown18, eshown18, h⟩ := OP.lt h
  refine z_set (w := (.str shown18)) (σ' := [some v2, some (.int v4), some (.str text7), some v12, some (.str shown18), none]) (v_call (va_cons (v_o2 val_c (v_o2c (val_var rfl) val_c (show (0 : Int) < 6 by decide))) (va_cons (val_var rfl) va_nil)) fun Q q => ⟨_, _, _, rfl, (Rep.mono _ g.sh r16), OP.mk ev17 q⟩) (congrArg V.str eshown18) rfl ?_
  refine z_ifE ?_
  obtain ⟨B19, h, hB20⟩ := OP.cut h
  refine c_cutT (fun b H' => ∃ (S_23 : Hp), Grow [] S H S_23 H' ∧ Same S_9 S_23 ∧ B19 b) (fun q21 hq22 => ?_) ?_
  · have sn26 := Same.refl S_9
    refine c_or ?_
    refine c_ans (a_not (v_B (v_isi (val_var rfl) ty_str (k := true) (by decide +kernel)))) ?_
    refine ifb (fun hc => ?_) (fun hc => ?_)
    · replace h := OP.ite1 hc h
      exact hq22 _ _ ⟨_, g, sn26, h⟩
    · replace h := OP.ite0 hc h
      refine c_or ?_
      refine c_ans (v_test (v_neS (val_var rfl) (val_var rfl))) ?_
      refine ifb (fun hc => ?_) (fun hc => ?_)
      · replace h := OP.ite1 hc h
        exact hq22 _ _ ⟨_, g, sn26, h⟩
      · replace h := OP.ite0 hc h
        refine c_not ?_
        refine c_B ?_
        refine c_call ?_
        refine c_args (va_cons (val_var rfl) va_nil) ?_
        have gL31 : ∀ l ∈ [], H l = none ∨ l ∈ [] := LM0
        refine ⟨S_9, _, rfl, g.sh, (OP.of h).mono fun v27 h S_28 H_29 gc30 => ?_⟩
        replace r3 := RdL.mono gc30.ss r3
        replace r13 := Rep.mono _ gc30.ss r13
        replace sn26 := sn26.trans gc30.ss
        replace g := g.call gc30 gL31
        refine ⟨_, rfl, ?_⟩
        exact hq22 _ _ ⟨_, g, sn26, h⟩
  intro b32 H_24 p
  obtain ⟨S_23, gN, eS25, h⟩ := p
  replace g := gN
  replace r3 := RdL.mono eS25 r3
  replace r13 := Rep.mono _ eS25 r13
  replace h := hB20 _ h
  refine ifb (fun hc => ?_) (fun hc => ?_)
  · replace h := OP.ite1 hc h
    refine z_ret val_c ?_
    have h := OP.fin hA h
    exact h _ _ g
  · replace h := OP.ite0 hc h
    refine z_nextR ?_
    obtain ⟨v33, ev33, h⟩ := OP.bind h
    obtain ⟨v34, ev34, h⟩ := OP.bind h
    obtain ⟨v35, ev35, h⟩ := OP.bind h
    obtain ⟨other36, eother36, h⟩ := OP.lt h
    refine z_set (w := (.str other36)) (σ' := [some v2, some (.int v4), some (.str text7), some v12, some (.str shown18), some (.str other36)]) (v_call (va_cons (v_call (va_cons (val_var rfl) (va_cons val_c va_nil)) fun Q q => ⟨_, _, _, rfl, (RdL.q g r3), OP.mk ev33 q⟩) (va_cons (v_o2c (v_call (va_cons (val_var rfl) (va_cons val_c va_nil)) fun Q q => ⟨_, _, _, rfl, (RdL.q g r3), OP.mk ev34 q⟩) val_c (show (0 : Int) < 9 by decide)) va_nil)) fun Q q => ⟨_, _, rfl, OP.mk ev35 q⟩) (congrArg V.str eother36) rfl ?_
    obtain ⟨B37, h, hB38⟩ := OP.cut h
    refine z_ifj (fun σ' H' => ∃ (other39 : Str), σ' = [some v2, some (.int v4), some (.str text7), some v12, some (.str shown18), some (.str other39)] ∧ H_24 = H' ∧ B37 other39) (v_test (v_eqI (v_o2c (v_o2c (val_var rfl) val_c ⟨by decide, by decide⟩) val_c (show (0 : Int) < 2 by decide)) val_c)) ?_ (fun hc N hN => ?_) (fun hc N hN => ?_)
    · intro σ' H_40 p
      obtain ⟨other39, rfl, rfl, h⟩ := p
      replace h := hB38 _ h
      refine z_retE ?_
      obtain ⟨B41, h, hB42⟩ := OP.cut h
      refine c_cutV (fun b H' => ∃ (S_45 : Hp), Grow [] S H S_45 H' ∧ Same S_23 S_45 ∧ B41 b) (fun q43 hq44 => ?_) ?_
      · have sn48 := Same.refl S_23
        refine c_andV ?_
        refine c_call ?_
        refine c_args (va_cons (val_var rfl) va_nil) ?_
        have gL53 : ∀ l ∈ [], H l = none ∨ l ∈ [] := LM0
        refine ⟨S_23, _, rfl, g.sh, (OP.of h).mono fun v49 h S_50 H_51 gc52 => ?_⟩
        replace r3 := RdL.mono gc52.ss r3
        replace r13 := Rep.mono _ gc52.ss r13
        replace sn48 := sn48.trans gc52.ss
        replace g := g.call gc52 gL53
        refine ⟨_, rfl, ?_⟩
        refine ifb (fun hc => ?_) (fun hc => ?_)
        · replace h := OP.ite1 hc h
          refine c_call ?_
          refine c_args (va_cons (val_var rfl) va_nil) ?_
          have gL58 : ∀ l ∈ [], H l = none ∨ l ∈ [] := LM0
          refine ⟨S_50, _, rfl, g.sh, (OP.of h).mono fun v54 h S_55 H_56 gc57 => ?_⟩
          replace r3 := RdL.mono gc57.ss r3
          replace r13 := Rep.mono _ gc57.ss r13
          replace sn48 := sn48.trans gc57.ss
          replace g := g.call gc57 gL58
          exact hq44 _ _ ⟨_, g, sn48, h⟩
        · replace h := OP.ite0 hc h
          exact hq44 _ _ ⟨_, g, sn48, h⟩
      intro b59 H_46 p
      obtain ⟨S_45, gN, eS47, h⟩ := p
      replace g := gN
      replace r3 := RdL.mono eS47 r3
      replace r13 := Rep.mono _ eS47 r13
      replace h := hB42 _ h
      have h := OP.fin hA h
      exact h _ _ g
    · replace h := OP.ite1 hc h
      obtain ⟨v60, ev60, h⟩ := OP.bind h
      obtain ⟨v61, ev61, h⟩ := OP.bind h
      obtain ⟨other62, eother62, h⟩ := OP.lt h
      refine z_set (w := (.str other62)) (σ' := [some v2, some (.int v4), some (.str text7), some v12, some (.str shown18), some (.str other62)]) (v_call (va_cons (val_var rfl) (va_cons (v_call (va_cons (val_var rfl) (va_cons val_c va_nil)) fun Q q => ⟨_, _, _, rfl, (RdL.q g r3), OP.mk ev60 q⟩) va_nil)) fun Q q => ⟨_, _, rfl, OP.mk ev61 q⟩) (congrArg V.str eother62) rfl ?_
      refine z_next ?_
      exact hN _ _ ⟨_, rfl, rfl, h⟩
    · replace h := OP.ite0 hc h
      refine z_next ?_
      exact hN _ _ ⟨_, rfl, rfl, h⟩
end
end E
namespace B
open PySem Z

/-! ### loops by an invariant -/
theorem forO_rng {σ : Type} {body : Int → σ → Option σ} (I : Nat → σ → Prop) : ∀ (n a : Nat) (s : σ), I a s → (∀ i s, a ≤ i → i < a + n → I i s → ∃ s', body (i : Int) s = some s' ∧ I (i + 1) s') → ∃ s', forO body (rangeI (a : Int) n) s = some s' ∧ I (a + n) s'
  | 0, a, s, h, _ => ⟨s, forO_nil, h⟩
  | n + 1, a, s, h, hs => by
    obtain ⟨s1, e1, h1⟩ := hs a s (Nat.le_refl _) (by omega) h
    obtain ⟨s2, e2, h2⟩ := forO_rng I n (a + 1) s1 h1 fun i s hi hj hI => hs i s (by omega) (by omega) hI
    refine ⟨s2, ?_, by rw [show a + (n + 1) = a + 1 + n by omega]; exact h2⟩
    rw [rangeI_succ, forO_cons, e1]
    show forO body (rangeI ((a : Int) + 1) n) s1 = some s2
    rw [show ((a : Int) + 1) = ((a + 1 : Nat) : Int) by omega]
    exact e2
theorem forR_rng {σ ρ : Type} {body : Int → σ → Option (σ ⊕ ρ)} (I : Nat → σ → Prop) : ∀ (n a : Nat) (s : σ), I a s → (∀ i s, a ≤ i → i < a + n → I i s → ∃ s', body (i : Int) s = some (.inl s') ∧ I (i + 1) s') → ∃ s', forR body (rangeI (a : Int) n) s = some (.inl s') ∧ I (a + n) s'
  | 0, a, s, h, _ => ⟨s, forR_nil, h⟩
  | n + 1, a, s, h, hs => by
    obtain ⟨s1, e1, h1⟩ := hs a s (Nat.le_refl _) (by omega) h
    obtain ⟨s2, e2, h2⟩ := forR_rng I n (a + 1) s1 h1 fun i s hi hj hI => hs i s (by omega) (by omega) hI
    refine ⟨s2, ?_, by rw [show a + (n + 1) = a + 1 + n by omega]; exact h2⟩
    rw [rangeI_succ, forR_cons, e1]
    show forR body (rangeI ((a : Int) + 1) n) s1 = some (.inl s2)
    rw [show ((a : Int) + 1) = ((a + 1 : Nat) : Int) by omega]
    exact e2
/-- over range(n) -/
theorem forO_r0 {σ : Type} {body : Int → σ → Option σ} (I : Nat → σ → Prop) {n : Nat} {s : σ} (h : I 0 s) (hs : ∀ i s, i < n → I i s → ∃ s', body (i : Int) s = some s' ∧ I (i + 1) s') : ∃ s', forO body (rangeI 0 n) s = some s' ∧ I n s' := by
  obtain ⟨s', e, i⟩ := forO_rng I n 0 s h fun i s _ hj hI => hs i s (by omega) hI
  rw [Nat.zero_add] at i
  exact ⟨s', e, i⟩
theorem forR_r0 {σ ρ : Type} {body : Int → σ → Option (σ ⊕ ρ)} (I : Nat → σ → Prop) {n : Nat} {s : σ} (h : I 0 s) (hs : ∀ i s, i < n → I i s → ∃ s', body (i : Int) s = some (.inl s') ∧ I (i + 1) s') : ∃ s', forR body (rangeI 0 n) s = some (.inl s') ∧ I n s' := by
  obtain ⟨s', e, i⟩ := forR_rng I n 0 s h fun i s _ hj hI => hs i s (by omega) hI
  rw [Nat.zero_add] at i
  exact ⟨s', e, i⟩
/-- a search: all turns pass, or the first that does not answers -/
theorem forR_all {ρ : Type} {body : Int → Unit → Option (Unit ⊕ ρ)} {v : ρ} (p : Nat → Bool) : ∀ (n a : Nat), (∀ i, a ≤ i → i < a + n → body (i : Int) () = some (if p i = true then .inl () else .inr v)) →
    forR body (rangeI (a : Int) n) () = some (if (List.range' a n).all p = true then .inl () else .inr v)
  | 0, a, _ => forR_nil
  | n + 1, a, h => by
    rw [rangeI_succ, forR_cons, h a (Nat.le_refl _) (by omega), List.range'_succ, List.all_cons]
    by_cases hp : p a = true
    · rw [if_pos hp, hp, Bool.true_and]
      show forR body (rangeI ((a : Int) + 1) n) () = _
      rw [show ((a : Int) + 1) = ((a + 1 : Nat) : Int) by omega]
      exact forR_all p n (a + 1) fun i h1 h2 => h i (by omega) (by omega)
    · rw [if_neg hp, if_neg]
      · rfl
      · rw [Bool.and_eq_true]; exact fun z => hp z.1
theorem forR_all0 {ρ : Type} {body : Int → Unit → Option (Unit ⊕ ρ)} {v : ρ} (p : Nat → Bool) {n : Nat} (h : ∀ i, i < n → body (i : Int) () = some (if p i = true then .inl () else .inr v)) :
    forR body (rangeI 0 n) () = some (if (List.range n).all p = true then .inl () else .inr v) := by
  have q := forR_all p n 0 fun i _ h2 => h i (by omega)
  rw [List.range_eq_range']
  exact q
theorem bind_eq {α β : Type} {m : Option α} {a : α} {k : α → Option β} (h : m = some a) : m.bind k = k a := by rw [h]; rfl
theorem brk_inl {σ ρ : Type} {m : Option (σ ⊕ ρ)} {s : σ} {k : σ → Option ρ} (h : m = some (.inl s)) : brk m k = k s := by rw [h]; rfl
theorem brk_inr {σ ρ : Type} {m : Option (σ ⊕ ρ)} {v : ρ} {k : σ → Option ρ} (h : m = some (.inr v)) : brk m k = some v := by rw [h]; rfl
theorem lt_eq {α β : Type} {e : α} {k : α → Option β} : lt e k = k e := rfl

/-! ### whole numbers that are no less than nought -/
theorem shl_nat (n k : Nat) : shl (n : Int) (k : Int) = ((n <<< k : Nat) : Int) := by
  show (n : Int) * 2 ^ (Int.toNat (k : Int)) = _
  rw [Int.toNat_natCast, Nat.shiftLeft_eq]
  push_cast
  rfl
theorem shl1_nat (k : Nat) : shl 1 (k : Int) = ((2 ^ k : Nat) : Int) := by
  have h := shl_nat 1 k
  rw [Nat.shiftLeft_eq, Nat.one_mul] at h
  exact h
theorem shr_nat (n k : Nat) : shr (n : Int) (k : Int) = ((n >>> k : Nat) : Int) := by
  show (n : Int) / 2 ^ (Int.toNat (k : Int)) = _
  rw [Int.toNat_natCast, Nat.shiftRight_eq_div_pow]
  push_cast
  rfl
theorem band_nat (a b : Nat) : band (a : Int) (b : Int) = ((a &&& b : Nat) : Int) := by
  show Builtin.bitAnd _ _ = _
  rw [PyProof.Rows.bitAnd_pp (by omega) (by omega)]
  rfl
theorem bor_nat (a b : Nat) : bor (a : Int) (b : Int) = ((a ||| b : Nat) : Int) := by
  show Builtin.bitOr _ _ = _
  rw [L2.bitOr_nn (by omega) (by omega)]
  rfl
theorem nat_xor_and (a b : Nat) : (a ^^^ b) + 2 * (a &&& b) = a + b := by
  have h1 := PyProof.Rows.nat_or_add_and a b
  have h2 := PyProof.Rows.nat_or_add_and (a ^^^ b) (a &&& b)
  have e1 : (a ^^^ b) ||| (a &&& b) = a ||| b := by
    apply Nat.eq_of_testBit_eq
    intro i
    simp only [Nat.testBit_or, Nat.testBit_xor, Nat.testBit_and]
    cases a.testBit i <;> cases b.testBit i <;> rfl
  have e2 : (a ^^^ b) &&& (a &&& b) = 0 := by
    apply Nat.eq_of_testBit_eq
    intro i
    simp only [Nat.testBit_xor, Nat.testBit_and, Nat.zero_testBit]
    cases a.testBit i <;> cases b.testBit i <;> rfl
  rw [e1, e2] at h2
  omega
theorem bxor_nat (a b : Nat) : bxor (a : Int) (b : Int) = ((a ^^^ b : Nat) : Int) := by
  show Builtin.bitXor _ _ = _
  rw [PyProof.Rows.bitXor_and]
  have h := nat_xor_and a b
  have q : Builtin.bitAnd (a : Int) (b : Int) = ((a &&& b : Nat) : Int) := band_nat a b
  rw [q]
  omega
/-- a without b -/
def andn (a b : Nat) : Nat := a ^^^ (a &&& b)
theorem testBit_andn (a b i : Nat) : (andn a b).testBit i = (a.testBit i && !b.testBit i) := by
  unfold andn
  simp only [Nat.testBit_xor, Nat.testBit_and]
  cases a.testBit i <;> cases b.testBit i <;> rfl
theorem bandn_nat (a b : Nat) : band (a : Int) (bnot (b : Int)) = ((andn a b : Nat) : Int) := by
  show Builtin.bitAnd (a : Int) (Builtin.bitNot (b : Int)) = _
  rw [PyProof.Rows.bitAnd_not]
  have q : Builtin.bitAnd (a : Int) (b : Int) = ((a &&& b : Nat) : Int) := band_nat a b
  rw [q]
  have h := nat_xor_and a (a &&& b)
  have e : a &&& (a &&& b) = a &&& b := by
    apply Nat.eq_of_testBit_eq
    intro i
    simp only [Nat.testBit_and]
    cases a.testBit i <;> cases b.testBit i <;> rfl
  rw [e] at h
  unfold andn
  omega
theorem gPow1 {k : Nat} (h : k ≤ 1000000) : gPow 1 (k : Int) := ⟨by omega, by omega, by decide⟩
theorem gPow_nat {n k : Nat} (h : k ≤ 1000000) (hn : n < 2 ^ 64) : gPow (n : Int) (k : Int) := ⟨by omega, by omega, by simpa using hn⟩
theorem gR_nat {n : Nat} (h : n < 2 ^ 62) : gR (n : Int) := ⟨by omega, by omega⟩
theorem gDiv_nat {n : Nat} (h0 : 0 < n) (h : n < 1073741824) : gDiv (n : Int) := ⟨by omega, by omega⟩

/-! ### a number by its bits -/
def mask : Nat → (Nat → Bool) → Nat
  | 0, _ => 0
  | n + 1, p => mask n p + if p n = true then 2 ^ n else 0
theorem mask_succ (n : Nat) (p : Nat → Bool) : mask (n + 1) p = mask n p + if p n = true then 2 ^ n else 0 := rfl
theorem mask_lt : ∀ (n : Nat) (p : Nat → Bool), mask n p < 2 ^ n
  | 0, _ => Nat.one_pos
  | n + 1, p => by
    have h := mask_lt n p
    unfold mask
    rw [Nat.pow_succ]
    split <;> omega
theorem testBit_mask : ∀ (n : Nat) (p : Nat → Bool) (i : Nat), (mask n p).testBit i = (decide (i < n) && p i)
  | 0, p, i => by simp [mask]
  | n + 1, p, i => by
    have h := testBit_mask n p i
    have hl := mask_lt n p
    unfold mask
    by_cases hp : p n = true
    · rw [if_pos hp, Nat.add_comm]
      have e := Nat.two_pow_add_eq_or_of_lt hl 1
      rw [Nat.mul_one] at e
      rw [e, Nat.testBit_or, h, Nat.testBit_two_pow]
      by_cases hi : i < n
      · simp [hi, Nat.lt_succ_of_lt hi, show ¬ n = i by omega]
      · by_cases he : n = i
        · subst he; simp [hp]
        · simp [hi, he, show ¬ i < n + 1 by omega]
    · rw [if_neg hp, Nat.add_zero, h]
      by_cases hi : i < n
      · simp [hi, Nat.lt_succ_of_lt hi]
      · by_cases he : n = i
        · subst he; simp [hp]
        · simp [hi, show ¬ i < n + 1 by omega]
theorem mask_ext {n : Nat} {p : Nat → Bool} {x : Nat} (hx : x < 2 ^ n) (h : ∀ i, i < n → x.testBit i = p i) : x = mask n p := by
  apply Nat.eq_of_testBit_eq
  intro i
  rw [testBit_mask]
  by_cases hi : i < n
  · simp [hi, h i hi]
  · simp only [hi, decide_false, Bool.false_and]
    exact Nat.testBit_lt_two_pow (Nat.lt_of_lt_of_le hx (Nat.pow_le_pow_right (by decide) (by omega)))
theorem mask_congr {n : Nat} {p q : Nat → Bool} (h : ∀ i, i < n → p i = q i) : mask n p = mask n q := mask_ext (mask_lt n p) fun i hi => by rw [testBit_mask, h i hi]; simp [hi]
end B
namespace B
open PySem Z
theorem forO_list {α σ : Type} {body : α → σ → Option σ} (g : σ → α → σ) (I : σ → Prop) : ∀ (xs : List α) (s : σ), I s → (∀ x ∈ xs, ∀ s, I s → body x s = some (g s x) ∧ I (g s x)) → forO body xs s = some (xs.foldl g s) ∧ I (xs.foldl g s)
  | [], s, h, _ => ⟨forO_nil, h⟩
  | x :: xs, s, h, hs => by
    obtain ⟨e, i⟩ := hs x List.mem_cons_self s h
    rw [forO_cons, e]
    exact forO_list g I xs (g s x) i fun y hy => hs y (List.mem_cons_of_mem _ hy)
theorem forR_list {α σ ρ : Type} {body : α → σ → Option (σ ⊕ ρ)} (g : σ → α → σ) (I : σ → Prop) : ∀ (xs : List α) (s : σ), I s → (∀ x ∈ xs, ∀ s, I s → body x s = some (.inl (g s x)) ∧ I (g s x)) → forR body xs s = some (.inl (xs.foldl g s)) ∧ I (xs.foldl g s)
  | [], s, h, _ => ⟨forR_nil, h⟩
  | x :: xs, s, h, hs => by
    obtain ⟨e, i⟩ := hs x List.mem_cons_self s h
    rw [forR_cons, e]
    exact forR_list g I xs (g s x) i fun y hy => hs y (List.mem_cons_of_mem _ hy)
/-- an invariant alone -/
theorem forO_inv {α σ : Type} {body : α → σ → Option σ} (I : σ → Prop) : ∀ (xs : List α) (s : σ), I s → (∀ x ∈ xs, ∀ s, I s → ∃ s', body x s = some s' ∧ I s') → ∃ s', forO body xs s = some s' ∧ I s'
  | [], s, h, _ => ⟨s, forO_nil, h⟩
  | x :: xs, s, h, hs => by
    obtain ⟨s1, e, i⟩ := hs x List.mem_cons_self s h
    rw [forO_cons, e]
    exact forO_inv I xs s1 i fun y hy => hs y (List.mem_cons_of_mem _ hy)
theorem forR_inv {α σ ρ : Type} {body : α → σ → Option (σ ⊕ ρ)} (I : σ → Prop) : ∀ (xs : List α) (s : σ), I s → (∀ x ∈ xs, ∀ s, I s → ∃ s', body x s = some (.inl s') ∧ I s') → ∃ s', forR body xs s = some (.inl s') ∧ I s'
  | [], s, h, _ => ⟨s, forR_nil, h⟩
  | x :: xs, s, h, hs => by
    obtain ⟨s1, e, i⟩ := hs x List.mem_cons_self s h
    rw [forR_cons, e]
    exact forR_inv I xs s1 i fun y hy => hs y (List.mem_cons_of_mem _ hy)
theorem mod_nat (v : Int) {n : Nat} (h : 0 < n) : ∃ k : Nat, k < n ∧ v % (n : Int) = (k : Int) := by
  refine ⟨(v % (n : Int)).toNat, ?_, ?_⟩
  · have h1 := Int.emod_lt_of_pos v (show (0 : Int) < (n : Int) by omega)
    have h0 := Int.emod_nonneg v (show (n : Int) ≠ 0 by omega)
    omega
  · have h0 := Int.emod_nonneg v (show (n : Int) ≠ 0 by omega)
    omega
theorem cutI_mem {α : Type} {xs : List α} {lo hi : Option Int} {x : α} (h : x ∈ cutI xs lo hi) : x ∈ xs := List.mem_of_mem_drop (List.mem_of_mem_take h)
theorem cutI_len {α : Type} {xs : List α} {lo hi : Option Int} : (cutI xs lo hi).length ≤ xs.length := by
  unfold cutI
  rw [List.length_take, List.length_drop]
  omega
theorem setI_nat {α : Type} {xs : List α} {k : Nat} {v : α} (h : k < xs.length) : setI xs (k : Int) v = some (xs.set k v) := by
  unfold setI L2.ixN
  rw [if_pos (by omega), if_pos (by omega), Int.toNat_natCast]
  rfl
theorem atI_nat' {α : Type} {xs : List α} {k : Nat} (h : k < xs.length) : L2.atI xs (k : Int) = some xs[k] := L2.atI_nat (List.getElem?_eq_getElem h)
end B
namespace B
open PySem Z
theorem un2_mk {α β γ : Type} {f : α → β → γ} {a : α} {b : β} : un2 f (a, b) = f a b := rfl
theorem un3_mk {α β γ δ : Type} {f : α → β → γ → δ} {a : α} {b : β} {c : γ} : un3 f (a, b, c) = f a b c := rfl
theorem un4_mk {α β γ δ ε : Type} {f : α → β → γ → δ → ε} {a : α} {b : β} {c : γ} {d : δ} : un4 f (a, b, c, d) = f a b c d := rfl
theorem nt : (!true) = false := rfl
theorem nf : (!false) = true := rfl
end B
namespace B
open PySem Z
/-- s lies in the bar -/
def inB (a l s : Nat) : Bool := s &&& a == l
def liesB (a l s : Nat) : Bool := (List.range 6).all fun k => !(a.testBit k) || (s.testBit k == l.testBit k)
theorem liesB_eq {a l s : Nat} (ha : a < 64) (hl : l < 64) (h : l &&& a = l) : liesB a l s = inB a l s := by
  unfold liesB inB
  by_cases e : s &&& a = l
  · rw [show (s &&& a == l) = true by simp [e]]
    rw [List.all_eq_true]
    intro k _
    have q := congrArg (fun x => x.testBit k) e
    simp only [Nat.testBit_and] at q
    cases ha : a.testBit k <;> simp_all
  · rw [show (s &&& a == l) = false by simp [e]]
    by_cases z : ((List.range 6).all fun k => !(a.testBit k) || (s.testBit k == l.testBit k)) = true
    · exfalso
      apply e
      rw [List.all_eq_true] at z
      apply Nat.eq_of_testBit_eq
      intro k
      rw [Nat.testBit_and]
      by_cases hk : k < 6
      · have q := z k (List.mem_range.mpr hk)
        have r := congrArg (fun x => x.testBit k) h
        simp only [Nat.testBit_and] at r
        cases ha : a.testBit k <;> simp_all
      · have h64 : (64 : Nat) ≤ 2 ^ k := Nat.pow_le_pow_right (n := 2) (by decide) (show 6 ≤ k by omega)
        rw [Nat.testBit_lt_two_pow (show a < 2 ^ k by omega), Nat.testBit_lt_two_pow (show l < 2 ^ k by omega), Bool.and_false]
    · simpa using z
theorem inB_of {a l s : Nat} : inB a l s = (s &&& a == l) := rfl
theorem and_full {m s : Nat} (hs : s < 2 ^ m) : s &&& (2 ^ m - 1) = s := by rw [Nat.and_two_pow_sub_one_eq_mod, Nat.mod_eq_of_lt hs]
/-- a loop over a list, its passes counted -/
theorem forO_cnt {α σ : Type} {body : α → σ → Option σ} (I : Nat → σ → Prop) : ∀ (xs : List α) (j : Nat) (s : σ), I j s → (∀ x ∈ xs, ∀ k s, k < j + xs.length → I k s → ∃ s', body x s = some s' ∧ I (k + 1) s') → ∃ s', forO body xs s = some s' ∧ I (j + xs.length) s'
  | [], _, s, h, _ => ⟨s, forO_nil, h⟩
  | x :: xs, j, s, h, hs => by
    have hl : (x :: xs).length = xs.length + 1 := rfl
    obtain ⟨s1, e, i⟩ := hs x List.mem_cons_self j s (by omega) h
    rw [forO_cons, e]
    obtain ⟨s2, e2, i2⟩ := forO_cnt I xs (j + 1) s1 i fun y hy k s hk hI => hs y (List.mem_cons_of_mem _ hy) k s (by omega) hI
    refine ⟨s2, e2, ?_⟩
    have : j + 1 + xs.length = j + (x :: xs).length := by omega
    rw [← this]; exact i2
theorem forR_cnt {α σ ρ : Type} {body : α → σ → Option (σ ⊕ ρ)} (I : Nat → σ → Prop) : ∀ (xs : List α) (j : Nat) (s : σ), I j s → (∀ x ∈ xs, ∀ k s, k < j + xs.length → I k s → ∃ s', body x s = some (.inl s') ∧ I (k + 1) s') → ∃ s', forR body xs s = some (.inl s') ∧ I (j + xs.length) s'
  | [], _, s, h, _ => ⟨s, forR_nil, h⟩
  | x :: xs, j, s, h, hs => by
    have hl : (x :: xs).length = xs.length + 1 := rfl
    obtain ⟨s1, e, i⟩ := hs x List.mem_cons_self j s (by omega) h
    rw [forR_cons, e]
    obtain ⟨s2, e2, i2⟩ := forR_cnt I xs (j + 1) s1 i fun y hy k s hk hI => hs y (List.mem_cons_of_mem _ hy) k s (by omega) hI
    refine ⟨s2, e2, ?_⟩
    have : j + 1 + xs.length = j + (x :: xs).length := by omega
    rw [← this]; exact i2
theorem ifo_nt {α : Type} {m n : Option α} : ifo (!true) m n = n := ifo_f rfl
theorem ifo_nf {α : Type} {m n : Option α} : ifo (!false) m n = m := ifo_t rfl
theorem ifo_tt {α : Type} {m n : Option α} : ifo true m n = m := ifo_t rfl
theorem ifo_ff {α : Type} {m n : Option α} : ifo false m n = n := ifo_f rfl
theorem sb {α β : Type} {a : α} {k : α → Option β} : (some a).bind k = k a := rfl
theorem one_and (n : Nat) : 1 &&& n = n % 2 := by rw [Nat.and_comm, Nat.and_one_is_mod]
end B

namespace B
open PySem Z L2
/-! ### the least bit -/
theorem neg_nat {c : Nat} (h : 0 < c) : (-(c : Int)) = bnot ((c - 1 : Nat) : Int) := by
  show _ = Builtin.bitNot _
  unfold Builtin.bitNot
  omega
theorem low_nat {c : Nat} (h : 0 < c) : band (c : Int) (-(c : Int)) = ((andn c (c - 1) : Nat) : Int) := by rw [neg_nat h, bandn_nat]
theorem tb_zero (c : Nat) : c.testBit 0 = decide (c % 2 = 1) := Nat.testBit_zero c
/-- there is a least bit -/
theorem least_bit : ∀ (c : Nat), 0 < c → ∃ k, c.testBit k = true ∧ (∀ i, i < k → c.testBit i = false) ∧ andn c (c - 1) = 2 ^ k := by
  intro c
  induction c using Nat.strongRecOn with
  | ind c ih =>
    intro h
    by_cases hp : c % 2 = 1
    · refine ⟨0, by rw [tb_zero, decide_eq_true hp], fun i hi => by omega, Nat.eq_of_testBit_eq fun i => ?_⟩
      rw [testBit_andn]
      cases i with
      | zero =>
        rw [tb_zero, tb_zero, decide_eq_true hp, decide_eq_false (by omega)]; rfl
      | succ i =>
        rw [Nat.testBit_succ, Nat.testBit_succ, show (c - 1) / 2 = c / 2 by omega, Nat.testBit_two_pow]
        rw [decide_eq_false (by omega)]
        cases (c / 2).testBit i <;> rfl
    · have h2 : 0 < c / 2 := by omega
      obtain ⟨k, k1, k2, k3⟩ := ih (c / 2) (by omega) h2
      refine ⟨k + 1, by rw [Nat.testBit_succ]; exact k1, fun i hi => ?_, Nat.eq_of_testBit_eq fun i => ?_⟩
      · cases i with
        | zero => rw [tb_zero, decide_eq_false hp]
        | succ i => rw [Nat.testBit_succ]; exact k2 i (by omega)
      · rw [testBit_andn]
        cases i with
        | zero =>
          rw [tb_zero, decide_eq_false hp, Nat.testBit_two_pow, decide_eq_false (by omega)]; rfl
        | succ i =>
          have e := congrArg (fun n => n.testBit i) k3
          simp only [testBit_andn, Nat.testBit_two_pow] at e
          rw [Nat.testBit_succ, Nat.testBit_succ, show (c - 1) / 2 = c / 2 - 1 by omega, e, Nat.testBit_two_pow]
          exact decide_eq_decide.mpr (by omega)
theorem blen_pow (k : Nat) : blen ((2 ^ k : Nat) : Int) = ((k + 1 : Nat) : Int) := by
  unfold blen Builtin.Int.intBits
  have h : ((((2 ^ k : Nat) : Int)) == 0) = false := by
    have := Nat.two_pow_pos k
    exact beq_eq_false_iff_ne.mpr (by omega)
  rw [h]
  show (((((2 ^ k : Nat) : Int).natAbs.log2 + 1 : Nat)) : Int) = _
  rw [Int.natAbs_natCast, Nat.log2_two_pow]
/-- the places of the bits, rising -/
def bitsL (n c : Nat) : List Nat := (List.range n).filter fun i => c.testBit i
theorem bitsL_zero (n : Nat) : bitsL n 0 = [] := by
  unfold bitsL
  rw [List.filter_eq_nil_iff]
  intro i _
  rw [Nat.zero_testBit]; exact Bool.false_ne_true
theorem mem_bitsL {n c i : Nat} : i ∈ bitsL n c ↔ i < n ∧ c.testBit i = true := by
  unfold bitsL
  rw [List.mem_filter, List.mem_range]
theorem bitsL_len (n c : Nat) : (bitsL n c).length ≤ n := by
  have := List.length_filter_le (fun i => c.testBit i) (List.range n)
  rwa [List.length_range] at this
theorem bitsL_cons {n c k : Nat} (hk : k < n) (h1 : c.testBit k = true) (h2 : ∀ i, i < k → c.testBit i = false) : bitsL n c = k :: bitsL n (c ^^^ 2 ^ k) := by
  have key : ∀ (p q : Nat → Bool) (m a : Nat), a ≤ k → k < a + m → p k = true → q k = false → (∀ i, i ≠ k → p i = q i) → (∀ i, i < k → p i = false) → (List.range' a m).filter p = k :: (List.range' a m).filter q := by
    intro p q m
    induction m with
    | zero => intro a h1 h2; omega
    | succ m ih =>
      intro a ha hm pk qk hpq hlo
      rw [List.range'_succ, List.filter_cons, List.filter_cons]
      by_cases e : a = k
      · subst e
        rw [if_pos pk, if_neg (by rw [qk]; exact Bool.false_ne_true)]
        congr 1
        apply List.filter_congr
        intro x hx
        rw [List.mem_range'_1] at hx
        exact hpq x (by omega)
      · have hlt : a < k := by omega
        rw [if_neg (by rw [hlo a hlt]; exact Bool.false_ne_true), if_neg (by rw [← hpq a e, hlo a hlt]; exact Bool.false_ne_true)]
        exact ih (a + 1) (by omega) (by omega) pk qk hpq hlo
  unfold bitsL
  rw [List.range_eq_range']
  refine key _ _ n 0 (by omega) (by omega) h1 ?_ (fun i hi => ?_) h2
  · rw [Nat.testBit_xor, Nat.testBit_two_pow, h1, decide_eq_true rfl]; rfl
  · rw [Nat.testBit_xor, Nat.testBit_two_pow, decide_eq_false (fun e => hi e.symm), Bool.xor_false]
theorem tb_lt {m a i : Nat} (h : a < 2 ^ m) (hi : a.testBit i = true) : i < m := by
  by_cases q : i < m
  · exact q
  · rw [Nat.testBit_lt_two_pow (Nat.lt_of_lt_of_le h (Nat.pow_le_pow_right (by decide) (by omega)))] at hi
    cases hi
theorem xor_lt {m a b : Nat} (ha : a < 2 ^ m) (hb : b < 2 ^ m) : a ^^^ b < 2 ^ m := Nat.xor_lt_two_pow ha hb
theorem bigN_eq' : bigN = 1000000 := Z.bigN_eq
/-! ### tables: lists told by a function -/
def zL (xs : List Nat) : List Int := xs.map fun (n : Nat) => (n : Int)
def tab (n : Nat) (f : Nat → Nat) : List Int := (List.range n).map fun i => ((f i : Nat) : Int)
theorem tab_len (n : Nat) (f : Nat → Nat) : (tab n f).length = n := by unfold tab; rw [List.length_map, List.length_range]
theorem tab_ext {n : Nat} {f g : Nat → Nat} (h : ∀ i, i < n → f i = g i) : tab n f = tab n g := by
  unfold tab
  apply List.map_congr_left
  intro i hi
  rw [h i (List.mem_range.mp hi)]
theorem tab_get {n : Nat} {f : Nat → Nat} {i : Nat} (h : i < n) : (tab n f)[i]? = some ((f i : Nat) : Int) := by
  unfold tab
  rw [List.getElem?_map, List.getElem?_range h]; rfl
theorem atI_tab {n : Nat} {f : Nat → Nat} {i : Nat} (h : i < n) : L2.atI (tab n f) (i : Int) = some ((f i : Nat) : Int) := L2.atI_nat (tab_get h)
def fup (f : Nat → Nat) (k v : Nat) : Nat → Nat := fun i => if i = k then v else f i
theorem tab_set {n : Nat} {f : Nat → Nat} {k v : Nat} : (tab n f).set k (v : Int) = tab n (fup f k v) := by
  apply List.ext_getElem?
  intro i
  rw [List.getElem?_set]
  by_cases hi : i < n
  · by_cases hk : k = i
    · subst hk
      rw [if_pos rfl, tab_len, if_pos hi, tab_get hi]
      unfold fup; rw [if_pos rfl]
    · rw [if_neg hk, tab_get hi, tab_get hi]
      unfold fup; rw [if_neg (fun e => hk e.symm)]
  · have e1 : (tab n f)[i]? = none := List.getElem?_eq_none (by rw [tab_len]; omega)
    have e2 : (tab n (fup f k v))[i]? = none := List.getElem?_eq_none (by rw [tab_len]; omega)
    rw [e1, e2]
    by_cases hk : k = i
    · subst hk; rw [if_pos rfl, tab_len, if_neg hi]
    · rw [if_neg hk]
theorem setI_tab {n : Nat} {f : Nat → Nat} {k v : Nat} (h : k < n) : setI (tab n f) (k : Int) (v : Int) = some (tab n (fup f k v)) := by
  rw [setI_nat (by rw [tab_len]; exact h), tab_set]
theorem mem_tab {n : Nat} {f : Nat → Nat} {x : Int} (h : x ∈ tab n f) : ∃ i, i < n ∧ x = ((f i : Nat) : Int) := by
  unfold tab at h
  rw [List.mem_map] at h
  obtain ⟨i, h1, h2⟩ := h
  exact ⟨i, List.mem_range.mp h1, h2.symm⟩
theorem mem_rangeI {n : Nat} {x : Int} : x ∈ rangeI 0 n → ∃ k : Nat, k < n ∧ x = (k : Int) := by
  intro h
  unfold rangeI at h
  rw [List.mem_map] at h
  obtain ⟨k, h1, h2⟩ := h
  exact ⟨k, List.mem_range.mp h1, by omega⟩
theorem rangeI_len {lo : Int} {n : Nat} : (rangeI lo n).length = n := by unfold rangeI; rw [List.length_map, List.length_range]
theorem rangeI_tab (n : Nat) : rangeI 0 n = tab n id := by
  unfold rangeI tab
  apply List.map_congr_left
  intro i _
  show (0 : Int) + (i : Int) = ((id i : Nat) : Int)
  rw [Int.zero_add]; rfl
theorem comp_const {α : Type} {xs : List α} {c : Int} (h : xs.length ≤ 16777216) : compO (fun _ => some (some c)) xs = some (xs.map fun _ => c) := by
  rw [compO_eq (g := fun _ => some c) h fun _ _ => rfl]
  congr 1
  clear h
  induction xs with
  | nil => rfl
  | cons x xs ih => rw [List.filterMap_cons, ih]; rfl
theorem map_zero_tab {α : Type} (xs : List α) {n : Nat} (h : xs.length = n) : (xs.map fun _ => (0 : Int)) = tab n fun _ => 0 := by
  subst h
  unfold tab
  induction xs with
  | nil => rfl
  | cons x xs ih =>
    rw [List.length_cons, List.range_succ_eq_map, List.map_cons, List.map_cons, List.map_map]
    rw [ih]
    rfl
theorem comp_zero {n : Nat} (h : n ≤ 16777216) : compO (fun _ => some (some 0)) (rangeI 0 n) = some (tab n fun _ => 0) := by
  rw [comp_const (by rw [rangeI_len]; exact h), map_zero_tab _ rangeI_len]
theorem comp_zeroL {xs : List Int} {n : Nat} (hl : xs.length = n) (h : n ≤ 16777216) : compO (fun _ => some (some 0)) xs = some (tab n fun _ => 0) := by
  rw [comp_const (by omega), map_zero_tab _ hl]
theorem tab_rev (n : Nat) (f : Nat → Nat) : (tab n f).reverse = tab n fun i => f (n - 1 - i) := by
  apply List.ext_getElem?
  intro i
  by_cases hi : i < n
  · rw [List.getElem?_reverse (by rw [tab_len]; exact hi), tab_len, tab_get (by omega), tab_get hi]
  · rw [List.getElem?_eq_none (by rw [List.length_reverse, tab_len]; omega), List.getElem?_eq_none (by rw [tab_len]; omega)]
theorem enumI_tab (n : Nat) (f : Nat → Nat) : enumI (tab n f) = (List.range n).map fun (i : Nat) => ((i : Int), ((f i : Nat) : Int)) := by
  apply List.ext_getElem?
  intro i
  unfold enumI
  by_cases hi : i < n
  · have := enumF_get (tab n f) 0 i _ (tab_get hi)
    rw [this, List.getElem?_map, List.getElem?_range hi, Nat.zero_add]; rfl
  · rw [List.getElem?_eq_none (by rw [enumF_len, tab_len]; omega), List.getElem?_eq_none (by rw [List.length_map, List.length_range]; omega)]
/-- a loop over the places below n, told as a list -/
theorem forO_map {α σ : Type} {body : α → σ → Option σ} {g : Nat → α} (I : Nat → σ → Prop) : ∀ (n : Nat) (s : σ), I 0 s → (∀ i s, i < n → I i s → ∃ s', body (g i) s = some s' ∧ I (i + 1) s') → ∃ s', forO body ((List.range n).map g) s = some s' ∧ I n s' := by
  have key : ∀ (n a : Nat) (s : σ), I a s → (∀ i s, a ≤ i → i < a + n → I i s → ∃ s', body (g i) s = some s' ∧ I (i + 1) s') → ∃ s', forO body ((List.range' a n).map g) s = some s' ∧ I (a + n) s' := by
    intro n
    induction n with
    | zero => intro a s h _; exact ⟨s, forO_nil, h⟩
    | succ n ih =>
      intro a s h hs
      obtain ⟨s1, e1, i1⟩ := hs a s (Nat.le_refl _) (by omega) h
      obtain ⟨s2, e2, i2⟩ := ih (a + 1) s1 i1 fun i s ha hi hI => hs i s (by omega) (by omega) hI
      refine ⟨s2, ?_, by rw [show a + (n + 1) = a + 1 + n by omega]; exact i2⟩
      rw [List.range'_succ, List.map_cons, forO_cons, e1]
      exact e2
  intro n s h hs
  obtain ⟨s', e, i⟩ := key n 0 s h fun i s _ hi hI => hs i s (by omega) hI
  rw [Nat.zero_add] at i
  exact ⟨s', by rw [List.range_eq_range']; exact e, i⟩
/-- a loop that asks the same of each, and passes -/
theorem forO_pass {α : Type} {body : α → Unit → Option Unit} : ∀ {xs : List α}, (∀ x ∈ xs, body x () = some ()) → forO body xs () = some ()
  | [], _ => forO_nil
  | x :: xs, h => by
    rw [forO_cons, h x List.mem_cons_self]
    exact forO_pass fun y hy => h y (List.mem_cons_of_mem _ hy)
theorem forR_pass {α ρ : Type} {body : α → Unit → Option (Unit ⊕ ρ)} : ∀ {xs : List α}, (∀ x ∈ xs, body x () = some (.inl ())) → forR body xs () = some (.inl ())
  | [], _ => forR_nil
  | x :: xs, h => by
    rw [forR_cons, h x List.mem_cons_self]
    exact forR_pass fun y hy => h y (List.mem_cons_of_mem _ hy)
theorem mask_or (i : Nat) (p : Nat → Bool) : mask i p ||| 2 ^ i = mask i p + 2 ^ i := by
  have h := mask_lt i p
  have e : mask i p + 2 ^ i = mask (i + 1) (fun j => if j = i then true else p j) := by
    rw [mask_succ, if_pos (by rw [if_pos rfl])]
    congr 1
    exact mask_congr fun j hj => by rw [if_neg (by omega)]
  rw [e]
  refine mask_ext (Nat.or_lt_two_pow (Nat.lt_of_lt_of_le h (Nat.pow_le_pow_right (by decide) (by omega))) (Nat.pow_lt_pow_right (by decide) (by omega))) fun j hj => ?_
  rw [Nat.testBit_or, testBit_mask, Nat.testBit_two_pow]
  by_cases e : j = i
  · subst e
    rw [if_pos rfl, decide_eq_true rfl, Bool.or_true]
  · rw [if_neg e, decide_eq_true (by omega), decide_eq_false (fun q => e q.symm), Bool.true_and, Bool.or_false]
/-- joined crowds -/
def orAll (f : Nat → Nat) : List Nat → Nat
  | [] => 0
  | x :: xs => f x ||| orAll f xs
theorem testBit_orAll (f : Nat → Nat) (i : Nat) : ∀ xs : List Nat, (orAll f xs).testBit i = xs.any fun x => (f x).testBit i
  | [] => by unfold orAll; rw [Nat.zero_testBit]; rfl
  | x :: xs => by
    unfold orAll
    rw [Nat.testBit_or, testBit_orAll f i xs, List.any_cons]
theorem orAll_lt {n : Nat} {f : Nat → Nat} : ∀ {xs : List Nat}, (∀ x ∈ xs, f x < 2 ^ n) → orAll f xs < 2 ^ n
  | [], _ => Nat.two_pow_pos n
  | x :: xs, h => Nat.or_lt_two_pow (h x List.mem_cons_self) (orAll_lt fun y hy => h y (List.mem_cons_of_mem _ hy))
theorem any_bitsL {n c : Nat} {p : Nat → Bool} : (bitsL n c).any p = (List.range n).any fun i => c.testBit i && p i := by
  unfold bitsL
  rw [List.any_filter]
theorem orAll_app (f : Nat → Nat) : ∀ xs ys : List Nat, orAll f (xs ++ ys) = orAll f xs ||| orAll f ys
  | [], ys => (Nat.zero_or _).symm
  | x :: xs, ys => by
    show f x ||| orAll f (xs ++ ys) = f x ||| orAll f xs ||| orAll f ys
    rw [orAll_app f xs ys, Nat.or_assoc]
theorem bitsL_succ (k c : Nat) : bitsL (k + 1) c = bitsL k c ++ if c.testBit k = true then [k] else [] := by
  unfold bitsL
  rw [List.range_succ, List.filter_append]
  congr 1
  rw [List.filter_cons]
  rfl
theorem and1_testBit (a k : Nat) : decide (((a >>> k &&& 1 : Nat) : Int) = 1) = a.testBit k := by
  rw [Nat.testBit, Nat.and_comm]
  have : (1 &&& a >>> k) = 0 ∨ (1 &&& a >>> k) = 1 := by
    rw [one_and]; omega
  rcases this with h | h <;> rw [h] <;> rfl
theorem asks1 (a k : Nat) : decide (band (shr (a : Int) (k : Int)) 1 = 1) = a.testBit k := by
  have o1 : ((1 : Nat) : Int) = 1 := rfl
  rw [shr_nat, ← o1, band_nat, o1, and1_testBit]
theorem pow_lt2 {k n : Nat} (h : k < n) : 2 ^ k < 2 ^ n := Nat.pow_lt_pow_right (by decide) h
theorem le64 {m : Nat} (hm : m ≤ 6) : 2 ^ m ≤ 64 := Nat.pow_le_pow_right (n := 2) (by decide) hm
/-! ### parts of lists -/
theorem cutI_from {α : Type} (xs : List α) (k : Nat) : cutI xs (some (k : Int)) none = xs.drop k := by
  unfold cutI
  rw [HT.sIx_nat, HT.sIx_none]
  by_cases h : k ≤ xs.length
  · rw [Nat.min_eq_left h, List.take_of_length_le (Nat.le_of_eq List.length_drop)]
  · rw [Nat.min_eq_right (by omega), List.drop_length, List.drop_eq_nil_of_le (i := k) (by omega), List.take_nil]
theorem cutI_to {α : Type} (xs : List α) (k : Nat) : cutI xs none (some (k : Int)) = xs.take k := by
  unfold cutI
  rw [HT.sIx_nat, HT.sIx_none, List.drop_zero, Nat.sub_zero]
  by_cases h : k ≤ xs.length
  · rw [Nat.min_eq_left h]
  · rw [Nat.min_eq_right (by omega), List.take_of_length_le (Nat.le_refl _), List.take_of_length_le (by omega)]
theorem cutI_init {α : Type} (xs : List α) : cutI xs none (some (-1)) = xs.dropLast := by
  unfold cutI
  rw [HT.sIx_none, List.drop_zero, Nat.sub_zero]
  have e : HT.sIx xs.length xs.length (some (-1)) = xs.length - 1 := by
    show (if (-1 : Int) < 0 then ((-1 : Int) + (xs.length : Int)).toNat else min (-1 : Int).toNat xs.length) = _
    rw [if_pos (by decide)]
    omega
  rw [e, List.dropLast_eq_take]
theorem atI_end {α : Type} {xs : List α} (h : xs ≠ []) : L2.atI xs (-1) = some (xs.getLast h) := by
  have e : xs = xs.dropLast ++ [xs.getLast h] := (List.dropLast_concat_getLast h).symm
  have := L2.atI_last xs.dropLast (xs.getLast h)
  rw [← e] at this
  exact this
theorem zL_len (xs : List Nat) : (zL xs).length = xs.length := by unfold zL; rw [List.length_map]
theorem atI_zL {xs : List Nat} {k : Nat} (h : k < xs.length) : L2.atI (zL xs) (k : Int) = some ((xs[k] : Nat) : Int) := by
  rw [atI_nat' (by rw [zL_len]; exact h)]
  unfold zL
  rw [List.getElem_map]
theorem atI_zLend {xs : List Nat} (h : xs ≠ []) : L2.atI (zL xs) (-1) = some ((xs.getLast h : Nat) : Int) := by
  have h' : zL xs ≠ [] := fun e => h (by unfold zL at e; exact List.map_eq_nil_iff.mp e)
  rw [atI_end h']
  exact congrArg some (List.getLast_map (f := fun (n : Nat) => (n : Int)) (l := xs) h')
theorem mem_zL {xs : List Nat} {x : Int} (h : x ∈ zL xs) : ∃ k, k ∈ xs ∧ x = (k : Int) := by
  unfold zL at h
  rw [List.mem_map] at h
  obtain ⟨k, h1, h2⟩ := h
  exact ⟨k, h1, h2.symm⟩
theorem zL_of {xs : List Int} {N : Nat} (h : ∀ x ∈ xs, ∃ k : Nat, k < N ∧ x = (k : Int)) : ∃ ws : List Nat, (∀ w ∈ ws, w < N) ∧ xs = zL ws := by
  induction xs with
  | nil => exact ⟨[], fun _ h => (by cases h), rfl⟩
  | cons x xs ih =>
    obtain ⟨k, hk, rfl⟩ := h x List.mem_cons_self
    obtain ⟨ws, h1, rfl⟩ := ih fun y hy => h y (List.mem_cons_of_mem _ hy)
    refine ⟨k :: ws, fun w hw => ?_, rfl⟩
    rcases List.mem_cons.mp hw with rfl | hw
    · exact hk
    · exact h1 w hw
/-! ### loops that ask -/
theorem forR_allL {α ρ : Type} {body : α → Unit → Option (Unit ⊕ ρ)} {v : ρ} (p : α → Bool) : ∀ {xs : List α}, (∀ x ∈ xs, body x () = some (if p x = true then .inl () else .inr v)) →
    forR body xs () = some (if xs.all p = true then .inl () else .inr v)
  | [], _ => by rw [forR_nil]; rfl
  | x :: xs, h => by
    rw [forR_cons, h x List.mem_cons_self, List.all_cons]
    cases p x with
    | false => rfl
    | true =>
      show forR body xs () = _
      rw [forR_allL p fun y hy => h y (List.mem_cons_of_mem _ hy)]
      rw [Bool.true_and]
theorem brk_if {ρ : Type} {b : Bool} {v : ρ} {k : Unit → Option ρ} : brk (some (if b = true then Sum.inl () else Sum.inr v)) k = if b = true then k () else some v := by
  cases b <;> rfl
theorem brk_eq {σ ρ : Type} {m n : Option (σ ⊕ ρ)} {k : σ → Option ρ} (h : m = n) : brk m k = brk n k := by rw [h]
theorem comp_map {α β : Type} {xs : List α} {f : α → Option (Option β)} {g : α → β} (hl : xs.length ≤ 16777216) (h : ∀ x ∈ xs, f x = some (some (g x))) : compO f xs = some (xs.map g) := by
  rw [compO_eq (g := fun x => some (g x)) hl h]
  congr 1
  clear h hl
  induction xs with
  | nil => rfl
  | cons x xs ih => rw [List.filterMap_cons, ih]; rfl
theorem tb_shr (a k : Nat) : decide (band (shr (a : Int) (k : Int)) 1 = 0) = !a.testBit k := by
  have h := asks1 a k
  have e : ∀ x : Nat, decide (((x &&& 1 : Nat) : Int) = 0) = !decide (((x &&& 1 : Nat) : Int) = 1) := fun x => by
    have : x &&& 1 = x % 2 := Nat.and_one_is_mod x
    rw [this, ← decide_not]
    exact decide_eq_decide.mpr (by omega)
  have o1 : ((1 : Nat) : Int) = 1 := rfl
  rw [shr_nat, ← o1, band_nat, o1] at h
  rw [shr_nat, ← o1, band_nat, e, h]
theorem tb_div (a k : Nat) : ((a : Int) / ((2 ^ k : Nat) : Int)) % 2 = if a.testBit k = true then 1 else 0 := by
  have e : ((a : Int) / ((2 ^ k : Nat) : Int)) % 2 = ((a / 2 ^ k % 2 : Nat) : Int) := by omega
  rw [e, Nat.testBit_eq_decide_div_mod_eq]
  by_cases h : a / 2 ^ k % 2 = 1
  · rw [h, if_pos (by rw [decide_eq_true rfl])]; rfl
  · rw [if_neg (by rw [decide_eq_false h]; exact Bool.false_ne_true)]; omega
theorem tb_div0 (a k : Nat) : decide (((a : Int) / ((2 ^ k : Nat) : Int)) % 2 = 0) = !a.testBit k := by rw [tb_div]; cases a.testBit k <;> rfl
theorem tb_div1 (a k : Nat) : decide (((a : Int) / ((2 ^ k : Nat) : Int)) % 2 = 1) = a.testBit k := by rw [tb_div]; cases a.testBit k <;> rfl
theorem pow_200 {k : Nat} (h : k < 200) : 2 ^ k < 2 ^ 200 := pow_lt2 h
theorem bitsL_pow {n k : Nat} (h : k < n) : bitsL n (2 ^ k) = [k] := by
  have := bitsL_cons (n := n) (c := 2 ^ k) h (by rw [Nat.testBit_two_pow, decide_eq_true rfl]) fun i hi => by rw [Nat.testBit_two_pow, decide_eq_false (by omega)]
  rw [this, Nat.xor_self, bitsL_zero]
theorem orAll_one (f : Nat → Nat) (k : Nat) : orAll f [k] = f k := Nat.or_zero _
theorem fup_lt {n N : Nat} {f : Nat → Nat} {k v : Nat} (hf : ∀ s, s < n → f s < N) (hv : v < N) : ∀ s, s < n → fup f k v s < N := fun s hs => by
  unfold fup
  by_cases e : s = k
  · rw [if_pos e]; exact hv
  · rw [if_neg e]; exact hf s hs
theorem andn_lt {m a b : Nat} (h : a < 2 ^ m) : andn a b < 2 ^ m := by
  unfold andn
  exact xor_lt h (Nat.lt_of_le_of_lt Nat.and_le_left h)
/-! ### how many bits -/
def cnt : Nat → Nat → Nat
  | 0, _ => 0
  | n + 1, c => cnt n c + if c.testBit n = true then 1 else 0
theorem cnt_le : ∀ (n c : Nat), cnt n c ≤ n
  | 0, _ => Nat.le_refl _
  | n + 1, c => by
    have := cnt_le n c
    unfold cnt
    split <;> omega
theorem cnt_mono {a b : Nat} (h : ∀ i, a.testBit i = true → b.testBit i = true) : ∀ n, cnt n a ≤ cnt n b
  | 0 => Nat.le_refl _
  | n + 1 => by
    have := cnt_mono h n
    unfold cnt
    by_cases q : a.testBit n = true
    · rw [if_pos q, if_pos (h n q)]; omega
    · rw [if_neg q]; split <;> omega
theorem cnt_lt {a b : Nat} (h : ∀ i, a.testBit i = true → b.testBit i = true) {k : Nat} (ka : a.testBit k = false) (kb : b.testBit k = true) : ∀ n, k < n → cnt n a < cnt n b
  | 0, hk => by omega
  | n + 1, hk => by
    unfold cnt
    by_cases e : k = n
    · subst e
      have := cnt_mono h k
      rw [if_neg (by rw [ka]; exact Bool.false_ne_true), if_pos kb]; omega
    · have := cnt_lt h ka kb n (by omega)
      by_cases q : a.testBit n = true
      · rw [if_pos q, if_pos (h n q)]; omega
      · rw [if_neg q]; split <;> omega
theorem cnt_grow {n a b : Nat} (hb : b < 2 ^ n) (h : ∀ i, a.testBit i = true → b.testBit i = true) (ne : b ≠ a) : cnt n a < cnt n b := by
  have : ∃ k, a.testBit k = false ∧ b.testBit k = true := Classical.byContradiction fun hn => ne (Nat.eq_of_testBit_eq fun i => by
    cases ea : a.testBit i with
    | true => exact h i ea
    | false =>
      cases eb : b.testBit i with
      | false => rfl
      | true => exact absurd ⟨i, ea, eb⟩ hn)
  obtain ⟨k, k1, k2⟩ := this
  exact cnt_lt h k1 k2 n (tb_lt hb k2)
/-! ### the flood, layer by layer -/
/-- a crowd and all to which a step leads from it -/
def nxt (n : Nat) (f : Nat → Nat) (c : Nat) : Nat := c ||| orAll f (bitsL n c)
theorem nxt_lt {n N : Nat} {f : Nat → Nat} (hf : ∀ s, s < n → f s < 2 ^ N) {c : Nat} (hc : c < 2 ^ N) : nxt n f c < 2 ^ N := Nat.or_lt_two_pow hc (orAll_lt fun x hx => hf x (mem_bitsL.mp hx).1)
theorem nxt_sub (n : Nat) (f : Nat → Nat) (c i : Nat) (h : c.testBit i = true) : (nxt n f c).testBit i = true := by
  unfold nxt
  rw [Nat.testBit_or, h]; rfl
def layF (n : Nat) (f : Nat → Nat) : Nat → Nat → List Nat
  | 0, c => [c]
  | k + 1, c => if nxt n f c = c then [c] else c :: layF n f k (nxt n f c)
/-- layers -/
def Lay (n : Nat) (f : Nat → Nat) : List Nat → Prop
  | [] => False
  | [c] => nxt n f c = c
  | c :: d :: l => d = nxt n f c ∧ d ≠ c ∧ Lay n f (d :: l)
theorem layF_head (n : Nat) (f : Nat → Nat) (k c : Nat) : ∃ l, layF n f k c = c :: l := by
  cases k with
  | zero => exact ⟨[], rfl⟩
  | succ k =>
    unfold layF
    split
    · exact ⟨[], rfl⟩
    · exact ⟨_, rfl⟩
theorem layF_lay {n : Nat} {f : Nat → Nat} (hf : ∀ s, s < n → f s < 2 ^ n) : ∀ (k c : Nat), c < 2 ^ n → n < cnt n c + k → Lay n f (layF n f k c)
  | 0, c, _, hk => by have := cnt_le n c; omega
  | k + 1, c, hc, hk => by
    unfold layF
    by_cases e : nxt n f c = c
    · rw [if_pos e]; exact e
    · rw [if_neg e]
      have hl := nxt_lt hf hc
      have g := cnt_grow hl (nxt_sub n f c) e
      obtain ⟨l, el⟩ := layF_head n f k (nxt n f c)
      have ih := layF_lay hf k (nxt n f c) hl (by omega)
      rw [el] at ih ⊢
      exact ⟨rfl, e, ih⟩
theorem layF_lt {n : Nat} {f : Nat → Nat} (hf : ∀ s, s < n → f s < 2 ^ n) : ∀ (k c : Nat), c < 2 ^ n → ∀ x ∈ layF n f k c, x < 2 ^ n
  | 0, c, hc, x, hx => by rw [List.mem_singleton.mp hx]; exact hc
  | k + 1, c, hc, x, hx => by
    unfold layF at hx
    split at hx
    · rw [List.mem_singleton.mp hx]; exact hc
    · rcases List.mem_cons.mp hx with rfl | hx
      · exact hc
      · exact layF_lt hf k _ (nxt_lt hf hc) x hx
theorem layF_len (n : Nat) (f : Nat → Nat) : ∀ (k c : Nat), (layF n f k c).length ≤ k + 1
  | 0, c => Nat.le_refl _
  | k + 1, c => by
    have := layF_len n f k (nxt n f c)
    unfold layF
    split
    · show 1 ≤ _; omega
    · rw [List.length_cons]; omega
theorem Lay.at {n : Nat} {f : Nat → Nat} : ∀ {L : List Nat}, Lay n f L → ∀ k, (h : k + 1 < L.length) → L[k + 1] = nxt n f L[k] ∧ L[k + 1] ≠ L[k]
  | [], h, _, _ => h.elim
  | [c], _, k, h => by simp at h
  | c :: d :: l, h, 0, _ => ⟨h.1, h.2.1⟩
  | c :: d :: l, h, k + 1, hk => Lay.at (L := d :: l) h.2.2 k (by simpa using hk)
theorem Lay.last {n : Nat} {f : Nat → Nat} : ∀ {L : List Nat}, Lay n f L → (hn : L ≠ []) → nxt n f (L.getLast hn) = L.getLast hn
  | [], h, _ => h.elim
  | [c], h, _ => h
  | c :: d :: l, h, _ => by
    rw [List.getLast_cons_cons]
    exact Lay.last (L := d :: l) h.2.2 _
theorem zL_tab (ws : List Nat) : zL ws = tab ws.length fun i => ws.getD i 0 := by
  apply List.ext_getElem?
  intro i
  by_cases hi : i < ws.length
  · have g : ws.getD i 0 = ws[i] := by rw [List.getD_eq_getElem?_getD, List.getElem?_eq_getElem hi]; rfl
    rw [tab_get hi, g]
    unfold zL
    rw [List.getElem?_map, List.getElem?_eq_getElem hi]; rfl
  · rw [List.getElem?_eq_none (by rw [zL_len]; omega), List.getElem?_eq_none (by rw [tab_len]; omega)]
theorem tab_of {xs : List Int} {n N : Nat} (hl : xs.length = n) (h : ∀ x ∈ xs, ∃ k : Nat, k < N ∧ x = (k : Int)) : ∃ f : Nat → Nat, (∀ s, s < n → f s < N) ∧ xs = tab n f := by
  obtain ⟨ws, h1, rfl⟩ := zL_of h
  rw [zL_len] at hl
  subst hl
  refine ⟨fun i => ws.getD i 0, fun s hs => ?_, zL_tab ws⟩
  show ws.getD s 0 < N
  rw [List.getD_eq_getElem?_getD, List.getElem?_eq_getElem hs]
  exact h1 _ (List.getElem_mem hs)
/-! ### ranges with a step -/
theorem rsize_le {i j c : Int} (h : 0 < c) : Builtin.Range.rangeSize i j c ≤ (if i < j then j - i else 0) := by
  unfold Builtin.Range.rangeSize
  rw [if_pos h]
  split
  · have : (j - i - 1) / c ≤ j - i - 1 := Int.ediv_le_self _ (by omega)
    omega
  · omega
theorem gR3_of {i j c : Int} (h1 : 0 ≤ i) (h2 : i ≤ 1000000) (h3 : 0 ≤ j) (h4 : j ≤ 1000000) (h5 : 0 < c) (h6 : c ≤ 1000000) : gR3 i j c := by
  refine ⟨h5, by omega, ?_⟩
  have a := rsize_nn (i := i) (j := j) h5
  have b := rsize_le (i := i) (j := j) h5
  unfold Builtin.Range.small
  obtain ⟨n, hn⟩ : ∃ n, n = Builtin.Range.rangeSize i j c := ⟨_, rfl⟩
  rw [← hn] at a b ⊢
  have hb : n ≤ 1000000 := by split at b <;> omega
  rw [if_pos (show c > 0 from h5)]
  simp only [Builtin.Range.rangeFitsLong, Bool.and_eq_true, Bool.or_eq_true, decide_eq_true_eq, beq_iff_eq]
  exact ⟨by omega, .inr (by omega)⟩
theorem mem_rangeS {i j c x : Int} (hc : 0 < c) (h : x ∈ rangeS i j c) : i ≤ x ∧ x < j := by
  unfold rangeS at h
  rw [List.mem_map] at h
  obtain ⟨k, hk, rfl⟩ := h
  rw [List.mem_range] at hk
  have h0 := Int.mul_nonneg (show (0 : Int) ≤ (k : Int) by omega) (show (0 : Int) ≤ c by omega)
  refine ⟨by omega, ?_⟩
  unfold Builtin.Range.rangeSize at hk
  rw [if_pos hc] at hk
  split at hk
  · have h1 : (k : Int) ≤ (j - i - 1) / c := by omega
    have h2 := (Int.le_ediv_iff_mul_le hc).mp h1
    omega
  · simp at hk
/-! ### floods by steps -/
theorem nodup_len : ∀ (n : Nat) (Q : List Nat), Q.Nodup → (∀ x ∈ Q, x < n) → Q.length ≤ n
  | 0, Q, _, h => by
    cases Q with
    | nil => exact Nat.le_refl _
    | cons x xs => exact absurd (h x List.mem_cons_self) (by omega)
  | n + 1, Q, hd, h => by
    have h2 := nodup_len n (Q.erase n) (hd.erase n) fun x hx => by
      have := (hd.mem_erase_iff).mp hx
      have := h x this.2
      omega
    have : Q.length ≤ (Q.erase n).length + 1 := by
      rw [List.length_erase]
      split <;> omega
    omega
def itN (n : Nat) (f : Nat → Nat) (st : Nat) : Nat → Nat
  | 0 => st
  | k + 1 => nxt n f (itN n f st k)
theorem itN_lt {n : Nat} {f : Nat → Nat} (hf : ∀ s, s < n → f s < 2 ^ n) {st : Nat} (h : st < 2 ^ n) : ∀ k, itN n f st k < 2 ^ n
  | 0 => h
  | k + 1 => nxt_lt hf (itN_lt hf h k)
theorem itN_sub {n : Nat} {f : Nat → Nat} {st : Nat} {t : Nat} : ∀ {j k : Nat}, j ≤ k → (itN n f st j).testBit t = true → (itN n f st k).testBit t = true := by
  intro j k h ht
  induction k with
  | zero => rw [show j = 0 by omega] at ht; exact ht
  | succ k ih =>
    by_cases e : j = k + 1
    · rw [← e]; exact ht
    · exact nxt_sub _ _ _ _ (ih (by omega))
theorem nxt_iff {n : Nat} {f : Nat → Nat} {c t : Nat} : (nxt n f c).testBit t = true ↔ c.testBit t = true ∨ ∃ u, u < n ∧ c.testBit u = true ∧ (f u).testBit t = true := by
  unfold nxt
  rw [Nat.testBit_or, testBit_orAll, Bool.or_eq_true, List.any_eq_true]
  constructor
  · intro h
    rcases h with h | ⟨u, h1, h2⟩
    · exact .inl h
    · obtain ⟨a, b⟩ := mem_bitsL.mp h1
      exact .inr ⟨u, a, b, h2⟩
  · intro h
    rcases h with h | ⟨u, h1, h2, h3⟩
    · exact .inl h
    · exact .inr ⟨u, mem_bitsL.mpr ⟨h1, h2⟩, h3⟩
theorem Lay.it {n : Nat} {f : Nat → Nat} {st : Nat} {L : List Nat} (h : Lay n f L) (h0 : ∃ l, L = st :: l) : ∀ i, (hi : i < L.length) → L[i] = itN n f st i
  | 0, hi => by obtain ⟨l, rfl⟩ := h0; rfl
  | i + 1, hi => by
    rw [(h.at i hi).1, Lay.it h h0 i (by omega)]; rfl
theorem Lay.end {n : Nat} {f : Nat → Nat} {st : Nat} {L : List Nat} (h : Lay n f L) (h0 : ∃ l, L = st :: l) (hne : L ≠ []) : ∀ k, L.length ≤ k + 1 → itN n f st k = L.getLast hne := by
  intro k
  induction k with
  | zero =>
    intro hk
    obtain ⟨l, rfl⟩ := h0
    have : l = [] := by
      cases l with
      | nil => rfl
      | cons a b => simp at hk
    subst this; rfl
  | succ k ih =>
    intro hk
    by_cases e : L.length ≤ k + 1
    · show nxt n f (itN n f st k) = _
      rw [ih e]; exact h.last hne
    · have e2 : L.length = k + 2 := by omega
      rw [List.getLast_eq_getElem, ← Lay.it h h0 (k + 1) (by omega)]
      congr 1
      omega
end B

namespace B
open PySem Z
/-! ### what an answer is wanted for, from the front -/
section
variable {α β σ ρ : Type} {A : β → Prop}
theorem W.bind {m : Option α} {k : α → Option β} {P : α → Prop} (h : OP m P) (hk : ∀ x, P x → OP (k x) A) : OP (m.bind k) A := by
  obtain ⟨x, rfl, hx⟩ := OP.get h
  exact hk x hx
theorem W.eq {m : Option α} {a : α} {k : α → Option β} (h : m = some a) (hk : OP (k a) A) : OP (m.bind k) A := by rw [h]; exact hk
theorem W.grd {c : Prop} {_ : Decidable c} {k : Option β} (h : c) (hk : OP k A) : OP (Z.grd c k) A := by rw [grd_of h]; exact hk
theorem W.lt {e : α} {k : α → Option β} (hk : OP (k e) A) : OP (Z.lt e k) A := hk
theorem W.ltx {e : α} {k : α → Option β} (hk : ∀ x, x = e → OP (k x) A) : OP (Z.lt e k) A := hk e rfl
theorem W.ite {c : Bool} {m n : Option β} (h1 : c = true → OP m A) (h2 : c = false → OP n A) : OP (ifo c m n) A := by
  cases c with
  | true => rw [ifo_t rfl]; exact h1 rfl
  | false => rw [ifo_f rfl]; exact h2 rfl
theorem W.t {c : Bool} {m n : Option β} (hc : c = true) (h : OP m A) : OP (ifo c m n) A := by rw [ifo_t hc]; exact h
theorem W.f {c : Bool} {m n : Option β} (hc : c = false) (h : OP n A) : OP (ifo c m n) A := by rw [ifo_f hc]; exact h
theorem W.ret {a : β} (h : A a) : OP (some a) A := h
theorem W.as {m : Option β} {P : β → Prop} (h : OP m P) (hk : ∀ x, P x → A x) : OP m A := h.mono hk
theorem W.got {m : Option β} {a : β} (h : OP m (· = a)) : m = some a := by
  obtain ⟨x, rfl, e⟩ := OP.get h
  rw [e]
theorem W.of {m : Option β} {a : β} (e : m = some a) (h : A a) : OP m A := OP.mk e h
theorem W.brk {m : Option (σ ⊕ β)} {k : σ → Option β} {P : σ → Prop} (h : OP m (SE P A)) (hk : ∀ s, P s → OP (k s) A) : OP (Z.brk m k) A := by
  obtain ⟨x, rfl, hx⟩ := OP.get h
  cases x with
  | inl s => exact hk s hx
  | inr v => exact hx
/-! loops -/
theorem W.for_inv {body : α → σ → Option σ} (I : σ → Prop) : ∀ {xs : List α} {s : σ}, I s → (∀ x ∈ xs, ∀ s, I s → OP (body x s) I) → OP (forO body xs s) I
  | [], s, h, _ => by rw [forO_nil]; exact h
  | x :: xs, s, h, hs => by
    rw [forO_cons]
    exact W.bind (hs x List.mem_cons_self s h) fun s' h' => W.for_inv I h' fun y hy => hs y (List.mem_cons_of_mem _ hy)
theorem W.for_pre {body : α → σ → Option σ} (I : List α → σ → Prop) {xs : List α} {s : σ} (h : I [] s) (hs : ∀ pre x suf s, xs = pre ++ x :: suf → I pre s → OP (body x s) (I (pre ++ [x]))) : OP (forO body xs s) (I xs) := by
  have key : ∀ (suf pre : List α) (s : σ), xs = pre ++ suf → I pre s → OP (forO body suf s) (I xs) := by
    intro suf
    induction suf with
    | nil => intro pre s e h; rw [forO_nil]; rw [e, List.append_nil]; exact h
    | cons x suf ih =>
      intro pre s e h
      rw [forO_cons]
      exact W.bind (hs pre x suf s e h) fun s' h' => ih (pre ++ [x]) s' (by rw [List.append_assoc]; exact e) h'
  exact key xs [] s rfl h
theorem W.for_rng {body : Int → σ → Option σ} (I : Nat → σ → Prop) : ∀ {n a : Nat} {s : σ}, I a s → (∀ i s, a ≤ i → i < a + n → I i s → OP (body (i : Int) s) (I (i + 1))) → OP (forO body (rangeI (a : Int) n) s) (I (a + n))
  | 0, a, s, h, _ => by rw [rangeI_zero, forO_nil]; exact h
  | n + 1, a, s, h, hs => by
    rw [rangeI_succ, forO_cons]
    refine W.bind (hs a s (Nat.le_refl _) (by omega) h) fun s' h' => ?_
    have := W.for_rng (body := body) I (n := n) (a := a + 1) h' fun i s h1 h2 => hs i s (by omega) (by omega)
    rw [show ((a : Int) + 1) = ((a + 1 : Nat) : Int) by omega, show a + (n + 1) = a + 1 + n by omega]
    exact this
theorem W.for_r {body : Int → σ → Option σ} (I : Nat → σ → Prop) {n : Nat} {s : σ} (h : I 0 s) (hs : ∀ i s, i < n → I i s → OP (body (i : Int) s) (I (i + 1))) : OP (forO body (rangeI 0 n) s) (I n) := by
  have := W.for_rng (body := body) I (n := n) (a := 0) h fun i s _ h2 => hs i s (by omega)
  rw [Nat.zero_add] at this
  exact this
theorem W.for_tab {body : Int → σ → Option σ} {f : Nat → Nat} (I : Nat → σ → Prop) {n : Nat} {s : σ} (h : I 0 s) (hs : ∀ i s, i < n → I i s → OP (body ((f i : Nat) : Int) s) (I (i + 1))) : OP (forO body (tab n f) s) (I n) := by
  obtain ⟨s', e, h'⟩ := forO_map (g := fun i => ((f i : Nat) : Int)) I n s h fun i s hi hI => by
    obtain ⟨x, e, hx⟩ := OP.get (hs i s hi hI)
    exact ⟨x, e, hx⟩
  exact OP.mk e h'
theorem W.for_map {body : α → σ → Option σ} {g : Nat → α} (I : Nat → σ → Prop) {n : Nat} {s : σ} (h : I 0 s) (hs : ∀ i s, i < n → I i s → OP (body (g i) s) (I (i + 1))) : OP (forO body ((List.range n).map g) s) (I n) := by
  obtain ⟨s', e, h'⟩ := forO_map (g := g) I n s h fun i s hi hI => by
    obtain ⟨x, e, hx⟩ := OP.get (hs i s hi hI)
    exact ⟨x, e, hx⟩
  exact OP.mk e h'
theorem W.forR_inv {body : α → σ → Option (σ ⊕ ρ)} (I : σ → Prop) (V : ρ → Prop) : ∀ {xs : List α} {s : σ}, I s → (∀ x ∈ xs, ∀ s, I s → OP (body x s) (SE I V)) → OP (forR body xs s) (SE I V)
  | [], s, h, _ => by rw [forR_nil]; exact h
  | x :: xs, s, h, hs => by
    rw [forR_cons]
    refine W.bind (hs x List.mem_cons_self s h) fun r hr => ?_
    cases r with
    | inl s' => exact W.forR_inv I V hr fun y hy => hs y (List.mem_cons_of_mem _ hy)
    | inr v => exact hr
theorem W.forR_pre {body : α → σ → Option (σ ⊕ ρ)} (I : List α → σ → Prop) (V : ρ → Prop) {xs : List α} {s : σ} (h : I [] s) (hs : ∀ pre x suf s, xs = pre ++ x :: suf → I pre s → OP (body x s) (SE (I (pre ++ [x])) V)) : OP (forR body xs s) (SE (I xs) V) := by
  have key : ∀ (suf pre : List α) (s : σ), xs = pre ++ suf → I pre s → OP (forR body suf s) (SE (I xs) V) := by
    intro suf
    induction suf with
    | nil => intro pre s e h; rw [forR_nil]; rw [e, List.append_nil]; exact h
    | cons x suf ih =>
      intro pre s e h
      rw [forR_cons]
      refine W.bind (hs pre x suf s e h) fun r hr => ?_
      cases r with
      | inl s' => exact ih (pre ++ [x]) s' (by rw [List.append_assoc]; exact e) hr
      | inr v => exact hr
  exact key xs [] s rfl h
theorem W.forR_rng {body : Int → σ → Option (σ ⊕ ρ)} (I : Nat → σ → Prop) (V : ρ → Prop) : ∀ {n a : Nat} {s : σ}, I a s → (∀ i s, a ≤ i → i < a + n → I i s → OP (body (i : Int) s) (SE (I (i + 1)) V)) → OP (forR body (rangeI (a : Int) n) s) (SE (I (a + n)) V)
  | 0, a, s, h, _ => by rw [rangeI_zero, forR_nil]; exact h
  | n + 1, a, s, h, hs => by
    rw [rangeI_succ, forR_cons]
    refine W.bind (hs a s (Nat.le_refl _) (by omega) h) fun r hr => ?_
    cases r with
    | inl s' =>
      have := W.forR_rng (body := body) I V (n := n) (a := a + 1) hr fun i s h1 h2 => hs i s (by omega) (by omega)
      rw [show ((a : Int) + 1) = ((a + 1 : Nat) : Int) by omega, show a + (n + 1) = a + 1 + n by omega]
      exact this
    | inr v => exact hr
theorem W.forR_r {body : Int → σ → Option (σ ⊕ ρ)} (I : Nat → σ → Prop) (V : ρ → Prop) {n : Nat} {s : σ} (h : I 0 s) (hs : ∀ i s, i < n → I i s → OP (body (i : Int) s) (SE (I (i + 1)) V)) : OP (forR body (rangeI 0 n) s) (SE (I n) V) := by
  have := W.forR_rng (body := body) I V (n := n) (a := 0) h fun i s _ h2 => hs i s (by omega)
  rw [Nat.zero_add] at this
  exact this
theorem W.forR_map {body : α → σ → Option (σ ⊕ ρ)} {g : Nat → α} (I : Nat → σ → Prop) (V : ρ → Prop) {n : Nat} {s : σ} (h : I 0 s) (hs : ∀ i s, i < n → I i s → OP (body (g i) s) (SE (I (i + 1)) V)) : OP (forR body ((List.range n).map g) s) (SE (I n) V) := by
  have key : ∀ (n a : Nat) (s : σ), I a s → (∀ i s, a ≤ i → i < a + n → I i s → OP (body (g i) s) (SE (I (i + 1)) V)) → OP (forR body ((List.range' a n).map g) s) (SE (I (a + n)) V) := by
    intro n
    induction n with
    | zero => intro a s h _; rw [List.range'_zero, List.map_nil, forR_nil]; exact h
    | succ n ih =>
      intro a s h hs
      rw [List.range'_succ, List.map_cons, forR_cons]
      refine W.bind (hs a s (Nat.le_refl _) (by omega) h) fun r hr => ?_
      cases r with
      | inl s' =>
        have := ih (a + 1) s' hr fun i s h1 h2 => hs i s (by omega) (by omega)
        rw [show a + (n + 1) = a + 1 + n by omega]
        exact this
      | inr v => exact hr
  have := key n 0 s h fun i s _ h2 => hs i s (by omega)
  rw [Nat.zero_add] at this
  rw [List.range_eq_range']
  exact this
/-- a while, by a measure -/
theorem W.while' {c : σ → Option Bool} {body : σ → Option σ} (I : σ → Prop) (μ : σ → Nat) (P : σ → Prop) : ∀ {fuel : Nat} {s : σ}, I s → μ s < fuel → (∀ s, I s → OP (c s) fun b => (b = true → OP (body s) fun s' => I s' ∧ μ s' < μ s) ∧ (b = false → P s)) → OP (whileO c body fuel s) P
  | 0, s, _, hm, _ => by omega
  | f + 1, s, h, hm, hs => by
    rw [whileO_succ]
    refine W.bind (hs s h) fun b hb => ?_
    cases b with
    | true =>
      rw [if_pos rfl]
      exact W.bind (hb.1 rfl) fun s' h' => W.while' I μ P h'.1 (by omega) hs
    | false =>
      rw [if_neg Bool.false_ne_true]
      exact hb.2 rfl
theorem W.whileR' {c : σ → Option Bool} {body : σ → Option (σ ⊕ ρ)} (I : σ → Prop) (μ : σ → Nat) (P : σ → Prop) (V : ρ → Prop) : ∀ {fuel : Nat} {s : σ}, I s → μ s < fuel → (∀ s, I s → OP (c s) fun b => (b = true → OP (body s) (SE (fun s' => I s' ∧ μ s' < μ s) V)) ∧ (b = false → P s)) → OP (whileR c body fuel s) (SE P V)
  | 0, s, _, hm, _ => by omega
  | f + 1, s, h, hm, hs => by
    rw [whileR_succ]
    refine W.bind (hs s h) fun b hb => ?_
    cases b with
    | true =>
      rw [if_pos rfl]
      refine W.bind (hb.1 rfl) fun r hr => ?_
      cases r with
      | inl s' => exact W.whileR' I μ P V hr.1 (by have := hr.2; omega) hs
      | inr v => exact hr
    | false =>
      rw [if_neg Bool.false_ne_true]
      exact hb.2 rfl
theorem W.while {c : σ → Option Bool} {body : σ → Option σ} (I : σ → Prop) (μ : σ → Nat) (P : σ → Prop) {s : σ} (h : I s) (hm : μ s < 1000000) (hs : ∀ s, I s → OP (c s) fun b => (b = true → OP (body s) fun s' => I s' ∧ μ s' < μ s) ∧ (b = false → P s)) : OP (whileO c body bigN s) P := W.while' I μ P h (by rw [bigN_eq']; exact hm) hs
theorem W.whileR {c : σ → Option Bool} {body : σ → Option (σ ⊕ ρ)} (I : σ → Prop) (μ : σ → Nat) (P : σ → Prop) (V : ρ → Prop) {s : σ} (h : I s) (hm : μ s < 1000000) (hs : ∀ s, I s → OP (c s) fun b => (b = true → OP (body s) (SE (fun s' => I s' ∧ μ s' < μ s) V)) ∧ (b = false → P s)) : OP (whileR c body bigN s) (SE P V) := W.whileR' I μ P V h (by rw [bigN_eq']; exact hm) hs
/-- a comprehension -/
theorem W.comp [Inhabited β] {f : α → Option (Option β)} {xs : List α} (P : α → β → Prop) (hl : xs.length ≤ 16777216) (h : ∀ x ∈ xs, OP (f x) fun r => ∃ y, r = some y ∧ P x y) : OP (compO f xs) fun ys => ∃ g : α → β, ys = xs.map g ∧ ∀ x ∈ xs, P x (g x) := by
  have : ∀ x : α, ∃ y : β, x ∈ xs → f x = some (some y) ∧ P x y := fun x => by
    by_cases hx : x ∈ xs
    · obtain ⟨r, e, y, rfl, hy⟩ := OP.get (h x hx)
      exact ⟨y, fun _ => ⟨e, hy⟩⟩
    · exact ⟨default, fun q => absurd q hx⟩
  obtain ⟨g, hg⟩ := Classical.axiomOfChoice this
  exact OP.mk (comp_map (g := g) hl fun x hx => (hg x hx).1) ⟨g, rfl, fun x hx => (hg x hx).2⟩
end
theorem comp_map2 {α β γ : Type} {xs : List γ} {h : γ → α} {f : α → Option (Option β)} {g : γ → β} (hl : xs.length ≤ 16777216) (hf : ∀ x ∈ xs, f (h x) = some (some (g x))) : compO f (xs.map h) = some (xs.map g) := by
  have key : ∀ ys : List γ, (∀ x ∈ ys, f (h x) = some (some (g x))) → compO' f (ys.map h) = some (ys.map g) := by
    intro ys
    induction ys with
    | nil => intro _; rfl
    | cons y ys ih =>
      intro hy
      rw [List.map_cons, List.map_cons]
      unfold compO'
      rw [hy y List.mem_cons_self, ih fun z hz => hy z (List.mem_cons_of_mem _ hz)]
      rfl
  unfold compO
  rw [if_pos (by rw [List.length_map]; exact hl)]
  exact key xs hf
theorem mask_eq' {n : Nat} {p : Nat → Bool} {x : Nat} (hx : x < 2 ^ n) (h : ∀ i, i < n → x.testBit i = p i) : mask n p = x := (mask_ext hx h).symm
/-! ### whole numbers within bounds -/
def In (x N : Int) : Prop := 0 ≤ x ∧ x < N
theorem In.nat {x : Int} {N : Nat} (h : In x (N : Int)) : ∃ k : Nat, k < N ∧ x = (k : Int) := ⟨x.toNat, by have := h.1; have := h.2; omega, by have := h.1; omega⟩
theorem In.of {k N : Nat} (h : k < N) : In (k : Int) (N : Int) := ⟨by omega, by omega⟩
theorem In.zero {N : Nat} (h : 0 < N) : In 0 (N : Int) := ⟨by omega, by omega⟩
theorem In.emod {v : Int} {N : Nat} (h : 0 < N) : In (v % (N : Int)) (N : Int) := ⟨Int.emod_nonneg v (by omega), Int.emod_lt_of_pos v (by omega)⟩
theorem In.emod' {v N : Int} (h : 0 < N) : In (v % N) N := ⟨Int.emod_nonneg v (by omega), Int.emod_lt_of_pos v (by omega)⟩
theorem In.shl1 {k : Int} {n : Nat} (h : In k (n : Int)) : In (shl 1 k) ((2 ^ n : Nat) : Int) := by
  obtain ⟨j, hj, rfl⟩ := h.nat
  rw [shl1_nat]
  exact In.of (pow_lt2 hj)
theorem In.bor {a b : Int} {n : Nat} (ha : In a ((2 ^ n : Nat) : Int)) (hb : In b ((2 ^ n : Nat) : Int)) : In (bor a b) ((2 ^ n : Nat) : Int) := by
  obtain ⟨j, hj, rfl⟩ := ha.nat
  obtain ⟨k, hk, rfl⟩ := hb.nat
  rw [bor_nat]
  exact In.of (Nat.or_lt_two_pow hj hk)
theorem In.bxor {a b : Int} {n : Nat} (ha : In a ((2 ^ n : Nat) : Int)) (hb : In b ((2 ^ n : Nat) : Int)) : In (bxor a b) ((2 ^ n : Nat) : Int) := by
  obtain ⟨j, hj, rfl⟩ := ha.nat
  obtain ⟨k, hk, rfl⟩ := hb.nat
  rw [bxor_nat]
  exact In.of (xor_lt hj hk)
theorem In.band {a b M N : Int} (ha : In a N) (hb : In b M) : In (band a b) N := by
  obtain ⟨j, rfl⟩ : ∃ j : Nat, a = (j : Int) := ⟨a.toNat, by have := ha.1; omega⟩
  obtain ⟨k, rfl⟩ : ∃ k : Nat, b = (k : Int) := ⟨b.toNat, by have := hb.1; omega⟩
  rw [band_nat]
  have : j &&& k ≤ j := Nat.and_le_left
  exact ⟨by omega, by have := ha.2; omega⟩
theorem In.bandn {a b M N : Int} (ha : In a N) (hb : In b M) : In (Z.band a (bnot b)) N := by
  obtain ⟨j, rfl⟩ : ∃ j : Nat, a = (j : Int) := ⟨a.toNat, by have := ha.1; omega⟩
  obtain ⟨k, rfl⟩ : ∃ k : Nat, b = (k : Int) := ⟨b.toNat, by have := hb.1; omega⟩
  rw [bandn_nat]
  have : andn j k ≤ j := by
    have h1 := nat_xor_and j (j &&& k)
    have h2 : j &&& (j &&& k) = j &&& k := by rw [← Nat.and_assoc, Nat.and_self]
    rw [h2] at h1
    have h3 : j &&& k ≤ j := Nat.and_le_left
    unfold andn
    omega
  exact ⟨by omega, by have := ha.2; omega⟩
theorem In.compl {a : Int} {n : Nat} (ha : In a ((2 ^ n : Nat) : Int)) : In (((2 ^ n : Nat) : Int) - 1 - a) ((2 ^ n : Nat) : Int) := ⟨by have := ha.2; omega, by have := ha.1; omega⟩
theorem In.full (n : Nat) : In (((2 ^ n : Nat) : Int) - 1) ((2 ^ n : Nat) : Int) := ⟨by have := Nat.two_pow_pos n; omega, by omega⟩
theorem In.tail {k : Int} {n : Nat} (h : In k (n : Int)) : In (((2 ^ n : Nat) : Int) - shl 1 k) ((2 ^ n : Nat) : Int) := by
  obtain ⟨j, hj, rfl⟩ := h.nat
  rw [shl1_nat]
  have := pow_lt2 hj
  have := Nat.two_pow_pos j
  exact ⟨by omega, by omega⟩
theorem In.le {x M N : Int} (h : In x M) (hl : M ≤ N) : In x N := ⟨h.1, by have := h.2; omega⟩
theorem gPow1I {x N : Int} (h : In x N) (hN : N ≤ 1000001) : gPow 1 x := ⟨h.1, by have := h.2; omega, by decide⟩
theorem gR_I {x N : Int} (h : In x N) (hN : N ≤ 2 ^ 62) : gR x := ⟨by have := h.1; omega, by have := h.2; omega⟩
end B

namespace B
open PySem Z
/-! ### tables of crowds, and steps that go by themselves -/
def Tb (m : Nat) (x : List Int) : Prop := ∃ f, x = tab (2 ^ m) f ∧ ∀ s, s < 2 ^ m → f s < 2 ^ 2 ^ m
theorem Tb.zero (m : Nat) : Tb m (tab (2 ^ m) fun _ => 0) := ⟨_, rfl, fun _ _ => Nat.two_pow_pos _⟩
theorem Tb.get {m : Nat} {x : List Int} {i : Int} (h : Tb m x) (hi : In i ((2 ^ m : Nat) : Int)) : ∃ v, L2.atI x i = some v ∧ In v ((2 ^ 2 ^ m : Nat) : Int) := by
  obtain ⟨f, rfl, hf⟩ := h
  obtain ⟨k, hk, rfl⟩ := hi.nat
  exact ⟨_, atI_tab hk, In.of (hf k hk)⟩
theorem Tb.set {m : Nat} {x : List Int} {i v : Int} (h : Tb m x) (hi : In i ((2 ^ m : Nat) : Int)) (hv : In v ((2 ^ 2 ^ m : Nat) : Int)) : ∃ y, setI x i v = some y ∧ Tb m y := by
  obtain ⟨f, rfl, hf⟩ := h
  obtain ⟨k, hk, rfl⟩ := hi.nat
  obtain ⟨c, hc, rfl⟩ := hv.nat
  exact ⟨_, setI_tab hk, _, rfl, fup_lt hf hc⟩
theorem Tb.len {m : Nat} {x : List Int} (h : Tb m x) : x.length = 2 ^ m := by obtain ⟨f, rfl, _⟩ := h; exact tab_len _ _
section
variable {β : Type} {A : β → Prop} {m : Nat} {x : List Int} {i v : Int}
theorem W.tget {k : Int → Option β} (h : Tb m x) (hi : In i ((2 ^ m : Nat) : Int)) (hk : ∀ v, In v ((2 ^ 2 ^ m : Nat) : Int) → OP (k v) A) : OP ((L2.atI x i).bind k) A := by
  obtain ⟨v, e, hv⟩ := h.get hi
  exact W.eq e (hk v hv)
theorem W.tset {k : List Int → Option β} (h : Tb m x) (hi : In i ((2 ^ m : Nat) : Int)) (hv : In v ((2 ^ 2 ^ m : Nat) : Int)) (hk : ∀ y, Tb m y → OP (k y) A) : OP ((setI x i v).bind k) A := by
  obtain ⟨y, e, hy⟩ := h.set hi hv
  exact W.eq e (hk y hy)
theorem W.some' {m : Option β} (h : OP m A) : OP (m.bind fun x => some x) A := W.bind h fun _ q => q
end
theorem gDivW2 {m : Nat} (hm : m ≤ 6) : gDivW ((2 ^ m : Nat) : Int) := gDivW_nat (Nat.two_pow_pos m) (by have := le64 hm; omega)
theorem pos2 (m : Nat) : (0 : Int) < ((2 ^ m : Nat) : Int) := by have := Nat.two_pow_pos m; omega
theorem gPow1_2 {m : Nat} (hm : m ≤ 6) : gPow 1 ((2 ^ m : Nat) : Int) := gPow1 (by have := le64 hm; omega)
theorem gR_2 {m : Nat} (hm : m ≤ 6) : gR ((2 ^ m : Nat) : Int) := gR_nat (by have := le64 hm; omega)
theorem In.band' {a b N : Int} (ha : In a N) (hb : 0 ≤ b) : In (Z.band a b) N := In.band (M := b + 1) ha ⟨hb, by omega⟩
theorem In.rest {a : Int} {m : Nat} {c : Nat} (h : In a ((2 ^ m : Nat) : Int)) (hc : c ≤ 64) (hm : 2 ^ m ≤ c) : In a (c : Int) := h.le (by omega)
theorem In.low {n : Nat} {v : Int} (h : 1 ≤ n) : In (v % 2) ((2 ^ n : Nat) : Int) := ⟨by omega, by have : 2 ^ 1 ≤ 2 ^ n := Nat.pow_le_pow_right (by decide) h; omega⟩
end B

namespace B
open PySem Z E L2
theorem cell_at_eq (ns : List Int) (k : Nat) : ∃ v, m__law_cell_at ns (k : Int) = some v := by
  unfold m__law_cell_at
  by_cases h : k < ns.length
  · rw [ifo_t (decide_eq_true (by omega))]
    rw [bind_eq (atI_nat' h)]
    first
      | exact ⟨_, rfl⟩
      | exact ⟨_, grd_of (by decide)⟩
  · rw [ifo_f (decide_eq_false (by omega))]
    exact ⟨0, rfl⟩
/-- the number of lamps -/
theorem many_of (v : Int) : ∃ m : Nat, 1 ≤ m ∧ m ≤ 6 ∧ (1 : Int) + v % 6 = (m : Int) := by
  obtain ⟨k, h1, h2⟩ := mod_nat v (n := 6) (by decide)
  have : v % ((6 : Nat) : Int) = v % 6 := rfl
  exact ⟨k + 1, by omega, by omega, by omega⟩
end B

namespace B
open PySem Z L2
/-! ### texts in plain words -/
theorem inS_one (c : Nat) (z : Str) : inS ⟨#[c]⟩ z = decide (c ∈ z.cps.toList) := by
  unfold inS
  exact PySem.StrLaws.found_one z c
theorem str_ext {s t : Str} (h : s.cps.toList = t.cps.toList) : s = t := by
  cases s with | mk a => cases t with | mk b => exact congrArg Str.mk (Array.toList_inj.mp h)
theorem len_app (s t : Str) : (s ++ t).length = s.length + t.length := Array.size_append
theorem cps_app (s t : Str) : (s ++ t).cps.toList = s.cps.toList ++ t.cps.toList := Array.toList_append
theorem len_one (c : Nat) : (⟨#[c]⟩ : Str).length = 1 := rfl
theorem cps_len (s : Str) : s.cps.toList.length = s.length := Array.length_toList
/-- the code at i -/
def cd (s : Str) (i : Nat) : Nat := s.cps.toList.getD i 0
theorem chS_nat {s : Str} {i : Nat} (h : i < s.length) : chS s (i : Int) = some ⟨#[cd s i]⟩ := by
  unfold chS
  have h' : i < s.cps.toList.length := by rw [cps_len]; exact h
  rw [L2.atI_nat (v := cd s i) (by unfold cd; rw [List.getElem?_eq_getElem h', List.getD_eq_getElem?_getD, List.getElem?_eq_getElem h']; rfl)]
  rfl
theorem sgs_map (s : Str) : sgs s = (List.range s.length).map fun i => (⟨#[cd s i]⟩ : Str) := by
  apply List.ext_getElem?
  intro i
  unfold sgs
  rw [List.getElem?_map, List.getElem?_map]
  by_cases h : i < s.length
  · have h' : i < s.cps.toList.length := by rw [cps_len]; exact h
    rw [List.getElem?_range h, List.getElem?_eq_getElem h']
    unfold cd
    show some (⟨#[s.cps.toList[i]]⟩ : Str) = some ⟨#[s.cps.toList.getD i 0]⟩
    rw [List.getD_eq_getElem?_getD, List.getElem?_eq_getElem h']; rfl
  · rw [List.getElem?_eq_none (by rw [cps_len]; omega), List.getElem?_eq_none (by rw [List.length_range]; omega)]
    rfl
theorem enum_map {α : Type} (g : Nat → α) (n : Nat) : enumI ((List.range n).map g) = (List.range n).map fun (i : Nat) => ((i : Int), g i) := by
  apply List.ext_getElem?
  intro i
  by_cases h : i < n
  · have := enumF_get ((List.range n).map g) 0 i (g i) (by rw [List.getElem?_map, List.getElem?_range h]; rfl)
    rw [Nat.zero_add] at this
    unfold enumI
    rw [this, List.getElem?_map, List.getElem?_range h]; rfl
  · rw [List.getElem?_eq_none (by unfold enumI; rw [enumF_len, List.length_map, List.length_range]; omega), List.getElem?_eq_none (by rw [List.length_map, List.length_range]; omega)]
theorem cd_app {s : Str} {c i : Nat} : cd (s ++ ⟨#[c]⟩) i = if i < s.length then cd s i else if i = s.length then c else 0 := by
  unfold cd
  rw [cps_app, List.getD_eq_getElem?_getD, List.getD_eq_getElem?_getD]
  by_cases h : i < s.length
  · rw [if_pos h, List.getElem?_append_left (by rw [cps_len]; exact h)]
  · rw [if_neg h, List.getElem?_append_right (by rw [cps_len]; omega), cps_len]
    by_cases h2 : i = s.length
    · rw [if_pos h2, h2, Nat.sub_self]; rfl
    · rw [if_neg h2]
      have : i - s.length = (i - s.length - 1) + 1 := by omega
      rw [this]; rfl
theorem one_inj {c d : Nat} : decide ((⟨#[c]⟩ : Str) = ⟨#[d]⟩) = decide (c = d) := by
  refine decide_eq_decide.mpr ⟨fun h => ?_, fun h => by rw [h]⟩
  have := congrArg (fun s : Str => s.cps.toList) h
  simpa using this
end B

namespace B
open PySem Z E L2
def okc (c : Nat) : Bool := decide (c ∈ ([48, 49, 45] : List Nat))
def good (t : Str) : Prop := ∀ i, i < t.length → okc (cd t i) = true
def mA (t : Str) (n : Nat) : Nat := mask n fun i => !decide (cd t i = 45)
def mL (t : Str) (n : Nat) : Nat := mask n fun i => decide (cd t i = 49)
theorem lit01 : ("01-" : Str).cps.toList = [48, 49, 45] := by decide +kernel
theorem litm : ("-" : Str) = ⟨#[45]⟩ := by decide +kernel
theorem lit1 : ("1" : Str) = ⟨#[49]⟩ := by decide +kernel
theorem ins01 (c : Nat) : inS ⟨#[c]⟩ ("01-" : Str) = okc c := by rw [inS_one, lit01]; rfl
theorem bar_of_eq {t : Str} (hl : t.length ≤ 100) : ∃ r, m__law_bar_of t = some r ∧ (good t ∧ 1 ≤ t.length ∧ t.length ≤ 6 → r = some ((mA t t.length : Int), (mL t t.length : Int))) ∧ (¬ (good t ∧ 1 ≤ t.length ∧ t.length ≤ 6) → r = none) := by
  suffices hs : OP (m__law_bar_of t) fun r => (good t ∧ 1 ≤ t.length ∧ t.length ≤ 6 → r = some ((mA t t.length : Int), (mL t t.length : Int))) ∧ (¬ (good t ∧ 1 ≤ t.length ∧ t.length ≤ 6) → r = none) by
    obtain ⟨r, e, h⟩ := OP.get hs
    exact ⟨r, e, h⟩
  unfold m__law_bar_of
  rw [sgs_map]
  refine W.brk (W.forR_map (fun i s => s = ((mA t i : Int), (mL t i : Int), ((2 ^ i : Nat) : Int)) ∧ ∀ j, j < i → okc (cd t j) = true) _ ⟨rfl, fun j h => by omega⟩ ?_) ?_
  · rintro i _ hi ⟨rfl, hg⟩
    rw [un3_mk, ins01, litm, lit1, one_inj, one_inj]
    cases hc : okc (cd t i) with
    | false =>
      rw [ifo_nf]
      refine ⟨fun h => ?_, fun _ => rfl⟩
      rw [h.1 i hi] at hc; cases hc
    | true =>
      rw [ifo_nt]
      have e2 : ((2 ^ i : Nat) : Int) * 2 = ((2 ^ (i + 1) : Nat) : Int) := by rw [Nat.pow_succ]; omega
      have f1 : (ifo (!decide (cd t i = 45)) (lt ((mA t i : Int) + ((2 ^ i : Nat) : Int)) fun a => some a) (some (mA t i : Int))) = some (mA t (i + 1) : Int) := by
        unfold mA
        rw [mask_succ]
        cases (!decide (cd t i = 45)) with
        | true => rw [ifo_tt, lt_eq, if_pos rfl, Int.natCast_add]
        | false => rw [ifo_ff, if_neg Bool.false_ne_true]; rfl
      have f2 : (ifo (decide (cd t i = 49)) (lt ((mL t i : Int) + ((2 ^ i : Nat) : Int)) fun a => some a) (some (mL t i : Int))) = some (mL t (i + 1) : Int) := by
        unfold mL
        rw [mask_succ]
        cases (decide (cd t i = 49)) with
        | true => rw [ifo_tt, lt_eq, if_pos rfl, Int.natCast_add]
        | false => rw [ifo_ff, if_neg Bool.false_ne_true]; rfl
      rw [bind_eq f1, bind_eq f2, lt_eq, e2]
      refine ⟨rfl, fun j hj => ?_⟩
      by_cases q : j = i
      · rw [q]; exact hc
      · exact hg j (by omega)
  · rintro _ ⟨rfl, hg⟩
    rw [un3_mk]
    refine W.grd (by omega) (W.bind (P := fun b => b = decide (t.length < 1 ∨ 6 < t.length)) (W.ite (fun h => ?_) (fun h => W.grd (by omega) ?_)) ?_)
    · exact (decide_eq_true (by have := of_decide_eq_true h; omega)).symm
    · have := of_decide_eq_false h
      exact decide_eq_decide.mpr (by omega)
    · rintro _ rfl
      refine W.ite (fun h => ?_) (fun h => ?_)
      · have := of_decide_eq_true h
        exact ⟨fun q => by omega, fun _ => rfl⟩
      · have := of_decide_eq_false h
        exact ⟨fun _ => rfl, fun q => absurd ⟨hg, by omega, by omega⟩ q⟩
theorem read_eq {t : Str} (hl : t.length ≤ 100) : ∃ r, m_read_bar t = some r ∧ (good t ∧ 1 ≤ t.length ∧ t.length ≤ 6 → r = .ok ((mA t t.length : Int), (mL t t.length : Int))) ∧ (¬ (good t ∧ 1 ≤ t.length ∧ t.length ≤ 6) → r = .error 6) := by
  suffices hs : OP (m_read_bar t) fun r => (good t ∧ 1 ≤ t.length ∧ t.length ≤ 6 → r = .ok ((mA t t.length : Int), (mL t t.length : Int))) ∧ (¬ (good t ∧ 1 ≤ t.length ∧ t.length ≤ 6) → r = .error 6) by
    obtain ⟨r, e, h⟩ := OP.get hs
    exact ⟨r, e, h⟩
  unfold m_read_bar
  refine W.grd (by omega) (W.ite (fun h => ?_) (fun h => ?_))
  · refine ⟨fun q => ?_, fun _ => rfl⟩
    rw [decide_eq_true (show (1 : Int) ≤ (t.length : Int) by omega), decide_eq_true (show (t.length : Int) ≤ 6 by omega)] at h
    cases h
  · have hb : 1 ≤ t.length ∧ t.length ≤ 6 := by
      rw [Bool.not_eq_false', Bool.and_eq_true] at h
      have h1 := of_decide_eq_true h.1
      have h2 := of_decide_eq_true h.2
      exact ⟨by omega, by omega⟩
    rw [sgs_map, enum_map]
    refine W.brk (W.forR_map (fun i s => s = ((mA t i : Int), (mL t i : Int)) ∧ ∀ j, j < i → okc (cd t j) = true) _ ⟨rfl, fun j h => by omega⟩ ?_) ?_
    · rintro i _ hi ⟨rfl, hg⟩
      rw [un2_mk]
      show OP (ifo (!(inS (⟨#[cd t i]⟩ : Str) ("01-" : Str))) _ _) _
      rw [ins01, litm, lit1, one_inj, one_inj]
      cases hc : okc (cd t i) with
      | false =>
        rw [ifo_nf]
        refine ⟨fun h => ?_, fun _ => rfl⟩
        rw [h.1 i hi] at hc; cases hc
      | true =>
        rw [ifo_nt, shl1_nat]
        have f1 : (ifo (!decide (cd t i = 45)) (grd (gPow 1 (i : Int)) <| lt (bor (mA t i : Int) ((2 ^ i : Nat) : Int)) fun a => some a) (some (mA t i : Int))) = some (mA t (i + 1) : Int) := by
          unfold mA
          rw [mask_succ]
          cases (!decide (cd t i = 45)) with
          | true => rw [ifo_tt, grd_of (gPow1 (by omega)), lt_eq, if_pos rfl, bor_nat, mask_or]
          | false => rw [ifo_ff, if_neg Bool.false_ne_true]; rfl
        rw [bind_eq f1]
        have nx : ∀ j, j < i + 1 → okc (cd t j) = true := fun j hj => by
          by_cases q : j = i
          · rw [q]; exact hc
          · exact hg j (by omega)
        unfold mL
        refine W.ite (fun hq => ?_) (fun hq => ?_)
        · refine W.grd (gPow1 (by omega)) (W.lt ⟨?_, nx⟩)
          rw [bor_nat, mask_or, mask_succ, hq, if_pos rfl]
        · refine ⟨?_, nx⟩
          rw [mask_succ, hq, if_neg Bool.false_ne_true]; rfl
    · rintro _ ⟨rfl, hg⟩
      exact ⟨fun _ => rfl, fun q => absurd ⟨hg, hb⟩ q⟩
theorem told_eq {t : Str} (hl : t.length ≤ 100) : m__law_told t = some true := by
  obtain ⟨r, e1, a1, b1⟩ := bar_of_eq hl
  obtain ⟨v, e2, a2, b2⟩ := read_eq hl
  unfold m__law_told m__law_read
  rw [bind_eq e1, bind_eq e2]
  by_cases h : good t ∧ 1 ≤ t.length ∧ t.length ≤ 6
  · rw [a1 h, a2 h]
    rw [show (exE (Except.ok ((mA t t.length : Int), (mL t t.length : Int))) (fun c_7 => grd (c_7 = 6) <| some none) fun v8 => some (some v8)) = some (some ((mA t t.length : Int), (mL t t.length : Int))) from rfl, sb]
    rw [show (some ((mA t t.length : Int), (mL t t.length : Int))).isNone = false from rfl, ifo_ff, show (some ((mA t t.length : Int), (mL t t.length : Int))).isSome = true from rfl, ifo_nt, sb, sb, ifo_f (by decide), sb]
    rw [brk_inl (s := ()) (forR_pass fun x _ => by rw [ifo_f (by rfl)]), decide_eq_true rfl]
  · rw [b1 h, b2 h]
    rw [show (exE (Except.error 6 : Except Nat (Int × Int)) (fun c_7 => grd (c_7 = 6) <| some none) fun v8 => some (some v8)) = some none from grd_of (c := (6 : Nat) = 6) rfl, sb]
    have : m__law_refused_alone t = some true := by
      unfold m__law_refused_alone
      rw [bind_eq e2, b2 h]
      show grd (6 = 6) _ = _
      rw [grd_of rfl, ifo_ff, ifo_ff]; rfl
    rw [show (none : Option (Int × Int)).isNone = true from rfl, ifo_tt, ifo_tt, bind_eq this, sb]
theorem signs_eq (n : Nat) (hn : n ≤ 50) (v : Int) : ∃ t : Str, m__law_signs v (n : Int) = some t ∧ t.length = n ∧ good t := by
  suffices hs : OP (m__law_signs v (n : Int)) fun t => t.length = n ∧ good t by
    obtain ⟨r, e, h⟩ := OP.get hs
    exact ⟨r, e, h⟩
  unfold m__law_signs
  refine W.lt (W.grd (gR_nat (by omega)) ?_)
  rw [Int.toNat_natCast]
  refine W.bind (W.for_r (fun k s => ∃ (c : Int) (t : Str), s = (c, t) ∧ t.length = k ∧ good t) ⟨_, _, rfl, rfl, fun i h => absurd h (Nat.not_lt_zero i)⟩ ?_) ?_
  · rintro k _ hk ⟨c, t, rfl, hl, hg⟩
    rw [un2_mk]
    obtain ⟨j, hj, ej⟩ := mod_nat c (n := 3) (by decide)
    have ej' : c % 3 = (j : Int) := ej
    have h3 : ∃ d, chS ("01-" : Str) (j : Int) = some ⟨#[d]⟩ ∧ okc d = true := by
      have : j = 0 ∨ j = 1 ∨ j = 2 := by omega
      rcases this with rfl | rfl | rfl
      · exact ⟨48, by decide +kernel, by decide⟩
      · exact ⟨49, by decide +kernel, by decide⟩
      · exact ⟨45, by decide +kernel, by decide⟩
    obtain ⟨d, ed, hd⟩ := h3
    refine W.grd (by decide +kernel) ?_
    rw [ej', bind_eq ed]
    refine W.grd (by rw [len_one]; omega) (W.lt (W.lt ⟨_, _, rfl, by rw [len_app, hl]; rfl, fun i hi => ?_⟩))
    rw [cd_app]
    rw [len_app, len_one] at hi
    by_cases q : i < t.length
    · rw [if_pos q]; exact hg i q
    · rw [if_neg q, if_pos (by omega)]; exact hd
  · rintro _ ⟨c, t, rfl, hl, hg⟩
    exact ⟨hl, hg⟩
theorem spoilt_ok {t : Str} (hl : t.length ≤ 50) (v : Int) : ∃ u, m__law_spoilt t v = some u ∧ u.length ≤ 2 * t.length + 1 := by
  suffices hs : OP (m__law_spoilt t v) fun u => u.length ≤ 2 * t.length + 1 by
    obtain ⟨r, e, h⟩ := OP.get hs
    exact ⟨r, e, h⟩
  unfold m__law_spoilt
  have hlen : ("2+ _Oolxa.,;|()9~3\n\t" : Str).length = 20 := by decide +kernel
  refine W.ltx fun others ho => ?_
  have ho' : others.length = 20 := by rw [ho]; exact hlen
  refine W.grd (by omega) (W.grd (by omega) (W.lt (W.grd (by omega) (W.grd (by omega) (W.grd (by omega) ?_)))))
  rw [ho']
  obtain ⟨j, hj, ej⟩ := mod_nat (v / 8 / 9) (n := 20) (by decide)
  rw [ej, bind_eq (chS_nat (by omega))]
  have c1 := cutS_length t none (some (v / 8 % ((t.length : Int) + 1)))
  have c2 := cutS_length t (some (v / 8 % ((t.length : Int) + 1))) none
  have c3 := cutS_length t (some (v / 8 % ((t.length : Int) + 1) + 1)) none
  refine W.lt (W.ite (fun _ => ?_) (fun _ => ?_))
  · refine W.grd (by omega) (W.grd (by rw [len_one]; omega) (W.grd (by omega) (W.grd (by rw [len_app, len_one]; omega) ?_)))
    show (_ : Str).length ≤ 2 * t.length + 1
    rw [len_app, len_app, len_one]; omega
  · refine W.grd (by omega) (W.grd (by rw [len_one]; omega) (W.grd (by omega) (W.grd (by rw [len_app, len_one]; omega) ?_)))
    show (_ : Str).length ≤ 2 * t.length + 1
    rw [len_app, len_app, len_one]; omega
theorem shown_eq {t : Str} {n : Nat} (hn : n ≤ 6) (hl : t.length = n) (hg : good t) : m_shown_bar (n : Int) ((mA t n : Int), (mL t n : Int)) = some t := by
  refine W.got ?_
  unfold m_shown_bar
  refine W.lt (W.grd (gR_nat (by omega)) ?_)
  rw [Int.toNat_natCast]
  refine W.some' (W.as (W.for_r (fun k s => s.length = k ∧ ∀ i, i < k → cd s i = cd t i) ⟨rfl, fun i h => by omega⟩ ?_) ?_)
  · rintro k s hk ⟨h1, h2⟩
    have ha : m_asks_for ((mA t n : Int), (mL t n : Int)) (k : Int) = some (!decide (cd t k = 45)) := by
      unfold m_asks_for
      rw [grd_of (by omega)]
      show some (decide (band (shr (mA t n : Int) (k : Int)) 1 = 1)) = _
      rw [asks1]
      unfold mA
      rw [testBit_mask, decide_eq_true hk, Bool.true_and]
    have nx : ∀ d, d = cd t k → (s ++ (⟨#[d]⟩ : Str)).length = k + 1 ∧ ∀ i, i < k + 1 → cd (s ++ (⟨#[d]⟩ : Str)) i = cd t i := fun d hd => by
      refine ⟨by rw [len_app, h1]; rfl, fun i hi => ?_⟩
      rw [cd_app, h1]
      by_cases q : i < k
      · rw [if_pos q]; exact h2 i q
      · rw [if_neg q, if_pos (by omega), hd]; congr 1; omega
    rw [bind_eq ha, litm]
    by_cases h45 : cd t k = 45
    · rw [decide_eq_true h45, nt, ifo_nf]
      exact W.grd (by rw [len_one]; omega) (W.lt (nx 45 h45.symm))
    · rw [decide_eq_false h45, nf, ifo_nt]
      have hb : band (shr (mL t n : Int) (k : Int)) 1 = if cd t k = 49 then 1 else 0 := by
        have h := asks1 (mL t n) k
        have h' : (mL t n).testBit k = decide (cd t k = 49) := by
          unfold mL
          rw [testBit_mask, decide_eq_true hk, Bool.true_and]
        rw [h', shr_nat] at h
        rw [shr_nat]
        have h3 : band (((mL t n) >>> k : Nat) : Int) 1 = (((mL t n) >>> k &&& 1 : Nat) : Int) := band_nat _ 1
        rw [h3] at h ⊢
        have h4 : (mL t n) >>> k &&& 1 ≤ 1 := Nat.and_le_right
        by_cases q : cd t k = 49
        · rw [decide_eq_true q] at h
          rw [if_pos q]
          exact of_decide_eq_true h
        · rw [decide_eq_false q] at h
          rw [if_neg q]
          have := of_decide_eq_false h
          omega
      show OP (grd (0 ≤ (k : Int)) <| grd (gStr (band (shr (mL t n : Int) (k : Int)) 1)) <| grd (s.length + (strI (band (shr (mL t n : Int) (k : Int)) 1)).length ≤ 16777216) <| lt (s ++ (strI (band (shr (mL t n : Int) (k : Int)) 1))) fun line25 => some line25) _
      rw [hb]
      have s1 : strI 1 = ⟨#[49]⟩ := by decide +kernel
      have s0 : strI 0 = ⟨#[48]⟩ := by decide +kernel
      by_cases q : cd t k = 49
      · rw [if_pos q, s1]
        exact W.grd (by omega) (W.grd (by decide) (W.grd (by rw [len_one]; omega) (W.lt (nx 49 q.symm))))
      · rw [if_neg q, s0]
        have h48 : cd t k = 48 := by
          have := hg k (by omega)
          have := of_decide_eq_true this
          simp only [List.mem_cons, List.not_mem_nil, or_false] at this
          omega
        exact W.grd (by omega) (W.grd (by decide) (W.grd (by rw [len_one]; omega) (W.lt (nx 48 h48.symm))))
  · rintro s ⟨h1, h2⟩
    apply str_ext
    apply List.ext_getElem?
    intro i
    by_cases hi : i < n
    · have a1 : i < s.cps.toList.length := by rw [cps_len]; omega
      have a2 : i < t.cps.toList.length := by rw [cps_len]; omega
      have := h2 i hi
      unfold cd at this
      rw [List.getD_eq_getElem?_getD, List.getD_eq_getElem?_getD, List.getElem?_eq_getElem a1, List.getElem?_eq_getElem a2] at this
      rw [List.getElem?_eq_getElem a1, List.getElem?_eq_getElem a2]
      exact congrArg some this
    · rw [List.getElem?_eq_none (by rw [cps_len]; omega), List.getElem?_eq_none (by rw [cps_len]; omega)]
theorem law_true (ns : List Int) (hn : ns.length ≤ 63) : m_law ns = some true := by
  obtain ⟨v0, e0⟩ := cell_at_eq ns 0
  obtain ⟨v1, e1⟩ := cell_at_eq ns 1
  obtain ⟨v2, e2⟩ := cell_at_eq ns 2
  obtain ⟨v3, e3⟩ := cell_at_eq ns 3
  obtain ⟨v4, e4⟩ := cell_at_eq ns 4
  have t0 : m__law_cell_at ns 0 = some v0 := e0
  have t1 : m__law_cell_at ns 1 = some v1 := e1
  have t2 : m__law_cell_at ns 2 = some v2 := e2
  have t3 : m__law_cell_at ns 3 = some v3 := e3
  have t4 : m__law_cell_at ns 4 = some v4 := e4
  obtain ⟨m, h1, h2, em⟩ := many_of v0
  obtain ⟨t, et, hl, hg⟩ := signs_eq m (by omega) v1
  obtain ⟨r, er, hr, _⟩ := bar_of_eq (t := t) (by omega)
  have hr' := hr ⟨hg, by omega, by omega⟩
  rw [hl] at hr'
  have ht := told_eq (t := t) (by omega)
  obtain ⟨j, hj, ej⟩ := mod_nat v3 (n := 9) (by decide)
  have ej' : v3 % 9 = (j : Int) := ej
  obtain ⟨u, eu, hul, hug⟩ := signs_eq j (by omega) v2
  refine W.got ?_
  unfold m_law
  rw [bind_eq t0, bind_eq t1, em, bind_eq et, lt_eq, bind_eq er, hr', sb, bind_eq (shown_eq h2 hl hg), lt_eq, decide_eq_true rfl, nt, ifo_ff, ifo_ff, bind_eq ht, nt, sb, ifo_ff, bind_eq t2, bind_eq t3, ej', bind_eq eu, lt_eq]
  refine W.bind (P := fun x => x.length ≤ 100) (W.ite (fun _ => ?_) (fun _ => ?_)) ?_
  · obtain ⟨x, ex, hx⟩ := spoilt_ok (t := u) (by omega) v4
    rw [bind_eq t4, bind_eq ex]
    exact W.lt (by show x.length ≤ 100; omega)
  · show u.length ≤ 100
    omega
  · intro x hx
    rw [bind_eq (told_eq hx), ifo_tt, bind_eq ht, sb]
    exact rfl
end B

namespace E
open PySem PySem.Spec PyProof.Rows L2 Z
def spLaw (K : PySem.W.Frag) : Sp := fun vs H Q _ => ∃ (a : Addr) (ns : List Int), vs = [.ref a] ∧ SqL K H a (ns.map V.int) ∧ ns.length ≤ 63 ∧ ∀ H', Q (.bl true) H'
theorem law_ok {P : Program} {w : World} {K : PySem.W.Frag} {mg : Str → Option Value} {base : Heap} (T : Tx K mg) : FnOk P w K mg base CX0 4 T.f_law T.d_law ["_law_script"] (spLaw K) :=
  (ok_law T).imp fun vs H Q E h => by
    obtain ⟨a, ns, rfl, hS, hl, k⟩ := h
    exact ⟨H, _, ns, rfl, Same.refl _, RdL.start hS (RL.map V.int (fun _ => rfl) ns), OP.mk (B.law_true ns hl) fun _ H' _ => k H'⟩
theorem all_mk {l : PySem.W.OpenLaw} {w : World} {K : PySem.W.Frag} {h : Heap} {mg : Str → Option Value} {fa : Addr} (X : K.In h) (G : h.Ns mainGlobals mg) (hfa : mg "law" = some (.ref fa))
    {f0 f1 f2 f3 f4 f5 f6 f7 f8 f9 f10 C_EverError C_NoBar C_NoChart C_NoFence C_NoFormula C_NoFrame C_NoLine C_NoMachine C_NoName C_NoStep C_NotShut C_NothingLeft C_TooMany : Addr}
    {od0 an0 : Option Addr} {sl0 : Array (Option Value)} {oc0 kV0 dc0 pm0 cd0 ct0 : Value}
    (a0 : PySem.W.nsIn K mainGlobals "_law_bar_of" = some (some (.ref f0)))
    {od1 an1 : Option Addr} {sl1 : Array (Option Value)} {oc1 kV1 dc1 pm1 cd1 ct1 : Value}
    (a1 : PySem.W.nsIn K mainGlobals "_law_cell_at" = some (some (.ref f1)))
    {od2 an2 : Option Addr} {sl2 : Array (Option Value)} {oc2 kV2 dc2 pm2 cd2 ct2 : Value}
    (a2 : PySem.W.nsIn K mainGlobals "_law_signs" = some (some (.ref f2)))
    {od3 an3 : Option Addr} {sl3 : Array (Option Value)} {oc3 kV3 dc3 pm3 cd3 ct3 : Value}
    (a3 : PySem.W.nsIn K mainGlobals "_law_spoilt" = some (some (.ref f3)))
    {od4 an4 : Option Addr} {sl4 : Array (Option Value)} {oc4 kV4 dc4 pm4 cd4 ct4 : Value}
    (a4 : PySem.W.nsIn K mainGlobals "read_bar" = some (some (.ref f4)))
    {od5 an5 : Option Addr} {sl5 : Array (Option Value)} {oc5 kV5 dc5 pm5 cd5 ct5 : Value}
    (a5 : PySem.W.nsIn K mainGlobals "_law_read" = some (some (.ref f5)))
    {od6 an6 : Option Addr} {sl6 : Array (Option Value)} {oc6 kV6 dc6 pm6 cd6 ct6 : Value}
    (a6 : PySem.W.nsIn K mainGlobals "_law_refused_alone" = some (some (.ref f6)))
    {od7 an7 : Option Addr} {sl7 : Array (Option Value)} {oc7 kV7 dc7 pm7 cd7 ct7 : Value}
    (a7 : PySem.W.nsIn K mainGlobals "_law_told" = some (some (.ref f7)))
    {od8 an8 : Option Addr} {sl8 : Array (Option Value)} {oc8 kV8 dc8 pm8 cd8 ct8 : Value}
    (a8 : PySem.W.nsIn K mainGlobals "asks_for" = some (some (.ref f8)))
    {od9 an9 : Option Addr} {sl9 : Array (Option Value)} {oc9 kV9 dc9 pm9 cd9 ct9 : Value}
    (a9 : PySem.W.nsIn K mainGlobals "shown_bar" = some (some (.ref f9)))
    {od10 an10 : Option Addr} {sl10 : Array (Option Value)} {oc10 kV10 dc10 pm10 cd10 ct10 : Value}
    (a10 : PySem.W.nsIn K mainGlobals "law" = some (some (.ref f10)))
    (l0 : K.lookup f0 = some ⟨oc0, od0, .func (PySem.W.fnOf "_law_bar_of" "_law_bar_of" (defArgs (top 23)) (defBody (top 23)) (defScope (top 23)) .none kV0 dc0 pm0 an0 cd0 ct0), sl0⟩) (c0 : PySem.W.codeIn K cd0 "_law_bar_of" = true) (k0 : PySem.W.keepIn K (.ref f0) = true)
    (l1 : K.lookup f1 = some ⟨oc1, od1, .func (PySem.W.fnOf "_law_cell_at" "_law_cell_at" (defArgs (top 20)) (defBody (top 20)) (defScope (top 20)) .none kV1 dc1 pm1 an1 cd1 ct1), sl1⟩) (c1 : PySem.W.codeIn K cd1 "_law_cell_at" = true) (k1 : PySem.W.keepIn K (.ref f1) = true)
    (l2 : K.lookup f2 = some ⟨oc2, od2, .func (PySem.W.fnOf "_law_signs" "_law_signs" (defArgs (top 21)) (defBody (top 21)) (defScope (top 21)) .none kV2 dc2 pm2 an2 cd2 ct2), sl2⟩) (c2 : PySem.W.codeIn K cd2 "_law_signs" = true) (k2 : PySem.W.keepIn K (.ref f2) = true)
    (l3 : K.lookup f3 = some ⟨oc3, od3, .func (PySem.W.fnOf "_law_spoilt" "_law_spoilt" (defArgs (top 22)) (defBody (top 22)) (defScope (top 22)) .none kV3 dc3 pm3 an3 cd3 ct3), sl3⟩) (c3 : PySem.W.codeIn K cd3 "_law_spoilt" = true) (k3 : PySem.W.keepIn K (.ref f3) = true)
    (l4 : K.lookup f4 = some ⟨oc4, od4, .func (PySem.W.fnOf "read_bar" "read_bar" (defArgs (top 18)) (defBody (top 18)) (defScope (top 18)) .none kV4 dc4 pm4 an4 cd4 ct4), sl4⟩) (c4 : PySem.W.codeIn K cd4 "read_bar" = true) (k4 : PySem.W.keepIn K (.ref f4) = true)
    (l5 : K.lookup f5 = some ⟨oc5, od5, .func (PySem.W.fnOf "_law_read" "_law_read" (defArgs (top 24)) (defBody (top 24)) (defScope (top 24)) .none kV5 dc5 pm5 an5 cd5 ct5), sl5⟩) (c5 : PySem.W.codeIn K cd5 "_law_read" = true) (k5 : PySem.W.keepIn K (.ref f5) = true)
    (l6 : K.lookup f6 = some ⟨oc6, od6, .func (PySem.W.fnOf "_law_refused_alone" "_law_refused_alone" (defArgs (top 25)) (defBody (top 25)) (defScope (top 25)) .none kV6 dc6 pm6 an6 cd6 ct6), sl6⟩) (c6 : PySem.W.codeIn K cd6 "_law_refused_alone" = true) (k6 : PySem.W.keepIn K (.ref f6) = true)
    (l7 : K.lookup f7 = some ⟨oc7, od7, .func (PySem.W.fnOf "_law_told" "_law_told" (defArgs (top 26)) (defBody (top 26)) (defScope (top 26)) .none kV7 dc7 pm7 an7 cd7 ct7), sl7⟩) (c7 : PySem.W.codeIn K cd7 "_law_told" = true) (k7 : PySem.W.keepIn K (.ref f7) = true)
    (l8 : K.lookup f8 = some ⟨oc8, od8, .func (PySem.W.fnOf "asks_for" "asks_for" (defArgs (top 1)) (defBody (top 1)) (defScope (top 1)) .none kV8 dc8 pm8 an8 cd8 ct8), sl8⟩) (c8 : PySem.W.codeIn K cd8 "asks_for" = true) (k8 : PySem.W.keepIn K (.ref f8) = true)
    (l9 : K.lookup f9 = some ⟨oc9, od9, .func (PySem.W.fnOf "shown_bar" "shown_bar" (defArgs (top 17)) (defBody (top 17)) (defScope (top 17)) .none kV9 dc9 pm9 an9 cd9 ct9), sl9⟩) (c9 : PySem.W.codeIn K cd9 "shown_bar" = true) (k9 : PySem.W.keepIn K (.ref f9) = true)
    (l10 : K.lookup f10 = some ⟨oc10, od10, .func (PySem.W.fnOf "law" "law" (defArgs (top 27)) (defBody (top 27)) (defScope (top 27)) .none kV10 dc10 pm10 an10 cd10 ct10), sl10⟩) (c10 : PySem.W.codeIn K cd10 "law" = true) (k10 : PySem.W.keepIn K (.ref f10) = true)
    (aC_EverError : PySem.W.nsIn K mainGlobals "EverError" = some (some (.ref C_EverError)))
    (aC_NoBar : PySem.W.nsIn K mainGlobals "NoBar" = some (some (.ref C_NoBar)))
    (aC_NoChart : PySem.W.nsIn K mainGlobals "NoChart" = some (some (.ref C_NoChart)))
    (aC_NoFence : PySem.W.nsIn K mainGlobals "NoFence" = some (some (.ref C_NoFence)))
    (aC_NoFormula : PySem.W.nsIn K mainGlobals "NoFormula" = some (some (.ref C_NoFormula)))
    (aC_NoFrame : PySem.W.nsIn K mainGlobals "NoFrame" = some (some (.ref C_NoFrame)))
    (aC_NoLine : PySem.W.nsIn K mainGlobals "NoLine" = some (some (.ref C_NoLine)))
    (aC_NoMachine : PySem.W.nsIn K mainGlobals "NoMachine" = some (some (.ref C_NoMachine)))
    (aC_NoName : PySem.W.nsIn K mainGlobals "NoName" = some (some (.ref C_NoName)))
    (aC_NoStep : PySem.W.nsIn K mainGlobals "NoStep" = some (some (.ref C_NoStep)))
    (aC_NotShut : PySem.W.nsIn K mainGlobals "NotShut" = some (some (.ref C_NotShut)))
    (aC_NothingLeft : PySem.W.nsIn K mainGlobals "NothingLeft" = some (some (.ref C_NothingLeft)))
    (aC_TooMany : PySem.W.nsIn K mainGlobals "TooMany" = some (some (.ref C_TooMany)))
    (kc1_NoBar : PySem.W.isClsIn K C_NoBar = true) (kt_NoBar : PySem.W.typeIn K (.ref C_NoBar) = some (.type "type")) (ks_NoBar : PySem.W.subIn K (.ref C_NoBar) (.ref C_NoBar) = some true)
    (ki_NoBar_NoBar : PySem.W.subIn K (.ref C_NoBar) (.ref C_NoBar) = some true)
    (kc1_NoChart : PySem.W.isClsIn K C_NoChart = true) (kt_NoChart : PySem.W.typeIn K (.ref C_NoChart) = some (.type "type")) (ks_NoChart : PySem.W.subIn K (.ref C_NoChart) (.ref C_NoChart) = some true)
    (ki_NoBar_NoChart : PySem.W.subIn K (.ref C_NoBar) (.ref C_NoChart) = some false)
    (kc1_NoFence : PySem.W.isClsIn K C_NoFence = true) (kt_NoFence : PySem.W.typeIn K (.ref C_NoFence) = some (.type "type")) (ks_NoFence : PySem.W.subIn K (.ref C_NoFence) (.ref C_NoFence) = some true)
    (ki_NoBar_NoFence : PySem.W.subIn K (.ref C_NoBar) (.ref C_NoFence) = some false)
    (kc1_NoFormula : PySem.W.isClsIn K C_NoFormula = true) (kt_NoFormula : PySem.W.typeIn K (.ref C_NoFormula) = some (.type "type")) (ks_NoFormula : PySem.W.subIn K (.ref C_NoFormula) (.ref C_NoFormula) = some true)
    (ki_NoBar_NoFormula : PySem.W.subIn K (.ref C_NoBar) (.ref C_NoFormula) = some false)
    (kc1_NoFrame : PySem.W.isClsIn K C_NoFrame = true) (kt_NoFrame : PySem.W.typeIn K (.ref C_NoFrame) = some (.type "type")) (ks_NoFrame : PySem.W.subIn K (.ref C_NoFrame) (.ref C_NoFrame) = some true)
    (ki_NoBar_NoFrame : PySem.W.subIn K (.ref C_NoBar) (.ref C_NoFrame) = some false)
    (kc1_NoLine : PySem.W.isClsIn K C_NoLine = true) (kt_NoLine : PySem.W.typeIn K (.ref C_NoLine) = some (.type "type")) (ks_NoLine : PySem.W.subIn K (.ref C_NoLine) (.ref C_NoLine) = some true)
    (ki_NoBar_NoLine : PySem.W.subIn K (.ref C_NoBar) (.ref C_NoLine) = some false)
    (kc1_NoMachine : PySem.W.isClsIn K C_NoMachine = true) (kt_NoMachine : PySem.W.typeIn K (.ref C_NoMachine) = some (.type "type")) (ks_NoMachine : PySem.W.subIn K (.ref C_NoMachine) (.ref C_NoMachine) = some true)
    (ki_NoBar_NoMachine : PySem.W.subIn K (.ref C_NoBar) (.ref C_NoMachine) = some false)
    (kc1_NoName : PySem.W.isClsIn K C_NoName = true) (kt_NoName : PySem.W.typeIn K (.ref C_NoName) = some (.type "type")) (ks_NoName : PySem.W.subIn K (.ref C_NoName) (.ref C_NoName) = some true)
    (ki_NoBar_NoName : PySem.W.subIn K (.ref C_NoBar) (.ref C_NoName) = some false)
    (kc1_NoStep : PySem.W.isClsIn K C_NoStep = true) (kt_NoStep : PySem.W.typeIn K (.ref C_NoStep) = some (.type "type")) (ks_NoStep : PySem.W.subIn K (.ref C_NoStep) (.ref C_NoStep) = some true)
    (ki_NoBar_NoStep : PySem.W.subIn K (.ref C_NoBar) (.ref C_NoStep) = some false)
    (kc1_NotShut : PySem.W.isClsIn K C_NotShut = true) (kt_NotShut : PySem.W.typeIn K (.ref C_NotShut) = some (.type "type")) (ks_NotShut : PySem.W.subIn K (.ref C_NotShut) (.ref C_NotShut) = some true)
    (ki_NoBar_NotShut : PySem.W.subIn K (.ref C_NoBar) (.ref C_NotShut) = some false)
    (kc1_NothingLeft : PySem.W.isClsIn K C_NothingLeft = true) (kt_NothingLeft : PySem.W.typeIn K (.ref C_NothingLeft) = some (.type "type")) (ks_NothingLeft : PySem.W.subIn K (.ref C_NothingLeft) (.ref C_NothingLeft) = some true)
    (ki_NoBar_NothingLeft : PySem.W.subIn K (.ref C_NoBar) (.ref C_NothingLeft) = some false)
    (kc1_TooMany : PySem.W.isClsIn K C_TooMany = true) (kt_TooMany : PySem.W.typeIn K (.ref C_TooMany) = some (.type "type")) (ks_TooMany : PySem.W.subIn K (.ref C_TooMany) (.ref C_TooMany) = some true)
    (ki_NoBar_TooMany : PySem.W.subIn K (.ref C_NoBar) (.ref C_TooMany) = some false)
    (xx_NoBar : PySem.W.excIn K C_NoBar [.type "ValueError", .type "Exception", .type "BaseException", .type "object"] "ValueError.__new__" = true)
    (xk_NoBar : PySem.W.keepIn K (.ref C_NoBar) = true)
    (xb_NoBar : PySem.W.subIn K (.ref C_NoBar) (.type "BaseException") = some true)
    (xt_NoBar : PySem.W.typeIn K (.ref C_NoBar) = some (.type "type"))
    (xb_EverError : PySem.W.subIn K (.ref C_EverError) (.type "BaseException") = some true)
    (xd_EverError : PySem.W.hasDictIn K C_EverError = true)
    (xt_EverError : PySem.W.typeIn K (.ref C_EverError) = some (.type "type"))
    (ki_NoBar_EverError : PySem.W.subIn K (.ref C_NoBar) (.ref C_EverError) = some true)
    (xd_NoBar : PySem.W.hasDictIn K C_NoBar = true)
    (xg_NoBar : PySem.W.findIn K (.ref C_NoBar) "__getattribute__" = some (some (.builtin "BaseException.__getattribute__")))
    (xa_NoBar : PySem.W.findIn K (.ref C_NoBar) "__getattr__" = some none)
    (xl_NoBar : PySem.W.findIn K (.ref C_NoBar) "__class__" = some (some (.builtin "object.__class__")))
    (xn_o : PySem.W.specialIn K (.builtin "object.__class__") "__get__" = some (some (.builtin "getset_descriptor.__get__")))
    (xh_o : PySem.W.takesIn K (.builtin "object.__class__") = some true)
    (xm_NoBar : PySem.W.mroIn K C_NoBar (.type "object") = some true)
    (ib_NoBar_ValueError : PySem.W.subIn K (.ref C_NoBar) (.type "ValueError") = some true)
    (z_ValueError : PySem.W.nsIn K mainGlobals "ValueError" = some none)
    (z_bool : PySem.W.nsIn K mainGlobals "bool" = some none)
    (z_enumerate : PySem.W.nsIn K mainGlobals "enumerate" = some none)
    (z_int : PySem.W.nsIn K mainGlobals "int" = some none)
    (z_isinstance : PySem.W.nsIn K mainGlobals "isinstance" = some none)
    (z_len : PySem.W.nsIn K mainGlobals "len" = some none)
    (z_range : PySem.W.nsIn K mainGlobals "range" = some none)
    (z_str : PySem.W.nsIn K mainGlobals "str" = some none)
    (z_tuple : PySem.W.nsIn K mainGlobals "tuple" = some none) :
    ∃ fd : FuncData, (∀ (s : Shared) (v : Value), BindsTo s fd ⟨[v], []⟩ [("_law_script", v)]) ∧ ∀ base : Heap, K.In base → base.Ns mainGlobals mg → FnOk l.prog w K mg base CX0 4 fa fd ["_law_script"] (spLaw K) := by
  have e := hfa.symm.trans (PySem.W.mg_of X G a10)
  cases e
  exact ⟨_, fun s v => .of_eq rfl, fun base _ _ => law_ok (T := {
    c := (⟨C_EverError, C_NoBar, C_NoChart, C_NoFence, C_NoFormula, C_NoFrame, C_NoLine, C_NoMachine, C_NoName, C_NoStep, C_NotShut, C_NothingLeft, C_TooMany⟩),
    m__law_bar_of := (PySem.W.mg_of X G a0),
    m__law_cell_at := (PySem.W.mg_of X G a1),
    m__law_signs := (PySem.W.mg_of X G a2),
    m__law_spoilt := (PySem.W.mg_of X G a3),
    m_read_bar := (PySem.W.mg_of X G a4),
    m__law_read := (PySem.W.mg_of X G a5),
    m__law_refused_alone := (PySem.W.mg_of X G a6),
    m__law_told := (PySem.W.mg_of X G a7),
    m_asks_for := (PySem.W.mg_of X G a8),
    m_shown_bar := (PySem.W.mg_of X G a9),
    m_law := (PySem.W.mg_of X G a10),
    f__law_bar_of := (_),
    d__law_bar_of := (_),
    F__law_bar_of := (fun_mk (st := (top 23)) l0 c0 k0),
    b__law_bar_of := ((fun_mk (st := (top 23)) l0 c0 k0).binds (ps := ["_law_text"]) fun _ _ _ _ _ _ us hl => match us, hl with | [_], _ => rfl),
    f__law_cell_at := (_),
    d__law_cell_at := (_),
    F__law_cell_at := (fun_mk (st := (top 20)) l1 c1 k1),
    b__law_cell_at := ((fun_mk (st := (top 20)) l1 c1 k1).binds (ps := ["_law_script", "_law_k"]) fun _ _ _ _ _ _ us hl => match us, hl with | [_, _], _ => rfl),
    f__law_signs := (_),
    d__law_signs := (_),
    F__law_signs := (fun_mk (st := (top 21)) l2 c2 k2),
    b__law_signs := ((fun_mk (st := (top 21)) l2 c2 k2).binds (ps := ["_law_cell", "_law_size"]) fun _ _ _ _ _ _ us hl => match us, hl with | [_, _], _ => rfl),
    f__law_spoilt := (_),
    d__law_spoilt := (_),
    F__law_spoilt := (fun_mk (st := (top 22)) l3 c3 k3),
    b__law_spoilt := ((fun_mk (st := (top 22)) l3 c3 k3).binds (ps := ["_law_text", "_law_cell"]) fun _ _ _ _ _ _ us hl => match us, hl with | [_, _], _ => rfl),
    f_read_bar := (_),
    d_read_bar := (_),
    F_read_bar := (fun_mk (st := (top 18)) l4 c4 k4),
    b_read_bar := ((fun_mk (st := (top 18)) l4 c4 k4).binds (ps := ["text"]) fun _ _ _ _ _ _ us hl => match us, hl with | [_], _ => rfl),
    f__law_read := (_),
    d__law_read := (_),
    F__law_read := (fun_mk (st := (top 24)) l5 c5 k5),
    b__law_read := ((fun_mk (st := (top 24)) l5 c5 k5).binds (ps := ["_law_text"]) fun _ _ _ _ _ _ us hl => match us, hl with | [_], _ => rfl),
    f__law_refused_alone := (_),
    d__law_refused_alone := (_),
    F__law_refused_alone := (fun_mk (st := (top 25)) l6 c6 k6),
    b__law_refused_alone := ((fun_mk (st := (top 25)) l6 c6 k6).binds (ps := ["_law_text"]) fun _ _ _ _ _ _ us hl => match us, hl with | [_], _ => rfl),
    f__law_told := (_),
    d__law_told := (_),
    F__law_told := (fun_mk (st := (top 26)) l7 c7 k7),
    b__law_told := ((fun_mk (st := (top 26)) l7 c7 k7).binds (ps := ["_law_text"]) fun _ _ _ _ _ _ us hl => match us, hl with | [_], _ => rfl),
    f_asks_for := (_),
    d_asks_for := (_),
    F_asks_for := (fun_mk (st := (top 1)) l8 c8 k8),
    b_asks_for := ((fun_mk (st := (top 1)) l8 c8 k8).binds (ps := ["bar", "lamp"]) fun _ _ _ _ _ _ us hl => match us, hl with | [_, _], _ => rfl),
    f_shown_bar := (_),
    d_shown_bar := (_),
    F_shown_bar := (fun_mk (st := (top 17)) l9 c9 k9),
    b_shown_bar := ((fun_mk (st := (top 17)) l9 c9 k9).binds (ps := ["many", "bar"]) fun _ _ _ _ _ _ us hl => match us, hl with | [_, _], _ => rfl),
    f_law := (_),
    d_law := (_),
    F_law := (fun_mk (st := (top 27)) l10 c10 k10),
    b_law := ((fun_mk (st := (top 27)) l10 c10 k10).binds (ps := ["_law_script"]) fun _ _ _ _ _ _ us hl => match us, hl with | [_], _ => rfl),
    i_NoBar_NoBar := (kit_t kc1_NoBar kt_NoBar ki_NoBar_NoBar),
    i_NoBar_NoChart := (kit_f kc1_NoChart kt_NoChart ki_NoBar_NoChart ks_NoChart),
    i_NoBar_NoFence := (kit_f kc1_NoFence kt_NoFence ki_NoBar_NoFence ks_NoFence),
    i_NoBar_NoFormula := (kit_f kc1_NoFormula kt_NoFormula ki_NoBar_NoFormula ks_NoFormula),
    i_NoBar_NoFrame := (kit_f kc1_NoFrame kt_NoFrame ki_NoBar_NoFrame ks_NoFrame),
    i_NoBar_NoLine := (kit_f kc1_NoLine kt_NoLine ki_NoBar_NoLine ks_NoLine),
    i_NoBar_NoMachine := (kit_f kc1_NoMachine kt_NoMachine ki_NoBar_NoMachine ks_NoMachine),
    i_NoBar_NoName := (kit_f kc1_NoName kt_NoName ki_NoBar_NoName ks_NoName),
    i_NoBar_NoStep := (kit_f kc1_NoStep kt_NoStep ki_NoBar_NoStep ks_NoStep),
    i_NoBar_NotShut := (kit_f kc1_NotShut kt_NotShut ki_NoBar_NotShut ks_NotShut),
    i_NoBar_NothingLeft := (kit_f kc1_NothingLeft kt_NothingLeft ki_NoBar_NothingLeft ks_NothingLeft),
    i_NoBar_TooMany := (kit_f kc1_TooMany kt_TooMany ki_NoBar_TooMany ks_TooMany),
    m_EverError := (PySem.W.mg_of X G aC_EverError),
    m_NoBar := (PySem.W.mg_of X G aC_NoBar),
    m_NoChart := (PySem.W.mg_of X G aC_NoChart),
    m_NoFence := (PySem.W.mg_of X G aC_NoFence),
    m_NoFormula := (PySem.W.mg_of X G aC_NoFormula),
    m_NoFrame := (PySem.W.mg_of X G aC_NoFrame),
    m_NoLine := (PySem.W.mg_of X G aC_NoLine),
    m_NoMachine := (PySem.W.mg_of X G aC_NoMachine),
    m_NoName := (PySem.W.mg_of X G aC_NoName),
    m_NoStep := (PySem.W.mg_of X G aC_NoStep),
    m_NotShut := (PySem.W.mg_of X G aC_NotShut),
    m_NothingLeft := (PySem.W.mg_of X G aC_NothingLeft),
    m_TooMany := (PySem.W.mg_of X G aC_TooMany),
    e_NoBar := (⟨xx_NoBar, xk_NoBar, xb_NoBar, xt_NoBar⟩),
    x_NoBar_EverError := (PySem.W.exm_ref xb_EverError xd_EverError xt_EverError ki_NoBar_EverError),
    x_NoBar_NoBar := (PySem.W.exm_ref xb_NoBar xd_NoBar xt_NoBar ki_NoBar_NoBar),
    xc_NoBar := (⟨xg_NoBar, xa_NoBar, xb_NoBar, xd_NoBar, xl_NoBar, xn_o, xh_o, xm_NoBar⟩),
    ib_NoBar_ValueError := (ib_NoBar_ValueError),
    n_ValueError := (PySem.W.mg_none_of X G z_ValueError),
    n_bool := (PySem.W.mg_none_of X G z_bool),
    n_enumerate := (PySem.W.mg_none_of X G z_enumerate),
    n_int := (PySem.W.mg_none_of X G z_int),
    n_isinstance := (PySem.W.mg_none_of X G z_isinstance),
    n_len := (PySem.W.mg_none_of X G z_len),
    n_range := (PySem.W.mg_none_of X G z_range),
    n_str := (PySem.W.mg_none_of X G z_str),
    n_tuple := (PySem.W.mg_none_of X G z_tuple) })⟩
end E
open PySem PySem.W PyProof.Rows
set_option maxRecDepth 100000 in
set_option maxHeartbeats 0 in
theorem PySem.Challenge.cw_evernever_k25_bars_as_signs_holds : PySem.Challenge.rw_evernever_k25_bars_as_signs.Holds := by
  w_on; o_law; k_head; (case hw => w_witness2)
  k_fill
  refine L2.walk_of (l := PySem.Challenge.rw_evernever_k25_bars_as_signs) (n := 63) (k := 4) (x := "_law_script") (CX := fun _ => L2.CX0) (sp := fun w => E.spLaw _) rfl (by decide) rfl ⟨rfl, by decide, by decide⟩ (fun w h Y => PySem.W.kIn_of Y) ?F (fun _ _ a ns hl _ hS => ⟨a, ns, rfl, hS, hl, fun _ => rfl⟩) (fun _ _ _ _ _ h => h)
  case F =>
    intro w mg fa h KX G hmg
    refine' E.all_mk KX G hmg ?a0 ?a1 ?a2 ?a3 ?a4 ?a5 ?a6 ?a7 ?a8 ?a9 ?a10 ?l0 ?c0 ?k0 ?l1 ?c1 ?k1 ?l2 ?c2 ?k2 ?l3 ?c3 ?k3 ?l4 ?c4 ?k4 ?l5 ?c5 ?k5 ?l6 ?c6 ?k6 ?l7 ?c7 ?k7 ?l8 ?c8 ?k8 ?l9 ?c9 ?k9 ?l10 ?c10 ?k10 ?aC_EverError ?aC_NoBar ?aC_NoChart ?aC_NoFence ?aC_NoFormula ?aC_NoFrame ?aC_NoLine ?aC_NoMachine ?aC_NoName ?aC_NoStep ?aC_NotShut ?aC_NothingLeft ?aC_TooMany ?kc1_NoBar ?kt_NoBar ?ks_NoBar ?ki_NoBar_NoBar ?kc1_NoChart ?kt_NoChart ?ks_NoChart ?ki_NoBar_NoChart ?kc1_NoFence ?kt_NoFence ?ks_NoFence ?ki_NoBar_NoFence ?kc1_NoFormula ?kt_NoFormula ?ks_NoFormula ?ki_NoBar_NoFormula ?kc1_NoFrame ?kt_NoFrame ?ks_NoFrame ?ki_NoBar_NoFrame ?kc1_NoLine ?kt_NoLine ?ks_NoLine ?ki_NoBar_NoLine ?kc1_NoMachine ?kt_NoMachine ?ks_NoMachine ?ki_NoBar_NoMachine ?kc1_NoName ?kt_NoName ?ks_NoName ?ki_NoBar_NoName ?kc1_NoStep ?kt_NoStep ?ks_NoStep ?ki_NoBar_NoStep ?kc1_NotShut ?kt_NotShut ?ks_NotShut ?ki_NoBar_NotShut ?kc1_NothingLeft ?kt_NothingLeft ?ks_NothingLeft ?ki_NoBar_NothingLeft ?kc1_TooMany ?kt_TooMany ?ks_TooMany ?ki_NoBar_TooMany ?xx_NoBar ?xk_NoBar ?xb_NoBar ?xt_NoBar ?xb_EverError ?xd_EverError ?xt_EverError ?ki_NoBar_EverError ?xd_NoBar ?xg_NoBar ?xa_NoBar ?xl_NoBar ?xn_o ?xh_o ?xm_NoBar ?ib_NoBar_ValueError ?z_ValueError ?z_bool ?z_enumerate ?z_int ?z_isinstance ?z_len ?z_range ?z_str ?z_tuple
    (case a0 => k_is)
    (case a1 => k_is)
    (case a2 => k_is)
    (case a3 => k_is)
    (case a4 => k_is)
    (case a5 => k_is)
    (case a6 => k_is)
    (case a7 => k_is)
    (case a8 => k_is)
    (case a9 => k_is)
    (case a10 => k_is)
    (case l0 => k_is)
    (case c0 => k_is)
    (case k0 => k_is)
    (case l1 => k_is)
    (case c1 => k_is)
    (case k1 => k_is)
    (case l2 => k_is)
    (case c2 => k_is)
    (case k2 => k_is)
    (case l3 => k_is)
    (case c3 => k_is)
    (case k3 => k_is)
    (case l4 => k_is)
    (case c4 => k_is)
    (case k4 => k_is)
    (case l5 => k_is)
    (case c5 => k_is)
    (case k5 => k_is)
    (case l6 => k_is)
    (case c6 => k_is)
    (case k6 => k_is)
    (case l7 => k_is)
    (case c7 => k_is)
    (case k7 => k_is)
    (case l8 => k_is)
    (case c8 => k_is)
    (case k8 => k_is)
    (case l9 => k_is)
    (case c9 => k_is)
    (case k9 => k_is)
    (case l10 => k_is)
    (case c10 => k_is)
    (case k10 => k_is)
    (case aC_EverError => k_is)
    (case aC_NoBar => k_is)
    (case aC_NoChart => k_is)
    (case aC_NoFence => k_is)
    (case aC_NoFormula => k_is)
    (case aC_NoFrame => k_is)
    (case aC_NoLine => k_is)
    (case aC_NoMachine => k_is)
    (case aC_NoName => k_is)
    (case aC_NoStep => k_is)
    (case aC_NotShut => k_is)
    (case aC_NothingLeft => k_is)
    (case aC_TooMany => k_is)
    (case kc1_NoBar => k_is)
    (case kt_NoBar => k_is)
    (case ks_NoBar => k_is)
    (case ki_NoBar_NoBar => k_is)
    (case kc1_NoChart => k_is)
    (case kt_NoChart => k_is)
    (case ks_NoChart => k_is)
    (case ki_NoBar_NoChart => k_is)
    (case kc1_NoFence => k_is)
    (case kt_NoFence => k_is)
    (case ks_NoFence => k_is)
    (case ki_NoBar_NoFence => k_is)
    (case kc1_NoFormula => k_is)
    (case kt_NoFormula => k_is)
    (case ks_NoFormula => k_is)
    (case ki_NoBar_NoFormula => k_is)
    (case kc1_NoFrame => k_is)
    (case kt_NoFrame => k_is)
    (case ks_NoFrame => k_is)
    (case ki_NoBar_NoFrame => k_is)
    (case kc1_NoLine => k_is)
    (case kt_NoLine => k_is)
    (case ks_NoLine => k_is)
    (case ki_NoBar_NoLine => k_is)
    (case kc1_NoMachine => k_is)
    (case kt_NoMachine => k_is)
    (case ks_NoMachine => k_is)
    (case ki_NoBar_NoMachine => k_is)
    (case kc1_NoName => k_is)
    (case kt_NoName => k_is)
    (case ks_NoName => k_is)
    (case ki_NoBar_NoName => k_is)
    (case kc1_NoStep => k_is)
    (case kt_NoStep => k_is)
    (case ks_NoStep => k_is)
    (case ki_NoBar_NoStep => k_is)
    (case kc1_NotShut => k_is)
    (case kt_NotShut => k_is)
    (case ks_NotShut => k_is)
    (case ki_NoBar_NotShut => k_is)
    (case kc1_NothingLeft => k_is)
    (case kt_NothingLeft => k_is)
    (case ks_NothingLeft => k_is)
    (case ki_NoBar_NothingLeft => k_is)
    (case kc1_TooMany => k_is)
    (case kt_TooMany => k_is)
    (case ks_TooMany => k_is)
    (case ki_NoBar_TooMany => k_is)
    (case xx_NoBar => k_exc)
    (case xk_NoBar => k_is)
    (case xb_NoBar => k_is)
    (case xt_NoBar => k_is)
    (case xb_EverError => k_is)
    (case xd_EverError => k_is)
    (case xt_EverError => k_is)
    (case ki_NoBar_EverError => k_is)
    (case xd_NoBar => k_is)
    (case xg_NoBar => k_is)
    (case xa_NoBar => k_is)
    (case xl_NoBar => k_is)
    (case xn_o => k_is)
    (case xh_o => k_is)
    (case xm_NoBar => k_is)
    (case ib_NoBar_ValueError => k_is)
    (case z_ValueError => k_is)
    (case z_bool => k_is)
    (case z_enumerate => k_is)
    (case z_int => k_is)
    (case z_isinstance => k_is)
    (case z_len => k_is)
    (case z_range => k_is)
    (case z_str => k_is)
    (case z_tuple => k_is)
#print axioms PySem.Challenge.cw_evernever_k25_bars_as_signs_holds
