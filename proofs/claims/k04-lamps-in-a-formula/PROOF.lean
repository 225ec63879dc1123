import PyProof.Rows.All
import Wide.All
import OpenK.AllK
import Wide.FinOn
import HandS.ForMost
import HandS.ForExc
import HandS.ExcIs
import HandS.Small
import HandS.Text
import KE.KDictSum
import HandS.IsInst
import HandS.WideBits
import HandS.Wide
import HandS.WideMore
import HandS.Steps
import HandS.SortRule
import HandS.SortInts
import HandS.TupLe
import HandS.RevTup
import HandS.Rev
import HandS.Iter
import KE.KDictList
import PySem.Challenge.RW_evernever_k04_lamps_in_a_formula
set_option Elab.async false
set_option linter.all false
set_option maxRecDepth 100000
set_option maxHeartbeats 8000000
namespace Z
open PySem PySem.Spec PyProof.Rows L2

/-! ### Option as the monad of a mirror: what an answer is wanted for -/
def OP {α : Type} (m : Option α) (A : α → Prop) : Prop := match m with
  | some a => A a
  | none => False
theorem OP.bind {α β : Type} {m : Option α} {k : α → Option β} {A : β → Prop} (h : OP (m.bind k) A) : ∃ x, m = some x ∧ OP (k x) A := by
  cases m with
  | none => exact h.elim
  | some x => exact ⟨x, rfl, h⟩
theorem OP.of {α β : Type} {m : Option α} {k : α → Option β} {A : β → Prop} (h : OP (m.bind k) A) : OP m (fun x => OP (k x) A) := by
  cases m with
  | none => exact h.elim
  | some x => exact h
theorem OP.some {α : Type} {a : α} {A : α → Prop} (h : OP (some a) A) : A a := h
theorem OP.get {α : Type} {m : Option α} {A : α → Prop} (h : OP m A) : ∃ a, m = .some a ∧ A a := by
  cases m with
  | none => exact h.elim
  | some x => exact ⟨x, rfl, h⟩
theorem OP.mk {α : Type} {m : Option α} {a : α} {A : α → Prop} (e : m = .some a) (h : A a) : OP m A := by subst e; exact h
theorem OP.mono {α : Type} {m : Option α} {A B : α → Prop} (h : OP m A) (f : ∀ a, A a → B a) : OP m B := by
  cases m with
  | none => exact h.elim
  | some x => exact f _ h
/-- a guard -/
@[irreducible] def grd {β : Type} (c : Prop) [Decidable c] (k : Option β) : Option β := if c then k else none
theorem OP.grd {β : Type} {c : Prop} {_ : Decidable c} {k : Option β} {A : β → Prop} (h : OP (Z.grd c k) A) : c ∧ OP k A := by
  unfold Z.grd at h
  by_cases hc : c
  · rw [if_pos hc] at h
    exact ⟨hc, h⟩
  · rw [if_neg hc] at h
    exact h.elim
theorem grd_some {β : Type} {c : Prop} {_ : Decidable c} {k : Option β} {r : β} (h : Z.grd c k = some r) : c ∧ k = some r := by
  unfold Z.grd at h
  by_cases hc : c
  · rw [if_pos hc] at h
    exact ⟨hc, h⟩
  · rw [if_neg hc] at h
    cases h
theorem grd_of {β : Type} {c : Prop} [Decidable c] {k : Option β} (h : c) : Z.grd c k = k := by
  unfold Z.grd
  rw [if_pos h]
theorem bind_some {α β : Type} {m : Option α} {k : α → Option β} {r : β} (h : m.bind k = some r) : ∃ x, m = some x ∧ k x = some r := by
  cases m with
  | none => cases h
  | some x => exact ⟨x, rfl, h⟩
/-- a mirror's test -/
@[irreducible] def ifo {α : Type} (c : Bool) (m n : Option α) : Option α := if c = true then m else n
theorem ifo_eq {α : Type} (c : Bool) (m n : Option α) : ifo c m n = if c = true then m else n := by unfold ifo; rfl
theorem ifo_t {α : Type} {c : Bool} {m n : Option α} (h : c = true) : ifo c m n = m := by rw [ifo_eq, if_pos h]
theorem ifo_f {α : Type} {c : Bool} {m n : Option α} (h : c = false) : ifo c m n = n := by rw [ifo_eq, if_neg (by rw [h]; exact Bool.false_ne_true)]
/-- a mirror's loops: without, with an early answer -/
def forO' {α σ : Type} (body : α → σ → Option σ) : List α → σ → Option σ
  | [], s => some s
  | x :: xs, s => (body x s).bind fun s' => forO' body xs s'
@[irreducible] def forO {α σ : Type} (body : α → σ → Option σ) (xs : List α) (s : σ) : Option σ := forO' body xs s
def forR' {α σ ρ : Type} (body : α → σ → Option (σ ⊕ ρ)) : List α → σ → Option (σ ⊕ ρ)
  | [], s => some (.inl s)
  | x :: xs, s => (body x s).bind fun r => match r with
    | .inl s' => forR' body xs s'
    | .inr v => some (.inr v)
@[irreducible] def forR {α σ ρ : Type} (body : α → σ → Option (σ ⊕ ρ)) (xs : List α) (s : σ) : Option (σ ⊕ ρ) := forR' body xs s
def whileO' {σ : Type} (c : σ → Option Bool) (body : σ → Option σ) : Nat → σ → Option σ
  | 0, _ => none
  | n + 1, s => (c s).bind fun b => if b = true then (body s).bind fun s' => whileO' c body n s' else some s
@[irreducible] def whileO {σ : Type} (c : σ → Option Bool) (body : σ → Option σ) (n : Nat) (s : σ) : Option σ := whileO' c body n s
def whileR' {σ ρ : Type} (c : σ → Option Bool) (body : σ → Option (σ ⊕ ρ)) : Nat → σ → Option (σ ⊕ ρ)
  | 0, _ => none
  | n + 1, s => (c s).bind fun b => if b = true then (body s).bind fun r => match r with
    | .inl s' => whileR' c body n s'
    | .inr v => some (.inr v) else some (.inl s)
@[irreducible] def whileR {σ ρ : Type} (c : σ → Option Bool) (body : σ → Option (σ ⊕ ρ)) (n : Nat) (s : σ) : Option (σ ⊕ ρ) := whileR' c body n s
theorem forO_nil {α σ : Type} {body : α → σ → Option σ} {s : σ} : forO body [] s = some s := by unfold forO; rfl
theorem forO_cons {α σ : Type} {body : α → σ → Option σ} {x : α} {xs : List α} {s : σ} : forO body (x :: xs) s = (body x s).bind fun s' => forO body xs s' := by unfold forO; rfl
theorem forR_nil {α σ ρ : Type} {body : α → σ → Option (σ ⊕ ρ)} {s : σ} : forR body [] s = some (.inl s) := by unfold forR; rfl
theorem forR_cons {α σ ρ : Type} {body : α → σ → Option (σ ⊕ ρ)} {x : α} {xs : List α} {s : σ} : forR body (x :: xs) s = (body x s).bind fun r => match r with
    | .inl s' => forR body xs s'
    | .inr v => some (.inr v) := by unfold forR; rfl
theorem whileO_zero {σ : Type} {c : σ → Option Bool} {body : σ → Option σ} {s : σ} : whileO c body 0 s = none := by unfold whileO; rfl
theorem whileO_succ {σ : Type} {c : σ → Option Bool} {body : σ → Option σ} {n : Nat} {s : σ} : whileO c body (n + 1) s = (c s).bind fun b => if b = true then (body s).bind fun s' => whileO c body n s' else some s := by unfold whileO; rfl
theorem whileR_zero {σ ρ : Type} {c : σ → Option Bool} {body : σ → Option (σ ⊕ ρ)} {s : σ} : whileR c body 0 s = none := by unfold whileR; rfl
theorem whileR_succ {σ ρ : Type} {c : σ → Option Bool} {body : σ → Option (σ ⊕ ρ)} {n : Nat} {s : σ} : whileR c body (n + 1) s = (c s).bind fun b => if b = true then (body s).bind fun r => match r with
    | .inl s' => whileR c body n s'
    | .inr v => some (.inr v) else some (.inl s) := by unfold whileR; rfl
def rangeI (lo : Int) (n : Nat) : List Int := (List.range n).map fun (i : Nat) => lo + (i : Int)

/-! ### a datum of Lean's at a value of the heap -/
structure Rep (K : PySem.W.Frag) (α : Type) where
  R : Hp → V → α → Prop
  mono : ∀ {H H' : Hp} {v : V} {x : α}, Same H H' → R H v x → R H' v x
abbrev RL {K : PySem.W.Frag} {α : Type} (τ : Rep K α) (H : Hp) (ws : List V) (xs : List α) : Prop := Paired (τ.R H) ws xs
theorem RL.mono {K : PySem.W.Frag} {α : Type} {τ : Rep K α} {H H' : Hp} (e : Same H H') : ∀ {ws : List V} {xs : List α}, RL τ H ws xs → RL τ H' ws xs
  | _, _, .nil => .nil
  | _, _, .cons a b => .cons (τ.mono e a) (RL.mono e b)
theorem RL.length {K : PySem.W.Frag} {α : Type} {τ : Rep K α} {H : Hp} {ws : List V} {xs : List α} (h : RL τ H ws xs) : ws.length = xs.length := Paired.length h
theorem RL.app {K : PySem.W.Frag} {α : Type} {τ : Rep K α} {H : Hp} : ∀ {ws ws' : List V} {xs xs' : List α}, RL τ H ws xs → RL τ H ws' xs' → RL τ H (ws ++ ws') (xs ++ xs')
  | _, _, _, _, .nil, s => s
  | _, _, _, _, .cons a b, s => .cons a (RL.app b s)
theorem RL.get {K : PySem.W.Frag} {α : Type} {τ : Rep K α} {H : Hp} : ∀ {ws : List V} {xs : List α} {i : Nat} {x : α}, RL τ H ws xs → xs[i]? = some x → ∃ w, ws[i]? = some w ∧ τ.R H w x
  | _, _, _, _, .nil, e => by simp at e
  | _, _, 0, _, .cons r _, e => by simp at e; subst e; exact ⟨_, rfl, r⟩
  | _, _, i + 1, x, .cons _ t, e => by
    obtain ⟨w, h1, h2⟩ := RL.get (i := i) (x := x) t (by simpa using e)
    exact ⟨w, by simpa using h1, h2⟩
theorem RL.set {K : PySem.W.Frag} {α : Type} {τ : Rep K α} {H : Hp} {v : V} {x : α} (r : τ.R H v x) : ∀ {ws : List V} {xs : List α} (i : Nat), RL τ H ws xs → RL τ H (ws.set i v) (xs.set i x)
  | _, _, _, .nil => .nil
  | _, _, 0, .cons _ t => .cons r t
  | _, _, i + 1, .cons q t => .cons q (RL.set r i t)
theorem RL.drop {K : PySem.W.Frag} {α : Type} {τ : Rep K α} {H : Hp} : ∀ {ws : List V} {xs : List α} (n : Nat), RL τ H ws xs → RL τ H (ws.drop n) (xs.drop n)
  | _, _, 0, r => r
  | _, _, _ + 1, .nil => .nil
  | _, _, n + 1, .cons _ t => RL.drop n t
theorem RL.take {K : PySem.W.Frag} {α : Type} {τ : Rep K α} {H : Hp} : ∀ {ws : List V} {xs : List α} (n : Nat), RL τ H ws xs → RL τ H (ws.take n) (xs.take n)
  | _, _, 0, _ => .nil
  | _, _, _ + 1, .nil => .nil
  | _, _, n + 1, .cons r t => .cons r (RL.take n t)
theorem RL.dropLast {K : PySem.W.Frag} {α : Type} {τ : Rep K α} {H : Hp} {ws : List V} {xs : List α} (h : RL τ H ws xs) : RL τ H ws.dropLast xs.dropLast := by
  rw [List.dropLast_eq_take, List.dropLast_eq_take, h.length]
  exact h.take _
theorem RL.reverse {K : PySem.W.Frag} {α : Type} {τ : Rep K α} {H : Hp} : ∀ {ws : List V} {xs : List α}, RL τ H ws xs → RL τ H ws.reverse xs.reverse
  | _, _, .nil => .nil
  | _, _, .cons r t => by
    rw [List.reverse_cons, List.reverse_cons]
    exact (RL.reverse t).app (.cons r .nil)
theorem RL.map {K : PySem.W.Frag} {α : Type} {τ : Rep K α} {H : Hp} (f : α → V) (hf : ∀ x, τ.R H (f x) x) : ∀ xs : List α, RL τ H (xs.map f) xs
  | [] => .nil
  | x :: xs => .cons (hf x) (RL.map f hf xs)
theorem RL.eqmap {K : PySem.W.Frag} {α : Type} {τ : Rep K α} {H : Hp} (f : α → V) (hf : ∀ v x, τ.R H v x → v = f x) : ∀ {ws : List V} {xs : List α}, RL τ H ws xs → ws = xs.map f
  | _, _, .nil => rfl
  | _, _, .cons r t => by
    rw [List.map_cons, hf _ _ r, RL.eqmap f hf t]

section
variable {K : PySem.W.Frag}
def qI : Rep K Int := ⟨fun _ v x => v = .int x, fun _ h => h⟩
def qB : Rep K Bool := ⟨fun _ v x => v = .bl x, fun _ h => h⟩
def qS : Rep K Str := ⟨fun _ v x => v = .str x, fun _ h => h⟩
def qU : Rep K Unit := ⟨fun _ v _ => v = .non, fun _ h => h⟩
def qOpt {α : Type} (τ : Rep K α) : Rep K (Option α) := ⟨fun H v x => match x with | none => v = .non | some y => v ≠ .non ∧ τ.R H v y, fun {H H' v x} e h => by
  cases x with
  | none => exact h
  | some y => exact ⟨h.1, τ.mono e h.2⟩⟩
def qT2 {α β : Type} (τ : Rep K α) (υ : Rep K β) : Rep K (α × β) := ⟨fun H v x => ∃ a w1 w2, v = .ref a ∧ H a = some (.tup [w1, w2]) ∧ τ.R H w1 x.1 ∧ υ.R H w2 x.2, fun {H H' v x} e h => by
  obtain ⟨a, w1, w2, h1, h2, h3, h4⟩ := h
  exact ⟨a, w1, w2, h1, e _ _ h2, τ.mono e h3, υ.mono e h4⟩⟩
def qT3 {α β γ : Type} (τ : Rep K α) (υ : Rep K β) (φ : Rep K γ) : Rep K (α × β × γ) := ⟨fun H v x => ∃ a w1 w2 w3, v = .ref a ∧ H a = some (.tup [w1, w2, w3]) ∧ τ.R H w1 x.1 ∧ υ.R H w2 x.2.1 ∧ φ.R H w3 x.2.2, fun {H H' v x} e h => by
  obtain ⟨a, w1, w2, w3, h1, h2, h3, h4, h5⟩ := h
  exact ⟨a, w1, w2, w3, h1, e _ _ h2, τ.mono e h3, υ.mono e h4, φ.mono e h5⟩⟩
/-- a list that is tracked -/
def qL {α : Type} (τ : Rep K α) : Rep K (List α) := ⟨fun H v x => ∃ a ws, v = .ref a ∧ H a = some (.lst ws) ∧ RL τ H ws x, fun {H H' v x} e h => by
  obtain ⟨a, ws, h1, h2, h3⟩ := h
  exact ⟨a, ws, h1, e _ _ h2, RL.mono e h3⟩⟩
/-- a list that is to be read (the script) -/
def qQ {α : Type} (τ : Rep K α) : Rep K (List α) := ⟨fun H v x => ∃ a ws, v = .ref a ∧ SqL K H a ws ∧ RL τ H ws x, fun {H H' v x} e h => by
  obtain ⟨a, ws, h1, h2, h3⟩ := h
  exact ⟨a, ws, h1, e.seq h2, RL.mono e h3⟩⟩
theorem qL_qQ {α : Type} {τ : Rep K α} {H : Hp} {v : V} {x : List α} (h : (qL τ).R H v x) : (qQ τ).R H v x := by
  obtain ⟨a, ws, h1, h2, h3⟩ := h
  exact ⟨a, ws, h1, SqL.of h2, h3⟩
end

/-! ### heaps: S what stands for good, H the whole; L the lists that a def may change -/
/-- what may change -/
def mo : HO → Bool
  | .tup _ => false
  | _ => true
structure Grow (L : List Addr) (S0 H0 S H : Hp) : Prop where
  ss : Same S0 S
  sh : Same S H
  hh : ∀ a o, a ∉ L → H0 a = some o → H a = some o
  fr : ∀ a o, S0 a = none → H0 a = some o → mo o = true → S a = none
  ne : ∀ a o, H0 a = some o → ∃ o', H a = some o' ∧ (mo o = true → mo o' = true)
/-- a cell: an object that may change -/
structure Cel (L : List Addr) (H0 S H : Hp) (l : Addr) (o : HO) : Prop where
  h : H l = some o
  s : S l = none
  z : H0 l = none ∨ l ∈ L
  m : mo o = true
section
variable {L L' : List Addr} {S0 H0 S H S' H' : Hp} {p l l' : Addr} {o o' : HO}
theorem sne {x : HO} {H : Hp} {a : Addr} (h : H a = some x) : H a ≠ none := by rw [h]; exact fun q => by cases q
theorem Grow.refl (h : Same S H) : Grow L S H S H := ⟨Same.refl _, h, fun _ _ _ e => e, fun _ _ e _ _ => e, fun _ o e => ⟨o, e, id⟩⟩
theorem Grow.ext (g : Grow L S0 H0 S H) (e : Same H H') : Grow L S0 H0 S H' :=
  ⟨g.ss, g.sh.trans e, fun a o hl ha => e _ _ (g.hh a o hl ha), g.fr, fun a o ha => by
    obtain ⟨o', h1, h2⟩ := g.ne a o ha
    exact ⟨o', e _ _ h1, h2⟩⟩
theorem Grow.snone (g : Grow L S0 H0 S H) (hp : H p = none) : S p = none := g.sh.free hp
theorem Grow.hnone (g : Grow L S0 H0 S H) (hp : H p = none) : H0 p = none := by
  cases z : H0 p with
  | none => rfl
  | some x =>
    obtain ⟨o', h1, _⟩ := g.ne p x z
    rw [hp] at h1; cases h1
theorem Grow.imm (g : Grow L S0 H0 S H) (hp : H p = none) : Grow L S0 H0 (upd S p o) (upd H p o) where
  ss := fun a x e => by rw [upd_ne (ne_of_none (g.ss a x e) (g.snone hp))]; exact g.ss a x e
  sh := fun a x e => by
    by_cases h : a = p
    · subst h
      rw [upd_same] at e ⊢
      exact e
    · rw [upd_ne h] at e ⊢
      exact g.sh a x e
  hh := fun a x hl e => by rw [upd_ne (ne_of_none (g.hh a x hl e) hp)]; exact g.hh a x hl e
  fr := fun a x e h m => by
    have n : a ≠ p := fun q => by subst q; rw [g.hnone hp] at h; cases h
    rw [upd_ne n]
    exact g.fr a x e h m
  ne := fun a x h => by
    have n : a ≠ p := fun q => by subst q; rw [g.hnone hp] at h; cases h
    rw [upd_ne n]; exact g.ne a x h
theorem Grow.cell (g : Grow L S0 H0 S H) (hp : H p = none) : Grow L S0 H0 S (upd H p o) := g.ext fun a x e => by rw [upd_ne (ne_of_none e hp)]; exact e
/-- a tuple that stands may be kept for good -/
theorem Grow.tup (g : Grow L S0 H0 S H) {ws : List V} (hp : H p = some (.tup ws)) : Grow L S0 H0 (upd S p (.tup ws)) H where
  ss := fun a x e => by
    by_cases h : a = p
    · subst h
      have q := g.sh _ _ (g.ss _ _ e)
      rw [hp] at q; cases q
      exact upd_same
    · rw [upd_ne h]; exact g.ss a x e
  sh := fun a x e => by
    by_cases h : a = p
    · subst h; rw [upd_same] at e; cases e; exact hp
    · rw [upd_ne h] at e; exact g.sh a x e
  hh := g.hh
  fr := fun a x e h m => by
    have n : a ≠ p := fun q => by
      subst q
      obtain ⟨o', h1, h2⟩ := g.ne _ _ h
      rw [hp] at h1; cases h1
      exact absurd (h2 m) Bool.false_ne_true
    rw [upd_ne n]; exact g.fr a x e h m
  ne := g.ne
theorem Grow.wr (g : Grow L S0 H0 S H) (c : Cel L H0 S H l o') (hm : mo o = true) : Grow L S0 H0 S (upd H l o) where
  ss := g.ss
  sh := fun a x e => by
    have n : a ≠ l := fun q => by subst q; rw [c.s] at e; cases e
    rw [upd_ne n]
    exact g.sh a x e
  hh := fun a x hl e => by
    have n : a ≠ l := fun q => by
      subst q
      rcases c.z with z | z
      · rw [z] at e; cases e
      · exact hl z
    rw [upd_ne n]
    exact g.hh a x hl e
  fr := g.fr
  ne := fun a x h => by
    by_cases q : a = l
    · subst q; exact ⟨o, upd_same, fun _ => hm⟩
    · rw [upd_ne q]; exact g.ne a x h
theorem Grow.call (g : Grow L S0 H0 S H) (c : Grow L' S H S' H') (hL : ∀ l ∈ L', H0 l = none ∨ l ∈ L) : Grow L S0 H0 S' H' where
  ss := g.ss.trans c.ss
  sh := c.sh
  hh := fun a x hl e => c.hh a x (fun q => by
    rcases hL a q with z | z
    · rw [z] at e; cases e
    · exact hl z) (g.hh a x hl e)
  fr := fun a x e h m => by
    obtain ⟨o', h1, h2⟩ := g.ne a x h
    exact c.fr a o' (g.fr a x e h m) h1 (h2 m)
  ne := fun a x h => by
    obtain ⟨o', h1, h2⟩ := g.ne a x h
    obtain ⟨o2, h3, h4⟩ := c.ne a o' h1
    exact ⟨o2, h3, fun m => h4 (h2 m)⟩
theorem Grow.call0 (g : Grow L S0 H0 S H) (c : Grow [] S H S' H') : Grow L S0 H0 S' H' := g.call c fun _ q => by cases q
theorem Grow.same0 (c : Grow [] S H S' H') : Same H H' := fun a o e => c.hh a o (fun q => by cases q) e
/-- a cell that is not to change any more -/
theorem Grow.freeze (g : Grow L S0 H0 S H) (c : Cel L H0 S H l o) (hl : H0 l = none) : Grow L S0 H0 (upd S l o) H where
  ss := fun a x e => by
    have q := g.ss a x e
    rw [upd_ne (ne_of_none q c.s)]; exact q
  sh := fun a x e => by
    by_cases h : a = l
    · subst h; rw [upd_same] at e; cases e; exact c.h
    · rw [upd_ne h] at e; exact g.sh a x e
  hh := g.hh
  fr := fun a x e h m => by
    have n : a ≠ l := fun q => by subst q; rw [hl] at h; cases h
    rw [upd_ne n]
    exact g.fr a x e h m
  ne := g.ne
theorem Cel.own (g : Grow L S0 H0 S H) (e : Same H H') (hp : H p = none) (hp' : H' p = some o) (hm : mo o = true) : Cel L H0 S H' p o := ⟨hp', g.snone hp, .inl (g.hnone hp), hm⟩
theorem Cel.ext (c : Cel L H0 S H l o) (e : Same H H') : Cel L H0 S H' l o := ⟨e _ _ c.h, c.s, c.z, c.m⟩
theorem Cel.wr (c : Cel L H0 S H l o) (hm : mo o' = true) : Cel L H0 S (upd H l o') l o' := ⟨upd_same, c.s, c.z, hm⟩
theorem Cel.wrn (c : Cel L H0 S H l o) (n : l ≠ l') : Cel L H0 S (upd H l' o') l o := ⟨by rw [upd_ne n]; exact c.h, c.s, c.z, c.m⟩
theorem Cel.call (c : Cel L H0 S H l o) (g : Grow L' S H S' H') (n : l ∉ L') : Cel L H0 S' H' l o := ⟨g.hh _ _ n c.h, g.fr _ _ c.s c.h c.m, c.z, c.m⟩
theorem Cel.call0 (c : Cel L H0 S H l o) (g : Grow [] S H S' H') : Cel L H0 S' H' l o := c.call g fun q => by cases q
theorem Cel.mut (c : Cel L H0 S H l o) (g : Grow L' S H S' H') (h : H' l = some o') (hm : mo o' = true) : Cel L H0 S' H' l o' := ⟨h, g.fr _ _ c.s c.h c.m, c.z, hm⟩
theorem Cel.freeze (c : Cel L H0 S H l o) (n : l ≠ l') : Cel L H0 (upd S l' o') H l o := ⟨c.h, by rw [upd_ne n]; exact c.s, c.z, c.m⟩
theorem Cel.ne (c : Cel L H0 S H l o) (hp : H p = none) : l ≠ p := ne_of_none c.h hp
theorem Cel.z0 (c : Cel [] H0 S H l o) : H0 l = none := c.z.elim id fun q => by cases q
theorem same_upd {H : Hp} {p : Addr} {o : HO} (h : H p = none) : Same H (upd H p o) := fun b x e => by
  rw [upd_ne (ne_of_none e h)]
  exact e
end
end Z

namespace Z
open PySem PySem.Spec PyProof.Rows L2

/-! ### the mirror's words -/
def lt {α β : Type} (e : α) (k : α → Option β) : Option β := k e
theorem OP.lt {α β : Type} {e : α} {k : α → Option β} {A : β → Prop} (h : OP (Z.lt e k) A) : ∃ x, e = x ∧ OP (k x) A := ⟨e, rfl, h⟩
theorem lt_some {α β : Type} {e : α} {k : α → Option β} {r : β} (h : Z.lt e k = some r) : ∃ x, e = x ∧ k x = some r := ⟨e, rfl, h⟩
theorem OP.cut {α β : Type} {m : Option α} {k : α → Option β} {A : β → Prop} (h : OP (m.bind k) A) : ∃ B : α → Prop, OP m B ∧ ∀ x, B x → OP (k x) A := ⟨_, OP.of h, fun _ z => z⟩
/-- an early answer, or what follows -/
def SE {σ ρ : Type} (B : σ → Prop) (A : ρ → Prop) : σ ⊕ ρ → Prop
  | .inl s => B s
  | .inr v => A v
def brk {σ ρ : Type} (m : Option (σ ⊕ ρ)) (k : σ → Option ρ) : Option ρ := m.bind fun r => match r with
  | .inl s => k s
  | .inr v => some v
theorem OP.brk {σ ρ : Type} {m : Option (σ ⊕ ρ)} {k : σ → Option ρ} {A : ρ → Prop} (h : OP (Z.brk m k) A) : ∃ B : σ → Prop, OP m (SE B A) ∧ ∀ x, B x → OP (k x) A := by
  refine ⟨fun x => OP (k x) A, ?_, fun _ z => z⟩
  cases m with
  | none => exact h.elim
  | some r => cases r with
    | inl s => exact h
    | inr v => exact h
def un2 {α β γ : Type} (f : α → β → γ) (s : α × β) : γ := f s.1 s.2
def un3 {α β γ δ : Type} (f : α → β → γ → δ) (s : α × β × γ) : δ := f s.1 s.2.1 s.2.2
def un4 {α β γ δ ε : Type} (f : α → β → γ → δ → ε) (s : α × β × γ × δ) : ε := f s.1 s.2.1 s.2.2.1 s.2.2.2
def un5 {α β γ δ ε ζ : Type} (f : α → β → γ → δ → ε → ζ) (s : α × β × γ × δ × ε) : ζ := f s.1 s.2.1 s.2.2.1 s.2.2.2.1 s.2.2.2.2
def un6 {α β γ δ ε ζ η : Type} (f : α → β → γ → δ → ε → ζ → η) (s : α × β × γ × δ × ε × ζ) : η := f s.1 s.2.1 s.2.2.1 s.2.2.2.1 s.2.2.2.2.1 s.2.2.2.2.2
def un0 {γ : Type} (f : γ) (_ : Unit) : γ := f
theorem OP.un0 {γ : Type} {f : Option γ} {u : Unit} {A : γ → Prop} (h : OP (Z.un0 f u) A) : OP f A := h
theorem OP.un2 {α β γ : Type} {f : α → β → Option γ} {a : α} {b : β} {A : γ → Prop} (h : OP (Z.un2 f (a, b)) A) : OP (f a b) A := h
theorem OP.un3 {α β γ δ : Type} {f : α → β → γ → Option δ} {a : α} {b : β} {c : γ} {A : δ → Prop} (h : OP (Z.un3 f (a, b, c)) A) : OP (f a b c) A := h
theorem OP.un4 {α β γ δ ε : Type} {f : α → β → γ → δ → Option ε} {a : α} {b : β} {c : γ} {d : δ} {A : ε → Prop} (h : OP (Z.un4 f (a, b, c, d)) A) : OP (f a b c d) A := h
theorem OP.un5 {α β γ δ ε ζ : Type} {f : α → β → γ → δ → ε → Option ζ} {a : α} {b : β} {c : γ} {d : δ} {e : ε} {A : ζ → Prop} (h : OP (Z.un5 f (a, b, c, d, e)) A) : OP (f a b c d e) A := h
theorem OP.un6 {α β γ δ ε ζ η : Type} {f : α → β → γ → δ → ε → ζ → Option η} {a : α} {b : β} {c : γ} {d : δ} {e : ε} {z : ζ} {A : η → Prop} (h : OP (Z.un6 f (a, b, c, d, e, z)) A) : OP (f a b c d e z) A := h
theorem OP.ite1 {α : Type} {c : Bool} {m n : Option α} {A : α → Prop} (hc : c = true) (h : OP (ifo c m n) A) : OP m A := by rw [ifo_t hc] at h; exact h
theorem OP.ite0 {α : Type} {c : Bool} {m n : Option α} {A : α → Prop} (hc : c = false) (h : OP (ifo c m n) A) : OP n A := by rw [ifo_f hc] at h; exact h
theorem OP.forO {α σ : Type} {body : α → σ → Option σ} {x : α} {xs : List α} {s : σ} {A : σ → Prop} (h : OP (Z.forO body (x :: xs) s) A) : OP (body x s) (fun s' => OP (Z.forO body xs s') A) := by
  rw [forO_cons] at h
  exact OP.of h
theorem OP.forO_nil {α σ : Type} {body : α → σ → Option σ} {s : σ} {A : σ → Prop} (h : OP (Z.forO body [] s) A) : A s := by
  rw [Z.forO_nil] at h
  exact h
theorem OP.forR {α σ ρ : Type} {body : α → σ → Option (σ ⊕ ρ)} {x : α} {xs : List α} {s : σ} {B : σ → Prop} {A : ρ → Prop} (h : OP (Z.forR body (x :: xs) s) (SE B A)) : OP (body x s) (SE (fun s' => OP (Z.forR body xs s') (SE B A)) A) := by
  rw [forR_cons] at h
  have q := OP.of h
  cases e : body x s with
  | none => rw [e] at q; exact q.elim
  | some r =>
    rw [e] at q
    cases r with
    | inl s' => exact q
    | inr v => exact q
theorem OP.forR_nil {α σ ρ : Type} {body : α → σ → Option (σ ⊕ ρ)} {s : σ} {B : σ → Prop} {A : ρ → Prop} (h : OP (Z.forR body [] s) (SE B A)) : B s := by
  rw [Z.forR_nil] at h
  exact h
theorem OP.whileO {σ : Type} {c : σ → Option Bool} {body : σ → Option σ} {n : Nat} {s : σ} {A : σ → Prop} (h : OP (Z.whileO c body n s) A) :
    ∃ n', n = n' + 1 ∧ OP (c s) (fun b => if b = true then OP (body s) (fun s' => OP (Z.whileO c body n' s') A) else A s) := by
  cases n with
  | zero => rw [whileO_zero] at h; exact h.elim
  | succ n' =>
    refine ⟨n', rfl, ?_⟩
    rw [whileO_succ] at h
    have q := OP.of h
    refine q.mono fun b z => ?_
    cases b with
    | true => exact OP.of z
    | false => exact z
theorem OP.whileR {σ ρ : Type} {c : σ → Option Bool} {body : σ → Option (σ ⊕ ρ)} {n : Nat} {s : σ} {B : σ → Prop} {A : ρ → Prop} (h : OP (Z.whileR c body n s) (SE B A)) :
    ∃ n', n = n' + 1 ∧ OP (c s) (fun b => if b = true then OP (body s) (SE (fun s' => OP (Z.whileR c body n' s') (SE B A)) A) else B s) := by
  cases n with
  | zero => rw [whileR_zero] at h; exact h.elim
  | succ n' =>
    refine ⟨n', rfl, ?_⟩
    rw [whileR_succ] at h
    have q := OP.of h
    refine q.mono fun b z => ?_
    cases b with
    | true =>
      have z' := OP.of z
      show OP (body s) _
      refine z'.mono fun r y => ?_
      cases r with
      | inl s' => exact y
      | inr v => exact y
    | false => exact z
@[irreducible] def bigN : Nat := 1000000
theorem bigN_eq : bigN = 1000000 := by unfold bigN; rfl

/-! ### ints -/
abbrev shl (i j : Int) : Int := i * 2 ^ j.toNat
abbrev shr (i j : Int) : Int := i / 2 ^ j.toNat
abbrev band (i j : Int) : Int := Builtin.bitAnd i j
abbrev bor (i j : Int) : Int := Builtin.bitOr i j
abbrev bxor (i j : Int) : Int := Builtin.bitXor i j
abbrev bnot (i : Int) : Int := Builtin.bitNot i
def blen (i : Int) : Int := ((Builtin.Int.intBits i : Nat) : Int)

/-! ### values of expressions that leave the heap as it is -/
section
variable {K : PySem.W.Frag} {σ σ' : L2.St} {H : Hp} {ta tb te : TE} {t u : TT} {x y z v : V} {i j : Int} {b c : Bool}
theorem v_eq {v w : V} (h : Val te σ H v) (e : v = w) : Val te σ H w := e ▸ h
theorem v_o2 {g : Int → Int → V} (ha : Val ta σ H (.int i)) (hb : Val tb σ H (.int j)) : Val (tOp (rI0 g) ta tb) σ H (g i j) := fun Q q => ha _ (hb _ ⟨i, j, rfl, rfl, q⟩)
theorem v_o2c {C : Int → Int → Prop} {g : Int → Int → V} (ha : Val ta σ H (.int i)) (hb : Val tb σ H (.int j)) (hc : C i j) : Val (tOp (rI C g) ta tb) σ H (g i j) := fun Q q => ha _ (hb _ ⟨i, j, rfl, rfl, hc, q⟩)
theorem v_u {g : Int → V} (ha : Val ta σ H (.int i)) : Val (tUn (rU g) ta) σ H (g i) := fun Q q => ha _ ⟨i, rfl, q⟩
theorem dec_int : decide (V.int i = V.int j) = decide (i = j) := decide_eq_decide.mpr ⟨V.int.inj, fun e => by rw [e]⟩
theorem dec_str {s t : Str} : decide (V.str s = V.str t) = decide (s = t) := decide_eq_decide.mpr ⟨V.str.inj, fun e => by rw [e]⟩
theorem dec_bl : decide (V.bl b = V.bl c) = decide (b = c) := decide_eq_decide.mpr ⟨V.bl.inj, fun e => by rw [e]⟩
theorem v_eqI (ha : Val ta σ H (.int i)) (hb : Val tb σ H (.int j)) : Val (tOp rEq ta tb) σ H (.bl (decide (i = j))) := fun Q q => ha _ (hb _ ⟨rfl, by rw [dec_int]; exact q⟩)
theorem v_neI (ha : Val ta σ H (.int i)) (hb : Val tb σ H (.int j)) : Val (tOp rNe ta tb) σ H (.bl (!decide (i = j))) := fun Q q => ha _ (hb _ ⟨rfl, by rw [dec_int]; exact q⟩)
theorem v_eqS {s t : Str} (ha : Val ta σ H (.str s)) (hb : Val tb σ H (.str t)) : Val (tOp rEq ta tb) σ H (.bl (decide (s = t))) := fun Q q => ha _ (hb _ ⟨rfl, by rw [dec_str]; exact q⟩)
theorem v_neS {s t : Str} (ha : Val ta σ H (.str s)) (hb : Val tb σ H (.str t)) : Val (tOp rNe ta tb) σ H (.bl (!decide (s = t))) := fun Q q => ha _ (hb _ ⟨rfl, by rw [dec_str]; exact q⟩)
theorem v_eqB (ha : Val ta σ H (.bl b)) (hb : Val tb σ H (.bl c)) : Val (tOp rEq ta tb) σ H (.bl (decide (b = c))) := fun Q q => ha _ (hb _ ⟨rfl, by rw [dec_bl]; exact q⟩)
theorem v_neB (ha : Val ta σ H (.bl b)) (hb : Val tb σ H (.bl c)) : Val (tOp rNe ta tb) σ H (.bl (!decide (b = c))) := fun Q q => ha _ (hb _ ⟨rfl, by rw [dec_bl]; exact q⟩)
theorem v_test (h : Val te σ H (.bl b)) : Ans (tTest te) σ H b := fun Q q => h _ ⟨b, rfl, q⟩
theorem v_B (h : Val te σ H (.bl b)) : Ans (tB te) σ H b := fun Q q => h _ ⟨b, rfl, q⟩
theorem a_eq (h : Ans t σ H b) (e : b = c) : Ans t σ H c := e ▸ h
theorem a_not (h : Ans t σ H b) : Ans (tNot t) σ H (!b) := fun Q q => h _ q
theorem a_and (h1 : Ans t σ H b) (h2 : Ans u σ H c) : Ans (tAnd t u) σ H (b && c) := fun Q q => h1 _ (by
  cases b with
  | true => exact (show (if true = true then u σ H Q else Q false H) from h2 _ q)
  | false => exact (show (if false = true then u σ H Q else Q false H) from q))
theorem a_or (h1 : Ans t σ H b) (h2 : Ans u σ H c) : Ans (tOr t u) σ H (b || c) := fun Q q => h1 _ (by
  cases b with
  | true => exact (show (if true = true then Q true H else u σ H Q) from q)
  | false => exact (show (if false = true then Q true H else u σ H Q) from h2 _ q))
theorem a_andP {m : Option Bool} (h1 : Ans t σ H b) (hm : ifo b m (some false) = some c) (h2 : b = true → m = some c → Ans u σ H c) : Ans (tAnd t u) σ H c := fun Q q => h1 _ (by
  cases b with
  | true => exact (show (if true = true then u σ H Q else Q false H) from h2 rfl (by first | (rw [ifo_t rfl] at hm; exact hm) | (rw [ifo_f rfl] at hm; exact hm)) _ q)
  | false =>
    have e : false = c := by rw [ifo_f rfl] at hm; exact Option.some.inj hm
    subst e
    exact (show (if false = true then u σ H Q else Q false H) from q))
theorem a_orP {m : Option Bool} (h1 : Ans t σ H b) (hm : ifo b (some true) m = some c) (h2 : b = false → m = some c → Ans u σ H c) : Ans (tOr t u) σ H c := fun Q q => h1 _ (by
  cases b with
  | true =>
    have e : true = c := by rw [ifo_t rfl] at hm; exact Option.some.inj hm
    subst e
    exact (show (if true = true then Q true H else u σ H Q) from q)
  | false => exact (show (if false = true then Q true H else u σ H Q) from h2 rfl (by first | (rw [ifo_t rfl] at hm; exact hm) | (rw [ifo_f rfl] at hm; exact hm)) _ q))
theorem v_and (h1 : Val ta σ H (.bl b)) (h2 : Val tb σ H (.bl c)) : Val (tAndV ta tb) σ H (.bl (b && c)) := fun Q q => h1 _ ⟨b, rfl, by
  cases b with
  | true => exact (show (if true = true then tb σ H Q else Q (.bl false) H) from h2 _ q)
  | false => exact (show (if false = true then tb σ H Q else Q (.bl false) H) from q)⟩
theorem v_or (h1 : Val ta σ H (.bl b)) (h2 : Val tb σ H (.bl c)) : Val (tOrV ta tb) σ H (.bl (b || c)) := fun Q q => h1 _ ⟨b, rfl, by
  cases b with
  | true => exact (show (if true = true then Q (.bl true) H else tb σ H Q) from q)
  | false => exact (show (if false = true then Q (.bl true) H else tb σ H Q) from h2 _ q)⟩
theorem v_not (h : Val ta σ H (.bl b)) : Val (tNotV ta) σ H (.bl (!b)) := fun Q q => h _ ⟨b, rfl, q⟩
theorem v_andP {m : Option Bool} (h1 : Val ta σ H (.bl b)) (hm : ifo b m (some false) = some c) (h2 : b = true → m = some c → Val tb σ H (.bl c)) : Val (tAndV ta tb) σ H (.bl c) := fun Q q => h1 _ ⟨b, rfl, by
  cases b with
  | true => exact (show (if true = true then tb σ H Q else Q (.bl false) H) from h2 rfl (by first | (rw [ifo_t rfl] at hm; exact hm) | (rw [ifo_f rfl] at hm; exact hm)) _ q)
  | false =>
    have e : false = c := by rw [ifo_f rfl] at hm; exact Option.some.inj hm
    subst e
    exact (show (if false = true then tb σ H Q else Q (.bl false) H) from q)⟩
theorem v_orP {m : Option Bool} (h1 : Val ta σ H (.bl b)) (hm : ifo b (some true) m = some c) (h2 : b = false → m = some c → Val tb σ H (.bl c)) : Val (tOrV ta tb) σ H (.bl c) := fun Q q => h1 _ ⟨b, rfl, by
  cases b with
  | true =>
    have e : true = c := by rw [ifo_t rfl] at hm; exact Option.some.inj hm
    subst e
    exact (show (if true = true then Q (.bl true) H else tb σ H Q) from q)
  | false => exact (show (if false = true then Q (.bl true) H else tb σ H Q) from h2 rfl (by first | (rw [ifo_t rfl] at hm; exact hm) | (rw [ifo_f rfl] at hm; exact hm)) _ q)⟩
/-- t[0], t[1] of a pair, xs[i] -/
theorem v_t20 {β : Type} {υ : Rep K β} {p : Int × β} (ha : Val ta σ H v) (hb : Val tb σ H (.int 0)) (hr : (qT2 qI υ).R H v p) : Val (tOp (rIxT K) ta tb) σ H (.int p.1) := by
  obtain ⟨a, w1, w2, rfl, h2, h3, _⟩ := hr
  cases (show w1 = .int p.1 from h3)
  exact fun Q q => ha _ (hb _ ⟨a, _, 0, _, rfl, rfl, SqT.of h2, rfl, q⟩)
theorem v_t21 {α : Type} {τ : Rep K α} {p : α × Int} (ha : Val ta σ H v) (hb : Val tb σ H (.int 1)) (hr : (qT2 τ qI).R H v p) : Val (tOp (rIxT K) ta tb) σ H (.int p.2) := by
  obtain ⟨a, w1, w2, rfl, h2, _, h3⟩ := hr
  cases (show w2 = .int p.2 from h3)
  exact fun Q q => ha _ (hb _ ⟨a, _, 1, _, rfl, rfl, SqT.of h2, rfl, q⟩)
theorem atI_get {α β : Type} {R : α → β → Prop} {ws : List α} {xs : List β} {k : Int} {x : β} (hl : ws.length = xs.length) (hg : ∀ (j : Nat), xs[j]? = some x → ∃ w, ws[j]? = some w ∧ R w x) (h : atI xs k = some x) : ∃ w, atI ws k = some w ∧ R w x := by
  unfold atI at h ⊢
  rw [hl]
  cases e : ixN xs.length k with
  | none => rw [e] at h; cases h
  | some j => rw [e] at h; exact hg j h
theorem RL.at {α : Type} {τ : Rep K α} {ws : List V} {xs : List α} {k : Int} {x : α} (r : RL τ H ws xs) (h : atI xs k = some x) : ∃ w, atI ws k = some w ∧ τ.R H w x := atI_get r.length (fun _ e => r.get e) h
theorem v_ixq {α : Type} {τ : Rep K α} {xs : List α} {q : α} (ha : Val ta σ H v) (hb : Val tb σ H (.int i)) (hr : (qQ τ).R H v xs) (hx : atI xs i = some q) : ∃ w, Val (tOp (rIxL K) ta tb) σ H w ∧ τ.R H w q := by
  obtain ⟨a, ws, rfl, h2, h3⟩ := hr
  obtain ⟨w, e, r⟩ := h3.at hx
  exact ⟨w, fun Q z => ha _ (hb _ ⟨a, ws, i, w, rfl, rfl, h2, e, z⟩), r⟩
theorem v_ixI {xs : List Int} {q : Int} (ha : Val ta σ H v) (hb : Val tb σ H (.int i)) (hr : (qQ (K := K) qI).R H v xs) (hx : atI xs i = some q) : Val (tOp (rIxL K) ta tb) σ H (.int q) := by
  obtain ⟨w, h, r⟩ := v_ixq ha hb hr hx
  cases (show w = .int q from r)
  exact h
theorem v_ixB {xs : List Bool} {q : Bool} (ha : Val ta σ H v) (hb : Val tb σ H (.int i)) (hr : (qQ (K := K) qB).R H v xs) (hx : atI xs i = some q) : Val (tOp (rIxL K) ta tb) σ H (.bl q) := by
  obtain ⟨w, h, r⟩ := v_ixq ha hb hr hx
  cases (show w = .bl q from r)
  exact h
theorem v_ixS {xs : List Str} {q : Str} (ha : Val ta σ H v) (hb : Val tb σ H (.int i)) (hr : (qQ (K := K) qS).R H v xs) (hx : atI xs i = some q) : Val (tOp (rIxL K) ta tb) σ H (.str q) := by
  obtain ⟨w, h, r⟩ := v_ixq ha hb hr hx
  cases (show w = .str q from r)
  exact h
/-- what a list's length, a tuple's length tells -/
def rLenS (K : PySem.W.Frag) : List V → Hp → VK → Prop := fun xs H Q => ∃ p ys, xs = [.ref p] ∧ (SqL K H p ys ∨ SqT K H p ys) ∧ Q (.int ys.length) H
theorem v_len {α : Type} {τ : Rep K α} {xs : List α} (ha : Val ta σ H v) (hr : (qQ τ).R H v xs) : Val (tCB (rLenS K) (tCons ta tNil)) σ H (.int (xs.length : Int)) := by
  obtain ⟨a, ws, rfl, h2, h3⟩ := hr
  rw [← h3.length]
  exact fun Q q => ha _ ⟨a, ws, rfl, .inl h2, q⟩
theorem v_lenT2 {α β : Type} {τ : Rep K α} {υ : Rep K β} {p : α × β} (ha : Val ta σ H v) (hr : (qT2 τ υ).R H v p) : Val (tCB (rLenS K) (tCons ta tNil)) σ H (.int 2) := by
  obtain ⟨a, w1, w2, rfl, h2, _⟩ := hr
  exact fun Q q => ha _ ⟨a, _, rfl, .inr (SqT.of h2), q⟩
theorem v_isi {T n : String} {k : Bool} (ha : Val ta σ H x) (ty : TyX K H x (.type T)) (hk : kitB T n = some k) : Val (tCB (rIsi K) (tCons ta (tCons (tC (.ty n)) tNil))) σ H (.bl k) := fun Q q => ha _ ⟨x, .ty n, _, _, k, rfl, .ty n, ty, kit_ty hk, q⟩
theorem ty_int : TyX K H (.int i) (.type "int") := .base (.int i)
theorem ty_bl : TyX K H (.bl b) (.type "bool") := .base (.bl b)
theorem ty_str {s : Str} : TyX K H (.str s) (.type "str") := .base (.str s)
theorem ty_non : TyX K H .non (.type "NoneType") := .base .non
theorem ty_t2 {α β : Type} {τ : Rep K α} {υ : Rep K β} {p : α × β} (hr : (qT2 τ υ).R H v p) : TyX K H v (.type "tuple") := by
  obtain ⟨a, w1, w2, rfl, h2, _⟩ := hr
  exact .base (.tup h2)
theorem ty_t3 {α β γ : Type} {τ : Rep K α} {υ : Rep K β} {φ : Rep K γ} {p : α × β × γ} (hr : (qT3 τ υ φ).R H v p) : TyX K H v (.type "tuple") := by
  obtain ⟨a, w1, w2, w3, rfl, h2, _⟩ := hr
  exact .base (.tup h2)
theorem ty_l {α : Type} {τ : Rep K α} {xs : List α} (hr : (qL τ).R H v xs) : TyX K H v (.type "list") := by
  obtain ⟨a, ws, rfl, h2, _⟩ := hr
  exact .base (.lst h2)
/-- arguments -/
def VA (ta : TA) (σ : L2.St) (H : Hp) (vs : List V) : Prop := ∀ Q : List V → Hp → Prop, Q vs H → ta σ H Q
theorem va_nil : VA tNil σ H [] := fun _ q => q
theorem va_cons {tr : TA} {vs : List V} (ha : Val ta σ H x) (hr : VA tr σ H vs) : VA (tCons ta tr) σ H (x :: vs) := fun _ q => ha _ (hr _ q)
theorem v_call {sp : Sp} {dvs vs : List V} {E : XK} {tr : TA} (ha : VA tr σ H vs) (hs : ∀ Q : VK, Q z H → sp (vs ++ dvs) H Q E) : Val (tCall sp dvs E tr) σ H z := fun Q q => ha _ (hs Q q)
theorem v_cb {r : List V → Hp → VK → Prop} {vs : List V} {tr : TA} (ha : VA tr σ H vs) (hs : ∀ Q : VK, Q z H → r vs H Q) : Val (tCB r tr) σ H z := fun Q q => ha _ (hs Q q)
theorem v_bits (ha : Val ta σ H (.int i)) : Val (tBits ta) σ H (.int (blen i)) := fun Q q => ha _ ⟨i, rfl, q⟩
theorem v_isN (ha : Val ta σ H x) (e : decide (x = .non) = b) : Val (tOp rIsN ta (tC .non)) σ H (.bl b) := fun Q q => ha _ ⟨rfl, by rw [e]; exact q⟩
theorem v_notN (ha : Val ta σ H x) (e : (!decide (x = .non)) = b) : Val (tOp rNotN ta (tC .non)) σ H (.bl b) := fun Q q => ha _ ⟨rfl, by rw [e]; exact q⟩
theorem opt_dec {α : Type} {τ : Rep K α} {o : Option α} (hr : (qOpt τ).R H v o) : decide (v = .non) = o.isNone := by
  cases o with
  | none => exact decide_eq_true hr
  | some y => exact decide_eq_false hr.1
theorem opt_decN {α : Type} {τ : Rep K α} {o : Option α} (hr : (qOpt τ).R H v o) : (!decide (v = .non)) = o.isSome := by
  rw [opt_dec hr]
  cases o <;> rfl
theorem opt_get {α : Type} {τ : Rep K α} {o : Option α} {y : α} (hr : (qOpt τ).R H v o) (e : o = some y) : τ.R H v y := by
  subst e
  exact hr.2

/-! ### statements -/
variable {D : Ends} {t1 t2 ts tu : TS} {w : V} {k n : Nat}
theorem z_next (q : D.nx σ H) : tNext D σ H := q
theorem z_set (hv : Val te σ H v) (he : v = w) (hs : σ.set k (some w) = σ') (q : tu D σ' H) : tSeq (tAsg te (gName k)) tu D σ H := hv _ (by
  subst he; subst hs
  exact q)
theorem z_aug {ti : TIp} (hx : σ[k]? = some (some x)) (hv : Val te σ H y) (hr : ∀ Q : VK, Q v H → ti x y H Q) (he : v = w) (hs : σ.set k (some w) = σ') (q : tu D σ' H) : tSeq (tAug k te ti) tu D σ H := by
  subst he; subst hs
  exact ⟨x, hx, hv _ (hr _ q)⟩
theorem z_augI {g : Int → Int → V} (hx : σ[k]? = some (some (.int i))) (hv : Val te σ H (.int j)) (he : g i j = w) (hs : σ.set k (some w) = σ') (q : tu D σ' H) : tSeq (tAug k te (rI0 g)) tu D σ H :=
  z_aug hx hv (fun _ q => ⟨i, j, rfl, rfl, q⟩) he hs q
theorem z_augC {C : Int → Int → Prop} {g : Int → Int → V} (hx : σ[k]? = some (some (.int i))) (hv : Val te σ H (.int j)) (hc : C i j) (he : g i j = w) (hs : σ.set k (some w) = σ') (q : tu D σ' H) : tSeq (tAug k te (rI C g)) tu D σ H :=
  z_aug hx hv (fun _ q => ⟨i, j, rfl, rfl, hc, q⟩) he hs q
theorem z_ret (hv : Val te σ H v) (q : D.rt v H) : tSeq (tRet te) tu D σ H := hv _ q
theorem z_if {c : Bool} {tc : TT} (hc : Ans tc σ H c) (h1 : c = true → t1 { D with nx := tu D } σ H) (h2 : c = false → t2 { D with nx := tu D } σ H) : tSeq (tIfS tc t1 t2) tu D σ H := hc _ (by
  cases c with
  | true => exact (show (if true = true then t1 { D with nx := tu D } σ H else t2 { D with nx := tu D } σ H) from h1 rfl)
  | false => exact (show (if false = true then t1 { D with nx := tu D } σ H else t2 { D with nx := tu D } σ H) from h2 rfl))
theorem z_ifj {c : Bool} {tc : TT} (P : L2.St → Hp → Prop) (hc : Ans tc σ H c) (hP : ∀ σ' H', P σ' H' → tu D σ' H')
    (h1 : c = true → ∀ N : L2.St → Hp → Prop, (∀ σ' H', P σ' H' → N σ' H') → t1 { D with nx := N } σ H) (h2 : c = false → ∀ N : L2.St → Hp → Prop, (∀ σ' H', P σ' H' → N σ' H') → t2 { D with nx := N } σ H) : tSeq (tIfS tc t1 t2) tu D σ H :=
  z_if hc (fun e => h1 e _ hP) (fun e => h2 e _ hP)
theorem rangeI_zero {lo : Int} : rangeI lo 0 = [] := rfl
theorem rangeI_succ {lo : Int} {n : Nat} : rangeI lo (n + 1) = lo :: rangeI (lo + 1) n := by
  unfold rangeI
  rw [List.range_succ_eq_map, List.map_cons, List.map_map]
  congr 1
  · exact Int.add_zero lo
  · refine List.map_congr_left fun a _ => ?_
    show lo + ((a + 1 : Nat) : Int) = lo + 1 + (a : Int)
    omega
/-- the turns over a range, by what is left -/
theorem turns_range {lo : Int} {n : Nat} {g : TG} {tb : TS} (Pv : List Int → L2.St → Hp → Prop) (h0 : Pv (rangeI lo n) σ H)
    (hs : ∀ x xs σ' H', Pv (x :: xs) σ' H' → ∀ N : L2.St → Hp → Prop, (∀ σ'' H'', Pv xs σ'' H'' → N σ'' H'') → g (.int x) σ' H' fun σ2 H2 => tb { D with nx := N, ct := N, bk := D.nx } σ2 H2) (hd : ∀ σ' H', Pv [] σ' H' → D.nx σ' H') :
    ∃ W : Nat → Nat → L2.St → Hp → Prop, (∃ m, W 0 m σ H) ∧ ∀ i m σ H, W i m σ H →
      ((Itr lo n).stop i H ∧ D.nx σ H) ∨ ((Itr lo n).go i H ∧ ∃ N : L2.St → Hp → Prop, (∀ σ' H', N σ' H' → ∃ m', m' < m ∧ W (i + 1) m' σ' H') ∧ ∀ x H', (Itr lo n).yld i H x H' → g x σ H' fun σ2 H2 => tb { D with nx := N, ct := N, bk := D.nx } σ2 H2) := by
  refine for_range (fun i σ H => i ≤ n ∧ Pv (rangeI (lo + (i : Int)) (n - i)) σ H) ⟨Nat.zero_le _, by
    rw [show lo + ((0 : Nat) : Int) = lo from Int.add_zero lo]; exact h0⟩ (fun i σ' H' hi p => ?_) (fun σ' H' p => hd _ _ (by
    have q := p.2
    rw [Nat.sub_self] at q
    exact q))
  have e : n - i = (n - (i + 1)) + 1 := by omega
  have q := p.2
  rw [e, rangeI_succ] at q
  refine hs _ _ σ' H' q _ fun σ'' H'' r => ⟨hi, ?_⟩
  rw [show lo + ((i + 1 : Nat) : Int) = lo + (i : Int) + 1 by omega]
  exact r
theorem z_for1 {ta : TA} {g : TG} {tb : TS} {j : Int} (ha : VA ta σ H [.int j]) (hj : -(2 ^ 62) ≤ j ∧ j < 2 ^ 62) (Pv : List Int → L2.St → Hp → Prop) (h0 : Pv (rangeI 0 j.toNat) σ H)
    (hs : ∀ x xs σ' H', Pv (x :: xs) σ' H' → ∀ N : L2.St → Hp → Prop, (∀ σ'' H'', Pv xs σ'' H'' → N σ'' H'') → g (.int x) σ' H' fun σ2 H2 => tb { D with nx := N, ct := N, bk := tu D } σ2 H2) (hd : ∀ σ' H', Pv [] σ' H' → tu D σ' H') :
    tSeq (tFor (iRng1 ta) g tb) tu D σ H := ha _ ⟨j, rfl, hj.1, hj.2, turns_range (D := { D with nx := tu D }) Pv h0 hs hd⟩
theorem z_for2 {ta : TA} {g : TG} {tb : TS} {i j : Int} (ha : VA ta σ H [.int i, .int j]) (hj : -(2 ^ 62) ≤ i ∧ i < 2 ^ 62 ∧ -(2 ^ 62) ≤ j ∧ j < 2 ^ 62) (Pv : List Int → L2.St → Hp → Prop) (h0 : Pv (rangeI i (j - i).toNat) σ H)
    (hs : ∀ x xs σ' H', Pv (x :: xs) σ' H' → ∀ N : L2.St → Hp → Prop, (∀ σ'' H'', Pv xs σ'' H'' → N σ'' H'') → g (.int x) σ' H' fun σ2 H2 => tb { D with nx := N, ct := N, bk := tu D } σ2 H2) (hd : ∀ σ' H', Pv [] σ' H' → tu D σ' H') :
    tSeq (tFor (iRng2 ta) g tb) tu D σ H := ha _ ⟨i, j, rfl, hj, turns_range (D := { D with nx := tu D }) Pv h0 hs hd⟩
/-- the turns over a list that stands, by what is left -/
theorem turns_list {α : Type} {R : V → α → Prop} {a : Addr} {ws : List V} {xs : List α} {g : TG} {tb : TS} (hp : Paired R ws xs) (Pv : List α → L2.St → Hp → Prop) (h0 : Pv xs σ H) (hl : ∀ ys σ' H', Pv ys σ' H' → SqL K H' a ws)
    (hs : ∀ w y ys σ' H', R w y → Pv (y :: ys) σ' H' → ∀ N : L2.St → Hp → Prop, (∀ σ'' H'', Pv ys σ'' H'' → N σ'' H'') → g w σ' H' fun σ2 H2 => tb { D with nx := N, ct := N, bk := D.nx } σ2 H2) (hd : ∀ σ' H', Pv [] σ' H' → D.nx σ' H') :
    ∃ W : Nat → Nat → L2.St → Hp → Prop, (∃ m, W 0 m σ H) ∧ ∀ i m σ H, W i m σ H →
      ((Itl K a).stop i H ∧ D.nx σ H) ∨ ((Itl K a).go i H ∧ ∃ N : L2.St → Hp → Prop, (∀ σ' H', N σ' H' → ∃ m', m' < m ∧ W (i + 1) m' σ' H') ∧ ∀ x H', (Itl K a).yld i H x H' → g x σ H' fun σ2 H2 => tb { D with nx := N, ct := N, bk := D.nx } σ2 H2) := by
  have hlen := Paired.length hp
  refine for_list (K := K) (a := a) (xs := ws) (fun i σ H => i ≤ ws.length ∧ ∃ ys, Paired R (ws.drop i) ys ∧ Pv ys σ H) ⟨Nat.zero_le _, xs, hp, h0⟩ (fun i σ' H' _ p => ?_) (fun i x σ' H' hx p => ?_) (fun σ' H' p => ?_)
  · obtain ⟨_, ys, _, q⟩ := p
    exact hl _ _ _ q
  · obtain ⟨_, ys, r, q⟩ := p
    have hi : i < ws.length := (List.getElem?_eq_some_iff.mp hx).1
    have e : ws.drop i = x :: ws.drop (i + 1) := by
      rw [List.drop_eq_getElem_cons hi]
      rw [(List.getElem?_eq_some_iff.mp hx).2]
    rw [e] at r
    cases r with
    | cons a b => exact hs _ _ _ σ' H' a q _ fun σ'' H'' z => ⟨hi, _, b, z⟩
  · obtain ⟨_, ys, r, q⟩ := p
    rw [List.drop_length] at r
    cases r
    exact hd _ _ q
theorem z_forL {α : Type} {R : V → α → Prop} {a : Addr} {ws : List V} {xs : List α} {tl : TE} {g : TG} {tb : TS} (ha : Val tl σ H (.ref a)) (hp : Paired R ws xs) (Pv : List α → L2.St → Hp → Prop) (h0 : Pv xs σ H) (hl : ∀ ys σ' H', Pv ys σ' H' → SqL K H' a ws)
    (hs : ∀ w y ys σ' H', R w y → Pv (y :: ys) σ' H' → ∀ N : L2.St → Hp → Prop, (∀ σ'' H'', Pv ys σ'' H'' → N σ'' H'') → g w σ' H' fun σ2 H2 => tb { D with nx := N, ct := N, bk := tu D } σ2 H2) (hd : ∀ σ' H', Pv [] σ' H' → tu D σ' H') :
    tSeq (tFor (iList K tl) g tb) tu D σ H := ha _ ⟨a, rfl, ⟨ws, hl _ _ _ h0⟩, turns_list (D := { D with nx := tu D }) hp Pv h0 hl hs hd⟩
theorem g_name {q : L2.St → Hp → Prop} (hs : σ.set k (some v) = σ') (h : q σ' H) : gName k v σ H q := by
  subst hs
  exact h
/-- a while with a test that leaves the heap as it is -/
theorem z_while {tc : TT} {tb : TS} {n0 : Nat} (Pv : Nat → L2.St → Hp → Prop) (h0 : Pv n0 σ H)
    (hs : ∀ n σ' H', Pv n σ' H' → ∃ b, Ans tc σ' H' b ∧ (b = true → ∃ n', n = n' + 1 ∧ ∀ N : L2.St → Hp → Prop, (∀ σ'' H'', Pv n' σ'' H'' → N σ'' H'') → tb { D with nx := N, ct := N, bk := tu D } σ' H') ∧ (b = false → tu D σ' H')) :
    tSeq (tWhile tc tb) tu D σ H := by
  refine ⟨Pv, ⟨n0, h0⟩, fun m σ' H' w => ?_⟩
  obtain ⟨b, hb, h1, h2⟩ := hs m σ' H' w
  refine hb _ ?_
  cases b with
  | true =>
    obtain ⟨n', e, h⟩ := h1 rfl
    exact (show (if true = true then _ else _) from ⟨Pv n', fun σ'' H'' p => ⟨n', by omega, p⟩, h _ fun _ _ z => z⟩)
  | false => exact (show (if false = true then _ else _) from h2 rfl)
end
/-! ### facts of the builtins' table -/
theorem bt_int : bootBuiltins "int" = some (.type "int") := by decide +kernel
theorem bt_bool : bootBuiltins "bool" = some (.type "bool") := by decide +kernel
theorem bt_str : bootBuiltins "str" = some (.type "str") := by decide +kernel
theorem bt_list : bootBuiltins "list" = some (.type "list") := by decide +kernel
theorem bt_tuple : bootBuiltins "tuple" = some (.type "tuple") := by decide +kernel
theorem bt_isinstance : bootBuiltins "isinstance" = some (.builtin "isinstance") := by decide +kernel
theorem bt_len : bootBuiltins "len" = some (.builtin "len") := by decide +kernel
end Z

namespace Z
open PySem PySem.Spec PyProof.Rows L2

theorem OP.nameO {α σ : Type} {f : α → σ → Option σ} {xs : List α} {s : σ} {A : σ → Prop} (h : OP (Z.forO f xs s) A) : ∃ F, F = f ∧ OP (Z.forO F xs s) A := ⟨f, rfl, h⟩
theorem OP.nameR {α σ ρ : Type} {f : α → σ → Option (σ ⊕ ρ)} {xs : List α} {s : σ} {A : σ ⊕ ρ → Prop} (h : OP (Z.forR f xs s) A) : ∃ F, F = f ∧ OP (Z.forR F xs s) A := ⟨f, rfl, h⟩
theorem OP.fcall2 {α σ τ : Type} {F f : α → σ → Option τ} {x : α} {s : σ} {A : τ → Prop} (e : F = f) (h : OP (F x s) A) : OP (f x s) A := e ▸ h
theorem OP.fcall1 {σ τ : Type} {F f : σ → Option τ} {s : σ} {A : τ → Prop} (e : F = f) (h : OP (F s) A) : OP (f s) A := e ▸ h
def gMul (i j : Int) : Prop := (-(2 ^ 64) < i ∧ i < 2 ^ 64) ∨ (-(2 ^ 64) < j ∧ j < 2 ^ 64)
def gDiv (j : Int) : Prop := 0 < j ∧ j < 1073741824
def gPow (i j : Int) : Prop := 0 ≤ j ∧ j ≤ 1000000 ∧ i.natAbs < 2 ^ 64
def gR (j : Int) : Prop := -(2 ^ 62) ≤ j ∧ j < 2 ^ 62
def gR2 (i j : Int) : Prop := -(2 ^ 62) ≤ i ∧ i < 2 ^ 62 ∧ -(2 ^ 62) ≤ j ∧ j < 2 ^ 62
instance (i j : Int) : Decidable (gMul i j) := by unfold gMul; infer_instance
instance (j : Int) : Decidable (gDiv j) := by unfold gDiv; infer_instance
instance (i j : Int) : Decidable (gPow i j) := by unfold gPow; infer_instance
instance (j : Int) : Decidable (gR j) := by unfold gR; infer_instance
instance (i j : Int) : Decidable (gR2 i j) := by unfold gR2; infer_instance
abbrev ipow (i j : Int) : Int := i ^ j.toNat
def setI {α : Type} (xs : List α) (i : Int) (v : α) : Option (List α) := (ixN xs.length i).bind fun j => some (xs.set j v)

/-! ### data that == compares -/
structure Dat {K : PySem.W.Frag} {α : Type} [DecidableEq α] (τ : Rep K α) where
  enc : α → PyData
  dp : ∀ {H : Hp} {v : V} {x : α}, τ.R H v x → Dp K H v (enc x)
  lay : ∀ x, (enc x).canLay0 = true
  n : Nat
  dep : ∀ x, (enc x).depth ≤ n
  eqv : ∀ x y, PyData.eqv (enc x) (enc y) = decide (x = y)
section
variable {K : PySem.W.Frag}
theorem Dat.shaped {α : Type} [DecidableEq α] {τ : Rep K α} (d : Dat τ) (hn : d.n ≤ 64) (x : α) : SeqAt.shaped (d.enc x) = true := by
  unfold SeqAt.shaped
  rw [d.lay x, decide_eq_true (Nat.le_trans (d.dep x) hn)]
  rfl
def dI : Dat (K := K) qI := ⟨.int, fun {H v x} h => by cases (show v = .int x from h); exact .int x, fun _ => rfl, 1, fun x => by show PyData.depth (.int x) ≤ 1; simp [PyData.depth], fun x y => by
  show (x == y) = decide (x = y)
  rw [Bool.beq_eq_decide_eq]⟩
def dB : Dat (K := K) qB := ⟨.bool, fun {H v x} h => by cases (show v = .bl x from h); exact .bl x, fun _ => rfl, 1, fun x => by show PyData.depth (.bool x) ≤ 1; simp [PyData.depth], fun x y => by
  show (x == y) = decide (x = y)
  rw [Bool.beq_eq_decide_eq]⟩
theorem eqvAll2 {a b c d : PyData} : PyData.eqv (.tuple [a, b]) (.tuple [c, d]) = (PyData.eqv a c && PyData.eqv b d) := by
  simp [PyData.eqv, PyData.eqvAll]
def dT2 {α β : Type} [DecidableEq α] [DecidableEq β] {τ : Rep K α} {υ : Rep K β} (a : Dat τ) (b : Dat υ) : Dat (qT2 τ υ) := ⟨fun x => .tuple [a.enc x.1, b.enc x.2], fun {H v x} h => by
    obtain ⟨p, w1, w2, rfl, h2, h3, h4⟩ := h
    exact .tup (SqT.of h2) (.cons (a.dp h3) (.cons (b.dp h4) .nil)), fun x => by
    show PyData.canLayAll0 [a.enc x.1, b.enc x.2] = true
    simp [PyData.canLayAll0, a.lay, b.lay], max a.n b.n + 1, fun x => by
    have h1 := a.dep x.1
    have h2 := b.dep x.2
    show PyData.depth (.tuple [a.enc x.1, b.enc x.2]) ≤ _
    simp only [PyData.depth, PyData.depthAll]
    omega, fun x y => by
    rw [eqvAll2, a.eqv, b.eqv, ← Bool.decide_and]
    exact decide_eq_decide.mpr ⟨fun h => Prod.ext h.1 h.2, fun h => by rw [h]; exact ⟨rfl, rfl⟩⟩⟩
theorem dpAll {α : Type} [DecidableEq α] {τ : Rep K α} (a : Dat τ) {H : Hp} : ∀ {ws : List V} {xs : List α}, RL τ H ws xs → DpAll K H ws (xs.map a.enc)
  | _, _, .nil => .nil
  | _, _, .cons r t => .cons (a.dp r) (dpAll a t)
theorem layAll {α : Type} [DecidableEq α] {τ : Rep K α} (a : Dat τ) : ∀ xs : List α, PyData.canLayAll0 (xs.map a.enc) = true
  | [] => rfl
  | x :: xs => by
    show (PyData.canLay0 (a.enc x) && PyData.canLayAll0 (xs.map a.enc)) = true
    rw [a.lay, layAll a xs]
    rfl
theorem depAll {α : Type} [DecidableEq α] {τ : Rep K α} (a : Dat τ) : ∀ xs : List α, PyData.depthAll (xs.map a.enc) ≤ a.n
  | [] => by simp [PyData.depthAll]
  | x :: xs => by
    rw [List.map_cons]
    simp only [PyData.depthAll]
    have h1 := a.dep x
    have h2 := depAll a xs
    omega
theorem eqvAllD {α : Type} [DecidableEq α] {τ : Rep K α} (a : Dat τ) : ∀ xs ys : List α, PyData.eqvAll (xs.map a.enc) (ys.map a.enc) = decide (xs = ys)
  | [], [] => rfl
  | [], y :: ys => by simp [PyData.eqvAll]
  | x :: xs, [] => by simp [PyData.eqvAll]
  | x :: xs, y :: ys => by
    rw [List.map_cons, List.map_cons]
    simp only [PyData.eqvAll]
    rw [a.eqv, eqvAllD a xs ys, ← Bool.decide_and]
    exact decide_eq_decide.mpr ⟨fun h => by rw [h.1, h.2], fun h => by injection h with h1 h2; exact ⟨h1, h2⟩⟩
def dQ {α : Type} [DecidableEq α] {τ : Rep K α} (a : Dat τ) : Dat (qQ τ) := ⟨fun xs => .list (xs.map a.enc), fun {H v x} h => by
    obtain ⟨p, ws, rfl, h2, h3⟩ := h
    exact .lst h2 (dpAll a h3), fun xs => layAll a xs, a.n + 1, fun xs => by
    have h := depAll a xs
    show PyData.depth (.list (xs.map a.enc)) ≤ _
    simp only [PyData.depth]
    omega, fun x y => by
    show PyData.eqvAll (x.map a.enc) (y.map a.enc) = _
    exact eqvAllD a x y⟩
def dL {α : Type} [DecidableEq α] {τ : Rep K α} (a : Dat τ) : Dat (qL τ) := ⟨(dQ a).enc, fun h => (dQ a).dp (qL_qQ h), (dQ a).lay, (dQ a).n, (dQ a).dep, (dQ a).eqv⟩
end

/-! ### values that move the heap: the goal goes from te σ H Q to Q v H' -/
section
variable {K : PySem.W.Frag} {σ σ' : L2.St} {S H S0 H0 : Hp} {L : List Addr} {ta tb te : TE} {t u tc : TT} {tr : TA} {x y z v : V} {i j : Int} {b c : Bool} {Q : VK} {D : Ends} {t1 t2 tu : TS} {g : TG} {vs ws : List V}
theorem c_val (h : Val te σ H v) (q : Q v H) : te σ H Q := h _ q
theorem c_op {r : R2} (h : ta σ H fun x H1 => tb σ H1 fun y H2 => r x y H2 Q) : tOp r ta tb σ H Q := h
theorem c_un {r : V → Hp → VK → Prop} (h : ta σ H fun x H1 => r x H1 Q) : tUn r ta σ H Q := h
theorem c_cons {q : List V → Hp → Prop} (h : ta σ H fun x H1 => tr σ H1 fun xs H2 => q (x :: xs) H2) : tCons ta tr σ H q := h
theorem c_nil {q : List V → Hp → Prop} (h : q [] H) : tNil σ H q := h
theorem c_args {q : List V → Hp → Prop} (ha : VA tr σ H vs) (h : q vs H) : tr σ H q := ha _ h
theorem c_tup (h : tr σ H fun xs H1 => xs.length ≤ sizeLine ∧ ∀ p, H1 p = none → Q (.ref p) (upd H1 p (.tup xs))) : tTup tr σ H Q := h
theorem c_lst (h : tr σ H fun xs H1 => xs.length ≤ sizeLine ∧ ∀ p, H1 p = none → Q (.ref p) (upd H1 p (.lst xs))) : tLst tr σ H Q := h
theorem c_tupE (h : ∀ Q' : VK, Q' = Q → tr σ H fun xs H1 => xs.length ≤ sizeLine ∧ ∀ p, H1 p = none → Q' (.ref p) (upd H1 p (.tup xs))) : tTup tr σ H Q := h _ rfl
theorem c_lstE (h : ∀ Q' : VK, Q' = Q → tr σ H fun xs H1 => xs.length ≤ sizeLine ∧ ∀ p, H1 p = none → Q' (.ref p) (upd H1 p (.lst xs))) : tLst tr σ H Q := h _ rfl
theorem c_cbE {r : List V → Hp → VK → Prop} (h : ∀ Q' : VK, Q' = Q → tr σ H fun vs H1 => r vs H1 Q') : tCB r tr σ H Q := h _ rfl
theorem q_eq {Q' : VK} (e : Q' = Q) (h : Q v H) : Q' v H := e ▸ h
theorem c_call {sp : Sp} {dvs : List V} {E : XK} (h : tr σ H fun vs H1 => sp (vs ++ dvs) H1 Q E) : tCall sp dvs E tr σ H Q := h
theorem c_cb {r : List V → Hp → VK → Prop} (h : tr σ H fun vs H1 => r vs H1 Q) : tCB r tr σ H Q := h
theorem c_newtup (e : Same S H) (hl : vs.length ≤ 1000) (k : ∀ p S' H', Grow [] S H S' H' → S' p = some (.tup vs) → Q (.ref p) H') : vs.length ≤ sizeLine ∧ ∀ p, H p = none → Q (.ref p) (upd H p (.tup vs)) :=
  ⟨Nat.le_trans hl (by decide), fun p hp => k p _ _ ((Grow.refl e).imm hp) upd_same⟩
theorem c_newlst (hl : vs.length ≤ 1000) (k : ∀ p H', Same H H' → H p = none → H' p = some (.lst vs) → Q (.ref p) H') : vs.length ≤ sizeLine ∧ ∀ p, H p = none → Q (.ref p) (upd H p (.lst vs)) :=
  ⟨Nat.le_trans hl (by decide), fun p hp => k p _ (same_upd hp) hp upd_same⟩
theorem c_not {q : Bool → Hp → Prop} (h : t σ H fun b H1 => q (!b) H1) : tNot t σ H q := h
theorem c_test {q : Bool → Hp → Prop} (h : te σ H fun x H' => ∃ k, x = .bl k ∧ q k H') : tTest te σ H q := h
theorem c_B {q : Bool → Hp → Prop} (h : te σ H fun x H' => ∃ k, x = .bl k ∧ q k H') : tB te σ H q := h
theorem c_ans {q : Bool → Hp → Prop} (h : Ans t σ H b) (k : q b H) : t σ H q := h _ k
theorem c_bl {q : Bool → Hp → Prop} (h : q b H) : ∃ k, V.bl b = .bl k ∧ q k H := ⟨b, rfl, h⟩
theorem c_and {q : Bool → Hp → Prop} (h : t σ H fun c H1 => if c = true then u σ H1 q else q false H1) : tAnd t u σ H q := h
theorem c_or {q : Bool → Hp → Prop} (h : t σ H fun c H1 => if c = true then q true H1 else u σ H1 q) : tOr t u σ H q := h
theorem c_andV (h : ta σ H fun x H1 => ∃ c, x = .bl c ∧ if c = true then tb σ H1 Q else Q (.bl false) H1) : tAndV ta tb σ H Q := h
theorem c_orV (h : ta σ H fun x H1 => ∃ c, x = .bl c ∧ if c = true then Q (.bl true) H1 else tb σ H1 Q) : tOrV ta tb σ H Q := h
theorem c_cutT {q : Bool → Hp → Prop} (P : Bool → Hp → Prop) (hc : ∀ q' : Bool → Hp → Prop, (∀ b H', P b H' → q' b H') → t σ H q') (hP : ∀ b H', P b H' → q b H') : t σ H q := hc _ hP
theorem c_cutV (P : Bool → Hp → Prop) (hc : ∀ q' : VK, (∀ b H', P b H' → q' (.bl b) H') → te σ H q') (hP : ∀ b H', P b H' → Q (.bl b) H') : te σ H Q := hc _ hP
theorem ifb {A B : Prop} (h1 : c = true → A) (h2 : c = false → B) : if c = true then A else B := by
  cases c with
  | true => exact (show (if true = true then A else B) from h1 rfl)
  | false => exact (show (if false = true then A else B) from h2 rfl)
/-- the ends of the operators -/
theorem e_o2 {g : Int → Int → V} (q : Q (g i j) H) : rI0 g (.int i) (.int j) H Q := ⟨i, j, rfl, rfl, q⟩
theorem e_o2c {C : Int → Int → Prop} {g : Int → Int → V} (hc : C i j) (q : Q (g i j) H) : rI C g (.int i) (.int j) H Q := ⟨i, j, rfl, rfl, hc, q⟩
theorem e_u {g : Int → V} (q : Q (g i) H) : rU g (.int i) H Q := ⟨i, rfl, q⟩
theorem e_eqI (q : Q (.bl (decide (i = j))) H) : rEq (.int i) (.int j) H Q := ⟨rfl, by rw [dec_int]; exact q⟩
theorem e_neI (q : Q (.bl (!decide (i = j))) H) : rNe (.int i) (.int j) H Q := ⟨rfl, by rw [dec_int]; exact q⟩
theorem e_eqS {s t : Str} (q : Q (.bl (decide (s = t))) H) : rEq (.str s) (.str t) H Q := ⟨rfl, by rw [dec_str]; exact q⟩
theorem e_neS {s t : Str} (q : Q (.bl (!decide (s = t))) H) : rNe (.str s) (.str t) H Q := ⟨rfl, by rw [dec_str]; exact q⟩
theorem e_eqB (q : Q (.bl (decide (b = c))) H) : rEq (.bl b) (.bl c) H Q := ⟨rfl, by rw [dec_bl]; exact q⟩
theorem e_neB (q : Q (.bl (!decide (b = c))) H) : rNe (.bl b) (.bl c) H Q := ⟨rfl, by rw [dec_bl]; exact q⟩
theorem e_eqD {α : Type} [DecidableEq α] {τ υ : Rep K α} (d : Dat τ) (d' : Dat υ) (he : d.enc = d'.enc) (hn : d.n ≤ 64) {p q : α} (h1 : τ.R H x p) (h2 : υ.R H y q) (k : Q (.bl (decide (p = q))) H) : rEqD K x y H Q :=
  ⟨d.enc p, d.enc q, d.dp h1, by rw [he]; exact d'.dp h2, d.shaped hn p, d.shaped hn q, by rw [d.eqv]; exact k⟩
theorem e_neD {α : Type} [DecidableEq α] {τ υ : Rep K α} (d : Dat τ) (d' : Dat υ) (he : d.enc = d'.enc) (hn : d.n ≤ 64) {p q : α} (h1 : τ.R H x p) (h2 : υ.R H y q) (k : Q (.bl (!decide (p = q))) H) : rNeD K x y H Q :=
  ⟨d.enc p, d.enc q, d.dp h1, by rw [he]; exact d'.dp h2, d.shaped hn p, d.shaped hn q, by rw [d.eqv]; exact k⟩
theorem v_eqD {α : Type} [DecidableEq α] {τ υ : Rep K α} (d : Dat τ) (d' : Dat υ) (he : d.enc = d'.enc) (hn : d.n ≤ 64) {p q : α} (ha : Val ta σ H x) (hb : Val tb σ H y) (h1 : τ.R H x p) (h2 : υ.R H y q) : Val (tOp (rEqD K) ta tb) σ H (.bl (decide (p = q))) :=
  fun Q k => ha _ (hb _ (e_eqD d d' he hn h1 h2 k))
theorem v_neD {α : Type} [DecidableEq α] {τ υ : Rep K α} (d : Dat τ) (d' : Dat υ) (he : d.enc = d'.enc) (hn : d.n ≤ 64) {p q : α} (ha : Val ta σ H x) (hb : Val tb σ H y) (h1 : τ.R H x p) (h2 : υ.R H y q) : Val (tOp (rNeD K) ta tb) σ H (.bl (!decide (p = q))) :=
  fun Q k => ha _ (hb _ (e_neD d d' he hn h1 h2 k))
/-- a shallow datum: tuples of scalars; it may be kept for good -/
def Shal {α : Type} (τ : Rep K α) : Prop := ∀ {S H : Hp} {v : V} {x : α}, Same S H → τ.R H v x → ∃ S', Grow [] S H S' H ∧ τ.R S' v x
theorem shI : Shal (K := K) qI := fun e h => ⟨_, Grow.refl e, h⟩
theorem shB : Shal (K := K) qB := fun e h => ⟨_, Grow.refl e, h⟩
theorem shS : Shal (K := K) qS := fun e h => ⟨_, Grow.refl e, h⟩
theorem shU : Shal (K := K) qU := fun e h => ⟨_, Grow.refl e, h⟩
theorem shOpt {α : Type} {τ : Rep K α} (a : Shal τ) : Shal (qOpt τ) := fun {S H v x} e h => by
  cases x with
  | none => exact ⟨_, Grow.refl e, h⟩
  | some y =>
    obtain ⟨S', g, r⟩ := a e h.2
    exact ⟨S', g, h.1, r⟩
theorem shT2 {α β : Type} {τ : Rep K α} {υ : Rep K β} (a : Shal τ) (b : Shal υ) : Shal (qT2 τ υ) := fun {S H v x} e h => by
  obtain ⟨p, w1, w2, rfl, h2, h3, h4⟩ := h
  obtain ⟨S1, g1, r1⟩ := a e h3
  obtain ⟨S2, g2, r2⟩ := b g1.sh h4
  have g3 := (g1.call0 g2).tup h2
  have e3 : Same S2 (upd S2 p (.tup [w1, w2])) := ((Grow.refl (L := []) g2.sh).tup h2).ss
  exact ⟨_, g3, p, w1, w2, rfl, upd_same, τ.mono (g2.ss.trans e3) r1, υ.mono e3 r2⟩
theorem shL {α : Type} {τ : Rep K α} (a : Shal τ) {S H : Hp} : ∀ {ws : List V} {xs : List α}, Same S H → RL τ H ws xs → ∃ S', Grow [] S H S' H ∧ RL τ S' ws xs
  | _, _, e, .nil => ⟨_, Grow.refl e, .nil⟩
  | _, _, e, .cons r t => by
    obtain ⟨S1, g1, r1⟩ := a e r
    obtain ⟨S2, g2, r2⟩ := shL a g1.sh t
    exact ⟨S2, g1.call0 g2, .cons (τ.mono g2.ss r1) r2⟩
theorem RL.sc {α : Type} {τ : Rep K α} {H H' : Hp} (f : α → V) (hf : ∀ {H v x}, τ.R H v x ↔ v = f x) : ∀ {ws : List V} {xs : List α}, RL τ H ws xs → RL τ H' ws xs
  | _, _, .nil => .nil
  | _, _, .cons r t => .cons (hf.mpr (hf.mp r)) (RL.sc f hf t)
theorem RL.scI {H H' : Hp} {ws : List V} {xs : List Int} (h : RL (K := K) qI H ws xs) : RL (K := K) qI H' ws xs := RL.sc V.int Iff.rfl h
theorem RL.scB {H H' : Hp} {ws : List V} {xs : List Bool} (h : RL (K := K) qB H ws xs) : RL (K := K) qB H' ws xs := RL.sc V.bl Iff.rfl h
theorem RL.scS {H H' : Hp} {ws : List V} {xs : List Str} (h : RL (K := K) qS H ws xs) : RL (K := K) qS H' ws xs := RL.sc V.str Iff.rfl h
/-- where a new list comes from -/
theorem e_listQ {α : Type} {τ : Rep K α} {xs : List α} (h : (qQ τ).R H v xs) (k : ∀ p ws H', Same H H' → H p = none → H' p = some (.lst ws) → RL τ H ws xs → Q (.ref p) H') :
    ∃ p ys, [v] = [.ref p] ∧ (SqL K H p ys ∨ SqT K H p ys) ∧ ∀ l, H l = none → Q (.ref l) (upd H l (.lst ys)) := by
  obtain ⟨a, ws, rfl, h2, h3⟩ := h
  exact ⟨a, ws, rfl, .inl h2, fun l hl => k l ws _ (same_upd hl) hl upd_same h3⟩
theorem RL.cut {α : Type} {τ : Rep K α} {ws : List V} {xs : List α} (h : RL τ H ws xs) (lo hi : Option Int) : RL τ H (cutV ws lo hi) ((xs.drop (HT.sIx xs.length 0 lo)).take (HT.sIx xs.length xs.length hi - HT.sIx xs.length 0 lo)) := by
  unfold cutV
  rw [h.length]
  exact (h.drop _).take _
def cutI {α : Type} (xs : List α) (lo hi : Option Int) : List α := (xs.drop (HT.sIx xs.length 0 lo)).take (HT.sIx xs.length xs.length hi - HT.sIx xs.length 0 lo)
theorem e_slice {α : Type} {τ : Rep K α} {xs : List α} {lo hi : Option Int} (h : (qQ τ).R H v xs) (k : ∀ p ws H', Same H H' → H p = none → H' p = some (.lst ws) → RL τ H ws (cutI xs lo hi) → Q (.ref p) H') : rSlL K v lo hi H Q := by
  obtain ⟨a, ws, rfl, h2, h3⟩ := h
  exact ⟨a, ws, rfl, h2, fun l hl => k l _ _ (same_upd hl) hl upd_same (h3.cut lo hi)⟩
theorem c_slice {r : V → Option Int → Option Int → Hp → VK → Prop} {tl th : TO} {lo hi : Option Int} (ha : Val te σ H v) (hl : ∀ q : Option Int → Hp → Prop, q lo H → tl σ H q) (hh : ∀ q : Option Int → Hp → Prop, q hi H → th σ H q) (k : r v lo hi H Q) : tSl r te tl th σ H Q := ha _ (hl _ (hh _ k))
theorem po0 : ∀ q : Option Int → Hp → Prop, q none H → tNoPart σ H q := fun _ z => z
theorem po1 (h : Val te σ H (.int i)) : ∀ q : Option Int → Hp → Prop, q (some i) H → tPart te σ H q := fun _ z => h _ ⟨i, rfl, z⟩
theorem e_cat {α : Type} {τ : Rep K α} {xs ys : List α} (h1 : (qL τ).R H x xs) (h2 : (qL τ).R H y ys) (hz : xs.length + ys.length ≤ 16777216) (k : ∀ p ws H', Same H H' → H p = none → H' p = some (.lst ws) → RL τ H ws (xs ++ ys) → Q (.ref p) H') : rCat x y H Q := by
  obtain ⟨a, ws, rfl, ha, ra⟩ := h1
  obtain ⟨b, us, rfl, hb, rb⟩ := h2
  exact ⟨a, b, ws, us, rfl, rfl, ha, hb, by rw [ra.length, rb.length]; exact hz, fun p hp => k p _ _ (same_upd hp) hp upd_same (ra.app rb)⟩

/-! ### statements -/
theorem z_start {N : List Str} {t : TS} (hs : start N vs = σ) (q : t D σ H) : t D (start N vs) H := hs ▸ q
theorem z_nextR (q : tu D σ H) : tNext { D with nx := tu D } σ H := q
theorem z_setE {k : Nat} (h : te σ H fun v H' => gName k v σ H' (tu D)) : tSeq (tAsg te (gName k)) tu D σ H := h
theorem z_asgE (h : te σ H fun v H' => g v σ H' (tu D)) : tSeq (tAsg te g) tu D σ H := h
theorem z_retE (h : te σ H D.rt) : tSeq (tRet te) tu D σ H := h
theorem z_retN (h : D.rt .non H) : tSeq tRetN tu D σ H := h
theorem z_pass (h : tu D σ H) : tSeq tNext tu D σ H := h
theorem z_cont (h : D.ct σ H) : tSeq tCont tu D σ H := h
theorem z_brk (h : D.bk σ H) : tSeq tBreak tu D σ H := h
theorem z_dropE (h : te σ H fun _ H' => tu D σ H') : tSeq (tDrop te) tu D σ H := h
theorem z_ifE (h : tc σ H fun b H1 => if b = true then t1 { D with nx := tu D } σ H1 else t2 { D with nx := tu D } σ H1) : tSeq (tIfS tc t1 t2) tu D σ H := h
theorem z_ifbj (P : L2.St → Hp → Prop) (hP : ∀ σ' H', P σ' H' → tu D σ' H')
    (h1 : c = true → ∀ N : L2.St → Hp → Prop, (∀ σ' H', P σ' H' → N σ' H') → t1 { D with nx := N } σ H) (h2 : c = false → ∀ N : L2.St → Hp → Prop, (∀ σ' H', P σ' H' → N σ' H') → t2 { D with nx := N } σ H) : if c = true then t1 { D with nx := tu D } σ H else t2 { D with nx := tu D } σ H :=
  ifb (fun e => h1 e _ hP) (fun e => h2 e _ hP)
/-- xs.append(v) -/
theorem c_app {α : Type} {τ : Rep K α} {l : Addr} {xs ys : List α} {q : α} (g : Grow L S0 H0 S H) (cl : Cel L H0 S H l (.lst ws)) (r : RL τ S ws xs) (rv : τ.R S v q) (hz : xs.length < 16777216) (he : xs ++ [q] = ys)
    (k : ∀ ws' H', Grow L S0 H0 S H' → Cel L H0 S H' l (.lst ws') → RL τ S ws' ys → (∀ l' o', l' ≠ l → Cel L H0 S H l' o' → Cel L H0 S H' l' o') → Q .non H') : rAppend (.ref l) [v] H Q := by
  subst he
  exact ⟨l, ws, v, rfl, rfl, cl.h, by rw [r.length]; exact hz, k _ _ (g.wr cl rfl) (cl.wr rfl) (r.app (.cons rv .nil)) fun l' o' n c => c.wrn n⟩
theorem c_bm {T : String} {r : V → List V → Hp → VK → Prop} {l : Addr} (ha : Val ta σ H (.ref l)) (h : tyV K T (.ref l) H) (k : tr σ H fun xs H2 => r (.ref l) xs H2 Q) : tBM K T r ta tr σ H Q := ha _ ⟨h, k⟩
theorem c_bm0 {T : String} {r : V → List V → Hp → VK → Prop} {l : Addr} (ha : Val ta σ H (.ref l)) (h : tyV K T (.ref l) H) (k : r (.ref l) [] H Q) : tBM0 K T r ta σ H Q := ha _ ⟨h, k⟩
theorem tyL {l : Addr} (h : H l = some (.lst ws)) : tyV K "list" (.ref l) H := .inl ⟨rfl, _, SqL.of h⟩
/-- xs[i] = v -/
theorem c_setL {α : Type} {τ : Rep K α} {l : Addr} {xs ys : List α} {q : α} (g : Grow L S0 H0 S H) (cl : Cel L H0 S H l (.lst ws)) (r : RL τ S ws xs) (rv : τ.R S v q) (ho : Val ta σ H (.ref l)) (hi : Val tb σ H (.int i)) (he : setI xs i q = some ys)
    (k : ∀ ws' H', Grow L S0 H0 S H' → Cel L H0 S H' l (.lst ws') → RL τ S ws' ys → (∀ l' o', l' ≠ l → Cel L H0 S H l' o' → Cel L H0 S H' l' o') → tu D σ H') : gSub ta tb rSetL v σ H (tu D) := by
  unfold setI at he
  cases e : ixN xs.length i with
  | none => rw [e] at he; cases he
  | some j =>
    rw [e] at he
    cases (Option.some.inj he)
    exact ho _ (hi _ ⟨l, ws, i, j, rfl, rfl, cl.h, by rw [r.length]; exact e, k _ _ (g.wr cl rfl) (cl.wr rfl) (r.set rv j) fun l' o' n c => c.wrn n⟩)
theorem c_clear {α : Type} {τ : Rep K α} {l : Addr} (g : Grow L S0 H0 S H) (cl : Cel L H0 S H l (.lst ws))
    (k : ∀ H', Grow L S0 H0 S H' → Cel L H0 S H' l (.lst []) → RL τ S [] ([] : List α) → (∀ l' o', l' ≠ l → Cel L H0 S H l' o' → Cel L H0 S H' l' o') → Q .non H') : rClear (.ref l) [] H Q :=
  ⟨l, ws, rfl, rfl, cl.h, k _ (g.wr cl rfl) (cl.wr rfl) .nil fun l' o' n c => c.wrn n⟩
theorem v_chain {g g' : Int → Int → V} {p q : Int → Int → Bool} {k l m : Int} (ha : Val ta σ H (.int k)) (hb : Val tb σ H (.int l)) (hc : Val te σ H (.int m)) (h1 : g k l = .bl b) (h2 : g' l m = .bl c) : Val (tChain (rI0 g) (rI0 g') ta tb te) σ H (.bl (b && c)) := fun Q z => ha _ (hb _ ⟨k, l, rfl, rfl, b, h1, by
  cases b with
  | true => exact (show (if true = true then _ else _) from hc _ ⟨l, m, rfl, rfl, by rw [h2]; exact z⟩)
  | false => exact (show (if false = true then _ else _) from z)⟩)
theorem Same.seqt {H H' : Hp} {a : Addr} {xs : List V} (e : Same H H') (h : SqT K H a xs) : SqT K H' a xs := by
  rcases h with (h | ⟨o, h⟩) | h
  · exact .inl (.inl (e _ _ h))
  · exact .inl (.inr ⟨o, e _ _ h⟩)
  · exact .inr h
theorem turns_tup {α : Type} {R : V → α → Prop} {a : Addr} {ws : List V} {xs : List α} {g : TG} {tb : TS} (hp : Paired R ws xs) (Pv : List α → L2.St → Hp → Prop) (h0 : Pv xs σ H) (hl : ∀ ys σ' H', Pv ys σ' H' → SqT K H' a ws)
    (hs : ∀ w y ys σ' H', R w y → Pv (y :: ys) σ' H' → ∀ N : L2.St → Hp → Prop, (∀ σ'' H'', Pv ys σ'' H'' → N σ'' H'') → g w σ' H' fun σ2 H2 => tb { D with nx := N, ct := N, bk := D.nx } σ2 H2) (hd : ∀ σ' H', Pv [] σ' H' → D.nx σ' H') :
    ∃ W : Nat → Nat → L2.St → Hp → Prop, (∃ m, W 0 m σ H) ∧ ∀ i m σ H, W i m σ H →
      ((Itt K a).stop i H ∧ D.nx σ H) ∨ ((Itt K a).go i H ∧ ∃ N : L2.St → Hp → Prop, (∀ σ' H', N σ' H' → ∃ m', m' < m ∧ W (i + 1) m' σ' H') ∧ ∀ x H', (Itt K a).yld i H x H' → g x σ H' fun σ2 H2 => tb { D with nx := N, ct := N, bk := D.nx } σ2 H2) := by
  refine for_tup (K := K) (a := a) (xs := ws) (fun i σ H => i ≤ ws.length ∧ ∃ ys, Paired R (ws.drop i) ys ∧ Pv ys σ H) ⟨Nat.zero_le _, xs, hp, h0⟩ (fun i σ' H' _ p => ?_) (fun i x σ' H' hx p => ?_) (fun σ' H' p => ?_)
  · obtain ⟨_, ys, _, q⟩ := p
    exact hl _ _ _ q
  · obtain ⟨_, ys, r, q⟩ := p
    have hi : i < ws.length := (List.getElem?_eq_some_iff.mp hx).1
    have e : ws.drop i = x :: ws.drop (i + 1) := by
      rw [List.drop_eq_getElem_cons hi]
      rw [(List.getElem?_eq_some_iff.mp hx).2]
    rw [e] at r
    cases r with
    | cons a b => exact hs _ _ _ σ' H' a q _ fun σ'' H'' z => ⟨hi, _, b, z⟩
  · obtain ⟨_, ys, r, q⟩ := p
    rw [List.drop_length] at r
    cases r
    exact hd _ _ q
theorem z_forT {α : Type} {R : V → α → Prop} {a : Addr} {ws : List V} {xs : List α} {tl : TE} {g : TG} {tb : TS} (ha : Val tl σ H (.ref a)) (hp : Paired R ws xs) (Pv : List α → L2.St → Hp → Prop) (h0 : Pv xs σ H) (hl : ∀ ys σ' H', Pv ys σ' H' → SqT K H' a ws)
    (hs : ∀ w y ys σ' H', R w y → Pv (y :: ys) σ' H' → ∀ N : L2.St → Hp → Prop, (∀ σ'' H'', Pv ys σ'' H'' → N σ'' H'') → g w σ' H' fun σ2 H2 => tb { D with nx := N, ct := N, bk := tu D } σ2 H2) (hd : ∀ σ' H', Pv [] σ' H' → tu D σ' H') :
    tSeq (tFor (iTup K tl) g tb) tu D σ H := ha _ ⟨a, rfl, ⟨ws, hl _ _ _ h0⟩, turns_tup (D := { D with nx := tu D }) hp Pv h0 hl hs hd⟩
end
theorem bt_min : bootBuiltins "min" = some (.builtin "min") := by decide +kernel
theorem bt_max : bootBuiltins "max" = some (.builtin "max") := by decide +kernel
end Z

namespace Z
open PySem PySem.Spec PyProof.Rows L2

/-! ### comprehensions -/
def consO {β : Type} (r : Option β) (ys : List β) : List β := match r with
  | some y => y :: ys
  | none => ys
def compO' {α β : Type} (f : α → Option (Option β)) : List α → Option (List β)
  | [] => some []
  | x :: xs => (f x).bind fun r => (compO' f xs).bind fun ys => some (consO r ys)
@[irreducible] def compO {α β : Type} (f : α → Option (Option β)) (xs : List α) : Option (List β) := if xs.length ≤ 16777216 then compO' f xs else none
theorem compO_some {α β : Type} {f : α → Option (Option β)} {xs : List α} {ys : List β} (h : compO f xs = some ys) : xs.length ≤ 16777216 ∧ compO' f xs = some ys := by
  unfold compO at h
  split at h
  · rename_i q; exact ⟨q, h⟩
  · cases h
theorem compO_eq {α β : Type} {f : α → Option (Option β)} {g : α → Option β} {xs : List α} (hl : xs.length ≤ 16777216) (h : ∀ x ∈ xs, f x = some (g x)) : compO f xs = some (xs.filterMap g) := by
  unfold compO
  rw [if_pos hl]
  clear hl
  induction xs with
  | nil => rfl
  | cons x xs ih =>
    unfold compO'
    rw [h x (List.mem_cons_self), ih fun y hy => h y (List.mem_cons_of_mem _ hy), List.filterMap_cons]
    cases g x <;> rfl
section
variable {K : PySem.W.Frag} {σ : L2.St} {S H : Hp} {ta tl te : TE} {tt : TT} {tr : TA} {v : V} {Q : VK} {D : Ends} {tu : TS}
theorem wipe_one (j : Nat) : wipe σ [j] = σ.set j none := rfl
theorem wipe_again (j : Nat) (v : V) : wipe ((wipe σ [j]).set j (some v)) [j] = wipe σ [j] := by
  rw [wipe_one, wipe_one, List.set_set, List.set_set]
theorem turnsC_range {lo : Int} {n : Nat} {g : TG} {vs : List Nat} {H1 : Hp} {P : Addr} {Qd : Hp → Prop} (Pv : List Int → Hp → Prop) (h0 : Pv (rangeI lo n) (upd H1 P (.lst [])))
    (hs : ∀ x xs H', Pv (x :: xs) H' → ∀ N : Hp → Prop, (∀ H'', Pv xs H'' → N H'') → g (.int x) (wipe σ vs) H' fun σ2 H2 => wipe σ2 vs = wipe σ vs ∧ tt σ2 H2 fun b H3 =>
      if b = true then te σ2 H3 fun y H4 => ∃ acc, H4 P = some (.lst acc) ∧ acc.length < sizeLine ∧ N (upd H4 P (.lst (acc ++ [y]))) else N H3) (hd : ∀ H', Pv [] H' → Qd H') :
    ∃ W : Nat → Nat → Hp → Prop, (∃ m, W 0 m (upd H1 P (.lst []))) ∧ ∀ i m H, W i m H →
      ((Itr lo n).stop i H ∧ Qd H) ∨ ((Itr lo n).go i H ∧ ∃ Nx : Hp → Prop, (∀ H', Nx H' → ∃ m', m' < m ∧ W (i + 1) m' H') ∧ ∀ x H', (Itr lo n).yld i H x H' → g x (wipe σ vs) H' fun σ2 H2 => wipe σ2 vs = wipe σ vs ∧ tt σ2 H2 fun b H3 =>
        if b = true then te σ2 H3 fun y H4 => ∃ acc, H4 P = some (.lst acc) ∧ acc.length < sizeLine ∧ Nx (upd H4 P (.lst (acc ++ [y]))) else Nx H3) := by
  refine lc_range (fun i H => i ≤ n ∧ Pv (rangeI (lo + (i : Int)) (n - i)) H) ⟨Nat.zero_le _, by
    rw [show lo + ((0 : Nat) : Int) = lo from Int.add_zero lo]; exact h0⟩ (fun i H' hi p => ?_) (fun H' p => hd _ (by
    have q := p.2
    rw [Nat.sub_self] at q
    exact q))
  have e : n - i = (n - (i + 1)) + 1 := by omega
  have q := p.2
  rw [e, rangeI_succ] at q
  refine hs _ _ H' q (fun H => i + 1 ≤ n ∧ Pv (rangeI (lo + ((i + 1 : Nat) : Int)) (n - (i + 1))) H) fun H'' z => ⟨hi, ?_⟩
  rw [show lo + ((i + 1 : Nat) : Int) = lo + (i : Int) + 1 by omega]
  exact z
theorem turnsC_list {α : Type} {R : V → α → Prop} {a : Addr} {ws : List V} {xs : List α} {g : TG} {vs : List Nat} {H1 : Hp} {P : Addr} {Qd : Hp → Prop} (hp : Paired R ws xs) (Pv : List α → Hp → Prop) (h0 : Pv xs (upd H1 P (.lst []))) (hl : ∀ ys H', Pv ys H' → SqL K H' a ws)
    (hs : ∀ w x xs H', R w x → Pv (x :: xs) H' → ∀ N : Hp → Prop, (∀ H'', Pv xs H'' → N H'') → g w (wipe σ vs) H' fun σ2 H2 => wipe σ2 vs = wipe σ vs ∧ tt σ2 H2 fun b H3 =>
      if b = true then te σ2 H3 fun y H4 => ∃ acc, H4 P = some (.lst acc) ∧ acc.length < sizeLine ∧ N (upd H4 P (.lst (acc ++ [y]))) else N H3) (hd : ∀ H', Pv [] H' → Qd H') :
    ∃ W : Nat → Nat → Hp → Prop, (∃ m, W 0 m (upd H1 P (.lst []))) ∧ ∀ i m H, W i m H →
      ((Itl K a).stop i H ∧ Qd H) ∨ ((Itl K a).go i H ∧ ∃ Nx : Hp → Prop, (∀ H', Nx H' → ∃ m', m' < m ∧ W (i + 1) m' H') ∧ ∀ x H', (Itl K a).yld i H x H' → g x (wipe σ vs) H' fun σ2 H2 => wipe σ2 vs = wipe σ vs ∧ tt σ2 H2 fun b H3 =>
        if b = true then te σ2 H3 fun y H4 => ∃ acc, H4 P = some (.lst acc) ∧ acc.length < sizeLine ∧ Nx (upd H4 P (.lst (acc ++ [y]))) else Nx H3) := by
  refine lc_list (K := K) (a := a) (xs := ws) (fun i H => i ≤ ws.length ∧ ∃ ys, Paired R (ws.drop i) ys ∧ Pv ys H) ⟨Nat.zero_le _, xs, hp, h0⟩ (fun i H' _ p => ?_) (fun i x H' hx p => ?_) (fun H' p => ?_)
  · obtain ⟨_, ys, _, q⟩ := p
    exact hl _ _ q
  · obtain ⟨_, ys, r, q⟩ := p
    have hi : i < ws.length := (List.getElem?_eq_some_iff.mp hx).1
    have e : ws.drop i = x :: ws.drop (i + 1) := by
      rw [List.drop_eq_getElem_cons hi]
      rw [(List.getElem?_eq_some_iff.mp hx).2]
    rw [e] at r
    cases r with
    | cons a b => exact hs _ _ _ H' a q (fun H => i + 1 ≤ ws.length ∧ ∃ ys, Paired R (ws.drop (i + 1)) ys ∧ Pv ys H) fun H'' z => ⟨hi, _, b, z⟩
  · obtain ⟨_, ys, r, q⟩ := p
    rw [List.drop_length] at r
    cases r
    exact hd _ q
/-- what holds between two turns of a comprehension whose parts leave the heap as it is: P the new list, zs what is left -/
def CPv {α β : Type} (τ : Rep K β) (S H : Hp) (P : Addr) (f : α → Option (Option β)) (ys : List β) (zs : List α) (H' : Hp) : Prop :=
  ∃ acc ys1 ys2, H' P = some (.lst acc) ∧ RL τ S acc ys1 ∧ Same H H' ∧ compO' f zs = some ys2 ∧ ys1 ++ ys2 = ys ∧ acc.length + zs.length ≤ 16777216
theorem CPv.start {α β : Type} {τ : Rep K β} {P : Addr} {f : α → Option (Option β)} {ys : List β} {zs : List α} (hP : H P = none) (h : compO f zs = some ys) : CPv τ S H P f ys zs (upd H P (.lst [])) := by
  obtain ⟨h1, h2⟩ := compO_some h
  exact ⟨[], [], ys, upd_same, .nil, same_upd hP, h2, rfl, by simpa using h1⟩
theorem CPv.turn {α β : Type} {τ : Rep K β} {P : Addr} {f : α → Option (Option β)} {ys : List β} {x : α} {zs : List α} {H' : Hp} {j : Nat} {w : V} {σx : L2.St} (hP : H P = none) (hσ : σ.set j (some w) = σx)
    (turn : ∀ H', Same H H' → ∀ r, f x = some r → ∃ b, Ans tt σx H' b ∧ (b = true → ∃ v y, r = some y ∧ Val te σx H' v ∧ τ.R S v y) ∧ (b = false → r = none))
    (p : CPv τ S H P f ys (x :: zs) H') (N : Hp → Prop) (hN : ∀ H'', CPv τ S H P f ys zs H'' → N H'') :
    gName j w (wipe σ [j]) H' fun σ2 H2 => wipe σ2 [j] = wipe σ [j] ∧ tt σ2 H2 fun b H3 =>
      if b = true then te σ2 H3 fun y H4 => ∃ acc, H4 P = some (.lst acc) ∧ acc.length < sizeLine ∧ N (upd H4 P (.lst (acc ++ [y]))) else N H3 := by
  obtain ⟨acc, ys1, ys2, h1, h2, h3, h4, h5, h6⟩ := p
  have e : (wipe σ [j]).set j (some w) = σx := by rw [wipe_one, List.set_set]; exact hσ
  have e2 : wipe σx [j] = wipe σ [j] := by rw [← e]; exact wipe_again j w
  unfold compO' at h4
  cases hf : f x with
  | none => rw [hf] at h4; cases h4
  | some r =>
    rw [hf] at h4
    cases hr : compO' f zs with
    | none => rw [hr] at h4; cases h4
    | some ys3 =>
      rw [hr] at h4
      have h4 : consO r ys3 = ys2 := Option.some.inj h4
      obtain ⟨b, ha, ht, hn⟩ := turn H' h3 r hf
      refine g_name e ?_
      refine ⟨e2, ha _ ?_⟩
      cases b with
      | true =>
        obtain ⟨v, y, rfl, hv, hR⟩ := ht rfl
        refine (show (if true = true then _ else _) from hv _ ⟨acc, h1, ?_, hN _ ⟨acc ++ [v], ys1 ++ [y], ys3, upd_same, h2.app (.cons hR .nil), fun a o q => ?_, hr, ?_, ?_⟩⟩)
        · rw [sizeLine_eq]; simp only [List.length_cons] at h6; omega
        · rw [upd_ne (ne_of_none q hP)]; exact h3 a o q
        · rw [← h5, ← h4, List.append_assoc]; rfl
        · rw [List.length_append]; simp only [List.length_cons, List.length_nil] at h6 ⊢; omega
      | false =>
        have hn := hn rfl
        subst hn
        refine (show (if false = true then _ else _) from hN _ ⟨acc, ys1, ys3, h1, h2, h3, hr, ?_, ?_⟩)
        · rw [← h5, ← h4]; rfl
        · simp only [List.length_cons] at h6; omega
theorem CPv.done {α β : Type} {τ : Rep K β} {P : Addr} {f : α → Option (Option β)} {ys : List β} {H' : Hp} (p : CPv τ S H P f ys [] H') : ∃ acc, H' P = some (.lst acc) ∧ RL τ S acc ys ∧ Same H H' := by
  obtain ⟨acc, ys1, ys2, h1, h2, h3, h4, h5, _⟩ := p
  have : ys2 = [] := (Option.some.inj h4).symm
  subst this
  rw [List.append_nil] at h5
  subst h5
  exact ⟨acc, h1, h2, h3⟩
theorem c_lcR1 {β : Type} {τ : Rep K β} {n : Int} {f : Int → Option (Option β)} {ys : List β} {j : Nat} (ha : VA tr σ H [.int n]) (hj : gR n) (h : compO f (rangeI 0 n.toNat) = some ys)
    (turn : ∀ x H', Same H H' → ∀ r, f x = some r → ∃ b, Ans tt (σ.set j (some (.int x))) H' b ∧ (b = true → ∃ v y, r = some y ∧ Val te (σ.set j (some (.int x))) H' v ∧ τ.R S v y) ∧ (b = false → r = none))
    (k : ∀ p ws H', Same H H' → H p = none → H' p = some (.lst ws) → RL τ S ws ys → Q (.ref p) H') : tLc (iRng1 tr) (gName j) tt te [j] σ H Q :=
  ha _ ⟨n, rfl, hj.1, hj.2, fun P hP => turnsC_range (CPv τ S H P f ys) (CPv.start hP h) (fun x xs H' p N hN => CPv.turn hP rfl (fun H' e r hr => turn x H' e r hr) p N hN) fun H' p => by
    obtain ⟨acc, h1, h2, h3⟩ := p.done
    exact k P acc H' h3 hP h1 h2⟩
theorem c_lcR2 {β : Type} {τ : Rep K β} {m n : Int} {f : Int → Option (Option β)} {ys : List β} {j : Nat} (ha : VA tr σ H [.int m, .int n]) (hj : gR2 m n) (h : compO f (rangeI m (n - m).toNat) = some ys)
    (turn : ∀ x H', Same H H' → ∀ r, f x = some r → ∃ b, Ans tt (σ.set j (some (.int x))) H' b ∧ (b = true → ∃ v y, r = some y ∧ Val te (σ.set j (some (.int x))) H' v ∧ τ.R S v y) ∧ (b = false → r = none))
    (k : ∀ p ws H', Same H H' → H p = none → H' p = some (.lst ws) → RL τ S ws ys → Q (.ref p) H') : tLc (iRng2 tr) (gName j) tt te [j] σ H Q :=
  ha _ ⟨m, n, rfl, hj, fun P hP => turnsC_range (CPv τ S H P f ys) (CPv.start hP h) (fun x xs H' p N hN => CPv.turn hP rfl (fun H' e r hr => turn x H' e r hr) p N hN) fun H' p => by
    obtain ⟨acc, h1, h2, h3⟩ := p.done
    exact k P acc H' h3 hP h1 h2⟩
theorem c_lcL {α β : Type} {τ : Rep K β} {R : V → α → Prop} {a : Addr} {us : List V} {xs : List α} {f : α → Option (Option β)} {ys : List β} {j : Nat} (ha : Val tl σ H (.ref a)) (hq : SqL K H a us) (hp : Paired R us xs) (h : compO f xs = some ys)
    (turn : ∀ w x H', R w x → Same H H' → ∀ r, f x = some r → ∃ b, Ans tt (σ.set j (some w)) H' b ∧ (b = true → ∃ v y, r = some y ∧ Val te (σ.set j (some w)) H' v ∧ τ.R S v y) ∧ (b = false → r = none))
    (k : ∀ p ws H', Same H H' → H p = none → H' p = some (.lst ws) → RL τ S ws ys → Q (.ref p) H') : tLc (iList K tl) (gName j) tt te [j] σ H Q :=
  ha _ ⟨a, rfl, ⟨us, hq⟩, fun P hP => turnsC_list hp (CPv τ S H P f ys) (CPv.start hP h) (fun zs H' p => by
    obtain ⟨_, _, _, _, _, e, _⟩ := p
    exact e.seq hq) (fun w x xs H' rw_ p N hN => CPv.turn hP rfl (fun H' e r hr => turn w x H' rw_ e r hr) p N hN) fun H' p => by
    obtain ⟨acc, h1, h2, h3⟩ := p.done
    exact k P acc H' h3 hP h1 h2⟩
theorem a_yes {b : Bool} (h : b = true) : Ans tYes σ H b := by subst h; exact fun _ q => q

/-! ### further forms of loops -/
theorem z_forLE {g : TG} {tb : TS} (h : tl σ H fun x H1 => tSeq (tFor (iList K (tC x)) g tb) tu D σ H1) : tSeq (tFor (iList K tl) g tb) tu D σ H := h
theorem c_lcLE {g : TG} {vs : List Nat} (h : tl σ H fun x H1 => tLc (iList K (tC x)) g tt te vs σ H1 Q) : tLc (iList K tl) g tt te vs σ H Q := h
theorem v_ixq2 {α : Type} {τ : Rep K α} {xs : List α} {q : α} {i : Int} (e : Same S H) (hr : (qQ τ).R S v xs) (hx : atI xs i = some q) : ∃ w, (∀ {σ : L2.St} {ta tb : TE}, Val ta σ H v → Val tb σ H (.int i) → Val (tOp (rIxL K) ta tb) σ H w) ∧ τ.R S w q := by
  obtain ⟨a, ws, rfl, h2, h3⟩ := hr
  obtain ⟨w, ew, r⟩ := h3.at hx
  exact ⟨w, fun ha hb Q z => ha _ (hb _ ⟨a, ws, i, w, rfl, rfl, e.seq h2, ew, z⟩), r⟩
theorem v_ixc {α : Type} {τ : Rep K α} {l : Addr} {ws : List V} {xs : List α} {q : α} {i : Int} (hl : H l = some (.lst ws)) (hr : RL τ S ws xs) (hx : atI xs i = some q) : ∃ w, (∀ {σ : L2.St} {ta tb : TE}, Val ta σ H (.ref l) → Val tb σ H (.int i) → Val (tOp (rIxL K) ta tb) σ H w) ∧ τ.R S w q := by
  obtain ⟨w, ew, r⟩ := hr.at hx
  exact ⟨w, fun ha hb Q z => ha _ (hb _ ⟨l, ws, i, w, rfl, rfl, SqL.of hl, ew, z⟩), r⟩
/-- a part of a tuple -/
theorem v_p20 {α β : Type} {τ : Rep K α} {υ : Rep K β} {p : α × β} (e : Same S H) (hr : (qT2 τ υ).R S v p) : ∃ w, (∀ {σ : L2.St} {ta tb : TE}, Val ta σ H v → Val tb σ H (.int 0) → Val (tOp (rIxT K) ta tb) σ H w) ∧ τ.R S w p.1 := by
  obtain ⟨a, w1, w2, rfl, h2, h3, _⟩ := hr
  exact ⟨w1, fun ha hb Q q => ha _ (hb _ ⟨a, _, 0, _, rfl, rfl, SqT.of (e _ _ h2), rfl, q⟩), h3⟩
theorem v_p21 {α β : Type} {τ : Rep K α} {υ : Rep K β} {p : α × β} (e : Same S H) (hr : (qT2 τ υ).R S v p) : ∃ w, (∀ {σ : L2.St} {ta tb : TE}, Val ta σ H v → Val tb σ H (.int 1) → Val (tOp (rIxT K) ta tb) σ H w) ∧ υ.R S w p.2 := by
  obtain ⟨a, w1, w2, rfl, h2, _, h3⟩ := hr
  exact ⟨w2, fun ha hb Q q => ha _ (hb _ ⟨a, _, 1, _, rfl, rfl, SqT.of (e _ _ h2), rfl, q⟩), h3⟩
theorem eun2 {α β γ : Type} {f : α → β → γ} {a : α} {b : β} {r : γ} (h : un2 f (a, b) = r) : f a b = r := h
theorem eun3 {α β γ δ : Type} {f : α → β → γ → δ} {a : α} {b : β} {c : γ} {r : δ} (h : un3 f (a, b, c) = r) : f a b c = r := h
theorem eun4 {α β γ δ ε : Type} {f : α → β → γ → δ → ε} {a : α} {b : β} {c : γ} {d : δ} {r : ε} (h : un4 f (a, b, c, d) = r) : f a b c d = r := h
theorem eun5 {α β γ δ ε ζ : Type} {f : α → β → γ → δ → ε → ζ} {a : α} {b : β} {c : γ} {d : δ} {e : ε} {r : ζ} (h : un5 f (a, b, c, d, e) = r) : f a b c d e = r := h
theorem OP.nameW {σ : Type} {c : σ → Option Bool} {f : σ → Option σ} {n : Nat} {s : σ} {A : σ → Prop} (h : OP (Z.whileO c f n s) A) : ∃ C F, C = c ∧ F = f ∧ OP (Z.whileO C F n s) A := ⟨c, f, rfl, rfl, h⟩
theorem OP.nameX {σ ρ : Type} {c : σ → Option Bool} {f : σ → Option (σ ⊕ ρ)} {n : Nat} {s : σ} {A : σ ⊕ ρ → Prop} (h : OP (Z.whileR c f n s) A) : ∃ C F, C = c ∧ F = f ∧ OP (Z.whileR C F n s) A := ⟨c, f, rfl, rfl, h⟩
theorem fcall {σ τ : Type} {F f : σ → Option τ} {s : σ} {r : τ} (e : F = f) (h : F s = some r) : f s = some r := e ▸ h
theorem nn_t2 {α β : Type} {τ : Rep K α} {υ : Rep K β} {p : α × β} (hr : (qT2 τ υ).R H v p) : v ≠ .non := by
  obtain ⟨a, w1, w2, rfl, _⟩ := hr
  exact fun z => nomatch z
theorem nn_l {α : Type} {τ : Rep K α} {xs : List α} (hr : (qL τ).R H v xs) : v ≠ .non := by
  obtain ⟨a, ws, rfl, _⟩ := hr
  exact fun z => nomatch z
theorem v_isiO {T n : String} {α : Type} {τ : Rep K α} {o : Option α} (ha : Val ta σ H v) (hr : (qOpt τ).R H v o) (ty : ∀ {y : α}, τ.R H v y → TyX K H v (.type T)) (hk : kitB T n = some true) (hn : kitB "NoneType" n = some false) : Val (tCB (rIsi K) (tCons ta (tCons (tC (.ty n)) tNil))) σ H (.bl o.isSome) := by
  cases o with
  | none =>
    cases (show v = .non from hr)
    exact v_isi ha ty_non hn
  | some y => exact v_isi ha (ty hr.2) hk
theorem v_isiN {T n : String} {α : Type} {τ : Rep K α} {o : Option α} (ha : Val ta σ H v) (hr : (qOpt τ).R H v o) (ty : ∀ {y : α}, τ.R H v y → TyX K H v (.type T)) (hk : kitB T n = some false) (hn : kitB "NoneType" n = some false) : Val (tCB (rIsi K) (tCons ta (tCons (tC (.ty n)) tNil))) σ H (.bl false) := by
  cases o with
  | none =>
    cases (show v = .non from hr)
    exact v_isi ha ty_non hn
  | some y => exact v_isi ha (ty hr.2) hk
end
end Z

namespace Z
open PySem PySem.Spec PyProof.Rows L2

/-! ### answers -/
theorem OP.fin {α : Type} {A F : α → Prop} {x : α} (hA : A = F) (h : OP (Option.some x) A) : F x := hA ▸ h
def EXP {α : Type} (r : Except Nat α) (P : α → Prop) (N : Nat → Prop) : Prop := match r with
  | .ok x => P x
  | .error c => N c
theorem EXP.ok {α : Type} {x : α} {P : α → Prop} {N : Nat → Prop} (h : EXP (.ok x) P N) : P x := h
theorem EXP.er {α : Type} {c : Nat} {P : α → Prop} {N : Nat → Prop} (h : EXP (.error c) P N) : N c := h
theorem LM0 {P : Addr → Prop} : ∀ l ∈ ([] : List Addr), P l := fun _ h => nomatch h
theorem LM1 {P : Addr → Prop} {a : Addr} {as : List Addr} (h : P a) (t : ∀ l ∈ as, P l) : ∀ l ∈ a :: as, P l := fun l q => by
  cases q with
  | head => exact h
  | tail _ q => exact t l q
theorem NM0 {a : Addr} : a ∉ ([] : List Addr) := fun h => nomatch h
theorem NM1 {a b : Addr} {bs : List Addr} (h : a ≠ b) (t : a ∉ bs) : a ∉ b :: bs := fun q => by
  cases q with
  | head => exact h rfl
  | tail _ q => exact t q

section
variable {K : PySem.W.Frag} {σ σ' : L2.St} {S S1 H S0 H0 : Hp} {L L' : List Addr} {ta tb te tl : TE} {t u tc : TT} {tr : TA} {x y z v : V} {i j : Int} {b c : Bool} {Q : VK} {D : Ends} {t1 t2 tu : TS} {g : TG} {vs ws : List V}

/-! ### lists that are only read -/
/-- a list written by the top -/
def Wr (K : PySem.W.Frag) (a : Addr) (xs : List V) : Prop := ∃ (o : Obj) (its : Array Value) (n : Nat), K.lookup a = some o ∧ o.cls = .type "list" ∧ o.dict = none ∧ o.data = .seq its n ∧ its.size ≤ sizeLine ∧ Vals xs its.toList
def StL (K : PySem.W.Frag) (L : List Addr) (H0 : Hp) (a : Addr) (ws : List V) : Prop := ((H0 a = some (.lst ws) ∨ ∃ o, H0 a = some (.frz o (.lst ws))) ∧ a ∉ L) ∨ Wr K a ws
theorem StL.sq {a : Addr} (h : StL K L H0 a ws) : SqL K H0 a ws := by
  rcases h with ⟨h | ⟨o, h⟩, _⟩ | h
  · exact .inl (.inl h)
  · exact .inl (.inr ⟨o, h⟩)
  · exact .inr h
theorem Grow.st {a : Addr} (g : Grow L S0 H0 S H) (h : StL K L H0 a ws) : StL K L H a ws := by
  rcases h with ⟨h | ⟨o, h⟩, n⟩ | h
  · exact .inl ⟨.inl (g.hh _ _ n h), n⟩
  · exact .inl ⟨.inr ⟨o, g.hh _ _ n h⟩, n⟩
  · exact .inr h
theorem Grow.sq {a : Addr} (g : Grow L S0 H0 S H) (h : StL K L H0 a ws) : SqL K H a ws := (g.st h).sq
theorem StL.to {a : Addr} (h : StL K L H0 a ws) (g : Grow L S0 H0 S H) (hL : ∀ l ∈ L', H0 l = none ∨ l ∈ L) : StL K L' H a ws := by
  rcases h with ⟨q, n⟩ | q
  · rcases g.st (.inl ⟨q, n⟩ : StL K L H0 a ws) with ⟨q', _⟩ | q'
    · refine .inl ⟨q', fun m => ?_⟩
      rcases hL a m with z | z
      · rcases q with q | ⟨o, q⟩
        · rw [z] at q; cases q
        · rw [z] at q; cases q
      · exact n z
    · exact .inr q'
  · exact .inr q
def RdL {α : Type} (τ : Rep K α) (L : List Addr) (S H0 : Hp) (v : V) (x : List α) : Prop := ∃ a ws, v = .ref a ∧ StL K L H0 a ws ∧ RL τ S ws x
/-- what a loop, a slice .. reads -/
def LS {α : Type} (τ : Rep K α) (S H : Hp) (v : V) (x : List α) : Prop := ∃ a ws, v = .ref a ∧ SqL K H a ws ∧ RL τ S ws x
def LP {α : Type} (τ : Rep K α) (S H : Hp) (v : V) (x : List α) : Prop := ∃ a ws, v = .ref a ∧ H a = some (.lst ws) ∧ RL τ S ws x
section
variable {α : Type} {τ : Rep K α} {xs ys : List α} {l : Addr} {o o' : HO}
theorem RdL.mono (e : Same S S1) (h : RdL τ L S H0 v xs) : RdL τ L S1 H0 v xs := by
  obtain ⟨a, ws, rfl, h1, h2⟩ := h
  exact ⟨a, ws, rfl, h1, RL.mono e h2⟩
theorem RdL.q (g : Grow L S0 H0 S H) (h : RdL τ L S H0 v xs) : (qQ τ).R H v xs := by
  obtain ⟨a, ws, rfl, h1, h2⟩ := h
  exact ⟨a, ws, rfl, g.sq h1, RL.mono g.sh h2⟩
theorem RdL.to (g : Grow L S0 H0 S H) (h : RdL τ L S H0 v xs) (hL : ∀ l ∈ L', H0 l = none ∨ l ∈ L) : RdL τ L' S H v xs := by
  obtain ⟨a, ws, rfl, h1, h2⟩ := h
  exact ⟨a, ws, rfl, h1.to g hL, h2⟩
theorem RdL.ofL (e : Same S H) (h : (qL τ).R S v xs) (hL : ∀ l ∈ L', S l = none) : RdL τ L' S H v xs := by
  obtain ⟨a, ws, rfl, h1, h2⟩ := h
  exact ⟨a, ws, rfl, .inl ⟨.inl (e _ _ h1), fun m => by rw [hL a m] at h1; cases h1⟩, h2⟩
theorem RdL.ofC (h : H l = some (.lst ws)) (n : l ∉ L') (r : RL τ S ws xs) : RdL τ L' S H (.ref l) xs := ⟨l, ws, rfl, .inl ⟨.inl h, n⟩, r⟩
theorem RdL.start {a : Addr} (h : SqL K H a ws) (r : RL τ S ws xs) : RdL τ [] S H (.ref a) xs := by
  refine ⟨a, ws, rfl, ?_, r⟩
  rcases h with (h | ⟨o, h⟩) | h
  · exact .inl ⟨.inl h, NM0⟩
  · exact .inl ⟨.inr ⟨o, h⟩, NM0⟩
  · exact .inr h
theorem RdL.ofQ (e : Same S H) (h : (qQ τ).R S v xs) (_ : ∀ l ∈ ([] : List Addr), S l = none) : RdL τ [] S H v xs := by
  obtain ⟨a, ws, rfl, h1, h2⟩ := h
  exact RdL.start (e.seq h1) h2
theorem qL_of (h : H l = some (.lst ws)) (r : RL τ H ws xs) : (qL τ).R H (.ref l) xs := ⟨l, ws, rfl, h, r⟩
theorem LS.ofL (e : Same S H) (h : (qL τ).R S v xs) : LS τ S H v xs := by
  obtain ⟨a, ws, rfl, h1, h2⟩ := h
  exact ⟨a, ws, rfl, SqL.of (e _ _ h1), h2⟩
theorem LS.ofQ (e : Same S H) (h : (qQ τ).R S v xs) : LS τ S H v xs := by
  obtain ⟨a, ws, rfl, h1, h2⟩ := h
  exact ⟨a, ws, rfl, e.seq h1, h2⟩
theorem LS.rd (g : Grow L S0 H0 S H) (h : RdL τ L S H0 v xs) : LS τ S H v xs := by
  obtain ⟨a, ws, rfl, h1, h2⟩ := h
  exact ⟨a, ws, rfl, g.sq h1, h2⟩
theorem LS.cel (h : H l = some (.lst ws)) (r : RL τ S ws xs) : LS τ S H (.ref l) xs := ⟨l, ws, rfl, SqL.of h, r⟩
theorem LP.ofL (e : Same S H) (h : (qL τ).R S v xs) : LP τ S H v xs := by
  obtain ⟨a, ws, rfl, h1, h2⟩ := h
  exact ⟨a, ws, rfl, e _ _ h1, h2⟩
theorem LP.cel (h : H l = some (.lst ws)) (r : RL τ S ws xs) : LP τ S H (.ref l) xs := ⟨l, ws, rfl, h, r⟩
theorem c_freeze (g : Grow L S0 H0 S H) (c : Cel L H0 S H l (.lst ws)) (z : H0 l = none) (r : RL τ S ws xs) :
    ∃ S1, Grow L S0 H0 S1 H ∧ Same S S1 ∧ (qL τ).R S1 (.ref l) xs ∧ ∀ l' o', l' ≠ l → Cel L H0 S H l' o' → Cel L H0 S1 H l' o' :=
  ⟨_, g.freeze c z, same_upd c.s, ⟨l, ws, rfl, upd_same, RL.mono (same_upd c.s) r⟩, fun _ _ n c' => c'.freeze n⟩
theorem look_none {ns : List Str} {fs : List (Str × V)} {m : Str} (e : fs.map (·.1) = ns) (h : m ∉ ns) : fs.lookup m = none := by
  subst e
  induction fs with
  | nil => rfl
  | cons p fs ih =>
    obtain ⟨k, w⟩ := p
    rw [List.map_cons, List.mem_cons, not_or] at h
    rw [List.lookup_cons]
    have : (m == k) = false := beq_eq_false_iff_ne.mpr h.1
    rw [this]
    exact ih h.2

/-! ### values -/
theorem nn_q (h : (qQ τ).R H v xs) : v ≠ .non := by
  obtain ⟨a, ws, rfl, _⟩ := h
  exact fun z => nomatch z
theorem ty_q (h : (qQ τ).R H v xs) : TyX K H v (.type "list") := by
  obtain ⟨a, ws, rfl, h, _⟩ := h
  rcases h with (h | ⟨o, h⟩) | ⟨o, its, n, h, c, _⟩
  · exact .base (.lst h)
  · exact .base (.frz h)
  · exact .kList h c
theorem dec_nn (h : v ≠ .non) : decide (v = .non) = false := decide_eq_false h
theorem dec_nnN (h : v ≠ .non) : (!decide (v = .non)) = true := by rw [decide_eq_false h]; rfl
theorem ty_scI (h : (qI (K := K)).R H v i) : TyX K H v (.type "int") := by cases h; exact ty_int
theorem ty_scB (h : (qB (K := K)).R H v b) : TyX K H v (.type "bool") := by cases h; exact ty_bl
theorem ty_scS {s : Str} (h : (qS (K := K)).R H v s) : TyX K H v (.type "str") := by cases h; exact ty_str
theorem v_catS {s t : Str} (ha : Val ta σ H (.str s)) (hb : Val tb σ H (.str t)) (hz : s.length + t.length ≤ 16777216) : Val (tOp (fun x y H Q => ∃ i j, x = .str i ∧ y = .str j ∧ i.length + j.length ≤ sizeLine ∧ Q (.str (i ++ j)) H) ta tb) σ H (.str (s ++ t)) := fun Q q => ha _ (hb _ ⟨s, t, rfl, rfl, hz, q⟩)
theorem e_catS {s t : Str} (hz : s.length + t.length ≤ 16777216) (q : Q (.str (s ++ t)) H) : (fun (x y : V) (H : Hp) (Q : VK) => ∃ i j, x = .str i ∧ y = .str j ∧ i.length + j.length ≤ sizeLine ∧ Q (.str (i ++ j)) H) (.str s) (.str t) H Q := ⟨s, t, rfl, rfl, hz, q⟩
theorem v_lenS {s : Str} (hz : s.length ≤ 16777216) (ha : Val ta σ H (.str s)) : Val (tCB (fun xs H Q => ∃ z, xs = [.str z] ∧ z.length ≤ sizeLine ∧ Q (.int z.length) H) (tCons ta tNil)) σ H (.int (s.length : Int)) := fun Q q => ha _ ⟨s, rfl, hz, q⟩
theorem e_len (h : (qQ τ).R H v xs) (q : Q (.int (xs.length : Int)) H) : rLenS K [v] H Q := by
  obtain ⟨a, ws, rfl, h2, h3⟩ := h
  exact ⟨a, ws, rfl, .inl h2, by rw [h3.length]; exact q⟩
theorem ints_of {xs : List Int} : ∀ {ws : List V}, RL (K := K) qI H ws xs → ws = xs.map V.int := fun h => RL.eqmap V.int (fun _ _ q => q) h
theorem e_sum {xs : List Int} (h : (qQ (K := K) qI).R H v xs) (q : Q (.int xs.sum) H) : rSum K [v] H Q := by
  obtain ⟨a, ws, rfl, h2, h3⟩ := h
  exact ⟨a, xs, rfl, by rw [← ints_of h3]; exact h2, q⟩
theorem v_sum {xs : List Int} (ha : Val ta σ H v) (h : (qQ (K := K) qI).R H v xs) : Val (tCB (rSum K) (tCons ta tNil)) σ H (.int xs.sum) := fun Q q => ha _ (e_sum h q)
theorem e_isN (e : decide (x = .non) = b) (q : Q (.bl b) H) : rIsN x .non H Q := ⟨rfl, by rw [e]; exact q⟩
theorem e_notN (e : (!decide (x = .non)) = b) (q : Q (.bl b) H) : rNotN x .non H Q := ⟨rfl, by rw [e]; exact q⟩
/-- pairs of whole numbers in order -/
def ltP2 (p q : Int × Int) : Bool := SrtO.lexB p q
theorem lex2 (p q : Int × Int) : HT.lexLt [p.1, p.2] [q.1, q.2] = ltP2 p q := by
  unfold ltP2 SrtO.lexB
  rw [HT.lexLt_cons, HT.lexLt_cons, HT.lexLt_nil_nil]
  by_cases h1 : p.1 = q.1
  · rw [if_pos h1, if_pos h1]
    by_cases h2 : p.2 = q.2
    · rw [if_pos h2, h2]; simp
    · rw [if_neg h2]
  · rw [if_neg h1, if_neg h1]
def rPair (f : Int × Int → Int × Int → Bool) (K : PySem.W.Frag) : R2 := fun x y H Q => ∃ (a b : Addr) (p q : Int × Int), x = .ref a ∧ y = .ref b ∧ SqT K H a [.int p.1, .int p.2] ∧ SqT K H b [.int q.1, .int q.2] ∧ Q (.bl (f p q)) H
theorem op_ltP {X : Cx} (hu : X.A.units < cLine) : OpR X (compareOp .Lt) (rPair ltP2 X.K) := fun pins s σ H x y v u Q I rx ry h => by
  obtain ⟨a, b, p, q, rfl, rfl, ha, hb, k⟩ := h
  exact op_ltT hu pins s σ H _ _ v u Q I rx ry ⟨a, b, [p.1, p.2], [q.1, q.2], rfl, rfl, ha, hb, by rw [lex2]; exact k⟩
theorem op_geP {X : Cx} (hu : X.A.units < cLine) : OpR X (compareOp .GtE) (rPair (fun p q => !ltP2 p q) X.K) := by
  intro pins s σ H x y v u Q I rx ry h
  obtain ⟨a, b, p, q, rfl, rfl, ha, hb, k⟩ := h
  cases rx
  cases ry
  obtain ⟨its, r1, p1, _⟩ := I.tuple ha
  obtain ⟨its2, r2, p2, _⟩ := I.tuple hb
  obtain ⟨ns, ens⟩ : ∃ ns, ns = [p.1, p.2] := ⟨_, rfl⟩
  obtain ⟨ms, ems⟩ : ∃ ms, ms = [q.1, q.2] := ⟨_, rfl⟩
  have i1 : IntsAre its ns := by rw [ens]; exact Vals.ints (ns := [p.1, p.2]) r1
  have i2 : IntsAre its2 ms := by rw [ems]; exact Vals.ints (ns := [q.1, q.2]) r2
  have e1 : its.toArray.size = ns.length := by rw [List.size_toArray]; exact i1.length
  have e2 : its2.toArray.size = ms.length := by rw [List.size_toArray]; exact i2.length
  have at1 : ∀ j (h1 : j < its.toArray.size), ∃ t, its.toArray[j] = .int (ns.getD j 0) t := fun j h1 => PyProof.Rows.IntsAre.int_at i1 _ _ (by simp at h1; simp [h1])
  have at2 : ∀ j (h1 : j < its2.toArray.size), ∃ t, its2.toArray[j] = .int (ms.getD j 0) t := fun j h1 => PyProof.Rows.IntsAre.int_at i2 _ _ (by simp at h1; simp [h1])
  have R := Ob.RcOp.tuples_ge (A := X.A) (s := s) (e := fun j => decide (ns.getD j 0 = ms.getD j 0)) (r := fun j => decide (ms.getD j 0 ≤ ns.getD j 0)) p1 p2 hu (fun j h1 h2 => by
    obtain ⟨t, et⟩ := at1 j h1
    obtain ⟨t', et'⟩ := at2 j h2
    rw [et, et']
    have z : (ns.getD j 0 == ms.getD j 0) = decide (ns.getD j 0 = ms.getD j 0) := by
      by_cases q : ns.getD j 0 = ms.getD j 0
      · rw [decide_eq_true q]; exact beq_iff_eq.mpr q
      · rw [decide_eq_false q]; exact beq_eq_false_iff_ne.mpr q
    rw [← z]
    exact SeqAt.EqAt.int_int _ _ _ _) (fun j h1 h2 _ => by
    obtain ⟨t, et⟩ := at1 j h1
    obtain ⟨t', et'⟩ := at2 j h2
    rw [et, et']
    exact Ob.RcOp.ge_int _ _ _ _)
  rw [e1, e2] at R
  have key : Ob.lexAt (fun j => decide (ns.getD j 0 = ms.getD j 0)) (fun j => decide (ms.getD j 0 ≤ ns.getD j 0)) (decide (ns.length ≥ ms.length)) 0 (min ns.length ms.length) = !ltP2 p q := by
    subst ens; subst ems
    show Ob.lexAt _ _ _ 0 2 = _
    rw [Ob.lexAt_succ, Ob.lexAt_succ, Ob.lexAt_zero]
    unfold ltP2 SrtO.lexB
    simp only [List.getD_cons_zero, List.getD_cons_succ, decide_eq_true_iff]
    by_cases h1 : p.1 = q.1
    · rw [if_pos h1, if_pos h1]
      by_cases h2 : p.2 = q.2
      · rw [if_pos h2, h2]; simp
      · rw [if_neg h2]
        have : decide (q.2 ≤ p.2) = !decide (p.2 < q.2) := by rw [← decide_not]; exact decide_eq_decide.mpr (by omega)
        rw [this]
    · rw [if_neg h1, if_neg h1]
      have : decide (q.1 ≤ p.1) = !decide (p.1 < q.1) := by rw [← decide_not]; exact decide_eq_decide.mpr (by omega)
      rw [this]
  rw [key] at R
  have z : wpAny (model X.prog X.w) X.A (compareOp .GtE (.ref a) (.ref b)) (EP X pins σ Q) X.xe s := R X.prog X.w X.xe (EP X pins σ Q) ⟨.bl _, H, I, rfl, k⟩
  exact z
theorem e_P2 {f : Int × Int → Int × Int → Bool} {p q : Int × Int} (h1 : (qT2 (K := K) qI qI).R H x p) (h2 : (qT2 (K := K) qI qI).R H y q) (k : Q (.bl (f p q)) H) : rPair f K x y H Q := by
  obtain ⟨a, w1, w2, rfl, ha, rfl, rfl⟩ := h1
  obtain ⟨b, u1, u2, rfl, hb, rfl, rfl⟩ := h2
  exact ⟨a, b, p, q, rfl, rfl, SqT.of ha, SqT.of hb, k⟩
theorem v_P2 {f : Int × Int → Int × Int → Bool} {p q : Int × Int} (ha : Val ta σ H x) (hb : Val tb σ H y) (h1 : (qT2 (K := K) qI qI).R H x p) (h2 : (qT2 (K := K) qI qI).R H y q) : Val (tOp (rPair f K) ta tb) σ H (.bl (f p q)) := fun Q k => ha _ (hb _ (e_P2 h1 h2 k))

/-! ### new lists -/
theorem l_slice {lo hi : Option Int} (h : LS τ S H v xs) (k : ∀ p ws H', Same H H' → H p = none → H' p = some (.lst ws) → RL τ S ws (cutI xs lo hi) → Q (.ref p) H') : rSlL K v lo hi H Q := by
  obtain ⟨a, ws, rfl, h2, h3⟩ := h
  exact ⟨a, ws, rfl, h2, fun l hl => k l _ _ (same_upd hl) hl upd_same (h3.cut lo hi)⟩
theorem l_list (h : LS τ S H v xs) (k : ∀ p ws H', Same H H' → H p = none → H' p = some (.lst ws) → RL τ S ws xs → Q (.ref p) H') :
    ∃ p ys, [v] = [.ref p] ∧ (SqL K H p ys ∨ SqT K H p ys) ∧ ∀ l, H l = none → Q (.ref l) (upd H l (.lst ys)) := by
  obtain ⟨a, ws, rfl, h2, h3⟩ := h
  exact ⟨a, ws, rfl, .inl h2, fun l hl => k l ws _ (same_upd hl) hl upd_same h3⟩
theorem l_cat (h1 : LP τ S H x xs) (h2 : LP τ S H y ys) (hz : xs.length + ys.length ≤ 16777216) (k : ∀ p ws H', Same H H' → H p = none → H' p = some (.lst ws) → RL τ S ws (xs ++ ys) → Q (.ref p) H') : rCat x y H Q := by
  obtain ⟨a, ws, rfl, ha, ra⟩ := h1
  obtain ⟨b, us, rfl, hb, rb⟩ := h2
  exact ⟨a, b, ws, us, rfl, rfl, ha, hb, by rw [ra.length, rb.length]; exact hz, fun p hp => k p _ _ (same_upd hp) hp upd_same (ra.app rb)⟩
/-- rising, by insertion -/
def insB {β : Type} (lt : β → β → Bool) (x : β) : List β → List β
  | [] => [x]
  | y :: ys => if lt y x = true then y :: insB lt x ys else x :: y :: ys
def sortB {β : Type} (lt : β → β → Bool) : List β → List β
  | [] => []
  | x :: xs => insB lt x (sortB lt xs)
theorem insB_perm {β : Type} {lt : β → β → Bool} {x : β} : ∀ ys : List β, (insB lt x ys).Perm (x :: ys)
  | [] => .refl _
  | y :: ys => by
    unfold insB
    split
    · exact ((insB_perm ys).cons y).trans (.swap x y ys)
    · exact .refl _
theorem sortB_perm {β : Type} {lt : β → β → Bool} : ∀ xs : List β, (sortB lt xs).Perm xs
  | [] => .refl _
  | x :: xs => (insB_perm _).trans ((sortB_perm xs).cons x)
theorem insB_srt {β : Type} {lt : β → β → Bool} (asy : ∀ a b, lt a b = true → lt b a = false) (tr : ∀ a b c, lt b a = false → lt c b = false → lt c a = false) {x : β} : ∀ {ys : List β}, SrtO.Srtd lt ys → SrtO.Srtd lt (insB lt x ys)
  | [], _ => List.pairwise_singleton _ _
  | y :: ys, h => by
    unfold insB
    obtain ⟨h1, h2⟩ := List.pairwise_cons.mp h
    split
    · rename_i q
      refine List.pairwise_cons.mpr ⟨fun z hz => ?_, insB_srt asy tr h2⟩
      rcases List.mem_cons.mp ((insB_perm ys).mem_iff.mp hz) with rfl | hz
      · exact asy _ _ q
      · exact h1 z hz
    · rename_i q
      have q : lt y x = false := by cases e : lt y x <;> simp_all
      refine List.pairwise_cons.mpr ⟨fun z hz => ?_, h⟩
      rcases List.mem_cons.mp hz with rfl | hz
      · exact q
      · exact tr _ _ _ q (h1 z hz)
theorem sortB_srt {β : Type} {lt : β → β → Bool} (asy : ∀ a b, lt a b = true → lt b a = false) (tr : ∀ a b c, lt b a = false → lt c b = false → lt c a = false) : ∀ xs : List β, SrtO.Srtd lt (sortB lt xs)
  | [] => List.Pairwise.nil
  | x :: xs => insB_srt asy tr (sortB_srt asy tr xs)
/-- two rising lists of the same things are one, where neither-below is equal -/
theorem srt_uniq {β : Type} {lt : β → β → Bool} (tot : ∀ a b, lt a b = false → lt b a = false → a = b) : ∀ {xs ys : List β}, xs.Perm ys → SrtO.Srtd lt xs → SrtO.Srtd lt ys → xs = ys
  | [], ys, p, _, _ => (List.Perm.nil_eq p)
  | x :: xs, [], p, _, _ => absurd p.length_eq (by simp)
  | x :: xs, y :: ys, p, h1, h2 => by
    obtain ⟨a1, a2⟩ := List.pairwise_cons.mp h1
    obtain ⟨b1, b2⟩ := List.pairwise_cons.mp h2
    have e : x = y := by
      rcases List.mem_cons.mp (p.mem_iff.mp List.mem_cons_self) with e | hx
      · exact e
      · rcases List.mem_cons.mp (p.mem_iff.mpr List.mem_cons_self) with e | hy
        · exact e.symm
        · exact tot x y (b1 x hx) (a1 y hy)
    subst e
    rw [srt_uniq tot (p.cons_inv) a2 b2]
abbrev sortP (xs : List (Int × Int)) : List (Int × Int) := sortB ltP2 xs
abbrev ltI (a b : Int) : Bool := decide (a < b)
abbrev sortI (xs : List Int) : List Int := sortB ltI xs
theorem ltP2_iff {p q : Int × Int} : ltP2 p q = true ↔ p.1 < q.1 ∨ (p.1 = q.1 ∧ p.2 < q.2) := SrtO.lexB_iff
theorem ltP2_no {p q : Int × Int} : ltP2 p q = false ↔ ¬ (p.1 < q.1 ∨ (p.1 = q.1 ∧ p.2 < q.2)) := SrtO.lexB_no
theorem ltP2_tot (a b : Int × Int) (h1 : ltP2 a b = false) (h2 : ltP2 b a = false) : a = b := by
  rw [ltP2_no] at h1 h2
  exact Prod.ext (by omega) (by omega)
theorem ltP2_asy (a b : Int × Int) (h : ltP2 a b = true) : ltP2 b a = false := by
  rw [ltP2_iff] at h
  rw [ltP2_no]; omega
theorem ltP2_tr (a b c : Int × Int) (h1 : ltP2 b a = false) (h2 : ltP2 c b = false) : ltP2 c a = false := by
  rw [ltP2_no] at h1 h2 ⊢; omega
theorem ltI_tot (a b : Int) (h1 : ltI a b = false) (h2 : ltI b a = false) : a = b := by
  have := of_decide_eq_false h1
  have := of_decide_eq_false h2
  omega
theorem ltI_asy (a b : Int) (h : ltI a b = true) : ltI b a = false := by
  have := of_decide_eq_true h
  exact decide_eq_false (by omega)
theorem ltI_tr (a b c : Int) (h1 : ltI b a = false) (h2 : ltI c b = false) : ltI c a = false := by
  have := of_decide_eq_false h1
  have := of_decide_eq_false h2
  exact decide_eq_false (by omega)
theorem RL.perm : ∀ {ws : List V} {xs : List α} {ws' : List V}, RL τ H ws xs → ws'.Perm ws → ∃ xs', xs'.Perm xs ∧ RL τ H ws' xs' := by
  intro ws xs ws' r p
  induction p generalizing xs with
  | nil => exact ⟨xs, .refl _, r⟩
  | cons x p ih =>
    cases r with
    | cons a b =>
      obtain ⟨ys, q, s⟩ := ih b
      exact ⟨_ :: ys, q.cons _, .cons a s⟩
  | swap x y l =>
    cases r with
    | cons a b =>
      cases b with
      | cons b c => exact ⟨_, .swap _ _ _, .cons b (.cons a c)⟩
  | trans p q ih1 ih2 =>
    obtain ⟨ys, q1, s1⟩ := ih2 r
    obtain ⟨zs, q2, s2⟩ := ih1 s1
    exact ⟨zs, q2.trans q1, s2⟩
/-- the pair that stands at a value -/
def pairAt (H : Hp) (v : V) : Int × Int := match v with
  | .ref a => match H a with
    | some (.tup [.int i, .int j]) => (i, j)
    | _ => (0, 0)
  | _ => (0, 0)
theorem pairAt_of {p : Int × Int} (h : (qT2 (K := K) qI qI).R H v p) : pairAt H v = p := by
  obtain ⟨a, w1, w2, rfl, h2, rfl, rfl⟩ := h
  simp only [pairAt, h2]
theorem l_sortP {xs : List (Int × Int)} (e : Same S H) (h : LS (qT2 (K := K) qI qI) S H v xs) (k : ∀ p ws H', Same H H' → H p = none → H' p = some (.lst ws) → RL (qT2 (K := K) qI qI) S ws (sortP xs) → Q (.ref p) H') : rSortedPO K [v] H Q := by
  obtain ⟨a, ws, rfl, h2, h3⟩ := h
  have all : ∀ {us : List V} {ys : List (Int × Int)}, RL (qT2 (K := K) qI qI) S us ys → us.map (pairAt H) = ys := by
    intro us ys r
    induction r with
    | nil => rfl
    | cons a _ ih => rw [List.map_cons, ih, pairAt_of (Rep.mono _ e a)]
  refine ⟨a, ws, pairAt H, rfl, h2, fun x hx => ?_, fun ys p h4 h5 hp => ?_⟩
  · clear all k h2
    revert hx
    induction h3 with
    | nil => intro hx; cases hx
    | cons a _ ih =>
      intro hx
      rcases List.mem_cons.mp hx with rfl | hx
      · have r := Rep.mono _ e a
        have z := pairAt_of r
        obtain ⟨t, w1, w2, rfl, ht, rfl, rfl⟩ := r
        exact ⟨t, rfl, by rw [z]; exact ht⟩
      · exact ih hx
  · obtain ⟨zs, q, r⟩ := RL.perm h3 h5.perm
    have ez : zs = ys.map (pairAt H) := (all r).symm
    have s1 : SrtO.Srtd ltP2 zs := by
      rw [ez]
      exact List.pairwise_map.mpr h4
    have : zs = sortP xs := srt_uniq ltP2_tot (q.trans (sortB_perm xs).symm) s1 (sortB_srt ltP2_asy ltP2_tr xs)
    exact k p ys _ (same_upd hp) hp upd_same (this ▸ r)
theorem l_sortI {xs : List Int} (e : Same S H) (h : LS (K := K) qI S H v xs) (k : ∀ p ws H', Same H H' → H p = none → H' p = some (.lst ws) → RL (K := K) qI S ws (sortI xs) → Q (.ref p) H') : rSortedI K [v] H Q := by
  obtain ⟨a, ws, rfl, h2, h3⟩ := h
  refine ⟨a, xs, rfl, by rw [← ints_of h3]; exact h2, fun ns p q h4 hp => ?_⟩
  have s1 : SrtO.Srtd ltI ns := h4.imp fun h => decide_eq_false (by omega)
  have : ns = sortI xs := srt_uniq ltI_tot (q.trans (sortB_perm xs).symm) s1 (sortB_srt ltI_asy ltI_tr xs)
  subst this
  exact k p _ _ (same_upd hp) hp upd_same (RL.map V.int (fun _ => rfl) _)
theorem c_sliceE {r : V → Option Int → Option Int → Hp → VK → Prop} {tl th : TO} (h : te σ H fun x H1 => tSl r (tC x) tl th σ H1 Q) : tSl r te tl th σ H Q := h
theorem c_slice2 {r : V → Option Int → Option Int → Hp → VK → Prop} {tl th : TO} {lo hi : Option Int} (hl : ∀ q : Option Int → Hp → Prop, q lo H → tl σ H q) (hh : ∀ q : Option Int → Hp → Prop, q hi H → th σ H q) (k : r v lo hi H Q) : tSl r (tC v) tl th σ H Q := hl _ (hh _ k)
/-! ### parts -/
theorem e_ix {q : α} (h : LS τ S H v xs) (hx : atI xs i = some q) (k : ∀ w, τ.R S w q → Q w H) : rIxL K v (.int i) H Q := by
  obtain ⟨a, ws, rfl, h2, h3⟩ := h
  obtain ⟨w, ew, r⟩ := h3.at hx
  exact ⟨a, ws, i, w, rfl, rfl, h2, ew, k w r⟩
theorem v_ixr {q : α} (g : Grow L S0 H0 S H) (h : RdL τ L S H0 v xs) (hx : atI xs i = some q) : ∃ w, (∀ {σ : L2.St} {ta tb : TE}, Val ta σ H v → Val tb σ H (.int i) → Val (tOp (rIxL K) ta tb) σ H w) ∧ τ.R S w q := by
  obtain ⟨a, ws, rfl, h2, h3⟩ := LS.rd g h
  obtain ⟨w, ew, r⟩ := h3.at hx
  exact ⟨w, fun ha hb Q z => ha _ (hb _ ⟨a, ws, i, w, rfl, rfl, h2, ew, z⟩), r⟩
end
section
variable {α β γ : Type} {τ : Rep K α} {υ : Rep K β} {φ : Rep K γ}
theorem e_p20 {p : α × β} (e : Same S H) (h : (qT2 τ υ).R S v p) (k : ∀ w, τ.R S w p.1 → Q w H) : rIxT K v (.int 0) H Q := by
  obtain ⟨a, w1, w2, rfl, h2, h3, h4⟩ := h
  exact ⟨a, _, 0, _, rfl, rfl, SqT.of (e _ _ h2), rfl, k w1 h3⟩
theorem e_p21 {p : α × β} (e : Same S H) (h : (qT2 τ υ).R S v p) (k : ∀ w, υ.R S w p.2 → Q w H) : rIxT K v (.int 1) H Q := by
  obtain ⟨a, w1, w2, rfl, h2, h3, h4⟩ := h
  exact ⟨a, _, 1, _, rfl, rfl, SqT.of (e _ _ h2), rfl, k w2 h4⟩
theorem g_tup2 {n : Nat} {p : α × β} {t1 t2 : TG} {q : L2.St → Hp → Prop} (hn : 2 = n) (e : Same S H) (h : (qT2 τ υ).R S v p) (k : ∀ w1 w2, τ.R S w1 p.1 → υ.R S w2 p.2 → t1 w1 σ H fun σ1 H1 => gCons t2 gNil [w2] σ1 H1 q) : gTup K n (gCons t1 (gCons t2 gNil)) v σ H q := by
  subst hn
  obtain ⟨a, w1, w2, rfl, h2, h3, h4⟩ := h
  exact ⟨a, _, rfl, SqT.of (e _ _ h2), rfl, w1, _, rfl, k w1 w2 h3 h4⟩
theorem g_tup3 {n : Nat} {p : α × β × γ} {t1 t2 t3 : TG} {q : L2.St → Hp → Prop} (hn : 3 = n) (e : Same S H) (h : (qT3 τ υ φ).R S v p) (k : ∀ w1 w2 w3, τ.R S w1 p.1 → υ.R S w2 p.2.1 → φ.R S w3 p.2.2 → t1 w1 σ H fun σ1 H1 => gCons t2 (gCons t3 gNil) [w2, w3] σ1 H1 q) : gTup K n (gCons t1 (gCons t2 (gCons t3 gNil))) v σ H q := by
  subst hn
  obtain ⟨a, w1, w2, w3, rfl, h2, h3, h4, h5⟩ := h
  exact ⟨a, _, rfl, SqT.of (e _ _ h2), rfl, w1, _, rfl, k w1 w2 w3 h3 h4 h5⟩
end
theorem g_next {t : TG} {u : TGs} {q : L2.St → Hp → Prop} (k : t v σ H fun σ' H' => u vs σ' H' q) : gCons t u (v :: vs) σ H q := ⟨v, vs, rfl, k⟩
theorem g_end {q : L2.St → Hp → Prop} (k : q σ H) : gNil [] σ H q := ⟨rfl, k⟩
/-- a new pair that is put apart at once -/
theorem g_pair {n : Nat} {p : Addr} {H2 : Hp} {t1 t2 : TG} {w1 w2 : V} {q : L2.St → Hp → Prop} (e : H2 = upd H p (.tup [w1, w2])) (h : H2 p = some (.tup [w1, w2])) (hn : 2 = n) (k : t1 w1 σ H2 fun σ1 H1 => gCons t2 gNil [w2] σ1 H1 q) : gTup K n (gCons t1 (gCons t2 gNil)) (.ref p) σ (upd H p (.tup [w1, w2])) q := by
  subst e; subst hn
  exact ⟨p, _, rfl, SqT.of h, rfl, w1, _, rfl, k⟩

/-! ### loops -/
section
variable {α β : Type} {R : V → α → Prop} {R2 : V → β → Prop} {a : Addr} {us : List V} {xs : List α} {ys : List β}
theorem paired_get {R : V → α → Prop} : ∀ {ws : List V} {xs : List α}, Paired R ws xs → ∀ {i : Nat} {w : V}, ws[i]? = some w → ∃ x, xs[i]? = some x ∧ R w x
  | _, _, .nil, i, w, h => by cases h
  | _, _, .cons r t, 0, w, h => by
    cases h
    exact ⟨_, rfl, r⟩
  | _, _, .cons r t, i + 1, w, h => paired_get t (i := i) h
/-- for x in reversed(xs) -/
theorem z_forV {ws : List V} {tl : TE} {g : TG} {tb : TS} (ha : Val tl σ H (.ref a)) (hp : Paired R ws xs) (Pv : List α → L2.St → Hp → Prop) (h0 : Pv xs.reverse σ H) (hl : ∀ ys σ' H', Pv ys σ' H' → SqL K H' a ws)
    (hs : ∀ w y ys σ' H', R w y → Pv (y :: ys) σ' H' → ∀ N : L2.St → Hp → Prop, (∀ σ'' H'', Pv ys σ'' H'' → N σ'' H'') → g w σ' H' fun σ2 H2 => tb { D with nx := N, ct := N, bk := tu D } σ2 H2) (hd : ∀ σ' H', Pv [] σ' H' → tu D σ' H') :
    tSeq (tFor (iRev K (tCons tl tNil)) g tb) tu D σ H := ha _ ⟨a, ws, rfl, hl _ _ _ h0, by
  have hlen := Paired.length hp
  refine ⟨fun i m σ H => m = ws.length - i ∧ i ≤ ws.length ∧ Pv (xs.reverse.drop i) σ H, ⟨_, rfl, Nat.zero_le _, h0⟩, ?_⟩
  rintro i m σ' H' ⟨rfl, hi, p⟩
  by_cases hlt : i < ws.length
  · have hj : ws.length - 1 - i < ws.length := by omega
    have hx : ws[ws.length - 1 - i]? = some ws[ws.length - 1 - i] := List.getElem?_eq_getElem hj
    refine .inr ⟨⟨hlt, ws, _, hl _ _ _ p, hx⟩, fun σ'' H'' => Pv (xs.reverse.drop (i + 1)) σ'' H'', fun σ'' H'' p' => ⟨ws.length - (i + 1), by omega, rfl, hlt, p'⟩, fun x H'' y => ?_⟩
    obtain ⟨rfl, f1⟩ := y
    have e1 := f1 ws (hl _ _ _ p)
    obtain ⟨q, hq, r⟩ := paired_get hp e1
    have e2 : xs.reverse[i]? = some q := by rw [List.getElem?_reverse (by omega), ← hlen]; exact hq
    have e3 : xs.reverse.drop i = q :: xs.reverse.drop (i + 1) := by
      have hi2 := (List.getElem?_eq_some_iff.mp e2)
      obtain ⟨h1, h2⟩ := hi2
      rw [List.drop_eq_getElem_cons h1, h2]
    rw [e3] at p
    exact hs x q _ σ' H'' r p _ fun _ _ z => z
  · refine .inl ⟨by show ws.length ≤ i; omega, hd σ' H' ?_⟩
    have : xs.reverse.drop i = [] := List.drop_eq_nil_of_le (by rw [List.length_reverse]; omega)
    rw [this] at p
    exact p⟩
def enumF {α : Type} : Nat → List α → List (Int × α)
  | _, [] => []
  | k, x :: xs => ((k : Nat), x) :: enumF (k + 1) xs
def enumI {α : Type} (xs : List α) : List (Int × α) := enumF 0 xs
theorem enumF_len : ∀ (xs : List α) (k : Nat), (enumF k xs).length = xs.length
  | [], _ => rfl
  | _ :: xs, k => congrArg (· + 1) (enumF_len xs (k + 1))
theorem enumF_get : ∀ (xs : List α) (k i : Nat) (x : α), xs[i]? = some x → (enumF k xs)[i]? = some (((k + i : Nat) : Int), x)
  | [], _, i, x, h => by cases h
  | y :: ys, k, 0, x, h => by cases h; rfl
  | y :: ys, k, i + 1, x, h => by
    have := enumF_get ys (k + 1) i x h
    rw [show k + (i + 1) = k + 1 + i by omega]
    exact this
/-- for i, x in enumerate(xs) -/
theorem z_forN {ws : List V} {tl : TE} {g : TG} {tb : TS} (ha : Val tl σ H (.ref a)) (hp : Paired R ws xs) (Pv : List (Int × α) → L2.St → Hp → Prop) (h0 : Pv (enumI xs) σ H) (hl : ∀ ys σ' H', Pv ys σ' H' → SqL K H' a ws)
    (hs : ∀ w (y : Int × α) ys σ' H', R w y.2 → Pv (y :: ys) σ' H' → ∀ N : L2.St → Hp → Prop, (∀ σ'' H'', Pv ys σ'' H'' → N σ'' H'') → ∀ t, H' t = none → g (.ref t) σ' (upd H' t (.tup [.int y.1, w])) fun σ2 H2 => tb { D with nx := N, ct := N, bk := tu D } σ2 H2) (hd : ∀ σ' H', Pv [] σ' H' → tu D σ' H') :
    tSeq (tFor (iEnum K (tCons tl tNil)) g tb) tu D σ H := ha _ ⟨a, ws, rfl, hl _ _ _ h0, by
  have hlen := Paired.length hp
  refine ⟨fun i m σ H => m = ws.length - i ∧ i ≤ ws.length ∧ Pv ((enumI xs).drop i) σ H, ⟨_, rfl, Nat.zero_le _, h0⟩, ?_⟩
  rintro i m σ' H' ⟨rfl, hi, p⟩
  by_cases hlt : i < ws.length
  · have hx : ws[i]? = some ws[i] := List.getElem?_eq_getElem hlt
    refine .inr ⟨⟨ws, _, hl _ _ _ p, hx⟩, fun σ'' H'' => Pv ((enumI xs).drop (i + 1)) σ'' H'', fun σ'' H'' p' => ⟨ws.length - (i + 1), by omega, rfl, hlt, p'⟩, fun x H'' y => ?_⟩
    obtain ⟨t, w, rfl, ht, rfl, f1⟩ := y
    have e1 := f1 ws (hl _ _ _ p)
    obtain ⟨q, hq, r⟩ := paired_get hp e1
    have e2 : (enumI xs)[i]? = some ((i : Int), q) := by
      have := enumF_get xs 0 i q hq
      rw [Nat.zero_add] at this
      exact this
    have e3 : (enumI xs).drop i = ((i : Int), q) :: (enumI xs).drop (i + 1) := by
      obtain ⟨h1, h2⟩ := List.getElem?_eq_some_iff.mp e2
      rw [List.drop_eq_getElem_cons h1, h2]
    rw [e3] at p
    exact hs w _ _ σ' H' r p _ (fun _ _ z => z) t ht
  · refine .inl ⟨⟨ws, hl _ _ _ p, by omega⟩, hd σ' H' ?_⟩
    have : (enumI xs).drop i = [] := List.drop_eq_nil_of_le (by unfold enumI; rw [enumF_len]; omega)
    rw [this] at p
    exact p⟩
/-- for x, y in zip(xs, ys) -/
theorem z_forZ {b : Addr} {ws vs : List V} {tl tl2 : TE} {g : TG} {tb : TS} (ha : Val tl σ H (.ref a)) (hb : Val tl2 σ H (.ref b)) (hp : Paired R ws xs) (hp2 : Paired R2 vs ys) (Pv : List (α × β) → L2.St → Hp → Prop) (h0 : Pv (List.zip xs ys) σ H) (hl : ∀ zs σ' H', Pv zs σ' H' → SqL K H' a ws ∧ SqL K H' b vs)
    (hs : ∀ w w2 (y : α × β) zs σ' H', R w y.1 → R2 w2 y.2 → Pv (y :: zs) σ' H' → ∀ N : L2.St → Hp → Prop, (∀ σ'' H'', Pv zs σ'' H'' → N σ'' H'') → ∀ t, H' t = none → g (.ref t) σ' (upd H' t (.tup [w, w2])) fun σ2 H2 => tb { D with nx := N, ct := N, bk := tu D } σ2 H2) (hd : ∀ σ' H', Pv [] σ' H' → tu D σ' H') :
    tSeq (tFor (iZip K (tCons tl (tCons tl2 tNil))) g tb) tu D σ H := ha _ (hb _ ⟨a, b, ws, vs, rfl, (hl _ _ _ h0).1, (hl _ _ _ h0).2, by
  have hlen := Paired.length hp
  have hlen2 := Paired.length hp2
  refine ⟨fun i m σ H => m = ws.length - i ∧ Pv ((List.zip xs ys).drop i) σ H, ⟨_, rfl, h0⟩, ?_⟩
  rintro i m σ' H' ⟨rfl, p⟩
  obtain ⟨qx, qy⟩ := hl _ _ _ p
  by_cases hlt : i < ws.length ∧ i < vs.length
  · obtain ⟨l1, l2⟩ := hlt
    refine .inr ⟨⟨ws, vs, _, _, qx, qy, List.getElem?_eq_getElem l1, List.getElem?_eq_getElem l2⟩, fun σ'' H'' => Pv ((List.zip xs ys).drop (i + 1)) σ'' H'', fun σ'' H'' p' => ⟨ws.length - (i + 1), by omega, rfl, p'⟩, fun x H'' y => ?_⟩
    obtain ⟨t, w, w2, rfl, ht, rfl, f1, f2⟩ := y
    obtain ⟨q, hq, r⟩ := paired_get hp (f1 ws qx)
    obtain ⟨q2, hq2, r2⟩ := paired_get hp2 (f2 vs qy)
    have e2 : (List.zip xs ys)[i]? = some (q, q2) := by rw [List.getElem?_zip_eq_some]; exact ⟨hq, hq2⟩
    have e3 : (List.zip xs ys).drop i = (q, q2) :: (List.zip xs ys).drop (i + 1) := by
      obtain ⟨h1, h2⟩ := List.getElem?_eq_some_iff.mp e2
      rw [List.drop_eq_getElem_cons h1, h2]
    rw [e3] at p
    exact hs w w2 _ _ σ' H' r r2 p _ (fun _ _ z => z) t ht
  · refine .inl ⟨⟨ws, vs, qx, qy, by omega⟩, hd σ' H' ?_⟩
    have : (List.zip xs ys).drop i = [] := List.drop_eq_nil_of_le (by rw [List.length_zip]; omega)
    rw [this] at p
    exact p⟩)
theorem z_forreversedE {g : TG} {tb : TS} (h : tl σ H fun x H1 => tSeq (tFor (iRev K (tCons (tC x) tNil)) g tb) tu D σ H1) : tSeq (tFor (iRev K (tCons tl tNil)) g tb) tu D σ H := h
theorem z_forenumerateE {g : TG} {tb : TS} (h : tl σ H fun x H1 => tSeq (tFor (iEnum K (tCons (tC x) tNil)) g tb) tu D σ H1) : tSeq (tFor (iEnum K (tCons tl tNil)) g tb) tu D σ H := h
theorem z_forzipE {tl2 : TE} {g : TG} {tb : TS} (h : tl σ H fun x H1 => tl2 σ H1 fun y H2 => tSeq (tFor (iZip K (tCons (tC x) (tCons (tC y) tNil))) g tb) tu D σ H2) : tSeq (tFor (iZip K (tCons tl (tCons tl2 tNil))) g tb) tu D σ H := h
end

/-! ### objects, calls -/
theorem v_fld {l C dx : Addr} {fs : List (Str × V)} {f : Str} {w : V} (ha : Val ta σ H (.ref l)) (h : H l = some (.ins C dx fs)) (c : Cls K C) (n : NoAttr K C f) (hf : fs.lookup f = some w) : Val (tFld K ta f) σ H w := fun Q q => ha _ ⟨l, C, dx, fs, w, rfl, h, c, n, hf, q⟩
theorem c_methO {l C dx : Addr} {fs : List (Str × V)} {m : Str} {sp : Sp} {dvs : List V} {E : XK} {t : TA} (ha : Val ta σ H (.ref l)) (h : H l = some (.ins C dx fs)) (hm : fs.lookup m = none) (k : t σ H fun vs H2 => sp (.ref l :: (vs ++ dvs)) H2 Q E) : tMeth C m sp dvs E ta t σ H Q := ha _ ⟨l, dx, fs, rfl, h, hm, k⟩
theorem c_meth {C : Addr} {ns : List Str} {m : Str} {sp : Sp} {dvs : List V} {E : XK} {t : TA} (ha : Val ta σ H v) (h : ∃ (l dx : Addr) (fs : List (Str × V)), v = .ref l ∧ H l = some (.ins C dx fs) ∧ ∀ m : Str, m ∉ ns → fs.lookup m = none) (hm : m ∉ ns) (k : t σ H fun vs H2 => sp (v :: (vs ++ dvs)) H2 Q E) : tMeth C m sp dvs E ta t σ H Q := by
  obtain ⟨l, dx, fs, rfl, h1, h2⟩ := h
  exact ha _ ⟨l, dx, fs, rfl, h1, h2 m hm, k⟩
theorem v_methO {l C dx : Addr} {fs : List (Str × V)} {m : Str} {sp : Sp} {dvs : List V} {E : XK} {t : TA} {vs : List V} (ha : Val ta σ H (.ref l)) (h : H l = some (.ins C dx fs)) (hm : fs.lookup m = none) (ht : VA t σ H vs) (hs : ∀ Q : VK, Q z H → sp (.ref l :: (vs ++ dvs)) H Q E) : Val (tMeth C m sp dvs E ta t) σ H z := fun Q q => c_methO ha h hm (ht _ (hs Q q))
theorem v_meth {C : Addr} {ns : List Str} {m : Str} {sp : Sp} {dvs : List V} {E : XK} {t : TA} {vs : List V} (ha : Val ta σ H v) (h : ∃ (l dx : Addr) (fs : List (Str × V)), v = .ref l ∧ H l = some (.ins C dx fs) ∧ ∀ m : Str, m ∉ ns → fs.lookup m = none) (hm : m ∉ ns) (ht : VA t σ H vs) (hs : ∀ Q : VK, Q z H → sp (v :: (vs ++ dvs)) H Q E) : Val (tMeth C m sp dvs E ta t) σ H z := fun Q q => c_meth ha h hm (ht _ (hs Q q))
theorem c_make {C : Addr} {sp : Sp} {dvs : List V} {E : XK} {t : TA} (h : t σ H fun vs H1 => ∀ x dx, H1 x = none → H1 dx = none → dx ≠ x →
    sp (.ref x :: (vs ++ dvs)) (upd (upd H1 dx (.own x)) x (.ins C dx [])) (fun v H2 => v = .non ∧ Q (.ref x) H2) E) : tMake C sp dvs E t σ H Q := h
theorem make_in {C : Addr} {vs : List V} {sp : Sp} {Qf : Addr → VK} {E : XK} (h : ∀ x dx H', Same H H' → H x = none → H' x = some (.ins C dx []) → sp (.ref x :: vs) H' (Qf x) E) : ∀ x dx, H x = none → H dx = none → dx ≠ x → sp (.ref x :: vs) (upd (upd H dx (.own x)) x (.ins C dx [])) (Qf x) E :=
  fun x dx hx hdx n => h x dx _ ((same_upd hdx).trans (same_upd (by rw [upd_ne n.symm]; exact hx))) hx upd_same
theorem v_chn {g g' : Int → Int → V} {k l m : Int} (ha : Val ta σ H (.int k)) (hb : Val tb σ H (.int l)) (hc : Val te σ H (.int m)) (h1 : g k l = .bl b) (h2 : g' l m = .bl c) : Val (tChain (rI0 g) (rI0 g') ta tb te) σ H (.bl (b && c)) := v_chain (p := fun _ _ => b) (q := fun _ _ => c) ha hb hc h1 h2
theorem z_fldE {f : Str} (h : te σ H fun y H1 => ta σ H1 fun x H2 => ∃ a C dx fs, x = .ref a ∧ H2 a = some (.ins C dx fs) ∧ Cls K C ∧ NoAttr K C f ∧ fs.length < 1000 ∧ tu D σ (upd H2 a (.ins C dx (putF f y fs)))) : tSeq (sFld K ta te f) tu D σ H := h
theorem c_setF {l C dx : Addr} {fs fs' : List (Str × V)} {f : Str} (g : Grow L S0 H0 S H) (cl : Cel L H0 S H l (.ins C dx fs)) (ho : Val ta σ H (.ref l)) (c : Cls K C) (n : NoAttr K C f) (hn : fs.length < 1000) (he : putF f y fs = fs')
    (k : ∀ H', Grow L S0 H0 S H' → Cel L H0 S H' l (.ins C dx fs') → (∀ l' o', l' ≠ l → Cel L H0 S H l' o' → Cel L H0 S H' l' o') → tu D σ H') :
    ta σ H fun x H2 => ∃ a C dx fs, x = .ref a ∧ H2 a = some (.ins C dx fs) ∧ Cls K C ∧ NoAttr K C f ∧ fs.length < 1000 ∧ tu D σ (upd H2 a (.ins C dx (putF f y fs))) := by
  subst he
  exact ho _ ⟨l, C, dx, fs, rfl, cl.h, c, n, hn, k _ (g.wr cl rfl) (cl.wr rfl) fun l' o' n c => c.wrn n⟩

def gDivW (j : Int) : Prop := 0 < j ∧ j < 2 ^ 200
instance (j : Int) : Decidable (gDivW j) := by unfold gDivW; infer_instance
theorem gDivW.ok {i j : Int} (h : gDivW j) : CDivW i j := wide_div (b := 200) h.1 (by
  have h1 := h.1
  have h2 := h.2
  omega) (by decide) (by decide)
theorem gDivW_nat {n : Nat} (h0 : 0 < n) (h : n < 2 ^ 200) : gDivW (n : Int) := ⟨by omega, by omega⟩
/-! ### more of lists -/
section
variable {α : Type} {τ : Rep K α} {l : Addr} {xs ys : List α}
theorem c_rev (g : Grow L S0 H0 S H) (cl : Cel L H0 S H l (.lst ws)) (r : RL τ S ws xs)
    (k : ∀ H', Grow L S0 H0 S H' → Cel L H0 S H' l (.lst ws.reverse) → RL τ S ws.reverse xs.reverse → (∀ l' o', l' ≠ l → Cel L H0 S H l' o' → Cel L H0 S H' l' o') → Q .non H') : rReverse (.ref l) [] H Q :=
  ⟨l, ws, rfl, rfl, cl.h, k _ (g.wr cl rfl) (cl.wr rfl) r.reverse fun l' o' n c => c.wrn n⟩
theorem c_pop {q : α} (g : Grow L S0 H0 S H) (cl : Cel L H0 S H l (.lst ws)) (r : RL τ S ws xs) (he : xs.getLast? = some q)
    (k : ∀ w, τ.R S w q → ∀ ws' H', Grow L S0 H0 S H' → Cel L H0 S H' l (.lst ws') → RL τ S ws' xs.dropLast → (∀ l' o', l' ≠ l → Cel L H0 S H l' o' → Cel L H0 S H' l' o') → Q w H') : rPop (.ref l) [] H Q := by
  rw [List.getLast?_eq_getElem?] at he
  obtain ⟨w, ew, rw_⟩ := r.get he
  exact ⟨l, ws, w, rfl, rfl, cl.h, by rw [r.length]; exact ew, k w rw_ _ _ (g.wr cl rfl) (cl.wr rfl) r.dropLast fun l' o' n c => c.wrn n⟩
theorem c_setL2 {q : α} {P : Hp → Prop} (g : Grow L S0 H0 S H) (cl : Cel L H0 S H l (.lst ws)) (r : RL τ S ws xs) (rv : τ.R S v q) (he : setI xs i q = some ys)
    (k : ∀ ws' H', Grow L S0 H0 S H' → Cel L H0 S H' l (.lst ws') → RL τ S ws' ys → (∀ l' o', l' ≠ l → Cel L H0 S H l' o' → Cel L H0 S H' l' o') → P H') : rSetL (.ref l) (.int i) v H P := by
  unfold setI at he
  cases e : ixN xs.length i with
  | none => rw [e] at he; cases he
  | some j =>
    rw [e] at he
    cases (Option.some.inj he)
    exact ⟨l, ws, i, j, rfl, rfl, cl.h, by rw [r.length]; exact e, k _ _ (g.wr cl rfl) (cl.wr rfl) (r.set rv j) fun l' o' n c => c.wrn n⟩
end
/-- xs[i] op= e -/
def sXAug (td ty tv : TE) (ri : R2) (rd : TIp) (t : TSet) : TS := fun D σ H => td σ H fun x H1 => ty σ H1 fun y H2 => ri x y H2 fun v H3 => tv σ H3 fun y2 H4 => rd v y2 H4 fun z H5 => t x y z H5 fun H6 => D.nx σ H6
theorem get_list {X : Cx} {pins : List (Addr × Obj)} {s : Shared} {u w : Value} (I : Inv X pins σ H s) (rx : RelV x u) (ry : RelV y w) (h : rIxL X.K x y H Q) : wpAny (model X.prog X.w) X.A (getItem u w) (EP X pins σ Q) X.xe s := by
  obtain ⟨p, xs, i, z, rfl, rfl, hq, he, q⟩ := h
  cases rx
  obtain ⟨t, rfl⟩ := ry
  obtain ⟨its, r, pl, hz⟩ := I.list hq
  obtain ⟨j, h1, h2, h3, h4, h5⟩ := L2.atI_get he
  obtain ⟨w, ew, rw'⟩ := r.get h2
  have hl := r.length
  have hn := line63
  have fin : EP X pins σ Q w s := ⟨z, H, I, rw', q⟩
  by_cases h0 : 0 ≤ i
  · have hj : i.toNat = j := by
      rw [seqIndex_of h0 h5] at h1
      exact Option.some.inj h1
    exact wpAny_getItem_list pl.isList h0 (by omega) (by rw [hj]; simpa using ew) fin
  · have hj : (i + (its.toArray.size : Int)).toNat = j := by
      rw [seqIndex_neg (by omega) h4] at h1
      rw [List.size_toArray, ← hl]
      exact Option.some.inj h1
    exact wpAny_getItem_list_neg pl.isList (by omega) (by rw [List.size_toArray] <;> omega) (by omega) (by rw [hj]; simpa using ew) fin
theorem ps_xaug {X : Cx} {o i value : Expr} {tpos pos : Pos} {op : Operator} {td ty tv : TE} {rd : TIp} (ho : PE X o td) (hi : PE X i ty) (hv : PE X value tv) (hop : PIp X op rd)
    (ha : ∀ ov iv new, augStore i ov iv new = (do holding [new, ov, iv] (setItem ov iv new); release [new, ov, iv] []; pure .next)) : PS X (.AugAssign (.Subscript o i tpos) op value pos) (sXAug td ty tv (rIxL X.K) rd rSetL) := by
  refine ⟨fun pins s σ H D I h => ?_⟩
  refine wpAny_AugAssign_SubscriptAny (thn (ho.run pins s σ H _ I h) fun u s1 ⟨x, H1, I1, rx, q1⟩ => thn (hi.run pins s1 σ H1 _ I1 q1) fun iv s2 ⟨y, H2, I2, ry, q2⟩ => ?_) ha
  refine thn (get_list I2 rx ry q2) fun w' s3 ⟨v, H3, I3, rw', q3⟩ => thn (hv.run pins s3 σ H3 _ I3 q3) fun w2 s4 ⟨y2, H4, I4, ry2, q4⟩ => thn (hop pins s4 σ H4 v y2 w' w2 _ I4 rw' ry2 q4) fun w3 s5 ⟨z, H5, I5, rz, q5⟩ => ?_
  exact thn (set_list pins s5 σ H5 x y z u iv w3 _ I5 rx ry rz q5) fun _ s6 ⟨H6, I6, q6⟩ => ⟨σ, H6, I6, q6⟩
theorem z_xaug {α : Type} {τ : Rep K α} {l : Addr} {xs : List α} {q : α} {rd : TIp} {t : TSet} {f : α → V} (ho : Val ta σ H (.ref l)) (hi : Val tb σ H (.int i)) (h : H l = some (.lst ws)) (r : RL τ S ws xs) (hx : atI xs i = some q)
    (k : ∀ w, τ.R S w q → te σ H fun y2 H4 => rd w y2 H4 fun z H5 => t (.ref l) (.int i) z H5 fun H6 => tu D σ H6) : tSeq (sXAug ta tb te (rIxL K) rd t) tu D σ H := by
  obtain ⟨w, ew, rw_⟩ := r.at hx
  exact ho _ (hi _ ⟨l, ws, i, w, rfl, rfl, SqL.of h, ew, k w rw_⟩)
theorem z_xaugI {l : Addr} {xs : List Int} {q : Int} {rd : TIp} {t : TSet} (ho : Val ta σ H (.ref l)) (hi : Val tb σ H (.int i)) (h : H l = some (.lst ws)) (r : RL (K := K) qI S ws xs) (hx : atI xs i = some q)
    (k : te σ H fun y2 H4 => rd (.int q) y2 H4 fun z H5 => t (.ref l) (.int i) z H5 fun H6 => tu D σ H6) : tSeq (sXAug ta tb te (rIxL K) rd t) tu D σ H :=
  z_xaug (τ := qI) (f := V.int) ho hi h r hx fun w e => by cases e; exact k
theorem z_augE {k : Nat} {ti : TIp} (hx : σ[k]? = some (some x)) (h : te σ H fun y H1 => ti x y H1 fun v H2 => tu D (σ.set k (some v)) H2) : tSeq (tAug k te ti) tu D σ H := ⟨x, hx, h⟩
theorem q_set {k : Nat} {w : V} (e : v = w) (hs : σ.set k (some w) = σ') (q : tu D σ' H) : tu D (σ.set k (some v)) H := by subst e; subst hs; exact q
theorem z_augS {k : Nat} {w : V} {s r : Str} (hx : σ[k]? = some (some (.str s))) (hv : Val te σ H (.str r)) (hz : s.length + r.length ≤ 16777216) (he : V.str (s ++ r) = w) (hs : σ.set k (some w) = σ') (q : tu D σ' H) :
    tSeq (tAug k te (fun x y H Q => ∃ i j, x = .str i ∧ y = .str j ∧ i.length + j.length ≤ sizeLine ∧ Q (.str (i ++ j)) H)) tu D σ H :=
  z_aug hx hv (fun _ q => ⟨s, r, rfl, rfl, hz, q⟩) he hs q
theorem c_bits (h : te σ H fun x H1 => ∃ i, x = .int i ∧ Q (.int (Builtin.Int.intBits i : Nat)) H1) : tBits te σ H Q := h
theorem c_notV (h : ta σ H fun x H1 => ∃ c, x = .bl c ∧ Q (.bl (!c)) H1) : tNotV ta σ H Q := h
theorem c_chain {r r' : R2} (h : ta σ H fun x H1 => tb σ H1 fun y H2 => r x y H2 fun z H3 => ∃ k, z = .bl k ∧ if k = true then te σ H3 fun w' H4 => r' y w' H4 Q else Q (.bl false) H3) : tChain r r' ta tb te σ H Q := h
theorem e_chain {g g' : Int → Int → V} {k l m : Int} (hc : Val te σ H (.int m)) (h1 : g k l = .bl b) (h2 : g' l m = .bl c) (q : Q (.bl (b && c)) H) : rI0 g (.int k) (.int l) H fun z H3 => ∃ k, z = .bl k ∧ if k = true then te σ H3 fun w' H4 => rI0 g' (.int l) w' H4 Q else Q (.bl false) H3 := ⟨k, l, rfl, rfl, b, h1, by
  cases b with
  | true => exact (show (if true = true then _ else _) from hc _ ⟨l, m, rfl, rfl, by rw [h2]; exact q⟩)
  | false => exact (show (if false = true then _ else _) from q)⟩
end
/-! ### classes of errors -/
structure ExF (K : PySem.W.Frag) (C : Addr) : Prop where
  x : PySem.W.excIn K C [.type "ValueError", .type "Exception", .type "BaseException", .type "object"] "ValueError.__new__" = true
  k : PySem.W.keepIn K (.ref C) = true
  b : PySem.W.subIn K (.ref C) (.type "BaseException") = some true
  t : PySem.W.typeIn K (.ref C) = some (.type "type")
theorem bt_sorted : bootBuiltins "sorted" = some (.builtin "sorted") := by decide +kernel
theorem bt_sum : bootBuiltins "sum" = some (.builtin "sum") := by decide +kernel
end Z

namespace Z
open PySem PySem.Spec PyProof.Rows L2 RT
/-! ### list(reversed(xs)) -/
section
variable {prog : Program} {w : World} {A : Around} {E : Value → Shared → Prop} {s : Shared} {it l : Addr} {items : Array Value}
abbrev RvOf (items : Array Value) : Nat → Value → Prop := fun i v => items[items.size - 1 - i]? = some v
theorem rl_extend {R : Result → Shared → Prop} (hh : A.handled = none) (hit : s.heap.IsRevIter it l ((items.size : Int) - 1)) (hl : s.heap.IsList l items) (hne : l ≠ it) (hn : items.size ≤ sizeLine)
    (S : Addr) (hSi : S ≠ it) (hSl : S ≠ l) (res : Value) (c₀ : Nat) (hS : s.heap.get? S = some { cls := .type "list", data := .seq #[] c₀ })
    (hR : ∀ h' tk acc' c', (∀ b o, b ≠ S → b ≠ it → s.heap.get? b = some o → h'.get? b = some o) → h'.get? S = some { cls := .type "list", dict := none, data := .seq acc' c', slots := #[] } → ItemsOf (RvOf items) acc' items.size → R (.ok (.ret res)) { s with heap := h', toks := tk }) :
    wpAny (model prog w) A.in1 (Builtin.List.listExtendWith (.ref S) (.ref it) res)
      (fun fin s' => match fin with | .done f => R (.ok f) s' | .again c' => c'.quiet = true ∧ codeAny (model prog w) A c' R s') (fun e s' => R (.error e) s') s := by
  have W := (Walks.listRev (prog := prog) (w := w) (A := A.in1) hh it l hne items).toS
  have hSf : S ∉ [it, l] := by simp only [List.mem_cons, List.not_mem_nil, or_false, not_or]; exact ⟨hSi, hSl⟩
  have hT : s.TypeIs (.ref it) "list_reverseiterator" := Heap.IsRevIter.typeIs (s := s) hit
  have h1 : Builtin.List.listSameRef (.ref S) (.ref it) = false := by simp [Builtin.List.listSameRef, hSi]
  unfold Builtin.List.listExtendWith
  refine wpAny_bind (wpAny_typeOf hT ?_)
  rw [if_neg (by rw [h1]; decide)]
  refine wpAny_bind (wpAny_pyIter_revIter hit ?_)
  refine wpAny_bind (wpAny_holding ?_)
  unfold Builtin.List.listLengthHint
  refine wpAny_bind (wpAny_specialOf hT nolen_lri ?_)
  show wpAny _ A.in1 (specialOf (Value.ref it) (Str.ofString "__length_hint__") >>= _) _ _ _
  refine wpAny_bind (wpAny_specialOf hT hint_lri ?_)
  generalize hid : ("list_reverseiterator.__length_hint__" : String) = id0
  wp_delta
  rw [show splitId id0 = some ("list_reverseiterator", "__length_hint__") from by subst hid; decide +kernel]
  subst hid
  refine wpAny_bind (wpAny_isInstance (b := true) hT (by rw [isSubtype_type]; kernel_rfl) ?_)
  refine wpAny_pure ?_
  rw [if_neg (by decide)]
  have e0 : ((items.size : Nat) : Int) - 1 - ((0 : Nat) : Int) = (items.size : Int) - 1 := by omega
  refine wpAny_pure ⟨plainId_quiet PySem.F.plain_extend_loop _, codeAny_extend_loopS W hn _ hSf _ items.size 0 _ _ _ rfl (Nat.zero_le _) ⟨Nat.zero_le _, by rw [e0]; exact hit, hl⟩ hS (ItemsOf.nil _) fun s' acc' c' hm hS' hacc => ?_⟩
  rw [Moved.eq_with hm]
  refine hR s'.heap s'.toks acc' c' (fun b o hb hb2 e => hm.heap b o (fun hmem => ?_) e) hS' hacc
  rcases List.mem_cons.mp hmem with e' | hmem
  · exact hb e'
  · exact hb2 (List.mem_singleton.mp hmem)
theorem rl_init {R : Result → Shared → Prop} (hh : A.handled = none) (hit : s.heap.IsRevIter it l ((items.size : Int) - 1)) (hl : s.heap.IsList l items) (hne : l ≠ it) (hn : items.size ≤ sizeLine)
    (S : Addr) (hSi : S ≠ it) (hSl : S ≠ l) (hS : s.heap.get? S = some { cls := .type "list", data := .seq #[] })
    (hR : ∀ h' tk acc' c', (∀ b o, b ≠ S → b ≠ it → s.heap.get? b = some o → h'.get? b = some o) → h'.get? S = some { cls := .type "list", dict := none, data := .seq acc' c', slots := #[] } → ItemsOf (RvOf items) acc' items.size → R (.ok (.ret .none)) { s with heap := h', toks := tk }) :
    wpAny (model prog w) A.in1 (Builtin.«list.__init__» ⟨[.ref S, .ref it], []⟩)
      (fun fin s' => match fin with | .done f => R (.ok f) s' | .again c' => c'.quiet = true ∧ codeAny (model prog w) A c' R s') (fun e s' => R (.error e) s') s := by
  show wpAny _ _ (do let old ← Builtin.List.listItems (.ref S); Builtin.List.listUpdate (.ref S) (fun _ => #[]); letGo old.toList.reverse; Builtin.List.listExtendWith (.ref S) (.ref it) .none) _ _ s
  refine wpAny_bind ?_
  unfold Builtin.List.listItems
  refine wpAny_bind (wpAny_seqItems hS rfl (wpAny_pure ?_))
  show wpAny _ _ (updateSeq S (fun _ => #[]) >>= fun _ => letGo (#[] : Array Value).toList.reverse >>= fun _ => Builtin.List.listExtendWith (.ref S) (.ref it) .none) _ _ s
  refine wpAny_bind (wpAny_updateSeq hS rfl ?_)
  have hS₂ := Heap.get?_update_self (Obj.mapSeq (fun _ => (#[] : Array Value))) hS rfl
  have oth : ∀ b o, b ≠ S → s.heap.get? b = some o → (s.heap.update S (Obj.mapSeq (fun _ => (#[] : Array Value)))).get? b = some o :=
    fun b o hb e => (Heap.get?_update_other _ _ (Ne.symm hb)).trans e
  refine wpAny_bind (wpAny_letGo ?_)
  refine rl_extend (s := { s with heap := s.heap.update S (Obj.mapSeq (fun _ => (#[] : Array Value))) }) hh (hit.at fun o e => oth it o hSi.symm e) (hl.at fun o e => oth l o hSl.symm e) hne hn S hSi hSl .none _ hS₂ (fun h' tk acc' c' hk hS' hacc => ?_)
  exact hR h' tk acc' c' (fun b o hb hb2 e => hk b o hb hb2 (oth b o hb e)) hS' hacc
theorem call_list_rev {Q : Value → Shared → Prop} (hh : A.handled = none) (hit : s.heap.IsRevIter it l ((items.size : Int) - 1)) (hl : s.heap.IsList l items) (hne : l ≠ it) (hn : items.size ≤ sizeLine)
    (hQ : ∀ h' tk acc' c', (∀ b o, b ≠ it → s.heap.get? b = some o → h'.get? b = some o) → h'.get? s.heap.objs.size = some { cls := .type "list", dict := none, data := .seq acc' c', slots := #[] } → ItemsOf (RvOf items) acc' items.size → Q (.ref s.heap.objs.size) { s with heap := h', toks := tk }) :
    wpAny (model prog w) A (call (.type "list") [.ref it]) Q E s := by
  refine callType_codes (Q₁ := fun obj s₁ => obj = .ref s.heap.objs.size ∧ s₁ = { s with heap := s.heap.push { cls := .type "list", data := .seq #[] } }) PySem.F.called_list (PySem.F.typeCall_list_1 _) PySem.F.entry_list_init
    (code_list_new _ ⟨rfl, rfl⟩) fun obj s₁ h₁ => ?_
  obtain ⟨rfl, rfl⟩ := h₁
  have hS : (s.heap.push { cls := .type "list", data := .seq #[] }).get? s.heap.objs.size = some { cls := .type "list", data := .seq #[] } := Heap.get?_push_size _ rfl
  obtain ⟨oi, hoi, _⟩ := id hit
  obtain ⟨ol, hol, _⟩ := id hl
  refine ⟨⟨_, hS, rfl⟩, PySem.F.args_list_init_2 _ _, rl_init (A := A.in1) (s := { s with heap := s.heap.push { cls := .type "list", data := .seq #[] } }) hh (hit.at fun o e => Heap.get?_push_of_some _ e) (hl.push _) hne hn _ (Nat.ne_of_gt (Heap.lt_size hoi)) (Nat.ne_of_gt (Heap.lt_size hol)) hS (fun h' tk acc' c' hk hS' hacc => ?_)⟩
  exact ⟨rfl, hQ h' tk acc' c' (fun b o hb e => hk b o (Nat.ne_of_lt (Heap.lt_size e)) hb (Heap.get?_push_of_some _ e)) hS' hacc⟩
end
def rListRev (K : PySem.W.Frag) (v : V) (H : Hp) (Q : VK) : Prop := ∃ (a : Addr) (xs : List V), v = .ref a ∧ SqL K H a xs ∧ ∀ q, H q = none → Q (.ref q) (upd H q (.lst xs.reverse))
def tListRev (K : PySem.W.Frag) (te : TE) : TE := fun σ H Q => te σ H fun v H1 => rListRev K v H1 Q
theorem pe_listRev {X : Cx} {e : Expr} {te : TE} {p p2 pos pos2 : Pos} (hc : X.calm = true) (hg : Gl X "list") (hm : X.mg "list" = none) (hg2 : Gl X "reversed") (hm2 : X.mg "reversed" = none) (he : PE X e te)
    (hs : starEach [e] X.env = (false, eval e X.env) :: starEach [] X.env := by rfl)
    (hs2 : starEach [.Call (.Name "reversed" p2) [e] [] pos2] X.env = (false, eval (.Call (.Name "reversed" p2) [e] [] pos2) X.env) :: starEach [] X.env := by rfl) :
    PE X (.Call (.Name "list" p) [.Call (.Name "reversed" p2) [e] [] pos2] [] pos) (tListRev X.K te) := by
  refine ⟨fun pins s σ H Q I h => ?_⟩
  refine Call_ (ld_blt I hg hm bt_list (PyProof.Rows.callWith_type1 (args_cons (Call_ (ld_blt I hg2 hm2 PyProof.Rows.boot_reversed (PyProof.Rows.callWith_type1 (args_cons (thn (he.run pins s σ H _ I h) fun u s1 ⟨v, H1, I1, r1, q1⟩ => args_nil ?_) hs) hs rfl))) hs2) hs2 rfl))
  obtain ⟨a, xs, ev, hq, q⟩ := q1
  subst ev
  obtain rfl : u = Value.ref a := r1
  obtain ⟨its, rv, p', hz⟩ := I1.list hq
  refine call_reversed_list p'.isList (args_nil ?_)
  have k0 : ∀ b o, s1.heap.get? b = some o → (s1.heap.push (revObj a ((its.toArray.size : Int) - 1))).get? b = some o := fun b o e => Heap.get?_push_of_some _ e
  have I2 : Inv X pins σ H1 { s1 with heap := s1.heap.push (revObj a ((its.toArray.size : Int) - 1)) } := I1.kept (t' := s1.toks) k0
  obtain ⟨f0, f1, f2, f3, f4, f5⟩ := I1.fpOk (H' := H1) (b := s1.heap.objs.size) (Nat.le_refl _) (I1.hok.fresh (Nat.le_refl _))
  have hl := p'.isList
  obtain ⟨ol, hol, _⟩ := id hl
  have hne : a ≠ s1.heap.objs.size := Nat.ne_of_lt (Heap.lt_size hol)
  have hn : its.toArray.size ≤ sizeLine := by rw [List.size_toArray, ← rv.length]; exact hz
  refine call_list_rev (s := { s1 with heap := s1.heap.push (revObj a ((its.toArray.size : Int) - 1)) }) (I1.ok.hd hc) ⟨_, Heap.get?_push_size _ rfl, rfl, rfl⟩ (hl.push _) hne hn fun h' tk acc c' hk hS hi => ?_
  refine ⟨.ref _, upd H1 _ (.lst xs.reverse), I2.turnedNew (t' := tk) (ch := [s1.heap.objs.size]) (fun b o hb e => hk b o (fun z => hb (by rw [z]; exact List.mem_singleton.mpr rfl)) e) (fun b hb => by cases List.mem_singleton.mp hb; exact ⟨f0, f1, f2, f3, f4, f5⟩) (Nat.le_refl _) (show ObjOk X.prog X.w _ h' _ (.lst xs.reverse) from ⟨by rw [List.length_reverse]; exact hz, acc.toList, c', vals_rev rv hi, by rw [Array.toArray_toList]; exact hS⟩), rfl, q _ (I2.hok.fresh (Nat.le_refl _))⟩
section
variable {K : PySem.W.Frag} {σ : L2.St} {S H : Hp} {te : TE} {v : V} {Q : VK} {α : Type} {τ : Rep K α} {xs : List α}
theorem c_lrE (h : ∀ Q' : VK, Q' = Q → te σ H fun v H1 => rListRev K v H1 Q') : tListRev K te σ H Q := h _ rfl
theorem l_listRev (h : LS τ S H v xs) (k : ∀ p ws H', Same H H' → H p = none → H' p = some (.lst ws) → RL τ S ws xs.reverse → Q (.ref p) H') : rListRev K v H Q := by
  obtain ⟨a, ws, rfl, h2, h3⟩ := h
  exact ⟨a, ws, rfl, h2, fun l hl => k l _ _ (same_upd hl) hl upd_same h3.reverse⟩
end
end Z

namespace Z
open PySem PySem.Spec PyProof.Rows L2
section
variable {K : PySem.W.Frag}
theorem enc_lay_none : (PyData.none).canLay0 = true := rfl
/-- what is never None -/
def NN {α : Type} [DecidableEq α] {τ : Rep K α} (d : Dat τ) : Prop := ∀ x, PyData.eqv .none (d.enc x) = false ∧ PyData.eqv (d.enc x) .none = false
def dOpt {α : Type} [DecidableEq α] {τ : Rep K α} (d : Dat τ) (hn : NN d) : Dat (qOpt τ) := ⟨fun o => match o with
    | none => .none
    | some x => d.enc x, fun {H v o} h => by
    cases o with
    | none => cases (show v = .non from h); exact .non
    | some x => exact d.dp h.2, fun o => by
    cases o with
    | none => rfl
    | some x => exact d.lay x, max d.n 1, fun o => by
    cases o with
    | none => show PyData.depth .none ≤ _; simp [PyData.depth]
    | some x => exact Nat.le_trans (d.dep x) (Nat.le_max_left _ _), fun a b => by
    cases a with
    | none =>
      cases b with
      | none => rfl
      | some y => exact (hn y).1.trans (decide_eq_false (fun e => nomatch e)).symm
    | some x =>
      cases b with
      | none => exact (hn x).2.trans (decide_eq_false (fun e => nomatch e)).symm
      | some y =>
        show PyData.eqv (d.enc x) (d.enc y) = _
        rw [d.eqv]
        exact decide_eq_decide.mpr ⟨fun e => by rw [e], fun e => Option.some.inj e⟩⟩
theorem nnI : NN (K := K) dI := fun _ => ⟨rfl, rfl⟩
theorem nnB : NN (K := K) dB := fun _ => ⟨rfl, rfl⟩
theorem nnL {α : Type} [DecidableEq α] {τ : Rep K α} (d : Dat τ) : NN (dL d) := fun _ => ⟨rfl, rfl⟩
theorem nnQ {α : Type} [DecidableEq α] {τ : Rep K α} (d : Dat τ) : NN (dQ d) := fun _ => ⟨rfl, rfl⟩
theorem nnT2 {α β : Type} [DecidableEq α] [DecidableEq β] {τ : Rep K α} {υ : Rep K β} (a : Dat τ) (b : Dat υ) : NN (dT2 a b) := fun _ => ⟨rfl, rfl⟩
theorem eqvAll3 {a b c a' b' c' : PyData} : PyData.eqv (.tuple [a, b, c]) (.tuple [a', b', c']) = (PyData.eqv a a' && (PyData.eqv b b' && PyData.eqv c c')) := by
  simp [PyData.eqv, PyData.eqvAll]
def dT3 {α β γ : Type} [DecidableEq α] [DecidableEq β] [DecidableEq γ] {τ : Rep K α} {υ : Rep K β} {φ : Rep K γ} (a : Dat τ) (b : Dat υ) (c : Dat φ) : Dat (qT3 τ υ φ) := ⟨fun x => .tuple [a.enc x.1, b.enc x.2.1, c.enc x.2.2], fun {H v x} h => by
    obtain ⟨p, w1, w2, w3, rfl, h2, h3, h4, h5⟩ := h
    exact .tup (SqT.of h2) (.cons (a.dp h3) (.cons (b.dp h4) (.cons (c.dp h5) .nil))), fun x => by
    show PyData.canLayAll0 [a.enc x.1, b.enc x.2.1, c.enc x.2.2] = true
    simp [PyData.canLayAll0, a.lay, b.lay, c.lay], max a.n (max b.n c.n) + 1, fun x => by
    have h1 := a.dep x.1
    have h2 := b.dep x.2.1
    have h3 := c.dep x.2.2
    show PyData.depth (.tuple [a.enc x.1, b.enc x.2.1, c.enc x.2.2]) ≤ _
    simp only [PyData.depth, PyData.depthAll]
    omega, fun x y => by
    rw [eqvAll3, a.eqv, b.eqv, c.eqv, ← Bool.decide_and, ← Bool.decide_and]
    exact decide_eq_decide.mpr ⟨fun h => Prod.ext h.1 (Prod.ext h.2.1 h.2.2), fun h => by rw [h]; exact ⟨rfl, rfl, rfl⟩⟩⟩
theorem nnT3 {α β γ : Type} [DecidableEq α] [DecidableEq β] [DecidableEq γ] {τ : Rep K α} {υ : Rep K β} {φ : Rep K γ} (a : Dat τ) (b : Dat υ) (c : Dat φ) : NN (dT3 a b c) := fun _ => ⟨rfl, rfl⟩
end
end Z
namespace Z
open PySem PySem.Spec PyProof.Rows L2
/-! ### range with a step -/
def gR3 (i j c : Int) : Prop := 0 < c ∧ c < 1073741824 ∧ Builtin.Range.small i j c = true
instance (i j c : Int) : Decidable (gR3 i j c) := by unfold gR3; infer_instance
def rangeS (i j c : Int) : List Int := (List.range (Builtin.Range.rangeSize i j c).toNat).map fun (k : Nat) => i + (k : Int) * c
theorem rsize_nn {i j c : Int} (h : 0 < c) : 0 ≤ Builtin.Range.rangeSize i j c := by
  unfold Builtin.Range.rangeSize
  rw [if_pos h]
  split
  · have := Int.ediv_nonneg (show 0 ≤ j - i - 1 by omega) (show 0 ≤ c by omega)
    omega
  · omega
section
variable {K : PySem.W.Frag} {σ : L2.St} {H : Hp} {ta : TA} {D : Ends} {tu : TS}
theorem z_for3 {g : TG} {tb : TS} {i j c : Int} (ha : VA ta σ H [.int i, .int j, .int c]) (hj : gR3 i j c) (Pv : List Int → L2.St → Hp → Prop) (h0 : Pv (rangeS i j c) σ H)
    (hs : ∀ x xs σ' H', Pv (x :: xs) σ' H' → ∀ N : L2.St → Hp → Prop, (∀ σ'' H'', Pv xs σ'' H'' → N σ'' H'') → g (.int x) σ' H' fun σ2 H2 => tb { D with nx := N, ct := N, bk := tu D } σ2 H2) (hd : ∀ σ' H', Pv [] σ' H' → tu D σ' H') :
    tSeq (tFor (iRng3 ta) g tb) tu D σ H := ha _ ⟨i, j, c, (Builtin.Range.rangeSize i j c).toNat, rfl, ⟨by have := hj.1; omega, by have h1 := hj.1; have h2 := hj.2.1; omega, hj.2.2, by have := rsize_nn (i := i) (j := j) hj.1; omega⟩, by
  obtain ⟨n, hn⟩ : ∃ n, n = (Builtin.Range.rangeSize i j c).toNat := ⟨_, rfl⟩
  have h0' : Pv ((List.range n).map fun (k : Nat) => i + (k : Int) * c) σ H := by rw [hn]; exact h0
  rw [← hn]
  have hlen : ((List.range n).map fun (k : Nat) => i + (k : Int) * c).length = n := by rw [List.length_map, List.length_range]
  refine for_rangeC (D := { D with nx := tu D }) (fun k σ H => k ≤ n ∧ Pv (((List.range n).map fun (k : Nat) => i + (k : Int) * c).drop k) σ H) ⟨Nat.zero_le _, h0'⟩ (fun k σ' H' hk p => ?_) (fun σ' H' p => hd _ _ (by
    have q := p.2
    rw [List.drop_eq_nil_of_le (by omega)] at q
    exact q))
  have e : ((List.range n).map fun (k : Nat) => i + (k : Int) * c).drop k = (i + (k : Int) * c) :: ((List.range n).map fun (k : Nat) => i + (k : Int) * c).drop (k + 1) := by
    rw [List.drop_eq_getElem_cons (by omega), List.getElem_map, List.getElem_range]
  have q := p.2
  rw [e] at q
  exact hs _ _ σ' H' q _ fun σ'' H'' r => ⟨hk, r⟩⟩
end
/-! ### a list of one's own, or None -/
def optC {α β : Type} (o : Option α) (n : Option β) (s : α → Option β) : Option β := match o with
  | none => n
  | some x => s x
section
variable {K : PySem.W.Frag} {α : Type} {τ : Rep K α}
/-- what a call hands back then: H ahead of it, S' H' behind it -/
def OwnR (τ : Rep K α) (H S' H' : Hp) (v : V) (r : Option (List α)) : Prop := match r with
  | none => v = .non
  | some x => ∃ p ws, v = .ref p ∧ H p = none ∧ H' p = some (.lst ws) ∧ S' p = none ∧ RL τ S' ws x
theorem OwnR.frz {L : List Addr} {S0 H0 S H Sp Hp : L2.Hp} {v : V} {r : Option (List α)} (g : Grow L S0 H0 S H) (gp : Grow L S0 H0 Sp Hp) (h : OwnR τ Hp S H v r) :
    ∃ S1, Grow L S0 H0 S1 H ∧ Same S S1 ∧ (qOpt (qL τ)).R S1 v r ∧ ∀ l' o', Hp l' ≠ none → Cel L H0 S H l' o' → Cel L H0 S1 H l' o' := by
  cases r with
  | none => exact ⟨S, g, Same.refl _, h, fun _ _ _ c => c⟩
  | some x =>
    obtain ⟨p, ws, rfl, h1, h2, h3, h4⟩ := h
    have c : Cel L H0 S H p (.lst ws) := ⟨h2, h3, .inl (gp.hnone h1), rfl⟩
    obtain ⟨S1, a, b, d, e⟩ := c_freeze g c (gp.hnone h1) h4
    exact ⟨S1, a, b, ⟨(fun z => nomatch z), d⟩, fun l' o' n c' => e l' o' (fun q => n (q ▸ h1)) c'⟩
theorem OP.optN {β : Type} {n : Option β} {s : α → Option β} {A : β → Prop} (h : OP (optC none n s) A) : OP n A := h
theorem OP.optS {β : Type} {x : α} {n : Option β} {s : α → Option β} {A : β → Prop} (h : OP (optC (Option.some x) n s) A) : OP (s x) A := h
end
end Z

namespace Z
open PySem PySem.Spec PyProof.Rows L2
/-! ### one of several readings -/
def tAlt (t u : TE) : TE := fun σ H Q => t σ H Q ∨ u σ H Q
theorem pe_alt {X : Cx} {e : Expr} {t u : TE} (h : PE X e t) (g : PE X e u) : PE X e (tAlt t u) := ⟨fun pins s σ H Q I q => by
  rcases q with q | q
  · exact h.run pins s σ H Q I q
  · exact g.run pins s σ H Q I q⟩
theorem fn_none {P : Program} {w : World} {K : PySem.W.Frag} {mg : Str → Option Value} {base : Heap} {CX : CXT} {k : Nat} {f : Addr} {fd : FuncData} {ps : List Str} {sp : Sp} (h : ∀ vs H Q E, ¬ sp vs H Q E) : FnOk P w K mg base CX k f fd ps sp :=
  ⟨fun vs H Q E q => absurd q (h vs H Q E), fun A outer s H args us vs Q E _ _ _ _ q => absurd q (h vs H Q E)⟩
/-- what isinstance asks of an own class -/
structure InsH (K : PySem.W.Frag) (C : Addr) : Prop where
  ha : PySem.W.findIn K (.ref C) "__class__" = some (some (.builtin "object.__class__"))
  hn : PySem.W.specialIn K (.builtin "object.__class__") "__get__" = some (some (.builtin "getset_descriptor.__get__"))
  htk : PySem.W.takesIn K (.builtin "object.__class__") = some true
  hm : PySem.W.mroIn K C (.type "object") = some true
theorem v_isO {K : PySem.W.Frag} {σ : L2.St} {H : Hp} {ta : TE} {l C D dx : Addr} {fs : List (Str × V)} {b : Bool} (ha : Val ta σ H (.ref l)) (hp : H l = some (.ins C dx fs)) (cl : Cls K C) (i : InsH K C) (e : PySem.W.kitOne K (.ref C) (.ref D) = some b) : Val (tCB (rIsi K) (tCons ta (tCons (tC (.ref D)) tNil))) σ H (.bl b) :=
  fun Q q => ha _ ⟨_, .ref D, _, _, _, rfl, .own D, .base (TyOf.ins hp cl i.ha i.hn i.htk i.hm), e, q⟩
theorem kit_t {K : PySem.W.Frag} {C D : Addr} (i : PySem.W.isClsIn K D = true) (t : PySem.W.typeIn K (.ref D) = some (.type "type")) (s : PySem.W.subIn K (.ref C) (.ref D) = some true) : PySem.W.kitOne K (.ref C) (.ref D) = some true := by
  unfold PySem.W.kitOne
  split
  · rfl
  · unfold PySem.W.kitCls
    show (if ((PySem.W.clsIn K D).isSome && PySem.W.typeIn K (.ref D) == some (.type "type")) = true then PySem.W.subIn K (.ref C) (.ref D) else none) = _
    have i' : (PySem.W.clsIn K D).isSome = true := i
    rw [i', t, if_pos, s]
    simp
theorem kit_f {K : PySem.W.Frag} {C D : Addr} (i : PySem.W.isClsIn K D = true) (t : PySem.W.typeIn K (.ref D) = some (.type "type")) (s : PySem.W.subIn K (.ref C) (.ref D) = some false) (sd : PySem.W.subIn K (.ref D) (.ref D) = some true) : PySem.W.kitOne K (.ref C) (.ref D) = some false := by
  unfold PySem.W.kitOne
  split
  · rename_i h
    have : (Value.ref C) = .ref D := beq_iff_eq.mp h
    rw [this] at s
    rw [s] at sd
    cases sd
  · unfold PySem.W.kitCls
    show (if ((PySem.W.clsIn K D).isSome && PySem.W.typeIn K (.ref D) == some (.type "type")) = true then PySem.W.subIn K (.ref C) (.ref D) else none) = _
    have i' : (PySem.W.clsIn K D).isSome = true := i
    rw [i', t, if_pos, s]
    simp

/-! ### comprehensions whose parts change the heap -/
section
variable {K : PySem.W.Frag} {σ : L2.St} {S H S0 H0 : Hp} {L : List Addr} {ta tl te : TE} {tt : TT} {tr : TA} {v : V} {Q : VK} {g : TG} {vs : List Nat}
theorem c_lcGL {α : Type} {R : V → α → Prop} {a : Addr} {us : List V} {xs : List α} (ha : Val tl σ H (.ref a)) (hp : Paired R us xs) (hq : SqL K H a us)
    (k : ∀ P, H P = none → ∃ Pv : List α → Hp → Prop, Pv xs (upd H P (.lst [])) ∧ (∀ ys H', Pv ys H' → SqL K H' a us) ∧ (∀ w x xs H', R w x → Pv (x :: xs) H' → ∀ N : Hp → Prop, (∀ H'', Pv xs H'' → N H'') → g w (wipe σ vs) H' fun σ2 H2 => wipe σ2 vs = wipe σ vs ∧ tt σ2 H2 fun b H3 =>
      if b = true then te σ2 H3 fun y H4 => ∃ acc, H4 P = some (.lst acc) ∧ acc.length < sizeLine ∧ N (upd H4 P (.lst (acc ++ [y]))) else N H3) ∧ ∀ H', Pv [] H' → Q (.ref P) H') : tLc (iList K tl) g tt te vs σ H Q :=
  ha _ ⟨a, rfl, ⟨us, hq⟩, fun P hP => by
    obtain ⟨Pv, h0, hl, hs, hd⟩ := k P hP
    exact turnsC_list hp Pv h0 hl hs hd⟩
theorem c_lcGR1 {n : Int} (ha : VA tr σ H [.int n]) (hj : gR n)
    (k : ∀ P, H P = none → ∃ Pv : List Int → Hp → Prop, Pv (rangeI 0 n.toNat) (upd H P (.lst [])) ∧ (∀ x xs H', Pv (x :: xs) H' → ∀ N : Hp → Prop, (∀ H'', Pv xs H'' → N H'') → g (.int x) (wipe σ vs) H' fun σ2 H2 => wipe σ2 vs = wipe σ vs ∧ tt σ2 H2 fun b H3 =>
      if b = true then te σ2 H3 fun y H4 => ∃ acc, H4 P = some (.lst acc) ∧ acc.length < sizeLine ∧ N (upd H4 P (.lst (acc ++ [y]))) else N H3) ∧ ∀ H', Pv [] H' → Q (.ref P) H') : tLc (iRng1 tr) g tt te vs σ H Q :=
  ha _ ⟨n, rfl, hj.1, hj.2, fun P hP => by
    obtain ⟨Pv, h0, hs, hd⟩ := k P hP
    exact turnsC_range Pv h0 hs hd⟩
theorem c_lcGR2 {m n : Int} (ha : VA tr σ H [.int m, .int n]) (hj : gR2 m n)
    (k : ∀ P, H P = none → ∃ Pv : List Int → Hp → Prop, Pv (rangeI m (n - m).toNat) (upd H P (.lst [])) ∧ (∀ x xs H', Pv (x :: xs) H' → ∀ N : Hp → Prop, (∀ H'', Pv xs H'' → N H'') → g (.int x) (wipe σ vs) H' fun σ2 H2 => wipe σ2 vs = wipe σ vs ∧ tt σ2 H2 fun b H3 =>
      if b = true then te σ2 H3 fun y H4 => ∃ acc, H4 P = some (.lst acc) ∧ acc.length < sizeLine ∧ N (upd H4 P (.lst (acc ++ [y]))) else N H3) ∧ ∀ H', Pv [] H' → Q (.ref P) H') : tLc (iRng2 tr) g tt te vs σ H Q :=
  ha _ ⟨m, n, rfl, hj, fun P hP => by
    obtain ⟨Pv, h0, hs, hd⟩ := k P hP
    exact turnsC_range Pv h0 hs hd⟩
theorem c_yes {q : Bool → Hp → Prop} (h : q true H) : tYes σ H q := h
theorem c_yesE {Z Z' : Prop} {q : Bool → Hp → Prop} (e : q true H = if true = true then Z else Z') (h : Z) : tYes σ H q := by
  show q true H
  rw [e, if_pos rfl]
  exact h
theorem ift {A B : Prop} (h : A) : if true = true then A else B := by rw [if_pos rfl]; exact h
theorem c_acc {α : Type} {τ : Rep K α} {l : Addr} {ws : List V} {xs ys : List α} {q : α} {N : Hp → Prop} (g : Grow L S0 H0 S H) (cl : Cel L H0 S H l (.lst ws)) (r : RL τ S ws xs) (rv : τ.R S v q) (hz : xs.length < 16777216) (he : xs ++ [q] = ys)
    (k : ∀ ws' H', Grow L S0 H0 S H' → Cel L H0 S H' l (.lst ws') → RL τ S ws' ys → (∀ l' o', l' ≠ l → Cel L H0 S H l' o' → Cel L H0 S H' l' o') → N H') : ∃ acc, H l = some (.lst acc) ∧ acc.length < sizeLine ∧ N (upd H l (.lst (acc ++ [v]))) := by
  subst he
  exact ⟨ws, cl.h, by rw [r.length, sizeLine_eq]; exact hz, k _ _ (g.wr cl rfl) (cl.wr rfl) (r.app (.cons rv .nil)) fun l' o' n c => c.wrn n⟩
end
end Z

namespace Z
open PySem PySem.Spec PyProof.Rows L2
/-! ### a fault: a text of three, and numbers -/
inductive Tag | start | step | bad deriving DecidableEq
def Tag.s : Tag → Str
  | .start => "start"
  | .step => "step"
  | .bad => "bad"
structure VT where
  t : Tag
  ns : List Int
deriving DecidableEq
theorem Tag.inj {a b : Tag} (h : a.s = b.s) : a = b := by
  cases a <;> cases b <;> first | rfl | (exact absurd h (by decide))
theorem Tag.ok (a : Tag) : PyData.strOk a.s = true := by cases a <;> decide +kernel
section
variable {K : PySem.W.Frag} {σ : L2.St} {S H : Hp} {v : V} {ta tb tc : TE}
def qV : Rep K VT := ⟨fun H v x => ∃ a, v = .ref a ∧ H a = some (.tup (.str x.t.s :: x.ns.map .int)), fun {H H' v x} e h => by
  obtain ⟨a, h1, h2⟩ := h
  exact ⟨a, h1, e _ _ h2⟩⟩
def qN : Rep K (List Int) := ⟨fun H v x => ∃ a, v = .ref a ∧ H a = some (.tup (x.map .int)), fun {H H' v x} e h => by
  obtain ⟨a, h1, h2⟩ := h
  exact ⟨a, h1, e _ _ h2⟩⟩
theorem qV1 {t : Tag} {s : Str} {i : Int} (h : (qT2 (K := K) qS qI).R S v (s, i)) (e : s = t.s) : (qV (K := K)).R S v ⟨t, [i]⟩ := by
  obtain ⟨a, w1, w2, rfl, h2, h3, h4⟩ := h
  cases (show w1 = .str s from h3)
  cases (show w2 = .int i from h4)
  exact ⟨a, rfl, by rw [h2, e]; rfl⟩
theorem qV2 {t : Tag} {s : Str} {i j : Int} (h : (qT3 (K := K) qS qI qI).R S v (s, i, j)) (e : s = t.s) : (qV (K := K)).R S v ⟨t, [i, j]⟩ := by
  obtain ⟨a, w1, w2, w3, rfl, h2, h3, h4, h5⟩ := h
  cases (show w1 = .str s from h3)
  cases (show w2 = .int i from h4)
  cases (show w3 = .int j from h5)
  exact ⟨a, rfl, by rw [h2, e]; rfl⟩
theorem nn_v {x : VT} (h : (qV (K := K)).R H v x) : v ≠ .non := by
  obtain ⟨a, rfl, _⟩ := h
  exact fun z => nomatch z
theorem ty_v {x : VT} (h : (qV (K := K)).R H v x) : TyX K H v (.type "tuple") := by
  obtain ⟨a, rfl, h2⟩ := h
  exact .base (.tup h2)
theorem v_lenV {x : VT} (ha : Val ta σ H v) (h : (qV (K := K)).R H v x) : Val (tCB (rLenS K) (tCons ta tNil)) σ H (.int ((x.ns.length : Int) + 1)) := by
  obtain ⟨a, rfl, h2⟩ := h
  refine fun Q q => ha _ ⟨a, _, rfl, .inr (SqT.of h2), ?_⟩
  rw [List.length_cons, List.length_map]
  exact q
theorem v_V0 {x : VT} (ha : Val ta σ H v) (hb : Val tb σ H (.int 0)) (h : (qV (K := K)).R H v x) : Val (tOp (rIxT K) ta tb) σ H (.str x.t.s) := by
  obtain ⟨a, rfl, h2⟩ := h
  exact fun Q q => ha _ (hb _ ⟨a, _, 0, _, rfl, rfl, SqT.of h2, L2.atI_nat (j := 0) rfl, q⟩)
theorem dpInts {H : Hp} : ∀ xs : List Int, DpAll K H (xs.map .int) (xs.map .int)
  | [] => .nil
  | x :: xs => .cons (.int x) (dpInts xs)
def dV : Dat (K := K) qV := ⟨fun x => .tuple (.str x.t.s :: x.ns.map .int), fun {H v x} h => by
    obtain ⟨a, rfl, h2⟩ := h
    exact .tup (SqT.of h2) (.cons (.str _) (dpInts _)), fun x => by
    show PyData.canLayAll0 (.str x.t.s :: x.ns.map .int) = true
    have h : ∀ xs : List Int, PyData.canLayAll0 (xs.map .int) = true := fun xs => layAll (K := K) dI xs
    show (PyData.canLay0 (.str x.t.s) && PyData.canLayAll0 (x.ns.map .int)) = true
    rw [h, Bool.and_true]
    exact x.t.ok, 2, fun x => by
    have h : PyData.depthAll (x.ns.map .int) ≤ 1 := depAll (K := K) dI x.ns
    show PyData.depth (.tuple (.str x.t.s :: x.ns.map .int)) ≤ _
    simp only [PyData.depth, PyData.depthAll]
    omega, fun x y => by
    have h : PyData.eqvAll (x.ns.map .int) (y.ns.map .int) = decide (x.ns = y.ns) := eqvAllD (K := K) dI x.ns y.ns
    show PyData.eqvAll (.str x.t.s :: x.ns.map .int) (.str y.t.s :: y.ns.map .int) = _
    simp only [PyData.eqvAll]
    rw [h]
    have e : PyData.eqv (.str x.t.s) (.str y.t.s) = decide (x.t.s = y.t.s) := by
      show (x.t.s == y.t.s) = _
      rw [Bool.beq_eq_decide_eq]
    rw [e, ← Bool.decide_and]
    exact decide_eq_decide.mpr ⟨fun h => by
      cases x; cases y
      rw [VT.mk.injEq]
      exact ⟨Tag.inj h.1, h.2⟩, fun h => by rw [h]; exact ⟨rfl, rfl⟩⟩⟩
theorem nnV : NN (K := K) dV := fun _ => ⟨rfl, rfl⟩
/-- x[1:] of a fault -/
theorem e_tailV {x : VT} {Q : VK} (h : (qV (K := K)).R H v x) (k : ∀ p H', Same H H' → H p = none → H' p = some (.tup (x.ns.map .int)) → Q (.ref p) H') : rSlT K v (some 1) none H Q := by
  obtain ⟨a, rfl, h2⟩ := h
  have e : HT.sIx (V.str x.t.s :: x.ns.map .int).length 0 (some 1) = 1 := by
    rw [List.length_cons]
    show HT.sIx _ 0 (some ((1 : Nat) : Int)) = 1
    rw [HT.sIx_nat]
    omega
  refine ⟨a, _, rfl, SqT.of h2, fun z => ?_, fun p hp => ?_⟩
  · rw [e] at z
    exact absurd z.1 (by decide)
  · refine k p _ (same_upd hp) hp ?_
    rw [show cutV (V.str x.t.s :: x.ns.map .int) (some 1) none = x.ns.map .int from ?_]
    · exact upd_same
    · unfold cutV
      rw [e]
      show (List.drop 1 _).take ((V.str x.t.s :: x.ns.map .int).length - 1) = _
      rw [List.drop_one, List.tail_cons, List.length_cons, Nat.add_sub_cancel, List.take_length]
theorem z_forTE {D : Ends} {g : TG} {tb : TS} {tl : TE} {tu : TS} (h : tl σ H fun x H1 => tSeq (tFor (iTup K (tC x)) g tb) tu D σ H1) : tSeq (tFor (iTup K tl) g tb) tu D σ H := h
end
end Z

namespace Z
open PySem PySem.Spec PyProof.Rows L2
/-! ### errors told -/
def exE {α β : Type} (r : Except Nat α) (er : Nat → Option β) (ok : α → Option β) : Option β := match r with
  | .ok x => ok x
  | .error c => er c
theorem OP.exO {α β : Type} {x : α} {er : Nat → Option β} {ok : α → Option β} {A : β → Prop} (h : OP (exE (.ok x) er ok) A) : OP (ok x) A := h
theorem OP.exR {α β : Type} {c : Nat} {er : Nat → Option β} {ok : α → Option β} {A : β → Prop} (h : OP (exE (.error c) er ok) A) : OP (er c) A := h
theorem takesN {X : Cx} : Takes X (fun _ _ _ _ => False) := fun _ _ ⟨_, _, _, _, _, _, _, _, _, _, _, _, _, _, _, _, z⟩ => z.elim
theorem passL {X : Cx} : Passes (L2.CX X.prog X.w) X (fun _ _ _ => False) := passes_call takesN (fun _ _ _ _ h => h)
theorem z_cutj {σ : L2.St} {H : Hp} {D : Ends} {t tu : TS} (P : L2.St → Hp → Prop) (hP : ∀ σ' H', P σ' H' → tu D σ' H') (h : ∀ N : L2.St → Hp → Prop, (∀ σ' H', P σ' H' → N σ' H') → t { D with nx := N } σ H) : tSeq t tu D σ H := h _ hP
/-- the first clause, with a name, takes what the body raises -/
def wA1 (K : PySem.W.Frag) (c : Value) (i : Nat) (ts : Addr → Value → Option Addr → TS) (D : Ends) : WX := fun cls d σ H =>
  PySem.W.exmOne K cls c = some true ∧ ∀ a, H a = none → ts a cls d { nx := fun σ1 H1 => D.nx (σ1.set i none) H1, rt := D.rt, bk := fun σ1 H1 => D.bk (σ1.set i none) H1, ct := fun σ1 H1 => D.ct (σ1.set i none) H1 } (σ.set i (some (.ref a))) H
section
variable {X : Cx} {x n : Str} {c : Value} {i : Nat} {bd su : List Stmt} {st0 : Stmt} {hds : List ExceptHandler} {q1 q2 q3 : Pos} {tb : WX → TS} {ts : Addr → Value → Option Addr → TS}
theorem ps_tryA (eS : X.stack = X.env :: X.outer) (eF : X.env.frame = some X.env.locals) (nd : X.N.Nodup) (gi : X.N[i]? = some n) (lc : X.env.kindOf n = some .local) (nm : Names X x c)
    (hbd : ∀ (W : WX) (pn : List (Addr × Obj)) (xe : Value → Shared → Prop), Takes (X.tr pn xe) W → PassesOwn (model X.prog X.w) X.A X.env xe → PSs (X.tr pn xe) bd (tb W))
    (hs : ∀ (a : Addr) (oe : Obj) (cls : Value) (d : Option Addr) (pn : List (Addr × Obj)), Zc cls d oe → (∃ vs, oe.data = .fields vs) → PSs (X.suite a ((a, oe) :: pn)) (st0 :: su) (ts a cls d)) :
    PS X (.Try bd (.ExceptHandler (some (.Name x q1)) (some n) (st0 :: su) q2 :: hds) [] [] q3) (fun D σ H => tb (wA1 X.K c i ts D) D σ H) := ⟨fun pins s σ H D I h => by
  have okI := I.ok
  have frm : X.A.frames = some (X.env :: X.outer) := okI.frames.trans (congrArg some eS)
  refine wpAny_Try_except (wpAny_mono ((hbd (wA1 X.K c i ts D) (X.pn ++ pins) (fun e s₁ => wpAny (model X.prog X.w) X.A (noteFrame e X.env) (fun _ s₂ => wpAny (model X.prog X.w) X.A (setFlight e none) (fun _ s₃ => wpAny (model X.prog X.w) X.A (handleBy e X.env (.ExceptHandler (some (.Name x q1)) (some n) (st0 :: su) q2 :: hds)) (SP X pins D) X.xe s₃) X.xe s₂) X.xe s₁) (fun u t1 air => ?_) PassesOwn.looking).run [] s σ H D (I.toTry _) h) (fun fl t1 sp => ?_) fun e t1 z => z)
  · obtain ⟨ea, Bd, sB, pinsB, σB, HB, cls, dd, rfl, IB', nbB, upB, sky0, naB, osB, agB, em, wsh⟩ := air
    have IB : Inv X pins σB HB sB := Inv.ofTry IB' okI
    have sky1 : Sky Bd (X.env :: X.outer) ea (Zc cls dd) X.env.locals t1.heap := eS ▸ sky0
    show wpAny (model X.prog X.w) X.A (noteFrame (Value.ref ea) X.env) _ _ _
    refine Sky.land Zc.steady frm eF sky1 fun hA flA upA => ?_
    have IA : Inv X pins σB HB { t1 with heap := hA } := Inv.landed IB nbB flA.1 (upB.trans upA) osB agB
    obtain ⟨oA, vA, getA, zA, datA⟩ := flA.there
    have noF : ea ∉ frs (X.env :: X.outer) := fun hm => by
      obtain ⟨_, o', e', hnf⟩ := (flA.2.2.1).mem hm
      rw [getA] at e'; cases e'
      exact hnf _ datA
    have n1 : ea ≠ X.env.locals := fun z => noF (List.mem_filterMap.mpr ⟨X.env, List.mem_cons_self, by rw [eF, z]⟩)
    have n2 : ea ∉ X.fs := fun hm => by
      obtain ⟨e, he, q⟩ := List.mem_filterMap.mp hm
      exact noF (List.mem_filterMap.mpr ⟨e, List.mem_cons_of_mem _ he, q⟩)
    have SA := Inv.suite IA getA datA naB n1 n2
    refine wpAny_handleBy_cons (codeAny_handlers_test ?_) (fun q => by cases q)
    have lookT : PySem.W.Looks (model X.prog X.w) hA (typeOf (.ref ea)) cls := fun A Q E s k q => wpAny_typeOf_ref (k _ _ getA) (by rw [zA.1]; exact q)
    have lookM := PySem.W.exm_one (M := model X.prog X.w) IA.kIn lookT em
    have tst : ∀ {Q E : Value → Shared → Prop}, Q c { t1 with heap := hA } → wpAny (model X.prog X.w) (X.A.mark (some (.ref ea))) (eval (.Name x q1) X.env) Q E { t1 with heap := hA } := fun {Q E} q => by
      rcases nm with ⟨hg, hdbg, hm | ⟨hm, hv, hnn⟩⟩
      · exact ld_glob (X := X.suite ea ((ea, oA) :: (X.pn ++ pins))) SA hg hm q hdbg
      · exact ld_blt (X := X.suite ea ((ea, oA) :: (X.pn ++ pins))) SA hg hm hv q hnn hdbg
    refine tst (lookM.here (codeAny_handlers_suite_as (HandSPX.lands_againZ flA fun hC flC upC => ?_)))
    have IC : Inv X pins σB HB { t1 with heap := hC } := Inv.landed IB nbB flC.1 ((upB.trans upA).trans upC) osB agB
    obtain ⟨oC, vC, getC, zC, datC⟩ := flC.there
    refine store_ok (X := X.suite ea ((ea, oC) :: (X.pn ++ pins))) (v := .ref ea) (Inv.suite IC getC datC naB n1 n2) nd gi (.inl lc) rfl (fun s5 S5 => ?_) (.inr lc)
    refine wpAny_mono ((hs ea oC cls dd (X.pn ++ pins) zC ⟨_, datC⟩).run [] s5 _ HB _ S5 (wsh ea naB)) (fun fl s6 sp => ?_) fun _ _ z => z.elim
    have gone : ∀ {σ6 : L2.St} {H6 : Hp} {Q : Shared → Prop}, Inv (X.suite ea ((ea, oC) :: (X.pn ++ pins))) [] σ6 H6 s6 → (∀ s7, Inv X pins (σ6.set i none) H6 s7 → Q s7) →
        wpAny (model X.prog X.w) X.A (do bindName X.env n .none; unbindBehindTheSuite X.env n q2) (fun _ s7 => Q s7) X.xe s6 := fun {σ6 H6 Q} S6 hq => gone_ok (S6.unsuite okI) nd gi lc hq
    cases fl with
    | next =>
      obtain ⟨σ6, H6, S6, k6⟩ := sp
      exact gone S6 fun s7 J7 => ⟨_, _, J7, k6⟩
    | brk =>
      obtain ⟨σ6, H6, S6, k6⟩ := sp
      exact gone S6 fun s7 J7 => ⟨_, _, J7, k6⟩
    | cont =>
      obtain ⟨σ6, H6, S6, k6⟩ := sp
      exact gone S6 fun s7 J7 => ⟨_, _, J7, k6⟩
    | ret u =>
      obtain ⟨v6, σ6, H6, S6, r6, k6⟩ := sp
      exact gone S6 fun s7 J7 => ⟨_, _, _, J7, r6, k6⟩
  · cases fl with
    | next =>
      obtain ⟨σ1, H1, J1, k⟩ := sp
      exact wpAny_execs_nil ⟨σ1, H1, J1.ofTry okI, k⟩
    | brk =>
      obtain ⟨σ1, H1, J1, k⟩ := sp
      exact ⟨σ1, H1, J1.ofTry okI, k⟩
    | cont =>
      obtain ⟨σ1, H1, J1, k⟩ := sp
      exact ⟨σ1, H1, J1.ofTry okI, k⟩
    | ret u =>
      obtain ⟨v, σ1, H1, J1, r, k⟩ := sp
      exact ⟨v, σ1, H1, J1.ofTry okI, r, k⟩⟩
end
theorem EXP.sp {α β : Type} {x : Except Nat α} {P : α → Prop} {N : Nat → Prop} {er : Nat → Option β} {ok : α → Option β} {A : β → Prop} (h : OP (exE x er ok) A) (hr : ∀ c, x = .error c → OP (er c) A → N c) (ho : ∀ v, x = .ok v → OP (ok v) A → P v) : EXP x P N := by
  cases x with
  | ok v => exact ho v rfl h
  | error c => exact hr c rfl h
theorem z_seqE {σ : L2.St} {H : Hp} {D : Ends} {t tu : TS} (h : t { D with nx := tu D } σ H) : tSeq t tu D σ H := h
theorem z_sl {σ σ' : L2.St} {H : Hp} {D : Ends} {tu : TS} (e : σ = σ') (h : tu D σ' H) : tu D σ H := e ▸ h
/-- isinstance(e, c), isinstance(e, (c1, c2, ..)), e the exception that the suite holds -/
def rIsES (K : PySem.W.Frag) (cls : Value) (d : Option Addr) (a : Addr) : List V → Hp → VK → Prop := fun xs H Q => ∃ (D : Addr) (c : V) (cv : Value) (b : Bool), cls = .ref D ∧ d = none ∧ ExcC K D ∧ xs = [.ref a, c] ∧ ClsV c cv ∧ PySem.W.kitOne K (.ref D) cv = some b ∧ Q (.bl b) H
def rIsET (K : PySem.W.Frag) (cls : Value) (d : Option Addr) (a : Addr) : List V → Hp → VK → Prop := fun xs H Q => ∃ (D tp : Addr) (cs : List V) (us : List Value) (b : Bool), cls = .ref D ∧ d = none ∧ ExcC K D ∧ xs = [.ref a, .ref tp] ∧ H tp = some (.tup cs) ∧ Paired ClsV cs us ∧ PySem.W.kitAny K (.ref D) us = some b ∧ Q (.bl b) H
theorem pin_inst {X : Cx} {a D : Addr} {oe : Obj} {pn pins : List (Addr × Obj)} {σ : L2.St} {H : Hp} {s : Shared} (I : Inv (X.suite a ((a, oe) :: pn)) pins σ H s) (hz : Zc (.ref D) none oe) (hf : ∃ vs, oe.data = .fields vs) : PySem.W.InstAt s.heap a oe D none := by
  obtain ⟨gt, _⟩ := I.pin (a, oe) (List.mem_append.mpr (.inl List.mem_cons_self))
  obtain ⟨vs, hv⟩ := hf
  obtain ⟨oc, od, oda, osl⟩ := oe
  obtain ⟨z1, z2⟩ := hz
  dsimp only at z1 z2 hv
  subst z1 z2 hv
  exact ⟨gt, rfl, rfl, trivial⟩
theorem call_isES {X : Cx} {a : Addr} {cls : Value} {d : Option Addr} {oe : Obj} {pn : List (Addr × Obj)} (hz : Zc cls d oe) (hf : ∃ vs, oe.data = .fields vs) : CallR (X.suite a ((a, oe) :: pn)) (.builtin "isinstance") (rIsES X.K cls d a) := by
  intro pins s σ H xs us Q I r h
  obtain ⟨D, c, cv, b, rfl, rfl, C, rfl, kc, e, q⟩ := h
  exact call_isE C hz hf pins s σ H _ us Q I r ⟨c, cv, b, rfl, fun u ru => kc.eq ru, e, q⟩
theorem call_isET {X : Cx} {a : Addr} {cls : Value} {d : Option Addr} {oe : Obj} {pn : List (Addr × Obj)} (hz : Zc cls d oe) (hf : ∃ vs, oe.data = .fields vs) : CallR (X.suite a ((a, oe) :: pn)) (.builtin "isinstance") (rIsET X.K cls d a) := by
  intro pins s σ H xs us Q I r h
  obtain ⟨D, tp, cs, ws, b, rfl, rfl, C, rfl, hT, k, e, q⟩ := h
  obtain ⟨u1, u2, rfl, r1, r2⟩ := vals2 r
  cases (show u2 = Value.ref tp from r2)
  cases (show u1 = Value.ref a from r1)
  have J := pin_inst I hz hf
  obtain ⟨_, its, rv, o, h1, h2, n, h3⟩ := I.hok tp _ hT
  have e3 := ClsV.all k rv
  subst e3
  obtain ⟨oc, od, dt, sl⟩ := o
  simp only at h2 h3
  subst h2 h3
  exact PySem.W.kia_tup (PySem.W.handS_kitx_exc C.hg C.hk C.hs C.hd C.ha C.hn C.ht C.hm) I.kIn J h1 e (fun z => nomatch z) fun tk => ⟨.bl b, H, I.kept (t' := tk) fun _ _ z => z, rfl, q⟩
section
variable {K : PySem.W.Frag} {σ : L2.St} {H : Hp} {ta tb : TE} {a D : Addr} {c : V} {cv : Value} {b : Bool}
theorem v_isE (C : ExcC K D) (ha : Val ta σ H (.ref a)) (hb : Val tb σ H c) (kc : ClsV c cv) (e : PySem.W.kitOne K (.ref D) cv = some b) : Val (tCB (rIsES K (.ref D) none a) (tCons ta (tCons tb tNil))) σ H (.bl b) :=
  fun Q q => ha _ (hb _ ⟨D, c, cv, b, rfl, rfl, C, rfl, kc, e, q⟩)
end
theorem kit_bt {K : PySem.W.Frag} {D : Addr} {T : String} {b : Bool} (m : PySem.W.kitMeta T = true) (s : PySem.W.subIn K (.ref D) (.type T) = some b) : PySem.W.kitOne K (.ref D) (.type T) = some b := by
  unfold PySem.W.kitOne
  have hne : ((Value.ref D : Value) == Value.type T) = false := by
    cases e : ((Value.ref D : Value) == Value.type T) with
    | false => rfl
    | true => cases beq_iff_eq.mp e
  rw [hne, if_neg Bool.false_ne_true]
  unfold PySem.W.kitCls
  show (if PySem.W.kitMeta T = true then PySem.W.subIn K (.ref D) (.type T) else none) = _
  rw [if_pos m, s]
theorem bt_ValueError : bootBuiltins "ValueError" = some (.type "ValueError") := by decide +kernel
theorem meta_ValueError : PySem.W.kitMeta "ValueError" = true := by decide +kernel
/-- o.m(e, ..), where what is raised is wished for at the slots -/
def tMethX (C : Addr) (m : Str) (sp : Sp) (E : L2.St → XK) (ta : TE) (t : TA) : TE := fun σ H Q => ta σ H fun x H1 => ∃ a dx fs, x = .ref a ∧ H1 a = some (.ins C dx fs) ∧ fs.lookup m = none ∧ t σ H1 fun vs H2 => sp (x :: vs) H2 Q (E σ)
theorem pe_methX {X : Cx} {CX : CXT} {k : Nat} {f C : Addr} {fd : FuncData} {ps : List Str} {sp : Sp} {E : L2.St → XK} {m : Str} {pos apos : Pos} {e o : Expr} {es : List Expr} {ta : TE} {t : TA} {pl : Sem Bool} (he : PE X o ta) (c : Cls X.K C) (hm : Meth X.K C m f) (F : FnOk X.prog X.w X.K X.mg X.base CX k f fd ps sp) (hr : Room k X.A) (hb : Binds X.K fd ps []) (hx : ∀ σ, PassesAt CX X σ (E σ)) (ha : PA X (e :: es) t)
    (hst : starEach (e :: es) X.env = (false, eval e X.env) :: starEach es X.env := by rfl) (hpl : (backTo pos (starEach es X.env)).any (·.1) = false := by rfl)
    (ht : eval (.Call (.Attribute o m apos) (e :: es) [] pos) X.env = (eval o X.env >>= fun ov => standAt apos.atName >>= fun _ => holding [ov] (getMethod ov m pl) >>= fun z => callWith pos z.1 z.2 (backTo pos (starEach (e :: es) X.env)) (backToKw pos (keywordEach [] X.env))) := by rfl) :
    PE X (.Call (.Attribute o m apos) (e :: es) [] pos) (tMethX C m sp E ta t) := ⟨fun pins s σ H Q I h => by
  refine PySem.W.methodCall_KW (pl := pl) (thn (he.run pins s σ H _ I h) fun u s1 ⟨x, H1, I1, rx, a, dx, fs, ex, ea, l, q⟩ => ?_) ht
  cases ex
  cases (show u = Value.ref a from rx)
  refine getmeth_ok I1 ea c hm l (PySem.W.callWith_K (first := [.ref a]) (h₀ := X.base) I.ok.mod.kin hm.kp (thn (ha.run pos pins s1 σ H1 _ I1 q) fun us s2 ⟨vs, H2, I2, r, q2⟩ => ⟨I2.kIn, ?_⟩) hst hpl)
  exact run_fnS (us := .ref a :: us) (vs := .ref a :: vs) F hr hb (hx σ) I2 (.cons rfl r) q2⟩
theorem kitAny_f {K : PySem.W.Frag} {t c : Value} {r : List Value} {b : Bool} (h : PySem.W.kitOne K t c = some false) (k : PySem.W.kitAny K t r = some b) : PySem.W.kitAny K t (c :: r) = some b := by
  unfold PySem.W.kitAny
  rw [h]
  exact k
theorem kitAny_t {K : PySem.W.Frag} {t c : Value} {r : List Value} (h : PySem.W.kitOne K t c = some true) : PySem.W.kitAny K t (c :: r) = some true := by
  unfold PySem.W.kitAny
  rw [h]
end Z
namespace Z
open PySem PySem.Spec PyProof.Rows L2
theorem z_suite {σ σ' : L2.St} {H : Hp} {D : Ends} {t tu : TS} {i : Nat} {a : Addr} (e : σ.set i (some (.ref a)) = σ') (h : ∀ (N Bk Ct : L2.St → Hp → Prop), (∀ σ1 H1, tu D (σ1.set i none) H1 → N σ1 H1) → t { nx := N, rt := D.rt, bk := Bk, ct := Ct } σ' H) :
    t { nx := fun σ1 H1 => (tu D) (σ1.set i none) H1, rt := D.rt, bk := fun σ1 H1 => D.bk (σ1.set i none) H1, ct := fun σ1 H1 => D.ct (σ1.set i none) H1 } (σ.set i (some (.ref a))) H := e ▸ h _ _ _ fun _ _ z => z
end Z
namespace Z
open PySem PySem.Spec PyProof.Rows L2
theorem c_callS {sp : Sp} {E : L2.St → XK} {tr : TA} {σ : L2.St} {H : Hp} {Q : VK} (h : tr σ H fun vs H1 => sp vs H1 Q (E σ)) : tCallS sp E tr σ H Q := h
end Z

namespace Z
open PySem PySem.Spec PyProof.Rows L2 PySem.Calls
/-! ### sorted(d.keys()) -/
def tSortKeys (te : TE) : TE := fun σ H Q => te σ H fun v H1 => ∃ (a : Addr) (kvs : List (Key × V)) (ks : List Int), v = .ref a ∧ H1 a = some (.dK kvs) ∧ kvs.map (·.1) = ks.map .inl ∧
  ∀ (zs : List Int) (p : Addr), zs.Perm ks → zs.Pairwise (· ≤ ·) → H1 p = none → Q (.ref p) (upd H1 p (.lst (zs.map V.int)))
theorem kv_keys : ∀ {kvs : List (Key × V)} {vs : List (Key × Value)}, KV kvs vs → kvs.map (·.1) = vs.map (·.1)
  | _, _, .nil => rfl
  | _, _, .cons a b => by rw [List.map_cons, List.map_cons, a.1, kv_keys b]
theorem keysInts {P : Program} {w : World} : ∀ {us : List Value} {ks : List Int} {vs : List (Key × Value)}, us.length = vs.length → (∀ (i : Nat) (v : Value), us[i]? = some v → ∃ k x, vs[i]? = some (k, x) ∧ (mixKind P w).is k v = true) → vs.map (·.1) = ks.map .inl → IntsAre us ks
  | [], ks, vs, hl, _, hk => by
    cases vs with
    | nil =>
      cases ks with
      | nil => exact .nil
      | cons => cases hk
    | cons => cases hl
  | u :: us, ks, vs, hl, h, hk => by
    cases vs with
    | nil => cases hl
    | cons q vs =>
      cases ks with
      | nil => cases hk
      | cons n ks =>
        rw [List.map_cons, List.map_cons] at hk
        injection hk with h1 h2
        obtain ⟨k, x, e, i⟩ := h 0 u rfl
        rw [List.getElem?_cons_zero] at e
        cases e
        rw [mixKind_is] at i
        have h1' : k = Sum.inl n := h1
        subst h1'
        rcases keyIs_shape i with ⟨j, t, e1, e2⟩ | ⟨y, t, e1, e2⟩
        · cases e1
          subst e2
          exact .cons n t (keysInts (P := P) (w := w) (by simpa using hl) (fun i v e => h (i + 1) v (by rw [List.getElem?_cons_succ]; exact e)) h2)
        · cases e1
theorem pe_sortedKeys {X : Cx} {e : Expr} {te : TE} {p pos apos cpos : Pos} (hc : X.calm = true) (hg : Gl X "sorted") (hm : X.mg "sorted" = none) (he : PE X e te)
    (hbase : attributeBase e "keys" X.env (eval e X.env) = eval e X.env := by rfl) (hline : (apos.endLine == cpos.line) = true := by rfl)
    (hs : starEach [.Call (.Attribute e "keys" apos) [] [] cpos] X.env = (false, eval (.Call (.Attribute e "keys" apos) [] [] cpos) X.env) :: starEach [] X.env := by rfl) :
    PE X (.Call (.Name "sorted" p) [.Call (.Attribute e "keys" apos) [] [] cpos] [] pos) (tSortKeys te) := by
  refine ⟨fun pins s σ H Q I h => ?_⟩
  refine wpAny_Call_Name_kw (ld_blt I hg hm bt_sorted ?_)
  refine PyProof.Rows.callWith_builtin1 (args_cons ?_ hs) hs rfl
  refine wpAny_Call_method (T := "dict") (id := "dict.keys") hbase rfl hline F.plainAttrs_dict F.slot_dict_keys F.type_dict_keys (thn (he.run pins s σ H _ I h) fun u s1 ⟨x, H1, I1, rx, d, kvs, ks, ex, hd, hks, q⟩ => ?_)
  subst ex
  obtain rfl : u = Value.ref d := rx
  obtain ⟨hz, hgd, vs, kv, hm⟩ := I1.hok d _ hd
  have hl : kvs.length = vs.length := Paired.length kv
  refine ⟨hm.typeIs, hm.mapOf.noDict, ?_⟩
  have I2 : Inv X pins σ H1 { s1 with heap := s1.heap.push { cls := .type "dict_keys", data := .fields #[.ref d] } } := I1.kept (t' := s1.toks) fun b ob q => Heap.get?_push_of_some _ q
  have fin : wpAny (model X.prog X.w) X.A (call (.builtin "sorted") [.ref s1.heap.objs.size]) (EP X pins σ Q) X.xe { s1 with heap := s1.heap.push { cls := .type "dict_keys", data := .fields #[.ref d] } } := by
    obtain ⟨ep, hat⟩ := hm.dictAt
    have hat2 := hat.push { cls := .type "dict_keys", data := .fields #[.ref d] }
    refine call_function_entry kind_sorted plain_sorted entry_sorted (args_sorted1 _) ?_
    unfold Builtin.«sorted»
    refine wpAny_bind (m := checkCount "sorted" 1 1 _) (wpAny_pure ?_)
    refine wpAny_bind (PySem.W.kdu_collect (A := X.A.in1) (PySem.W.kdl_keys (knd := mixKind X.prog X.w) (kvs := vs) (ep := ep)) (I1.ok.hd hc) ⟨⟨_, Heap.get?_push_size _ rfl, rfl, rfl⟩, hat2⟩ (by rw [← hl]; exact hz) fun h' tk acc hk hacc => ?_)
    have hlen : acc.toList.length = vs.length := by rw [Array.length_toList]; exact hacc.1
    refine wpAny_bind (wpAny_newList ?_ (by rw [hlen, ← hl]; exact hz))
    have hi : IntsAre acc.toList ks := keysInts (P := X.prog) (w := X.w) hlen (fun j v e => hacc.2 j v (by rw [← Array.getElem?_toList]; exact e)) ((kv_keys kv).symm.trans hks)
    have hzz : acc.toList.length ≤ sizeLine := by rw [hlen, ← hl]; exact hz
    have hob : (h'.push { cls := .type "list", data := .seq acc.toList.toArray }).get? h'.objs.size = some { cls := .type "list", data := .seq acc.toList.toArray } := Heap.get?_push_size _ rfl
    refine wpAny_bind (wpAny_holding (wpAny_call_entry slot_list_sort ⟨_, hob, rfl⟩ entry_list_sort (SrtO.list_sort_ord SrtO.swo_int hob hzz (fun h2 => SrtO.ints_sortable hi h2) fun out h1 h2 => ⟨_, rfl, ?_⟩) (args_list_sort _)))
    refine wpAny_pure ⟨_, rfl, ?_⟩
    obtain ⟨k1, k2, k3⟩ := SrtO.ints_out hi h1 h2
    obtain ⟨ep2, he'⟩ := PyProof.Rows.sortedHeap_at (vs := acc.toList) (out := out.toArray) hob
    have hlo : ((out.map SrtO.iv).map V.int).length ≤ sizeLine := by
      rw [List.length_map, k2.length_eq]
      have := congrArg List.length hks
      rw [List.length_map, List.length_map] at this
      rw [← this]; exact hz
    have old : ∀ b u, (s1.heap.push { cls := .type "dict_keys", data := .fields #[.ref d] }).get? b = some u → (sortedHeap (h'.push { cls := .type "list", data := .seq acc.toList.toArray }) h'.objs.size acc.toList out.toArray).get? b = some u := fun b u hu => by
      have h3 := hk b u hu
      have h4 : (h'.push { cls := .type "list", data := .seq acc.toList.toArray }).get? b = some u := Heap.get?_push_of_some _ h3
      rw [PyProof.Rows.sortedHeap_old (Nat.ne_of_lt (Heap.lt_size h3)) (Heap.lt_size h4)]
      exact h4
    have hsz : s1.heap.objs.size + 1 ≤ h'.objs.size := by
      have h3 := hk s1.heap.objs.size _ (Heap.get?_push_size _ rfl)
      exact Heap.lt_size h3
    have hpz : (s1.heap.push { cls := .type "dict_keys", data := .fields #[.ref d] }).objs.size ≤ h'.objs.size := by rw [size_push']; exact hsz
    exact ⟨.ref _, upd H1 h'.objs.size (.lst ((out.map SrtO.iv).map V.int)), I2.laid (t' := tk) old hpz ⟨hlo, out, ep2, vals_of_ints k1, he'⟩, rfl, q _ _ k2 k3 (I2.hok.fresh hpz)⟩
  show wpAny _ _ (callWith cpos (.builtin "dict.keys") [.ref d] [] []) _ _ s1
  exact method_meetsIn F.slot_dict_keys F.entry_dict_keys rfl (PySem.evalArgs_none ⟨rfl, hm.typeIs, F.args_dict_keys_1 _, _, PySem.W.kdl_meets_keys (mixKind X.prog X.w) d hgd, ⟨vs, hm⟩, args_nil fin⟩)
end Z
namespace Z
open PySem PySem.Spec PyProof.Rows L2
/-! ### dicts of one's own, keys ints -/
section
variable {K : PySem.W.Frag} {σ : L2.St} {S H S0 H0 : Hp} {L : List Addr} {ta tb te : TE} {β : Type} {Q : VK} {v : V} {D : Ends} {tu : TS}
def kvD (vf : β → V) (x : List (Int × β)) : List (Key × V) := x.map fun p => (.inl p.1, vf p.2)
def KR (vf : β → V) (kvs : List (Key × V)) (x : List (Int × β)) : Prop := kvs = kvD vf x
def putD (x : List (Int × β)) (k : Int) (v : β) : List (Int × β) := if (x.any fun p => decide (p.1 = k)) = true then x.map (fun p => if p.1 = k then (p.1, v) else p) else x ++ [(k, v)]
theorem KR.nil {vf : β → V} : KR vf [] [] := rfl
theorem KR.length {vf : β → V} {kvs : List (Key × V)} {x : List (Int × β)} (h : KR vf kvs x) : kvs.length = x.length := by rw [h]; unfold kvD; rw [List.length_map]
theorem KR.keys {vf : β → V} {kvs : List (Key × V)} {x : List (Int × β)} (h : KR vf kvs x) : kvs.map (·.1) = (x.map (·.1)).map .inl := by
  rw [h]
  unfold kvD
  rw [List.map_map, List.map_map]
  rfl
theorem KR.put {vf : β → V} {kvs : List (Key × V)} {x : List (Int × β)} (h : KR vf kvs x) (k : Int) (v : β) : KR vf (putK kvs (.inl k) (vf v)) (putD x k v) := by
  have inl : ∀ a : Int, decide ((Sum.inl a : Key) = .inl k) = decide (a = k) := fun a => decide_eq_decide.mpr ⟨fun e => Sum.inl.inj e, fun e => by rw [e]⟩
  have e1 : (kvs.any fun kv => decide (kv.1 = (.inl k : Key))) = x.any fun p => decide (p.1 = k) := by
    rw [h]
    unfold kvD
    rw [List.any_map]
    congr 1
    funext p
    exact inl p.1
  unfold KR putK putD
  rw [e1]
  split
  · rw [h]
    unfold kvD
    rw [List.map_map, List.map_map]
    apply List.map_congr_left
    intro p _
    show (if (Sum.inl p.1 : Key) = .inl k then ((Sum.inl p.1 : Key), vf v) else (.inl p.1, vf p.2)) = _
    by_cases e : p.1 = k
    · rw [if_pos (by rw [e])]
      show _ = ((.inl (if p.1 = k then (p.1, v) else p).1 : Key), vf (if p.1 = k then (p.1, v) else p).2)
      rw [if_pos e]
    · rw [if_neg (fun q => e (Sum.inl.inj q))]
      show _ = ((.inl (if p.1 = k then (p.1, v) else p).1 : Key), vf (if p.1 = k then (p.1, v) else p).2)
      rw [if_neg e]
  · rw [h]
    unfold kvD
    rw [List.map_append]
    rfl
theorem c_newdK (k : ∀ p H', Same H H' → H p = none → H' p = some (.dK []) → Q (.ref p) H') : tDNewK σ H Q := fun p hp => k p _ (same_upd hp) hp upd_same
theorem c_dnE (h : ∀ Q' : VK, Q' = Q → tDNewK σ H Q') : tDNewK σ H Q := h _ rfl
theorem c_setD {vf : β → V} {l : Addr} {kvs : List (Key × V)} {x : List (Int × β)} {i : Int} {q : β} (g : Grow L S0 H0 S H) (cl : Cel L H0 S H l (.dK kvs)) (r : KR vf kvs x) (ho : Val ta σ H (.ref l)) (hi : Val tb σ H (.int i)) (hz : x.length < 16777216)
    (k : ∀ kvs' H', Grow L S0 H0 S H' → Cel L H0 S H' l (.dK kvs') → KR vf kvs' (putD x i q) → (∀ l' o', l' ≠ l → Cel L H0 S H l' o' → Cel L H0 S H' l' o') → tu D σ H') : gSub ta tb rSetD (vf q) σ H (tu D) :=
  ho _ (hi _ ⟨l, _, rfl, DPut.k (k := .inl i) cl.h (by rw [r.length]; show _ < sizeLine; rw [sizeLine_eq]; exact hz), k _ _ (g.wr cl rfl) (cl.wr rfl) (r.put i q) fun l' o' n c => c.wrn n⟩)
theorem c_skE (h : ∀ Q' : VK, Q' = Q → tSortKeys te σ H Q') : tSortKeys te σ H Q := h _ rfl
theorem l_sortKeys {vf : β → V} {l : Addr} {kvs : List (Key × V)} {x : List (Int × β)} (ha : Val te σ H (.ref l)) (cl : Cel L H0 S H l (.dK kvs)) (r : KR vf kvs x) (k : ∀ p ws H', Same H H' → H p = none → H' p = some (.lst ws) → RL (K := K) qI S ws (sortI (x.map (·.1))) → Q (.ref p) H') : tSortKeys te σ H Q :=
  ha _ ⟨l, kvs, x.map (·.1), rfl, cl.h, r.keys, fun zs p h1 h2 hp => by
    have s1 : SrtO.Srtd ltI zs := h2.imp fun h => decide_eq_false (by omega)
    have : zs = sortI (x.map (·.1)) := srt_uniq ltI_tot (h1.trans (sortB_perm _).symm) s1 (sortB_srt ltI_asy ltI_tr _)
    subst this
    exact k p _ _ (same_upd hp) hp upd_same (RL.map V.int (fun _ => rfl) _)⟩
end
end Z

namespace Z
open PySem PySem.Spec PyProof.Rows L2
/-! ### texts -/
section
variable {K : PySem.W.Frag} {σ : L2.St} {S H S0 H0 : Hp} {L : List Addr} {ta tb te : TE} {Q : VK} {v : V} {D : Ends} {tu : TS}
def chS (s : Str) (i : Int) : Option Str := (L2.atI s.cps.toList i).map fun c => ⟨#[c]⟩
theorem v_chr {s c : Str} {i : Int} (ha : Val ta σ H (.str s)) (hb : Val tb σ H (.int i)) (hz : s.length ≤ 16777216) (he : chS s i = some c) : Val (tOp rIxS ta tb) σ H (.str c) := fun Q q => by
  unfold chS at he
  obtain ⟨n, e1, rfl⟩ := Option.map_eq_some_iff.mp he
  exact ha _ (hb _ ⟨s, i, n, rfl, rfl, hz, e1, q⟩)
@[irreducible] def inS (a b : Str) : Bool := !(Builtin.Str.occurrences b a 0 b.length 1).isEmpty
def rInT : R2 := fun x y H Q => ∃ i j, x = .str i ∧ y = .str j ∧ Q (.bl (!(Builtin.Str.occurrences j i 0 j.length 1).isEmpty)) H
def rNinT : R2 := fun x y H Q => ∃ i j, x = .str i ∧ y = .str j ∧ Q (.bl (!(!(Builtin.Str.occurrences j i 0 j.length 1).isEmpty))) H
theorem op_inT {X : Cx} : OpR X (compareOp .In) rInT := op_in_str
theorem op_ninT {X : Cx} : OpR X (compareOp .NotIn) rNinT := op_notin_str
theorem v_inS {a b : Str} (ha : Val ta σ H (.str a)) (hb : Val tb σ H (.str b)) : Val (tOp rInT ta tb) σ H (.bl (inS a b)) := fun Q q => ha _ (hb _ ⟨a, b, rfl, rfl, by unfold inS at q; exact q⟩)
theorem v_ninS {a b : Str} (ha : Val ta σ H (.str a)) (hb : Val tb σ H (.str b)) : Val (tOp rNinT ta tb) σ H (.bl (!(inS a b))) := fun Q q => ha _ (hb _ ⟨a, b, rfl, rfl, by unfold inS at q; exact q⟩)
theorem v_cutS {s : Str} {tl th : TO} {lo hi : Option Int} (ha : Val te σ H (.str s)) (hl : ∀ q : Option Int → Hp → Prop, q lo H → tl σ H q) (hh : ∀ q : Option Int → Hp → Prop, q hi H → th σ H q) (hz : s.length ≤ 16777216) :
    Val (tSl rSlS te tl th) σ H (.str (cutS s lo hi)) := fun Q q => c_slice ha hl hh ⟨s, rfl, hz, q⟩
def gStr (i : Int) : Prop := i.natAbs < 1073741824
instance (i : Int) : Decidable (gStr i) := by unfold gStr; infer_instance
def strI (i : Int) : Str := (toString i : String)
theorem v_strI {i : Int} (ha : Val ta σ H (.int i)) (hz : gStr i) : Val (tCB (fun xs H Q => ∃ i, xs = [.int i] ∧ i.natAbs.log2 < 1920 ∧ Q (.str (toString i)) H) (tCons ta tNil)) σ H (.str (strI i)) := fun Q q => ha _ ⟨i, rfl, by
  unfold gStr at hz
  by_cases h0 : i.natAbs = 0
  · rw [h0]; decide
  · have := Nat.log2_lt (n := i.natAbs) (k := 30) h0
    have h2 : i.natAbs.log2 < 30 := this.mpr hz
    omega, q⟩
/-! a text's signs -/
def signs (x : Str) : List Str := x.cps.toList.map fun c => ⟨#[c]⟩
theorem z_forS {x : Str} {te : TE} {g : TG} {tb : TS} (ha : Val te σ H (.str x)) (Pv : List Str → L2.St → Hp → Prop) (h0 : Pv (signs x) σ H)
    (hs : ∀ y ys σ' H', Pv (y :: ys) σ' H' → ∀ N : L2.St → Hp → Prop, (∀ σ'' H'', Pv ys σ'' H'' → N σ'' H'') → g (.str y) σ' H' fun σ2 H2 => tb { D with nx := N, ct := N, bk := tu D } σ2 H2) (hd : ∀ σ' H', Pv [] σ' H' → tu D σ' H') :
    tSeq (tFor (iStr te) g tb) tu D σ H := ha _ ⟨x, rfl, by
  refine ⟨fun i m σ H => i ≤ x.cps.size ∧ m = x.cps.size - i ∧ Pv ((signs x).drop i) σ H, ⟨_, Nat.zero_le _, rfl, h0⟩, fun i m σ H h => ?_⟩
  obtain ⟨hi, rfl, hp⟩ := h
  have hl : (signs x).length = x.cps.size := by unfold signs; rw [List.length_map, Array.length_toList]
  by_cases hc : i < x.cps.size
  · refine .inr ⟨hc, fun σ' H' => Pv ((signs x).drop (i + 1)) σ' H', fun σ' H' q => ⟨x.cps.size - (i + 1), by omega, by omega, rfl, q⟩, fun v H' hy => ?_⟩
    obtain ⟨rfl, c, ec, rfl⟩ := hy
    have e : (signs x).drop i = (⟨#[c]⟩ : Str) :: (signs x).drop (i + 1) := by
      rw [List.drop_eq_getElem_cons (by rw [hl]; exact hc)]
      congr 1
      unfold signs
      rw [List.getElem_map, Array.getElem_toList]
      rw [Array.getElem?_eq_getElem hc] at ec
      rw [Option.some.inj ec]
    rw [e] at hp
    exact hs _ _ σ H' hp _ fun σ'' H'' z => z
  · refine .inl ⟨by show x.cps.size ≤ i; omega, ?_⟩
    rw [List.drop_eq_nil_of_le (by omega)] at hp
    exact hd _ _ hp⟩
/-! x in a new tuple of texts -/
theorem inV_str (x : Str) : ∀ ys : List Str, inV (.str x) (ys.map V.str) = ys.any fun y => decide (y = x)
  | [] => rfl
  | y :: ys => by
    show (y == x || inV (.str x) (ys.map V.str)) = _
    rw [inV_str x ys, List.any_cons]
    congr 1
theorem e_inTS {x : Str} {p : Addr} {ys : List Str} (h : H p = some (.tup (ys.map V.str))) (q : Q (.bl (ys.any fun y => decide (y = x))) H) : rIn K false (.str x) (.ref p) H Q :=
  ⟨p, _, rfl, .inr (SqT.of h), rfl, by rw [List.all_map]; exact List.all_eq_true.mpr fun _ _ => rfl, by
    show Q (.bl (inV _ _)) H
    rw [inV_str]; exact q⟩
end
end Z

namespace E
open PySem PySem.Spec PyProof.Rows L2 Z
def top (i : Nat) : Stmt := PySem.Challenge.pw_evernever_k04_lamps_in_a_formula.main.body.getD i (.Pass ⟨0, 0, 0, 0⟩)
structure Cl where
  mk ::
  Formula : Addr
  Lamp : Addr
  Sure : Addr
  Not : Addr
  And : Addr
  Either : Addr
  Or : Addr
section
variable {P : Program} {w : World} {K : PySem.W.Frag} {mg : Str → Option Value} {base : Heap}
inductive O_Formula where
  | Lamp (at_ : Int)
  | Sure (truth : Bool)
  | Not (part : O_Formula)
  | And (parts : (List O_Formula))
  | Either (parts : (List O_Formula))
  | Or (parts : (List O_Formula))
mutual
inductive RF_Formula (K : PySem.W.Frag) (c : Cl) (H : Hp) : V → O_Formula → Prop where
  | Lamp {p dx : Addr} {w0 : V} {x0 : Int} : H p = some (.ins c.Lamp dx [("at", w0)]) → ((qI (K := K))).R H w0 x0 → RF_Formula K c H (.ref p) (.Lamp x0)
  | Sure {p dx : Addr} {w0 : V} {x0 : Bool} : H p = some (.ins c.Sure dx [("truth", w0)]) → ((qB (K := K))).R H w0 x0 → RF_Formula K c H (.ref p) (.Sure x0)
  | Not {p dx : Addr} {w0 : V} {x0 : O_Formula} : H p = some (.ins c.Not dx [("part", w0)]) → RF_Formula K c H w0 x0 → RF_Formula K c H (.ref p) (.Not x0)
  | And {p dx : Addr} {l0 : Addr} {ws0 : List V} {x0 : (List O_Formula)} : H p = some (.ins c.And dx [("parts", .ref l0)]) → H l0 = some (.lst ws0) → RFs_Formula K c H ws0 x0 → RF_Formula K c H (.ref p) (.And x0)
  | Either {p dx : Addr} {l0 : Addr} {ws0 : List V} {x0 : (List O_Formula)} : H p = some (.ins c.Either dx [("parts", .ref l0)]) → H l0 = some (.lst ws0) → RFs_Formula K c H ws0 x0 → RF_Formula K c H (.ref p) (.Either x0)
  | Or {p dx : Addr} {l0 : Addr} {ws0 : List V} {x0 : (List O_Formula)} : H p = some (.ins c.Or dx [("parts", .ref l0)]) → H l0 = some (.lst ws0) → RFs_Formula K c H ws0 x0 → RF_Formula K c H (.ref p) (.Or x0)
inductive RFs_Formula (K : PySem.W.Frag) (c : Cl) (H : Hp) : List V → List O_Formula → Prop where
  | nil : RFs_Formula K c H [] []
  | cons {v : V} {x : O_Formula} {vs : List V} {xs : List O_Formula} : RF_Formula K c H v x → RFs_Formula K c H vs xs → RFs_Formula K c H (v :: vs) (x :: xs)
end
mutual
theorem RF_Formula.mono {K : PySem.W.Frag} {c : Cl} {H H' : Hp} (e : Same H H') : ∀ {v : V} {x : O_Formula}, RF_Formula K c H v x → RF_Formula K c H' v x
  | _, _, .Lamp hp r0 => .Lamp (e _ _ hp) (Rep.mono _ e r0)
  | _, _, .Sure hp r0 => .Sure (e _ _ hp) (Rep.mono _ e r0)
  | _, _, .Not hp r0 => .Not (e _ _ hp) (RF_Formula.mono e r0)
  | _, _, .And hp ha0 r0 => .And (e _ _ hp) (e _ _ ha0) (RFs_Formula.mono e r0)
  | _, _, .Either hp ha0 r0 => .Either (e _ _ hp) (e _ _ ha0) (RFs_Formula.mono e r0)
  | _, _, .Or hp ha0 r0 => .Or (e _ _ hp) (e _ _ ha0) (RFs_Formula.mono e r0)
theorem RFs_Formula.mono {K : PySem.W.Frag} {c : Cl} {H H' : Hp} (e : Same H H') : ∀ {v : List V} {x : List O_Formula}, RFs_Formula K c H v x → RFs_Formula K c H' v x
  | _, _, .nil => .nil
  | _, _, .cons a b => .cons (RF_Formula.mono e a) (RFs_Formula.mono e b)
end
def q_Formula (c : Cl) : Rep K O_Formula := ⟨fun H v x => RF_Formula K c H v x, fun {H H' v x} e h => RF_Formula.mono e h⟩
theorem RFs_Formula.to {c : Cl} {H : Hp} : ∀ {ws : List V} {xs : List O_Formula}, RFs_Formula K c H ws xs → RL (q_Formula (K := K) c) H ws xs
  | _, _, .nil => .nil
  | _, _, .cons a b => .cons a b.to
theorem RFs_Formula.of {c : Cl} {H : Hp} : ∀ {ws : List V} {xs : List O_Formula}, RL (q_Formula (K := K) c) H ws xs → RFs_Formula K c H ws xs
  | _, _, .nil => .nil
  | _, _, .cons a b => .cons a (RFs_Formula.of b)
def tag_Formula : O_Formula → Nat
  | .Lamp .. => 0
  | .Sure .. => 1
  | .Not .. => 2
  | .And .. => 3
  | .Either .. => 4
  | .Or .. => 5
theorem nn_Formula {c : Cl} {H : Hp} {v : V} {x : O_Formula} (h : (q_Formula (K := K) c).R H v x) : v ≠ .non := by
  cases h <;> exact fun z => nomatch z
def gf_Formula_at : O_Formula → Option Int
  | .Lamp x0 => some x0
  | _ => none
def gf_Formula_truth : O_Formula → Option Bool
  | .Sure x0 => some x0
  | _ => none
def gf_Formula_part : O_Formula → Option O_Formula
  | .Not x0 => some x0
  | _ => none
def gf_Formula_parts : O_Formula → Option (List O_Formula)
  | .And x0 => some x0
  | .Either x0 => some x0
  | .Or x0 => some x0
  | _ => none
theorem fz_Formula_Lamp {c : Cl} {L : List Addr} {S0 H0 S H : Hp} {l dx : Addr} {w0 : V} (g : Grow L S0 H0 S H) (cl : Cel L H0 S H l (.ins c.Lamp dx [("at", w0)])) (z : H0 l = none) {x0 : Int} (r0 : ((qI (K := K))).R S w0 x0) : ∃ S1, Grow L S0 H0 S1 H ∧ Same S S1 ∧ (q_Formula (K := K) c).R S1 (.ref l) (.Lamp x0) ∧ ∀ l' o', l' ≠ l → Cel L H0 S H l' o' → Cel L H0 S1 H l' o' := by
  have e := same_upd (o := (.ins c.Lamp dx [("at", w0)])) cl.s
  exact ⟨_, g.freeze cl z, e, .Lamp upd_same (Rep.mono _ e r0), fun l' o' n c' => c'.freeze n⟩
theorem fz_Formula_Sure {c : Cl} {L : List Addr} {S0 H0 S H : Hp} {l dx : Addr} {w0 : V} (g : Grow L S0 H0 S H) (cl : Cel L H0 S H l (.ins c.Sure dx [("truth", w0)])) (z : H0 l = none) {x0 : Bool} (r0 : ((qB (K := K))).R S w0 x0) : ∃ S1, Grow L S0 H0 S1 H ∧ Same S S1 ∧ (q_Formula (K := K) c).R S1 (.ref l) (.Sure x0) ∧ ∀ l' o', l' ≠ l → Cel L H0 S H l' o' → Cel L H0 S1 H l' o' := by
  have e := same_upd (o := (.ins c.Sure dx [("truth", w0)])) cl.s
  exact ⟨_, g.freeze cl z, e, .Sure upd_same (Rep.mono _ e r0), fun l' o' n c' => c'.freeze n⟩
theorem fz_Formula_Not {c : Cl} {L : List Addr} {S0 H0 S H : Hp} {l dx : Addr} {w0 : V} (g : Grow L S0 H0 S H) (cl : Cel L H0 S H l (.ins c.Not dx [("part", w0)])) (z : H0 l = none) {x0 : O_Formula} (r0 : ((q_Formula (K := K) c)).R S w0 x0) : ∃ S1, Grow L S0 H0 S1 H ∧ Same S S1 ∧ (q_Formula (K := K) c).R S1 (.ref l) (.Not x0) ∧ ∀ l' o', l' ≠ l → Cel L H0 S H l' o' → Cel L H0 S1 H l' o' := by
  have e := same_upd (o := (.ins c.Not dx [("part", w0)])) cl.s
  exact ⟨_, g.freeze cl z, e, .Not upd_same (RF_Formula.mono e r0), fun l' o' n c' => c'.freeze n⟩
theorem fz_Formula_And {c : Cl} {L : List Addr} {S0 H0 S H : Hp} {l dx : Addr} {w0 : V} (g : Grow L S0 H0 S H) (cl : Cel L H0 S H l (.ins c.And dx [("parts", w0)])) (z : H0 l = none) {x0 : (List O_Formula)} (r0 : ((qL (q_Formula (K := K) c))).R S w0 x0) : ∃ S1, Grow L S0 H0 S1 H ∧ Same S S1 ∧ (q_Formula (K := K) c).R S1 (.ref l) (.And x0) ∧ ∀ l' o', l' ≠ l → Cel L H0 S H l' o' → Cel L H0 S1 H l' o' := by
  have e := same_upd (o := (.ins c.And dx [("parts", w0)])) cl.s
  obtain ⟨a0, us0, rfl, ha0, r0⟩ := r0
  exact ⟨_, g.freeze cl z, e, .And upd_same (e _ _ ha0) (RFs_Formula.mono e (RFs_Formula.of r0)), fun l' o' n c' => c'.freeze n⟩
theorem fz_Formula_Either {c : Cl} {L : List Addr} {S0 H0 S H : Hp} {l dx : Addr} {w0 : V} (g : Grow L S0 H0 S H) (cl : Cel L H0 S H l (.ins c.Either dx [("parts", w0)])) (z : H0 l = none) {x0 : (List O_Formula)} (r0 : ((qL (q_Formula (K := K) c))).R S w0 x0) : ∃ S1, Grow L S0 H0 S1 H ∧ Same S S1 ∧ (q_Formula (K := K) c).R S1 (.ref l) (.Either x0) ∧ ∀ l' o', l' ≠ l → Cel L H0 S H l' o' → Cel L H0 S1 H l' o' := by
  have e := same_upd (o := (.ins c.Either dx [("parts", w0)])) cl.s
  obtain ⟨a0, us0, rfl, ha0, r0⟩ := r0
  exact ⟨_, g.freeze cl z, e, .Either upd_same (e _ _ ha0) (RFs_Formula.mono e (RFs_Formula.of r0)), fun l' o' n c' => c'.freeze n⟩
theorem fz_Formula_Or {c : Cl} {L : List Addr} {S0 H0 S H : Hp} {l dx : Addr} {w0 : V} (g : Grow L S0 H0 S H) (cl : Cel L H0 S H l (.ins c.Or dx [("parts", w0)])) (z : H0 l = none) {x0 : (List O_Formula)} (r0 : ((qL (q_Formula (K := K) c))).R S w0 x0) : ∃ S1, Grow L S0 H0 S1 H ∧ Same S S1 ∧ (q_Formula (K := K) c).R S1 (.ref l) (.Or x0) ∧ ∀ l' o', l' ≠ l → Cel L H0 S H l' o' → Cel L H0 S1 H l' o' := by
  have e := same_upd (o := (.ins c.Or dx [("parts", w0)])) cl.s
  obtain ⟨a0, us0, rfl, ha0, r0⟩ := r0
  exact ⟨_, g.freeze cl z, e, .Or upd_same (e _ _ ha0) (RFs_Formula.mono e (RFs_Formula.of r0)), fun l' o' n c' => c'.freeze n⟩
structure Tx (K : PySem.W.Frag) (mg : Str → Option Value) : Type where
  c : Cl
  f_Lamp_holds : Addr
  d_Lamp_holds : FuncData
  F_Lamp_holds : Fun K "holds" "Lamp.holds" (inClass (top 3) 1) f_Lamp_holds d_Lamp_holds
  b_Lamp_holds : Binds K d_Lamp_holds ["self", "stand"] []
  f_Sure_holds : Addr
  d_Sure_holds : FuncData
  F_Sure_holds : Fun K "holds" "Sure.holds" (inClass (top 4) 1) f_Sure_holds d_Sure_holds
  b_Sure_holds : Binds K d_Sure_holds ["self", "stand"] []
  f_And_holds : Addr
  d_And_holds : FuncData
  F_And_holds : Fun K "holds" "And.holds" (inClass (top 7) 2) f_And_holds d_And_holds
  b_And_holds : Binds K d_And_holds ["self", "stand"] []
  f_Either_holds : Addr
  d_Either_holds : FuncData
  F_Either_holds : Fun K "holds" "Either.holds" (inClass (top 8) 2) f_Either_holds d_Either_holds
  b_Either_holds : Binds K d_Either_holds ["self", "stand"] []
  f_Not_holds : Addr
  d_Not_holds : FuncData
  F_Not_holds : Fun K "holds" "Not.holds" (inClass (top 5) 1) f_Not_holds d_Not_holds
  b_Not_holds : Binds K d_Not_holds ["self", "stand"] []
  f_Or_holds : Addr
  d_Or_holds : FuncData
  F_Or_holds : Fun K "holds" "Or.holds" (inClass (top 9) 2) f_Or_holds d_Or_holds
  b_Or_holds : Binds K d_Or_holds ["self", "stand"] []
  f_Joined___init__ : Addr
  d_Joined___init__ : FuncData
  F_Joined___init__ : Fun K "__init__" "Joined.__init__" (inClass (top 6) 0) f_Joined___init__ d_Joined___init__
  b_Joined___init__ : Binds K d_Joined___init__ ["self", "parts"] []
  f_Lamp___init__ : Addr
  d_Lamp___init__ : FuncData
  F_Lamp___init__ : Fun K "__init__" "Lamp.__init__" (inClass (top 3) 0) f_Lamp___init__ d_Lamp___init__
  b_Lamp___init__ : Binds K d_Lamp___init__ ["self", "at"] []
  f_Not___init__ : Addr
  d_Not___init__ : FuncData
  F_Not___init__ : Fun K "__init__" "Not.__init__" (inClass (top 5) 0) f_Not___init__ d_Not___init__
  b_Not___init__ : Binds K d_Not___init__ ["self", "part"] []
  f_Sure___init__ : Addr
  d_Sure___init__ : FuncData
  F_Sure___init__ : Fun K "__init__" "Sure.__init__" (inClass (top 4) 0) f_Sure___init__ d_Sure___init__
  b_Sure___init__ : Binds K d_Sure___init__ ["self", "truth"] []
  f__law_both : Addr
  d__law_both : FuncData
  F__law_both : Fun K "_law_both" "_law_both" (top 15) f__law_both d__law_both
  b__law_both : Binds K d__law_both ["_law_rows"] []
  m__law_both : mg "_law_both" = some (.ref f__law_both)
  f__law_cell_at : Addr
  d__law_cell_at : FuncData
  F__law_cell_at : Fun K "_law_cell_at" "_law_cell_at" (top 11) f__law_cell_at d__law_cell_at
  b__law_cell_at : Binds K d__law_cell_at ["_law_script", "_law_k"] []
  m__law_cell_at : mg "_law_cell_at" = some (.ref f__law_cell_at)
  f__law_joined : Addr
  d__law_joined : FuncData
  F__law_joined : Fun K "_law_joined" "_law_joined" (top 13) f__law_joined d__law_joined
  b__law_joined : Binds K d__law_joined ["_law_word", "_law_parts"] []
  m__law_joined : mg "_law_joined" = some (.ref f__law_joined)
  f_Formula_note : Addr
  d_Formula_note : FuncData
  F_Formula_note : Fun K "note" "Formula.note" (inClass (top 2) 2) f_Formula_note d_Formula_note
  b_Formula_note : Binds K d_Formula_note ["self", "seen"] []
  f_Lamp_note : Addr
  d_Lamp_note : FuncData
  F_Lamp_note : Fun K "note" "Lamp.note" (inClass (top 3) 3) f_Lamp_note d_Lamp_note
  b_Lamp_note : Binds K d_Lamp_note ["self", "seen"] []
  f_Joined_note : Addr
  d_Joined_note : FuncData
  F_Joined_note : Fun K "note" "Joined.note" (inClass (top 6) 2) f_Joined_note d_Joined_note
  b_Joined_note : Binds K d_Joined_note ["self", "seen"] []
  f_Not_note : Addr
  d_Not_note : FuncData
  F_Not_note : Fun K "note" "Not.note" (inClass (top 5) 3) f_Not_note d_Not_note
  b_Not_note : Binds K d_Not_note ["self", "seen"] []
  f_Formula_lamps : Addr
  d_Formula_lamps : FuncData
  F_Formula_lamps : Fun K "lamps" "Formula.lamps" (inClass (top 2) 5) f_Formula_lamps d_Formula_lamps
  b_Formula_lamps : Binds K d_Formula_lamps ["self"] []
  f__law_whole : Addr
  d__law_whole : FuncData
  F__law_whole : Fun K "_law_whole" "_law_whole" (top 12) f__law_whole d__law_whole
  b__law_whole : Binds K d__law_whole ["_law_found"] []
  m__law_whole : mg "_law_whole" = some (.ref f__law_whole)
  f__law_seen : Addr
  d__law_seen : FuncData
  F__law_seen : Fun K "_law_seen" "_law_seen" (top 14) f__law_seen d__law_seen
  b__law_seen : Binds K d__law_seen ["_law_formula", "_law_used"] []
  m__law_seen : mg "_law_seen" = some (.ref f__law_seen)
  f_law : Addr
  d_law : FuncData
  F_law : Fun K "law" "law" (top 16) f_law d_law
  b_law : Binds K d_law ["_law_script"] []
  m_law : mg "law" = some (.ref f_law)
  m_Formula : mg "Formula" = some (.ref c.Formula)
  m_Lamp : mg "Lamp" = some (.ref c.Lamp)
  l_Lamp : Cls K c.Lamp
  h_Lamp : InsH K c.Lamp
  k_Lamp : Mk K c.Lamp f_Lamp___init__
  m_Sure : mg "Sure" = some (.ref c.Sure)
  l_Sure : Cls K c.Sure
  h_Sure : InsH K c.Sure
  k_Sure : Mk K c.Sure f_Sure___init__
  m_Not : mg "Not" = some (.ref c.Not)
  l_Not : Cls K c.Not
  h_Not : InsH K c.Not
  k_Not : Mk K c.Not f_Not___init__
  m_And : mg "And" = some (.ref c.And)
  l_And : Cls K c.And
  h_And : InsH K c.And
  k_And : Mk K c.And f_Joined___init__
  m_Either : mg "Either" = some (.ref c.Either)
  l_Either : Cls K c.Either
  h_Either : InsH K c.Either
  k_Either : Mk K c.Either f_Joined___init__
  m_Or : mg "Or" = some (.ref c.Or)
  l_Or : Cls K c.Or
  h_Or : InsH K c.Or
  k_Or : Mk K c.Or f_Joined___init__
  i_And_Formula : PySem.W.kitOne K (.ref c.And) (.ref c.Formula) = some true
  i_Either_Formula : PySem.W.kitOne K (.ref c.Either) (.ref c.Formula) = some true
  i_Lamp_Formula : PySem.W.kitOne K (.ref c.Lamp) (.ref c.Formula) = some true
  i_Not_Formula : PySem.W.kitOne K (.ref c.Not) (.ref c.Formula) = some true
  i_Or_Formula : PySem.W.kitOne K (.ref c.Or) (.ref c.Formula) = some true
  i_Sure_Formula : PySem.W.kitOne K (.ref c.Sure) (.ref c.Formula) = some true
  a_And_parts : NoAttr K c.And "parts"
  a_Either_parts : NoAttr K c.Either "parts"
  a_Lamp_at : NoAttr K c.Lamp "at"
  a_Not_part : NoAttr K c.Not "part"
  a_Or_parts : NoAttr K c.Or "parts"
  a_Sure_truth : NoAttr K c.Sure "truth"
  t_And_holds : Meth K c.And "holds" f_And_holds
  t_And_lamps : Meth K c.And "lamps" f_Formula_lamps
  t_And_note : Meth K c.And "note" f_Joined_note
  t_Either_holds : Meth K c.Either "holds" f_Either_holds
  t_Either_lamps : Meth K c.Either "lamps" f_Formula_lamps
  t_Either_note : Meth K c.Either "note" f_Joined_note
  t_Lamp_holds : Meth K c.Lamp "holds" f_Lamp_holds
  t_Lamp_lamps : Meth K c.Lamp "lamps" f_Formula_lamps
  t_Lamp_note : Meth K c.Lamp "note" f_Lamp_note
  t_Not_holds : Meth K c.Not "holds" f_Not_holds
  t_Not_lamps : Meth K c.Not "lamps" f_Formula_lamps
  t_Not_note : Meth K c.Not "note" f_Not_note
  t_Or_holds : Meth K c.Or "holds" f_Or_holds
  t_Or_lamps : Meth K c.Or "lamps" f_Formula_lamps
  t_Or_note : Meth K c.Or "note" f_Joined_note
  t_Sure_holds : Meth K c.Sure "holds" f_Sure_holds
  t_Sure_lamps : Meth K c.Sure "lamps" f_Formula_lamps
  t_Sure_note : Meth K c.Sure "note" f_Formula_note
  n_bool : mg "bool" = none
  n_int : mg "int" = none
  n_isinstance : mg "isinstance" = none
  n_len : mg "len" = none
  n_list : mg "list" = none
  n_max : mg "max" = none
  n_range : mg "range" = none
  n_sorted : mg "sorted" = none
theorem vf_Formula_at (T : Tx K mg) {σ : L2.St} {H : Hp} {ta : TE} {v : V} {x : O_Formula} {y : Int} (ha : Val ta σ H v) (h : (q_Formula (K := K) T.c).R H v x) (e : gf_Formula_at x = some y) : Val (tFld K ta "at") σ H (.int y) := by
  cases h with
  | Lamp hp r0 =>
    cases Option.some.inj e
    cases r0
    exact v_fld ha hp T.l_Lamp T.a_Lamp_at rfl
  | Sure hp r0 =>
    cases e
  | Not hp r0 =>
    cases e
  | And hp ha0 r0 =>
    cases e
  | Either hp ha0 r0 =>
    cases e
  | Or hp ha0 r0 =>
    cases e
theorem vf_Formula_part (T : Tx K mg) {S H : Hp} {v : V} {x : O_Formula} {y : O_Formula} (eS : Same S H) (h : (q_Formula (K := K) T.c).R S v x) (e : gf_Formula_part x = some y) : ∃ w, (∀ {σ : L2.St} {ta : TE}, Val ta σ H v → Val (tFld K ta "part") σ H w) ∧ ((q_Formula (K := K) T.c)).R S w y := by
  cases h with
  | Lamp hp r0 =>
    cases e
  | Sure hp r0 =>
    cases e
  | Not hp r0 =>
    cases Option.some.inj e
    exact ⟨_, fun ha => v_fld ha (eS _ _ hp) T.l_Not T.a_Not_part rfl, r0⟩
  | And hp ha0 r0 =>
    cases e
  | Either hp ha0 r0 =>
    cases e
  | Or hp ha0 r0 =>
    cases e
theorem vf_Formula_parts (T : Tx K mg) {S H : Hp} {v : V} {x : O_Formula} {y : (List O_Formula)} (eS : Same S H) (h : (q_Formula (K := K) T.c).R S v x) (e : gf_Formula_parts x = some y) : ∃ w, (∀ {σ : L2.St} {ta : TE}, Val ta σ H v → Val (tFld K ta "parts") σ H w) ∧ ((qL (q_Formula (K := K) T.c))).R S w y := by
  cases h with
  | Lamp hp r0 =>
    cases e
  | Sure hp r0 =>
    cases e
  | Not hp r0 =>
    cases e
  | And hp ha0 r0 =>
    cases Option.some.inj e
    exact ⟨_, fun ha => v_fld ha (eS _ _ hp) T.l_And T.a_And_parts rfl, _, _, rfl, ha0, r0.to⟩
  | Either hp ha0 r0 =>
    cases Option.some.inj e
    exact ⟨_, fun ha => v_fld ha (eS _ _ hp) T.l_Either T.a_Either_parts rfl, _, _, rfl, ha0, r0.to⟩
  | Or hp ha0 r0 =>
    cases Option.some.inj e
    exact ⟨_, fun ha => v_fld ha (eS _ _ hp) T.l_Or T.a_Or_parts rfl, _, _, rfl, ha0, r0.to⟩
theorem vf_Formula_truth (T : Tx K mg) {σ : L2.St} {H : Hp} {ta : TE} {v : V} {x : O_Formula} {y : Bool} (ha : Val ta σ H v) (h : (q_Formula (K := K) T.c).R H v x) (e : gf_Formula_truth x = some y) : Val (tFld K ta "truth") σ H (.bl y) := by
  cases h with
  | Lamp hp r0 =>
    cases e
  | Sure hp r0 =>
    cases Option.some.inj e
    cases r0
    exact v_fld ha hp T.l_Sure T.a_Sure_truth rfl
  | Not hp r0 =>
    cases e
  | And hp ha0 r0 =>
    cases e
  | Either hp ha0 r0 =>
    cases e
  | Or hp ha0 r0 =>
    cases e
def is_Formula_Formula : O_Formula → Bool
  | .Lamp .. => true
  | .Sure .. => true
  | .Not .. => true
  | .And .. => true
  | .Either .. => true
  | .Or .. => true
theorem v_is_Formula_Formula (T : Tx K mg) {σ : L2.St} {H : Hp} {ta : TE} {v : V} {x : O_Formula} (ha : Val ta σ H v) (h : (q_Formula (K := K) T.c).R H v x) : Val (tCB (rIsi K) (tCons ta (tCons (tC (.ref T.c.Formula)) tNil))) σ H (.bl (is_Formula_Formula x)) := by
  cases h with
  | Lamp hp r0 => exact v_isO ha hp T.l_Lamp T.h_Lamp T.i_Lamp_Formula
  | Sure hp r0 => exact v_isO ha hp T.l_Sure T.h_Sure T.i_Sure_Formula
  | Not hp r0 => exact v_isO ha hp T.l_Not T.h_Not T.i_Not_Formula
  | And hp ha0 r0 => exact v_isO ha hp T.l_And T.h_And T.i_And_Formula
  | Either hp ha0 r0 => exact v_isO ha hp T.l_Either T.h_Either T.i_Either_Formula
  | Or hp ha0 r0 => exact v_isO ha hp T.l_Or T.h_Or T.i_Or_Formula

@[irreducible] def m_Lamp_holds (self1 : O_Formula) (stand4 : Int) : Option Bool :=
(gf_Formula_at self1).bind fun y5 =>
grd (0 ≤ y5) <|
some (decide ((band (shr stand4 y5) 1) = 1))
abbrev s_Lamp_holds : Stmt := inClass (top 3) 1
abbrev sn_Lamp_holds : List Str := ["self", "stand"]
theorem sc_Lamp_holds : FnScope ["self", "stand"] ["self", "stand"] (defScope (s_Lamp_holds)) := ⟨rfl, rfl, rfl, by decide +kernel, rfl, by decide +kernel, by decide +kernel⟩
def p_Lamp_holds (K : PySem.W.Frag) (c : Cl) : Sp := fun vs H Q E => ∃ (v2 : V) (self1 : O_Formula) (stand4 : Int), vs = [v2, .int stand4] ∧ ((q_Formula (K := K) c)).R H v2 self1 ∧ OP (m_Lamp_holds self1 stand4) (fun r => Q (.bl r) H)
theorem ok_Lamp_holds (T : Tx K mg) : FnOk P w K mg base CX0 1 T.f_Lamp_holds T.d_Lamp_holds ["self", "stand"] (p_Lamp_holds K T.c) := by
  refine T.F_Lamp_holds.ok sc_Lamp_holds (fun vs H Q E h => by obtain ⟨v2, self1, stand4, rfl, _⟩ := h; rfl) (fun cdv A outer s H vs Q E hr h => ?_)
  obtain ⟨v2, self1, stand4, rfl, r3, h⟩ := h
  obtain ⟨A_, hA⟩ : ∃ A_, A_ = (fun r : Bool => Q (.bl r) H) := ⟨_, rfl⟩
  replace h : OP (m_Lamp_holds self1 stand4) A_ := hA ▸ h
  rw [m_Lamp_holds] at h
  refine ⟨_, (pss_cons (ps_ret (pe_cmpR op_eq (pe_op op_and (pe_op op_shr (pe_var (i := 1) rfl (.inl rfl) rfl rfl) (pe_fld (pe_var (i := 0) rfl (.inl rfl) rfl rfl) rfl)) pe_int) pe_int (nomark _)))
      pss_nil), ?_⟩
  refine z_start (σ := [some v2, some (.int stand4)]) rfl ?_
  have g : Grow [] H H H H := Grow.refl (Same.refl _)
  obtain ⟨y5, ey5, h⟩ := OP.bind h
  obtain ⟨g6, h⟩ := OP.grd h
  refine z_ret (v_eqI (v_o2 (v_o2c (val_var rfl) (vf_Formula_at T (val_var rfl) (Rep.mono _ g.sh r3) ey5) g6) val_c) val_c) ?_
  have h := OP.fin hA h
  exact h

@[irreducible] def m_Sure_holds (self1 : O_Formula) (stand4 : Int) : Option Bool :=
(gf_Formula_truth self1).bind fun y5 =>
some y5
abbrev s_Sure_holds : Stmt := inClass (top 4) 1
abbrev sn_Sure_holds : List Str := ["self", "stand"]
theorem sc_Sure_holds : FnScope ["self", "stand"] ["self", "stand"] (defScope (s_Sure_holds)) := ⟨rfl, rfl, rfl, by decide +kernel, rfl, by decide +kernel, by decide +kernel⟩
def p_Sure_holds (K : PySem.W.Frag) (c : Cl) : Sp := fun vs H Q E => ∃ (v2 : V) (self1 : O_Formula) (stand4 : Int), vs = [v2, .int stand4] ∧ ((q_Formula (K := K) c)).R H v2 self1 ∧ OP (m_Sure_holds self1 stand4) (fun r => Q (.bl r) H)
theorem ok_Sure_holds (T : Tx K mg) : FnOk P w K mg base CX0 1 T.f_Sure_holds T.d_Sure_holds ["self", "stand"] (p_Sure_holds K T.c) := by
  refine T.F_Sure_holds.ok sc_Sure_holds (fun vs H Q E h => by obtain ⟨v2, self1, stand4, rfl, _⟩ := h; rfl) (fun cdv A outer s H vs Q E hr h => ?_)
  obtain ⟨v2, self1, stand4, rfl, r3, h⟩ := h
  obtain ⟨A_, hA⟩ : ∃ A_, A_ = (fun r : Bool => Q (.bl r) H) := ⟨_, rfl⟩
  replace h : OP (m_Sure_holds self1 stand4) A_ := hA ▸ h
  rw [m_Sure_holds] at h
  refine ⟨_, (pss_cons (ps_ret (pe_fld (pe_var (i := 0) rfl (.inl rfl) rfl rfl) rfl))
      pss_nil), ?_⟩
  refine z_start (σ := [some v2, some (.int stand4)]) rfl ?_
  have g : Grow [] H H H H := Grow.refl (Same.refl _)
  obtain ⟨y5, ey5, h⟩ := OP.bind h
  refine z_ret (vf_Formula_truth T (val_var rfl) (Rep.mono _ g.sh r3) ey5) ?_
  have h := OP.fin hA h
  exact h

@[irreducible] def mb_And_holds (rec_D_Formula_holds : O_Formula → Int → Option Bool) (self1 : O_Formula) (stand4 : Int) : Option Bool :=
(gf_Formula_parts self1).bind fun y5 =>
brk (forR (fun part7 _ =>
(rec_D_Formula_holds part7 stand4).bind fun v20 =>
ifo (!v20) (
some (.inr false)) (
some (.inl ()))) (y5) ()) (fun _ =>
some true)
abbrev s_And_holds : Stmt := inClass (top 7) 2
abbrev sn_And_holds : List Str := ["self", "stand", "part"]
theorem sc_And_holds : FnScope ["self", "stand", "part"] ["self", "stand"] (defScope (s_And_holds)) := ⟨rfl, rfl, rfl, by decide +kernel, rfl, by decide +kernel, by decide +kernel⟩
def p_And_holds (mir : O_Formula → Int → Option Bool) (K : PySem.W.Frag) (c : Cl) : Sp := fun vs H Q E => ∃ (v2 : V) (self1 : O_Formula) (stand4 : Int), vs = [v2, .int stand4] ∧ ((q_Formula (K := K) c)).R H v2 self1 ∧ OP (mir self1 stand4) (fun r => Q (.bl r) H)
@[irreducible] def mb_Either_holds (rec_D_Formula_holds : O_Formula → Int → Option Bool) (self1 : O_Formula) (stand4 : Int) : Option Bool :=
(gf_Formula_parts self1).bind fun y5 =>
(forO (fun part7 odd16 =>
(rec_D_Formula_holds part7 stand4).bind fun v21 =>
ifo v21 (
lt (!odd16) fun odd22 =>
some odd22) (
some odd16)) (y5) false).bind (fun odd16 =>
some odd16)
abbrev s_Either_holds : Stmt := inClass (top 8) 2
abbrev sn_Either_holds : List Str := ["self", "stand", "odd", "part"]
theorem sc_Either_holds : FnScope ["self", "stand", "odd", "part"] ["self", "stand"] (defScope (s_Either_holds)) := ⟨rfl, rfl, rfl, by decide +kernel, rfl, by decide +kernel, by decide +kernel⟩
def p_Either_holds (mir : O_Formula → Int → Option Bool) (K : PySem.W.Frag) (c : Cl) : Sp := fun vs H Q E => ∃ (v2 : V) (self1 : O_Formula) (stand4 : Int), vs = [v2, .int stand4] ∧ ((q_Formula (K := K) c)).R H v2 self1 ∧ OP (mir self1 stand4) (fun r => Q (.bl r) H)
@[irreducible] def mb_Not_holds (rec_D_Formula_holds : O_Formula → Int → Option Bool) (self1 : O_Formula) (stand4 : Int) : Option Bool :=
(gf_Formula_part self1).bind fun y5 =>
(rec_D_Formula_holds y5 stand4).bind fun v7 =>
some (!v7)
abbrev s_Not_holds : Stmt := inClass (top 5) 1
abbrev sn_Not_holds : List Str := ["self", "stand"]
theorem sc_Not_holds : FnScope ["self", "stand"] ["self", "stand"] (defScope (s_Not_holds)) := ⟨rfl, rfl, rfl, by decide +kernel, rfl, by decide +kernel, by decide +kernel⟩
def p_Not_holds (mir : O_Formula → Int → Option Bool) (K : PySem.W.Frag) (c : Cl) : Sp := fun vs H Q E => ∃ (v2 : V) (self1 : O_Formula) (stand4 : Int), vs = [v2, .int stand4] ∧ ((q_Formula (K := K) c)).R H v2 self1 ∧ OP (mir self1 stand4) (fun r => Q (.bl r) H)
@[irreducible] def mb_Or_holds (rec_D_Formula_holds : O_Formula → Int → Option Bool) (self1 : O_Formula) (stand4 : Int) : Option Bool :=
(gf_Formula_parts self1).bind fun y5 =>
brk (forR (fun part7 _ =>
(rec_D_Formula_holds part7 stand4).bind fun v20 =>
ifo v20 (
some (.inr true)) (
some (.inl ()))) (y5) ()) (fun _ =>
some false)
abbrev s_Or_holds : Stmt := inClass (top 9) 2
abbrev sn_Or_holds : List Str := ["self", "stand", "part"]
theorem sc_Or_holds : FnScope ["self", "stand", "part"] ["self", "stand"] (defScope (s_Or_holds)) := ⟨rfl, rfl, rfl, by decide +kernel, rfl, by decide +kernel, by decide +kernel⟩
def p_Or_holds (mir : O_Formula → Int → Option Bool) (K : PySem.W.Frag) (c : Cl) : Sp := fun vs H Q E => ∃ (v2 : V) (self1 : O_Formula) (stand4 : Int), vs = [v2, .int stand4] ∧ ((q_Formula (K := K) c)).R H v2 self1 ∧ OP (mir self1 stand4) (fun r => Q (.bl r) H)
def mb_D_Formula_holds (rec_D_Formula_holds : O_Formula → Int → Option Bool) : O_Formula → Int → Option Bool := fun x a1 => match x with
  | .Lamp .. => m_Lamp_holds x a1
  | .Sure .. => m_Sure_holds x a1
  | .Not .. => mb_Not_holds rec_D_Formula_holds x a1
  | .And .. => mb_And_holds rec_D_Formula_holds x a1
  | .Either .. => mb_Either_holds rec_D_Formula_holds x a1
  | .Or .. => mb_Or_holds rec_D_Formula_holds x a1
def pr_Formula_holds (rec : O_Formula → Int → Option Bool) (i : Nat) (K : PySem.W.Frag) (c : Cl) : Sp := fun vs H Q E => ∃ (v2 : V) (self1 : O_Formula) (stand4 : Int), vs = [v2, .int stand4] ∧ ((q_Formula (K := K) c)).R H v2 self1 ∧ tag_Formula self1 = i ∧ OP (rec self1 stand4) (fun r => Q (.bl r) H)
structure DOk_Formula_holds (P : Program) (w : World) (base : Heap) (T : Tx K mg) (k : Nat) (rec : O_Formula → Int → Option Bool) : Prop where
  c_Lamp : FnOk P w K mg base CX0 k T.f_Lamp_holds T.d_Lamp_holds ["self", "stand"] (pr_Formula_holds rec 0 K T.c)
  c_Sure : FnOk P w K mg base CX0 k T.f_Sure_holds T.d_Sure_holds ["self", "stand"] (pr_Formula_holds rec 1 K T.c)
  c_Not : FnOk P w K mg base CX0 k T.f_Not_holds T.d_Not_holds ["self", "stand"] (pr_Formula_holds rec 2 K T.c)
  c_And : FnOk P w K mg base CX0 k T.f_And_holds T.d_And_holds ["self", "stand"] (pr_Formula_holds rec 3 K T.c)
  c_Either : FnOk P w K mg base CX0 k T.f_Either_holds T.d_Either_holds ["self", "stand"] (pr_Formula_holds rec 4 K T.c)
  c_Or : FnOk P w K mg base CX0 k T.f_Or_holds T.d_Or_holds ["self", "stand"] (pr_Formula_holds rec 5 K T.c)
theorem v_dp_Formula_holds (T : Tx K mg) {rec : O_Formula → Int → Option Bool} {σ : L2.St} {H : Hp} {z v : V} {ta : TE} {t : TA} {x : O_Formula} {vs : List V} {E : XK} (ha : Val ta σ H v) (r : (q_Formula (K := K) T.c).R H v x) (ht : VA t σ H vs) (hs : ∀ i, tag_Formula x = i → ∀ Q : VK, Q z H → pr_Formula_holds rec i K T.c (v :: (vs ++ [])) H Q E) : Val ((tAlt (tMeth T.c.Lamp "holds" (pr_Formula_holds rec 0 K T.c) [] E ta t) (tAlt (tMeth T.c.Sure "holds" (pr_Formula_holds rec 1 K T.c) [] E ta t) (tAlt (tMeth T.c.Not "holds" (pr_Formula_holds rec 2 K T.c) [] E ta t) (tAlt (tMeth T.c.And "holds" (pr_Formula_holds rec 3 K T.c) [] E ta t) (tAlt (tMeth T.c.Either "holds" (pr_Formula_holds rec 4 K T.c) [] E ta t) (tMeth T.c.Or "holds" (pr_Formula_holds rec 5 K T.c) [] E ta t))))))) σ H z := fun Q q => by
  cases r with
  | Lamp hp r0 => exact (Or.inl (c_meth ha ⟨_, _, _, rfl, hp, fun m hm => look_none (ns := ["at"]) rfl hm⟩ (m := "holds") (by decide) (ht _ (hs 0 rfl Q q))))
  | Sure hp r0 => exact (Or.inr (Or.inl (c_meth ha ⟨_, _, _, rfl, hp, fun m hm => look_none (ns := ["truth"]) rfl hm⟩ (m := "holds") (by decide) (ht _ (hs 1 rfl Q q)))))
  | Not hp r0 => exact (Or.inr (Or.inr (Or.inl (c_meth ha ⟨_, _, _, rfl, hp, fun m hm => look_none (ns := ["part"]) rfl hm⟩ (m := "holds") (by decide) (ht _ (hs 2 rfl Q q))))))
  | And hp ha0 r0 => exact (Or.inr (Or.inr (Or.inr (Or.inl (c_meth ha ⟨_, _, _, rfl, hp, fun m hm => look_none (ns := ["parts"]) rfl hm⟩ (m := "holds") (by decide) (ht _ (hs 3 rfl Q q)))))))
  | Either hp ha0 r0 => exact (Or.inr (Or.inr (Or.inr (Or.inr (Or.inl (c_meth ha ⟨_, _, _, rfl, hp, fun m hm => look_none (ns := ["parts"]) rfl hm⟩ (m := "holds") (by decide) (ht _ (hs 4 rfl Q q))))))))
  | Or hp ha0 r0 => exact (Or.inr (Or.inr (Or.inr (Or.inr (Or.inr (c_meth ha ⟨_, _, _, rfl, hp, fun m hm => look_none (ns := ["parts"]) rfl hm⟩ (m := "holds") (by decide) (ht _ (hs 5 rfl Q q))))))))
theorem dp_Formula_holds (T : Tx K mg) {rec : O_Formula → Int → Option Bool} {σ : L2.St} {S H : Hp} {v : V} {ta : TE} {t : TA} {x : O_Formula} {Q : VK} {E : XK} (e : Same S H) (ha : Val ta σ H v) (r : (q_Formula (K := K) T.c).R S v x) (k : ∀ i, tag_Formula x = i → t σ H fun vs H2 => pr_Formula_holds rec i K T.c (v :: (vs ++ [])) H2 Q E) : ((tAlt (tMeth T.c.Lamp "holds" (pr_Formula_holds rec 0 K T.c) [] E ta t) (tAlt (tMeth T.c.Sure "holds" (pr_Formula_holds rec 1 K T.c) [] E ta t) (tAlt (tMeth T.c.Not "holds" (pr_Formula_holds rec 2 K T.c) [] E ta t) (tAlt (tMeth T.c.And "holds" (pr_Formula_holds rec 3 K T.c) [] E ta t) (tAlt (tMeth T.c.Either "holds" (pr_Formula_holds rec 4 K T.c) [] E ta t) (tMeth T.c.Or "holds" (pr_Formula_holds rec 5 K T.c) [] E ta t))))))) σ H Q := by
  cases r with
  | Lamp hp r0 => exact (Or.inl (c_meth ha ⟨_, _, _, rfl, e _ _ hp, fun m hm => look_none (ns := ["at"]) rfl hm⟩ (m := "holds") (by decide) (k 0 rfl)))
  | Sure hp r0 => exact (Or.inr (Or.inl (c_meth ha ⟨_, _, _, rfl, e _ _ hp, fun m hm => look_none (ns := ["truth"]) rfl hm⟩ (m := "holds") (by decide) (k 1 rfl))))
  | Not hp r0 => exact (Or.inr (Or.inr (Or.inl (c_meth ha ⟨_, _, _, rfl, e _ _ hp, fun m hm => look_none (ns := ["part"]) rfl hm⟩ (m := "holds") (by decide) (k 2 rfl)))))
  | And hp ha0 r0 => exact (Or.inr (Or.inr (Or.inr (Or.inl (c_meth ha ⟨_, _, _, rfl, e _ _ hp, fun m hm => look_none (ns := ["parts"]) rfl hm⟩ (m := "holds") (by decide) (k 3 rfl))))))
  | Either hp ha0 r0 => exact (Or.inr (Or.inr (Or.inr (Or.inr (Or.inl (c_meth ha ⟨_, _, _, rfl, e _ _ hp, fun m hm => look_none (ns := ["parts"]) rfl hm⟩ (m := "holds") (by decide) (k 4 rfl)))))))
  | Or hp ha0 r0 => exact (Or.inr (Or.inr (Or.inr (Or.inr (Or.inr (c_meth ha ⟨_, _, _, rfl, e _ _ hp, fun m hm => look_none (ns := ["parts"]) rfl hm⟩ (m := "holds") (by decide) (k 5 rfl)))))))
theorem ok_And_holds (T : Tx K mg) {k : Nat} (hk : 1 ≤ k) {rec_D_Formula_holds : O_Formula → Int → Option Bool} (hrec_D_Formula_holds : DOk_Formula_holds P w base T (k) (rec_D_Formula_holds)) : FnOk P w K mg base CX0 (k + 1) T.f_And_holds T.d_And_holds ["self", "stand"] (p_And_holds (mb_And_holds rec_D_Formula_holds) K T.c) := by
  refine T.F_And_holds.ok sc_And_holds (fun vs H Q E h => by obtain ⟨v2, self1, stand4, rfl, _⟩ := h; rfl) (fun cdv A outer s H vs Q E hr h => ?_)
  obtain ⟨v2, self1, stand4, rfl, r3, h⟩ := h
  obtain ⟨A_, hA⟩ : ∃ A_, A_ = (fun r : Bool => Q (.bl r) H) := ⟨_, rfl⟩
  replace h : OP (mb_And_holds rec_D_Formula_holds self1 stand4) A_ := hA ▸ h
  rw [mb_And_holds] at h
  refine ⟨_, (pss_cons (ps_for PassesOwn.never rfl (pi_list (pe_fld (pe_var (i := 0) rfl (.inl rfl) rfl rfl) rfl)) (pg_name (i := 2) sc_And_holds.nd rfl (.inl rfl)) (pss_cons (ps_if (pt_not (pt_val (pe_alt (pe_meth (pe_var (i := 2) rfl (.inl rfl) rfl rfl) T.l_Lamp T.t_Lamp_holds hrec_D_Formula_holds.c_Lamp hr T.b_Lamp_holds .nil pass0 (pa_cons (pe_var (i := 1) rfl (.inl rfl) rfl rfl) pa_nil)) (pe_alt (pe_meth (pe_var (i := 2) rfl (.inl rfl) rfl rfl) T.l_Sure T.t_Sure_holds hrec_D_Formula_holds.c_Sure hr T.b_Sure_holds .nil pass0 (pa_cons (pe_var (i := 1) rfl (.inl rfl) rfl rfl) pa_nil)) (pe_alt (pe_meth (pe_var (i := 2) rfl (.inl rfl) rfl rfl) T.l_Not T.t_Not_holds hrec_D_Formula_holds.c_Not hr T.b_Not_holds .nil pass0 (pa_cons (pe_var (i := 1) rfl (.inl rfl) rfl rfl) pa_nil)) (pe_alt (pe_meth (pe_var (i := 2) rfl (.inl rfl) rfl rfl) T.l_And T.t_And_holds hrec_D_Formula_holds.c_And hr T.b_And_holds .nil pass0 (pa_cons (pe_var (i := 1) rfl (.inl rfl) rfl rfl) pa_nil)) (pe_alt (pe_meth (pe_var (i := 2) rfl (.inl rfl) rfl rfl) T.l_Either T.t_Either_holds hrec_D_Formula_holds.c_Either hr T.b_Either_holds .nil pass0 (pa_cons (pe_var (i := 1) rfl (.inl rfl) rfl rfl) pa_nil)) (pe_meth (pe_var (i := 2) rfl (.inl rfl) rfl rfl) T.l_Or T.t_Or_holds hrec_D_Formula_holds.c_Or hr T.b_Or_holds .nil pass0 (pa_cons (pe_var (i := 1) rfl (.inl rfl) rfl rfl) pa_nil))))))))) (pss_cons (ps_ret pe_bl)
      pss_nil) pss_nil)
      pss_nil))
      (pss_cons (ps_ret pe_bl)
      pss_nil)), ?_⟩
  refine z_start (σ := [some v2, some (.int stand4), none]) rfl ?_
  have g : Grow [] H H H H := Grow.refl (Same.refl _)
  obtain ⟨y5, ey5, h⟩ := OP.bind h
  obtain ⟨w_6, hw_6, rw_6⟩ := vf_Formula_parts T g.sh r3 ey5
  obtain ⟨B10, h, hB11⟩ := OP.brk h
  obtain ⟨F12, hF13, h⟩ := OP.nameR h
  obtain ⟨q18a, q18w, q18e, q18h, q18p⟩ := id (qL_qQ rw_6)
  replace q18h := g.sh.seq q18h
  refine z_forL (v_eq (hw_6 (val_var rfl)) q18e) q18p (fun ys15 σ' H' => ∃ (u16 : Option V), σ' = [some v2, some (.int stand4), u16] ∧ H = H' ∧ OP (forR F12 ys15 ()) (SE B10 A_)) ⟨_, rfl, rfl, h⟩ (fun ys σ' H' p => by obtain ⟨u16, rfl, rfl, h⟩ := p; exact q18h) (fun w_8 part7 ys15 σ' H_17 rw9 p N hN14 => ?_) ?_
  · obtain ⟨u16, rfl, rfl, h⟩ := p
    replace h := OP.forR h
    replace h := OP.fcall2 hF13 h
    have rx19 := rw9
    refine g_name (σ' := [some v2, some (.int stand4), some w_8]) rfl ?_
    obtain ⟨v20, ev20, h⟩ := OP.bind h
    refine z_if (a_not (v_B (v_dp_Formula_holds T (val_var rfl) (Rep.mono _ g.sh rx19) (va_cons (val_var rfl) va_nil) fun i_ hi_ Q q => ⟨_, _, _, rfl, (Rep.mono _ g.sh rx19), hi_, OP.mk ev20 q⟩))) (fun hc => ?_) (fun hc => ?_)
    · replace h := OP.ite1 hc h
      refine z_ret val_c ?_
      have h := OP.fin hA h
      exact h
    · replace h := OP.ite0 hc h
      refine z_nextR ?_
      refine z_next ?_
      exact hN14 _ _ ⟨_, rfl, rfl, h⟩
  · intro σ' H_21 p
    obtain ⟨u16, rfl, rfl, h⟩ := p
    replace h := hB11 _ (OP.forR_nil h)
    refine z_ret val_c ?_
    have h := OP.fin hA h
    exact h
theorem ok_Either_holds (T : Tx K mg) {k : Nat} (hk : 1 ≤ k) {rec_D_Formula_holds : O_Formula → Int → Option Bool} (hrec_D_Formula_holds : DOk_Formula_holds P w base T (k) (rec_D_Formula_holds)) : FnOk P w K mg base CX0 (k + 1) T.f_Either_holds T.d_Either_holds ["self", "stand"] (p_Either_holds (mb_Either_holds rec_D_Formula_holds) K T.c) := by
  refine T.F_Either_holds.ok sc_Either_holds (fun vs H Q E h => by obtain ⟨v2, self1, stand4, rfl, _⟩ := h; rfl) (fun cdv A outer s H vs Q E hr h => ?_)
  obtain ⟨v2, self1, stand4, rfl, r3, h⟩ := h
  obtain ⟨A_, hA⟩ : ∃ A_, A_ = (fun r : Bool => Q (.bl r) H) := ⟨_, rfl⟩
  replace h : OP (mb_Either_holds rec_D_Formula_holds self1 stand4) A_ := hA ▸ h
  rw [mb_Either_holds] at h
  refine ⟨_, (pss_cons (ps_set (i := 2) sc_Either_holds.nd rfl (.inl rfl) pe_bl)
      (pss_cons (ps_for PassesOwn.never rfl (pi_list (pe_fld (pe_var (i := 0) rfl (.inl rfl) rfl rfl) rfl)) (pg_name (i := 3) sc_Either_holds.nd rfl (.inl rfl)) (pss_cons (ps_if (pt_val (pe_alt (pe_meth (pe_var (i := 3) rfl (.inl rfl) rfl rfl) T.l_Lamp T.t_Lamp_holds hrec_D_Formula_holds.c_Lamp hr T.b_Lamp_holds .nil pass0 (pa_cons (pe_var (i := 1) rfl (.inl rfl) rfl rfl) pa_nil)) (pe_alt (pe_meth (pe_var (i := 3) rfl (.inl rfl) rfl rfl) T.l_Sure T.t_Sure_holds hrec_D_Formula_holds.c_Sure hr T.b_Sure_holds .nil pass0 (pa_cons (pe_var (i := 1) rfl (.inl rfl) rfl rfl) pa_nil)) (pe_alt (pe_meth (pe_var (i := 3) rfl (.inl rfl) rfl rfl) T.l_Not T.t_Not_holds hrec_D_Formula_holds.c_Not hr T.b_Not_holds .nil pass0 (pa_cons (pe_var (i := 1) rfl (.inl rfl) rfl rfl) pa_nil)) (pe_alt (pe_meth (pe_var (i := 3) rfl (.inl rfl) rfl rfl) T.l_And T.t_And_holds hrec_D_Formula_holds.c_And hr T.b_And_holds .nil pass0 (pa_cons (pe_var (i := 1) rfl (.inl rfl) rfl rfl) pa_nil)) (pe_alt (pe_meth (pe_var (i := 3) rfl (.inl rfl) rfl rfl) T.l_Either T.t_Either_holds hrec_D_Formula_holds.c_Either hr T.b_Either_holds .nil pass0 (pa_cons (pe_var (i := 1) rfl (.inl rfl) rfl rfl) pa_nil)) (pe_meth (pe_var (i := 3) rfl (.inl rfl) rfl rfl) T.l_Or T.t_Or_holds hrec_D_Formula_holds.c_Or hr T.b_Or_holds .nil pass0 (pa_cons (pe_var (i := 1) rfl (.inl rfl) rfl rfl) pa_nil)))))))) (pss_cons (ps_set (i := 2) sc_Either_holds.nd rfl (.inl rfl) (pe_not (pe_var (i := 2) rfl (.inl rfl) rfl rfl)))
      pss_nil) pss_nil)
      pss_nil))
      (pss_cons (ps_ret (pe_var (i := 2) rfl (.inl rfl) rfl rfl))
      pss_nil))), ?_⟩
  refine z_start (σ := [some v2, some (.int stand4), none, none]) rfl ?_
  have g : Grow [] H H H H := Grow.refl (Same.refl _)
  refine z_set (w := (.bl false)) (σ' := [some v2, some (.int stand4), some (.bl false), none]) val_c rfl rfl ?_
  obtain ⟨y5, ey5, h⟩ := OP.bind h
  obtain ⟨w_6, hw_6, rw_6⟩ := vf_Formula_parts T g.sh r3 ey5
  obtain ⟨B10, h, hB11⟩ := OP.cut h
  obtain ⟨F12, hF13, h⟩ := OP.nameO h
  obtain ⟨q19a, q19w, q19e, q19h, q19p⟩ := id (qL_qQ rw_6)
  replace q19h := g.sh.seq q19h
  refine z_forL (v_eq (hw_6 (val_var rfl)) q19e) q19p (fun ys15 σ' H' => ∃ (odd16 : Bool) (u17 : Option V), σ' = [some v2, some (.int stand4), some (.bl odd16), u17] ∧ H = H' ∧ OP (forO F12 ys15 odd16) B10) ⟨_, _, rfl, rfl, h⟩ (fun ys σ' H' p => by obtain ⟨odd16, u17, rfl, rfl, h⟩ := p; exact q19h) (fun w_8 part7 ys15 σ' H_18 rw9 p N hN14 => ?_) ?_
  · obtain ⟨odd16, u17, rfl, rfl, h⟩ := p
    replace h := OP.forO h
    replace h := OP.fcall2 hF13 h
    have rx20 := rw9
    refine g_name (σ' := [some v2, some (.int stand4), some (.bl odd16), some w_8]) rfl ?_
    obtain ⟨v21, ev21, h⟩ := OP.bind h
    refine z_if (v_B (v_dp_Formula_holds T (val_var rfl) (Rep.mono _ g.sh rx20) (va_cons (val_var rfl) va_nil) fun i_ hi_ Q q => ⟨_, _, _, rfl, (Rep.mono _ g.sh rx20), hi_, OP.mk ev21 q⟩)) (fun hc => ?_) (fun hc => ?_)
    · replace h := OP.ite1 hc h
      obtain ⟨odd22, eodd22, h⟩ := OP.lt h
      refine z_set (w := (.bl odd22)) (σ' := [some v2, some (.int stand4), some (.bl odd22), some w_8]) (v_not (val_var rfl)) (congrArg V.bl eodd22) rfl ?_
      refine z_nextR ?_
      refine z_next ?_
      exact hN14 _ _ ⟨_, _, rfl, rfl, h⟩
    · replace h := OP.ite0 hc h
      refine z_nextR ?_
      refine z_next ?_
      exact hN14 _ _ ⟨_, _, rfl, rfl, h⟩
  · intro σ' H_23 p
    obtain ⟨odd16, u17, rfl, rfl, h⟩ := p
    replace h := hB11 _ (OP.forO_nil h)
    refine z_ret (val_var rfl) ?_
    have h := OP.fin hA h
    exact h
theorem ok_Not_holds (T : Tx K mg) {k : Nat} (hk : 1 ≤ k) {rec_D_Formula_holds : O_Formula → Int → Option Bool} (hrec_D_Formula_holds : DOk_Formula_holds P w base T (k) (rec_D_Formula_holds)) : FnOk P w K mg base CX0 (k + 1) T.f_Not_holds T.d_Not_holds ["self", "stand"] (p_Not_holds (mb_Not_holds rec_D_Formula_holds) K T.c) := by
  refine T.F_Not_holds.ok sc_Not_holds (fun vs H Q E h => by obtain ⟨v2, self1, stand4, rfl, _⟩ := h; rfl) (fun cdv A outer s H vs Q E hr h => ?_)
  obtain ⟨v2, self1, stand4, rfl, r3, h⟩ := h
  obtain ⟨A_, hA⟩ : ∃ A_, A_ = (fun r : Bool => Q (.bl r) H) := ⟨_, rfl⟩
  replace h : OP (mb_Not_holds rec_D_Formula_holds self1 stand4) A_ := hA ▸ h
  rw [mb_Not_holds] at h
  refine ⟨_, (pss_cons (ps_ret (pe_not (pe_alt (pe_meth (pe_fld (pe_var (i := 0) rfl (.inl rfl) rfl rfl) rfl) T.l_Lamp T.t_Lamp_holds hrec_D_Formula_holds.c_Lamp hr T.b_Lamp_holds .nil pass0 (pa_cons (pe_var (i := 1) rfl (.inl rfl) rfl rfl) pa_nil)) (pe_alt (pe_meth (pe_fld (pe_var (i := 0) rfl (.inl rfl) rfl rfl) rfl) T.l_Sure T.t_Sure_holds hrec_D_Formula_holds.c_Sure hr T.b_Sure_holds .nil pass0 (pa_cons (pe_var (i := 1) rfl (.inl rfl) rfl rfl) pa_nil)) (pe_alt (pe_meth (pe_fld (pe_var (i := 0) rfl (.inl rfl) rfl rfl) rfl) T.l_Not T.t_Not_holds hrec_D_Formula_holds.c_Not hr T.b_Not_holds .nil pass0 (pa_cons (pe_var (i := 1) rfl (.inl rfl) rfl rfl) pa_nil)) (pe_alt (pe_meth (pe_fld (pe_var (i := 0) rfl (.inl rfl) rfl rfl) rfl) T.l_And T.t_And_holds hrec_D_Formula_holds.c_And hr T.b_And_holds .nil pass0 (pa_cons (pe_var (i := 1) rfl (.inl rfl) rfl rfl) pa_nil)) (pe_alt (pe_meth (pe_fld (pe_var (i := 0) rfl (.inl rfl) rfl rfl) rfl) T.l_Either T.t_Either_holds hrec_D_Formula_holds.c_Either hr T.b_Either_holds .nil pass0 (pa_cons (pe_var (i := 1) rfl (.inl rfl) rfl rfl) pa_nil)) (pe_meth (pe_fld (pe_var (i := 0) rfl (.inl rfl) rfl rfl) rfl) T.l_Or T.t_Or_holds hrec_D_Formula_holds.c_Or hr T.b_Or_holds .nil pass0 (pa_cons (pe_var (i := 1) rfl (.inl rfl) rfl rfl) pa_nil)))))))))
      pss_nil), ?_⟩
  refine z_start (σ := [some v2, some (.int stand4)]) rfl ?_
  have g : Grow [] H H H H := Grow.refl (Same.refl _)
  obtain ⟨y5, ey5, h⟩ := OP.bind h
  obtain ⟨w_6, hw_6, rw_6⟩ := vf_Formula_part T g.sh r3 ey5
  obtain ⟨v7, ev7, h⟩ := OP.bind h
  refine z_ret (v_not (v_dp_Formula_holds T (hw_6 (val_var rfl)) (Rep.mono _ g.sh rw_6) (va_cons (val_var rfl) va_nil) fun i_ hi_ Q q => ⟨_, _, _, rfl, (Rep.mono _ g.sh rw_6), hi_, OP.mk ev7 q⟩)) ?_
  have h := OP.fin hA h
  exact h
theorem ok_Or_holds (T : Tx K mg) {k : Nat} (hk : 1 ≤ k) {rec_D_Formula_holds : O_Formula → Int → Option Bool} (hrec_D_Formula_holds : DOk_Formula_holds P w base T (k) (rec_D_Formula_holds)) : FnOk P w K mg base CX0 (k + 1) T.f_Or_holds T.d_Or_holds ["self", "stand"] (p_Or_holds (mb_Or_holds rec_D_Formula_holds) K T.c) := by
  refine T.F_Or_holds.ok sc_Or_holds (fun vs H Q E h => by obtain ⟨v2, self1, stand4, rfl, _⟩ := h; rfl) (fun cdv A outer s H vs Q E hr h => ?_)
  obtain ⟨v2, self1, stand4, rfl, r3, h⟩ := h
  obtain ⟨A_, hA⟩ : ∃ A_, A_ = (fun r : Bool => Q (.bl r) H) := ⟨_, rfl⟩
  replace h : OP (mb_Or_holds rec_D_Formula_holds self1 stand4) A_ := hA ▸ h
  rw [mb_Or_holds] at h
  refine ⟨_, (pss_cons (ps_for PassesOwn.never rfl (pi_list (pe_fld (pe_var (i := 0) rfl (.inl rfl) rfl rfl) rfl)) (pg_name (i := 2) sc_Or_holds.nd rfl (.inl rfl)) (pss_cons (ps_if (pt_val (pe_alt (pe_meth (pe_var (i := 2) rfl (.inl rfl) rfl rfl) T.l_Lamp T.t_Lamp_holds hrec_D_Formula_holds.c_Lamp hr T.b_Lamp_holds .nil pass0 (pa_cons (pe_var (i := 1) rfl (.inl rfl) rfl rfl) pa_nil)) (pe_alt (pe_meth (pe_var (i := 2) rfl (.inl rfl) rfl rfl) T.l_Sure T.t_Sure_holds hrec_D_Formula_holds.c_Sure hr T.b_Sure_holds .nil pass0 (pa_cons (pe_var (i := 1) rfl (.inl rfl) rfl rfl) pa_nil)) (pe_alt (pe_meth (pe_var (i := 2) rfl (.inl rfl) rfl rfl) T.l_Not T.t_Not_holds hrec_D_Formula_holds.c_Not hr T.b_Not_holds .nil pass0 (pa_cons (pe_var (i := 1) rfl (.inl rfl) rfl rfl) pa_nil)) (pe_alt (pe_meth (pe_var (i := 2) rfl (.inl rfl) rfl rfl) T.l_And T.t_And_holds hrec_D_Formula_holds.c_And hr T.b_And_holds .nil pass0 (pa_cons (pe_var (i := 1) rfl (.inl rfl) rfl rfl) pa_nil)) (pe_alt (pe_meth (pe_var (i := 2) rfl (.inl rfl) rfl rfl) T.l_Either T.t_Either_holds hrec_D_Formula_holds.c_Either hr T.b_Either_holds .nil pass0 (pa_cons (pe_var (i := 1) rfl (.inl rfl) rfl rfl) pa_nil)) (pe_meth (pe_var (i := 2) rfl (.inl rfl) rfl rfl) T.l_Or T.t_Or_holds hrec_D_Formula_holds.c_Or hr T.b_Or_holds .nil pass0 (pa_cons (pe_var (i := 1) rfl (.inl rfl) rfl rfl) pa_nil)))))))) (pss_cons (ps_ret pe_bl)
      pss_nil) pss_nil)
      pss_nil))
      (pss_cons (ps_ret pe_bl)
      pss_nil)), ?_⟩
  refine z_start (σ := [some v2, some (.int stand4), none]) rfl ?_
  have g : Grow [] H H H H := Grow.refl (Same.refl _)
  obtain ⟨y5, ey5, h⟩ := OP.bind h
  obtain ⟨w_6, hw_6, rw_6⟩ := vf_Formula_parts T g.sh r3 ey5
  obtain ⟨B10, h, hB11⟩ := OP.brk h
  obtain ⟨F12, hF13, h⟩ := OP.nameR h
  obtain ⟨q18a, q18w, q18e, q18h, q18p⟩ := id (qL_qQ rw_6)
  replace q18h := g.sh.seq q18h
  refine z_forL (v_eq (hw_6 (val_var rfl)) q18e) q18p (fun ys15 σ' H' => ∃ (u16 : Option V), σ' = [some v2, some (.int stand4), u16] ∧ H = H' ∧ OP (forR F12 ys15 ()) (SE B10 A_)) ⟨_, rfl, rfl, h⟩ (fun ys σ' H' p => by obtain ⟨u16, rfl, rfl, h⟩ := p; exact q18h) (fun w_8 part7 ys15 σ' H_17 rw9 p N hN14 => ?_) ?_
  · obtain ⟨u16, rfl, rfl, h⟩ := p
    replace h := OP.forR h
    replace h := OP.fcall2 hF13 h
    have rx19 := rw9
    refine g_name (σ' := [some v2, some (.int stand4), some w_8]) rfl ?_
    obtain ⟨v20, ev20, h⟩ := OP.bind h
    refine z_if (v_B (v_dp_Formula_holds T (val_var rfl) (Rep.mono _ g.sh rx19) (va_cons (val_var rfl) va_nil) fun i_ hi_ Q q => ⟨_, _, _, rfl, (Rep.mono _ g.sh rx19), hi_, OP.mk ev20 q⟩)) (fun hc => ?_) (fun hc => ?_)
    · replace h := OP.ite1 hc h
      refine z_ret val_c ?_
      have h := OP.fin hA h
      exact h
    · replace h := OP.ite0 hc h
      refine z_nextR ?_
      refine z_next ?_
      exact hN14 _ _ ⟨_, rfl, rfl, h⟩
  · intro σ' H_21 p
    obtain ⟨u16, rfl, rfl, h⟩ := p
    replace h := hB11 _ (OP.forR_nil h)
    refine z_ret val_c ?_
    have h := OP.fin hA h
    exact h
def mf_D_Formula_holds : Nat → (O_Formula → Int → Option Bool)
  | 0 => (fun _ _ => none)
  | n + 1 => (mb_D_Formula_holds ((mf_D_Formula_holds n)))
@[irreducible] def m_D_Formula_holds : O_Formula → Int → Option Bool := (mf_D_Formula_holds 100)
theorem okF_D_Formula_holds (T : Tx K mg) : ∀ n : Nat, (DOk_Formula_holds P w base T (1 + n) ((mf_D_Formula_holds n)))
  | 0 => ⟨fn_none fun vs H Q E h => by obtain ⟨v2, self1, stand4, rfl, r3, ht, h⟩ := h; exact h.elim, fn_none fun vs H Q E h => by obtain ⟨v2, self1, stand4, rfl, r3, ht, h⟩ := h; exact h.elim, fn_none fun vs H Q E h => by obtain ⟨v2, self1, stand4, rfl, r3, ht, h⟩ := h; exact h.elim, fn_none fun vs H Q E h => by obtain ⟨v2, self1, stand4, rfl, r3, ht, h⟩ := h; exact h.elim, fn_none fun vs H Q E h => by obtain ⟨v2, self1, stand4, rfl, r3, ht, h⟩ := h; exact h.elim, fn_none fun vs H Q E h => by obtain ⟨v2, self1, stand4, rfl, r3, ht, h⟩ := h; exact h.elim⟩
  | n + 1 => by
    have ih := okF_D_Formula_holds T n
    have hk : 1 ≤ 1 + n := Nat.le_add_right _ _
    have st_D_Formula_holds : DOk_Formula_holds P w base T (1 + n + 1) (mb_D_Formula_holds ((mf_D_Formula_holds n))) := {
      c_Lamp := ((ok_Lamp_holds T).mono (by omega)).imp fun vs H Q E q => by
        obtain ⟨v2, self1, stand4, rfl, r3, ht, h⟩ := q
        cases self1 with
        | Lamp => exact ⟨_, _, _, rfl, r3, h⟩
        | _ => cases ht
      c_Sure := ((ok_Sure_holds T).mono (by omega)).imp fun vs H Q E q => by
        obtain ⟨v2, self1, stand4, rfl, r3, ht, h⟩ := q
        cases self1 with
        | Sure => exact ⟨_, _, _, rfl, r3, h⟩
        | _ => cases ht
      c_Not := ((ok_Not_holds T hk ih).mono (by omega)).imp fun vs H Q E q => by
        obtain ⟨v2, self1, stand4, rfl, r3, ht, h⟩ := q
        cases self1 with
        | Not => exact ⟨_, _, _, rfl, r3, h⟩
        | _ => cases ht
      c_And := ((ok_And_holds T hk ih).mono (by omega)).imp fun vs H Q E q => by
        obtain ⟨v2, self1, stand4, rfl, r3, ht, h⟩ := q
        cases self1 with
        | And => exact ⟨_, _, _, rfl, r3, h⟩
        | _ => cases ht
      c_Either := ((ok_Either_holds T hk ih).mono (by omega)).imp fun vs H Q E q => by
        obtain ⟨v2, self1, stand4, rfl, r3, ht, h⟩ := q
        cases self1 with
        | Either => exact ⟨_, _, _, rfl, r3, h⟩
        | _ => cases ht
      c_Or := ((ok_Or_holds T hk ih).mono (by omega)).imp fun vs H Q E q => by
        obtain ⟨v2, self1, stand4, rfl, r3, ht, h⟩ := q
        cases self1 with
        | Or => exact ⟨_, _, _, rfl, r3, h⟩
        | _ => cases ht
    }
    exact st_D_Formula_holds
theorem okD_Formula_holds (T : Tx K mg) : DOk_Formula_holds P w base T (101) (m_D_Formula_holds) := by
  unfold m_D_Formula_holds
  exact (okF_D_Formula_holds T 100)

@[irreducible] def m_Joined___init__ (parts10 : (List O_Formula)) : Option (List O_Formula) :=
some parts10
abbrev s_Joined___init__ : Stmt := inClass (top 6) 0
abbrev sn_Joined___init__ : List Str := ["self", "parts"]
theorem sc_Joined___init__ : FnScope ["self", "parts"] ["self", "parts"] (defScope (s_Joined___init__)) := ⟨rfl, rfl, rfl, by decide +kernel, rfl, by decide +kernel, by decide +kernel⟩
def p_Joined___init__ (K : PySem.W.Frag) (c : Cl) : Sp := fun vs H Q E => ∃ (S : Hp) (l2 : Addr) (dx3 : Addr) (C7 : Addr) (v11 : V) (parts10 : (List O_Formula)), vs = [.ref l2, v11] ∧ Same S H ∧ H l2 = some (.ins C7 dx3 []) ∧ S l2 = none ∧ Cls K C7 ∧ NoAttr K C7 "parts" ∧ RdL (q_Formula (K := K) c) [l2] S H v11 parts10 ∧ OP (m_Joined___init__ parts10) (fun r => ∀ (S' H' : Hp) (w0 : V), Grow [l2] S H S' H' → H' l2 = some (.ins C7 dx3 [("parts", w0)]) → ((qL (q_Formula (K := K) c))).R S' w0 r → Q .non H')
theorem ok_Joined___init__ (T : Tx K mg) : FnOk P w K mg base CX0 1 T.f_Joined___init__ T.d_Joined___init__ ["self", "parts"] (p_Joined___init__ K T.c) := by
  refine T.F_Joined___init__.ok sc_Joined___init__ (fun vs H Q E h => by obtain ⟨S, l2, dx3, C7, v11, parts10, rfl, _⟩ := h; rfl) (fun cdv A outer s H vs Q E hr h => ?_)
  obtain ⟨S, l2, dx3, C7, v11, parts10, rfl, gS, h_4, h_5, lC8, nA9, r12, h⟩ := h
  obtain ⟨A_, hA⟩ : ∃ A_, A_ = (fun r : (List O_Formula) => ∀ (S' H' : Hp) (w0 : V), Grow [l2] S H S' H' → H' l2 = some (.ins C7 dx3 [("parts", w0)]) → ((qL (q_Formula (K := K) T.c))).R S' w0 r → Q .non H') := ⟨_, rfl⟩
  replace h : OP (m_Joined___init__ parts10) A_ := hA ▸ h
  rw [m_Joined___init__] at h
  refine ⟨_, (pss_cons (ps_fld (pe_var (i := 0) rfl (.inl rfl) rfl rfl) (pe_callTy call_list_of rfl T.n_list bt_list (pa_cons (pe_var (i := 1) rfl (.inl rfl) rfl rfl) pa_nil)) rfl)
      pss_nil), ?_⟩
  refine z_start (σ := [some (.ref l2), some v11]) rfl ?_
  have g : Grow [l2] S H S H := Grow.refl gS
  have c_6 : Cel [l2] H S H l2 (.ins C7 dx3 []) := ⟨h_4, h_5, .inr (.head _), rfl⟩
  refine z_fldE ?_
  refine c_cbE fun Q_13 hQ_13 => ?_
  refine c_args (va_cons (val_var rfl) va_nil) ?_
  refine (l_list (Q := Q_13) (LS.rd g r12) fun p14 ws15 H_16 e17 np18 ep19 rw20 => ?_)
  refine q_eq hQ_13 ?_
  have ne23 := c_6.ne np18
  have z22 := g.hnone np18
  have c_21 : Cel [l2] H S H_16 p14 (.lst ws15) := Cel.own g e17 np18 ep19 rfl
  replace c_6 := c_6.ext e17
  replace g := g.ext e17
  obtain ⟨S_24, g25, eS26, r27, ot28⟩ := c_freeze g c_21 z22 rw20
  replace c_6 := ot28 _ _ (by first | assumption | exact Ne.symm (by assumption)) c_6
  replace r12 := RdL.mono eS26 r12
  replace rw20 := RL.mono eS26 rw20
  replace g := g25
  refine c_setF (fs' := [("parts", (.ref p14))]) g c_6 (val_var rfl) lC8 nA9 (show 0 < 1000 by decide) rfl fun H_29 g30 c_31 ot32 => ?_
  replace g := g30
  refine z_next ?_
  have h := OP.fin hA h
  exact h _ _ _ g c_31.h r27

@[irreducible] def m_Lamp___init__ (at_10 : Int) : Option Int :=
some at_10
abbrev s_Lamp___init__ : Stmt := inClass (top 3) 0
abbrev sn_Lamp___init__ : List Str := ["self", "at"]
theorem sc_Lamp___init__ : FnScope ["self", "at"] ["self", "at"] (defScope (s_Lamp___init__)) := ⟨rfl, rfl, rfl, by decide +kernel, rfl, by decide +kernel, by decide +kernel⟩
def p_Lamp___init__ (K : PySem.W.Frag) (c : Cl) : Sp := fun vs H Q E => ∃ (S : Hp) (l2 : Addr) (dx3 : Addr) (C7 : Addr) (at_10 : Int), vs = [.ref l2, .int at_10] ∧ Same S H ∧ H l2 = some (.ins C7 dx3 []) ∧ S l2 = none ∧ Cls K C7 ∧ NoAttr K C7 "at" ∧ OP (m_Lamp___init__ at_10) (fun r => ∀ (S' H' : Hp), Grow [l2] S H S' H' → H' l2 = some (.ins C7 dx3 [("at", (.int r))]) → Q .non H')
theorem ok_Lamp___init__ (T : Tx K mg) : FnOk P w K mg base CX0 1 T.f_Lamp___init__ T.d_Lamp___init__ ["self", "at"] (p_Lamp___init__ K T.c) := by
  refine T.F_Lamp___init__.ok sc_Lamp___init__ (fun vs H Q E h => by obtain ⟨S, l2, dx3, C7, at_10, rfl, _⟩ := h; rfl) (fun cdv A outer s H vs Q E hr h => ?_)
  obtain ⟨S, l2, dx3, C7, at_10, rfl, gS, h_4, h_5, lC8, nA9, h⟩ := h
  obtain ⟨A_, hA⟩ : ∃ A_, A_ = (fun r : Int => ∀ (S' H' : Hp), Grow [l2] S H S' H' → H' l2 = some (.ins C7 dx3 [("at", (.int r))]) → Q .non H') := ⟨_, rfl⟩
  replace h : OP (m_Lamp___init__ at_10) A_ := hA ▸ h
  rw [m_Lamp___init__] at h
  refine ⟨_, (pss_cons (ps_fld (pe_var (i := 0) rfl (.inl rfl) rfl rfl) (pe_var (i := 1) rfl (.inl rfl) rfl rfl) rfl)
      pss_nil), ?_⟩
  refine z_start (σ := [some (.ref l2), some (.int at_10)]) rfl ?_
  have g : Grow [l2] S H S H := Grow.refl gS
  have c_6 : Cel [l2] H S H l2 (.ins C7 dx3 []) := ⟨h_4, h_5, .inr (.head _), rfl⟩
  refine z_fldE ?_
  refine c_val (val_var rfl) ?_
  refine c_setF (fs' := [("at", (.int at_10))]) g c_6 (val_var rfl) lC8 nA9 (show 0 < 1000 by decide) rfl fun H_11 g12 c_13 ot14 => ?_
  replace g := g12
  refine z_next ?_
  have h := OP.fin hA h
  exact h _ _ g c_13.h

@[irreducible] def m_Not___init__ (part10 : O_Formula) : Option O_Formula :=
some part10
abbrev s_Not___init__ : Stmt := inClass (top 5) 0
abbrev sn_Not___init__ : List Str := ["self", "part"]
theorem sc_Not___init__ : FnScope ["self", "part"] ["self", "part"] (defScope (s_Not___init__)) := ⟨rfl, rfl, rfl, by decide +kernel, rfl, by decide +kernel, by decide +kernel⟩
def p_Not___init__ (K : PySem.W.Frag) (c : Cl) : Sp := fun vs H Q E => ∃ (S : Hp) (l2 : Addr) (dx3 : Addr) (C7 : Addr) (v11 : V) (part10 : O_Formula), vs = [.ref l2, v11] ∧ Same S H ∧ H l2 = some (.ins C7 dx3 []) ∧ S l2 = none ∧ Cls K C7 ∧ NoAttr K C7 "part" ∧ ((q_Formula (K := K) c)).R S v11 part10 ∧ OP (m_Not___init__ part10) (fun r => ∀ (S' H' : Hp) (w0 : V), Grow [l2] S H S' H' → H' l2 = some (.ins C7 dx3 [("part", w0)]) → ((q_Formula (K := K) c)).R S' w0 r → Q .non H')
theorem ok_Not___init__ (T : Tx K mg) : FnOk P w K mg base CX0 1 T.f_Not___init__ T.d_Not___init__ ["self", "part"] (p_Not___init__ K T.c) := by
  refine T.F_Not___init__.ok sc_Not___init__ (fun vs H Q E h => by obtain ⟨S, l2, dx3, C7, v11, part10, rfl, _⟩ := h; rfl) (fun cdv A outer s H vs Q E hr h => ?_)
  obtain ⟨S, l2, dx3, C7, v11, part10, rfl, gS, h_4, h_5, lC8, nA9, r12, h⟩ := h
  obtain ⟨A_, hA⟩ : ∃ A_, A_ = (fun r : O_Formula => ∀ (S' H' : Hp) (w0 : V), Grow [l2] S H S' H' → H' l2 = some (.ins C7 dx3 [("part", w0)]) → ((q_Formula (K := K) T.c)).R S' w0 r → Q .non H') := ⟨_, rfl⟩
  replace h : OP (m_Not___init__ part10) A_ := hA ▸ h
  rw [m_Not___init__] at h
  refine ⟨_, (pss_cons (ps_fld (pe_var (i := 0) rfl (.inl rfl) rfl rfl) (pe_var (i := 1) rfl (.inl rfl) rfl rfl) rfl)
      pss_nil), ?_⟩
  refine z_start (σ := [some (.ref l2), some v11]) rfl ?_
  have g : Grow [l2] S H S H := Grow.refl gS
  have c_6 : Cel [l2] H S H l2 (.ins C7 dx3 []) := ⟨h_4, h_5, .inr (.head _), rfl⟩
  refine z_fldE ?_
  refine c_val (val_var rfl) ?_
  refine c_setF (fs' := [("part", v11)]) g c_6 (val_var rfl) lC8 nA9 (show 0 < 1000 by decide) rfl fun H_13 g14 c_15 ot16 => ?_
  replace g := g14
  refine z_next ?_
  have h := OP.fin hA h
  exact h _ _ _ g c_15.h r12

@[irreducible] def m_Sure___init__ (truth10 : Bool) : Option Bool :=
some truth10
abbrev s_Sure___init__ : Stmt := inClass (top 4) 0
abbrev sn_Sure___init__ : List Str := ["self", "truth"]
theorem sc_Sure___init__ : FnScope ["self", "truth"] ["self", "truth"] (defScope (s_Sure___init__)) := ⟨rfl, rfl, rfl, by decide +kernel, rfl, by decide +kernel, by decide +kernel⟩
def p_Sure___init__ (K : PySem.W.Frag) (c : Cl) : Sp := fun vs H Q E => ∃ (S : Hp) (l2 : Addr) (dx3 : Addr) (C7 : Addr) (truth10 : Bool), vs = [.ref l2, .bl truth10] ∧ Same S H ∧ H l2 = some (.ins C7 dx3 []) ∧ S l2 = none ∧ Cls K C7 ∧ NoAttr K C7 "truth" ∧ OP (m_Sure___init__ truth10) (fun r => ∀ (S' H' : Hp), Grow [l2] S H S' H' → H' l2 = some (.ins C7 dx3 [("truth", (.bl r))]) → Q .non H')
theorem ok_Sure___init__ (T : Tx K mg) : FnOk P w K mg base CX0 1 T.f_Sure___init__ T.d_Sure___init__ ["self", "truth"] (p_Sure___init__ K T.c) := by
  refine T.F_Sure___init__.ok sc_Sure___init__ (fun vs H Q E h => by obtain ⟨S, l2, dx3, C7, truth10, rfl, _⟩ := h; rfl) (fun cdv A outer s H vs Q E hr h => ?_)
  obtain ⟨S, l2, dx3, C7, truth10, rfl, gS, h_4, h_5, lC8, nA9, h⟩ := h
  obtain ⟨A_, hA⟩ : ∃ A_, A_ = (fun r : Bool => ∀ (S' H' : Hp), Grow [l2] S H S' H' → H' l2 = some (.ins C7 dx3 [("truth", (.bl r))]) → Q .non H') := ⟨_, rfl⟩
  replace h : OP (m_Sure___init__ truth10) A_ := hA ▸ h
  rw [m_Sure___init__] at h
  refine ⟨_, (pss_cons (ps_fld (pe_var (i := 0) rfl (.inl rfl) rfl rfl) (pe_var (i := 1) rfl (.inl rfl) rfl rfl) rfl)
      pss_nil), ?_⟩
  refine z_start (σ := [some (.ref l2), some (.bl truth10)]) rfl ?_
  have g : Grow [l2] S H S H := Grow.refl gS
  have c_6 : Cel [l2] H S H l2 (.ins C7 dx3 []) := ⟨h_4, h_5, .inr (.head _), rfl⟩
  refine z_fldE ?_
  refine c_val (val_var rfl) ?_
  refine c_setF (fs' := [("truth", (.bl truth10))]) g c_6 (val_var rfl) lC8 nA9 (show 0 < 1000 by decide) rfl fun H_11 g12 c_13 ot14 => ?_
  replace g := g12
  refine z_next ?_
  have h := OP.fin hA h
  exact h _ _ g c_13.h

@[irreducible] def m__law_both (rows1 : (List (List Bool))) : Option (List Bool) :=
(forO (fun row13 used25 =>
(forO (fun k33 used45 =>
(atI row13 k33).bind fun i50 =>
ifo i50 (
(setI used45 k33 true).bind fun l51 =>
some l51) (
some used45)) (rangeI 0 (Int.toNat 6)) used25).bind (fun used45 =>
some used45)) (rows1) ([false, false, false, false, false, false] : List Bool)).bind (fun used25 =>
some used25)
abbrev s__law_both : Stmt := top 15
abbrev sn__law_both : List Str := ["_law_rows", "_law_used", "_law_row", "_law_k"]
theorem sc__law_both : FnScope ["_law_rows", "_law_used", "_law_row", "_law_k"] ["_law_rows"] (defScope (s__law_both)) := ⟨rfl, rfl, rfl, by decide +kernel, rfl, by decide +kernel, by decide +kernel⟩
def p__law_both (K : PySem.W.Frag) (c : Cl) : Sp := fun vs H Q E => ∃ (S : Hp) (v2 : V) (rows1 : (List (List Bool))), vs = [v2] ∧ Same S H ∧ RdL (qL (qB (K := K))) [] S H v2 rows1 ∧ OP (m__law_both rows1) (fun r => ∀ (S' H' : Hp) (p : Addr) (ws : List V), Grow [] S H S' H' → H p = none → H' p = some (.lst ws) → S' p = none → RL (qB (K := K)) S' ws r → Q (.ref p) H')
theorem ok__law_both (T : Tx K mg) : FnOk P w K mg base CX0 1 T.f__law_both T.d__law_both ["_law_rows"] (p__law_both K T.c) := by
  refine T.F__law_both.ok sc__law_both (fun vs H Q E h => by obtain ⟨S, v2, rows1, rfl, _⟩ := h; rfl) (fun cdv A outer s H vs Q E hr h => ?_)
  obtain ⟨S, v2, rows1, rfl, gS, r3, h⟩ := h
  obtain ⟨A_, hA⟩ : ∃ A_, A_ = (fun r : (List Bool) => ∀ (S' H' : Hp) (p : Addr) (ws : List V), Grow [] S H S' H' → H p = none → H' p = some (.lst ws) → S' p = none → RL (qB (K := K)) S' ws r → Q (.ref p) H') := ⟨_, rfl⟩
  replace h : OP (m__law_both rows1) A_ := hA ▸ h
  rw [m__law_both] at h
  refine ⟨_, (pss_cons (ps_set (i := 1) sc__law_both.nd rfl (.inl rfl) (pe_lst (pa_cons pe_bl (pa_cons pe_bl (pa_cons pe_bl (pa_cons pe_bl (pa_cons pe_bl (pa_cons pe_bl pa_nil))))))))
      (pss_cons (ps_for PassesOwn.never rfl (pi_list (pe_var (i := 0) rfl (.inl rfl) rfl rfl)) (pg_name (i := 2) sc__law_both.nd rfl (.inl rfl)) (pss_cons (ps_for PassesOwn.never rfl (pi_range1 rfl T.n_range (pa_cons pe_int pa_nil)) (pg_name (i := 3) sc__law_both.nd rfl (.inl rfl)) (pss_cons (ps_if (pt_val (pe_ix (show IxR _ (rIxL K) from ix_list) (pe_var (i := 2) rfl (.inl rfl) rfl rfl) (pe_var (i := 3) rfl (.inl rfl) rfl rfl) (fun _ _ => rfl))) (pss_cons (ps_asg pe_bl (pg_sub (pe_var (i := 1) rfl (.inl rfl) rfl rfl) (pe_var (i := 3) rfl (.inl rfl) rfl rfl) set_list))
      pss_nil) pss_nil)
      pss_nil))
      pss_nil))
      (pss_cons (ps_ret (pe_var (i := 1) rfl (.inl rfl) rfl rfl))
      pss_nil))), ?_⟩
  refine z_start (σ := [some v2, none, none, none]) rfl ?_
  have g : Grow [] S H S H := Grow.refl gS
  refine z_setE ?_
  refine c_lstE fun Q_4 hQ_4 => ?_
  refine c_args (va_cons val_c (va_cons val_c (va_cons val_c (va_cons val_c (va_cons val_c (va_cons val_c va_nil)))))) ?_
  refine c_newlst (Q := Q_4) (vs := [(.bl false), (.bl false), (.bl false), (.bl false), (.bl false), (.bl false)]) (show 6 ≤ 1000 by decide) fun p5 H_6 e7 np8 ep9 => ?_
  refine q_eq hQ_4 ?_
  have w_10 : RL (qB (K := K)) S [(.bl false), (.bl false), (.bl false), (.bl false), (.bl false), (.bl false)] ([false, false, false, false, false, false] : List Bool) := (.cons rfl (.cons rfl (.cons rfl (.cons rfl (.cons rfl (.cons rfl .nil))))))
  have z12 := g.hnone np8
  have c_11 : Cel [] H S H_6 p5 (.lst [(.bl false), (.bl false), (.bl false), (.bl false), (.bl false), (.bl false)]) := Cel.own g e7 np8 ep9 rfl
  replace g := g.ext e7
  refine g_name (σ' := [some v2, some (.ref p5), none, none]) rfl ?_
  obtain ⟨B16, h, hB17⟩ := OP.cut h
  obtain ⟨F18, hF19, h⟩ := OP.nameO h
  obtain ⟨q31a, q31w, q31e, q31h, q31p⟩ := id r3
  refine z_forL (v_eq (val_var rfl) q31e) q31p (fun ys21 σ' H' => ∃ (ws22 : List V) (used25 : (List Bool)) (u26 : Option V) (u27 : Option V) (S_28 : Hp), σ' = [some v2, some (.ref p5), u26, u27] ∧ Grow [] S H S_28 H' ∧ Same S S_28 ∧ Cel [] H S_28 H' p5 (.lst ws22) ∧ RL (qB (K := K)) S_28 ws22 used25 ∧ OP (forO F18 ys21 used25) B16) ⟨_, _, _, _, _, rfl, g, (Same.refl _), c_11, w_10, h⟩ (fun ys σ' H' p => by obtain ⟨ws22, used25, u26, u27, S_28, rfl, gN, eS30, c_23N, r24N, h⟩ := p; exact gN.sq q31h) (fun w_14 row13 ys21 σ' H_29 rw15 p N hN20 => ?_) ?_
  · obtain ⟨ws22, used25, u26, u27, S_28, rfl, gN, eS30, c_23N, r24N, h⟩ := p
    replace g := gN
    have c_23 := c_23N
    have r24 := r24N
    replace r3 := RdL.mono eS30 r3
    replace h := OP.forO h
    replace h := OP.fcall2 hF19 h
    have rx32 := Rep.mono _ eS30 rw15
    refine g_name (σ' := [some v2, some (.ref p5), some w_14, u27]) rfl ?_
    obtain ⟨B36, h, hB37⟩ := OP.cut h
    obtain ⟨F38, hF39, h⟩ := OP.nameO h
    refine z_for1 (j := 6) (va_cons val_c va_nil) ⟨by decide, by decide⟩ (fun ys41 σ' H' => ∃ (ws42 : List V) (used45 : (List Bool)) (u46 : Option V) (S_47 : Hp), σ' = [some v2, some (.ref p5), some w_14, u46] ∧ Grow [] S H S_47 H' ∧ Same S_28 S_47 ∧ Cel [] H S_47 H' p5 (.lst ws42) ∧ RL (qB (K := K)) S_47 ws42 used45 ∧ OP (forO F38 ys41 used45) B36) ⟨_, _, _, _, rfl, g, (Same.refl _), c_23, r24, h⟩ (fun k33 ys41 σ' H_48 p N hN40 => ?_) ?_
    · obtain ⟨ws42, used45, u46, S_47, rfl, gN, eS49, c_43N, r44N, h⟩ := p
      replace g := gN
      have c_43 := c_43N
      have r44 := r44N
      replace r3 := RdL.mono eS49 r3
      replace rx32 := Rep.mono _ eS49 rx32
      replace eS30 := eS30.trans eS49
      replace h := OP.forO h
      replace h := OP.fcall2 hF39 h
      refine g_name (σ' := [some v2, some (.ref p5), some w_14, some (.int k33)]) rfl ?_
      obtain ⟨i50, ei50, h⟩ := OP.bind h
      refine z_if (v_B (v_ixB (val_var rfl) (val_var rfl) (qL_qQ (Rep.mono _ g.sh rx32)) ei50)) (fun hc => ?_) (fun hc => ?_)
      · replace h := OP.ite1 hc h
        refine z_asgE ?_
        refine c_val val_c ?_
        obtain ⟨l51, el51, h⟩ := OP.bind h
        refine c_setL g c_43 r44 rfl (val_var rfl) (val_var rfl) el51 fun ws52 H_53 g54 c_55 w_56 ot57 => ?_
        replace g := g54
        refine z_nextR ?_
        refine z_next ?_
        exact hN40 _ _ ⟨_, _, _, _, rfl, g, eS49, c_55, w_56, h⟩
      · replace h := OP.ite0 hc h
        refine z_nextR ?_
        refine z_next ?_
        exact hN40 _ _ ⟨_, _, _, _, rfl, g, eS49, c_43, r44, h⟩
    · intro σ' H_48 p
      obtain ⟨ws42, used45, u46, S_47, rfl, gN, eS49, c_43N, r44N, h⟩ := p
      replace g := gN
      have c_43 := c_43N
      have r44 := r44N
      replace r3 := RdL.mono eS49 r3
      replace rx32 := Rep.mono _ eS49 rx32
      replace eS30 := eS30.trans eS49
      replace h := hB37 _ (OP.forO_nil h)
      refine z_next ?_
      exact hN20 _ _ ⟨_, _, _, _, _, rfl, g, eS30, c_43, r44, h⟩
  · intro σ' H_29 p
    obtain ⟨ws22, used25, u26, u27, S_28, rfl, gN, eS30, c_23N, r24N, h⟩ := p
    replace g := gN
    have c_23 := c_23N
    have r24 := r24N
    replace r3 := RdL.mono eS30 r3
    replace h := hB17 _ (OP.forO_nil h)
    refine z_ret (val_var rfl) ?_
    have h := OP.fin hA h
    exact h _ _ _ _ g z12 c_23.h c_23.s r24

@[irreducible] def m__law_cell_at (script1 : (List Int)) (k4 : Int) : Option Int :=
ifo (decide (k4 < (script1.length : Int))) (
(atI script1 k4).bind fun i5 =>
some i5) (
some 0)
abbrev s__law_cell_at : Stmt := top 11
abbrev sn__law_cell_at : List Str := ["_law_script", "_law_k"]
theorem sc__law_cell_at : FnScope ["_law_script", "_law_k"] ["_law_script", "_law_k"] (defScope (s__law_cell_at)) := ⟨rfl, rfl, rfl, by decide +kernel, rfl, by decide +kernel, by decide +kernel⟩
def p__law_cell_at (K : PySem.W.Frag) (c : Cl) : Sp := fun vs H Q E => ∃ (v2 : V) (script1 : (List Int)) (k4 : Int), vs = [v2, .int k4] ∧ ((qQ (qI (K := K)))).R H v2 script1 ∧ OP (m__law_cell_at script1 k4) (fun r => Q (.int r) H)
theorem ok__law_cell_at (T : Tx K mg) : FnOk P w K mg base CX0 1 T.f__law_cell_at T.d__law_cell_at ["_law_script", "_law_k"] (p__law_cell_at K T.c) := by
  refine T.F__law_cell_at.ok sc__law_cell_at (fun vs H Q E h => by obtain ⟨v2, script1, k4, rfl, _⟩ := h; rfl) (fun cdv A outer s H vs Q E hr h => ?_)
  obtain ⟨v2, script1, k4, rfl, r3, h⟩ := h
  obtain ⟨A_, hA⟩ : ∃ A_, A_ = (fun r : Int => Q (.int r) H) := ⟨_, rfl⟩
  replace h : OP (m__law_cell_at script1 k4) A_ := hA ▸ h
  rw [m__law_cell_at] at h
  refine ⟨_, (pss_cons (ps_if (pt_cmpR op_lt (pe_var (i := 1) rfl (.inl rfl) rfl rfl) (pe_callB (show CallR _ (.builtin "len") (Z.rLenS K) from call_len_seq) rfl T.n_len bt_len (pa_cons (pe_var (i := 0) rfl (.inl rfl) rfl rfl) pa_nil)) (nomark _)) (pss_cons (ps_ret (pe_ix (show IxR _ (rIxL K) from ix_list) (pe_var (i := 0) rfl (.inl rfl) rfl rfl) (pe_var (i := 1) rfl (.inl rfl) rfl rfl) (fun _ _ => rfl)))
      pss_nil) pss_nil)
      (pss_cons (ps_ret pe_int)
      pss_nil)), ?_⟩
  refine z_start (σ := [some v2, some (.int k4)]) rfl ?_
  have g : Grow [] H H H H := Grow.refl (Same.refl _)
  refine z_if (v_test (v_o2 (val_var rfl) (v_len (val_var rfl) (Rep.mono _ g.sh r3)))) (fun hc => ?_) (fun hc => ?_)
  · replace h := OP.ite1 hc h
    obtain ⟨i5, ei5, h⟩ := OP.bind h
    refine z_ret (v_ixI (val_var rfl) (val_var rfl) (Rep.mono _ g.sh r3) ei5) ?_
    have h := OP.fin hA h
    exact h
  · replace h := OP.ite0 hc h
    refine z_nextR ?_
    refine z_ret val_c ?_
    have h := OP.fin hA h
    exact h

@[irreducible] def m__law_joined (word1 : Int) (parts2 : (List O_Formula)) : Option O_Formula :=
ifo (decide (word1 = 0)) (
(m_Joined___init__ parts2).bind fun v25 =>
some (O_Formula.Or v25)) (
ifo (decide (word1 = 1)) (
(m_Joined___init__ parts2).bind fun v58 =>
some (O_Formula.Either v58)) (
(m_Joined___init__ parts2).bind fun v91 =>
some (O_Formula.And v91)))
abbrev s__law_joined : Stmt := top 13
abbrev sn__law_joined : List Str := ["_law_word", "_law_parts"]
theorem sc__law_joined : FnScope ["_law_word", "_law_parts"] ["_law_word", "_law_parts"] (defScope (s__law_joined)) := ⟨rfl, rfl, rfl, by decide +kernel, rfl, by decide +kernel, by decide +kernel⟩
def p__law_joined (K : PySem.W.Frag) (c : Cl) : Sp := fun vs H Q E => ∃ (S : Hp) (word1 : Int) (v3 : V) (parts2 : (List O_Formula)), vs = [.int word1, v3] ∧ Same S H ∧ RdL (q_Formula (K := K) c) [] S H v3 parts2 ∧ OP (m__law_joined word1 parts2) (fun r => ∀ (S' H' : Hp) (v : V), Grow [] S H S' H' → ((q_Formula (K := K) c)).R S' v r → Q v H')
theorem ok__law_joined (T : Tx K mg) : FnOk P w K mg base CX0 3 T.f__law_joined T.d__law_joined ["_law_word", "_law_parts"] (p__law_joined K T.c) := by
  refine T.F__law_joined.ok sc__law_joined (fun vs H Q E h => by obtain ⟨S, word1, v3, parts2, rfl, _⟩ := h; rfl) (fun cdv A outer s H vs Q E hr h => ?_)
  obtain ⟨S, word1, v3, parts2, rfl, gS, r4, h⟩ := h
  obtain ⟨A_, hA⟩ : ∃ A_, A_ = (fun r : O_Formula => ∀ (S' H' : Hp) (v : V), Grow [] S H S' H' → ((q_Formula (K := K) T.c)).R S' v r → Q v H') := ⟨_, rfl⟩
  replace h : OP (m__law_joined word1 parts2) A_ := hA ▸ h
  rw [m__law_joined] at h
  have hr2 : Room 2 _ := hr.mono (by decide)
  refine ⟨_, (pss_cons (ps_if (pt_cmpR op_eq (pe_var (i := 0) rfl (.inl rfl) rfl rfl) pe_int (nomark _)) (pss_cons (ps_ret (pe_make T.k_Or (ok_Joined___init__ T) hr2 rfl T.m_Or T.b_Joined___init__ .nil pass0 (pa_cons (pe_callTy call_list_of rfl T.n_list bt_list (pa_cons (pe_var (i := 1) rfl (.inl rfl) rfl rfl) pa_nil)) pa_nil)))
      pss_nil) pss_nil)
      (pss_cons (ps_if (pt_cmpR op_eq (pe_var (i := 0) rfl (.inl rfl) rfl rfl) pe_int (nomark _)) (pss_cons (ps_ret (pe_make T.k_Either (ok_Joined___init__ T) hr2 rfl T.m_Either T.b_Joined___init__ .nil pass0 (pa_cons (pe_callTy call_list_of rfl T.n_list bt_list (pa_cons (pe_var (i := 1) rfl (.inl rfl) rfl rfl) pa_nil)) pa_nil)))
      pss_nil) pss_nil)
      (pss_cons (ps_ret (pe_make T.k_And (ok_Joined___init__ T) hr2 rfl T.m_And T.b_Joined___init__ .nil pass0 (pa_cons (pe_callTy call_list_of rfl T.n_list bt_list (pa_cons (pe_var (i := 1) rfl (.inl rfl) rfl rfl) pa_nil)) pa_nil)))
      pss_nil))), ?_⟩
  refine z_start (σ := [some (.int word1), some v3]) rfl ?_
  have g : Grow [] S H S H := Grow.refl gS
  refine z_if (v_test (v_eqI (val_var rfl) val_c)) (fun hc => ?_) (fun hc => ?_)
  · replace h := OP.ite1 hc h
    refine z_retE ?_
    refine c_make ?_
    refine c_cons ?_
    refine c_cbE fun Q_5 hQ_5 => ?_
    refine c_args (va_cons (val_var rfl) va_nil) ?_
    refine (l_list (Q := Q_5) (LS.rd g r4) fun p6 ws7 H_8 e9 np10 ep11 rw12 => ?_)
    refine q_eq hQ_5 ?_
    have z14 := g.hnone np10
    have c_13 : Cel [] H S H_8 p6 (.lst ws7) := Cel.own g e9 np10 ep11 rfl
    replace g := g.ext e9
    refine c_nil ?_
    refine make_in fun p15 dx16 H_17 e18 np19 ep20 => ?_
    have ne24 := c_13.ne np19
    have z23 := g.hnone np19
    have c_22 : Cel [] H S H_17 p15 (.ins T.c.Or dx16 []) := Cel.own g e18 np19 ep20 rfl
    replace c_13 := c_13.ext e18
    replace g := g.ext e18
    have gL32 : ∀ l ∈ [p15], H l = none ∨ l ∈ [] := (LM1 c_22.z LM0)
    refine ⟨S, _, _, _, _, _, rfl, g.sh, c_22.h, c_22.s, T.l_Or, T.a_Or_parts, (RdL.ofC c_13.h (NM1 (by first | assumption | exact Ne.symm (by assumption)) NM0) rw12), (OP.of h).mono fun v25 h S_26 H_27 w_29 gc28 hp31 r30 => ?_⟩
    replace c_13 := c_13.call gc28 (NM1 (by first | assumption | exact Ne.symm (by assumption)) NM0)
    replace r4 := RdL.mono gc28.ss r4
    replace rw12 := RL.mono gc28.ss rw12
    replace c_22 := c_22.mut gc28 hp31 rfl
    replace g := g.call gc28 gL32
    refine ⟨rfl, ?_⟩
    obtain ⟨S_33, g34, eS35, r36, ot37⟩ := fz_Formula_Or (c := T.c) g c_22 z23 r30
    replace c_13 := ot37 _ _ (by first | assumption | exact Ne.symm (by assumption)) c_13
    replace r4 := RdL.mono eS35 r4
    replace rw12 := RL.mono eS35 rw12
    replace r30 := Rep.mono _ eS35 r30
    replace g := g34
    have h := OP.fin hA h
    exact h _ _ _ g r36
  · replace h := OP.ite0 hc h
    refine z_nextR ?_
    refine z_if (v_test (v_eqI (val_var rfl) val_c)) (fun hc => ?_) (fun hc => ?_)
    · replace h := OP.ite1 hc h
      refine z_retE ?_
      refine c_make ?_
      refine c_cons ?_
      refine c_cbE fun Q_38 hQ_38 => ?_
      refine c_args (va_cons (val_var rfl) va_nil) ?_
      refine (l_list (Q := Q_38) (LS.rd g r4) fun p39 ws40 H_41 e42 np43 ep44 rw45 => ?_)
      refine q_eq hQ_38 ?_
      have z47 := g.hnone np43
      have c_46 : Cel [] H S H_41 p39 (.lst ws40) := Cel.own g e42 np43 ep44 rfl
      replace g := g.ext e42
      refine c_nil ?_
      refine make_in fun p48 dx49 H_50 e51 np52 ep53 => ?_
      have ne57 := c_46.ne np52
      have z56 := g.hnone np52
      have c_55 : Cel [] H S H_50 p48 (.ins T.c.Either dx49 []) := Cel.own g e51 np52 ep53 rfl
      replace c_46 := c_46.ext e51
      replace g := g.ext e51
      have gL65 : ∀ l ∈ [p48], H l = none ∨ l ∈ [] := (LM1 c_55.z LM0)
      refine ⟨S, _, _, _, _, _, rfl, g.sh, c_55.h, c_55.s, T.l_Either, T.a_Either_parts, (RdL.ofC c_46.h (NM1 (by first | assumption | exact Ne.symm (by assumption)) NM0) rw45), (OP.of h).mono fun v58 h S_59 H_60 w_62 gc61 hp64 r63 => ?_⟩
      replace c_46 := c_46.call gc61 (NM1 (by first | assumption | exact Ne.symm (by assumption)) NM0)
      replace r4 := RdL.mono gc61.ss r4
      replace rw45 := RL.mono gc61.ss rw45
      replace c_55 := c_55.mut gc61 hp64 rfl
      replace g := g.call gc61 gL65
      refine ⟨rfl, ?_⟩
      obtain ⟨S_66, g67, eS68, r69, ot70⟩ := fz_Formula_Either (c := T.c) g c_55 z56 r63
      replace c_46 := ot70 _ _ (by first | assumption | exact Ne.symm (by assumption)) c_46
      replace r4 := RdL.mono eS68 r4
      replace rw45 := RL.mono eS68 rw45
      replace r63 := Rep.mono _ eS68 r63
      replace g := g67
      have h := OP.fin hA h
      exact h _ _ _ g r69
    · replace h := OP.ite0 hc h
      refine z_nextR ?_
      refine z_retE ?_
      refine c_make ?_
      refine c_cons ?_
      refine c_cbE fun Q_71 hQ_71 => ?_
      refine c_args (va_cons (val_var rfl) va_nil) ?_
      refine (l_list (Q := Q_71) (LS.rd g r4) fun p72 ws73 H_74 e75 np76 ep77 rw78 => ?_)
      refine q_eq hQ_71 ?_
      have z80 := g.hnone np76
      have c_79 : Cel [] H S H_74 p72 (.lst ws73) := Cel.own g e75 np76 ep77 rfl
      replace g := g.ext e75
      refine c_nil ?_
      refine make_in fun p81 dx82 H_83 e84 np85 ep86 => ?_
      have ne90 := c_79.ne np85
      have z89 := g.hnone np85
      have c_88 : Cel [] H S H_83 p81 (.ins T.c.And dx82 []) := Cel.own g e84 np85 ep86 rfl
      replace c_79 := c_79.ext e84
      replace g := g.ext e84
      have gL98 : ∀ l ∈ [p81], H l = none ∨ l ∈ [] := (LM1 c_88.z LM0)
      refine ⟨S, _, _, _, _, _, rfl, g.sh, c_88.h, c_88.s, T.l_And, T.a_And_parts, (RdL.ofC c_79.h (NM1 (by first | assumption | exact Ne.symm (by assumption)) NM0) rw78), (OP.of h).mono fun v91 h S_92 H_93 w_95 gc94 hp97 r96 => ?_⟩
      replace c_79 := c_79.call gc94 (NM1 (by first | assumption | exact Ne.symm (by assumption)) NM0)
      replace r4 := RdL.mono gc94.ss r4
      replace rw78 := RL.mono gc94.ss rw78
      replace c_88 := c_88.mut gc94 hp97 rfl
      replace g := g.call gc94 gL98
      refine ⟨rfl, ?_⟩
      obtain ⟨S_99, g100, eS101, r102, ot103⟩ := fz_Formula_And (c := T.c) g c_88 z89 r96
      replace c_79 := ot103 _ _ (by first | assumption | exact Ne.symm (by assumption)) c_79
      replace r4 := RdL.mono eS101 r4
      replace rw78 := RL.mono eS101 rw78
      replace r96 := Rep.mono _ eS101 r96
      replace g := g100
      have h := OP.fin hA h
      exact h _ _ _ g r102

@[irreducible] def m_Formula_note (self1 : O_Formula) (seen4 : (List (Int × Bool))) : Option (List (Int × Bool)) :=
some seen4
abbrev s_Formula_note : Stmt := inClass (top 2) 2
abbrev sn_Formula_note : List Str := ["self", "seen"]
theorem sc_Formula_note : FnScope ["self", "seen"] ["self", "seen"] (defScope (s_Formula_note)) := ⟨rfl, rfl, rfl, by decide +kernel, rfl, by decide +kernel, by decide +kernel⟩
def p_Formula_note (K : PySem.W.Frag) (c : Cl) : Sp := fun vs H Q E => ∃ (S : Hp) (v2 : V) (self1 : O_Formula) (l5 : Addr) (ws6 : List (Key × V)) (seen4 : (List (Int × Bool))), vs = [v2, .ref l5] ∧ Same S H ∧ ((q_Formula (K := K) c)).R S v2 self1 ∧ H l5 = some (.dK ws6) ∧ S l5 = none ∧ KR V.bl ws6 seen4 ∧ OP (m_Formula_note self1 seen4) (fun r => ∀ (S' H' : Hp) (us0 : List (Key × V)), Grow [l5] S H S' H' → H' l5 = some (.dK us0) → KR V.bl us0 r → Q .non H')
theorem ok_Formula_note (T : Tx K mg) : FnOk P w K mg base CX0 1 T.f_Formula_note T.d_Formula_note ["self", "seen"] (p_Formula_note K T.c) := by
  refine T.F_Formula_note.ok sc_Formula_note (fun vs H Q E h => by obtain ⟨S, v2, self1, l5, ws6, seen4, rfl, _⟩ := h; rfl) (fun cdv A outer s H vs Q E hr h => ?_)
  obtain ⟨S, v2, self1, l5, ws6, seen4, rfl, gS, r3, h_7, h_8, r9, h⟩ := h
  obtain ⟨A_, hA⟩ : ∃ A_, A_ = (fun r : (List (Int × Bool)) => ∀ (S' H' : Hp) (us0 : List (Key × V)), Grow [l5] S H S' H' → H' l5 = some (.dK us0) → KR V.bl us0 r → Q .non H') := ⟨_, rfl⟩
  replace h : OP (m_Formula_note self1 seen4) A_ := hA ▸ h
  rw [m_Formula_note] at h
  refine ⟨_, (pss_cons (ps_ret pe_non)
      pss_nil), ?_⟩
  refine z_start (σ := [some v2, some (.ref l5)]) rfl ?_
  have g : Grow [l5] S H S H := Grow.refl gS
  have c_10 : Cel [l5] H S H l5 (.dK ws6) := ⟨h_7, h_8, .inr (.head _), rfl⟩
  refine z_ret val_c ?_
  have h := OP.fin hA h
  exact h _ _ _ g c_10.h r9

@[irreducible] def m_Lamp_note (self1 : O_Formula) (seen4 : (List (Int × Bool))) : Option (List (Int × Bool)) :=
(gf_Formula_at self1).bind fun y11 =>
grd (seen4.length < 16777216) <|
lt (putD seen4 y11 true) fun d13 =>
some d13
abbrev s_Lamp_note : Stmt := inClass (top 3) 3
abbrev sn_Lamp_note : List Str := ["self", "seen"]
theorem sc_Lamp_note : FnScope ["self", "seen"] ["self", "seen"] (defScope (s_Lamp_note)) := ⟨rfl, rfl, rfl, by decide +kernel, rfl, by decide +kernel, by decide +kernel⟩
def p_Lamp_note (K : PySem.W.Frag) (c : Cl) : Sp := fun vs H Q E => ∃ (S : Hp) (v2 : V) (self1 : O_Formula) (l5 : Addr) (ws6 : List (Key × V)) (seen4 : (List (Int × Bool))), vs = [v2, .ref l5] ∧ Same S H ∧ ((q_Formula (K := K) c)).R S v2 self1 ∧ H l5 = some (.dK ws6) ∧ S l5 = none ∧ KR V.bl ws6 seen4 ∧ OP (m_Lamp_note self1 seen4) (fun r => ∀ (S' H' : Hp) (us0 : List (Key × V)), Grow [l5] S H S' H' → H' l5 = some (.dK us0) → KR V.bl us0 r → Q .non H')
theorem ok_Lamp_note (T : Tx K mg) : FnOk P w K mg base CX0 1 T.f_Lamp_note T.d_Lamp_note ["self", "seen"] (p_Lamp_note K T.c) := by
  refine T.F_Lamp_note.ok sc_Lamp_note (fun vs H Q E h => by obtain ⟨S, v2, self1, l5, ws6, seen4, rfl, _⟩ := h; rfl) (fun cdv A outer s H vs Q E hr h => ?_)
  obtain ⟨S, v2, self1, l5, ws6, seen4, rfl, gS, r3, h_7, h_8, r9, h⟩ := h
  obtain ⟨A_, hA⟩ : ∃ A_, A_ = (fun r : (List (Int × Bool)) => ∀ (S' H' : Hp) (us0 : List (Key × V)), Grow [l5] S H S' H' → H' l5 = some (.dK us0) → KR V.bl us0 r → Q .non H') := ⟨_, rfl⟩
  replace h : OP (m_Lamp_note self1 seen4) A_ := hA ▸ h
  rw [m_Lamp_note] at h
  have hr0 : Room 0 _ := hr.mono (by decide)
  refine ⟨_, (pss_cons (ps_asg pe_bl (pg_sub (pe_var (i := 1) rfl (.inl rfl) rfl rfl) (pe_fld (pe_var (i := 0) rfl (.inl rfl) rfl rfl) rfl) (set_dict (Nat.lt_of_le_of_lt (Nat.add_le_add_left (show 1 ≤ 64 by decide) _) (hr0).units))))
      pss_nil), ?_⟩
  refine z_start (σ := [some v2, some (.ref l5)]) rfl ?_
  have g : Grow [l5] S H S H := Grow.refl gS
  have c_10 : Cel [l5] H S H l5 (.dK ws6) := ⟨h_7, h_8, .inr (.head _), rfl⟩
  refine z_asgE ?_
  refine c_val val_c ?_
  obtain ⟨y11, ey11, h⟩ := OP.bind h
  obtain ⟨g12, h⟩ := OP.grd h
  obtain ⟨d13, ed13, h⟩ := OP.lt h
  refine c_setD (vf := V.bl) (q := true) g c_10 r9 (val_var rfl) (vf_Formula_at T (val_var rfl) (Rep.mono _ g.sh r3) ey11) g12 fun ws14 H_15 g16 c_17 w_18 ot19 => ?_
  rw [ed13] at w_18
  replace g := g16
  refine z_next ?_
  have h := OP.fin hA h
  exact h _ _ _ g c_17.h w_18

@[irreducible] def mb_Joined_note (rec_D_Formula_note : O_Formula → (List (Int × Bool)) → Option (List (Int × Bool))) (self1 : O_Formula) (seen4 : (List (Int × Bool))) : Option (List (Int × Bool)) :=
(gf_Formula_parts self1).bind fun y11 =>
(forO (fun part13 seen25 =>
(rec_D_Formula_note part13 seen25).bind fun v32 =>
some v32) (y11) seen4).bind (fun seen25 =>
some seen25)
abbrev s_Joined_note : Stmt := inClass (top 6) 2
abbrev sn_Joined_note : List Str := ["self", "seen", "part"]
theorem sc_Joined_note : FnScope ["self", "seen", "part"] ["self", "seen"] (defScope (s_Joined_note)) := ⟨rfl, rfl, rfl, by decide +kernel, rfl, by decide +kernel, by decide +kernel⟩
def p_Joined_note (mir : O_Formula → (List (Int × Bool)) → Option (List (Int × Bool))) (K : PySem.W.Frag) (c : Cl) : Sp := fun vs H Q E => ∃ (S : Hp) (v2 : V) (self1 : O_Formula) (l5 : Addr) (ws6 : List (Key × V)) (seen4 : (List (Int × Bool))), vs = [v2, .ref l5] ∧ Same S H ∧ ((q_Formula (K := K) c)).R S v2 self1 ∧ H l5 = some (.dK ws6) ∧ S l5 = none ∧ KR V.bl ws6 seen4 ∧ OP (mir self1 seen4) (fun r => ∀ (S' H' : Hp) (us0 : List (Key × V)), Grow [l5] S H S' H' → H' l5 = some (.dK us0) → KR V.bl us0 r → Q .non H')
@[irreducible] def mb_Not_note (rec_D_Formula_note : O_Formula → (List (Int × Bool)) → Option (List (Int × Bool))) (self1 : O_Formula) (seen4 : (List (Int × Bool))) : Option (List (Int × Bool)) :=
(gf_Formula_part self1).bind fun y11 =>
(rec_D_Formula_note y11 seen4).bind fun v13 =>
some v13
abbrev s_Not_note : Stmt := inClass (top 5) 3
abbrev sn_Not_note : List Str := ["self", "seen"]
theorem sc_Not_note : FnScope ["self", "seen"] ["self", "seen"] (defScope (s_Not_note)) := ⟨rfl, rfl, rfl, by decide +kernel, rfl, by decide +kernel, by decide +kernel⟩
def p_Not_note (mir : O_Formula → (List (Int × Bool)) → Option (List (Int × Bool))) (K : PySem.W.Frag) (c : Cl) : Sp := fun vs H Q E => ∃ (S : Hp) (v2 : V) (self1 : O_Formula) (l5 : Addr) (ws6 : List (Key × V)) (seen4 : (List (Int × Bool))), vs = [v2, .ref l5] ∧ Same S H ∧ ((q_Formula (K := K) c)).R S v2 self1 ∧ H l5 = some (.dK ws6) ∧ S l5 = none ∧ KR V.bl ws6 seen4 ∧ OP (mir self1 seen4) (fun r => ∀ (S' H' : Hp) (us0 : List (Key × V)), Grow [l5] S H S' H' → H' l5 = some (.dK us0) → KR V.bl us0 r → Q .non H')
def mb_D_Formula_note (rec_D_Formula_note : O_Formula → (List (Int × Bool)) → Option (List (Int × Bool))) : O_Formula → (List (Int × Bool)) → Option (List (Int × Bool)) := fun x a1 => match x with
  | .Lamp .. => m_Lamp_note x a1
  | .Sure .. => m_Formula_note x a1
  | .Not .. => mb_Not_note rec_D_Formula_note x a1
  | .And .. => mb_Joined_note rec_D_Formula_note x a1
  | .Either .. => mb_Joined_note rec_D_Formula_note x a1
  | .Or .. => mb_Joined_note rec_D_Formula_note x a1
def pr_Formula_note (rec : O_Formula → (List (Int × Bool)) → Option (List (Int × Bool))) (i : Nat) (K : PySem.W.Frag) (c : Cl) : Sp := fun vs H Q E => ∃ (S : Hp) (v2 : V) (self1 : O_Formula) (l5 : Addr) (ws6 : List (Key × V)) (seen4 : (List (Int × Bool))), vs = [v2, .ref l5] ∧ Same S H ∧ ((q_Formula (K := K) c)).R S v2 self1 ∧ H l5 = some (.dK ws6) ∧ S l5 = none ∧ KR V.bl ws6 seen4 ∧ tag_Formula self1 = i ∧ OP (rec self1 seen4) (fun r => ∀ (S' H' : Hp) (us0 : List (Key × V)), Grow [l5] S H S' H' → H' l5 = some (.dK us0) → KR V.bl us0 r → Q .non H')
structure DOk_Formula_note (P : Program) (w : World) (base : Heap) (T : Tx K mg) (k : Nat) (rec : O_Formula → (List (Int × Bool)) → Option (List (Int × Bool))) : Prop where
  c_Lamp : FnOk P w K mg base CX0 k T.f_Lamp_note T.d_Lamp_note ["self", "seen"] (pr_Formula_note rec 0 K T.c)
  c_Sure : FnOk P w K mg base CX0 k T.f_Formula_note T.d_Formula_note ["self", "seen"] (pr_Formula_note rec 1 K T.c)
  c_Not : FnOk P w K mg base CX0 k T.f_Not_note T.d_Not_note ["self", "seen"] (pr_Formula_note rec 2 K T.c)
  c_And : FnOk P w K mg base CX0 k T.f_Joined_note T.d_Joined_note ["self", "seen"] (pr_Formula_note rec 3 K T.c)
  c_Either : FnOk P w K mg base CX0 k T.f_Joined_note T.d_Joined_note ["self", "seen"] (pr_Formula_note rec 4 K T.c)
  c_Or : FnOk P w K mg base CX0 k T.f_Joined_note T.d_Joined_note ["self", "seen"] (pr_Formula_note rec 5 K T.c)
theorem v_dp_Formula_note (T : Tx K mg) {rec : O_Formula → (List (Int × Bool)) → Option (List (Int × Bool))} {σ : L2.St} {H : Hp} {z v : V} {ta : TE} {t : TA} {x : O_Formula} {vs : List V} {E : XK} (ha : Val ta σ H v) (r : (q_Formula (K := K) T.c).R H v x) (ht : VA t σ H vs) (hs : ∀ i, tag_Formula x = i → ∀ Q : VK, Q z H → pr_Formula_note rec i K T.c (v :: (vs ++ [])) H Q E) : Val ((tAlt (tMeth T.c.Lamp "note" (pr_Formula_note rec 0 K T.c) [] E ta t) (tAlt (tMeth T.c.Sure "note" (pr_Formula_note rec 1 K T.c) [] E ta t) (tAlt (tMeth T.c.Not "note" (pr_Formula_note rec 2 K T.c) [] E ta t) (tAlt (tMeth T.c.And "note" (pr_Formula_note rec 3 K T.c) [] E ta t) (tAlt (tMeth T.c.Either "note" (pr_Formula_note rec 4 K T.c) [] E ta t) (tMeth T.c.Or "note" (pr_Formula_note rec 5 K T.c) [] E ta t))))))) σ H z := fun Q q => by
  cases r with
  | Lamp hp r0 => exact (Or.inl (c_meth ha ⟨_, _, _, rfl, hp, fun m hm => look_none (ns := ["at"]) rfl hm⟩ (m := "note") (by decide) (ht _ (hs 0 rfl Q q))))
  | Sure hp r0 => exact (Or.inr (Or.inl (c_meth ha ⟨_, _, _, rfl, hp, fun m hm => look_none (ns := ["truth"]) rfl hm⟩ (m := "note") (by decide) (ht _ (hs 1 rfl Q q)))))
  | Not hp r0 => exact (Or.inr (Or.inr (Or.inl (c_meth ha ⟨_, _, _, rfl, hp, fun m hm => look_none (ns := ["part"]) rfl hm⟩ (m := "note") (by decide) (ht _ (hs 2 rfl Q q))))))
  | And hp ha0 r0 => exact (Or.inr (Or.inr (Or.inr (Or.inl (c_meth ha ⟨_, _, _, rfl, hp, fun m hm => look_none (ns := ["parts"]) rfl hm⟩ (m := "note") (by decide) (ht _ (hs 3 rfl Q q)))))))
  | Either hp ha0 r0 => exact (Or.inr (Or.inr (Or.inr (Or.inr (Or.inl (c_meth ha ⟨_, _, _, rfl, hp, fun m hm => look_none (ns := ["parts"]) rfl hm⟩ (m := "note") (by decide) (ht _ (hs 4 rfl Q q))))))))
  | Or hp ha0 r0 => exact (Or.inr (Or.inr (Or.inr (Or.inr (Or.inr (c_meth ha ⟨_, _, _, rfl, hp, fun m hm => look_none (ns := ["parts"]) rfl hm⟩ (m := "note") (by decide) (ht _ (hs 5 rfl Q q))))))))
theorem dp_Formula_note (T : Tx K mg) {rec : O_Formula → (List (Int × Bool)) → Option (List (Int × Bool))} {σ : L2.St} {S H : Hp} {v : V} {ta : TE} {t : TA} {x : O_Formula} {Q : VK} {E : XK} (e : Same S H) (ha : Val ta σ H v) (r : (q_Formula (K := K) T.c).R S v x) (k : ∀ i, tag_Formula x = i → t σ H fun vs H2 => pr_Formula_note rec i K T.c (v :: (vs ++ [])) H2 Q E) : ((tAlt (tMeth T.c.Lamp "note" (pr_Formula_note rec 0 K T.c) [] E ta t) (tAlt (tMeth T.c.Sure "note" (pr_Formula_note rec 1 K T.c) [] E ta t) (tAlt (tMeth T.c.Not "note" (pr_Formula_note rec 2 K T.c) [] E ta t) (tAlt (tMeth T.c.And "note" (pr_Formula_note rec 3 K T.c) [] E ta t) (tAlt (tMeth T.c.Either "note" (pr_Formula_note rec 4 K T.c) [] E ta t) (tMeth T.c.Or "note" (pr_Formula_note rec 5 K T.c) [] E ta t))))))) σ H Q := by
  cases r with
  | Lamp hp r0 => exact (Or.inl (c_meth ha ⟨_, _, _, rfl, e _ _ hp, fun m hm => look_none (ns := ["at"]) rfl hm⟩ (m := "note") (by decide) (k 0 rfl)))
  | Sure hp r0 => exact (Or.inr (Or.inl (c_meth ha ⟨_, _, _, rfl, e _ _ hp, fun m hm => look_none (ns := ["truth"]) rfl hm⟩ (m := "note") (by decide) (k 1 rfl))))
  | Not hp r0 => exact (Or.inr (Or.inr (Or.inl (c_meth ha ⟨_, _, _, rfl, e _ _ hp, fun m hm => look_none (ns := ["part"]) rfl hm⟩ (m := "note") (by decide) (k 2 rfl)))))
  | And hp ha0 r0 => exact (Or.inr (Or.inr (Or.inr (Or.inl (c_meth ha ⟨_, _, _, rfl, e _ _ hp, fun m hm => look_none (ns := ["parts"]) rfl hm⟩ (m := "note") (by decide) (k 3 rfl))))))
  | Either hp ha0 r0 => exact (Or.inr (Or.inr (Or.inr (Or.inr (Or.inl (c_meth ha ⟨_, _, _, rfl, e _ _ hp, fun m hm => look_none (ns := ["parts"]) rfl hm⟩ (m := "note") (by decide) (k 4 rfl)))))))
  | Or hp ha0 r0 => exact (Or.inr (Or.inr (Or.inr (Or.inr (Or.inr (c_meth ha ⟨_, _, _, rfl, e _ _ hp, fun m hm => look_none (ns := ["parts"]) rfl hm⟩ (m := "note") (by decide) (k 5 rfl)))))))
theorem ok_Joined_note (T : Tx K mg) {k : Nat} (hk : 1 ≤ k) {rec_D_Formula_note : O_Formula → (List (Int × Bool)) → Option (List (Int × Bool))} (hrec_D_Formula_note : DOk_Formula_note P w base T (k) (rec_D_Formula_note)) : FnOk P w K mg base CX0 (k + 1) T.f_Joined_note T.d_Joined_note ["self", "seen"] (p_Joined_note (mb_Joined_note rec_D_Formula_note) K T.c) := by
  refine T.F_Joined_note.ok sc_Joined_note (fun vs H Q E h => by obtain ⟨S, v2, self1, l5, ws6, seen4, rfl, _⟩ := h; rfl) (fun cdv A outer s H vs Q E hr h => ?_)
  obtain ⟨S, v2, self1, l5, ws6, seen4, rfl, gS, r3, h_7, h_8, r9, h⟩ := h
  obtain ⟨A_, hA⟩ : ∃ A_, A_ = (fun r : (List (Int × Bool)) => ∀ (S' H' : Hp) (us0 : List (Key × V)), Grow [l5] S H S' H' → H' l5 = some (.dK us0) → KR V.bl us0 r → Q .non H') := ⟨_, rfl⟩
  replace h : OP (mb_Joined_note rec_D_Formula_note self1 seen4) A_ := hA ▸ h
  rw [mb_Joined_note] at h
  refine ⟨_, (pss_cons (ps_for PassesOwn.never rfl (pi_list (pe_fld (pe_var (i := 0) rfl (.inl rfl) rfl rfl) rfl)) (pg_name (i := 2) sc_Joined_note.nd rfl (.inl rfl)) (pss_cons (ps_expr (pe_alt (pe_meth (pe_var (i := 2) rfl (.inl rfl) rfl rfl) T.l_Lamp T.t_Lamp_note hrec_D_Formula_note.c_Lamp hr T.b_Lamp_note .nil pass0 (pa_cons (pe_var (i := 1) rfl (.inl rfl) rfl rfl) pa_nil)) (pe_alt (pe_meth (pe_var (i := 2) rfl (.inl rfl) rfl rfl) T.l_Sure T.t_Sure_note hrec_D_Formula_note.c_Sure hr T.b_Formula_note .nil pass0 (pa_cons (pe_var (i := 1) rfl (.inl rfl) rfl rfl) pa_nil)) (pe_alt (pe_meth (pe_var (i := 2) rfl (.inl rfl) rfl rfl) T.l_Not T.t_Not_note hrec_D_Formula_note.c_Not hr T.b_Not_note .nil pass0 (pa_cons (pe_var (i := 1) rfl (.inl rfl) rfl rfl) pa_nil)) (pe_alt (pe_meth (pe_var (i := 2) rfl (.inl rfl) rfl rfl) T.l_And T.t_And_note hrec_D_Formula_note.c_And hr T.b_Joined_note .nil pass0 (pa_cons (pe_var (i := 1) rfl (.inl rfl) rfl rfl) pa_nil)) (pe_alt (pe_meth (pe_var (i := 2) rfl (.inl rfl) rfl rfl) T.l_Either T.t_Either_note hrec_D_Formula_note.c_Either hr T.b_Joined_note .nil pass0 (pa_cons (pe_var (i := 1) rfl (.inl rfl) rfl rfl) pa_nil)) (pe_meth (pe_var (i := 2) rfl (.inl rfl) rfl rfl) T.l_Or T.t_Or_note hrec_D_Formula_note.c_Or hr T.b_Joined_note .nil pass0 (pa_cons (pe_var (i := 1) rfl (.inl rfl) rfl rfl) pa_nil))))))))
      pss_nil))
      pss_nil), ?_⟩
  refine z_start (σ := [some v2, some (.ref l5), none]) rfl ?_
  have g : Grow [l5] S H S H := Grow.refl gS
  have c_10 : Cel [l5] H S H l5 (.dK ws6) := ⟨h_7, h_8, .inr (.head _), rfl⟩
  obtain ⟨y11, ey11, h⟩ := OP.bind h
  obtain ⟨w_12, hw_12, rw_12⟩ := vf_Formula_parts T g.sh r3 ey11
  obtain ⟨B16, h, hB17⟩ := OP.cut h
  obtain ⟨F18, hF19, h⟩ := OP.nameO h
  obtain ⟨q30a, q30w, q30e, q30h, q30p⟩ := id (qL_qQ rw_12)
  refine z_forL (v_eq (hw_12 (val_var rfl)) q30e) q30p (fun ys21 σ' H' => ∃ (ws22 : List (Key × V)) (seen25 : (List (Int × Bool))) (u26 : Option V) (S_27 : Hp), σ' = [some v2, some (.ref l5), u26] ∧ Grow [l5] S H S_27 H' ∧ Same S S_27 ∧ Cel [l5] H S_27 H' l5 (.dK ws22) ∧ KR V.bl ws22 seen25 ∧ OP (forO F18 ys21 seen25) B16) ⟨_, _, _, _, rfl, g, (Same.refl _), c_10, r9, h⟩ (fun ys σ' H' p => by obtain ⟨ws22, seen25, u26, S_27, rfl, gN, eS29, c_23N, r24N, h⟩ := p; exact (eS29.trans gN.sh).seq q30h) (fun w_14 part13 ys21 σ' H_28 rw15 p N hN20 => ?_) ?_
  · obtain ⟨ws22, seen25, u26, S_27, rfl, gN, eS29, c_23N, r24N, h⟩ := p
    replace g := gN
    have c_23 := c_23N
    have r24 := r24N
    replace r3 := Rep.mono _ eS29 r3
    replace h := OP.forO h
    replace h := OP.fcall2 hF19 h
    have rx31 := Rep.mono _ eS29 rw15
    refine g_name (σ' := [some v2, some (.ref l5), some w_14]) rfl ?_
    refine z_dropE ?_
    refine dp_Formula_note T g.sh (val_var rfl) rx31 fun i_ hi_ => ?_
    refine c_args (va_cons (val_var rfl) va_nil) ?_
    have gL39 : ∀ l ∈ [l5], H l = none ∨ l ∈ [l5] := (LM1 c_23.z LM0)
    refine ⟨S_27, _, _, _, _, _, rfl, g.sh, rx31, c_23.h, c_23.s, r24, hi_, (OP.of h).mono fun v32 h S_33 H_34 ws36 gc35 hp37 wf38 => ?_⟩
    replace r3 := Rep.mono _ gc35.ss r3
    replace rx31 := Rep.mono _ gc35.ss rx31
    replace eS29 := eS29.trans gc35.ss
    replace c_23 := c_23.mut gc35 hp37 rfl
    replace g := g.call gc35 gL39
    refine z_next ?_
    exact hN20 _ _ ⟨_, _, _, _, rfl, g, eS29, c_23, wf38, h⟩
  · intro σ' H_28 p
    obtain ⟨ws22, seen25, u26, S_27, rfl, gN, eS29, c_23N, r24N, h⟩ := p
    replace g := gN
    have c_23 := c_23N
    have r24 := r24N
    replace r3 := Rep.mono _ eS29 r3
    replace h := hB17 _ (OP.forO_nil h)
    refine z_next ?_
    have h := OP.fin hA h
    exact h _ _ _ g c_23.h r24
theorem ok_Not_note (T : Tx K mg) {k : Nat} (hk : 1 ≤ k) {rec_D_Formula_note : O_Formula → (List (Int × Bool)) → Option (List (Int × Bool))} (hrec_D_Formula_note : DOk_Formula_note P w base T (k) (rec_D_Formula_note)) : FnOk P w K mg base CX0 (k + 1) T.f_Not_note T.d_Not_note ["self", "seen"] (p_Not_note (mb_Not_note rec_D_Formula_note) K T.c) := by
  refine T.F_Not_note.ok sc_Not_note (fun vs H Q E h => by obtain ⟨S, v2, self1, l5, ws6, seen4, rfl, _⟩ := h; rfl) (fun cdv A outer s H vs Q E hr h => ?_)
  obtain ⟨S, v2, self1, l5, ws6, seen4, rfl, gS, r3, h_7, h_8, r9, h⟩ := h
  obtain ⟨A_, hA⟩ : ∃ A_, A_ = (fun r : (List (Int × Bool)) => ∀ (S' H' : Hp) (us0 : List (Key × V)), Grow [l5] S H S' H' → H' l5 = some (.dK us0) → KR V.bl us0 r → Q .non H') := ⟨_, rfl⟩
  replace h : OP (mb_Not_note rec_D_Formula_note self1 seen4) A_ := hA ▸ h
  rw [mb_Not_note] at h
  refine ⟨_, (pss_cons (ps_expr (pe_alt (pe_meth (pe_fld (pe_var (i := 0) rfl (.inl rfl) rfl rfl) rfl) T.l_Lamp T.t_Lamp_note hrec_D_Formula_note.c_Lamp hr T.b_Lamp_note .nil pass0 (pa_cons (pe_var (i := 1) rfl (.inl rfl) rfl rfl) pa_nil)) (pe_alt (pe_meth (pe_fld (pe_var (i := 0) rfl (.inl rfl) rfl rfl) rfl) T.l_Sure T.t_Sure_note hrec_D_Formula_note.c_Sure hr T.b_Formula_note .nil pass0 (pa_cons (pe_var (i := 1) rfl (.inl rfl) rfl rfl) pa_nil)) (pe_alt (pe_meth (pe_fld (pe_var (i := 0) rfl (.inl rfl) rfl rfl) rfl) T.l_Not T.t_Not_note hrec_D_Formula_note.c_Not hr T.b_Not_note .nil pass0 (pa_cons (pe_var (i := 1) rfl (.inl rfl) rfl rfl) pa_nil)) (pe_alt (pe_meth (pe_fld (pe_var (i := 0) rfl (.inl rfl) rfl rfl) rfl) T.l_And T.t_And_note hrec_D_Formula_note.c_And hr T.b_Joined_note .nil pass0 (pa_cons (pe_var (i := 1) rfl (.inl rfl) rfl rfl) pa_nil)) (pe_alt (pe_meth (pe_fld (pe_var (i := 0) rfl (.inl rfl) rfl rfl) rfl) T.l_Either T.t_Either_note hrec_D_Formula_note.c_Either hr T.b_Joined_note .nil pass0 (pa_cons (pe_var (i := 1) rfl (.inl rfl) rfl rfl) pa_nil)) (pe_meth (pe_fld (pe_var (i := 0) rfl (.inl rfl) rfl rfl) rfl) T.l_Or T.t_Or_note hrec_D_Formula_note.c_Or hr T.b_Joined_note .nil pass0 (pa_cons (pe_var (i := 1) rfl (.inl rfl) rfl rfl) pa_nil))))))))
      pss_nil), ?_⟩
  refine z_start (σ := [some v2, some (.ref l5)]) rfl ?_
  have g : Grow [l5] S H S H := Grow.refl gS
  have c_10 : Cel [l5] H S H l5 (.dK ws6) := ⟨h_7, h_8, .inr (.head _), rfl⟩
  refine z_dropE ?_
  obtain ⟨y11, ey11, h⟩ := OP.bind h
  obtain ⟨w_12, hw_12, rw_12⟩ := vf_Formula_part T g.sh r3 ey11
  refine dp_Formula_note T g.sh (hw_12 (val_var rfl)) rw_12 fun i_ hi_ => ?_
  refine c_args (va_cons (val_var rfl) va_nil) ?_
  have gL20 : ∀ l ∈ [l5], H l = none ∨ l ∈ [l5] := (LM1 c_10.z LM0)
  refine ⟨S, _, _, _, _, _, rfl, g.sh, rw_12, c_10.h, c_10.s, r9, hi_, (OP.of h).mono fun v13 h S_14 H_15 ws17 gc16 hp18 wf19 => ?_⟩
  replace r3 := Rep.mono _ gc16.ss r3
  replace rw_12 := Rep.mono _ gc16.ss rw_12
  replace c_10 := c_10.mut gc16 hp18 rfl
  replace g := g.call gc16 gL20
  refine z_next ?_
  have h := OP.fin hA h
  exact h _ _ _ g c_10.h wf19
def mf_D_Formula_note : Nat → (O_Formula → (List (Int × Bool)) → Option (List (Int × Bool)))
  | 0 => (fun _ _ => none)
  | n + 1 => (mb_D_Formula_note ((mf_D_Formula_note n)))
@[irreducible] def m_D_Formula_note : O_Formula → (List (Int × Bool)) → Option (List (Int × Bool)) := (mf_D_Formula_note 100)
theorem okF_D_Formula_note (T : Tx K mg) : ∀ n : Nat, (DOk_Formula_note P w base T (1 + n) ((mf_D_Formula_note n)))
  | 0 => ⟨fn_none fun vs H Q E h => by obtain ⟨S, v2, self1, l5, ws6, seen4, rfl, gS, r3, h_7, h_8, r9, ht, h⟩ := h; exact h.elim, fn_none fun vs H Q E h => by obtain ⟨S, v2, self1, l5, ws6, seen4, rfl, gS, r3, h_7, h_8, r9, ht, h⟩ := h; exact h.elim, fn_none fun vs H Q E h => by obtain ⟨S, v2, self1, l5, ws6, seen4, rfl, gS, r3, h_7, h_8, r9, ht, h⟩ := h; exact h.elim, fn_none fun vs H Q E h => by obtain ⟨S, v2, self1, l5, ws6, seen4, rfl, gS, r3, h_7, h_8, r9, ht, h⟩ := h; exact h.elim, fn_none fun vs H Q E h => by obtain ⟨S, v2, self1, l5, ws6, seen4, rfl, gS, r3, h_7, h_8, r9, ht, h⟩ := h; exact h.elim, fn_none fun vs H Q E h => by obtain ⟨S, v2, self1, l5, ws6, seen4, rfl, gS, r3, h_7, h_8, r9, ht, h⟩ := h; exact h.elim⟩
  | n + 1 => by
    have ih := okF_D_Formula_note T n
    have hk : 1 ≤ 1 + n := Nat.le_add_right _ _
    have st_D_Formula_note : DOk_Formula_note P w base T (1 + n + 1) (mb_D_Formula_note ((mf_D_Formula_note n))) := {
      c_Lamp := ((ok_Lamp_note T).mono (by omega)).imp fun vs H Q E q => by
        obtain ⟨S, v2, self1, l5, ws6, seen4, rfl, gS, r3, h_7, h_8, r9, ht, h⟩ := q
        cases self1 with
        | Lamp => exact ⟨_, _, _, _, _, _, rfl, gS, r3, h_7, h_8, r9, h⟩
        | _ => cases ht
      c_Sure := ((ok_Formula_note T).mono (by omega)).imp fun vs H Q E q => by
        obtain ⟨S, v2, self1, l5, ws6, seen4, rfl, gS, r3, h_7, h_8, r9, ht, h⟩ := q
        cases self1 with
        | Sure => exact ⟨_, _, _, _, _, _, rfl, gS, r3, h_7, h_8, r9, h⟩
        | _ => cases ht
      c_Not := ((ok_Not_note T hk ih).mono (by omega)).imp fun vs H Q E q => by
        obtain ⟨S, v2, self1, l5, ws6, seen4, rfl, gS, r3, h_7, h_8, r9, ht, h⟩ := q
        cases self1 with
        | Not => exact ⟨_, _, _, _, _, _, rfl, gS, r3, h_7, h_8, r9, h⟩
        | _ => cases ht
      c_And := ((ok_Joined_note T hk ih).mono (by omega)).imp fun vs H Q E q => by
        obtain ⟨S, v2, self1, l5, ws6, seen4, rfl, gS, r3, h_7, h_8, r9, ht, h⟩ := q
        cases self1 with
        | And => exact ⟨_, _, _, _, _, _, rfl, gS, r3, h_7, h_8, r9, h⟩
        | _ => cases ht
      c_Either := ((ok_Joined_note T hk ih).mono (by omega)).imp fun vs H Q E q => by
        obtain ⟨S, v2, self1, l5, ws6, seen4, rfl, gS, r3, h_7, h_8, r9, ht, h⟩ := q
        cases self1 with
        | Either => exact ⟨_, _, _, _, _, _, rfl, gS, r3, h_7, h_8, r9, h⟩
        | _ => cases ht
      c_Or := ((ok_Joined_note T hk ih).mono (by omega)).imp fun vs H Q E q => by
        obtain ⟨S, v2, self1, l5, ws6, seen4, rfl, gS, r3, h_7, h_8, r9, ht, h⟩ := q
        cases self1 with
        | Or => exact ⟨_, _, _, _, _, _, rfl, gS, r3, h_7, h_8, r9, h⟩
        | _ => cases ht
    }
    exact st_D_Formula_note
theorem okD_Formula_note (T : Tx K mg) : DOk_Formula_note P w base T (101) (m_D_Formula_note) := by
  unfold m_D_Formula_note
  exact (okF_D_Formula_note T 100)

@[irreducible] def m_Formula_lamps (self1 : O_Formula) : Option (List Int) :=
(m_D_Formula_note self1 ([] : (List (Int × Bool)))).bind fun v13 =>
some (sortI (v13.map (·.1)))
abbrev s_Formula_lamps : Stmt := inClass (top 2) 5
abbrev sn_Formula_lamps : List Str := ["self", "seen"]
theorem sc_Formula_lamps : FnScope ["self", "seen"] ["self"] (defScope (s_Formula_lamps)) := ⟨rfl, rfl, rfl, by decide +kernel, rfl, by decide +kernel, by decide +kernel⟩
def p_Formula_lamps (K : PySem.W.Frag) (c : Cl) : Sp := fun vs H Q E => ∃ (S : Hp) (v2 : V) (self1 : O_Formula), vs = [v2] ∧ Same S H ∧ ((q_Formula (K := K) c)).R S v2 self1 ∧ OP (m_Formula_lamps self1) (fun r => ∀ (S' H' : Hp) (p : Addr) (ws : List V), Grow [] S H S' H' → H p = none → H' p = some (.lst ws) → S' p = none → RL (qI (K := K)) S' ws r → Q (.ref p) H')
theorem ok_Formula_lamps (T : Tx K mg) : FnOk P w K mg base CX0 102 T.f_Formula_lamps T.d_Formula_lamps ["self"] (p_Formula_lamps K T.c) := by
  refine T.F_Formula_lamps.ok sc_Formula_lamps (fun vs H Q E h => by obtain ⟨S, v2, self1, rfl, _⟩ := h; rfl) (fun cdv A outer s H vs Q E hr h => ?_)
  obtain ⟨S, v2, self1, rfl, gS, r3, h⟩ := h
  obtain ⟨A_, hA⟩ : ∃ A_, A_ = (fun r : (List Int) => ∀ (S' H' : Hp) (p : Addr) (ws : List V), Grow [] S H S' H' → H p = none → H' p = some (.lst ws) → S' p = none → RL (qI (K := K)) S' ws r → Q (.ref p) H') := ⟨_, rfl⟩
  replace h : OP (m_Formula_lamps self1) A_ := hA ▸ h
  rw [m_Formula_lamps] at h
  have hr101 : Room 101 _ := hr.mono (by decide)
  refine ⟨_, (pss_cons (ps_set (i := 1) sc_Formula_lamps.nd rfl (.inl rfl) pe_dnewK)
      (pss_cons (ps_expr (pe_alt (pe_meth (pe_var (i := 0) rfl (.inl rfl) rfl rfl) T.l_Lamp T.t_Lamp_note (okD_Formula_note T).c_Lamp hr101 T.b_Lamp_note .nil pass0 (pa_cons (pe_var (i := 1) rfl (.inl rfl) rfl rfl) pa_nil)) (pe_alt (pe_meth (pe_var (i := 0) rfl (.inl rfl) rfl rfl) T.l_Sure T.t_Sure_note (okD_Formula_note T).c_Sure hr101 T.b_Formula_note .nil pass0 (pa_cons (pe_var (i := 1) rfl (.inl rfl) rfl rfl) pa_nil)) (pe_alt (pe_meth (pe_var (i := 0) rfl (.inl rfl) rfl rfl) T.l_Not T.t_Not_note (okD_Formula_note T).c_Not hr101 T.b_Not_note .nil pass0 (pa_cons (pe_var (i := 1) rfl (.inl rfl) rfl rfl) pa_nil)) (pe_alt (pe_meth (pe_var (i := 0) rfl (.inl rfl) rfl rfl) T.l_And T.t_And_note (okD_Formula_note T).c_And hr101 T.b_Joined_note .nil pass0 (pa_cons (pe_var (i := 1) rfl (.inl rfl) rfl rfl) pa_nil)) (pe_alt (pe_meth (pe_var (i := 0) rfl (.inl rfl) rfl rfl) T.l_Either T.t_Either_note (okD_Formula_note T).c_Either hr101 T.b_Joined_note .nil pass0 (pa_cons (pe_var (i := 1) rfl (.inl rfl) rfl rfl) pa_nil)) (pe_meth (pe_var (i := 0) rfl (.inl rfl) rfl rfl) T.l_Or T.t_Or_note (okD_Formula_note T).c_Or hr101 T.b_Joined_note .nil pass0 (pa_cons (pe_var (i := 1) rfl (.inl rfl) rfl rfl) pa_nil))))))))
      (pss_cons (ps_ret (show PE _ _ (tSortKeys _) from pe_sortedKeys rfl rfl T.n_sorted (pe_var (i := 1) rfl (.inl rfl) rfl rfl)))
      pss_nil))), ?_⟩
  refine z_start (σ := [some v2, none]) rfl ?_
  have g : Grow [] S H S H := Grow.refl gS
  refine z_setE ?_
  refine c_dnE fun Q_4 hQ_4 => ?_
  refine c_newdK fun p5 H_6 e7 np8 ep9 => ?_
  refine q_eq hQ_4 ?_
  have z11 := g.hnone np8
  have c_10 : Cel [] H S H_6 p5 (.dK []) := Cel.own g e7 np8 ep9 rfl
  have w_12 : KR V.bl [] [] := KR.nil
  replace g := g.ext e7
  refine g_name (σ' := [some v2, some (.ref p5)]) rfl ?_
  refine z_dropE ?_
  refine dp_Formula_note T g.sh (val_var rfl) r3 fun i_ hi_ => ?_
  refine c_args (va_cons (val_var rfl) va_nil) ?_
  have gL20 : ∀ l ∈ [p5], H l = none ∨ l ∈ [] := (LM1 c_10.z LM0)
  refine ⟨S, _, _, _, _, _, rfl, g.sh, r3, c_10.h, c_10.s, w_12, hi_, (OP.of h).mono fun v13 h S_14 H_15 ws17 gc16 hp18 wf19 => ?_⟩
  replace r3 := Rep.mono _ gc16.ss r3
  replace c_10 := c_10.mut gc16 hp18 rfl
  replace g := g.call gc16 gL20
  refine z_retE ?_
  refine c_skE fun Q_21 hQ_21 => ?_
  refine (l_sortKeys (K := K) (Q := Q_21) (val_var rfl) c_10 wf19 fun p22 ws23 H_24 e25 np26 ep27 rw28 => ?_)
  refine q_eq hQ_21 ?_
  have ne31 := c_10.ne np26
  have z30 := g.hnone np26
  have c_29 : Cel [] H S_14 H_24 p22 (.lst ws23) := Cel.own g e25 np26 ep27 rfl
  replace c_10 := c_10.ext e25
  replace g := g.ext e25
  have h := OP.fin hA h
  exact h _ _ _ _ g z30 c_29.h c_29.s rw28

def m_D_Formula_lamps : O_Formula → Option (List Int) := fun x => match x with
  | .Lamp .. => m_Formula_lamps x
  | .Sure .. => m_Formula_lamps x
  | .Not .. => m_Formula_lamps x
  | .And .. => m_Formula_lamps x
  | .Either .. => m_Formula_lamps x
  | .Or .. => m_Formula_lamps x
def pr_Formula_lamps (rec : O_Formula → Option (List Int)) (i : Nat) (K : PySem.W.Frag) (c : Cl) : Sp := fun vs H Q E => ∃ (S : Hp) (v2 : V) (self1 : O_Formula), vs = [v2] ∧ Same S H ∧ ((q_Formula (K := K) c)).R S v2 self1 ∧ tag_Formula self1 = i ∧ OP (rec self1) (fun r => ∀ (S' H' : Hp) (p : Addr) (ws : List V), Grow [] S H S' H' → H p = none → H' p = some (.lst ws) → S' p = none → RL (qI (K := K)) S' ws r → Q (.ref p) H')
structure DOk_Formula_lamps (P : Program) (w : World) (base : Heap) (T : Tx K mg) (k : Nat) (rec : O_Formula → Option (List Int)) : Prop where
  c_Lamp : FnOk P w K mg base CX0 k T.f_Formula_lamps T.d_Formula_lamps ["self"] (pr_Formula_lamps rec 0 K T.c)
  c_Sure : FnOk P w K mg base CX0 k T.f_Formula_lamps T.d_Formula_lamps ["self"] (pr_Formula_lamps rec 1 K T.c)
  c_Not : FnOk P w K mg base CX0 k T.f_Formula_lamps T.d_Formula_lamps ["self"] (pr_Formula_lamps rec 2 K T.c)
  c_And : FnOk P w K mg base CX0 k T.f_Formula_lamps T.d_Formula_lamps ["self"] (pr_Formula_lamps rec 3 K T.c)
  c_Either : FnOk P w K mg base CX0 k T.f_Formula_lamps T.d_Formula_lamps ["self"] (pr_Formula_lamps rec 4 K T.c)
  c_Or : FnOk P w K mg base CX0 k T.f_Formula_lamps T.d_Formula_lamps ["self"] (pr_Formula_lamps rec 5 K T.c)
theorem v_dp_Formula_lamps (T : Tx K mg) {rec : O_Formula → Option (List Int)} {σ : L2.St} {H : Hp} {z v : V} {ta : TE} {t : TA} {x : O_Formula} {vs : List V} {E : XK} (ha : Val ta σ H v) (r : (q_Formula (K := K) T.c).R H v x) (ht : VA t σ H vs) (hs : ∀ i, tag_Formula x = i → ∀ Q : VK, Q z H → pr_Formula_lamps rec i K T.c (v :: (vs ++ [])) H Q E) : Val ((tAlt (tMeth T.c.Lamp "lamps" (pr_Formula_lamps rec 0 K T.c) [] E ta t) (tAlt (tMeth T.c.Sure "lamps" (pr_Formula_lamps rec 1 K T.c) [] E ta t) (tAlt (tMeth T.c.Not "lamps" (pr_Formula_lamps rec 2 K T.c) [] E ta t) (tAlt (tMeth T.c.And "lamps" (pr_Formula_lamps rec 3 K T.c) [] E ta t) (tAlt (tMeth T.c.Either "lamps" (pr_Formula_lamps rec 4 K T.c) [] E ta t) (tMeth T.c.Or "lamps" (pr_Formula_lamps rec 5 K T.c) [] E ta t))))))) σ H z := fun Q q => by
  cases r with
  | Lamp hp r0 => exact (Or.inl (c_meth ha ⟨_, _, _, rfl, hp, fun m hm => look_none (ns := ["at"]) rfl hm⟩ (m := "lamps") (by decide) (ht _ (hs 0 rfl Q q))))
  | Sure hp r0 => exact (Or.inr (Or.inl (c_meth ha ⟨_, _, _, rfl, hp, fun m hm => look_none (ns := ["truth"]) rfl hm⟩ (m := "lamps") (by decide) (ht _ (hs 1 rfl Q q)))))
  | Not hp r0 => exact (Or.inr (Or.inr (Or.inl (c_meth ha ⟨_, _, _, rfl, hp, fun m hm => look_none (ns := ["part"]) rfl hm⟩ (m := "lamps") (by decide) (ht _ (hs 2 rfl Q q))))))
  | And hp ha0 r0 => exact (Or.inr (Or.inr (Or.inr (Or.inl (c_meth ha ⟨_, _, _, rfl, hp, fun m hm => look_none (ns := ["parts"]) rfl hm⟩ (m := "lamps") (by decide) (ht _ (hs 3 rfl Q q)))))))
  | Either hp ha0 r0 => exact (Or.inr (Or.inr (Or.inr (Or.inr (Or.inl (c_meth ha ⟨_, _, _, rfl, hp, fun m hm => look_none (ns := ["parts"]) rfl hm⟩ (m := "lamps") (by decide) (ht _ (hs 4 rfl Q q))))))))
  | Or hp ha0 r0 => exact (Or.inr (Or.inr (Or.inr (Or.inr (Or.inr (c_meth ha ⟨_, _, _, rfl, hp, fun m hm => look_none (ns := ["parts"]) rfl hm⟩ (m := "lamps") (by decide) (ht _ (hs 5 rfl Q q))))))))
theorem dp_Formula_lamps (T : Tx K mg) {rec : O_Formula → Option (List Int)} {σ : L2.St} {S H : Hp} {v : V} {ta : TE} {t : TA} {x : O_Formula} {Q : VK} {E : XK} (e : Same S H) (ha : Val ta σ H v) (r : (q_Formula (K := K) T.c).R S v x) (k : ∀ i, tag_Formula x = i → t σ H fun vs H2 => pr_Formula_lamps rec i K T.c (v :: (vs ++ [])) H2 Q E) : ((tAlt (tMeth T.c.Lamp "lamps" (pr_Formula_lamps rec 0 K T.c) [] E ta t) (tAlt (tMeth T.c.Sure "lamps" (pr_Formula_lamps rec 1 K T.c) [] E ta t) (tAlt (tMeth T.c.Not "lamps" (pr_Formula_lamps rec 2 K T.c) [] E ta t) (tAlt (tMeth T.c.And "lamps" (pr_Formula_lamps rec 3 K T.c) [] E ta t) (tAlt (tMeth T.c.Either "lamps" (pr_Formula_lamps rec 4 K T.c) [] E ta t) (tMeth T.c.Or "lamps" (pr_Formula_lamps rec 5 K T.c) [] E ta t))))))) σ H Q := by
  cases r with
  | Lamp hp r0 => exact (Or.inl (c_meth ha ⟨_, _, _, rfl, e _ _ hp, fun m hm => look_none (ns := ["at"]) rfl hm⟩ (m := "lamps") (by decide) (k 0 rfl)))
  | Sure hp r0 => exact (Or.inr (Or.inl (c_meth ha ⟨_, _, _, rfl, e _ _ hp, fun m hm => look_none (ns := ["truth"]) rfl hm⟩ (m := "lamps") (by decide) (k 1 rfl))))
  | Not hp r0 => exact (Or.inr (Or.inr (Or.inl (c_meth ha ⟨_, _, _, rfl, e _ _ hp, fun m hm => look_none (ns := ["part"]) rfl hm⟩ (m := "lamps") (by decide) (k 2 rfl)))))
  | And hp ha0 r0 => exact (Or.inr (Or.inr (Or.inr (Or.inl (c_meth ha ⟨_, _, _, rfl, e _ _ hp, fun m hm => look_none (ns := ["parts"]) rfl hm⟩ (m := "lamps") (by decide) (k 3 rfl))))))
  | Either hp ha0 r0 => exact (Or.inr (Or.inr (Or.inr (Or.inr (Or.inl (c_meth ha ⟨_, _, _, rfl, e _ _ hp, fun m hm => look_none (ns := ["parts"]) rfl hm⟩ (m := "lamps") (by decide) (k 4 rfl)))))))
  | Or hp ha0 r0 => exact (Or.inr (Or.inr (Or.inr (Or.inr (Or.inr (c_meth ha ⟨_, _, _, rfl, e _ _ hp, fun m hm => look_none (ns := ["parts"]) rfl hm⟩ (m := "lamps") (by decide) (k 5 rfl)))))))
theorem okD_Formula_lamps (T : Tx K mg) : DOk_Formula_lamps P w base T 102 m_D_Formula_lamps where
  c_Lamp := ((ok_Formula_lamps T).mono (by decide)).imp fun vs H Q E q => by
    obtain ⟨S, v2, self1, rfl, gS, r3, ht, h⟩ := q
    cases self1 with
    | Lamp => exact ⟨_, _, _, rfl, gS, r3, h⟩
    | _ => cases ht
  c_Sure := ((ok_Formula_lamps T).mono (by decide)).imp fun vs H Q E q => by
    obtain ⟨S, v2, self1, rfl, gS, r3, ht, h⟩ := q
    cases self1 with
    | Sure => exact ⟨_, _, _, rfl, gS, r3, h⟩
    | _ => cases ht
  c_Not := ((ok_Formula_lamps T).mono (by decide)).imp fun vs H Q E q => by
    obtain ⟨S, v2, self1, rfl, gS, r3, ht, h⟩ := q
    cases self1 with
    | Not => exact ⟨_, _, _, rfl, gS, r3, h⟩
    | _ => cases ht
  c_And := ((ok_Formula_lamps T).mono (by decide)).imp fun vs H Q E q => by
    obtain ⟨S, v2, self1, rfl, gS, r3, ht, h⟩ := q
    cases self1 with
    | And => exact ⟨_, _, _, rfl, gS, r3, h⟩
    | _ => cases ht
  c_Either := ((ok_Formula_lamps T).mono (by decide)).imp fun vs H Q E q => by
    obtain ⟨S, v2, self1, rfl, gS, r3, ht, h⟩ := q
    cases self1 with
    | Either => exact ⟨_, _, _, rfl, gS, r3, h⟩
    | _ => cases ht
  c_Or := ((ok_Formula_lamps T).mono (by decide)).imp fun vs H Q E q => by
    obtain ⟨S, v2, self1, rfl, gS, r3, ht, h⟩ := q
    cases self1 with
    | Or => exact ⟨_, _, _, rfl, gS, r3, h⟩
    | _ => cases ht

@[irreducible] def m__law_whole (found1 : Int) : Option Bool :=
some (true && (!false))
abbrev s__law_whole : Stmt := top 12
abbrev sn__law_whole : List Str := ["_law_found"]
theorem sc__law_whole : FnScope ["_law_found"] ["_law_found"] (defScope (s__law_whole)) := ⟨rfl, rfl, rfl, by decide +kernel, rfl, by decide +kernel, by decide +kernel⟩
def p__law_whole (K : PySem.W.Frag) (c : Cl) : Sp := fun vs H Q E => ∃ (found1 : Int), vs = [.int found1] ∧ OP (m__law_whole found1) (fun r => Q (.bl r) H)
theorem ok__law_whole (T : Tx K mg) : FnOk P w K mg base CX0 1 T.f__law_whole T.d__law_whole ["_law_found"] (p__law_whole K T.c) := by
  refine T.F__law_whole.ok sc__law_whole (fun vs H Q E h => by obtain ⟨found1, rfl, _⟩ := h; rfl) (fun cdv A outer s H vs Q E hr h => ?_)
  obtain ⟨found1, rfl, h⟩ := h
  obtain ⟨A_, hA⟩ : ∃ A_, A_ = (fun r : Bool => Q (.bl r) H) := ⟨_, rfl⟩
  replace h : OP (m__law_whole found1) A_ := hA ▸ h
  rw [m__law_whole] at h
  refine ⟨_, (pss_cons (ps_ret (pe_and (pe_callB (show CallR _ (.builtin "isinstance") (rIsi K) from call_isi) rfl T.n_isinstance bt_isinstance (pa_cons (pe_var (i := 0) rfl (.inl rfl) rfl rfl) (pa_cons (pe_bltn (v := .ty "int") rfl T.n_int bt_int rfl) pa_nil))) (pe_one (pe_not (pe_callB (show CallR _ (.builtin "isinstance") (rIsi K) from call_isi) rfl T.n_isinstance bt_isinstance (pa_cons (pe_var (i := 0) rfl (.inl rfl) rfl rfl) (pa_cons (pe_bltn (v := .ty "bool") rfl T.n_bool bt_bool rfl) pa_nil)))))))
      pss_nil), ?_⟩
  refine z_start (σ := [some (.int found1)]) rfl ?_
  have g : Grow [] H H H H := Grow.refl (Same.refl _)
  refine z_ret (v_and (v_isi (val_var rfl) ty_int (k := true) (by decide +kernel)) (v_not (v_isi (val_var rfl) ty_int (k := false) (by decide +kernel)))) ?_
  have h := OP.fin hA h
  exact h

@[irreducible] def m__law_seen (formula1 : O_Formula) (used4 : (List Bool)) : Option Bool :=
(compO (fun zx7 =>
(atI used4 zx7).bind fun i10 =>
ifo i10 (some (some zx7)) (some none)) (rangeI 0 (Int.toNat 6))).bind fun ys11 =>
(m_D_Formula_lamps formula1).bind fun v26 =>
ifo ((!true) || (!(decide ((v26.length : Int) = (ys11.length : Int))))) (
some false) (
grd (gR (ys11.length : Int)) <|
brk (forR (fun k40 _ =>
(atI v26 k40).bind fun i51 =>
(m__law_whole i51).bind fun v52 =>
(ifo (!v52) (some true) ((atI v26 k40).bind fun i53 =>
(atI ys11 k40).bind fun i54 =>
some (!(decide (i53 = i54))))).bind fun c_55 =>
ifo c_55 (
some (.inr false)) (
some (.inl ()))) (rangeI 0 (Int.toNat (ys11.length : Int))) ()) (fun _ =>
some true))
abbrev s__law_seen : Stmt := top 14
abbrev sn__law_seen : List Str := ["_law_formula", "_law_used", "_law_due", "_law_found", "_law_k"]
theorem sc__law_seen : FnScope ["_law_formula", "_law_used", "_law_due", "_law_found", "_law_k"] ["_law_formula", "_law_used"] (defScope (s__law_seen)) := ⟨rfl, rfl, rfl, by decide +kernel, rfl, by decide +kernel, by decide +kernel⟩
def p__law_seen (K : PySem.W.Frag) (c : Cl) : Sp := fun vs H Q E => ∃ (S : Hp) (v2 : V) (formula1 : O_Formula) (v5 : V) (used4 : (List Bool)), vs = [v2, v5] ∧ Same S H ∧ ((q_Formula (K := K) c)).R S v2 formula1 ∧ RdL (qB (K := K)) [] S H v5 used4 ∧ OP (m__law_seen formula1 used4) (fun r => ∀ (S' H' : Hp), Grow [] S H S' H' → Q (.bl r) H')
theorem ok__law_seen (T : Tx K mg) : FnOk P w K mg base CX0 103 T.f__law_seen T.d__law_seen ["_law_formula", "_law_used"] (p__law_seen K T.c) := by
  refine T.F__law_seen.ok sc__law_seen (fun vs H Q E h => by obtain ⟨S, v2, formula1, v5, used4, rfl, _⟩ := h; rfl) (fun cdv A outer s H vs Q E hr h => ?_)
  obtain ⟨S, v2, formula1, v5, used4, rfl, gS, r3, r6, h⟩ := h
  obtain ⟨A_, hA⟩ : ∃ A_, A_ = (fun r : Bool => ∀ (S' H' : Hp), Grow [] S H S' H' → Q (.bl r) H') := ⟨_, rfl⟩
  replace h : OP (m__law_seen formula1 used4) A_ := hA ▸ h
  rw [m__law_seen] at h
  have hr1 : Room 1 _ := hr.mono (by decide)
  have hr102 : Room 102 _ := hr.mono (by decide)
  refine ⟨_, (pss_cons (ps_setLc (i := 2) (y := "_law_due") (own := [("_law_k", 4)]) (g := gName 4) rfl sc__law_seen.nd rfl rfl (sw_true rfl rfl rfl (by decide +kernel)) (pi_range1 rfl T.n_range (pa_cons pe_int pa_nil)) (blkOk_by (N := sn__law_seen) (sc := defScope s__law_seen) (by decide +kernel)) (fun _ _ _ _ _ => pg_name (i := 4) sc__law_seen.nd rfl (.inl rfl)) (fun _ _ _ _ _ => (pts_one (pt_val (pe_ix (show IxR _ (rIxL K) from ix_list) (pe_var (i := 1) rfl (by first | exact .inr (.inr rfl) | exact .inr (.inl rfl)) rfl rfl) (pe_var (i := 4) rfl (.inl rfl) rfl rfl) (fun _ _ => rfl))))) (fun _ _ _ _ _ => (pe_var (i := 4) rfl (.inl rfl) rfl rfl)))
      (pss_cons (ps_set (i := 3) sc__law_seen.nd rfl (.inl rfl) (pe_alt (pe_meth0 (pe_var (i := 0) rfl (.inl rfl) rfl rfl) T.l_Lamp T.t_Lamp_lamps (okD_Formula_lamps T).c_Lamp hr102 T.b_Formula_lamps .nil pass0) (pe_alt (pe_meth0 (pe_var (i := 0) rfl (.inl rfl) rfl rfl) T.l_Sure T.t_Sure_lamps (okD_Formula_lamps T).c_Sure hr102 T.b_Formula_lamps .nil pass0) (pe_alt (pe_meth0 (pe_var (i := 0) rfl (.inl rfl) rfl rfl) T.l_Not T.t_Not_lamps (okD_Formula_lamps T).c_Not hr102 T.b_Formula_lamps .nil pass0) (pe_alt (pe_meth0 (pe_var (i := 0) rfl (.inl rfl) rfl rfl) T.l_And T.t_And_lamps (okD_Formula_lamps T).c_And hr102 T.b_Formula_lamps .nil pass0) (pe_alt (pe_meth0 (pe_var (i := 0) rfl (.inl rfl) rfl rfl) T.l_Either T.t_Either_lamps (okD_Formula_lamps T).c_Either hr102 T.b_Formula_lamps .nil pass0) (pe_meth0 (pe_var (i := 0) rfl (.inl rfl) rfl rfl) T.l_Or T.t_Or_lamps (okD_Formula_lamps T).c_Or hr102 T.b_Formula_lamps .nil pass0)))))))
      (pss_cons (ps_if (PW.pt (pw_or (pt_not (pt_val (pe_callB (show CallR _ (.builtin "isinstance") (rIsi K) from call_isi) rfl T.n_isinstance bt_isinstance (pa_cons (pe_var (i := 3) rfl (.inl rfl) rfl rfl) (pa_cons (pe_bltn (v := .ty "list") rfl T.n_list bt_list rfl) pa_nil))))) (pw_or1 (pt_cmpR op_ne (pe_callB (show CallR _ (.builtin "len") (Z.rLenS K) from call_len_seq) rfl T.n_len bt_len (pa_cons (pe_var (i := 3) rfl (.inl rfl) rfl rfl) pa_nil)) (pe_callB (show CallR _ (.builtin "len") (Z.rLenS K) from call_len_seq) rfl T.n_len bt_len (pa_cons (pe_var (i := 2) rfl (.inl rfl) rfl rfl) pa_nil)) (nomark _))))) (pss_cons (ps_ret pe_bl)
      pss_nil) pss_nil)
      (pss_cons (ps_for PassesOwn.never rfl (pi_range1 rfl T.n_range (pa_cons (pe_callB (show CallR _ (.builtin "len") (Z.rLenS K) from call_len_seq) rfl T.n_len bt_len (pa_cons (pe_var (i := 2) rfl (.inl rfl) rfl rfl) pa_nil)) pa_nil)) (pg_name (i := 4) sc__law_seen.nd rfl (.inl rfl)) (pss_cons (ps_if (PW.pt (pw_or (pt_not (pt_val (pe_call (ok__law_whole T) hr1 rfl T.m__law_whole T.F__law_whole.kp T.b__law_whole .nil pass0 (pa_cons (pe_ix (show IxR _ (rIxL K) from ix_list) (pe_var (i := 3) rfl (.inl rfl) rfl rfl) (pe_var (i := 4) rfl (.inl rfl) rfl rfl) (fun _ _ => rfl)) pa_nil)))) (pw_or1 (pt_cmpR op_ne (pe_ix (show IxR _ (rIxL K) from ix_list) (pe_var (i := 3) rfl (.inl rfl) rfl rfl) (pe_var (i := 4) rfl (.inl rfl) rfl rfl) (fun _ _ => rfl)) (pe_ix (show IxR _ (rIxL K) from ix_list) (pe_var (i := 2) rfl (.inl rfl) rfl rfl) (pe_var (i := 4) rfl (.inl rfl) rfl rfl) (fun _ _ => rfl)) (nomark _))))) (pss_cons (ps_ret pe_bl)
      pss_nil) pss_nil)
      pss_nil))
      (pss_cons (ps_expr (pe_bm0 PySem.F.plainAttrs_list PySem.F.slot_list_clear PySem.F.type_list_clear mt_clear (pe_var (i := 3) rfl (.inl rfl) rfl rfl)))
      (pss_cons (ps_ret pe_bl)
      pss_nil)))))), ?_⟩
  refine z_start (σ := [some v2, some v5, none, none, none]) rfl ?_
  have g : Grow [] S H S H := Grow.refl gS
  refine z_setE ?_
  obtain ⟨ys11, eys11, h⟩ := OP.bind h
  refine c_lcR1 (n := 6) (va_cons val_c va_nil) ⟨by decide, by decide⟩ eys11 (τ := (qI (K := K))) (S := S) (fun zx7 H_8 e9 r_ hm => ?_) ?_
  · have g := g.ext e9
    obtain ⟨i10, ei10, hm⟩ := bind_some hm
    refine ⟨_, (v_B (v_ixB (val_var rfl) (val_var rfl) (RdL.q g r6) ei10)), fun hb => ?_, fun hb => ?_⟩
    · rw [ifo_t hb] at hm
      exact ⟨_, _, (Option.some.inj hm).symm, val_var rfl, rfl⟩
    · rw [ifo_f hb] at hm
      exact (Option.some.inj hm).symm
  intro p12 ws13 H_14 e15 np16 ep17 rw18
  have z20 := g.hnone np16
  have c_19 : Cel [] H S H_14 p12 (.lst ws13) := Cel.own g e15 np16 ep17 rfl
  replace g := g.ext e15
  obtain ⟨S_21, g22, eS23, r24, ot25⟩ := c_freeze g c_19 z20 rw18
  replace r3 := Rep.mono _ eS23 r3
  replace r6 := RdL.mono eS23 r6
  replace g := g22
  refine g_name (σ' := [some v2, some v5, some (.ref p12), none, none]) rfl ?_
  refine z_setE ?_
  refine dp_Formula_lamps T g.sh (val_var rfl) r3 fun i_ hi_ => ?_
  refine c_args va_nil ?_
  have gL36 : ∀ l ∈ [], H l = none ∨ l ∈ [] := LM0
  refine ⟨S_21, _, _, rfl, g.sh, r3, hi_, (OP.of h).mono fun v26 h S_27 H_28 p30 ws31 gc29 np32 hp33 sp34 wf35 => ?_⟩
  have z37 := g.hnone np32
  replace r3 := Rep.mono _ gc29.ss r3
  replace r6 := RdL.mono gc29.ss r6
  replace r24 := Rep.mono _ gc29.ss r24
  have c_38 : Cel [] H S_27 H_28 p30 (.lst ws31) := ⟨hp33, sp34, .inl z37, rfl⟩
  replace g := g.call gc29 gL36
  refine g_name (σ' := [some v2, some v5, some (.ref p12), some (.ref p30), none]) rfl ?_
  refine z_if (a_or (a_not (v_B (v_isi (val_var rfl) (ty_l (qL_of c_38.h (RL.mono g.sh wf35))) (k := true) (by decide +kernel)))) (v_test (v_neI (v_len (val_var rfl) (qL_qQ (qL_of c_38.h (RL.mono g.sh wf35)))) (v_len (val_var rfl) (qL_qQ (Rep.mono _ g.sh r24)))))) (fun hc => ?_) (fun hc => ?_)
  · replace h := OP.ite1 hc h
    refine z_ret val_c ?_
    have h := OP.fin hA h
    exact h _ _ g
  · replace h := OP.ite0 hc h
    refine z_nextR ?_
    obtain ⟨g39, h⟩ := OP.grd h
    obtain ⟨B43, h, hB44⟩ := OP.brk h
    obtain ⟨F45, hF46, h⟩ := OP.nameR h
    refine z_for1 (j := (ys11.length : Int)) (va_cons (v_len (val_var rfl) (qL_qQ (Rep.mono _ g.sh r24))) va_nil) g39 (fun ys48 σ' H' => ∃ (u49 : Option V), σ' = [some v2, some v5, some (.ref p12), some (.ref p30), u49] ∧ H_28 = H' ∧ OP (forR F45 ys48 ()) (SE B43 A_)) ⟨_, rfl, rfl, h⟩ (fun k40 ys48 σ' H_50 p N hN47 => ?_) ?_
    · obtain ⟨u49, rfl, rfl, h⟩ := p
      replace h := OP.forR h
      replace h := OP.fcall2 hF46 h
      refine g_name (σ' := [some v2, some v5, some (.ref p12), some (.ref p30), some (.int k40)]) rfl ?_
      obtain ⟨i51, ei51, h⟩ := OP.bind h
      obtain ⟨v52, ev52, h⟩ := OP.bind h
      obtain ⟨c_55, ec_55, h⟩ := OP.bind h
      refine z_if (a_orP (a_not (v_B (v_call (va_cons (v_ixI (val_var rfl) (val_var rfl) (qL_qQ (qL_of c_38.h (RL.mono g.sh wf35))) ei51) va_nil) fun Q q => ⟨_, rfl, OP.mk ev52 q⟩))) ec_55 (fun hb hm => by
            obtain ⟨i53, ei53, hm⟩ := bind_some hm
            obtain ⟨i54, ei54, hm⟩ := bind_some hm
            exact (a_eq (v_test (v_neI (v_ixI (val_var rfl) (val_var rfl) (qL_qQ (qL_of c_38.h (RL.mono g.sh wf35))) ei53) (v_ixI (val_var rfl) (val_var rfl) (qL_qQ (Rep.mono _ g.sh r24)) ei54))) (Option.some.inj hm)))) (fun hc => ?_) (fun hc => ?_)
      · replace h := OP.ite1 hc h
        refine z_ret val_c ?_
        have h := OP.fin hA h
        exact h _ _ g
      · replace h := OP.ite0 hc h
        refine z_nextR ?_
        refine z_next ?_
        exact hN47 _ _ ⟨_, rfl, rfl, h⟩
    · intro σ' H_56 p
      obtain ⟨u49, rfl, rfl, h⟩ := p
      replace h := hB44 _ (OP.forR_nil h)
      refine z_dropE ?_
      refine c_bm0 (val_var rfl) (tyL c_38.h) ?_
      refine c_clear (τ := (qI (K := K))) g c_38 fun H_57 g58 c_59 w_60 ot61 => ?_
      replace g := g58
      refine z_ret val_c ?_
      have h := OP.fin hA h
      exact h _ _ g

@[irreducible] def m_law (script1 : (List Int)) : Option Bool :=
(m__law_cell_at script1 0).bind fun v4 =>
(m_Lamp___init__ (v4 % 6)).bind fun v15 =>
(compO (fun zx35 =>
some (some (decide (zx35 = (v4 % 6))))) (rangeI 0 (Int.toNat 6))).bind fun ys38 =>
(forO (fun cell74 s =>
un2 (fun made86 rows93 =>
lt (cell74 % 8) fun step105 =>
ifo ((decide (5 ≤ step105)) && (decide (2 ≤ (made86.length : Int)))) (
lt (if (((made86.length : Int) - 2) - ((cell74 / 8) % 2)) > 0 then (((made86.length : Int) - 2) - ((cell74 / 8) % 2)) else 0) fun left106 =>
(m__law_joined (step105 - 5) (cutI made86 (some left106) none)).bind fun v133 =>
grd ((cutI made86 none (some left106)).length + ([v133] : List O_Formula).length ≤ 16777216) <|
(m__law_both (cutI rows93 (some left106) none)).bind fun v191 =>
grd ((cutI rows93 none (some left106)).length + ([v191] : List (List Bool)).length ≤ 16777216) <|
some (((cutI made86 none (some left106)) ++ ([v133] : List O_Formula)), ((cutI rows93 none (some left106)) ++ ([v191] : List (List Bool))))) (
ifo (decide (step105 = 4)) (
(atI made86 (-1)).bind fun i252 =>
(m_Not___init__ i252).bind fun v267 =>
grd ((cutI made86 none (some (-1))).length + ([(O_Formula.Not v267)] : List O_Formula).length ≤ 16777216) <|
some (((cutI made86 none (some (-1))) ++ ([(O_Formula.Not v267)] : List O_Formula)), rows93)) (
ifo (decide (step105 = 3)) (
(m_Sure___init__ (decide (((cell74 / 8) % 2) = 1))).bind fun v317 =>
grd (made86.length < 16777216) <|
lt (made86 ++ [(O_Formula.Sure v317)]) fun l329 =>
grd (rows93.length < 16777216) <|
lt (rows93 ++ [([false, false, false, false, false, false] : List Bool)]) fun l354 =>
some (l329, l354)) (
(m_Lamp___init__ ((cell74 / 8) % 6)).bind fun v373 =>
grd (made86.length < 16777216) <|
lt (made86 ++ [(O_Formula.Lamp v373)]) fun l385 =>
(compO (fun zx392 =>
some (some (decide (zx392 = ((cell74 / 8) % 6))))) (rangeI 0 (Int.toNat 6))).bind fun ys395 =>
grd (rows93.length < 16777216) <|
lt (rows93 ++ [ys395]) fun l414 =>
some (l385, l414))))) s) ((cutI script1 (some 1) (some 41))) (([(O_Formula.Lamp v15)] : List O_Formula), ([ys38] : List (List Bool)))).bind (fun s => un2 (fun made86 rows93 =>
(ifo (decide (2 ≤ (made86.length : Int))) (
(m__law_joined ((v4 / 6) % 3) made86).bind fun v580 =>
(m__law_both rows93).bind fun v598 =>
some (([v580] : List O_Formula), ([v598] : List (List Bool)))) (
some (made86, rows93))).bind (fun s => un2 (fun made426 rows432 =>
((atI made426 0).bind fun i447 =>
ifo (!(is_Formula_Formula i447)) (
some true) (
(atI made426 0).bind fun i449 =>
(atI rows432 0).bind fun i451 =>
(m__law_seen i449 i451).bind fun v453 =>
some (!v453))).bind fun b458 =>
ifo b458 (
some false) (
(atI made426 0).bind fun i459 =>
(m_D_Formula_holds i459 (v4 % 64)).bind fun v461 =>
ifo (!true) (
some false) (
((atI made426 0).bind fun i470 =>
(atI rows432 0).bind fun i472 =>
(m__law_seen i470 i472).bind fun v474 =>
ifo (!v474) (
some true) (
(atI made426 0).bind fun i479 =>
(m_Not___init__ i479).bind fun v492 =>
(atI rows432 0).bind fun i505 =>
(m__law_seen (O_Formula.Not v492) i505).bind fun v507 =>
some (!v507))).bind fun b512 =>
ifo b512 (
some false) (
((atI made426 0).bind fun i522 =>
(atI made426 0).bind fun i524 =>
(m_Joined___init__ ([i522, i524] : List O_Formula)).bind fun v548 =>
(atI rows432 0).bind fun i561 =>
(m__law_seen (O_Formula.And v548) i561).bind fun v563 =>
ifo v563 (
(atI made426 0).bind fun i568 =>
(atI rows432 0).bind fun i570 =>
(m__law_seen i568 i570).bind fun v572 =>
some v572) (
some false)).bind fun b577 =>
some b577)))) s)) s)
abbrev s_law : Stmt := top 16
abbrev sn_law : List Str := ["_law_script", "_law_first", "_law_made", "_law_rows", "_law_cell", "_law_step", "_law_left", "_law_held", "_law_k"]
theorem sc_law : FnScope ["_law_script", "_law_first", "_law_made", "_law_rows", "_law_cell", "_law_step", "_law_left", "_law_held", "_law_k"] ["_law_script"] (defScope (s_law)) := ⟨rfl, rfl, rfl, by decide +kernel, rfl, by decide +kernel, by decide +kernel⟩
def p_law (K : PySem.W.Frag) (c : Cl) : Sp := fun vs H Q E => ∃ (S : Hp) (v2 : V) (script1 : (List Int)), vs = [v2] ∧ Same S H ∧ RdL (qI (K := K)) [] S H v2 script1 ∧ OP (m_law script1) (fun r => ∀ (S' H' : Hp), Grow [] S H S' H' → Q (.bl r) H')
theorem ok_law (T : Tx K mg) : FnOk P w K mg base CX0 104 T.f_law T.d_law ["_law_script"] (p_law K T.c) := by
  refine T.F_law.ok sc_law (fun vs H Q E h => by obtain ⟨S, v2, script1, rfl, _⟩ := h; rfl) (fun cdv A outer s H vs Q E hr h => ?_)
  obtain ⟨S, v2, script1, rfl, gS, r3, h⟩ := h
  obtain ⟨A_, hA⟩ : ∃ A_, A_ = (fun r : Bool => ∀ (S' H' : Hp), Grow [] S H S' H' → Q (.bl r) H') := ⟨_, rfl⟩
  replace h : OP (m_law script1) A_ := hA ▸ h
  rw [m_law] at h
  have hr1 : Room 1 _ := hr.mono (by decide)
  have hr2 : Room 2 _ := hr.mono (by decide)
  have hr3 : Room 3 _ := hr.mono (by decide)
  have hr101 : Room 101 _ := hr.mono (by decide)
  have hr103 : Room 103 _ := hr.mono (by decide)
  refine ⟨_, (pss_cons (ps_set (i := 1) sc_law.nd rfl (.inr rfl) (pe_call (ok__law_cell_at T) hr1 rfl T.m__law_cell_at T.F__law_cell_at.kp T.b__law_cell_at .nil pass0 (pa_cons (pe_var (i := 0) rfl (.inl rfl) rfl rfl) (pa_cons pe_int pa_nil))))
      (pss_cons (ps_set (i := 2) sc_law.nd rfl (.inl rfl) (pe_lst (pa_cons (pe_make T.k_Lamp (ok_Lamp___init__ T) hr2 rfl T.m_Lamp T.b_Lamp___init__ .nil pass0 (pa_cons (pe_op op_mod (pe_var (i := 1) rfl (.inr (.inl rfl)) rfl rfl) pe_int) pa_nil)) pa_nil)))
      (pss_cons (ps_set (i := 3) sc_law.nd rfl (.inl rfl) (pe_lst (pa_cons (pe_lc (own := [("_law_k", 8)]) (g := gName 8) (tt := tYes) rfl sc_law.nd (pi_range1 rfl T.n_range (pa_cons pe_int pa_nil)) (blkOk_by (N := sn_law) (sc := defScope s_law) (by decide +kernel)) (fun _ _ _ _ _ => pg_name (i := 8) sc_law.nd rfl (.inl rfl)) (fun _ _ _ _ _ => pts_nil) (fun _ _ _ _ _ => (pe_cmpR op_eq (pe_var (i := 8) rfl (.inl rfl) rfl rfl) (pe_op op_mod (pe_var (i := 1) rfl (by first | exact .inr (.inr rfl) | exact .inr (.inl rfl)) rfl rfl) pe_int) (nomark _)))) pa_nil)))
      (pss_cons (ps_for PassesOwn.never rfl (pi_list (pe_slice sl_list (pe_var (i := 0) rfl (.inl rfl) rfl rfl) (po_some pe_int) (po_some pe_int))) (pg_name (i := 4) sc_law.nd rfl (.inr rfl)) (pss_cons (ps_set (i := 5) sc_law.nd rfl (.inl rfl) (pe_op op_mod (pe_var (i := 4) rfl (.inr (.inl rfl)) rfl rfl) pe_int))
      (pss_cons (ps_if (PW.pt (pw_and (pt_cmpR op_ge (pe_var (i := 5) rfl (.inl rfl) rfl rfl) pe_int (nomark _)) (pw_and1 (pt_cmpR op_ge (pe_callB (show CallR _ (.builtin "len") (Z.rLenS K) from call_len_seq) rfl T.n_len bt_len (pa_cons (pe_var (i := 2) rfl (.inl rfl) rfl rfl) pa_nil)) pe_int (nomark _))))) (pss_cons (ps_set (i := 6) sc_law.nd rfl (.inl rfl) (pe_callB (call_max2 rfl) rfl T.n_max bt_max (pa_cons pe_int (pa_cons (pe_op op_sub (pe_op op_sub (pe_callB (show CallR _ (.builtin "len") (Z.rLenS K) from call_len_seq) rfl T.n_len bt_len (pa_cons (pe_var (i := 2) rfl (.inl rfl) rfl rfl) pa_nil)) pe_int) (pe_op op_mod (pe_op op_fdiv (pe_var (i := 4) rfl (.inr (.inl rfl)) rfl rfl) pe_int) pe_int)) pa_nil))))
      (pss_cons (ps_set (i := 2) sc_law.nd rfl (.inl rfl) (pe_op op_cat (pe_slice sl_list (pe_var (i := 2) rfl (.inl rfl) rfl rfl) po_none (po_some (pe_var (i := 6) rfl (.inl rfl) rfl rfl))) (pe_lst (pa_cons (pe_call (ok__law_joined T) hr3 rfl T.m__law_joined T.F__law_joined.kp T.b__law_joined .nil pass0 (pa_cons (pe_op op_sub (pe_var (i := 5) rfl (.inl rfl) rfl rfl) pe_int) (pa_cons (pe_slice sl_list (pe_var (i := 2) rfl (.inl rfl) rfl rfl) (po_some (pe_var (i := 6) rfl (.inl rfl) rfl rfl)) po_none) pa_nil))) pa_nil))))
      (pss_cons (ps_set (i := 3) sc_law.nd rfl (.inl rfl) (pe_op op_cat (pe_slice sl_list (pe_var (i := 3) rfl (.inl rfl) rfl rfl) po_none (po_some (pe_var (i := 6) rfl (.inl rfl) rfl rfl))) (pe_lst (pa_cons (pe_call (ok__law_both T) hr1 rfl T.m__law_both T.F__law_both.kp T.b__law_both .nil pass0 (pa_cons (pe_slice sl_list (pe_var (i := 3) rfl (.inl rfl) rfl rfl) (po_some (pe_var (i := 6) rfl (.inl rfl) rfl rfl)) po_none) pa_nil)) pa_nil))))
      pss_nil))) (pss_cons (ps_if (pt_cmpR op_eq (pe_var (i := 5) rfl (.inl rfl) rfl rfl) pe_int (nomark _)) (pss_cons (ps_set (i := 2) sc_law.nd rfl (.inl rfl) (pe_op op_cat (pe_slice sl_list (pe_var (i := 2) rfl (.inl rfl) rfl rfl) po_none (po_some (pe_un un_neg pe_int))) (pe_lst (pa_cons (pe_make T.k_Not (ok_Not___init__ T) hr2 rfl T.m_Not T.b_Not___init__ .nil pass0 (pa_cons (pe_ix (show IxR _ (rIxL K) from ix_list) (pe_var (i := 2) rfl (.inl rfl) rfl rfl) (pe_un un_neg pe_int) (fun _ _ => rfl)) pa_nil)) pa_nil))))
      pss_nil) (pss_cons (ps_if (pt_cmpR op_eq (pe_var (i := 5) rfl (.inl rfl) rfl rfl) pe_int (nomark _)) (pss_cons (ps_expr (pe_bm PySem.F.plainAttrs_list PySem.F.slot_list_append PySem.F.type_list_append mt_append (pe_var (i := 2) rfl (.inl rfl) rfl rfl) (pa_cons (pe_make T.k_Sure (ok_Sure___init__ T) hr2 rfl T.m_Sure T.b_Sure___init__ .nil pass0 (pa_cons (pe_cmpR op_eq (pe_op op_mod (pe_op op_fdiv (pe_var (i := 4) rfl (.inr (.inl rfl)) rfl rfl) pe_int) pe_int) pe_int (nomark _)) pa_nil)) pa_nil)))
      (pss_cons (ps_expr (pe_bm PySem.F.plainAttrs_list PySem.F.slot_list_append PySem.F.type_list_append mt_append (pe_var (i := 3) rfl (.inl rfl) rfl rfl) (pa_cons (pe_lst (pa_cons pe_bl (pa_cons pe_bl (pa_cons pe_bl (pa_cons pe_bl (pa_cons pe_bl (pa_cons pe_bl pa_nil))))))) pa_nil)))
      pss_nil)) (pss_cons (ps_expr (pe_bm PySem.F.plainAttrs_list PySem.F.slot_list_append PySem.F.type_list_append mt_append (pe_var (i := 2) rfl (.inl rfl) rfl rfl) (pa_cons (pe_make T.k_Lamp (ok_Lamp___init__ T) hr2 rfl T.m_Lamp T.b_Lamp___init__ .nil pass0 (pa_cons (pe_op op_mod (pe_op op_fdiv (pe_var (i := 4) rfl (.inr (.inl rfl)) rfl rfl) pe_int) pe_int) pa_nil)) pa_nil)))
      (pss_cons (ps_expr (pe_bm PySem.F.plainAttrs_list PySem.F.slot_list_append PySem.F.type_list_append mt_append (pe_var (i := 3) rfl (.inl rfl) rfl rfl) (pa_cons (pe_lc (own := [("_law_k", 8)]) (g := gName 8) (tt := tYes) rfl sc_law.nd (pi_range1 rfl T.n_range (pa_cons pe_int pa_nil)) (blkOk_by (N := sn_law) (sc := defScope s_law) (by decide +kernel)) (fun _ _ _ _ _ => pg_name (i := 8) sc_law.nd rfl (.inl rfl)) (fun _ _ _ _ _ => pts_nil) (fun _ _ _ _ _ => (pe_cmpR op_eq (pe_var (i := 8) rfl (.inl rfl) rfl rfl) (pe_op op_mod (pe_op op_fdiv (pe_var (i := 4) rfl (by first | exact .inr (.inr rfl) | exact .inr (.inl rfl)) rfl rfl) pe_int) pe_int) (nomark _)))) pa_nil)))
      pss_nil)))
      pss_nil))
      pss_nil))
      pss_nil)))
      (pss_cons (ps_if (pt_cmpR op_ge (pe_callB (show CallR _ (.builtin "len") (Z.rLenS K) from call_len_seq) rfl T.n_len bt_len (pa_cons (pe_var (i := 2) rfl (.inl rfl) rfl rfl) pa_nil)) pe_int (nomark _)) (pss_cons (ps_set (i := 2) sc_law.nd rfl (.inl rfl) (pe_lst (pa_cons (pe_call (ok__law_joined T) hr3 rfl T.m__law_joined T.F__law_joined.kp T.b__law_joined .nil pass0 (pa_cons (pe_op op_mod (pe_op op_fdiv (pe_var (i := 1) rfl (.inr (.inl rfl)) rfl rfl) pe_int) pe_int) (pa_cons (pe_var (i := 2) rfl (.inl rfl) rfl rfl) pa_nil))) pa_nil)))
      (pss_cons (ps_set (i := 3) sc_law.nd rfl (.inl rfl) (pe_lst (pa_cons (pe_call (ok__law_both T) hr1 rfl T.m__law_both T.F__law_both.kp T.b__law_both .nil pass0 (pa_cons (pe_var (i := 3) rfl (.inl rfl) rfl rfl) pa_nil)) pa_nil)))
      pss_nil)) pss_nil)
      (pss_cons (ps_if (PW.pt (pw_or (pt_not (pt_val (pe_callB (show CallR _ (.builtin "isinstance") (rIsi K) from call_isi) rfl T.n_isinstance bt_isinstance (pa_cons (pe_ix (show IxR _ (rIxL K) from ix_list) (pe_var (i := 2) rfl (.inl rfl) rfl rfl) pe_int (fun _ _ => rfl)) (pa_cons (pe_glob (v := .ref T.c.Formula) rfl T.m_Formula (show Value.ref T.c.Formula = _ from rfl)) pa_nil))))) (pw_or1 (pt_not (pt_val (pe_call (ok__law_seen T) hr103 rfl T.m__law_seen T.F__law_seen.kp T.b__law_seen .nil pass0 (pa_cons (pe_ix (show IxR _ (rIxL K) from ix_list) (pe_var (i := 2) rfl (.inl rfl) rfl rfl) pe_int (fun _ _ => rfl)) (pa_cons (pe_ix (show IxR _ (rIxL K) from ix_list) (pe_var (i := 3) rfl (.inl rfl) rfl rfl) pe_int (fun _ _ => rfl)) pa_nil)))))))) (pss_cons (ps_ret pe_bl)
      pss_nil) pss_nil)
      (pss_cons (ps_set (i := 7) sc_law.nd rfl (.inl rfl) (pe_alt (pe_meth (pe_ix (show IxR _ (rIxL K) from ix_list) (pe_var (i := 2) rfl (.inl rfl) rfl rfl) pe_int (fun _ _ => rfl)) T.l_Lamp T.t_Lamp_holds (okD_Formula_holds T).c_Lamp hr101 T.b_Lamp_holds .nil pass0 (pa_cons (pe_op op_mod (pe_var (i := 1) rfl (.inr (.inl rfl)) rfl rfl) pe_int) pa_nil)) (pe_alt (pe_meth (pe_ix (show IxR _ (rIxL K) from ix_list) (pe_var (i := 2) rfl (.inl rfl) rfl rfl) pe_int (fun _ _ => rfl)) T.l_Sure T.t_Sure_holds (okD_Formula_holds T).c_Sure hr101 T.b_Sure_holds .nil pass0 (pa_cons (pe_op op_mod (pe_var (i := 1) rfl (.inr (.inl rfl)) rfl rfl) pe_int) pa_nil)) (pe_alt (pe_meth (pe_ix (show IxR _ (rIxL K) from ix_list) (pe_var (i := 2) rfl (.inl rfl) rfl rfl) pe_int (fun _ _ => rfl)) T.l_Not T.t_Not_holds (okD_Formula_holds T).c_Not hr101 T.b_Not_holds .nil pass0 (pa_cons (pe_op op_mod (pe_var (i := 1) rfl (.inr (.inl rfl)) rfl rfl) pe_int) pa_nil)) (pe_alt (pe_meth (pe_ix (show IxR _ (rIxL K) from ix_list) (pe_var (i := 2) rfl (.inl rfl) rfl rfl) pe_int (fun _ _ => rfl)) T.l_And T.t_And_holds (okD_Formula_holds T).c_And hr101 T.b_And_holds .nil pass0 (pa_cons (pe_op op_mod (pe_var (i := 1) rfl (.inr (.inl rfl)) rfl rfl) pe_int) pa_nil)) (pe_alt (pe_meth (pe_ix (show IxR _ (rIxL K) from ix_list) (pe_var (i := 2) rfl (.inl rfl) rfl rfl) pe_int (fun _ _ => rfl)) T.l_Either T.t_Either_holds (okD_Formula_holds T).c_Either hr101 T.b_Either_holds .nil pass0 (pa_cons (pe_op op_mod (pe_var (i := 1) rfl (.inr (.inl rfl)) rfl rfl) pe_int) pa_nil)) (pe_meth (pe_ix (show IxR _ (rIxL K) from ix_list) (pe_var (i := 2) rfl (.inl rfl) rfl rfl) pe_int (fun _ _ => rfl)) T.l_Or T.t_Or_holds (okD_Formula_holds T).c_Or hr101 T.b_Or_holds .nil pass0 (pa_cons (pe_op op_mod (pe_var (i := 1) rfl (.inr (.inl rfl)) rfl rfl) pe_int) pa_nil))))))))
      (pss_cons (ps_if (pt_not (pt_val (pe_callB (show CallR _ (.builtin "isinstance") (rIsi K) from call_isi) rfl T.n_isinstance bt_isinstance (pa_cons (pe_var (i := 7) rfl (.inl rfl) rfl rfl) (pa_cons (pe_bltn (v := .ty "bool") rfl T.n_bool bt_bool rfl) pa_nil))))) (pss_cons (ps_ret pe_bl)
      pss_nil) pss_nil)
      (pss_cons (ps_if (PW.pt (pw_or (pt_not (pt_val (pe_call (ok__law_seen T) hr103 rfl T.m__law_seen T.F__law_seen.kp T.b__law_seen .nil pass0 (pa_cons (pe_ix (show IxR _ (rIxL K) from ix_list) (pe_var (i := 2) rfl (.inl rfl) rfl rfl) pe_int (fun _ _ => rfl)) (pa_cons (pe_ix (show IxR _ (rIxL K) from ix_list) (pe_var (i := 3) rfl (.inl rfl) rfl rfl) pe_int (fun _ _ => rfl)) pa_nil))))) (pw_or1 (pt_not (pt_val (pe_call (ok__law_seen T) hr103 rfl T.m__law_seen T.F__law_seen.kp T.b__law_seen .nil pass0 (pa_cons (pe_make T.k_Not (ok_Not___init__ T) hr2 rfl T.m_Not T.b_Not___init__ .nil pass0 (pa_cons (pe_ix (show IxR _ (rIxL K) from ix_list) (pe_var (i := 2) rfl (.inl rfl) rfl rfl) pe_int (fun _ _ => rfl)) pa_nil)) (pa_cons (pe_ix (show IxR _ (rIxL K) from ix_list) (pe_var (i := 3) rfl (.inl rfl) rfl rfl) pe_int (fun _ _ => rfl)) pa_nil)))))))) (pss_cons (ps_ret pe_bl)
      pss_nil) pss_nil)
      (pss_cons (ps_ret (pe_and (pe_call (ok__law_seen T) hr103 rfl T.m__law_seen T.F__law_seen.kp T.b__law_seen .nil pass0 (pa_cons (pe_make T.k_And (ok_Joined___init__ T) hr2 rfl T.m_And T.b_Joined___init__ .nil pass0 (pa_cons (pe_lst (pa_cons (pe_ix (show IxR _ (rIxL K) from ix_list) (pe_var (i := 2) rfl (.inl rfl) rfl rfl) pe_int (fun _ _ => rfl)) (pa_cons (pe_ix (show IxR _ (rIxL K) from ix_list) (pe_var (i := 2) rfl (.inl rfl) rfl rfl) pe_int (fun _ _ => rfl)) pa_nil))) pa_nil)) (pa_cons (pe_ix (show IxR _ (rIxL K) from ix_list) (pe_var (i := 3) rfl (.inl rfl) rfl rfl) pe_int (fun _ _ => rfl)) pa_nil))) (pe_one (pe_call (ok__law_seen T) hr103 rfl T.m__law_seen T.F__law_seen.kp T.b__law_seen .nil pass0 (pa_cons (pe_ix (show IxR _ (rIxL K) from ix_list) (pe_var (i := 2) rfl (.inl rfl) rfl rfl) pe_int (fun _ _ => rfl)) (pa_cons (pe_ix (show IxR _ (rIxL K) from ix_list) (pe_var (i := 3) rfl (.inl rfl) rfl rfl) pe_int (fun _ _ => rfl)) pa_nil))))))
      pss_nil)))))))))), ?_⟩
  refine z_start (σ := [some v2, none, none, none, none, none, none, none, none]) rfl ?_
  have g : Grow [] S H S H := Grow.refl gS
  obtain ⟨v4, ev4, h⟩ := OP.bind h
  refine z_set (w := (.int v4)) (σ' := [some v2, some (.int v4), none, none, none, none, none, none, none]) (v_call (va_cons (val_var rfl) (va_cons val_c va_nil)) fun Q q => ⟨_, _, _, rfl, (RdL.q g r3), OP.mk ev4 q⟩) rfl rfl ?_
  refine z_setE ?_
  refine c_lstE fun Q_5 hQ_5 => ?_
  refine c_cons ?_
  refine c_make ?_
  refine c_args (va_cons (v_o2c (val_var rfl) val_c (show (0 : Int) < 6 by decide)) va_nil) ?_
  refine make_in fun p6 dx7 H_8 e9 np10 ep11 => ?_
  have z14 := g.hnone np10
  have c_13 : Cel [] H S H_8 p6 (.ins T.c.Lamp dx7 []) := Cel.own g e9 np10 ep11 rfl
  replace g := g.ext e9
  have gL20 : ∀ l ∈ [p6], H l = none ∨ l ∈ [] := (LM1 c_13.z LM0)
  refine ⟨S, _, _, _, _, rfl, g.sh, c_13.h, c_13.s, T.l_Lamp, T.a_Lamp_at, (OP.of h).mono fun v15 h S_16 H_17 gc18 hp19 => ?_⟩
  replace r3 := RdL.mono gc18.ss r3
  replace c_13 := c_13.mut gc18 hp19 rfl
  replace g := g.call gc18 gL20
  refine ⟨rfl, ?_⟩
  obtain ⟨S_21, g22, eS23, r24, ot25⟩ := fz_Formula_Lamp (c := T.c) g c_13 z14 (show ((qI (K := K))).R _ _ v15 from rfl)
  replace r3 := RdL.mono eS23 r3
  replace g := g22
  refine c_nil ?_
  refine c_newlst (Q := Q_5) (vs := [(.ref p6)]) (show 1 ≤ 1000 by decide) fun p26 H_27 e28 np29 ep30 => ?_
  refine q_eq hQ_5 ?_
  have w_31 : RL (q_Formula (K := K) T.c) S_21 [(.ref p6)] ([(O_Formula.Lamp v15)] : List O_Formula) := (.cons r24 .nil)
  have z33 := g.hnone np29
  have c_32 : Cel [] H S_21 H_27 p26 (.lst [(.ref p6)]) := Cel.own g e28 np29 ep30 rfl
  replace g := g.ext e28
  refine g_name (σ' := [some v2, some (.int v4), some (.ref p26), none, none, none, none, none, none]) rfl ?_
  refine z_setE ?_
  refine c_lstE fun Q_34 hQ_34 => ?_
  refine c_cons ?_
  obtain ⟨ys38, eys38, h⟩ := OP.bind h
  refine c_lcR1 (n := 6) (va_cons val_c va_nil) ⟨by decide, by decide⟩ eys38 (τ := (qB (K := K))) (S := S_21) (fun zx35 H_36 e37 r_ hm => ?_) ?_
  · have c_32 := c_32.ext e37
    have g := g.ext e37
    exact ⟨true, a_yes rfl, fun _ => ⟨_, _, (Option.some.inj hm).symm, (v_eqI (val_var rfl) (v_o2c (val_var rfl) val_c (show (0 : Int) < 6 by decide))), rfl⟩, fun z => nomatch z⟩
  intro p39 ws40 H_41 e42 np43 ep44 rw45
  have ne48 := c_32.ne np43
  have z47 := g.hnone np43
  have c_46 : Cel [] H S_21 H_41 p39 (.lst ws40) := Cel.own g e42 np43 ep44 rfl
  replace c_32 := c_32.ext e42
  replace g := g.ext e42
  refine c_nil ?_
  obtain ⟨S_49, g50, eS51, r52, ot53⟩ := c_freeze g c_46 z47 rw45
  replace c_32 := ot53 _ _ (by first | assumption | exact Ne.symm (by assumption)) c_32
  replace r3 := RdL.mono eS51 r3
  replace w_31 := RL.mono eS51 w_31
  replace rw45 := RL.mono eS51 rw45
  replace g := g50
  refine c_newlst (Q := Q_34) (vs := [(.ref p39)]) (show 1 ≤ 1000 by decide) fun p54 H_55 e56 np57 ep58 => ?_
  refine q_eq hQ_34 ?_
  have w_59 : RL (qL (qB (K := K))) S_49 [(.ref p39)] ([ys38] : List (List Bool)) := (.cons r52 .nil)
  have ne62 := c_32.ne np57
  have z61 := g.hnone np57
  have c_60 : Cel [] H S_49 H_55 p54 (.lst [(.ref p39)]) := Cel.own g e56 np57 ep58 rfl
  replace c_32 := c_32.ext e56
  replace g := g.ext e56
  refine g_name (σ' := [some v2, some (.int v4), some (.ref p26), some (.ref p54), none, none, none, none, none]) rfl ?_
  refine z_forLE ?_
  refine c_slice (val_var rfl) (po1 val_c) (po1 val_c) ?_
  refine (l_slice (LS.rd g r3) fun p63 ws64 H_65 e66 np67 ep68 rw69 => ?_)
  have ne72 := c_32.ne np67
  have ne73 := c_60.ne np67
  have z71 := g.hnone np67
  have c_70 : Cel [] H S_49 H_65 p63 (.lst ws64) := Cel.own g e66 np67 ep68 rfl
  replace c_32 := c_32.ext e66
  replace c_60 := c_60.ext e66
  replace g := g.ext e66
  obtain ⟨B77, h, hB78⟩ := OP.cut h
  obtain ⟨F79, hF80, h⟩ := OP.nameO h
  have q104e : ((.ref p63) : V) = (.ref p63) := rfl
  have q104p := rw69
  refine z_forL (v_eq val_c q104e) q104p (fun ys82 σ' H' => ∃ (l87 : Addr) (ws83 : List V) (made86 : (List O_Formula)) (l94 : Addr) (ws90 : List V) (rows93 : (List (List Bool))) (u98 : Option V) (u99 : Option V) (u100 : Option V) (S_101 : Hp), σ' = [some v2, some (.int v4), some (.ref l87), some (.ref l94), u98, u99, u100, none, none] ∧ Grow [] S H S_101 H' ∧ Same S_49 S_101 ∧ p63 ≠ l87 ∧ H l87 = none ∧ Cel [] H S_101 H' l87 (.lst ws83) ∧ RL (q_Formula (K := K) T.c) S_101 ws83 made86 ∧ p63 ≠ l94 ∧ l87 ≠ l94 ∧ H l94 = none ∧ Cel [] H S_101 H' l94 (.lst ws90) ∧ RL (qL (qB (K := K))) S_101 ws90 rows93 ∧ Cel [] H S_101 H' p63 (.lst ws64) ∧ OP (forO F79 ys82 (made86, rows93)) B77) ⟨_, _, _, _, _, _, _, _, _, _, rfl, g, (Same.refl _), (by first | assumption | exact Ne.symm (by assumption)), z33, c_32, w_31, (by first | assumption | exact Ne.symm (by assumption)), (by first | assumption | exact Ne.symm (by assumption)), z61, c_60, w_59, c_70, h⟩ (fun ys σ' H' p => by obtain ⟨l87, ws83, made86, l94, ws90, rows93, u98, u99, u100, S_101, rfl, gN, eS103, ne89N, z88N, c_84N, r85N, ne96N, ne97N, z95N, c_91N, r92N, c_70N, h⟩ := p; exact SqL.of c_70N.h) (fun w_75 cell74 ys82 σ' H_102 rw76 p N hN81 => ?_) ?_
  · obtain ⟨l87, ws83, made86, l94, ws90, rows93, u98, u99, u100, S_101, rfl, gN, eS103, ne89N, z88N, c_84N, r85N, ne96N, ne97N, z95N, c_91N, r92N, c_70N, h⟩ := p
    replace g := gN
    have ne89 := ne89N
    have z88 := z88N
    have c_84 := c_84N
    have r85 := r85N
    have ne96 := ne96N
    have ne97 := ne97N
    have z95 := z95N
    have c_91 := c_91N
    have r92 := r92N
    replace c_70 := c_70N
    replace r3 := RdL.mono eS103 r3
    replace rw69 := RL.mono eS103 rw69
    replace h := OP.forO h
    replace h := OP.fcall2 hF80 h
    replace h := OP.un2 h
    cases (show w_75 = (.int cell74) from rw76)
    refine g_name (σ' := [some v2, some (.int v4), some (.ref l87), some (.ref l94), some (.int cell74), u99, u100, none, none]) rfl ?_
    obtain ⟨step105, estep105, h⟩ := OP.lt h
    refine z_set (w := (.int step105)) (σ' := [some v2, some (.int v4), some (.ref l87), some (.ref l94), some (.int cell74), some (.int step105), u100, none, none]) (v_o2c (val_var rfl) val_c (show (0 : Int) < 8 by decide)) (congrArg V.int estep105) rfl ?_
    refine z_if (a_and (v_test (v_o2 (val_var rfl) val_c)) (v_test (v_o2 (v_len (val_var rfl) (qL_qQ (qL_of c_84.h (RL.mono g.sh r85)))) val_c))) (fun hc => ?_) (fun hc => ?_)
    · replace h := OP.ite1 hc h
      obtain ⟨left106, eleft106, h⟩ := OP.lt h
      refine z_set (w := (.int left106)) (σ' := [some v2, some (.int v4), some (.ref l87), some (.ref l94), some (.int cell74), some (.int step105), some (.int left106), none, none]) (v_cb (va_cons val_c (va_cons (v_o2 (v_o2 (v_len (val_var rfl) (qL_qQ (qL_of c_84.h (RL.mono g.sh r85)))) val_c) (v_o2c (v_o2c (val_var rfl) val_c ⟨by decide, by decide⟩) val_c (show (0 : Int) < 2 by decide))) va_nil)) fun Q q => ⟨_, _, rfl, q⟩) (congrArg V.int eleft106) rfl ?_
      refine z_setE ?_
      refine c_op ?_
      refine c_slice (val_var rfl) po0 (po1 (val_var rfl)) ?_
      refine (l_slice (LS.cel c_84.h r85) fun p107 ws108 H_109 e110 np111 ep112 rw113 => ?_)
      have ne116 := c_84.ne np111
      have ne117 := c_91.ne np111
      have ne118 := c_70.ne np111
      have z115 := g.hnone np111
      have c_114 : Cel [] H S_101 H_109 p107 (.lst ws108) := Cel.own g e110 np111 ep112 rfl
      replace c_84 := c_84.ext e110
      replace c_91 := c_91.ext e110
      replace c_70 := c_70.ext e110
      replace g := g.ext e110
      refine c_lstE fun Q_119 hQ_119 => ?_
      refine c_cons ?_
      refine c_call ?_
      refine c_cons ?_
      refine c_val (v_o2 (val_var rfl) val_c) ?_
      refine c_cons ?_
      refine c_slice (val_var rfl) (po1 (val_var rfl)) po0 ?_
      refine (l_slice (LS.cel c_84.h r85) fun p120 ws121 H_122 e123 np124 ep125 rw126 => ?_)
      have ne129 := c_84.ne np124
      have ne130 := c_91.ne np124
      have ne131 := c_70.ne np124
      have ne132 := c_114.ne np124
      have z128 := g.hnone np124
      have c_127 : Cel [] H S_101 H_122 p120 (.lst ws121) := Cel.own g e123 np124 ep125 rfl
      replace c_84 := c_84.ext e123
      replace c_91 := c_91.ext e123
      replace c_70 := c_70.ext e123
      replace c_114 := c_114.ext e123
      replace g := g.ext e123
      refine c_nil ?_
      have gL139 : ∀ l ∈ [], H l = none ∨ l ∈ [] := LM0
      refine ⟨S_101, _, _, _, rfl, g.sh, (RdL.ofC c_127.h NM0 rw126), (OP.of h).mono fun v133 h S_134 H_135 v137 gc136 r138 => ?_⟩
      replace c_84 := c_84.call gc136 NM0
      replace c_91 := c_91.call gc136 NM0
      replace c_70 := c_70.call gc136 NM0
      replace c_114 := c_114.call gc136 NM0
      replace c_127 := c_127.call gc136 NM0
      replace r3 := RdL.mono gc136.ss r3
      replace r85 := RL.mono gc136.ss r85
      replace r92 := RL.mono gc136.ss r92
      replace rw69 := RL.mono gc136.ss rw69
      replace rw113 := RL.mono gc136.ss rw113
      replace rw126 := RL.mono gc136.ss rw126
      replace eS103 := eS103.trans gc136.ss
      replace g := g.call gc136 gL139
      refine c_nil ?_
      refine c_newlst (Q := Q_119) (vs := [v137]) (show 1 ≤ 1000 by decide) fun p140 H_141 e142 np143 ep144 => ?_
      refine q_eq hQ_119 ?_
      have w_145 : RL (q_Formula (K := K) T.c) S_134 [v137] ([v133] : List O_Formula) := (.cons r138 .nil)
      have ne148 := c_84.ne np143
      have ne149 := c_91.ne np143
      have ne150 := c_70.ne np143
      have ne151 := c_114.ne np143
      have z147 := g.hnone np143
      have c_146 : Cel [] H S_134 H_141 p140 (.lst [v137]) := Cel.own g e142 np143 ep144 rfl
      replace c_84 := c_84.ext e142
      replace c_91 := c_91.ext e142
      replace c_70 := c_70.ext e142
      replace c_114 := c_114.ext e142
      replace g := g.ext e142
      obtain ⟨g152, h⟩ := OP.grd h
      refine (l_cat (LP.cel c_114.h rw113) (LP.cel c_146.h w_145) g152 fun p153 ws154 H_155 e156 np157 ep158 rw159 => ?_)
      have ne162 := c_84.ne np157
      have ne163 := c_91.ne np157
      have ne164 := c_70.ne np157
      have z161 := g.hnone np157
      have c_160 : Cel [] H S_134 H_155 p153 (.lst ws154) := Cel.own g e156 np157 ep158 rfl
      replace c_84 := c_84.ext e156
      replace c_91 := c_91.ext e156
      replace c_70 := c_70.ext e156
      replace g := g.ext e156
      refine g_name (σ' := [some v2, some (.int v4), some (.ref p153), some (.ref l94), some (.int cell74), some (.int step105), some (.int left106), none, none]) rfl ?_
      refine z_setE ?_
      refine c_op ?_
      refine c_slice (val_var rfl) po0 (po1 (val_var rfl)) ?_
      refine (l_slice (LS.cel c_91.h r92) fun p165 ws166 H_167 e168 np169 ep170 rw171 => ?_)
      have ne174 := c_160.ne np169
      have ne175 := c_91.ne np169
      have ne176 := c_70.ne np169
      have z173 := g.hnone np169
      have c_172 : Cel [] H S_134 H_167 p165 (.lst ws166) := Cel.own g e168 np169 ep170 rfl
      replace c_160 := c_160.ext e168
      replace c_91 := c_91.ext e168
      replace c_70 := c_70.ext e168
      replace g := g.ext e168
      refine c_lstE fun Q_177 hQ_177 => ?_
      refine c_cons ?_
      refine c_call ?_
      refine c_cons ?_
      refine c_slice (val_var rfl) (po1 (val_var rfl)) po0 ?_
      refine (l_slice (LS.cel c_91.h r92) fun p178 ws179 H_180 e181 np182 ep183 rw184 => ?_)
      have ne187 := c_160.ne np182
      have ne188 := c_91.ne np182
      have ne189 := c_70.ne np182
      have ne190 := c_172.ne np182
      have z186 := g.hnone np182
      have c_185 : Cel [] H S_134 H_180 p178 (.lst ws179) := Cel.own g e181 np182 ep183 rfl
      replace c_160 := c_160.ext e181
      replace c_91 := c_91.ext e181
      replace c_70 := c_70.ext e181
      replace c_172 := c_172.ext e181
      replace g := g.ext e181
      refine c_nil ?_
      have gL201 : ∀ l ∈ [], H l = none ∨ l ∈ [] := LM0
      refine ⟨S_134, _, _, rfl, g.sh, (RdL.ofC c_185.h NM0 rw184), (OP.of h).mono fun v191 h S_192 H_193 p195 ws196 gc194 np197 hp198 sp199 wf200 => ?_⟩
      have ne202 := c_160.ne np197
      have ne203 := c_91.ne np197
      have ne204 := c_70.ne np197
      have ne205 := c_172.ne np197
      have ne206 := c_185.ne np197
      have z207 := g.hnone np197
      replace c_160 := c_160.call gc194 NM0
      replace c_91 := c_91.call gc194 NM0
      replace c_70 := c_70.call gc194 NM0
      replace c_172 := c_172.call gc194 NM0
      replace c_185 := c_185.call gc194 NM0
      replace r3 := RdL.mono gc194.ss r3
      replace rw159 := RL.mono gc194.ss rw159
      replace r92 := RL.mono gc194.ss r92
      replace rw69 := RL.mono gc194.ss rw69
      replace rw171 := RL.mono gc194.ss rw171
      replace rw184 := RL.mono gc194.ss rw184
      replace eS103 := eS103.trans gc194.ss
      have c_208 : Cel [] H S_192 H_193 p195 (.lst ws196) := ⟨hp198, sp199, .inl z207, rfl⟩
      replace g := g.call gc194 gL201
      refine c_nil ?_
      obtain ⟨S_209, g210, eS211, r212, ot213⟩ := c_freeze g c_208 z207 wf200
      replace c_160 := ot213 _ _ (by first | assumption | exact Ne.symm (by assumption)) c_160
      replace c_91 := ot213 _ _ (by first | assumption | exact Ne.symm (by assumption)) c_91
      replace c_70 := ot213 _ _ (by first | assumption | exact Ne.symm (by assumption)) c_70
      replace c_172 := ot213 _ _ (by first | assumption | exact Ne.symm (by assumption)) c_172
      replace r3 := RdL.mono eS211 r3
      replace rw159 := RL.mono eS211 rw159
      replace r92 := RL.mono eS211 r92
      replace rw69 := RL.mono eS211 rw69
      replace rw171 := RL.mono eS211 rw171
      replace wf200 := RL.mono eS211 wf200
      replace eS103 := eS103.trans eS211
      replace g := g210
      refine c_newlst (Q := Q_177) (vs := [(.ref p195)]) (show 1 ≤ 1000 by decide) fun p214 H_215 e216 np217 ep218 => ?_
      refine q_eq hQ_177 ?_
      have w_219 : RL (qL (qB (K := K))) S_209 [(.ref p195)] ([v191] : List (List Bool)) := (.cons r212 .nil)
      have ne222 := c_160.ne np217
      have ne223 := c_91.ne np217
      have ne224 := c_70.ne np217
      have ne225 := c_172.ne np217
      have z221 := g.hnone np217
      have c_220 : Cel [] H S_209 H_215 p214 (.lst [(.ref p195)]) := Cel.own g e216 np217 ep218 rfl
      replace c_160 := c_160.ext e216
      replace c_91 := c_91.ext e216
      replace c_70 := c_70.ext e216
      replace c_172 := c_172.ext e216
      replace g := g.ext e216
      obtain ⟨g226, h⟩ := OP.grd h
      refine (l_cat (LP.cel c_172.h rw171) (LP.cel c_220.h w_219) g226 fun p227 ws228 H_229 e230 np231 ep232 rw233 => ?_)
      have ne236 := c_160.ne np231
      have ne237 := c_91.ne np231
      have ne238 := c_70.ne np231
      have z235 := g.hnone np231
      have c_234 : Cel [] H S_209 H_229 p227 (.lst ws228) := Cel.own g e230 np231 ep232 rfl
      replace c_160 := c_160.ext e230
      replace c_91 := c_91.ext e230
      replace c_70 := c_70.ext e230
      replace g := g.ext e230
      refine g_name (σ' := [some v2, some (.int v4), some (.ref p153), some (.ref p227), some (.int cell74), some (.int step105), some (.int left106), none, none]) rfl ?_
      refine z_nextR ?_
      refine z_next ?_
      exact hN81 _ _ ⟨_, _, _, _, _, _, _, _, _, _, rfl, g, eS103, (by first | assumption | exact Ne.symm (by assumption)), z161, c_160, rw159, (by first | assumption | exact Ne.symm (by assumption)), (by first | assumption | exact Ne.symm (by assumption)), z235, c_234, rw233, c_70, h⟩
    · replace h := OP.ite0 hc h
      refine z_if (v_test (v_eqI (val_var rfl) val_c)) (fun hc => ?_) (fun hc => ?_)
      · replace h := OP.ite1 hc h
        refine z_setE ?_
        refine c_op ?_
        refine c_slice (val_var rfl) po0 (po1 (v_u val_c)) ?_
        refine (l_slice (LS.cel c_84.h r85) fun p239 ws240 H_241 e242 np243 ep244 rw245 => ?_)
        have ne248 := c_84.ne np243
        have ne249 := c_91.ne np243
        have ne250 := c_70.ne np243
        have z247 := g.hnone np243
        have c_246 : Cel [] H S_101 H_241 p239 (.lst ws240) := Cel.own g e242 np243 ep244 rfl
        replace c_84 := c_84.ext e242
        replace c_91 := c_91.ext e242
        replace c_70 := c_70.ext e242
        replace g := g.ext e242
        refine c_lstE fun Q_251 hQ_251 => ?_
        refine c_cons ?_
        refine c_make ?_
        obtain ⟨i252, ei252, h⟩ := OP.bind h
        obtain ⟨w_253, hw_253, rw_253⟩ := v_ixc c_84.h r85 ei252
        refine c_args (va_cons (hw_253 (val_var rfl) (v_u val_c)) va_nil) ?_
        refine make_in fun p254 dx255 H_256 e257 np258 ep259 => ?_
        have ne263 := c_84.ne np258
        have ne264 := c_91.ne np258
        have ne265 := c_70.ne np258
        have ne266 := c_246.ne np258
        have z262 := g.hnone np258
        have c_261 : Cel [] H S_101 H_256 p254 (.ins T.c.Not dx255 []) := Cel.own g e257 np258 ep259 rfl
        replace c_84 := c_84.ext e257
        replace c_91 := c_91.ext e257
        replace c_70 := c_70.ext e257
        replace c_246 := c_246.ext e257
        replace g := g.ext e257
        have gL274 : ∀ l ∈ [p254], H l = none ∨ l ∈ [] := (LM1 c_261.z LM0)
        refine ⟨S_101, _, _, _, _, _, rfl, g.sh, c_261.h, c_261.s, T.l_Not, T.a_Not_part, rw_253, (OP.of h).mono fun v267 h S_268 H_269 w_271 gc270 hp273 r272 => ?_⟩
        replace c_84 := c_84.call gc270 (NM1 (by first | assumption | exact Ne.symm (by assumption)) NM0)
        replace c_91 := c_91.call gc270 (NM1 (by first | assumption | exact Ne.symm (by assumption)) NM0)
        replace c_70 := c_70.call gc270 (NM1 (by first | assumption | exact Ne.symm (by assumption)) NM0)
        replace c_246 := c_246.call gc270 (NM1 (by first | assumption | exact Ne.symm (by assumption)) NM0)
        replace r3 := RdL.mono gc270.ss r3
        replace r85 := RL.mono gc270.ss r85
        replace r92 := RL.mono gc270.ss r92
        replace rw69 := RL.mono gc270.ss rw69
        replace rw245 := RL.mono gc270.ss rw245
        replace rw_253 := Rep.mono _ gc270.ss rw_253
        replace eS103 := eS103.trans gc270.ss
        replace c_261 := c_261.mut gc270 hp273 rfl
        replace g := g.call gc270 gL274
        refine ⟨rfl, ?_⟩
        obtain ⟨S_275, g276, eS277, r278, ot279⟩ := fz_Formula_Not (c := T.c) g c_261 z262 r272
        replace c_84 := ot279 _ _ (by first | assumption | exact Ne.symm (by assumption)) c_84
        replace c_91 := ot279 _ _ (by first | assumption | exact Ne.symm (by assumption)) c_91
        replace c_70 := ot279 _ _ (by first | assumption | exact Ne.symm (by assumption)) c_70
        replace c_246 := ot279 _ _ (by first | assumption | exact Ne.symm (by assumption)) c_246
        replace r3 := RdL.mono eS277 r3
        replace r85 := RL.mono eS277 r85
        replace r92 := RL.mono eS277 r92
        replace rw69 := RL.mono eS277 rw69
        replace rw245 := RL.mono eS277 rw245
        replace rw_253 := Rep.mono _ eS277 rw_253
        replace r272 := Rep.mono _ eS277 r272
        replace eS103 := eS103.trans eS277
        replace g := g276
        refine c_nil ?_
        refine c_newlst (Q := Q_251) (vs := [(.ref p254)]) (show 1 ≤ 1000 by decide) fun p280 H_281 e282 np283 ep284 => ?_
        refine q_eq hQ_251 ?_
        have w_285 : RL (q_Formula (K := K) T.c) S_275 [(.ref p254)] ([(O_Formula.Not v267)] : List O_Formula) := (.cons r278 .nil)
        have ne288 := c_84.ne np283
        have ne289 := c_91.ne np283
        have ne290 := c_70.ne np283
        have ne291 := c_246.ne np283
        have z287 := g.hnone np283
        have c_286 : Cel [] H S_275 H_281 p280 (.lst [(.ref p254)]) := Cel.own g e282 np283 ep284 rfl
        replace c_84 := c_84.ext e282
        replace c_91 := c_91.ext e282
        replace c_70 := c_70.ext e282
        replace c_246 := c_246.ext e282
        replace g := g.ext e282
        obtain ⟨g292, h⟩ := OP.grd h
        refine (l_cat (LP.cel c_246.h rw245) (LP.cel c_286.h w_285) g292 fun p293 ws294 H_295 e296 np297 ep298 rw299 => ?_)
        have ne302 := c_84.ne np297
        have ne303 := c_91.ne np297
        have ne304 := c_70.ne np297
        have z301 := g.hnone np297
        have c_300 : Cel [] H S_275 H_295 p293 (.lst ws294) := Cel.own g e296 np297 ep298 rfl
        replace c_84 := c_84.ext e296
        replace c_91 := c_91.ext e296
        replace c_70 := c_70.ext e296
        replace g := g.ext e296
        refine g_name (σ' := [some v2, some (.int v4), some (.ref p293), some (.ref l94), some (.int cell74), some (.int step105), u100, none, none]) rfl ?_
        refine z_nextR ?_
        refine z_nextR ?_
        refine z_next ?_
        exact hN81 _ _ ⟨_, _, _, _, _, _, _, _, _, _, rfl, g, eS103, (by first | assumption | exact Ne.symm (by assumption)), z301, c_300, rw299, (by first | assumption | exact Ne.symm (by assumption)), (by first | assumption | exact Ne.symm (by assumption)), z95, c_91, r92, c_70, h⟩
      · replace h := OP.ite0 hc h
        refine z_if (v_test (v_eqI (val_var rfl) val_c)) (fun hc => ?_) (fun hc => ?_)
        · replace h := OP.ite1 hc h
          refine z_dropE ?_
          refine c_bm (val_var rfl) (tyL c_84.h) ?_
          refine c_cons ?_
          refine c_make ?_
          refine c_args (va_cons (v_eqI (v_o2c (v_o2c (val_var rfl) val_c ⟨by decide, by decide⟩) val_c (show (0 : Int) < 2 by decide)) val_c) va_nil) ?_
          refine make_in fun p305 dx306 H_307 e308 np309 ep310 => ?_
          have ne314 := c_84.ne np309
          have ne315 := c_91.ne np309
          have ne316 := c_70.ne np309
          have z313 := g.hnone np309
          have c_312 : Cel [] H S_101 H_307 p305 (.ins T.c.Sure dx306 []) := Cel.own g e308 np309 ep310 rfl
          replace c_84 := c_84.ext e308
          replace c_91 := c_91.ext e308
          replace c_70 := c_70.ext e308
          replace g := g.ext e308
          have gL322 : ∀ l ∈ [p305], H l = none ∨ l ∈ [] := (LM1 c_312.z LM0)
          refine ⟨S_101, _, _, _, _, rfl, g.sh, c_312.h, c_312.s, T.l_Sure, T.a_Sure_truth, (OP.of h).mono fun v317 h S_318 H_319 gc320 hp321 => ?_⟩
          replace c_84 := c_84.call gc320 (NM1 (by first | assumption | exact Ne.symm (by assumption)) NM0)
          replace c_91 := c_91.call gc320 (NM1 (by first | assumption | exact Ne.symm (by assumption)) NM0)
          replace c_70 := c_70.call gc320 (NM1 (by first | assumption | exact Ne.symm (by assumption)) NM0)
          replace r3 := RdL.mono gc320.ss r3
          replace r85 := RL.mono gc320.ss r85
          replace r92 := RL.mono gc320.ss r92
          replace rw69 := RL.mono gc320.ss rw69
          replace eS103 := eS103.trans gc320.ss
          replace c_312 := c_312.mut gc320 hp321 rfl
          replace g := g.call gc320 gL322
          refine ⟨rfl, ?_⟩
          obtain ⟨S_323, g324, eS325, r326, ot327⟩ := fz_Formula_Sure (c := T.c) g c_312 z313 (show ((qB (K := K))).R _ _ v317 from rfl)
          replace c_84 := ot327 _ _ (by first | assumption | exact Ne.symm (by assumption)) c_84
          replace c_91 := ot327 _ _ (by first | assumption | exact Ne.symm (by assumption)) c_91
          replace c_70 := ot327 _ _ (by first | assumption | exact Ne.symm (by assumption)) c_70
          replace r3 := RdL.mono eS325 r3
          replace r85 := RL.mono eS325 r85
          replace r92 := RL.mono eS325 r92
          replace rw69 := RL.mono eS325 rw69
          replace eS103 := eS103.trans eS325
          replace g := g324
          refine c_nil ?_
          obtain ⟨g328, h⟩ := OP.grd h
          obtain ⟨l329, el329, h⟩ := OP.lt h
          refine c_app g c_84 r85 r326 g328 el329 fun ws330 H_331 g332 c_333 w_334 ot335 => ?_
          replace c_91 := ot335 _ _ (by first | assumption | exact Ne.symm (by assumption)) c_91
          replace c_70 := ot335 _ _ (by first | assumption | exact Ne.symm (by assumption)) c_70
          replace g := g332
          refine z_dropE ?_
          refine c_bm (val_var rfl) (tyL c_91.h) ?_
          refine c_cons ?_
          refine c_lstE fun Q_336 hQ_336 => ?_
          refine c_args (va_cons val_c (va_cons val_c (va_cons val_c (va_cons val_c (va_cons val_c (va_cons val_c va_nil)))))) ?_
          refine c_newlst (Q := Q_336) (vs := [(.bl false), (.bl false), (.bl false), (.bl false), (.bl false), (.bl false)]) (show 6 ≤ 1000 by decide) fun p337 H_338 e339 np340 ep341 => ?_
          refine q_eq hQ_336 ?_
          have w_342 : RL (qB (K := K)) S_323 [(.bl false), (.bl false), (.bl false), (.bl false), (.bl false), (.bl false)] ([false, false, false, false, false, false] : List Bool) := (.cons rfl (.cons rfl (.cons rfl (.cons rfl (.cons rfl (.cons rfl .nil))))))
          have ne345 := c_333.ne np340
          have ne346 := c_91.ne np340
          have ne347 := c_70.ne np340
          have z344 := g.hnone np340
          have c_343 : Cel [] H S_323 H_338 p337 (.lst [(.bl false), (.bl false), (.bl false), (.bl false), (.bl false), (.bl false)]) := Cel.own g e339 np340 ep341 rfl
          replace c_333 := c_333.ext e339
          replace c_91 := c_91.ext e339
          replace c_70 := c_70.ext e339
          replace g := g.ext e339
          refine c_nil ?_
          obtain ⟨S_348, g349, eS350, r351, ot352⟩ := c_freeze g c_343 z344 w_342
          replace c_333 := ot352 _ _ (by first | assumption | exact Ne.symm (by assumption)) c_333
          replace c_91 := ot352 _ _ (by first | assumption | exact Ne.symm (by assumption)) c_91
          replace c_70 := ot352 _ _ (by first | assumption | exact Ne.symm (by assumption)) c_70
          replace r3 := RdL.mono eS350 r3
          replace w_334 := RL.mono eS350 w_334
          replace r92 := RL.mono eS350 r92
          replace rw69 := RL.mono eS350 rw69
          replace w_342 := RL.mono eS350 w_342
          replace eS103 := eS103.trans eS350
          replace g := g349
          obtain ⟨g353, h⟩ := OP.grd h
          obtain ⟨l354, el354, h⟩ := OP.lt h
          refine c_app g c_91 r92 r351 g353 el354 fun ws355 H_356 g357 c_358 w_359 ot360 => ?_
          replace c_333 := ot360 _ _ (by first | assumption | exact Ne.symm (by assumption)) c_333
          replace c_70 := ot360 _ _ (by first | assumption | exact Ne.symm (by assumption)) c_70
          replace g := g357
          refine z_nextR ?_
          refine z_nextR ?_
          refine z_nextR ?_
          refine z_next ?_
          exact hN81 _ _ ⟨_, _, _, _, _, _, _, _, _, _, rfl, g, eS103, (by first | assumption | exact Ne.symm (by assumption)), z88, c_333, w_334, (by first | assumption | exact Ne.symm (by assumption)), (by first | assumption | exact Ne.symm (by assumption)), z95, c_358, w_359, c_70, h⟩
        · replace h := OP.ite0 hc h
          refine z_dropE ?_
          refine c_bm (val_var rfl) (tyL c_84.h) ?_
          refine c_cons ?_
          refine c_make ?_
          refine c_args (va_cons (v_o2c (v_o2c (val_var rfl) val_c ⟨by decide, by decide⟩) val_c (show (0 : Int) < 6 by decide)) va_nil) ?_
          refine make_in fun p361 dx362 H_363 e364 np365 ep366 => ?_
          have ne370 := c_84.ne np365
          have ne371 := c_91.ne np365
          have ne372 := c_70.ne np365
          have z369 := g.hnone np365
          have c_368 : Cel [] H S_101 H_363 p361 (.ins T.c.Lamp dx362 []) := Cel.own g e364 np365 ep366 rfl
          replace c_84 := c_84.ext e364
          replace c_91 := c_91.ext e364
          replace c_70 := c_70.ext e364
          replace g := g.ext e364
          have gL378 : ∀ l ∈ [p361], H l = none ∨ l ∈ [] := (LM1 c_368.z LM0)
          refine ⟨S_101, _, _, _, _, rfl, g.sh, c_368.h, c_368.s, T.l_Lamp, T.a_Lamp_at, (OP.of h).mono fun v373 h S_374 H_375 gc376 hp377 => ?_⟩
          replace c_84 := c_84.call gc376 (NM1 (by first | assumption | exact Ne.symm (by assumption)) NM0)
          replace c_91 := c_91.call gc376 (NM1 (by first | assumption | exact Ne.symm (by assumption)) NM0)
          replace c_70 := c_70.call gc376 (NM1 (by first | assumption | exact Ne.symm (by assumption)) NM0)
          replace r3 := RdL.mono gc376.ss r3
          replace r85 := RL.mono gc376.ss r85
          replace r92 := RL.mono gc376.ss r92
          replace rw69 := RL.mono gc376.ss rw69
          replace eS103 := eS103.trans gc376.ss
          replace c_368 := c_368.mut gc376 hp377 rfl
          replace g := g.call gc376 gL378
          refine ⟨rfl, ?_⟩
          obtain ⟨S_379, g380, eS381, r382, ot383⟩ := fz_Formula_Lamp (c := T.c) g c_368 z369 (show ((qI (K := K))).R _ _ v373 from rfl)
          replace c_84 := ot383 _ _ (by first | assumption | exact Ne.symm (by assumption)) c_84
          replace c_91 := ot383 _ _ (by first | assumption | exact Ne.symm (by assumption)) c_91
          replace c_70 := ot383 _ _ (by first | assumption | exact Ne.symm (by assumption)) c_70
          replace r3 := RdL.mono eS381 r3
          replace r85 := RL.mono eS381 r85
          replace r92 := RL.mono eS381 r92
          replace rw69 := RL.mono eS381 rw69
          replace eS103 := eS103.trans eS381
          replace g := g380
          refine c_nil ?_
          obtain ⟨g384, h⟩ := OP.grd h
          obtain ⟨l385, el385, h⟩ := OP.lt h
          refine c_app g c_84 r85 r382 g384 el385 fun ws386 H_387 g388 c_389 w_390 ot391 => ?_
          replace c_91 := ot391 _ _ (by first | assumption | exact Ne.symm (by assumption)) c_91
          replace c_70 := ot391 _ _ (by first | assumption | exact Ne.symm (by assumption)) c_70
          replace g := g388
          refine z_dropE ?_
          refine c_bm (val_var rfl) (tyL c_91.h) ?_
          refine c_cons ?_
          obtain ⟨ys395, eys395, h⟩ := OP.bind h
          refine c_lcR1 (n := 6) (va_cons val_c va_nil) ⟨by decide, by decide⟩ eys395 (τ := (qB (K := K))) (S := S_379) (fun zx392 H_393 e394 r_ hm => ?_) ?_
          · have c_389 := c_389.ext e394
            have c_91 := c_91.ext e394
            have c_70 := c_70.ext e394
            have g := g.ext e394
            exact ⟨true, a_yes rfl, fun _ => ⟨_, _, (Option.some.inj hm).symm, (v_eqI (val_var rfl) (v_o2c (v_o2c (val_var rfl) val_c ⟨by decide, by decide⟩) val_c (show (0 : Int) < 6 by decide))), rfl⟩, fun z => nomatch z⟩
          intro p396 ws397 H_398 e399 np400 ep401 rw402
          have ne405 := c_389.ne np400
          have ne406 := c_91.ne np400
          have ne407 := c_70.ne np400
          have z404 := g.hnone np400
          have c_403 : Cel [] H S_379 H_398 p396 (.lst ws397) := Cel.own g e399 np400 ep401 rfl
          replace c_389 := c_389.ext e399
          replace c_91 := c_91.ext e399
          replace c_70 := c_70.ext e399
          replace g := g.ext e399
          refine c_nil ?_
          obtain ⟨S_408, g409, eS410, r411, ot412⟩ := c_freeze g c_403 z404 rw402
          replace c_389 := ot412 _ _ (by first | assumption | exact Ne.symm (by assumption)) c_389
          replace c_91 := ot412 _ _ (by first | assumption | exact Ne.symm (by assumption)) c_91
          replace c_70 := ot412 _ _ (by first | assumption | exact Ne.symm (by assumption)) c_70
          replace r3 := RdL.mono eS410 r3
          replace w_390 := RL.mono eS410 w_390
          replace r92 := RL.mono eS410 r92
          replace rw69 := RL.mono eS410 rw69
          replace rw402 := RL.mono eS410 rw402
          replace eS103 := eS103.trans eS410
          replace g := g409
          obtain ⟨g413, h⟩ := OP.grd h
          obtain ⟨l414, el414, h⟩ := OP.lt h
          refine c_app g c_91 r92 r411 g413 el414 fun ws415 H_416 g417 c_418 w_419 ot420 => ?_
          replace c_389 := ot420 _ _ (by first | assumption | exact Ne.symm (by assumption)) c_389
          replace c_70 := ot420 _ _ (by first | assumption | exact Ne.symm (by assumption)) c_70
          replace g := g417
          refine z_nextR ?_
          refine z_nextR ?_
          refine z_nextR ?_
          refine z_next ?_
          exact hN81 _ _ ⟨_, _, _, _, _, _, _, _, _, _, rfl, g, eS103, (by first | assumption | exact Ne.symm (by assumption)), z88, c_389, w_390, (by first | assumption | exact Ne.symm (by assumption)), (by first | assumption | exact Ne.symm (by assumption)), z95, c_418, w_419, c_70, h⟩
  · intro σ' H_102 p
    obtain ⟨l87, ws83, made86, l94, ws90, rows93, u98, u99, u100, S_101, rfl, gN, eS103, ne89N, z88N, c_84N, r85N, ne96N, ne97N, z95N, c_91N, r92N, c_70N, h⟩ := p
    replace g := gN
    have ne89 := ne89N
    have z88 := z88N
    have c_84 := c_84N
    have r85 := r85N
    have ne96 := ne96N
    have ne97 := ne97N
    have z95 := z95N
    have c_91 := c_91N
    have r92 := r92N
    replace c_70 := c_70N
    replace r3 := RdL.mono eS103 r3
    replace rw69 := RL.mono eS103 rw69
    replace h := hB78 _ (OP.forO_nil h)
    replace h := OP.un2 h
    obtain ⟨B421, h, hB422⟩ := OP.cut h
    refine z_ifj (fun σ' H' => ∃ (l427 : Addr) (ws423 : List V) (made426 : (List O_Formula)) (l433 : Addr) (ws429 : List V) (rows432 : (List (List Bool))) (S_436 : Hp), σ' = [some v2, some (.int v4), some (.ref l427), some (.ref l433), u98, u99, u100, none, none] ∧ Grow [] S H S_436 H' ∧ Same S_101 S_436 ∧ H l427 = none ∧ Cel [] H S_436 H' l427 (.lst ws423) ∧ RL (q_Formula (K := K) T.c) S_436 ws423 made426 ∧ l427 ≠ l433 ∧ H l433 = none ∧ Cel [] H S_436 H' l433 (.lst ws429) ∧ RL (qL (qB (K := K))) S_436 ws429 rows432 ∧ B421 (made426, rows432)) (v_test (v_o2 (v_len (val_var rfl) (qL_qQ (qL_of c_84.h (RL.mono g.sh r85)))) val_c)) ?_ (fun hc N hN => ?_) (fun hc N hN => ?_)
    · intro σ' H_437 p
      obtain ⟨l427, ws423, made426, l433, ws429, rows432, S_436, rfl, gN, eS438, z428N, c_424N, r425N, ne435N, z434N, c_430N, r431N, h⟩ := p
      replace g := gN
      have z428 := z428N
      have c_424 := c_424N
      have r425 := r425N
      have ne435 := ne435N
      have z434 := z434N
      have c_430 := c_430N
      have r431 := r431N
      replace r3 := RdL.mono eS438 r3
      replace h := hB422 _ h
      replace h := OP.un2 h
      refine z_ifE ?_
      obtain ⟨B439, h, hB440⟩ := OP.cut h
      refine c_cutT (fun b H' => ∃ (S_443 : Hp), Grow [] S H S_443 H' ∧ Same S_436 S_443 ∧ Cel [] H S_443 H' l427 (.lst ws423) ∧ Cel [] H S_443 H' l433 (.lst ws429) ∧ B439 b) (fun q441 hq442 => ?_) ?_
      · have sn446 := Same.refl S_436
        refine c_or ?_
        obtain ⟨i447, ei447, h⟩ := OP.bind h
        obtain ⟨w_448, hw_448, rw_448⟩ := v_ixc c_424.h r425 ei447
        refine c_ans (a_not (v_B (v_is_Formula_Formula T (hw_448 (val_var rfl) val_c) (Rep.mono _ g.sh rw_448)))) ?_
        refine ifb (fun hc => ?_) (fun hc => ?_)
        · replace h := OP.ite1 hc h
          exact hq442 _ _ ⟨_, g, sn446, c_424, c_430, h⟩
        · replace h := OP.ite0 hc h
          refine c_not ?_
          refine c_B ?_
          refine c_call ?_
          obtain ⟨i449, ei449, h⟩ := OP.bind h
          obtain ⟨w_450, hw_450, rw_450⟩ := v_ixc c_424.h r425 ei449
          obtain ⟨i451, ei451, h⟩ := OP.bind h
          obtain ⟨w_452, hw_452, rw_452⟩ := v_ixc c_430.h r431 ei451
          refine c_args (va_cons (hw_450 (val_var rfl) val_c) (va_cons (hw_452 (val_var rfl) val_c) va_nil)) ?_
          have gL457 : ∀ l ∈ [], H l = none ∨ l ∈ [] := LM0
          refine ⟨S_436, _, _, _, _, rfl, g.sh, rw_450, (RdL.ofL g.sh rw_452 LM0), (OP.of h).mono fun v453 h S_454 H_455 gc456 => ?_⟩
          replace c_424 := c_424.call gc456 NM0
          replace c_430 := c_430.call gc456 NM0
          replace r3 := RdL.mono gc456.ss r3
          replace r425 := RL.mono gc456.ss r425
          replace r431 := RL.mono gc456.ss r431
          replace rw_450 := Rep.mono _ gc456.ss rw_450
          replace rw_452 := Rep.mono _ gc456.ss rw_452
          replace sn446 := sn446.trans gc456.ss
          replace g := g.call gc456 gL457
          refine ⟨_, rfl, ?_⟩
          exact hq442 _ _ ⟨_, g, sn446, c_424, c_430, h⟩
      intro b458 H_444 p
      obtain ⟨S_443, gN, eS445, c_424N, c_430N, h⟩ := p
      replace g := gN
      replace c_424 := c_424N
      replace c_430 := c_430N
      replace r3 := RdL.mono eS445 r3
      replace r425 := RL.mono eS445 r425
      replace r431 := RL.mono eS445 r431
      replace h := hB440 _ h
      refine ifb (fun hc => ?_) (fun hc => ?_)
      · replace h := OP.ite1 hc h
        refine z_ret val_c ?_
        have h := OP.fin hA h
        exact h _ _ g
      · replace h := OP.ite0 hc h
        refine z_nextR ?_
        obtain ⟨i459, ei459, h⟩ := OP.bind h
        obtain ⟨w_460, hw_460, rw_460⟩ := v_ixc c_424.h r425 ei459
        obtain ⟨v461, ev461, h⟩ := OP.bind h
        refine z_set (w := (.bl v461)) (σ' := [some v2, some (.int v4), some (.ref l427), some (.ref l433), u98, u99, u100, some (.bl v461), none]) (v_dp_Formula_holds T (hw_460 (val_var rfl) val_c) (Rep.mono _ g.sh rw_460) (va_cons (v_o2c (val_var rfl) val_c (show (0 : Int) < 64 by decide)) va_nil) fun i_ hi_ Q q => ⟨_, _, _, rfl, (Rep.mono _ g.sh rw_460), hi_, OP.mk ev461 q⟩) rfl rfl ?_
        refine z_if (a_not (v_B (v_isi (val_var rfl) ty_bl (k := true) (by decide +kernel)))) (fun hc => ?_) (fun hc => ?_)
        · replace h := OP.ite1 hc h
          refine z_ret val_c ?_
          have h := OP.fin hA h
          exact h _ _ g
        · replace h := OP.ite0 hc h
          refine z_nextR ?_
          refine z_ifE ?_
          obtain ⟨B462, h, hB463⟩ := OP.cut h
          refine c_cutT (fun b H' => ∃ (S_466 : Hp), Grow [] S H S_466 H' ∧ Same S_443 S_466 ∧ Cel [] H S_466 H' l427 (.lst ws423) ∧ Cel [] H S_466 H' l433 (.lst ws429) ∧ B462 b) (fun q464 hq465 => ?_) ?_
          · have sn469 := Same.refl S_443
            refine c_or ?_
            refine c_not ?_
            refine c_B ?_
            refine c_call ?_
            obtain ⟨i470, ei470, h⟩ := OP.bind h
            obtain ⟨w_471, hw_471, rw_471⟩ := v_ixc c_424.h r425 ei470
            obtain ⟨i472, ei472, h⟩ := OP.bind h
            obtain ⟨w_473, hw_473, rw_473⟩ := v_ixc c_430.h r431 ei472
            refine c_args (va_cons (hw_471 (val_var rfl) val_c) (va_cons (hw_473 (val_var rfl) val_c) va_nil)) ?_
            have gL478 : ∀ l ∈ [], H l = none ∨ l ∈ [] := LM0
            refine ⟨S_443, _, _, _, _, rfl, g.sh, rw_471, (RdL.ofL g.sh rw_473 LM0), (OP.of h).mono fun v474 h S_475 H_476 gc477 => ?_⟩
            replace c_424 := c_424.call gc477 NM0
            replace c_430 := c_430.call gc477 NM0
            replace r3 := RdL.mono gc477.ss r3
            replace r425 := RL.mono gc477.ss r425
            replace r431 := RL.mono gc477.ss r431
            replace rw_471 := Rep.mono _ gc477.ss rw_471
            replace rw_473 := Rep.mono _ gc477.ss rw_473
            replace sn469 := sn469.trans gc477.ss
            replace g := g.call gc477 gL478
            refine ⟨_, rfl, ?_⟩
            refine ifb (fun hc => ?_) (fun hc => ?_)
            · replace h := OP.ite1 hc h
              exact hq465 _ _ ⟨_, g, sn469, c_424, c_430, h⟩
            · replace h := OP.ite0 hc h
              refine c_not ?_
              refine c_B ?_
              refine c_call ?_
              refine c_cons ?_
              refine c_make ?_
              obtain ⟨i479, ei479, h⟩ := OP.bind h
              obtain ⟨w_480, hw_480, rw_480⟩ := v_ixc c_424.h r425 ei479
              refine c_args (va_cons (hw_480 (val_var rfl) val_c) va_nil) ?_
              refine make_in fun p481 dx482 H_483 e484 np485 ep486 => ?_
              have ne490 := c_424.ne np485
              have ne491 := c_430.ne np485
              have z489 := g.hnone np485
              have c_488 : Cel [] H S_475 H_483 p481 (.ins T.c.Not dx482 []) := Cel.own g e484 np485 ep486 rfl
              replace c_424 := c_424.ext e484
              replace c_430 := c_430.ext e484
              replace g := g.ext e484
              have gL499 : ∀ l ∈ [p481], H l = none ∨ l ∈ [] := (LM1 c_488.z LM0)
              refine ⟨S_475, _, _, _, _, _, rfl, g.sh, c_488.h, c_488.s, T.l_Not, T.a_Not_part, rw_480, (OP.of h).mono fun v492 h S_493 H_494 w_496 gc495 hp498 r497 => ?_⟩
              replace c_424 := c_424.call gc495 (NM1 (by first | assumption | exact Ne.symm (by assumption)) NM0)
              replace c_430 := c_430.call gc495 (NM1 (by first | assumption | exact Ne.symm (by assumption)) NM0)
              replace r3 := RdL.mono gc495.ss r3
              replace r425 := RL.mono gc495.ss r425
              replace r431 := RL.mono gc495.ss r431
              replace rw_480 := Rep.mono _ gc495.ss rw_480
              replace sn469 := sn469.trans gc495.ss
              replace c_488 := c_488.mut gc495 hp498 rfl
              replace g := g.call gc495 gL499
              refine ⟨rfl, ?_⟩
              obtain ⟨S_500, g501, eS502, r503, ot504⟩ := fz_Formula_Not (c := T.c) g c_488 z489 r497
              replace c_424 := ot504 _ _ (by first | assumption | exact Ne.symm (by assumption)) c_424
              replace c_430 := ot504 _ _ (by first | assumption | exact Ne.symm (by assumption)) c_430
              replace r3 := RdL.mono eS502 r3
              replace r425 := RL.mono eS502 r425
              replace r431 := RL.mono eS502 r431
              replace rw_480 := Rep.mono _ eS502 rw_480
              replace r497 := Rep.mono _ eS502 r497
              replace sn469 := sn469.trans eS502
              replace g := g501
              refine c_cons ?_
              obtain ⟨i505, ei505, h⟩ := OP.bind h
              obtain ⟨w_506, hw_506, rw_506⟩ := v_ixc c_430.h r431 ei505
              refine c_val (hw_506 (val_var rfl) val_c) ?_
              refine c_nil ?_
              have gL511 : ∀ l ∈ [], H l = none ∨ l ∈ [] := LM0
              refine ⟨S_500, _, _, _, _, rfl, g.sh, r503, (RdL.ofL g.sh rw_506 LM0), (OP.of h).mono fun v507 h S_508 H_509 gc510 => ?_⟩
              replace c_424 := c_424.call gc510 NM0
              replace c_430 := c_430.call gc510 NM0
              replace r3 := RdL.mono gc510.ss r3
              replace r425 := RL.mono gc510.ss r425
              replace r431 := RL.mono gc510.ss r431
              replace r503 := Rep.mono _ gc510.ss r503
              replace rw_506 := Rep.mono _ gc510.ss rw_506
              replace sn469 := sn469.trans gc510.ss
              replace g := g.call gc510 gL511
              refine ⟨_, rfl, ?_⟩
              exact hq465 _ _ ⟨_, g, sn469, c_424, c_430, h⟩
          intro b512 H_467 p
          obtain ⟨S_466, gN, eS468, c_424N, c_430N, h⟩ := p
          replace g := gN
          replace c_424 := c_424N
          replace c_430 := c_430N
          replace r3 := RdL.mono eS468 r3
          replace r425 := RL.mono eS468 r425
          replace r431 := RL.mono eS468 r431
          replace h := hB463 _ h
          refine ifb (fun hc => ?_) (fun hc => ?_)
          · replace h := OP.ite1 hc h
            refine z_ret val_c ?_
            have h := OP.fin hA h
            exact h _ _ g
          · replace h := OP.ite0 hc h
            refine z_nextR ?_
            refine z_retE ?_
            obtain ⟨B513, h, hB514⟩ := OP.cut h
            refine c_cutV (fun b H' => ∃ (S_517 : Hp), Grow [] S H S_517 H' ∧ Same S_466 S_517 ∧ Cel [] H S_517 H' l427 (.lst ws423) ∧ Cel [] H S_517 H' l433 (.lst ws429) ∧ B513 b) (fun q515 hq516 => ?_) ?_
            · have sn520 := Same.refl S_466
              refine c_andV ?_
              refine c_call ?_
              refine c_cons ?_
              refine c_make ?_
              refine c_cons ?_
              refine c_lstE fun Q_521 hQ_521 => ?_
              obtain ⟨i522, ei522, h⟩ := OP.bind h
              obtain ⟨w_523, hw_523, rw_523⟩ := v_ixc c_424.h r425 ei522
              obtain ⟨i524, ei524, h⟩ := OP.bind h
              obtain ⟨w_525, hw_525, rw_525⟩ := v_ixc c_424.h r425 ei524
              refine c_args (va_cons (hw_523 (val_var rfl) val_c) (va_cons (hw_525 (val_var rfl) val_c) va_nil)) ?_
              refine c_newlst (Q := Q_521) (vs := [w_523, w_525]) (show 2 ≤ 1000 by decide) fun p526 H_527 e528 np529 ep530 => ?_
              refine q_eq hQ_521 ?_
              have w_531 : RL (q_Formula (K := K) T.c) S_466 [w_523, w_525] ([i522, i524] : List O_Formula) := (.cons rw_523 (.cons rw_525 .nil))
              have ne534 := c_424.ne np529
              have ne535 := c_430.ne np529
              have z533 := g.hnone np529
              have c_532 : Cel [] H S_466 H_527 p526 (.lst [w_523, w_525]) := Cel.own g e528 np529 ep530 rfl
              replace c_424 := c_424.ext e528
              replace c_430 := c_430.ext e528
              replace g := g.ext e528
              refine c_nil ?_
              refine make_in fun p536 dx537 H_538 e539 np540 ep541 => ?_
              have ne545 := c_424.ne np540
              have ne546 := c_430.ne np540
              have ne547 := c_532.ne np540
              have z544 := g.hnone np540
              have c_543 : Cel [] H S_466 H_538 p536 (.ins T.c.And dx537 []) := Cel.own g e539 np540 ep541 rfl
              replace c_424 := c_424.ext e539
              replace c_430 := c_430.ext e539
              replace c_532 := c_532.ext e539
              replace g := g.ext e539
              have gL555 : ∀ l ∈ [p536], H l = none ∨ l ∈ [] := (LM1 c_543.z LM0)
              refine ⟨S_466, _, _, _, _, _, rfl, g.sh, c_543.h, c_543.s, T.l_And, T.a_And_parts, (RdL.ofC c_532.h (NM1 (by first | assumption | exact Ne.symm (by assumption)) NM0) w_531), (OP.of h).mono fun v548 h S_549 H_550 w_552 gc551 hp554 r553 => ?_⟩
              replace c_424 := c_424.call gc551 (NM1 (by first | assumption | exact Ne.symm (by assumption)) NM0)
              replace c_430 := c_430.call gc551 (NM1 (by first | assumption | exact Ne.symm (by assumption)) NM0)
              replace c_532 := c_532.call gc551 (NM1 (by first | assumption | exact Ne.symm (by assumption)) NM0)
              replace r3 := RdL.mono gc551.ss r3
              replace r425 := RL.mono gc551.ss r425
              replace r431 := RL.mono gc551.ss r431
              replace w_531 := RL.mono gc551.ss w_531
              replace sn520 := sn520.trans gc551.ss
              replace c_543 := c_543.mut gc551 hp554 rfl
              replace g := g.call gc551 gL555
              refine ⟨rfl, ?_⟩
              obtain ⟨S_556, g557, eS558, r559, ot560⟩ := fz_Formula_And (c := T.c) g c_543 z544 r553
              replace c_424 := ot560 _ _ (by first | assumption | exact Ne.symm (by assumption)) c_424
              replace c_430 := ot560 _ _ (by first | assumption | exact Ne.symm (by assumption)) c_430
              replace c_532 := ot560 _ _ (by first | assumption | exact Ne.symm (by assumption)) c_532
              replace r3 := RdL.mono eS558 r3
              replace r425 := RL.mono eS558 r425
              replace r431 := RL.mono eS558 r431
              replace w_531 := RL.mono eS558 w_531
              replace r553 := Rep.mono _ eS558 r553
              replace sn520 := sn520.trans eS558
              replace g := g557
              refine c_cons ?_
              obtain ⟨i561, ei561, h⟩ := OP.bind h
              obtain ⟨w_562, hw_562, rw_562⟩ := v_ixc c_430.h r431 ei561
              refine c_val (hw_562 (val_var rfl) val_c) ?_
              refine c_nil ?_
              have gL567 : ∀ l ∈ [], H l = none ∨ l ∈ [] := LM0
              refine ⟨S_556, _, _, _, _, rfl, g.sh, r559, (RdL.ofL g.sh rw_562 LM0), (OP.of h).mono fun v563 h S_564 H_565 gc566 => ?_⟩
              replace c_424 := c_424.call gc566 NM0
              replace c_430 := c_430.call gc566 NM0
              replace r3 := RdL.mono gc566.ss r3
              replace r425 := RL.mono gc566.ss r425
              replace r431 := RL.mono gc566.ss r431
              replace r559 := Rep.mono _ gc566.ss r559
              replace rw_562 := Rep.mono _ gc566.ss rw_562
              replace sn520 := sn520.trans gc566.ss
              replace g := g.call gc566 gL567
              refine ⟨_, rfl, ?_⟩
              refine ifb (fun hc => ?_) (fun hc => ?_)
              · replace h := OP.ite1 hc h
                refine c_call ?_
                obtain ⟨i568, ei568, h⟩ := OP.bind h
                obtain ⟨w_569, hw_569, rw_569⟩ := v_ixc c_424.h r425 ei568
                obtain ⟨i570, ei570, h⟩ := OP.bind h
                obtain ⟨w_571, hw_571, rw_571⟩ := v_ixc c_430.h r431 ei570
                refine c_args (va_cons (hw_569 (val_var rfl) val_c) (va_cons (hw_571 (val_var rfl) val_c) va_nil)) ?_
                have gL576 : ∀ l ∈ [], H l = none ∨ l ∈ [] := LM0
                refine ⟨S_564, _, _, _, _, rfl, g.sh, rw_569, (RdL.ofL g.sh rw_571 LM0), (OP.of h).mono fun v572 h S_573 H_574 gc575 => ?_⟩
                replace c_424 := c_424.call gc575 NM0
                replace c_430 := c_430.call gc575 NM0
                replace r3 := RdL.mono gc575.ss r3
                replace r425 := RL.mono gc575.ss r425
                replace r431 := RL.mono gc575.ss r431
                replace rw_569 := Rep.mono _ gc575.ss rw_569
                replace rw_571 := Rep.mono _ gc575.ss rw_571
                replace sn520 := sn520.trans gc575.ss
                replace g := g.call gc575 gL576
                exact hq516 _ _ ⟨_, g, sn520, c_424, c_430, h⟩
              · replace h := OP.ite0 hc h
                exact hq516 _ _ ⟨_, g, sn520, c_424, c_430, h⟩
            intro b577 H_518 p
            obtain ⟨S_517, gN, eS519, c_424N, c_430N, h⟩ := p
            replace g := gN
            replace c_424 := c_424N
            replace c_430 := c_430N
            replace r3 := RdL.mono eS519 r3
            replace r425 := RL.mono eS519 r425
            replace r431 := RL.mono eS519 r431
            replace h := hB514 _ h
            have h := OP.fin hA h
            exact h _ _ g
    · replace h := OP.ite1 hc h
      have sn578 := Same.refl S_101
      refine z_setE ?_
      refine c_lstE fun Q_579 hQ_579 => ?_
      refine c_cons ?_
      refine c_call ?_
      refine c_args (va_cons (v_o2c (v_o2c (val_var rfl) val_c ⟨by decide, by decide⟩) val_c (show (0 : Int) < 3 by decide)) (va_cons (val_var rfl) va_nil)) ?_
      have gL586 : ∀ l ∈ [], H l = none ∨ l ∈ [] := LM0
      refine ⟨S_101, _, _, _, rfl, g.sh, (RdL.ofC c_84.h NM0 r85), (OP.of h).mono fun v580 h S_581 H_582 v584 gc583 r585 => ?_⟩
      replace c_84 := c_84.call gc583 NM0
      replace c_91 := c_91.call gc583 NM0
      replace r3 := RdL.mono gc583.ss r3
      replace r85 := RL.mono gc583.ss r85
      replace r92 := RL.mono gc583.ss r92
      replace sn578 := sn578.trans gc583.ss
      replace g := g.call gc583 gL586
      refine c_nil ?_
      refine c_newlst (Q := Q_579) (vs := [v584]) (show 1 ≤ 1000 by decide) fun p587 H_588 e589 np590 ep591 => ?_
      refine q_eq hQ_579 ?_
      have w_592 : RL (q_Formula (K := K) T.c) S_581 [v584] ([v580] : List O_Formula) := (.cons r585 .nil)
      have ne595 := c_84.ne np590
      have ne596 := c_91.ne np590
      have z594 := g.hnone np590
      have c_593 : Cel [] H S_581 H_588 p587 (.lst [v584]) := Cel.own g e589 np590 ep591 rfl
      replace c_84 := c_84.ext e589
      replace c_91 := c_91.ext e589
      replace g := g.ext e589
      refine g_name (σ' := [some v2, some (.int v4), some (.ref p587), some (.ref l94), u98, u99, u100, none, none]) rfl ?_
      refine z_setE ?_
      refine c_lstE fun Q_597 hQ_597 => ?_
      refine c_cons ?_
      refine c_call ?_
      refine c_args (va_cons (val_var rfl) va_nil) ?_
      have gL608 : ∀ l ∈ [], H l = none ∨ l ∈ [] := LM0
      refine ⟨S_581, _, _, rfl, g.sh, (RdL.ofC c_91.h NM0 r92), (OP.of h).mono fun v598 h S_599 H_600 p602 ws603 gc601 np604 hp605 sp606 wf607 => ?_⟩
      have ne609 := c_593.ne np604
      have ne610 := c_91.ne np604
      have z611 := g.hnone np604
      replace c_593 := c_593.call gc601 NM0
      replace c_91 := c_91.call gc601 NM0
      replace r3 := RdL.mono gc601.ss r3
      replace w_592 := RL.mono gc601.ss w_592
      replace r92 := RL.mono gc601.ss r92
      replace sn578 := sn578.trans gc601.ss
      have c_612 : Cel [] H S_599 H_600 p602 (.lst ws603) := ⟨hp605, sp606, .inl z611, rfl⟩
      replace g := g.call gc601 gL608
      refine c_nil ?_
      obtain ⟨S_613, g614, eS615, r616, ot617⟩ := c_freeze g c_612 z611 wf607
      replace c_593 := ot617 _ _ (by first | assumption | exact Ne.symm (by assumption)) c_593
      replace c_91 := ot617 _ _ (by first | assumption | exact Ne.symm (by assumption)) c_91
      replace r3 := RdL.mono eS615 r3
      replace w_592 := RL.mono eS615 w_592
      replace r92 := RL.mono eS615 r92
      replace wf607 := RL.mono eS615 wf607
      replace sn578 := sn578.trans eS615
      replace g := g614
      refine c_newlst (Q := Q_597) (vs := [(.ref p602)]) (show 1 ≤ 1000 by decide) fun p618 H_619 e620 np621 ep622 => ?_
      refine q_eq hQ_597 ?_
      have w_623 : RL (qL (qB (K := K))) S_613 [(.ref p602)] ([v598] : List (List Bool)) := (.cons r616 .nil)
      have ne626 := c_593.ne np621
      have ne627 := c_91.ne np621
      have z625 := g.hnone np621
      have c_624 : Cel [] H S_613 H_619 p618 (.lst [(.ref p602)]) := Cel.own g e620 np621 ep622 rfl
      replace c_593 := c_593.ext e620
      replace c_91 := c_91.ext e620
      replace g := g.ext e620
      refine g_name (σ' := [some v2, some (.int v4), some (.ref p587), some (.ref p618), u98, u99, u100, none, none]) rfl ?_
      refine z_next ?_
      exact hN _ _ ⟨_, _, _, _, _, _, _, rfl, g, sn578, z594, c_593, w_592, (by first | assumption | exact Ne.symm (by assumption)), z625, c_624, w_623, h⟩
    · replace h := OP.ite0 hc h
      have sn628 := Same.refl S_101
      refine z_next ?_
      exact hN _ _ ⟨_, _, _, _, _, _, _, rfl, g, sn628, z88, c_84, r85, (by first | assumption | exact Ne.symm (by assumption)), z95, c_91, r92, h⟩
end
end E
namespace B
open PySem Z

/-! ### loops by an invariant -/
theorem forO_rng {σ : Type} {body : Int → σ → Option σ} (I : Nat → σ → Prop) : ∀ (n a : Nat) (s : σ), I a s → (∀ i s, a ≤ i → i < a + n → I i s → ∃ s', body (i : Int) s = some s' ∧ I (i + 1) s') → ∃ s', forO body (rangeI (a : Int) n) s = some s' ∧ I (a + n) s'
  | 0, a, s, h, _ => ⟨s, forO_nil, h⟩
  | n + 1, a, s, h, hs => by
    obtain ⟨s1, e1, h1⟩ := hs a s (Nat.le_refl _) (by omega) h
    obtain ⟨s2, e2, h2⟩ := forO_rng I n (a + 1) s1 h1 fun i s hi hj hI => hs i s (by omega) (by omega) hI
    refine ⟨s2, ?_, by rw [show a + (n + 1) = a + 1 + n by omega]; exact h2⟩
    rw [rangeI_succ, forO_cons, e1]
    show forO body (rangeI ((a : Int) + 1) n) s1 = some s2
    rw [show ((a : Int) + 1) = ((a + 1 : Nat) : Int) by omega]
    exact e2
theorem forR_rng {σ ρ : Type} {body : Int → σ → Option (σ ⊕ ρ)} (I : Nat → σ → Prop) : ∀ (n a : Nat) (s : σ), I a s → (∀ i s, a ≤ i → i < a + n → I i s → ∃ s', body (i : Int) s = some (.inl s') ∧ I (i + 1) s') → ∃ s', forR body (rangeI (a : Int) n) s = some (.inl s') ∧ I (a + n) s'
  | 0, a, s, h, _ => ⟨s, forR_nil, h⟩
  | n + 1, a, s, h, hs => by
    obtain ⟨s1, e1, h1⟩ := hs a s (Nat.le_refl _) (by omega) h
    obtain ⟨s2, e2, h2⟩ := forR_rng I n (a + 1) s1 h1 fun i s hi hj hI => hs i s (by omega) (by omega) hI
    refine ⟨s2, ?_, by rw [show a + (n + 1) = a + 1 + n by omega]; exact h2⟩
    rw [rangeI_succ, forR_cons, e1]
    show forR body (rangeI ((a : Int) + 1) n) s1 = some (.inl s2)
    rw [show ((a : Int) + 1) = ((a + 1 : Nat) : Int) by omega]
    exact e2
/-- over range(n) -/
theorem forO_r0 {σ : Type} {body : Int → σ → Option σ} (I : Nat → σ → Prop) {n : Nat} {s : σ} (h : I 0 s) (hs : ∀ i s, i < n → I i s → ∃ s', body (i : Int) s = some s' ∧ I (i + 1) s') : ∃ s', forO body (rangeI 0 n) s = some s' ∧ I n s' := by
  obtain ⟨s', e, i⟩ := forO_rng I n 0 s h fun i s _ hj hI => hs i s (by omega) hI
  rw [Nat.zero_add] at i
  exact ⟨s', e, i⟩
theorem forR_r0 {σ ρ : Type} {body : Int → σ → Option (σ ⊕ ρ)} (I : Nat → σ → Prop) {n : Nat} {s : σ} (h : I 0 s) (hs : ∀ i s, i < n → I i s → ∃ s', body (i : Int) s = some (.inl s') ∧ I (i + 1) s') : ∃ s', forR body (rangeI 0 n) s = some (.inl s') ∧ I n s' := by
  obtain ⟨s', e, i⟩ := forR_rng I n 0 s h fun i s _ hj hI => hs i s (by omega) hI
  rw [Nat.zero_add] at i
  exact ⟨s', e, i⟩
/-- a search: all turns pass, or the first that does not answers -/
theorem forR_all {ρ : Type} {body : Int → Unit → Option (Unit ⊕ ρ)} {v : ρ} (p : Nat → Bool) : ∀ (n a : Nat), (∀ i, a ≤ i → i < a + n → body (i : Int) () = some (if p i = true then .inl () else .inr v)) →
    forR body (rangeI (a : Int) n) () = some (if (List.range' a n).all p = true then .inl () else .inr v)
  | 0, a, _ => forR_nil
  | n + 1, a, h => by
    rw [rangeI_succ, forR_cons, h a (Nat.le_refl _) (by omega), List.range'_succ, List.all_cons]
    by_cases hp : p a = true
    · rw [if_pos hp, hp, Bool.true_and]
      show forR body (rangeI ((a : Int) + 1) n) () = _
      rw [show ((a : Int) + 1) = ((a + 1 : Nat) : Int) by omega]
      exact forR_all p n (a + 1) fun i h1 h2 => h i (by omega) (by omega)
    · rw [if_neg hp, if_neg]
      · rfl
      · rw [Bool.and_eq_true]; exact fun z => hp z.1
theorem forR_all0 {ρ : Type} {body : Int → Unit → Option (Unit ⊕ ρ)} {v : ρ} (p : Nat → Bool) {n : Nat} (h : ∀ i, i < n → body (i : Int) () = some (if p i = true then .inl () else .inr v)) :
    forR body (rangeI 0 n) () = some (if (List.range n).all p = true then .inl () else .inr v) := by
  have q := forR_all p n 0 fun i _ h2 => h i (by omega)
  rw [List.range_eq_range']
  exact q
theorem bind_eq {α β : Type} {m : Option α} {a : α} {k : α → Option β} (h : m = some a) : m.bind k = k a := by rw [h]; rfl
theorem brk_inl {σ ρ : Type} {m : Option (σ ⊕ ρ)} {s : σ} {k : σ → Option ρ} (h : m = some (.inl s)) : brk m k = k s := by rw [h]; rfl
theorem brk_inr {σ ρ : Type} {m : Option (σ ⊕ ρ)} {v : ρ} {k : σ → Option ρ} (h : m = some (.inr v)) : brk m k = some v := by rw [h]; rfl
theorem lt_eq {α β : Type} {e : α} {k : α → Option β} : lt e k = k e := rfl

/-! ### whole numbers that are no less than nought -/
theorem shl_nat (n k : Nat) : shl (n : Int) (k : Int) = ((n <<< k : Nat) : Int) := by
  show (n : Int) * 2 ^ (Int.toNat (k : Int)) = _
  rw [Int.toNat_natCast, Nat.shiftLeft_eq]
  push_cast
  rfl
theorem shl1_nat (k : Nat) : shl 1 (k : Int) = ((2 ^ k : Nat) : Int) := by
  have h := shl_nat 1 k
  rw [Nat.shiftLeft_eq, Nat.one_mul] at h
  exact h
theorem shr_nat (n k : Nat) : shr (n : Int) (k : Int) = ((n >>> k : Nat) : Int) := by
  show (n : Int) / 2 ^ (Int.toNat (k : Int)) = _
  rw [Int.toNat_natCast, Nat.shiftRight_eq_div_pow]
  push_cast
  rfl
theorem band_nat (a b : Nat) : band (a : Int) (b : Int) = ((a &&& b : Nat) : Int) := by
  show Builtin.bitAnd _ _ = _
  rw [PyProof.Rows.bitAnd_pp (by omega) (by omega)]
  rfl
theorem bor_nat (a b : Nat) : bor (a : Int) (b : Int) = ((a ||| b : Nat) : Int) := by
  show Builtin.bitOr _ _ = _
  rw [L2.bitOr_nn (by omega) (by omega)]
  rfl
theorem nat_xor_and (a b : Nat) : (a ^^^ b) + 2 * (a &&& b) = a + b := by
  have h1 := PyProof.Rows.nat_or_add_and a b
  have h2 := PyProof.Rows.nat_or_add_and (a ^^^ b) (a &&& b)
  have e1 : (a ^^^ b) ||| (a &&& b) = a ||| b := by
    apply Nat.eq_of_testBit_eq
    intro i
    simp only [Nat.testBit_or, Nat.testBit_xor, Nat.testBit_and]
    cases a.testBit i <;> cases b.testBit i <;> rfl
  have e2 : (a ^^^ b) &&& (a &&& b) = 0 := by
    apply Nat.eq_of_testBit_eq
    intro i
    simp only [Nat.testBit_xor, Nat.testBit_and, Nat.zero_testBit]
    cases a.testBit i <;> cases b.testBit i <;> rfl
  rw [e1, e2] at h2
  omega
theorem bxor_nat (a b : Nat) : bxor (a : Int) (b : Int) = ((a ^^^ b : Nat) : Int) := by
  show Builtin.bitXor _ _ = _
  rw [PyProof.Rows.bitXor_and]
  have h := nat_xor_and a b
  have q : Builtin.bitAnd (a : Int) (b : Int) = ((a &&& b : Nat) : Int) := band_nat a b
  rw [q]
  omega
/-- a without b -/
def andn (a b : Nat) : Nat := a ^^^ (a &&& b)
theorem testBit_andn (a b i : Nat) : (andn a b).testBit i = (a.testBit i && !b.testBit i) := by
  unfold andn
  simp only [Nat.testBit_xor, Nat.testBit_and]
  cases a.testBit i <;> cases b.testBit i <;> rfl
theorem bandn_nat (a b : Nat) : band (a : Int) (bnot (b : Int)) = ((andn a b : Nat) : Int) := by
  show Builtin.bitAnd (a : Int) (Builtin.bitNot (b : Int)) = _
  rw [PyProof.Rows.bitAnd_not]
  have q : Builtin.bitAnd (a : Int) (b : Int) = ((a &&& b : Nat) : Int) := band_nat a b
  rw [q]
  have h := nat_xor_and a (a &&& b)
  have e : a &&& (a &&& b) = a &&& b := by
    apply Nat.eq_of_testBit_eq
    intro i
    simp only [Nat.testBit_and]
    cases a.testBit i <;> cases b.testBit i <;> rfl
  rw [e] at h
  unfold andn
  omega
theorem gPow1 {k : Nat} (h : k ≤ 1000000) : gPow 1 (k : Int) := ⟨by omega, by omega, by decide⟩
theorem gPow_nat {n k : Nat} (h : k ≤ 1000000) (hn : n < 2 ^ 64) : gPow (n : Int) (k : Int) := ⟨by omega, by omega, by simpa using hn⟩
theorem gR_nat {n : Nat} (h : n < 2 ^ 62) : gR (n : Int) := ⟨by omega, by omega⟩
theorem gDiv_nat {n : Nat} (h0 : 0 < n) (h : n < 1073741824) : gDiv (n : Int) := ⟨by omega, by omega⟩

/-! ### a number by its bits -/
def mask : Nat → (Nat → Bool) → Nat
  | 0, _ => 0
  | n + 1, p => mask n p + if p n = true then 2 ^ n else 0
theorem mask_succ (n : Nat) (p : Nat → Bool) : mask (n + 1) p = mask n p + if p n = true then 2 ^ n else 0 := rfl
theorem mask_lt : ∀ (n : Nat) (p : Nat → Bool), mask n p < 2 ^ n
  | 0, _ => Nat.one_pos
  | n + 1, p => by
    have h := mask_lt n p
    unfold mask
    rw [Nat.pow_succ]
    split <;> omega
theorem testBit_mask : ∀ (n : Nat) (p : Nat → Bool) (i : Nat), (mask n p).testBit i = (decide (i < n) && p i)
  | 0, p, i => by simp [mask]
  | n + 1, p, i => by
    have h := testBit_mask n p i
    have hl := mask_lt n p
    unfold mask
    by_cases hp : p n = true
    · rw [if_pos hp, Nat.add_comm]
      have e := Nat.two_pow_add_eq_or_of_lt hl 1
      rw [Nat.mul_one] at e
      rw [e, Nat.testBit_or, h, Nat.testBit_two_pow]
      by_cases hi : i < n
      · simp [hi, Nat.lt_succ_of_lt hi, show ¬ n = i by omega]
      · by_cases he : n = i
        · subst he; simp [hp]
        · simp [hi, he, show ¬ i < n + 1 by omega]
    · rw [if_neg hp, Nat.add_zero, h]
      by_cases hi : i < n
      · simp [hi, Nat.lt_succ_of_lt hi]
      · by_cases he : n = i
        · subst he; simp [hp]
        · simp [hi, show ¬ i < n + 1 by omega]
theorem mask_ext {n : Nat} {p : Nat → Bool} {x : Nat} (hx : x < 2 ^ n) (h : ∀ i, i < n → x.testBit i = p i) : x = mask n p := by
  apply Nat.eq_of_testBit_eq
  intro i
  rw [testBit_mask]
  by_cases hi : i < n
  · simp [hi, h i hi]
  · simp only [hi, decide_false, Bool.false_and]
    exact Nat.testBit_lt_two_pow (Nat.lt_of_lt_of_le hx (Nat.pow_le_pow_right (by decide) (by omega)))
theorem mask_congr {n : Nat} {p q : Nat → Bool} (h : ∀ i, i < n → p i = q i) : mask n p = mask n q := mask_ext (mask_lt n p) fun i hi => by rw [testBit_mask, h i hi]; simp [hi]
end B
namespace B
open PySem Z
theorem forO_list {α σ : Type} {body : α → σ → Option σ} (g : σ → α → σ) (I : σ → Prop) : ∀ (xs : List α) (s : σ), I s → (∀ x ∈ xs, ∀ s, I s → body x s = some (g s x) ∧ I (g s x)) → forO body xs s = some (xs.foldl g s) ∧ I (xs.foldl g s)
  | [], s, h, _ => ⟨forO_nil, h⟩
  | x :: xs, s, h, hs => by
    obtain ⟨e, i⟩ := hs x List.mem_cons_self s h
    rw [forO_cons, e]
    exact forO_list g I xs (g s x) i fun y hy => hs y (List.mem_cons_of_mem _ hy)
theorem forR_list {α σ ρ : Type} {body : α → σ → Option (σ ⊕ ρ)} (g : σ → α → σ) (I : σ → Prop) : ∀ (xs : List α) (s : σ), I s → (∀ x ∈ xs, ∀ s, I s → body x s = some (.inl (g s x)) ∧ I (g s x)) → forR body xs s = some (.inl (xs.foldl g s)) ∧ I (xs.foldl g s)
  | [], s, h, _ => ⟨forR_nil, h⟩
  | x :: xs, s, h, hs => by
    obtain ⟨e, i⟩ := hs x List.mem_cons_self s h
    rw [forR_cons, e]
    exact forR_list g I xs (g s x) i fun y hy => hs y (List.mem_cons_of_mem _ hy)
/-- an invariant alone -/
theorem forO_inv {α σ : Type} {body : α → σ → Option σ} (I : σ → Prop) : ∀ (xs : List α) (s : σ), I s → (∀ x ∈ xs, ∀ s, I s → ∃ s', body x s = some s' ∧ I s') → ∃ s', forO body xs s = some s' ∧ I s'
  | [], s, h, _ => ⟨s, forO_nil, h⟩
  | x :: xs, s, h, hs => by
    obtain ⟨s1, e, i⟩ := hs x List.mem_cons_self s h
    rw [forO_cons, e]
    exact forO_inv I xs s1 i fun y hy => hs y (List.mem_cons_of_mem _ hy)
theorem forR_inv {α σ ρ : Type} {body : α → σ → Option (σ ⊕ ρ)} (I : σ → Prop) : ∀ (xs : List α) (s : σ), I s → (∀ x ∈ xs, ∀ s, I s → ∃ s', body x s = some (.inl s') ∧ I s') → ∃ s', forR body xs s = some (.inl s') ∧ I s'
  | [], s, h, _ => ⟨s, forR_nil, h⟩
  | x :: xs, s, h, hs => by
    obtain ⟨s1, e, i⟩ := hs x List.mem_cons_self s h
    rw [forR_cons, e]
    exact forR_inv I xs s1 i fun y hy => hs y (List.mem_cons_of_mem _ hy)
theorem mod_nat (v : Int) {n : Nat} (h : 0 < n) : ∃ k : Nat, k < n ∧ v % (n : Int) = (k : Int) := by
  refine ⟨(v % (n : Int)).toNat, ?_, ?_⟩
  · have h1 := Int.emod_lt_of_pos v (show (0 : Int) < (n : Int) by omega)
    have h0 := Int.emod_nonneg v (show (n : Int) ≠ 0 by omega)
    omega
  · have h0 := Int.emod_nonneg v (show (n : Int) ≠ 0 by omega)
    omega
theorem cutI_mem {α : Type} {xs : List α} {lo hi : Option Int} {x : α} (h : x ∈ cutI xs lo hi) : x ∈ xs := List.mem_of_mem_drop (List.mem_of_mem_take h)
theorem cutI_len {α : Type} {xs : List α} {lo hi : Option Int} : (cutI xs lo hi).length ≤ xs.length := by
  unfold cutI
  rw [List.length_take, List.length_drop]
  omega
theorem setI_nat {α : Type} {xs : List α} {k : Nat} {v : α} (h : k < xs.length) : setI xs (k : Int) v = some (xs.set k v) := by
  unfold setI L2.ixN
  rw [if_pos (by omega), if_pos (by omega), Int.toNat_natCast]
  rfl
theorem atI_nat' {α : Type} {xs : List α} {k : Nat} (h : k < xs.length) : L2.atI xs (k : Int) = some xs[k] := L2.atI_nat (List.getElem?_eq_getElem h)
end B
namespace B
open PySem Z
theorem un2_mk {α β γ : Type} {f : α → β → γ} {a : α} {b : β} : un2 f (a, b) = f a b := rfl
theorem un3_mk {α β γ δ : Type} {f : α → β → γ → δ} {a : α} {b : β} {c : γ} : un3 f (a, b, c) = f a b c := rfl
theorem un4_mk {α β γ δ ε : Type} {f : α → β → γ → δ → ε} {a : α} {b : β} {c : γ} {d : δ} : un4 f (a, b, c, d) = f a b c d := rfl
theorem nt : (!true) = false := rfl
theorem nf : (!false) = true := rfl
end B
namespace B
open PySem Z
/-- s lies in the bar -/
def inB (a l s : Nat) : Bool := s &&& a == l
def liesB (a l s : Nat) : Bool := (List.range 6).all fun k => !(a.testBit k) || (s.testBit k == l.testBit k)
theorem liesB_eq {a l s : Nat} (ha : a < 64) (hl : l < 64) (h : l &&& a = l) : liesB a l s = inB a l s := by
  unfold liesB inB
  by_cases e : s &&& a = l
  · rw [show (s &&& a == l) = true by simp [e]]
    rw [List.all_eq_true]
    intro k _
    have q := congrArg (fun x => x.testBit k) e
    simp only [Nat.testBit_and] at q
    cases ha : a.testBit k <;> simp_all
  · rw [show (s &&& a == l) = false by simp [e]]
    by_cases z : ((List.range 6).all fun k => !(a.testBit k) || (s.testBit k == l.testBit k)) = true
    · exfalso
      apply e
      rw [List.all_eq_true] at z
      apply Nat.eq_of_testBit_eq
      intro k
      rw [Nat.testBit_and]
      by_cases hk : k < 6
      · have q := z k (List.mem_range.mpr hk)
        have r := congrArg (fun x => x.testBit k) h
        simp only [Nat.testBit_and] at r
        cases ha : a.testBit k <;> simp_all
      · have h64 : (64 : Nat) ≤ 2 ^ k := Nat.pow_le_pow_right (n := 2) (by decide) (show 6 ≤ k by omega)
        rw [Nat.testBit_lt_two_pow (show a < 2 ^ k by omega), Nat.testBit_lt_two_pow (show l < 2 ^ k by omega), Bool.and_false]
    · simpa using z
theorem inB_of {a l s : Nat} : inB a l s = (s &&& a == l) := rfl
theorem and_full {m s : Nat} (hs : s < 2 ^ m) : s &&& (2 ^ m - 1) = s := by rw [Nat.and_two_pow_sub_one_eq_mod, Nat.mod_eq_of_lt hs]
/-- a loop over a list, its passes counted -/
theorem forO_cnt {α σ : Type} {body : α → σ → Option σ} (I : Nat → σ → Prop) : ∀ (xs : List α) (j : Nat) (s : σ), I j s → (∀ x ∈ xs, ∀ k s, k < j + xs.length → I k s → ∃ s', body x s = some s' ∧ I (k + 1) s') → ∃ s', forO body xs s = some s' ∧ I (j + xs.length) s'
  | [], _, s, h, _ => ⟨s, forO_nil, h⟩
  | x :: xs, j, s, h, hs => by
    have hl : (x :: xs).length = xs.length + 1 := rfl
    obtain ⟨s1, e, i⟩ := hs x List.mem_cons_self j s (by omega) h
    rw [forO_cons, e]
    obtain ⟨s2, e2, i2⟩ := forO_cnt I xs (j + 1) s1 i fun y hy k s hk hI => hs y (List.mem_cons_of_mem _ hy) k s (by omega) hI
    refine ⟨s2, e2, ?_⟩
    have : j + 1 + xs.length = j + (x :: xs).length := by omega
    rw [← this]; exact i2
theorem forR_cnt {α σ ρ : Type} {body : α → σ → Option (σ ⊕ ρ)} (I : Nat → σ → Prop) : ∀ (xs : List α) (j : Nat) (s : σ), I j s → (∀ x ∈ xs, ∀ k s, k < j + xs.length → I k s → ∃ s', body x s = some (.inl s') ∧ I (k + 1) s') → ∃ s', forR body xs s = some (.inl s') ∧ I (j + xs.length) s'
  | [], _, s, h, _ => ⟨s, forR_nil, h⟩
  | x :: xs, j, s, h, hs => by
    have hl : (x :: xs).length = xs.length + 1 := rfl
    obtain ⟨s1, e, i⟩ := hs x List.mem_cons_self j s (by omega) h
    rw [forR_cons, e]
    obtain ⟨s2, e2, i2⟩ := forR_cnt I xs (j + 1) s1 i fun y hy k s hk hI => hs y (List.mem_cons_of_mem _ hy) k s (by omega) hI
    refine ⟨s2, e2, ?_⟩
    have : j + 1 + xs.length = j + (x :: xs).length := by omega
    rw [← this]; exact i2
theorem ifo_nt {α : Type} {m n : Option α} : ifo (!true) m n = n := ifo_f rfl
theorem ifo_nf {α : Type} {m n : Option α} : ifo (!false) m n = m := ifo_t rfl
theorem ifo_tt {α : Type} {m n : Option α} : ifo true m n = m := ifo_t rfl
theorem ifo_ff {α : Type} {m n : Option α} : ifo false m n = n := ifo_f rfl
theorem sb {α β : Type} {a : α} {k : α → Option β} : (some a).bind k = k a := rfl
theorem one_and (n : Nat) : 1 &&& n = n % 2 := by rw [Nat.and_comm, Nat.and_one_is_mod]
end B

namespace B
open PySem Z L2
/-! ### the least bit -/
theorem neg_nat {c : Nat} (h : 0 < c) : (-(c : Int)) = bnot ((c - 1 : Nat) : Int) := by
  show _ = Builtin.bitNot _
  unfold Builtin.bitNot
  omega
theorem low_nat {c : Nat} (h : 0 < c) : band (c : Int) (-(c : Int)) = ((andn c (c - 1) : Nat) : Int) := by rw [neg_nat h, bandn_nat]
theorem tb_zero (c : Nat) : c.testBit 0 = decide (c % 2 = 1) := Nat.testBit_zero c
/-- there is a least bit -/
theorem least_bit : ∀ (c : Nat), 0 < c → ∃ k, c.testBit k = true ∧ (∀ i, i < k → c.testBit i = false) ∧ andn c (c - 1) = 2 ^ k := by
  intro c
  induction c using Nat.strongRecOn with
  | ind c ih =>
    intro h
    by_cases hp : c % 2 = 1
    · refine ⟨0, by rw [tb_zero, decide_eq_true hp], fun i hi => by omega, Nat.eq_of_testBit_eq fun i => ?_⟩
      rw [testBit_andn]
      cases i with
      | zero =>
        rw [tb_zero, tb_zero, decide_eq_true hp, decide_eq_false (by omega)]; rfl
      | succ i =>
        rw [Nat.testBit_succ, Nat.testBit_succ, show (c - 1) / 2 = c / 2 by omega, Nat.testBit_two_pow]
        rw [decide_eq_false (by omega)]
        cases (c / 2).testBit i <;> rfl
    · have h2 : 0 < c / 2 := by omega
      obtain ⟨k, k1, k2, k3⟩ := ih (c / 2) (by omega) h2
      refine ⟨k + 1, by rw [Nat.testBit_succ]; exact k1, fun i hi => ?_, Nat.eq_of_testBit_eq fun i => ?_⟩
      · cases i with
        | zero => rw [tb_zero, decide_eq_false hp]
        | succ i => rw [Nat.testBit_succ]; exact k2 i (by omega)
      · rw [testBit_andn]
        cases i with
        | zero =>
          rw [tb_zero, decide_eq_false hp, Nat.testBit_two_pow, decide_eq_false (by omega)]; rfl
        | succ i =>
          have e := congrArg (fun n => n.testBit i) k3
          simp only [testBit_andn, Nat.testBit_two_pow] at e
          rw [Nat.testBit_succ, Nat.testBit_succ, show (c - 1) / 2 = c / 2 - 1 by omega, e, Nat.testBit_two_pow]
          exact decide_eq_decide.mpr (by omega)
theorem blen_pow (k : Nat) : blen ((2 ^ k : Nat) : Int) = ((k + 1 : Nat) : Int) := by
  unfold blen Builtin.Int.intBits
  have h : ((((2 ^ k : Nat) : Int)) == 0) = false := by
    have := Nat.two_pow_pos k
    exact beq_eq_false_iff_ne.mpr (by omega)
  rw [h]
  show (((((2 ^ k : Nat) : Int).natAbs.log2 + 1 : Nat)) : Int) = _
  rw [Int.natAbs_natCast, Nat.log2_two_pow]
/-- the places of the bits, rising -/
def bitsL (n c : Nat) : List Nat := (List.range n).filter fun i => c.testBit i
theorem bitsL_zero (n : Nat) : bitsL n 0 = [] := by
  unfold bitsL
  rw [List.filter_eq_nil_iff]
  intro i _
  rw [Nat.zero_testBit]; exact Bool.false_ne_true
theorem mem_bitsL {n c i : Nat} : i ∈ bitsL n c ↔ i < n ∧ c.testBit i = true := by
  unfold bitsL
  rw [List.mem_filter, List.mem_range]
theorem bitsL_len (n c : Nat) : (bitsL n c).length ≤ n := by
  have := List.length_filter_le (fun i => c.testBit i) (List.range n)
  rwa [List.length_range] at this
theorem bitsL_cons {n c k : Nat} (hk : k < n) (h1 : c.testBit k = true) (h2 : ∀ i, i < k → c.testBit i = false) : bitsL n c = k :: bitsL n (c ^^^ 2 ^ k) := by
  have key : ∀ (p q : Nat → Bool) (m a : Nat), a ≤ k → k < a + m → p k = true → q k = false → (∀ i, i ≠ k → p i = q i) → (∀ i, i < k → p i = false) → (List.range' a m).filter p = k :: (List.range' a m).filter q := by
    intro p q m
    induction m with
    | zero => intro a h1 h2; omega
    | succ m ih =>
      intro a ha hm pk qk hpq hlo
      rw [List.range'_succ, List.filter_cons, List.filter_cons]
      by_cases e : a = k
      · subst e
        rw [if_pos pk, if_neg (by rw [qk]; exact Bool.false_ne_true)]
        congr 1
        apply List.filter_congr
        intro x hx
        rw [List.mem_range'_1] at hx
        exact hpq x (by omega)
      · have hlt : a < k := by omega
        rw [if_neg (by rw [hlo a hlt]; exact Bool.false_ne_true), if_neg (by rw [← hpq a e, hlo a hlt]; exact Bool.false_ne_true)]
        exact ih (a + 1) (by omega) (by omega) pk qk hpq hlo
  unfold bitsL
  rw [List.range_eq_range']
  refine key _ _ n 0 (by omega) (by omega) h1 ?_ (fun i hi => ?_) h2
  · rw [Nat.testBit_xor, Nat.testBit_two_pow, h1, decide_eq_true rfl]; rfl
  · rw [Nat.testBit_xor, Nat.testBit_two_pow, decide_eq_false (fun e => hi e.symm), Bool.xor_false]
theorem tb_lt {m a i : Nat} (h : a < 2 ^ m) (hi : a.testBit i = true) : i < m := by
  by_cases q : i < m
  · exact q
  · rw [Nat.testBit_lt_two_pow (Nat.lt_of_lt_of_le h (Nat.pow_le_pow_right (by decide) (by omega)))] at hi
    cases hi
theorem xor_lt {m a b : Nat} (ha : a < 2 ^ m) (hb : b < 2 ^ m) : a ^^^ b < 2 ^ m := Nat.xor_lt_two_pow ha hb
theorem bigN_eq' : bigN = 1000000 := Z.bigN_eq
/-! ### tables: lists told by a function -/
def zL (xs : List Nat) : List Int := xs.map fun (n : Nat) => (n : Int)
def tab (n : Nat) (f : Nat → Nat) : List Int := (List.range n).map fun i => ((f i : Nat) : Int)
theorem tab_len (n : Nat) (f : Nat → Nat) : (tab n f).length = n := by unfold tab; rw [List.length_map, List.length_range]
theorem tab_ext {n : Nat} {f g : Nat → Nat} (h : ∀ i, i < n → f i = g i) : tab n f = tab n g := by
  unfold tab
  apply List.map_congr_left
  intro i hi
  rw [h i (List.mem_range.mp hi)]
theorem tab_get {n : Nat} {f : Nat → Nat} {i : Nat} (h : i < n) : (tab n f)[i]? = some ((f i : Nat) : Int) := by
  unfold tab
  rw [List.getElem?_map, List.getElem?_range h]; rfl
theorem atI_tab {n : Nat} {f : Nat → Nat} {i : Nat} (h : i < n) : L2.atI (tab n f) (i : Int) = some ((f i : Nat) : Int) := L2.atI_nat (tab_get h)
def fup (f : Nat → Nat) (k v : Nat) : Nat → Nat := fun i => if i = k then v else f i
theorem tab_set {n : Nat} {f : Nat → Nat} {k v : Nat} : (tab n f).set k (v : Int) = tab n (fup f k v) := by
  apply List.ext_getElem?
  intro i
  rw [List.getElem?_set]
  by_cases hi : i < n
  · by_cases hk : k = i
    · subst hk
      rw [if_pos rfl, tab_len, if_pos hi, tab_get hi]
      unfold fup; rw [if_pos rfl]
    · rw [if_neg hk, tab_get hi, tab_get hi]
      unfold fup; rw [if_neg (fun e => hk e.symm)]
  · have e1 : (tab n f)[i]? = none := List.getElem?_eq_none (by rw [tab_len]; omega)
    have e2 : (tab n (fup f k v))[i]? = none := List.getElem?_eq_none (by rw [tab_len]; omega)
    rw [e1, e2]
    by_cases hk : k = i
    · subst hk; rw [if_pos rfl, tab_len, if_neg hi]
    · rw [if_neg hk]
theorem setI_tab {n : Nat} {f : Nat → Nat} {k v : Nat} (h : k < n) : setI (tab n f) (k : Int) (v : Int) = some (tab n (fup f k v)) := by
  rw [setI_nat (by rw [tab_len]; exact h), tab_set]
theorem mem_tab {n : Nat} {f : Nat → Nat} {x : Int} (h : x ∈ tab n f) : ∃ i, i < n ∧ x = ((f i : Nat) : Int) := by
  unfold tab at h
  rw [List.mem_map] at h
  obtain ⟨i, h1, h2⟩ := h
  exact ⟨i, List.mem_range.mp h1, h2.symm⟩
theorem mem_rangeI {n : Nat} {x : Int} : x ∈ rangeI 0 n → ∃ k : Nat, k < n ∧ x = (k : Int) := by
  intro h
  unfold rangeI at h
  rw [List.mem_map] at h
  obtain ⟨k, h1, h2⟩ := h
  exact ⟨k, List.mem_range.mp h1, by omega⟩
theorem rangeI_len {lo : Int} {n : Nat} : (rangeI lo n).length = n := by unfold rangeI; rw [List.length_map, List.length_range]
theorem rangeI_tab (n : Nat) : rangeI 0 n = tab n id := by
  unfold rangeI tab
  apply List.map_congr_left
  intro i _
  show (0 : Int) + (i : Int) = ((id i : Nat) : Int)
  rw [Int.zero_add]; rfl
theorem comp_const {α : Type} {xs : List α} {c : Int} (h : xs.length ≤ 16777216) : compO (fun _ => some (some c)) xs = some (xs.map fun _ => c) := by
  rw [compO_eq (g := fun _ => some c) h fun _ _ => rfl]
  congr 1
  clear h
  induction xs with
  | nil => rfl
  | cons x xs ih => rw [List.filterMap_cons, ih]; rfl
theorem map_zero_tab {α : Type} (xs : List α) {n : Nat} (h : xs.length = n) : (xs.map fun _ => (0 : Int)) = tab n fun _ => 0 := by
  subst h
  unfold tab
  induction xs with
  | nil => rfl
  | cons x xs ih =>
    rw [List.length_cons, List.range_succ_eq_map, List.map_cons, List.map_cons, List.map_map]
    rw [ih]
    rfl
theorem comp_zero {n : Nat} (h : n ≤ 16777216) : compO (fun _ => some (some 0)) (rangeI 0 n) = some (tab n fun _ => 0) := by
  rw [comp_const (by rw [rangeI_len]; exact h), map_zero_tab _ rangeI_len]
theorem comp_zeroL {xs : List Int} {n : Nat} (hl : xs.length = n) (h : n ≤ 16777216) : compO (fun _ => some (some 0)) xs = some (tab n fun _ => 0) := by
  rw [comp_const (by omega), map_zero_tab _ hl]
theorem tab_rev (n : Nat) (f : Nat → Nat) : (tab n f).reverse = tab n fun i => f (n - 1 - i) := by
  apply List.ext_getElem?
  intro i
  by_cases hi : i < n
  · rw [List.getElem?_reverse (by rw [tab_len]; exact hi), tab_len, tab_get (by omega), tab_get hi]
  · rw [List.getElem?_eq_none (by rw [List.length_reverse, tab_len]; omega), List.getElem?_eq_none (by rw [tab_len]; omega)]
theorem enumI_tab (n : Nat) (f : Nat → Nat) : enumI (tab n f) = (List.range n).map fun (i : Nat) => ((i : Int), ((f i : Nat) : Int)) := by
  apply List.ext_getElem?
  intro i
  unfold enumI
  by_cases hi : i < n
  · have := enumF_get (tab n f) 0 i _ (tab_get hi)
    rw [this, List.getElem?_map, List.getElem?_range hi, Nat.zero_add]; rfl
  · rw [List.getElem?_eq_none (by rw [enumF_len, tab_len]; omega), List.getElem?_eq_none (by rw [List.length_map, List.length_range]; omega)]
/-- a loop over the places below n, told as a list -/
theorem forO_map {α σ : Type} {body : α → σ → Option σ} {g : Nat → α} (I : Nat → σ → Prop) : ∀ (n : Nat) (s : σ), I 0 s → (∀ i s, i < n → I i s → ∃ s', body (g i) s = some s' ∧ I (i + 1) s') → ∃ s', forO body ((List.range n).map g) s = some s' ∧ I n s' := by
  have key : ∀ (n a : Nat) (s : σ), I a s → (∀ i s, a ≤ i → i < a + n → I i s → ∃ s', body (g i) s = some s' ∧ I (i + 1) s') → ∃ s', forO body ((List.range' a n).map g) s = some s' ∧ I (a + n) s' := by
    intro n
    induction n with
    | zero => intro a s h _; exact ⟨s, forO_nil, h⟩
    | succ n ih =>
      intro a s h hs
      obtain ⟨s1, e1, i1⟩ := hs a s (Nat.le_refl _) (by omega) h
      obtain ⟨s2, e2, i2⟩ := ih (a + 1) s1 i1 fun i s ha hi hI => hs i s (by omega) (by omega) hI
      refine ⟨s2, ?_, by rw [show a + (n + 1) = a + 1 + n by omega]; exact i2⟩
      rw [List.range'_succ, List.map_cons, forO_cons, e1]
      exact e2
  intro n s h hs
  obtain ⟨s', e, i⟩ := key n 0 s h fun i s _ hi hI => hs i s (by omega) hI
  rw [Nat.zero_add] at i
  exact ⟨s', by rw [List.range_eq_range']; exact e, i⟩
/-- a loop that asks the same of each, and passes -/
theorem forO_pass {α : Type} {body : α → Unit → Option Unit} : ∀ {xs : List α}, (∀ x ∈ xs, body x () = some ()) → forO body xs () = some ()
  | [], _ => forO_nil
  | x :: xs, h => by
    rw [forO_cons, h x List.mem_cons_self]
    exact forO_pass fun y hy => h y (List.mem_cons_of_mem _ hy)
theorem forR_pass {α ρ : Type} {body : α → Unit → Option (Unit ⊕ ρ)} : ∀ {xs : List α}, (∀ x ∈ xs, body x () = some (.inl ())) → forR body xs () = some (.inl ())
  | [], _ => forR_nil
  | x :: xs, h => by
    rw [forR_cons, h x List.mem_cons_self]
    exact forR_pass fun y hy => h y (List.mem_cons_of_mem _ hy)
theorem mask_or (i : Nat) (p : Nat → Bool) : mask i p ||| 2 ^ i = mask i p + 2 ^ i := by
  have h := mask_lt i p
  have e : mask i p + 2 ^ i = mask (i + 1) (fun j => if j = i then true else p j) := by
    rw [mask_succ, if_pos (by rw [if_pos rfl])]
    congr 1
    exact mask_congr fun j hj => by rw [if_neg (by omega)]
  rw [e]
  refine mask_ext (Nat.or_lt_two_pow (Nat.lt_of_lt_of_le h (Nat.pow_le_pow_right (by decide) (by omega))) (Nat.pow_lt_pow_right (by decide) (by omega))) fun j hj => ?_
  rw [Nat.testBit_or, testBit_mask, Nat.testBit_two_pow]
  by_cases e : j = i
  · subst e
    rw [if_pos rfl, decide_eq_true rfl, Bool.or_true]
  · rw [if_neg e, decide_eq_true (by omega), decide_eq_false (fun q => e q.symm), Bool.true_and, Bool.or_false]
/-- joined crowds -/
def orAll (f : Nat → Nat) : List Nat → Nat
  | [] => 0
  | x :: xs => f x ||| orAll f xs
theorem testBit_orAll (f : Nat → Nat) (i : Nat) : ∀ xs : List Nat, (orAll f xs).testBit i = xs.any fun x => (f x).testBit i
  | [] => by unfold orAll; rw [Nat.zero_testBit]; rfl
  | x :: xs => by
    unfold orAll
    rw [Nat.testBit_or, testBit_orAll f i xs, List.any_cons]
theorem orAll_lt {n : Nat} {f : Nat → Nat} : ∀ {xs : List Nat}, (∀ x ∈ xs, f x < 2 ^ n) → orAll f xs < 2 ^ n
  | [], _ => Nat.two_pow_pos n
  | x :: xs, h => Nat.or_lt_two_pow (h x List.mem_cons_self) (orAll_lt fun y hy => h y (List.mem_cons_of_mem _ hy))
theorem any_bitsL {n c : Nat} {p : Nat → Bool} : (bitsL n c).any p = (List.range n).any fun i => c.testBit i && p i := by
  unfold bitsL
  rw [List.any_filter]
theorem orAll_app (f : Nat → Nat) : ∀ xs ys : List Nat, orAll f (xs ++ ys) = orAll f xs ||| orAll f ys
  | [], ys => (Nat.zero_or _).symm
  | x :: xs, ys => by
    show f x ||| orAll f (xs ++ ys) = f x ||| orAll f xs ||| orAll f ys
    rw [orAll_app f xs ys, Nat.or_assoc]
theorem bitsL_succ (k c : Nat) : bitsL (k + 1) c = bitsL k c ++ if c.testBit k = true then [k] else [] := by
  unfold bitsL
  rw [List.range_succ, List.filter_append]
  congr 1
  rw [List.filter_cons]
  rfl
theorem and1_testBit (a k : Nat) : decide (((a >>> k &&& 1 : Nat) : Int) = 1) = a.testBit k := by
  rw [Nat.testBit, Nat.and_comm]
  have : (1 &&& a >>> k) = 0 ∨ (1 &&& a >>> k) = 1 := by
    rw [one_and]; omega
  rcases this with h | h <;> rw [h] <;> rfl
theorem asks1 (a k : Nat) : decide (band (shr (a : Int) (k : Int)) 1 = 1) = a.testBit k := by
  have o1 : ((1 : Nat) : Int) = 1 := rfl
  rw [shr_nat, ← o1, band_nat, o1, and1_testBit]
theorem pow_lt2 {k n : Nat} (h : k < n) : 2 ^ k < 2 ^ n := Nat.pow_lt_pow_right (by decide) h
theorem le64 {m : Nat} (hm : m ≤ 6) : 2 ^ m ≤ 64 := Nat.pow_le_pow_right (n := 2) (by decide) hm
/-! ### parts of lists -/
theorem cutI_from {α : Type} (xs : List α) (k : Nat) : cutI xs (some (k : Int)) none = xs.drop k := by
  unfold cutI
  rw [HT.sIx_nat, HT.sIx_none]
  by_cases h : k ≤ xs.length
  · rw [Nat.min_eq_left h, List.take_of_length_le (Nat.le_of_eq List.length_drop)]
  · rw [Nat.min_eq_right (by omega), List.drop_length, List.drop_eq_nil_of_le (i := k) (by omega), List.take_nil]
theorem cutI_to {α : Type} (xs : List α) (k : Nat) : cutI xs none (some (k : Int)) = xs.take k := by
  unfold cutI
  rw [HT.sIx_nat, HT.sIx_none, List.drop_zero, Nat.sub_zero]
  by_cases h : k ≤ xs.length
  · rw [Nat.min_eq_left h]
  · rw [Nat.min_eq_right (by omega), List.take_of_length_le (Nat.le_refl _), List.take_of_length_le (by omega)]
theorem cutI_init {α : Type} (xs : List α) : cutI xs none (some (-1)) = xs.dropLast := by
  unfold cutI
  rw [HT.sIx_none, List.drop_zero, Nat.sub_zero]
  have e : HT.sIx xs.length xs.length (some (-1)) = xs.length - 1 := by
    show (if (-1 : Int) < 0 then ((-1 : Int) + (xs.length : Int)).toNat else min (-1 : Int).toNat xs.length) = _
    rw [if_pos (by decide)]
    omega
  rw [e, List.dropLast_eq_take]
theorem atI_end {α : Type} {xs : List α} (h : xs ≠ []) : L2.atI xs (-1) = some (xs.getLast h) := by
  have e : xs = xs.dropLast ++ [xs.getLast h] := (List.dropLast_concat_getLast h).symm
  have := L2.atI_last xs.dropLast (xs.getLast h)
  rw [← e] at this
  exact this
theorem zL_len (xs : List Nat) : (zL xs).length = xs.length := by unfold zL; rw [List.length_map]
theorem atI_zL {xs : List Nat} {k : Nat} (h : k < xs.length) : L2.atI (zL xs) (k : Int) = some ((xs[k] : Nat) : Int) := by
  rw [atI_nat' (by rw [zL_len]; exact h)]
  unfold zL
  rw [List.getElem_map]
theorem atI_zLend {xs : List Nat} (h : xs ≠ []) : L2.atI (zL xs) (-1) = some ((xs.getLast h : Nat) : Int) := by
  have h' : zL xs ≠ [] := fun e => h (by unfold zL at e; exact List.map_eq_nil_iff.mp e)
  rw [atI_end h']
  exact congrArg some (List.getLast_map (f := fun (n : Nat) => (n : Int)) (l := xs) h')
theorem mem_zL {xs : List Nat} {x : Int} (h : x ∈ zL xs) : ∃ k, k ∈ xs ∧ x = (k : Int) := by
  unfold zL at h
  rw [List.mem_map] at h
  obtain ⟨k, h1, h2⟩ := h
  exact ⟨k, h1, h2.symm⟩
theorem zL_of {xs : List Int} {N : Nat} (h : ∀ x ∈ xs, ∃ k : Nat, k < N ∧ x = (k : Int)) : ∃ ws : List Nat, (∀ w ∈ ws, w < N) ∧ xs = zL ws := by
  induction xs with
  | nil => exact ⟨[], fun _ h => (by cases h), rfl⟩
  | cons x xs ih =>
    obtain ⟨k, hk, rfl⟩ := h x List.mem_cons_self
    obtain ⟨ws, h1, rfl⟩ := ih fun y hy => h y (List.mem_cons_of_mem _ hy)
    refine ⟨k :: ws, fun w hw => ?_, rfl⟩
    rcases List.mem_cons.mp hw with rfl | hw
    · exact hk
    · exact h1 w hw
/-! ### loops that ask -/
theorem forR_allL {α ρ : Type} {body : α → Unit → Option (Unit ⊕ ρ)} {v : ρ} (p : α → Bool) : ∀ {xs : List α}, (∀ x ∈ xs, body x () = some (if p x = true then .inl () else .inr v)) →
    forR body xs () = some (if xs.all p = true then .inl () else .inr v)
  | [], _ => by rw [forR_nil]; rfl
  | x :: xs, h => by
    rw [forR_cons, h x List.mem_cons_self, List.all_cons]
    cases p x with
    | false => rfl
    | true =>
      show forR body xs () = _
      rw [forR_allL p fun y hy => h y (List.mem_cons_of_mem _ hy)]
      rw [Bool.true_and]
theorem brk_if {ρ : Type} {b : Bool} {v : ρ} {k : Unit → Option ρ} : brk (some (if b = true then Sum.inl () else Sum.inr v)) k = if b = true then k () else some v := by
  cases b <;> rfl
theorem brk_eq {σ ρ : Type} {m n : Option (σ ⊕ ρ)} {k : σ → Option ρ} (h : m = n) : brk m k = brk n k := by rw [h]
theorem comp_map {α β : Type} {xs : List α} {f : α → Option (Option β)} {g : α → β} (hl : xs.length ≤ 16777216) (h : ∀ x ∈ xs, f x = some (some (g x))) : compO f xs = some (xs.map g) := by
  rw [compO_eq (g := fun x => some (g x)) hl h]
  congr 1
  clear h hl
  induction xs with
  | nil => rfl
  | cons x xs ih => rw [List.filterMap_cons, ih]; rfl
theorem tb_shr (a k : Nat) : decide (band (shr (a : Int) (k : Int)) 1 = 0) = !a.testBit k := by
  have h := asks1 a k
  have e : ∀ x : Nat, decide (((x &&& 1 : Nat) : Int) = 0) = !decide (((x &&& 1 : Nat) : Int) = 1) := fun x => by
    have : x &&& 1 = x % 2 := Nat.and_one_is_mod x
    rw [this, ← decide_not]
    exact decide_eq_decide.mpr (by omega)
  have o1 : ((1 : Nat) : Int) = 1 := rfl
  rw [shr_nat, ← o1, band_nat, o1] at h
  rw [shr_nat, ← o1, band_nat, e, h]
theorem tb_div (a k : Nat) : ((a : Int) / ((2 ^ k : Nat) : Int)) % 2 = if a.testBit k = true then 1 else 0 := by
  have e : ((a : Int) / ((2 ^ k : Nat) : Int)) % 2 = ((a / 2 ^ k % 2 : Nat) : Int) := by omega
  rw [e, Nat.testBit_eq_decide_div_mod_eq]
  by_cases h : a / 2 ^ k % 2 = 1
  · rw [h, if_pos (by rw [decide_eq_true rfl])]; rfl
  · rw [if_neg (by rw [decide_eq_false h]; exact Bool.false_ne_true)]; omega
theorem tb_div0 (a k : Nat) : decide (((a : Int) / ((2 ^ k : Nat) : Int)) % 2 = 0) = !a.testBit k := by rw [tb_div]; cases a.testBit k <;> rfl
theorem tb_div1 (a k : Nat) : decide (((a : Int) / ((2 ^ k : Nat) : Int)) % 2 = 1) = a.testBit k := by rw [tb_div]; cases a.testBit k <;> rfl
theorem pow_200 {k : Nat} (h : k < 200) : 2 ^ k < 2 ^ 200 := pow_lt2 h
theorem bitsL_pow {n k : Nat} (h : k < n) : bitsL n (2 ^ k) = [k] := by
  have := bitsL_cons (n := n) (c := 2 ^ k) h (by rw [Nat.testBit_two_pow, decide_eq_true rfl]) fun i hi => by rw [Nat.testBit_two_pow, decide_eq_false (by omega)]
  rw [this, Nat.xor_self, bitsL_zero]
theorem orAll_one (f : Nat → Nat) (k : Nat) : orAll f [k] = f k := Nat.or_zero _
theorem fup_lt {n N : Nat} {f : Nat → Nat} {k v : Nat} (hf : ∀ s, s < n → f s < N) (hv : v < N) : ∀ s, s < n → fup f k v s < N := fun s hs => by
  unfold fup
  by_cases e : s = k
  · rw [if_pos e]; exact hv
  · rw [if_neg e]; exact hf s hs
theorem andn_lt {m a b : Nat} (h : a < 2 ^ m) : andn a b < 2 ^ m := by
  unfold andn
  exact xor_lt h (Nat.lt_of_le_of_lt Nat.and_le_left h)
/-! ### how many bits -/
def cnt : Nat → Nat → Nat
  | 0, _ => 0
  | n + 1, c => cnt n c + if c.testBit n = true then 1 else 0
theorem cnt_le : ∀ (n c : Nat), cnt n c ≤ n
  | 0, _ => Nat.le_refl _
  | n + 1, c => by
    have := cnt_le n c
    unfold cnt
    split <;> omega
theorem cnt_mono {a b : Nat} (h : ∀ i, a.testBit i = true → b.testBit i = true) : ∀ n, cnt n a ≤ cnt n b
  | 0 => Nat.le_refl _
  | n + 1 => by
    have := cnt_mono h n
    unfold cnt
    by_cases q : a.testBit n = true
    · rw [if_pos q, if_pos (h n q)]; omega
    · rw [if_neg q]; split <;> omega
theorem cnt_lt {a b : Nat} (h : ∀ i, a.testBit i = true → b.testBit i = true) {k : Nat} (ka : a.testBit k = false) (kb : b.testBit k = true) : ∀ n, k < n → cnt n a < cnt n b
  | 0, hk => by omega
  | n + 1, hk => by
    unfold cnt
    by_cases e : k = n
    · subst e
      have := cnt_mono h k
      rw [if_neg (by rw [ka]; exact Bool.false_ne_true), if_pos kb]; omega
    · have := cnt_lt h ka kb n (by omega)
      by_cases q : a.testBit n = true
      · rw [if_pos q, if_pos (h n q)]; omega
      · rw [if_neg q]; split <;> omega
theorem cnt_grow {n a b : Nat} (hb : b < 2 ^ n) (h : ∀ i, a.testBit i = true → b.testBit i = true) (ne : b ≠ a) : cnt n a < cnt n b := by
  have : ∃ k, a.testBit k = false ∧ b.testBit k = true := Classical.byContradiction fun hn => ne (Nat.eq_of_testBit_eq fun i => by
    cases ea : a.testBit i with
    | true => exact h i ea
    | false =>
      cases eb : b.testBit i with
      | false => rfl
      | true => exact absurd ⟨i, ea, eb⟩ hn)
  obtain ⟨k, k1, k2⟩ := this
  exact cnt_lt h k1 k2 n (tb_lt hb k2)
/-! ### the flood, layer by layer -/
/-- a crowd and all to which a step leads from it -/
def nxt (n : Nat) (f : Nat → Nat) (c : Nat) : Nat := c ||| orAll f (bitsL n c)
theorem nxt_lt {n N : Nat} {f : Nat → Nat} (hf : ∀ s, s < n → f s < 2 ^ N) {c : Nat} (hc : c < 2 ^ N) : nxt n f c < 2 ^ N := Nat.or_lt_two_pow hc (orAll_lt fun x hx => hf x (mem_bitsL.mp hx).1)
theorem nxt_sub (n : Nat) (f : Nat → Nat) (c i : Nat) (h : c.testBit i = true) : (nxt n f c).testBit i = true := by
  unfold nxt
  rw [Nat.testBit_or, h]; rfl
def layF (n : Nat) (f : Nat → Nat) : Nat → Nat → List Nat
  | 0, c => [c]
  | k + 1, c => if nxt n f c = c then [c] else c :: layF n f k (nxt n f c)
/-- layers -/
def Lay (n : Nat) (f : Nat → Nat) : List Nat → Prop
  | [] => False
  | [c] => nxt n f c = c
  | c :: d :: l => d = nxt n f c ∧ d ≠ c ∧ Lay n f (d :: l)
theorem layF_head (n : Nat) (f : Nat → Nat) (k c : Nat) : ∃ l, layF n f k c = c :: l := by
  cases k with
  | zero => exact ⟨[], rfl⟩
  | succ k =>
    unfold layF
    split
    · exact ⟨[], rfl⟩
    · exact ⟨_, rfl⟩
theorem layF_lay {n : Nat} {f : Nat → Nat} (hf : ∀ s, s < n → f s < 2 ^ n) : ∀ (k c : Nat), c < 2 ^ n → n < cnt n c + k → Lay n f (layF n f k c)
  | 0, c, _, hk => by have := cnt_le n c; omega
  | k + 1, c, hc, hk => by
    unfold layF
    by_cases e : nxt n f c = c
    · rw [if_pos e]; exact e
    · rw [if_neg e]
      have hl := nxt_lt hf hc
      have g := cnt_grow hl (nxt_sub n f c) e
      obtain ⟨l, el⟩ := layF_head n f k (nxt n f c)
      have ih := layF_lay hf k (nxt n f c) hl (by omega)
      rw [el] at ih ⊢
      exact ⟨rfl, e, ih⟩
theorem layF_lt {n : Nat} {f : Nat → Nat} (hf : ∀ s, s < n → f s < 2 ^ n) : ∀ (k c : Nat), c < 2 ^ n → ∀ x ∈ layF n f k c, x < 2 ^ n
  | 0, c, hc, x, hx => by rw [List.mem_singleton.mp hx]; exact hc
  | k + 1, c, hc, x, hx => by
    unfold layF at hx
    split at hx
    · rw [List.mem_singleton.mp hx]; exact hc
    · rcases List.mem_cons.mp hx with rfl | hx
      · exact hc
      · exact layF_lt hf k _ (nxt_lt hf hc) x hx
theorem layF_len (n : Nat) (f : Nat → Nat) : ∀ (k c : Nat), (layF n f k c).length ≤ k + 1
  | 0, c => Nat.le_refl _
  | k + 1, c => by
    have := layF_len n f k (nxt n f c)
    unfold layF
    split
    · show 1 ≤ _; omega
    · rw [List.length_cons]; omega
theorem Lay.at {n : Nat} {f : Nat → Nat} : ∀ {L : List Nat}, Lay n f L → ∀ k, (h : k + 1 < L.length) → L[k + 1] = nxt n f L[k] ∧ L[k + 1] ≠ L[k]
  | [], h, _, _ => h.elim
  | [c], _, k, h => by simp at h
  | c :: d :: l, h, 0, _ => ⟨h.1, h.2.1⟩
  | c :: d :: l, h, k + 1, hk => Lay.at (L := d :: l) h.2.2 k (by simpa using hk)
theorem Lay.last {n : Nat} {f : Nat → Nat} : ∀ {L : List Nat}, Lay n f L → (hn : L ≠ []) → nxt n f (L.getLast hn) = L.getLast hn
  | [], h, _ => h.elim
  | [c], h, _ => h
  | c :: d :: l, h, _ => by
    rw [List.getLast_cons_cons]
    exact Lay.last (L := d :: l) h.2.2 _
theorem zL_tab (ws : List Nat) : zL ws = tab ws.length fun i => ws.getD i 0 := by
  apply List.ext_getElem?
  intro i
  by_cases hi : i < ws.length
  · have g : ws.getD i 0 = ws[i] := by rw [List.getD_eq_getElem?_getD, List.getElem?_eq_getElem hi]; rfl
    rw [tab_get hi, g]
    unfold zL
    rw [List.getElem?_map, List.getElem?_eq_getElem hi]; rfl
  · rw [List.getElem?_eq_none (by rw [zL_len]; omega), List.getElem?_eq_none (by rw [tab_len]; omega)]
theorem tab_of {xs : List Int} {n N : Nat} (hl : xs.length = n) (h : ∀ x ∈ xs, ∃ k : Nat, k < N ∧ x = (k : Int)) : ∃ f : Nat → Nat, (∀ s, s < n → f s < N) ∧ xs = tab n f := by
  obtain ⟨ws, h1, rfl⟩ := zL_of h
  rw [zL_len] at hl
  subst hl
  refine ⟨fun i => ws.getD i 0, fun s hs => ?_, zL_tab ws⟩
  show ws.getD s 0 < N
  rw [List.getD_eq_getElem?_getD, List.getElem?_eq_getElem hs]
  exact h1 _ (List.getElem_mem hs)
/-! ### ranges with a step -/
theorem rsize_le {i j c : Int} (h : 0 < c) : Builtin.Range.rangeSize i j c ≤ (if i < j then j - i else 0) := by
  unfold Builtin.Range.rangeSize
  rw [if_pos h]
  split
  · have : (j - i - 1) / c ≤ j - i - 1 := Int.ediv_le_self _ (by omega)
    omega
  · omega
theorem gR3_of {i j c : Int} (h1 : 0 ≤ i) (h2 : i ≤ 1000000) (h3 : 0 ≤ j) (h4 : j ≤ 1000000) (h5 : 0 < c) (h6 : c ≤ 1000000) : gR3 i j c := by
  refine ⟨h5, by omega, ?_⟩
  have a := rsize_nn (i := i) (j := j) h5
  have b := rsize_le (i := i) (j := j) h5
  unfold Builtin.Range.small
  obtain ⟨n, hn⟩ : ∃ n, n = Builtin.Range.rangeSize i j c := ⟨_, rfl⟩
  rw [← hn] at a b ⊢
  have hb : n ≤ 1000000 := by split at b <;> omega
  rw [if_pos (show c > 0 from h5)]
  simp only [Builtin.Range.rangeFitsLong, Bool.and_eq_true, Bool.or_eq_true, decide_eq_true_eq, beq_iff_eq]
  exact ⟨by omega, .inr (by omega)⟩
theorem mem_rangeS {i j c x : Int} (hc : 0 < c) (h : x ∈ rangeS i j c) : i ≤ x ∧ x < j := by
  unfold rangeS at h
  rw [List.mem_map] at h
  obtain ⟨k, hk, rfl⟩ := h
  rw [List.mem_range] at hk
  have h0 := Int.mul_nonneg (show (0 : Int) ≤ (k : Int) by omega) (show (0 : Int) ≤ c by omega)
  refine ⟨by omega, ?_⟩
  unfold Builtin.Range.rangeSize at hk
  rw [if_pos hc] at hk
  split at hk
  · have h1 : (k : Int) ≤ (j - i - 1) / c := by omega
    have h2 := (Int.le_ediv_iff_mul_le hc).mp h1
    omega
  · simp at hk
/-! ### floods by steps -/
theorem nodup_len : ∀ (n : Nat) (Q : List Nat), Q.Nodup → (∀ x ∈ Q, x < n) → Q.length ≤ n
  | 0, Q, _, h => by
    cases Q with
    | nil => exact Nat.le_refl _
    | cons x xs => exact absurd (h x List.mem_cons_self) (by omega)
  | n + 1, Q, hd, h => by
    have h2 := nodup_len n (Q.erase n) (hd.erase n) fun x hx => by
      have := (hd.mem_erase_iff).mp hx
      have := h x this.2
      omega
    have : Q.length ≤ (Q.erase n).length + 1 := by
      rw [List.length_erase]
      split <;> omega
    omega
def itN (n : Nat) (f : Nat → Nat) (st : Nat) : Nat → Nat
  | 0 => st
  | k + 1 => nxt n f (itN n f st k)
theorem itN_lt {n : Nat} {f : Nat → Nat} (hf : ∀ s, s < n → f s < 2 ^ n) {st : Nat} (h : st < 2 ^ n) : ∀ k, itN n f st k < 2 ^ n
  | 0 => h
  | k + 1 => nxt_lt hf (itN_lt hf h k)
theorem itN_sub {n : Nat} {f : Nat → Nat} {st : Nat} {t : Nat} : ∀ {j k : Nat}, j ≤ k → (itN n f st j).testBit t = true → (itN n f st k).testBit t = true := by
  intro j k h ht
  induction k with
  | zero => rw [show j = 0 by omega] at ht; exact ht
  | succ k ih =>
    by_cases e : j = k + 1
    · rw [← e]; exact ht
    · exact nxt_sub _ _ _ _ (ih (by omega))
theorem nxt_iff {n : Nat} {f : Nat → Nat} {c t : Nat} : (nxt n f c).testBit t = true ↔ c.testBit t = true ∨ ∃ u, u < n ∧ c.testBit u = true ∧ (f u).testBit t = true := by
  unfold nxt
  rw [Nat.testBit_or, testBit_orAll, Bool.or_eq_true, List.any_eq_true]
  constructor
  · intro h
    rcases h with h | ⟨u, h1, h2⟩
    · exact .inl h
    · obtain ⟨a, b⟩ := mem_bitsL.mp h1
      exact .inr ⟨u, a, b, h2⟩
  · intro h
    rcases h with h | ⟨u, h1, h2, h3⟩
    · exact .inl h
    · exact .inr ⟨u, mem_bitsL.mpr ⟨h1, h2⟩, h3⟩
theorem Lay.it {n : Nat} {f : Nat → Nat} {st : Nat} {L : List Nat} (h : Lay n f L) (h0 : ∃ l, L = st :: l) : ∀ i, (hi : i < L.length) → L[i] = itN n f st i
  | 0, hi => by obtain ⟨l, rfl⟩ := h0; rfl
  | i + 1, hi => by
    rw [(h.at i hi).1, Lay.it h h0 i (by omega)]; rfl
theorem Lay.end {n : Nat} {f : Nat → Nat} {st : Nat} {L : List Nat} (h : Lay n f L) (h0 : ∃ l, L = st :: l) (hne : L ≠ []) : ∀ k, L.length ≤ k + 1 → itN n f st k = L.getLast hne := by
  intro k
  induction k with
  | zero =>
    intro hk
    obtain ⟨l, rfl⟩ := h0
    have : l = [] := by
      cases l with
      | nil => rfl
      | cons a b => simp at hk
    subst this; rfl
  | succ k ih =>
    intro hk
    by_cases e : L.length ≤ k + 1
    · show nxt n f (itN n f st k) = _
      rw [ih e]; exact h.last hne
    · have e2 : L.length = k + 2 := by omega
      rw [List.getLast_eq_getElem, ← Lay.it h h0 (k + 1) (by omega)]
      congr 1
      omega
end B

namespace B
open PySem Z
/-! ### what an answer is wanted for, from the front -/
section
variable {α β σ ρ : Type} {A : β → Prop}
theorem W.bind {m : Option α} {k : α → Option β} {P : α → Prop} (h : OP m P) (hk : ∀ x, P x → OP (k x) A) : OP (m.bind k) A := by
  obtain ⟨x, rfl, hx⟩ := OP.get h
  exact hk x hx
theorem W.eq {m : Option α} {a : α} {k : α → Option β} (h : m = some a) (hk : OP (k a) A) : OP (m.bind k) A := by rw [h]; exact hk
theorem W.grd {c : Prop} {_ : Decidable c} {k : Option β} (h : c) (hk : OP k A) : OP (Z.grd c k) A := by rw [grd_of h]; exact hk
theorem W.lt {e : α} {k : α → Option β} (hk : OP (k e) A) : OP (Z.lt e k) A := hk
theorem W.ltx {e : α} {k : α → Option β} (hk : ∀ x, x = e → OP (k x) A) : OP (Z.lt e k) A := hk e rfl
theorem W.ite {c : Bool} {m n : Option β} (h1 : c = true → OP m A) (h2 : c = false → OP n A) : OP (ifo c m n) A := by
  cases c with
  | true => rw [ifo_t rfl]; exact h1 rfl
  | false => rw [ifo_f rfl]; exact h2 rfl
theorem W.t {c : Bool} {m n : Option β} (hc : c = true) (h : OP m A) : OP (ifo c m n) A := by rw [ifo_t hc]; exact h
theorem W.f {c : Bool} {m n : Option β} (hc : c = false) (h : OP n A) : OP (ifo c m n) A := by rw [ifo_f hc]; exact h
theorem W.ret {a : β} (h : A a) : OP (some a) A := h
theorem W.as {m : Option β} {P : β → Prop} (h : OP m P) (hk : ∀ x, P x → A x) : OP m A := h.mono hk
theorem W.got {m : Option β} {a : β} (h : OP m (· = a)) : m = some a := by
  obtain ⟨x, rfl, e⟩ := OP.get h
  rw [e]
theorem W.of {m : Option β} {a : β} (e : m = some a) (h : A a) : OP m A := OP.mk e h
theorem W.brk {m : Option (σ ⊕ β)} {k : σ → Option β} {P : σ → Prop} (h : OP m (SE P A)) (hk : ∀ s, P s → OP (k s) A) : OP (Z.brk m k) A := by
  obtain ⟨x, rfl, hx⟩ := OP.get h
  cases x with
  | inl s => exact hk s hx
  | inr v => exact hx
/-! loops -/
theorem W.for_inv {body : α → σ → Option σ} (I : σ → Prop) : ∀ {xs : List α} {s : σ}, I s → (∀ x ∈ xs, ∀ s, I s → OP (body x s) I) → OP (forO body xs s) I
  | [], s, h, _ => by rw [forO_nil]; exact h
  | x :: xs, s, h, hs => by
    rw [forO_cons]
    exact W.bind (hs x List.mem_cons_self s h) fun s' h' => W.for_inv I h' fun y hy => hs y (List.mem_cons_of_mem _ hy)
theorem W.for_pre {body : α → σ → Option σ} (I : List α → σ → Prop) {xs : List α} {s : σ} (h : I [] s) (hs : ∀ pre x suf s, xs = pre ++ x :: suf → I pre s → OP (body x s) (I (pre ++ [x]))) : OP (forO body xs s) (I xs) := by
  have key : ∀ (suf pre : List α) (s : σ), xs = pre ++ suf → I pre s → OP (forO body suf s) (I xs) := by
    intro suf
    induction suf with
    | nil => intro pre s e h; rw [forO_nil]; rw [e, List.append_nil]; exact h
    | cons x suf ih =>
      intro pre s e h
      rw [forO_cons]
      exact W.bind (hs pre x suf s e h) fun s' h' => ih (pre ++ [x]) s' (by rw [List.append_assoc]; exact e) h'
  exact key xs [] s rfl h
theorem W.for_rng {body : Int → σ → Option σ} (I : Nat → σ → Prop) : ∀ {n a : Nat} {s : σ}, I a s → (∀ i s, a ≤ i → i < a + n → I i s → OP (body (i : Int) s) (I (i + 1))) → OP (forO body (rangeI (a : Int) n) s) (I (a + n))
  | 0, a, s, h, _ => by rw [rangeI_zero, forO_nil]; exact h
  | n + 1, a, s, h, hs => by
    rw [rangeI_succ, forO_cons]
    refine W.bind (hs a s (Nat.le_refl _) (by omega) h) fun s' h' => ?_
    have := W.for_rng (body := body) I (n := n) (a := a + 1) h' fun i s h1 h2 => hs i s (by omega) (by omega)
    rw [show ((a : Int) + 1) = ((a + 1 : Nat) : Int) by omega, show a + (n + 1) = a + 1 + n by omega]
    exact this
theorem W.for_r {body : Int → σ → Option σ} (I : Nat → σ → Prop) {n : Nat} {s : σ} (h : I 0 s) (hs : ∀ i s, i < n → I i s → OP (body (i : Int) s) (I (i + 1))) : OP (forO body (rangeI 0 n) s) (I n) := by
  have := W.for_rng (body := body) I (n := n) (a := 0) h fun i s _ h2 => hs i s (by omega)
  rw [Nat.zero_add] at this
  exact this
theorem W.for_tab {body : Int → σ → Option σ} {f : Nat → Nat} (I : Nat → σ → Prop) {n : Nat} {s : σ} (h : I 0 s) (hs : ∀ i s, i < n → I i s → OP (body ((f i : Nat) : Int) s) (I (i + 1))) : OP (forO body (tab n f) s) (I n) := by
  obtain ⟨s', e, h'⟩ := forO_map (g := fun i => ((f i : Nat) : Int)) I n s h fun i s hi hI => by
    obtain ⟨x, e, hx⟩ := OP.get (hs i s hi hI)
    exact ⟨x, e, hx⟩
  exact OP.mk e h'
theorem W.for_map {body : α → σ → Option σ} {g : Nat → α} (I : Nat → σ → Prop) {n : Nat} {s : σ} (h : I 0 s) (hs : ∀ i s, i < n → I i s → OP (body (g i) s) (I (i + 1))) : OP (forO body ((List.range n).map g) s) (I n) := by
  obtain ⟨s', e, h'⟩ := forO_map (g := g) I n s h fun i s hi hI => by
    obtain ⟨x, e, hx⟩ := OP.get (hs i s hi hI)
    exact ⟨x, e, hx⟩
  exact OP.mk e h'
theorem W.forR_inv {body : α → σ → Option (σ ⊕ ρ)} (I : σ → Prop) (V : ρ → Prop) : ∀ {xs : List α} {s : σ}, I s → (∀ x ∈ xs, ∀ s, I s → OP (body x s) (SE I V)) → OP (forR body xs s) (SE I V)
  | [], s, h, _ => by rw [forR_nil]; exact h
  | x :: xs, s, h, hs => by
    rw [forR_cons]
    refine W.bind (hs x List.mem_cons_self s h) fun r hr => ?_
    cases r with
    | inl s' => exact W.forR_inv I V hr fun y hy => hs y (List.mem_cons_of_mem _ hy)
    | inr v => exact hr
theorem W.forR_pre {body : α → σ → Option (σ ⊕ ρ)} (I : List α → σ → Prop) (V : ρ → Prop) {xs : List α} {s : σ} (h : I [] s) (hs : ∀ pre x suf s, xs = pre ++ x :: suf → I pre s → OP (body x s) (SE (I (pre ++ [x])) V)) : OP (forR body xs s) (SE (I xs) V) := by
  have key : ∀ (suf pre : List α) (s : σ), xs = pre ++ suf → I pre s → OP (forR body suf s) (SE (I xs) V) := by
    intro suf
    induction suf with
    | nil => intro pre s e h; rw [forR_nil]; rw [e, List.append_nil]; exact h
    | cons x suf ih =>
      intro pre s e h
      rw [forR_cons]
      refine W.bind (hs pre x suf s e h) fun r hr => ?_
      cases r with
      | inl s' => exact ih (pre ++ [x]) s' (by rw [List.append_assoc]; exact e) hr
      | inr v => exact hr
  exact key xs [] s rfl h
theorem W.forR_rng {body : Int → σ → Option (σ ⊕ ρ)} (I : Nat → σ → Prop) (V : ρ → Prop) : ∀ {n a : Nat} {s : σ}, I a s → (∀ i s, a ≤ i → i < a + n → I i s → OP (body (i : Int) s) (SE (I (i + 1)) V)) → OP (forR body (rangeI (a : Int) n) s) (SE (I (a + n)) V)
  | 0, a, s, h, _ => by rw [rangeI_zero, forR_nil]; exact h
  | n + 1, a, s, h, hs => by
    rw [rangeI_succ, forR_cons]
    refine W.bind (hs a s (Nat.le_refl _) (by omega) h) fun r hr => ?_
    cases r with
    | inl s' =>
      have := W.forR_rng (body := body) I V (n := n) (a := a + 1) hr fun i s h1 h2 => hs i s (by omega) (by omega)
      rw [show ((a : Int) + 1) = ((a + 1 : Nat) : Int) by omega, show a + (n + 1) = a + 1 + n by omega]
      exact this
    | inr v => exact hr
theorem W.forR_r {body : Int → σ → Option (σ ⊕ ρ)} (I : Nat → σ → Prop) (V : ρ → Prop) {n : Nat} {s : σ} (h : I 0 s) (hs : ∀ i s, i < n → I i s → OP (body (i : Int) s) (SE (I (i + 1)) V)) : OP (forR body (rangeI 0 n) s) (SE (I n) V) := by
  have := W.forR_rng (body := body) I V (n := n) (a := 0) h fun i s _ h2 => hs i s (by omega)
  rw [Nat.zero_add] at this
  exact this
theorem W.forR_map {body : α → σ → Option (σ ⊕ ρ)} {g : Nat → α} (I : Nat → σ → Prop) (V : ρ → Prop) {n : Nat} {s : σ} (h : I 0 s) (hs : ∀ i s, i < n → I i s → OP (body (g i) s) (SE (I (i + 1)) V)) : OP (forR body ((List.range n).map g) s) (SE (I n) V) := by
  have key : ∀ (n a : Nat) (s : σ), I a s → (∀ i s, a ≤ i → i < a + n → I i s → OP (body (g i) s) (SE (I (i + 1)) V)) → OP (forR body ((List.range' a n).map g) s) (SE (I (a + n)) V) := by
    intro n
    induction n with
    | zero => intro a s h _; rw [List.range'_zero, List.map_nil, forR_nil]; exact h
    | succ n ih =>
      intro a s h hs
      rw [List.range'_succ, List.map_cons, forR_cons]
      refine W.bind (hs a s (Nat.le_refl _) (by omega) h) fun r hr => ?_
      cases r with
      | inl s' =>
        have := ih (a + 1) s' hr fun i s h1 h2 => hs i s (by omega) (by omega)
        rw [show a + (n + 1) = a + 1 + n by omega]
        exact this
      | inr v => exact hr
  have := key n 0 s h fun i s _ h2 => hs i s (by omega)
  rw [Nat.zero_add] at this
  rw [List.range_eq_range']
  exact this
/-- a while, by a measure -/
theorem W.while' {c : σ → Option Bool} {body : σ → Option σ} (I : σ → Prop) (μ : σ → Nat) (P : σ → Prop) : ∀ {fuel : Nat} {s : σ}, I s → μ s < fuel → (∀ s, I s → OP (c s) fun b => (b = true → OP (body s) fun s' => I s' ∧ μ s' < μ s) ∧ (b = false → P s)) → OP (whileO c body fuel s) P
  | 0, s, _, hm, _ => by omega
  | f + 1, s, h, hm, hs => by
    rw [whileO_succ]
    refine W.bind (hs s h) fun b hb => ?_
    cases b with
    | true =>
      rw [if_pos rfl]
      exact W.bind (hb.1 rfl) fun s' h' => W.while' I μ P h'.1 (by omega) hs
    | false =>
      rw [if_neg Bool.false_ne_true]
      exact hb.2 rfl
theorem W.whileR' {c : σ → Option Bool} {body : σ → Option (σ ⊕ ρ)} (I : σ → Prop) (μ : σ → Nat) (P : σ → Prop) (V : ρ → Prop) : ∀ {fuel : Nat} {s : σ}, I s → μ s < fuel → (∀ s, I s → OP (c s) fun b => (b = true → OP (body s) (SE (fun s' => I s' ∧ μ s' < μ s) V)) ∧ (b = false → P s)) → OP (whileR c body fuel s) (SE P V)
  | 0, s, _, hm, _ => by omega
  | f + 1, s, h, hm, hs => by
    rw [whileR_succ]
    refine W.bind (hs s h) fun b hb => ?_
    cases b with
    | true =>
      rw [if_pos rfl]
      refine W.bind (hb.1 rfl) fun r hr => ?_
      cases r with
      | inl s' => exact W.whileR' I μ P V hr.1 (by have := hr.2; omega) hs
      | inr v => exact hr
    | false =>
      rw [if_neg Bool.false_ne_true]
      exact hb.2 rfl
theorem W.while {c : σ → Option Bool} {body : σ → Option σ} (I : σ → Prop) (μ : σ → Nat) (P : σ → Prop) {s : σ} (h : I s) (hm : μ s < 1000000) (hs : ∀ s, I s → OP (c s) fun b => (b = true → OP (body s) fun s' => I s' ∧ μ s' < μ s) ∧ (b = false → P s)) : OP (whileO c body bigN s) P := W.while' I μ P h (by rw [bigN_eq']; exact hm) hs
theorem W.whileR {c : σ → Option Bool} {body : σ → Option (σ ⊕ ρ)} (I : σ → Prop) (μ : σ → Nat) (P : σ → Prop) (V : ρ → Prop) {s : σ} (h : I s) (hm : μ s < 1000000) (hs : ∀ s, I s → OP (c s) fun b => (b = true → OP (body s) (SE (fun s' => I s' ∧ μ s' < μ s) V)) ∧ (b = false → P s)) : OP (whileR c body bigN s) (SE P V) := W.whileR' I μ P V h (by rw [bigN_eq']; exact hm) hs
/-- a comprehension -/
theorem W.comp [Inhabited β] {f : α → Option (Option β)} {xs : List α} (P : α → β → Prop) (hl : xs.length ≤ 16777216) (h : ∀ x ∈ xs, OP (f x) fun r => ∃ y, r = some y ∧ P x y) : OP (compO f xs) fun ys => ∃ g : α → β, ys = xs.map g ∧ ∀ x ∈ xs, P x (g x) := by
  have : ∀ x : α, ∃ y : β, x ∈ xs → f x = some (some y) ∧ P x y := fun x => by
    by_cases hx : x ∈ xs
    · obtain ⟨r, e, y, rfl, hy⟩ := OP.get (h x hx)
      exact ⟨y, fun _ => ⟨e, hy⟩⟩
    · exact ⟨default, fun q => absurd q hx⟩
  obtain ⟨g, hg⟩ := Classical.axiomOfChoice this
  exact OP.mk (comp_map (g := g) hl fun x hx => (hg x hx).1) ⟨g, rfl, fun x hx => (hg x hx).2⟩
end
theorem comp_map2 {α β γ : Type} {xs : List γ} {h : γ → α} {f : α → Option (Option β)} {g : γ → β} (hl : xs.length ≤ 16777216) (hf : ∀ x ∈ xs, f (h x) = some (some (g x))) : compO f (xs.map h) = some (xs.map g) := by
  have key : ∀ ys : List γ, (∀ x ∈ ys, f (h x) = some (some (g x))) → compO' f (ys.map h) = some (ys.map g) := by
    intro ys
    induction ys with
    | nil => intro _; rfl
    | cons y ys ih =>
      intro hy
      rw [List.map_cons, List.map_cons]
      unfold compO'
      rw [hy y List.mem_cons_self, ih fun z hz => hy z (List.mem_cons_of_mem _ hz)]
      rfl
  unfold compO
  rw [if_pos (by rw [List.length_map]; exact hl)]
  exact key xs hf
theorem mask_eq' {n : Nat} {p : Nat → Bool} {x : Nat} (hx : x < 2 ^ n) (h : ∀ i, i < n → x.testBit i = p i) : mask n p = x := (mask_ext hx h).symm
/-! ### whole numbers within bounds -/
def In (x N : Int) : Prop := 0 ≤ x ∧ x < N
theorem In.nat {x : Int} {N : Nat} (h : In x (N : Int)) : ∃ k : Nat, k < N ∧ x = (k : Int) := ⟨x.toNat, by have := h.1; have := h.2; omega, by have := h.1; omega⟩
theorem In.of {k N : Nat} (h : k < N) : In (k : Int) (N : Int) := ⟨by omega, by omega⟩
theorem In.zero {N : Nat} (h : 0 < N) : In 0 (N : Int) := ⟨by omega, by omega⟩
theorem In.emod {v : Int} {N : Nat} (h : 0 < N) : In (v % (N : Int)) (N : Int) := ⟨Int.emod_nonneg v (by omega), Int.emod_lt_of_pos v (by omega)⟩
theorem In.emod' {v N : Int} (h : 0 < N) : In (v % N) N := ⟨Int.emod_nonneg v (by omega), Int.emod_lt_of_pos v (by omega)⟩
theorem In.shl1 {k : Int} {n : Nat} (h : In k (n : Int)) : In (shl 1 k) ((2 ^ n : Nat) : Int) := by
  obtain ⟨j, hj, rfl⟩ := h.nat
  rw [shl1_nat]
  exact In.of (pow_lt2 hj)
theorem In.bor {a b : Int} {n : Nat} (ha : In a ((2 ^ n : Nat) : Int)) (hb : In b ((2 ^ n : Nat) : Int)) : In (bor a b) ((2 ^ n : Nat) : Int) := by
  obtain ⟨j, hj, rfl⟩ := ha.nat
  obtain ⟨k, hk, rfl⟩ := hb.nat
  rw [bor_nat]
  exact In.of (Nat.or_lt_two_pow hj hk)
theorem In.bxor {a b : Int} {n : Nat} (ha : In a ((2 ^ n : Nat) : Int)) (hb : In b ((2 ^ n : Nat) : Int)) : In (bxor a b) ((2 ^ n : Nat) : Int) := by
  obtain ⟨j, hj, rfl⟩ := ha.nat
  obtain ⟨k, hk, rfl⟩ := hb.nat
  rw [bxor_nat]
  exact In.of (xor_lt hj hk)
theorem In.band {a b M N : Int} (ha : In a N) (hb : In b M) : In (band a b) N := by
  obtain ⟨j, rfl⟩ : ∃ j : Nat, a = (j : Int) := ⟨a.toNat, by have := ha.1; omega⟩
  obtain ⟨k, rfl⟩ : ∃ k : Nat, b = (k : Int) := ⟨b.toNat, by have := hb.1; omega⟩
  rw [band_nat]
  have : j &&& k ≤ j := Nat.and_le_left
  exact ⟨by omega, by have := ha.2; omega⟩
theorem In.bandn {a b M N : Int} (ha : In a N) (hb : In b M) : In (Z.band a (bnot b)) N := by
  obtain ⟨j, rfl⟩ : ∃ j : Nat, a = (j : Int) := ⟨a.toNat, by have := ha.1; omega⟩
  obtain ⟨k, rfl⟩ : ∃ k : Nat, b = (k : Int) := ⟨b.toNat, by have := hb.1; omega⟩
  rw [bandn_nat]
  have : andn j k ≤ j := by
    have h1 := nat_xor_and j (j &&& k)
    have h2 : j &&& (j &&& k) = j &&& k := by rw [← Nat.and_assoc, Nat.and_self]
    rw [h2] at h1
    have h3 : j &&& k ≤ j := Nat.and_le_left
    unfold andn
    omega
  exact ⟨by omega, by have := ha.2; omega⟩
theorem In.compl {a : Int} {n : Nat} (ha : In a ((2 ^ n : Nat) : Int)) : In (((2 ^ n : Nat) : Int) - 1 - a) ((2 ^ n : Nat) : Int) := ⟨by have := ha.2; omega, by have := ha.1; omega⟩
theorem In.full (n : Nat) : In (((2 ^ n : Nat) : Int) - 1) ((2 ^ n : Nat) : Int) := ⟨by have := Nat.two_pow_pos n; omega, by omega⟩
theorem In.tail {k : Int} {n : Nat} (h : In k (n : Int)) : In (((2 ^ n : Nat) : Int) - shl 1 k) ((2 ^ n : Nat) : Int) := by
  obtain ⟨j, hj, rfl⟩ := h.nat
  rw [shl1_nat]
  have := pow_lt2 hj
  have := Nat.two_pow_pos j
  exact ⟨by omega, by omega⟩
theorem In.le {x M N : Int} (h : In x M) (hl : M ≤ N) : In x N := ⟨h.1, by have := h.2; omega⟩
theorem gPow1I {x N : Int} (h : In x N) (hN : N ≤ 1000001) : gPow 1 x := ⟨h.1, by have := h.2; omega, by decide⟩
theorem gR_I {x N : Int} (h : In x N) (hN : N ≤ 2 ^ 62) : gR x := ⟨by have := h.1; omega, by have := h.2; omega⟩
end B

namespace B
open PySem Z
/-! ### tables of crowds, and steps that go by themselves -/
def Tb (m : Nat) (x : List Int) : Prop := ∃ f, x = tab (2 ^ m) f ∧ ∀ s, s < 2 ^ m → f s < 2 ^ 2 ^ m
theorem Tb.zero (m : Nat) : Tb m (tab (2 ^ m) fun _ => 0) := ⟨_, rfl, fun _ _ => Nat.two_pow_pos _⟩
theorem Tb.get {m : Nat} {x : List Int} {i : Int} (h : Tb m x) (hi : In i ((2 ^ m : Nat) : Int)) : ∃ v, L2.atI x i = some v ∧ In v ((2 ^ 2 ^ m : Nat) : Int) := by
  obtain ⟨f, rfl, hf⟩ := h
  obtain ⟨k, hk, rfl⟩ := hi.nat
  exact ⟨_, atI_tab hk, In.of (hf k hk)⟩
theorem Tb.set {m : Nat} {x : List Int} {i v : Int} (h : Tb m x) (hi : In i ((2 ^ m : Nat) : Int)) (hv : In v ((2 ^ 2 ^ m : Nat) : Int)) : ∃ y, setI x i v = some y ∧ Tb m y := by
  obtain ⟨f, rfl, hf⟩ := h
  obtain ⟨k, hk, rfl⟩ := hi.nat
  obtain ⟨c, hc, rfl⟩ := hv.nat
  exact ⟨_, setI_tab hk, _, rfl, fup_lt hf hc⟩
theorem Tb.len {m : Nat} {x : List Int} (h : Tb m x) : x.length = 2 ^ m := by obtain ⟨f, rfl, _⟩ := h; exact tab_len _ _
section
variable {β : Type} {A : β → Prop} {m : Nat} {x : List Int} {i v : Int}
theorem W.tget {k : Int → Option β} (h : Tb m x) (hi : In i ((2 ^ m : Nat) : Int)) (hk : ∀ v, In v ((2 ^ 2 ^ m : Nat) : Int) → OP (k v) A) : OP ((L2.atI x i).bind k) A := by
  obtain ⟨v, e, hv⟩ := h.get hi
  exact W.eq e (hk v hv)
theorem W.tset {k : List Int → Option β} (h : Tb m x) (hi : In i ((2 ^ m : Nat) : Int)) (hv : In v ((2 ^ 2 ^ m : Nat) : Int)) (hk : ∀ y, Tb m y → OP (k y) A) : OP ((setI x i v).bind k) A := by
  obtain ⟨y, e, hy⟩ := h.set hi hv
  exact W.eq e (hk y hy)
theorem W.some' {m : Option β} (h : OP m A) : OP (m.bind fun x => some x) A := W.bind h fun _ q => q
end
theorem gDivW2 {m : Nat} (hm : m ≤ 6) : gDivW ((2 ^ m : Nat) : Int) := gDivW_nat (Nat.two_pow_pos m) (by have := le64 hm; omega)
theorem pos2 (m : Nat) : (0 : Int) < ((2 ^ m : Nat) : Int) := by have := Nat.two_pow_pos m; omega
theorem gPow1_2 {m : Nat} (hm : m ≤ 6) : gPow 1 ((2 ^ m : Nat) : Int) := gPow1 (by have := le64 hm; omega)
theorem gR_2 {m : Nat} (hm : m ≤ 6) : gR ((2 ^ m : Nat) : Int) := gR_nat (by have := le64 hm; omega)
theorem In.band' {a b N : Int} (ha : In a N) (hb : 0 ≤ b) : In (Z.band a b) N := In.band (M := b + 1) ha ⟨hb, by omega⟩
theorem In.rest {a : Int} {m : Nat} {c : Nat} (h : In a ((2 ^ m : Nat) : Int)) (hc : c ≤ 64) (hm : 2 ^ m ≤ c) : In a (c : Int) := h.le (by omega)
theorem In.low {n : Nat} {v : Int} (h : 1 ≤ n) : In (v % 2) ((2 ^ n : Nat) : Int) := ⟨by omega, by have : 2 ^ 1 ≤ 2 ^ n := Nat.pow_le_pow_right (by decide) h; omega⟩
end B

local macro_rules
  | `(tactic| infer_instance) => `(tactic| first
    | assumption
    | exact B.In.zero (Nat.two_pow_pos _)
    | exact B.In.emod (Nat.two_pow_pos _)
    | exact B.In.emod' (B.pos2 _)
    | exact B.In.full _
    | (with_reducible apply B.In.of; assumption)
    | (with_reducible apply B.In.shl1; infer_instance)
    | (with_reducible apply B.In.bor <;> infer_instance)
    | (with_reducible apply B.In.bxor <;> infer_instance)
    | (with_reducible apply B.In.compl; infer_instance)
    | (with_reducible apply B.In.tail; infer_instance)
    | (with_reducible apply B.In.bandn <;> infer_instance)
    | (with_reducible apply B.In.band <;> infer_instance)
    | exact ⟨by omega, by omega⟩)
local macro_rules
  | `(tactic| contradiction) => `(tactic| first
    | with_reducible refine B.W.ite (fun _ => ?_) (fun _ => ?_)
    | with_reducible refine B.W.lt ?_
    | (with_reducible refine B.W.grd ?_ ?_
       · first
          | exact B.pos2 _
          | (with_reducible apply B.gDivW2; assumption)
          | (with_reducible apply B.gPow1_2; assumption)
          | (with_reducible apply B.gR_2; assumption)
          | (with_reducible apply B.gPow1I
             · infer_instance
             · omega)
          | (with_reducible apply B.gR_I
             · infer_instance
             · omega)
          | omega
          | exact ⟨by omega, by omega⟩)
    | (with_reducible apply B.W.tget
       · assumption
       · infer_instance
       intro _ _)
    | (with_reducible apply B.W.tset
       · assumption
       · infer_instance
       · infer_instance
       intro _ _)
    | (with_reducible refine B.W.ret ?_
       infer_instance))

namespace B
open PySem Z E L2
/-! ### formulas, in plain words -/
mutual
def dep : O_Formula → Nat
  | .Lamp _ => 0
  | .Sure _ => 0
  | .Not p => dep p + 1
  | .And ps => deps ps + 1
  | .Either ps => deps ps + 1
  | .Or ps => deps ps + 1
def deps : List O_Formula → Nat
  | [] => 0
  | p :: ps => max (dep p) (deps ps)
end
mutual
def ev : O_Formula → Nat → Bool
  | .Lamp a, s => s.testBit a.toNat
  | .Sure b, _ => b
  | .Not p, s => !ev p s
  | .And ps, s => evA ps s
  | .Either ps, s => evX ps s
  | .Or ps, s => evO ps s
def evA : List O_Formula → Nat → Bool
  | [], _ => true
  | p :: ps, s => ev p s && evA ps s
def evO : List O_Formula → Nat → Bool
  | [], _ => false
  | p :: ps, s => ev p s || evO ps s
def evX : List O_Formula → Nat → Bool
  | [], _ => false
  | p :: ps, s => xor (ev p s) (evX ps s)
end
mutual
/-- its lamps are below m -/
def okF (m : Nat) : O_Formula → Prop
  | .Lamp a => ∃ k : Nat, a = (k : Int) ∧ k < m
  | .Sure _ => True
  | .Not p => okF m p
  | .And ps => okFs m ps
  | .Either ps => okFs m ps
  | .Or ps => okFs m ps
def okFs (m : Nat) : List O_Formula → Prop
  | [] => True
  | p :: ps => okF m p ∧ okFs m ps
end
theorem evA_eq (s : Nat) : ∀ ps, evA ps s = ps.all fun p => ev p s
  | [] => by rw [evA]; rfl
  | p :: ps => by rw [evA, evA_eq s ps]; rfl
theorem evO_eq (s : Nat) : ∀ ps, evO ps s = ps.any fun p => ev p s
  | [] => by rw [evO]; rfl
  | p :: ps => by rw [evO, evO_eq s ps]; rfl
theorem okFs_iff {m : Nat} : ∀ {ps : List O_Formula}, okFs m ps ↔ ∀ p ∈ ps, okF m p
  | [] => by rw [okFs]; simp
  | p :: ps => by rw [okFs, okFs_iff]; simp
theorem deps_le {p : O_Formula} : ∀ {ps : List O_Formula}, p ∈ ps → dep p ≤ deps ps
  | [], h => by cases h
  | q :: ps, h => by
    rw [deps]
    rcases List.mem_cons.mp h with rfl | h
    · omega
    · have := deps_le h; omega
theorem deps_of {N : Nat} : ∀ {ps : List O_Formula}, (∀ p ∈ ps, dep p ≤ N) → deps ps ≤ N
  | [], _ => by rw [deps]; omega
  | q :: ps, h => by
    rw [deps]
    have h1 := h q List.mem_cons_self
    have h2 := deps_of fun p hp => h p (List.mem_cons_of_mem _ hp)
    omega
theorem okF.mono {m n : Nat} (h : m ≤ n) : ∀ {x : O_Formula}, okF m x → okF n x := by
  intro x
  have key : ∀ N x, dep x ≤ N → okF m x → okF n x := by
    intro N
    induction N with
    | zero =>
      intro x hd hx
      cases x with
      | Lamp a => rw [okF] at hx ⊢; obtain ⟨k, e, hk⟩ := hx; exact ⟨k, e, by omega⟩
      | Sure b => rw [okF]; trivial
      | Not p => rw [dep] at hd; omega
      | And ps => rw [dep] at hd; omega
      | Either ps => rw [dep] at hd; omega
      | Or ps => rw [dep] at hd; omega
    | succ N ih =>
      intro x hd hx
      cases x with
      | Lamp a => rw [okF] at hx ⊢; obtain ⟨k, e, hk⟩ := hx; exact ⟨k, e, by omega⟩
      | Sure b => rw [okF]; trivial
      | Not p => rw [dep] at hd; rw [okF] at hx ⊢; exact ih p (by omega) hx
      | And ps => rw [dep] at hd; rw [okF, okFs_iff] at hx ⊢; exact fun p hp => ih p (by have := deps_le hp; omega) (hx p hp)
      | Either ps => rw [dep] at hd; rw [okF, okFs_iff] at hx ⊢; exact fun p hp => ih p (by have := deps_le hp; omega) (hx p hp)
      | Or ps => rw [dep] at hd; rw [okF, okFs_iff] at hx ⊢; exact fun p hp => ih p (by have := deps_le hp; omega) (hx p hp)
  exact key (dep x) x (Nat.le_refl _)
end B

namespace B
open PySem Z E L2
theorem holds_fuel (m : Nat) : ∀ (n : Nat) (x : O_Formula) (s : Nat), dep x < n → okF m x → mf_D_Formula_holds n x (s : Int) = some (ev x s) := by
  intro n
  induction n with
  | zero => intro x s h; omega
  | succ n ih =>
    intro x s hd hx
    show mb_D_Formula_holds (mf_D_Formula_holds n) x (s : Int) = _
    cases x with
    | Lamp a =>
      rw [okF] at hx
      obtain ⟨k, rfl, hk⟩ := hx
      show m_Lamp_holds (.Lamp (k : Int)) (s : Int) = _
      unfold m_Lamp_holds
      have e : gf_Formula_at (.Lamp (k : Int)) = some (k : Int) := rfl
      rw [bind_eq e, grd_of (by omega), asks1, ev]; rfl
    | Sure b =>
      show m_Sure_holds (.Sure b) (s : Int) = _
      unfold m_Sure_holds
      have e : gf_Formula_truth (.Sure b) = some b := rfl
      rw [bind_eq e, ev]
    | Not p =>
      rw [dep] at hd
      rw [okF] at hx
      show mb_Not_holds (mf_D_Formula_holds n) (.Not p) (s : Int) = _
      unfold mb_Not_holds
      have e : gf_Formula_part (.Not p) = some p := rfl
      rw [bind_eq e, bind_eq (ih p s (by omega) hx), ev]
    | And ps =>
      rw [dep] at hd
      rw [okF, okFs_iff] at hx
      show mb_And_holds (mf_D_Formula_holds n) (.And ps) (s : Int) = _
      unfold mb_And_holds
      have e : gf_Formula_parts (.And ps) = some ps := rfl
      rw [bind_eq e, brk_eq (forR_allL (v := false) (fun p => ev p s) fun p hp => by
        rw [bind_eq (ih p s (by have := deps_le hp; omega) (hx p hp))]
        cases ev p s with
        | true => rw [ifo_nt]; rfl
        | false => rw [ifo_nf]; rfl), brk_if, ev, evA_eq]
      split
      · rename_i h; rw [h]
      · rename_i h; exact congrArg some (by cases q : ps.all fun p => ev p s <;> simp_all)
    | Either ps =>
      rw [dep] at hd
      rw [okF, okFs_iff] at hx
      show mb_Either_holds (mf_D_Formula_holds n) (.Either ps) (s : Int) = _
      unfold mb_Either_holds
      have e : gf_Formula_parts (.Either ps) = some ps := rfl
      rw [bind_eq e]
      have key : ∀ (qs : List O_Formula) (b : Bool), (∀ p ∈ qs, p ∈ ps) → forO (fun part7 odd16 =>
          (mf_D_Formula_holds n part7 (s : Int)).bind fun v21 =>
          ifo v21 (
          lt (!odd16) fun odd22 =>
          some odd22) (
          some odd16)) qs b = some (xor b (evX qs s)) := by
        intro qs
        induction qs with
        | nil => intro b _; rw [forO_nil, evX, Bool.xor_false]
        | cons q qs ih2 =>
          intro b hq
          have hq1 := hq q List.mem_cons_self
          rw [forO_cons, bind_eq (ih q s (by have := deps_le hq1; omega) (hx q hq1)), evX]
          cases ev q s with
          | true => rw [ifo_tt, lt_eq, sb, ih2 _ fun p hp => hq p (List.mem_cons_of_mem _ hp)]; cases b <;> cases evX qs s <;> rfl
          | false => rw [ifo_ff, sb, ih2 _ fun p hp => hq p (List.mem_cons_of_mem _ hp)]; cases b <;> cases evX qs s <;> rfl
      rw [bind_eq (key ps false fun _ h => h), ev, Bool.false_xor]
    | Or ps =>
      rw [dep] at hd
      rw [okF, okFs_iff] at hx
      show mb_Or_holds (mf_D_Formula_holds n) (.Or ps) (s : Int) = _
      unfold mb_Or_holds
      have e : gf_Formula_parts (.Or ps) = some ps := rfl
      rw [bind_eq e, brk_eq (forR_allL (v := true) (fun p => !ev p s) fun p hp => by
        rw [bind_eq (ih p s (by have := deps_le hp; omega) (hx p hp))]
        cases ev p s with
        | true => rw [ifo_tt]; rfl
        | false => rw [ifo_ff]; rfl), brk_if, ev, evO_eq]
      have : (ps.any fun p => ev p s) = !(ps.all fun p => !ev p s) := by
        rw [List.all_eq_not_any_not]; simp
      rw [this]
      cases ps.all fun p => !ev p s <;> rfl
theorem holds_eq {m s : Nat} {x : O_Formula} (hd : dep x < 100) (hx : okF m x) : m_D_Formula_holds x (s : Int) = some (ev x s) := by
  unfold m_D_Formula_holds
  exact holds_fuel m 100 x s hd hx
end B

namespace B
open PySem Z E L2
theorem cell_at_eq (ns : List Int) (k : Nat) : ∃ v, m__law_cell_at ns (k : Int) = some v := by
  unfold m__law_cell_at
  by_cases h : k < ns.length
  · rw [ifo_t (decide_eq_true (by omega))]
    rw [bind_eq (atI_nat' h)]
    first
      | exact ⟨_, rfl⟩
      | exact ⟨_, grd_of (by decide)⟩
  · rw [ifo_f (decide_eq_false (by omega))]
    exact ⟨0, rfl⟩
/-- the number of lamps -/
theorem many_of (v : Int) : ∃ m : Nat, 1 ≤ m ∧ m ≤ 6 ∧ (1 : Int) + v % 6 = (m : Int) := by
  obtain ⟨k, h1, h2⟩ := mod_nat v (n := 6) (by decide)
  have : v % ((6 : Nat) : Int) = v % 6 := rfl
  exact ⟨k + 1, by omega, by omega, by omega⟩
end B

namespace B
open PySem Z E L2
/-! ### the lamps of a formula -/
mutual
def lm : O_Formula → Nat → Bool
  | .Lamp a, k => decide (k = a.toNat)
  | .Sure _, _ => false
  | .Not p, k => lm p k
  | .And ps, k => lms ps k
  | .Either ps, k => lms ps k
  | .Or ps, k => lms ps k
def lms : List O_Formula → Nat → Bool
  | [], _ => false
  | p :: ps, k => lm p k || lms ps k
end
def fl (p : Nat → Bool) : List Nat := (List.range 6).filter p
theorem fl_len (p : Nat → Bool) : (fl p).length ≤ 6 := by
  have := List.length_filter_le p (List.range 6)
  rw [List.length_range] at this
  exact this
theorem fl_congr {p q : Nat → Bool} (h : ∀ k, k < 6 → p k = q k) : fl p = fl q := List.filter_congr fun k hk => h k (List.mem_range.mp hk)
theorem filter_more {k : Nat} {p : Nat → Bool} : ∀ {R : List Nat}, R.Nodup → k ∈ R → p k = false → ((R.filter p) ++ [k]).Perm (R.filter fun i => p i || decide (i = k))
  | [], _, h, _ => by cases h
  | r :: R, hn, h, hp => by
    rw [List.nodup_cons] at hn
    by_cases e : r = k
    · subst e
      have e1 : R.filter (fun i => p i || decide (i = r)) = R.filter p := List.filter_congr fun i hi => by
        rw [decide_eq_false (fun q : i = r => hn.1 (by rw [← q]; exact hi)), Bool.or_false]
      rw [List.filter_cons, List.filter_cons, hp, if_neg Bool.false_ne_true, if_pos (by simp), e1]
      exact List.perm_append_singleton _ _
    · have hk : k ∈ R := by
        rcases List.mem_cons.mp h with q | q
        · exact absurd q.symm e
        · exact q
      have ih := filter_more hn.2 hk hp
      rw [List.filter_cons, List.filter_cons, decide_eq_false e, Bool.or_false]
      cases p r with
      | true => rw [if_pos rfl, if_pos rfl, List.cons_append]; exact ih.cons _
      | false => rw [if_neg Bool.false_ne_true, if_neg Bool.false_ne_true]; exact ih
/-- what a dict of lamps holds -/
def DD (p : Nat → Bool) (d : List (Int × Bool)) : Prop := (d.map (·.1)).Perm (zL (fl p))
theorem DD.len {p : Nat → Bool} {d : List (Int × Bool)} (h : DD p d) : d.length < 16777216 := by
  have := h.length_eq
  rw [List.length_map, zL_len] at this
  have := fl_len p
  omega
theorem DD.congr {p q : Nat → Bool} {d : List (Int × Bool)} (h : DD p d) (e : ∀ k, k < 6 → p k = q k) : DD q d := by
  unfold DD at h ⊢
  rw [← fl_congr e]; exact h
theorem DD.nil : DD (fun _ => false) [] := by
  have : fl (fun _ => false) = [] := by decide
  unfold DD
  rw [this]
  exact List.Perm.refl _
theorem DD.put {p : Nat → Bool} {d : List (Int × Bool)} {k : Nat} {v : Bool} (h : DD p d) (hk : k < 6) : DD (fun i => p i || decide (i = k)) (putD d (k : Int) v) := by
  unfold DD at h ⊢
  have mem : (d.any fun q => decide (q.1 = (k : Int))) = true ↔ p k = true := by
    rw [List.any_eq_true]
    constructor
    · rintro ⟨q, hq, e⟩
      have : (k : Int) ∈ d.map (·.1) := by rw [← of_decide_eq_true e]; exact List.mem_map_of_mem hq
      have := (h.mem_iff).mp this
      unfold zL fl at this
      rw [List.mem_map] at this
      obtain ⟨j, hj, ej⟩ := this
      rw [List.mem_filter] at hj
      have : j = k := by omega
      rw [← this]; exact hj.2
    · intro hp
      have : (k : Int) ∈ zL (fl p) := by
        unfold zL fl
        exact List.mem_map.mpr ⟨k, List.mem_filter.mpr ⟨List.mem_range.mpr hk, hp⟩, rfl⟩
      have := (h.mem_iff).mpr this
      rw [List.mem_map] at this
      obtain ⟨q, hq, e⟩ := this
      exact ⟨q, hq, decide_eq_true e⟩
  unfold putD
  split
  · rename_i hc
    have hp := mem.mp hc
    have e1 : (d.map fun p => if p.1 = (k : Int) then (p.1, v) else p).map (·.1) = d.map (·.1) := by
      rw [List.map_map]
      apply List.map_congr_left
      intro q _
      show (if q.1 = (k : Int) then (q.1, v) else q).1 = q.1
      split <;> rfl
    rw [e1, ← fl_congr (p := p) fun i _ => by
      by_cases q : i = k
      · rw [q, hp]; rfl
      · rw [decide_eq_false q, Bool.or_false]]
    exact h
  · rename_i hc
    have hp : p k = false := by
      cases q : p k with
      | true => exact absurd (mem.mpr q) hc
      | false => rfl
    rw [List.map_append]
    have h1 := filter_more (R := List.range 6) List.nodup_range (List.mem_range.mpr hk) hp
    have h2 : (zL (fl p) ++ [(k : Int)]).Perm (zL (fl fun i => p i || decide (i = k))) := by
      have := h1.map fun (n : Nat) => (n : Int)
      rw [List.map_append] at this
      exact this
    exact (h.append_right _).trans h2
theorem sort_keys {p : Nat → Bool} {d : List (Int × Bool)} (h : DD p d) : sortI (d.map (·.1)) = zL (fl p) := by
  have s1 : SrtO.Srtd ltI (zL (fl p)) := by
    have : (zL (fl p)).Pairwise (· ≤ ·) := by
      unfold zL fl
      rw [List.pairwise_map]
      exact (List.pairwise_lt_range.filter p).imp fun q => by omega
    exact this.imp fun q => decide_eq_false (by omega)
  exact srt_uniq ltI_tot ((sortB_perm _).trans h) (sortB_srt ltI_asy ltI_tr _) s1
theorem filt_map (p : Nat → Bool) : ∀ l : List Nat, (l.filterMap fun i => if p i = true then some (i : Int) else none) = zL (l.filter p)
  | [] => rfl
  | x :: l => by
    rw [List.filterMap_cons, List.filter_cons]
    cases p x with
    | true => rw [if_pos rfl, if_pos rfl]; exact congrArg _ (filt_map p l)
    | false => rw [if_neg Bool.false_ne_true, if_neg Bool.false_ne_true]; exact filt_map p l
theorem comp_fl {f : Int → Option (Option Int)} {p : Nat → Bool} (h : ∀ k : Nat, k < 6 → f (k : Int) = some (if p k = true then some (k : Int) else none)) : compO f (rangeI 0 (Int.toNat 6)) = some (zL (fl p)) := by
  rw [compO_eq (g := fun x => if p x.toNat = true then some x else none) (by rw [rangeI_len]; decide) fun x hx => by
    obtain ⟨k, hk, rfl⟩ := mem_rangeI hx
    rw [h k hk, Int.toNat_natCast]]
  rw [show Int.toNat 6 = 6 from rfl, rangeI_tab]
  unfold tab
  rw [List.filterMap_map]
  have : ((fun x : Int => if p x.toNat = true then some x else none) ∘ fun i => ((id i : Nat) : Int)) = fun i : Nat => if p i = true then some (i : Int) else none := by
    funext i
    simp
  rw [this, filt_map]; rfl
end B

namespace B
open PySem Z E L2
/-! ### note and lamps -/
theorem note_fuel : ∀ (n : Nat) (x : O_Formula) (p : Nat → Bool) (d : List (Int × Bool)), dep x < n → okF 6 x → DD p d → OP (mf_D_Formula_note n x d) (DD fun k => p k || lm x k) := by
  intro n
  induction n with
  | zero => intro x p d h; omega
  | succ n ih =>
    intro x p d hd hx hp
    have joined : ∀ (ps : List O_Formula), (∀ q ∈ ps, dep q < n ∧ okF 6 q) → ∀ (p : Nat → Bool) (d : List (Int × Bool)), DD p d → OP (forO (fun part s => (mf_D_Formula_note n part s).bind fun v => some v) ps d) (DD fun k => p k || lms ps k) := by
      intro ps
      induction ps with
      | nil =>
        intro _ p d h
        rw [forO_nil]
        exact h.congr fun k _ => by rw [lms, Bool.or_false]
      | cons q ps ih2 =>
        intro hq p d h
        rw [forO_cons]
        obtain ⟨h1, h2⟩ := hq q List.mem_cons_self
        refine W.bind (W.some' (ih q p d h1 h2 h)) fun d' h' => ?_
        refine W.as (ih2 (fun z hz => hq z (List.mem_cons_of_mem _ hz)) _ d' h') fun r hr => ?_
        exact DD.congr hr fun k _ => by rw [lms, Bool.or_assoc]
    show OP (mb_D_Formula_note (mf_D_Formula_note n) x d) _
    cases x with
    | Lamp a =>
      rw [okF] at hx
      obtain ⟨k, rfl, hk⟩ := hx
      show OP (m_Lamp_note (.Lamp (k : Int)) d) _
      unfold m_Lamp_note
      have e : gf_Formula_at (.Lamp (k : Int)) = some (k : Int) := rfl
      rw [bind_eq e]
      exact W.grd hp.len (W.lt ((hp.put hk).congr fun i _ => by rw [lm]; rfl))
    | Sure b =>
      show OP (m_Formula_note (.Sure b) d) _
      unfold m_Formula_note
      exact hp.congr fun i _ => by rw [lm, Bool.or_false]
    | Not q =>
      rw [dep] at hd
      rw [okF] at hx
      show OP (mb_Not_note (mf_D_Formula_note n) (.Not q) d) _
      unfold mb_Not_note
      have e : gf_Formula_part (.Not q) = some q := rfl
      rw [bind_eq e]
      exact W.some' (W.as (ih q p d (by omega) hx hp) fun r hr => DD.congr hr fun i _ => by rw [lm])
    | And ps =>
      rw [dep] at hd
      rw [okF, okFs_iff] at hx
      show OP (mb_Joined_note (mf_D_Formula_note n) (.And ps) d) _
      unfold mb_Joined_note
      have e : gf_Formula_parts (.And ps) = some ps := rfl
      rw [bind_eq e]
      exact W.some' (W.as (joined ps (fun q hq => ⟨by have := deps_le hq; omega, hx q hq⟩) p d hp) fun r hr => DD.congr hr fun i _ => by rw [lm])
    | Either ps =>
      rw [dep] at hd
      rw [okF, okFs_iff] at hx
      show OP (mb_Joined_note (mf_D_Formula_note n) (.Either ps) d) _
      unfold mb_Joined_note
      have e : gf_Formula_parts (.Either ps) = some ps := rfl
      rw [bind_eq e]
      exact W.some' (W.as (joined ps (fun q hq => ⟨by have := deps_le hq; omega, hx q hq⟩) p d hp) fun r hr => DD.congr hr fun i _ => by rw [lm])
    | Or ps =>
      rw [dep] at hd
      rw [okF, okFs_iff] at hx
      show OP (mb_Joined_note (mf_D_Formula_note n) (.Or ps) d) _
      unfold mb_Joined_note
      have e : gf_Formula_parts (.Or ps) = some ps := rfl
      rw [bind_eq e]
      exact W.some' (W.as (joined ps (fun q hq => ⟨by have := deps_le hq; omega, hx q hq⟩) p d hp) fun r hr => DD.congr hr fun i _ => by rw [lm])
theorem lamps_eq {x : O_Formula} (hd : dep x < 100) (hx : okF 6 x) : m_Formula_lamps x = some (zL (fl (lm x))) := by
  unfold m_Formula_lamps m_D_Formula_note
  obtain ⟨d, e, h⟩ := OP.get (note_fuel 100 x _ [] hd hx DD.nil)
  have e' : mf_D_Formula_note 100 x ([] : (List (Int × Bool))) = some d := e
  rw [bind_eq e', sort_keys h]
  rfl
theorem dlamps_eq {x : O_Formula} (hd : dep x < 100) (hx : okF 6 x) : m_D_Formula_lamps x = some (zL (fl (lm x))) := by
  have h := lamps_eq hd hx
  cases x <;> exact h
end B

namespace B
open PySem Z E L2
def bt (p : Nat → Bool) : List Bool := (List.range 6).map p
theorem bt_get {p : Nat → Bool} {k : Nat} (h : k < 6) : (bt p)[k]? = some (p k) := by
  unfold bt
  rw [List.getElem?_map, List.getElem?_range h]; rfl
theorem bt_at {p : Nat → Bool} {k : Nat} (h : k < 6) : atI (bt p) (k : Int) = some (p k) := L2.atI_nat (bt_get h)
theorem bt_congr {p q : Nat → Bool} (h : ∀ k, k < 6 → p k = q k) : bt p = bt q := List.map_congr_left fun k hk => h k (List.mem_range.mp hk)
theorem bt_set {p : Nat → Bool} {k : Nat} (h : k < 6) : setI (bt p) (k : Int) true = some (bt fun i => p i || decide (i = k)) := by
  rw [setI_nat (by unfold bt; rw [List.length_map, List.length_range]; exact h)]
  congr 1
  apply List.ext_getElem?
  intro i
  by_cases hi : i < 6
  · rw [bt_get hi]
    by_cases e : i = k
    · subst e
      rw [List.getElem?_set_self (by unfold bt; rw [List.length_map, List.length_range]; exact h)]
      rw [decide_eq_true rfl, Bool.or_true]
    · rw [List.getElem?_set_ne (fun q => e q.symm), bt_get hi, decide_eq_false e, Bool.or_false]
  · rw [List.getElem?_eq_none (by unfold bt; simp; omega), List.getElem?_eq_none (by unfold bt; simp; omega)]
theorem both_eq (ps : List O_Formula) : m__law_both (ps.map fun x => bt (lm x)) = some (bt (lms ps)) := by
  refine W.got ?_
  unfold m__law_both
  have h0 : ([false, false, false, false, false, false] : List Bool) = bt fun _ => false := rfl
  rw [h0]
  have key : ∀ (qs : List O_Formula) (p : Nat → Bool), OP (forO (fun (row13 : List Bool) (used25 : List Bool) =>
      (forO (fun k33 used45 =>
      (atI row13 k33).bind fun i50 =>
      ifo i50 (
      (setI used45 k33 true).bind fun l51 =>
      some l51) (
      some used45)) (rangeI 0 (Int.toNat 6)) used25).bind (fun used45 =>
      some used45)) (qs.map fun x => bt (lm x)) (bt p)) (· = bt fun k => p k || lms qs k) := by
    intro qs
    induction qs with
    | nil =>
      intro p
      rw [List.map_nil, forO_nil]
      exact bt_congr fun k _ => by rw [lms, Bool.or_false]
    | cons q qs ih =>
      intro p
      rw [List.map_cons, forO_cons]
      refine W.bind (P := fun s => s = bt fun k => p k || lm q k) (W.some' (W.as (W.for_r (n := 6) (fun i s => s = bt fun k => p k || (decide (k < i) && lm q k)) (bt_congr fun k _ => by simp) ?_) ?_)) ?_
      · rintro i _ hi rfl
        rw [bind_eq (bt_at hi)]
        refine W.ite (fun hc => W.eq (bt_set hi) (bt_congr fun k _ => ?_)) (fun hc => bt_congr fun k _ => ?_)
        · by_cases e : k = i
          · subst e
            rw [hc, decide_eq_true rfl, decide_eq_true (Nat.lt_succ_self _)]; simp
          · rw [decide_eq_false e, Bool.or_false]
            congr 2
            exact decide_eq_decide.mpr (by omega)
        · by_cases e : k = i
          · subst e
            rw [hc]; simp
          · congr 2
            exact decide_eq_decide.mpr (by omega)
      · rintro _ rfl
        exact bt_congr fun k hk => by rw [decide_eq_true hk, Bool.true_and]
      · rintro _ rfl
        refine W.as (ih _) ?_
        rintro _ rfl
        exact bt_congr fun k _ => by rw [lms, Bool.or_assoc]
  refine W.some' (W.as (key ps _) ?_)
  rintro _ rfl
  exact bt_congr fun k _ => by rw [Bool.false_or]
theorem seen_eq {x : O_Formula} {p : Nat → Bool} (hd : dep x < 100) (hx : okF 6 x) (hp : ∀ k, k < 6 → lm x k = p k) : m__law_seen x (bt p) = some true := by
  unfold m__law_seen
  have hl : fl (lm x) = fl p := fl_congr hp
  have l6 := fl_len p
  rw [bind_eq (comp_fl (p := p) fun k hk => by
    rw [bind_eq (bt_at hk)]
    cases p k with
    | true => rw [ifo_tt, if_pos rfl]
    | false => rw [ifo_ff, if_neg Bool.false_ne_true]), bind_eq (dlamps_eq hd hx), hl, decide_eq_true rfl]
  rw [ifo_f (by rfl), zL_len, grd_of (gR_nat (by omega)), Int.toNat_natCast]
  refine W.got ?_
  refine W.brk (W.forR_r (fun _ _ => True) _ trivial ?_) fun _ _ => rfl
  intro i _ hi _
  have wh : ∀ z : Int, m__law_whole z = some true := fun z => by unfold m__law_whole; rfl
  rw [bind_eq (atI_zL hi), wh, sb, ifo_nt, bind_eq (atI_zL hi), bind_eq (atI_zL hi), decide_eq_true rfl, nt, sb, ifo_ff]
  exact trivial
def joinG (w : Nat) (ps : List O_Formula) : O_Formula := if w = 0 then .Or ps else if w = 1 then .Either ps else .And ps
theorem joined_eq {w : Nat} (hw : w < 3) (ps : List O_Formula) : m__law_joined (w : Int) ps = some (joinG w ps) := by
  unfold m__law_joined m_Joined___init__
  rw [sb, sb, sb]
  have : w = 0 ∨ w = 1 ∨ w = 2 := by omega
  rcases this with rfl | rfl | rfl
  · rw [ifo_t (by decide)]; rfl
  · rw [ifo_f (by decide), ifo_t (by decide)]; rfl
  · rw [ifo_f (by decide), ifo_f (by decide)]; rfl
theorem joinG_dep (w : Nat) (ps : List O_Formula) : dep (joinG w ps) = deps ps + 1 := by
  unfold joinG
  split
  · rw [dep]
  · split <;> rw [dep]
theorem joinG_ok {m w : Nat} {ps : List O_Formula} (h : ∀ p ∈ ps, okF m p) : okF m (joinG w ps) := by
  unfold joinG
  split
  · rw [okF]; exact okFs_iff.mpr h
  · split <;> rw [okF] <;> exact okFs_iff.mpr h
theorem joinG_lm (w : Nat) (ps : List O_Formula) : lm (joinG w ps) = lms ps := by
  unfold joinG
  funext k
  split
  · rw [lm]
  · split <;> rw [lm]
theorem rowL_eq (v : Int) : ∃ k : Nat, v % 6 = (k : Int) ∧ k < 6 ∧ compO (fun zx => some (some (decide (zx = v % 6)))) (rangeI 0 (Int.toNat 6)) = some (bt (lm (.Lamp (v % 6)))) := by
  obtain ⟨k, hk, e⟩ := mod_nat v (n := 6) (by decide)
  have e' : v % 6 = (k : Int) := e
  refine ⟨k, e', hk, ?_⟩
  rw [e', show Int.toNat 6 = 6 from rfl, comp_map (g := fun z => decide (z = (k : Int))) (by rw [rangeI_len]; decide) fun x _ => rfl, rangeI_tab]
  unfold tab bt
  rw [List.map_map]
  congr 1
  apply List.map_congr_left
  intro i _
  show decide (((i : Nat) : Int) = (k : Int)) = _
  rw [lm, Int.toNat_natCast]
  exact decide_eq_decide.mpr (by omega)
/-- how the pile stands -/
def Pile (k : Nat) (s : List O_Formula × List (List Bool)) : Prop := ∃ ps : List O_Formula, s = (ps, ps.map fun x => bt (lm x)) ∧ ps ≠ [] ∧ ps.length ≤ k + 1 ∧ ∀ p ∈ ps, okF 6 p ∧ dep p ≤ k
theorem law_true (ns : List Int) (hn : ns.length ≤ 63) : m_law ns = some true := by
  obtain ⟨v0, e0⟩ := cell_at_eq ns 0
  have t0 : m__law_cell_at ns 0 = some v0 := e0
  obtain ⟨k0, ek0, hk0, r0⟩ := rowL_eq v0
  have okL : ∀ k : Nat, k < 6 → okF 6 (.Lamp (k : Int)) := fun k h => by rw [okF]; exact ⟨k, rfl, h⟩
  have isF : ∀ x : O_Formula, is_Formula_Formula x = true := fun x => by cases x <;> rfl
  refine W.got ?_
  unfold m_law m_Lamp___init__ m_Sure___init__ m_Not___init__
  rw [bind_eq t0, sb, bind_eq r0]
  refine W.bind (W.for_pre (fun pre s => Pile pre.length s) ⟨[.Lamp (v0 % 6)], rfl, by simp, by simp, fun p hp => by rw [List.mem_singleton.mp hp, ek0]; exact ⟨okL k0 hk0, by rw [dep]; omega⟩⟩ ?_) ?_
  · rintro pre c suf _ ec ⟨ps, rfl, hne, hlen, hps⟩
    have hpre : pre.length < 63 := by
      have h := congrArg List.length ec
      rw [List.length_append, List.length_cons] at h
      have := cutI_len (xs := ns) (lo := some 1) (hi := some 41)
      omega
    have hpl : (pre ++ [c]).length = pre.length + 1 := by rw [List.length_append]; rfl
    rw [hpl, un2_mk]
    refine W.lt (W.ite (fun hc => ?_) (fun _ => W.ite (fun hc => ?_) (fun _ => W.ite (fun hc => ?_) (fun _ => ?_))))
    · rw [Bool.and_eq_true, decide_eq_true_iff, decide_eq_true_iff] at hc
      obtain ⟨w, ew, hw⟩ : ∃ w : Nat, c % 8 - 5 = (w : Int) ∧ w < 3 := ⟨(c % 8 - 5).toNat, by omega, by omega⟩
      obtain ⟨l, el, hl⟩ : ∃ l : Nat, (if ((ps.length : Int) - 2) - ((c / 8) % 2) > 0 then ((ps.length : Int) - 2) - ((c / 8) % 2) else 0) = (l : Int) ∧ l + 2 ≤ ps.length := by
        by_cases q : ((ps.length : Int) - 2) - ((c / 8) % 2) > 0
        · exact ⟨(((ps.length : Int) - 2) - ((c / 8) % 2)).toNat, by rw [if_pos q]; omega, by omega⟩
        · exact ⟨0, by rw [if_neg q]; rfl, by omega⟩
      rw [el, ew]
      refine W.lt ?_
      rw [cutI_from, cutI_to, cutI_from, cutI_to, ← List.map_drop, ← List.map_take]
      refine W.eq (joined_eq hw _) (W.grd (by rw [List.length_take]; simp; omega) (W.eq (both_eq _) (W.grd (by rw [List.length_map, List.length_take]; simp; omega) ?_)))
      refine ⟨ps.take l ++ [joinG w (ps.drop l)], ?_, by simp, by rw [List.length_append, List.length_take]; simp; omega, fun p hp => ?_⟩
      · rw [List.map_append, List.map_cons, joinG_lm]; rfl
      · rcases List.mem_append.mp hp with hp | hp
        · obtain ⟨a, b⟩ := hps p (List.mem_of_mem_take hp)
          exact ⟨a, by omega⟩
        · rw [List.mem_singleton.mp hp, joinG_dep]
          refine ⟨joinG_ok fun q hq => (hps q (List.mem_of_mem_drop hq)).1, ?_⟩
          have := deps_of (N := pre.length) fun q hq => (hps q (List.mem_of_mem_drop (i := l) hq)).2
          omega
    · have hlast := hps _ (List.getLast_mem hne)
      rw [bind_eq (atI_end hne), sb, cutI_init]
      refine W.grd (by rw [List.length_dropLast]; simp; omega) ⟨ps.dropLast ++ [.Not (ps.getLast hne)], ?_, by simp, by rw [List.length_append, List.length_dropLast]; simp; omega, fun p hp => ?_⟩
      · have hne2 : (ps.map fun x => bt (lm x)) ≠ [] := by simpa using hne
        have gl : (ps.map fun x => bt (lm x)).getLast hne2 = bt (lm (ps.getLast hne)) := List.getLast_map hne2
        have : (ps.map fun x => bt (lm x)) = (ps.map fun x => bt (lm x)).dropLast ++ [bt (lm (ps.getLast hne))] := by
          rw [← gl]; exact (List.dropLast_concat_getLast hne2).symm
        rw [List.map_append, List.map_dropLast]
        refine Prod.ext rfl ?_
        rw [this]
        have e9 : bt (lm (.Not (ps.getLast hne))) = bt (lm (ps.getLast hne)) := bt_congr fun k _ => by rw [lm]
        rw [List.dropLast_concat, List.map_cons, e9]; rfl
      · rcases List.mem_append.mp hp with hp | hp
        · obtain ⟨a, b⟩ := hps p (List.dropLast_subset ps hp)
          exact ⟨a, by omega⟩
        · rw [List.mem_singleton.mp hp]
          exact ⟨by rw [okF]; exact hlast.1, by rw [dep]; omega⟩
    · rw [sb]
      refine W.grd (by omega) (W.lt (W.grd (by rw [List.length_map]; omega) (W.lt ⟨ps ++ [.Sure (decide (c / 8 % 2 = 1))], ?_, by simp, by rw [List.length_append]; simp; omega, fun p hp => ?_⟩)))
      · rw [List.map_append]
        have e9 : bt (lm (.Sure (decide (c / 8 % 2 = 1)))) = [false, false, false, false, false, false] := by
          rw [bt_congr (q := fun _ => false) fun k _ => by rw [lm]]; rfl
        rw [List.map_cons, e9]; rfl
      · rcases List.mem_append.mp hp with hp | hp
        · obtain ⟨a, b⟩ := hps p hp
          exact ⟨a, by omega⟩
        · rw [List.mem_singleton.mp hp]
          exact ⟨by rw [okF]; trivial, by rw [dep]; omega⟩
    · obtain ⟨k1, ek1, hk1, r1⟩ := rowL_eq (c / 8)
      rw [sb]
      refine W.grd (by omega) (W.lt (W.eq r1 (W.grd (by rw [List.length_map]; omega) (W.lt ⟨ps ++ [.Lamp (c / 8 % 6)], by rw [List.map_append]; rfl, by simp, by rw [List.length_append]; simp; omega, fun p hp => ?_⟩))))
      rcases List.mem_append.mp hp with hp | hp
      · obtain ⟨a, b⟩ := hps p hp
        exact ⟨a, by omega⟩
      · rw [List.mem_singleton.mp hp, ek1]
        exact ⟨okL k1 hk1, by rw [dep]; omega⟩
  · rintro _ ⟨ps, rfl, hne, hlen, hps⟩
    have hl : (cutI ns (some 1) (some 41)).length ≤ 63 := by have := cutI_len (xs := ns) (lo := some 1) (hi := some 41); omega
    rw [un2_mk]
    refine W.bind (P := fun s => ∃ x : O_Formula, ∃ qs : List O_Formula, s = (x :: qs, (x :: qs).map fun x => bt (lm x)) ∧ okF 6 x ∧ dep x ≤ 64) (W.ite (fun _ => ?_) (fun _ => ?_)) ?_
    · obtain ⟨w, hw, ew⟩ := mod_nat (v0 / 6) (n := 3) (by decide)
      have ew' : v0 / 6 % 3 = (w : Int) := ew
      rw [ew', bind_eq (joined_eq hw _), bind_eq (both_eq _)]
      refine ⟨joinG w ps, [], ?_, joinG_ok fun p hp => (hps p hp).1, ?_⟩
      · rw [List.map_cons, joinG_lm]; rfl
      · rw [joinG_dep]
        have := deps_of fun p hp => (hps p hp).2
        omega
    · cases ps with
      | nil => exact absurd rfl hne
      | cons x qs => exact ⟨x, qs, rfl, (hps x List.mem_cons_self).1, by have := (hps x List.mem_cons_self).2; omega⟩
    · rintro _ ⟨x, qs, rfl, ox, dx⟩
      have a0 : atI (x :: qs) 0 = some x := L2.atI_nat (j := 0) rfl
      have b0 : atI ((x :: qs).map fun x => bt (lm x)) 0 = some (bt (lm x)) := L2.atI_nat (j := 0) rfl
      have s0 : m__law_seen x (bt (lm x)) = some true := seen_eq (by omega) ox fun _ _ => rfl
      have s1 : m__law_seen (.Not x) (bt (lm x)) = some true := seen_eq (by rw [dep]; omega) (by rw [okF]; exact ox) fun _ _ => by rw [lm]
      have s2 : m__law_seen (.And [x, x]) (bt (lm x)) = some true := by
        refine seen_eq (by rw [dep, deps, deps, deps]; omega) (by rw [okF, okFs_iff]; intro p hp; rw [List.mem_cons, List.mem_singleton] at hp; rcases hp with rfl | rfl <;> exact ox) fun k _ => ?_
        rw [lm, lms, lms, lms]; cases lm x k <;> rfl
      obtain ⟨k6, hk6, e6⟩ := mod_nat v0 (n := 64) (by decide)
      have e6' : v0 % 64 = (k6 : Int) := e6
      unfold m_Joined___init__
      rw [un2_mk, bind_eq a0, isF, nt, ifo_ff, bind_eq a0, bind_eq b0, bind_eq s0, nt, sb, ifo_ff, bind_eq a0, e6', bind_eq (holds_eq (by omega) ox), ifo_ff, bind_eq a0, bind_eq b0, bind_eq s0, nt, ifo_ff, bind_eq a0, sb, bind_eq b0, bind_eq s1, nt, sb, ifo_ff, bind_eq a0, bind_eq a0, sb, bind_eq b0, bind_eq s2, ifo_tt, bind_eq a0, bind_eq b0, bind_eq s0, sb]
      exact rfl
end B

namespace E
open PySem PySem.Spec PyProof.Rows L2 Z
def spLaw (K : PySem.W.Frag) : Sp := fun vs H Q _ => ∃ (a : Addr) (ns : List Int), vs = [.ref a] ∧ SqL K H a (ns.map V.int) ∧ ns.length ≤ 63 ∧ ∀ H', Q (.bl true) H'
theorem law_ok {P : Program} {w : World} {K : PySem.W.Frag} {mg : Str → Option Value} {base : Heap} (T : Tx K mg) : FnOk P w K mg base CX0 104 T.f_law T.d_law ["_law_script"] (spLaw K) :=
  (ok_law T).imp fun vs H Q E h => by
    obtain ⟨a, ns, rfl, hS, hl, k⟩ := h
    exact ⟨H, _, ns, rfl, Same.refl _, RdL.start hS (RL.map V.int (fun _ => rfl) ns), OP.mk (B.law_true ns hl) fun _ H' _ => k H'⟩
theorem all_mk {l : PySem.W.OpenLaw} {w : World} {K : PySem.W.Frag} {h : Heap} {mg : Str → Option Value} {fa : Addr} (X : K.In h) (G : h.Ns mainGlobals mg) (hfa : mg "law" = some (.ref fa))
    {f0 f1 f2 f3 f4 f5 f6 f7 f8 f9 f10 f11 f12 f13 f14 f15 f16 f17 f18 f19 f20 C_Formula C_Lamp C_Sure C_Not C_And C_Either C_Or : Addr}
    {od0 an0 : Option Addr} {sl0 : Array (Option Value)} {oc0 kV0 dc0 pm0 cd0 ct0 : Value}
    {od1 an1 : Option Addr} {sl1 : Array (Option Value)} {oc1 kV1 dc1 pm1 cd1 ct1 : Value}
    {od2 an2 : Option Addr} {sl2 : Array (Option Value)} {oc2 kV2 dc2 pm2 cd2 ct2 : Value}
    {od3 an3 : Option Addr} {sl3 : Array (Option Value)} {oc3 kV3 dc3 pm3 cd3 ct3 : Value}
    {od4 an4 : Option Addr} {sl4 : Array (Option Value)} {oc4 kV4 dc4 pm4 cd4 ct4 : Value}
    {od5 an5 : Option Addr} {sl5 : Array (Option Value)} {oc5 kV5 dc5 pm5 cd5 ct5 : Value}
    {od6 an6 : Option Addr} {sl6 : Array (Option Value)} {oc6 kV6 dc6 pm6 cd6 ct6 : Value}
    {od7 an7 : Option Addr} {sl7 : Array (Option Value)} {oc7 kV7 dc7 pm7 cd7 ct7 : Value}
    {od8 an8 : Option Addr} {sl8 : Array (Option Value)} {oc8 kV8 dc8 pm8 cd8 ct8 : Value}
    {od9 an9 : Option Addr} {sl9 : Array (Option Value)} {oc9 kV9 dc9 pm9 cd9 ct9 : Value}
    {od10 an10 : Option Addr} {sl10 : Array (Option Value)} {oc10 kV10 dc10 pm10 cd10 ct10 : Value}
    (a10 : PySem.W.nsIn K mainGlobals "_law_both" = some (some (.ref f10)))
    {od11 an11 : Option Addr} {sl11 : Array (Option Value)} {oc11 kV11 dc11 pm11 cd11 ct11 : Value}
    (a11 : PySem.W.nsIn K mainGlobals "_law_cell_at" = some (some (.ref f11)))
    {od12 an12 : Option Addr} {sl12 : Array (Option Value)} {oc12 kV12 dc12 pm12 cd12 ct12 : Value}
    (a12 : PySem.W.nsIn K mainGlobals "_law_joined" = some (some (.ref f12)))
    {od13 an13 : Option Addr} {sl13 : Array (Option Value)} {oc13 kV13 dc13 pm13 cd13 ct13 : Value}
    {od14 an14 : Option Addr} {sl14 : Array (Option Value)} {oc14 kV14 dc14 pm14 cd14 ct14 : Value}
    {od15 an15 : Option Addr} {sl15 : Array (Option Value)} {oc15 kV15 dc15 pm15 cd15 ct15 : Value}
    {od16 an16 : Option Addr} {sl16 : Array (Option Value)} {oc16 kV16 dc16 pm16 cd16 ct16 : Value}
    {od17 an17 : Option Addr} {sl17 : Array (Option Value)} {oc17 kV17 dc17 pm17 cd17 ct17 : Value}
    {od18 an18 : Option Addr} {sl18 : Array (Option Value)} {oc18 kV18 dc18 pm18 cd18 ct18 : Value}
    (a18 : PySem.W.nsIn K mainGlobals "_law_whole" = some (some (.ref f18)))
    {od19 an19 : Option Addr} {sl19 : Array (Option Value)} {oc19 kV19 dc19 pm19 cd19 ct19 : Value}
    (a19 : PySem.W.nsIn K mainGlobals "_law_seen" = some (some (.ref f19)))
    {od20 an20 : Option Addr} {sl20 : Array (Option Value)} {oc20 kV20 dc20 pm20 cd20 ct20 : Value}
    (a20 : PySem.W.nsIn K mainGlobals "law" = some (some (.ref f20)))
    (aC_Formula : PySem.W.nsIn K mainGlobals "Formula" = some (some (.ref C_Formula)))
    (a13 : PySem.W.findIn K (.ref C_Formula) "note" = some (some (.ref f13))) (i13 : PySem.W.isFn K (.ref f13) = true)
    (a17 : PySem.W.findIn K (.ref C_Formula) "lamps" = some (some (.ref f17))) (i17 : PySem.W.isFn K (.ref f17) = true)
    (aC_Lamp : PySem.W.nsIn K mainGlobals "Lamp" = some (some (.ref C_Lamp)))
    (a0 : PySem.W.findIn K (.ref C_Lamp) "holds" = some (some (.ref f0))) (i0 : PySem.W.isFn K (.ref f0) = true)
    (a7 : PySem.W.findIn K (.ref C_Lamp) "__init__" = some (some (.ref f7))) (i7 : PySem.W.isFn K (.ref f7) = true)
    (a14 : PySem.W.findIn K (.ref C_Lamp) "note" = some (some (.ref f14))) (i14 : PySem.W.isFn K (.ref f14) = true)
    (aC_Sure : PySem.W.nsIn K mainGlobals "Sure" = some (some (.ref C_Sure)))
    (a1 : PySem.W.findIn K (.ref C_Sure) "holds" = some (some (.ref f1))) (i1 : PySem.W.isFn K (.ref f1) = true)
    (a9 : PySem.W.findIn K (.ref C_Sure) "__init__" = some (some (.ref f9))) (i9 : PySem.W.isFn K (.ref f9) = true)
    (aC_Not : PySem.W.nsIn K mainGlobals "Not" = some (some (.ref C_Not)))
    (a4 : PySem.W.findIn K (.ref C_Not) "holds" = some (some (.ref f4))) (i4 : PySem.W.isFn K (.ref f4) = true)
    (a8 : PySem.W.findIn K (.ref C_Not) "__init__" = some (some (.ref f8))) (i8 : PySem.W.isFn K (.ref f8) = true)
    (a16 : PySem.W.findIn K (.ref C_Not) "note" = some (some (.ref f16))) (i16 : PySem.W.isFn K (.ref f16) = true)
    (aC_And : PySem.W.nsIn K mainGlobals "And" = some (some (.ref C_And)))
    (a2 : PySem.W.findIn K (.ref C_And) "holds" = some (some (.ref f2))) (i2 : PySem.W.isFn K (.ref f2) = true)
    (a6 : PySem.W.findIn K (.ref C_And) "__init__" = some (some (.ref f6))) (i6 : PySem.W.isFn K (.ref f6) = true)
    (a15 : PySem.W.findIn K (.ref C_And) "note" = some (some (.ref f15))) (i15 : PySem.W.isFn K (.ref f15) = true)
    (aC_Either : PySem.W.nsIn K mainGlobals "Either" = some (some (.ref C_Either)))
    (a3 : PySem.W.findIn K (.ref C_Either) "holds" = some (some (.ref f3))) (i3 : PySem.W.isFn K (.ref f3) = true)
    (aC_Or : PySem.W.nsIn K mainGlobals "Or" = some (some (.ref C_Or)))
    (a5 : PySem.W.findIn K (.ref C_Or) "holds" = some (some (.ref f5))) (i5 : PySem.W.isFn K (.ref f5) = true)
    (l0 : K.lookup f0 = some ⟨oc0, od0, .func (PySem.W.fnOf "holds" "Lamp.holds" (defArgs (inClass (top 3) 1)) (defBody (inClass (top 3) 1)) (defScope (inClass (top 3) 1)) .none kV0 dc0 pm0 an0 cd0 ct0), sl0⟩) (c0 : PySem.W.codeIn K cd0 "Lamp.holds" = true) (k0 : PySem.W.keepIn K (.ref f0) = true)
    (l1 : K.lookup f1 = some ⟨oc1, od1, .func (PySem.W.fnOf "holds" "Sure.holds" (defArgs (inClass (top 4) 1)) (defBody (inClass (top 4) 1)) (defScope (inClass (top 4) 1)) .none kV1 dc1 pm1 an1 cd1 ct1), sl1⟩) (c1 : PySem.W.codeIn K cd1 "Sure.holds" = true) (k1 : PySem.W.keepIn K (.ref f1) = true)
    (l2 : K.lookup f2 = some ⟨oc2, od2, .func (PySem.W.fnOf "holds" "And.holds" (defArgs (inClass (top 7) 2)) (defBody (inClass (top 7) 2)) (defScope (inClass (top 7) 2)) .none kV2 dc2 pm2 an2 cd2 ct2), sl2⟩) (c2 : PySem.W.codeIn K cd2 "And.holds" = true) (k2 : PySem.W.keepIn K (.ref f2) = true)
    (l3 : K.lookup f3 = some ⟨oc3, od3, .func (PySem.W.fnOf "holds" "Either.holds" (defArgs (inClass (top 8) 2)) (defBody (inClass (top 8) 2)) (defScope (inClass (top 8) 2)) .none kV3 dc3 pm3 an3 cd3 ct3), sl3⟩) (c3 : PySem.W.codeIn K cd3 "Either.holds" = true) (k3 : PySem.W.keepIn K (.ref f3) = true)
    (l4 : K.lookup f4 = some ⟨oc4, od4, .func (PySem.W.fnOf "holds" "Not.holds" (defArgs (inClass (top 5) 1)) (defBody (inClass (top 5) 1)) (defScope (inClass (top 5) 1)) .none kV4 dc4 pm4 an4 cd4 ct4), sl4⟩) (c4 : PySem.W.codeIn K cd4 "Not.holds" = true) (k4 : PySem.W.keepIn K (.ref f4) = true)
    (l5 : K.lookup f5 = some ⟨oc5, od5, .func (PySem.W.fnOf "holds" "Or.holds" (defArgs (inClass (top 9) 2)) (defBody (inClass (top 9) 2)) (defScope (inClass (top 9) 2)) .none kV5 dc5 pm5 an5 cd5 ct5), sl5⟩) (c5 : PySem.W.codeIn K cd5 "Or.holds" = true) (k5 : PySem.W.keepIn K (.ref f5) = true)
    (l6 : K.lookup f6 = some ⟨oc6, od6, .func (PySem.W.fnOf "__init__" "Joined.__init__" (defArgs (inClass (top 6) 0)) (defBody (inClass (top 6) 0)) (defScope (inClass (top 6) 0)) .none kV6 dc6 pm6 an6 cd6 ct6), sl6⟩) (c6 : PySem.W.codeIn K cd6 "Joined.__init__" = true) (k6 : PySem.W.keepIn K (.ref f6) = true)
    (l7 : K.lookup f7 = some ⟨oc7, od7, .func (PySem.W.fnOf "__init__" "Lamp.__init__" (defArgs (inClass (top 3) 0)) (defBody (inClass (top 3) 0)) (defScope (inClass (top 3) 0)) .none kV7 dc7 pm7 an7 cd7 ct7), sl7⟩) (c7 : PySem.W.codeIn K cd7 "Lamp.__init__" = true) (k7 : PySem.W.keepIn K (.ref f7) = true)
    (l8 : K.lookup f8 = some ⟨oc8, od8, .func (PySem.W.fnOf "__init__" "Not.__init__" (defArgs (inClass (top 5) 0)) (defBody (inClass (top 5) 0)) (defScope (inClass (top 5) 0)) .none kV8 dc8 pm8 an8 cd8 ct8), sl8⟩) (c8 : PySem.W.codeIn K cd8 "Not.__init__" = true) (k8 : PySem.W.keepIn K (.ref f8) = true)
    (l9 : K.lookup f9 = some ⟨oc9, od9, .func (PySem.W.fnOf "__init__" "Sure.__init__" (defArgs (inClass (top 4) 0)) (defBody (inClass (top 4) 0)) (defScope (inClass (top 4) 0)) .none kV9 dc9 pm9 an9 cd9 ct9), sl9⟩) (c9 : PySem.W.codeIn K cd9 "Sure.__init__" = true) (k9 : PySem.W.keepIn K (.ref f9) = true)
    (l10 : K.lookup f10 = some ⟨oc10, od10, .func (PySem.W.fnOf "_law_both" "_law_both" (defArgs (top 15)) (defBody (top 15)) (defScope (top 15)) .none kV10 dc10 pm10 an10 cd10 ct10), sl10⟩) (c10 : PySem.W.codeIn K cd10 "_law_both" = true) (k10 : PySem.W.keepIn K (.ref f10) = true)
    (l11 : K.lookup f11 = some ⟨oc11, od11, .func (PySem.W.fnOf "_law_cell_at" "_law_cell_at" (defArgs (top 11)) (defBody (top 11)) (defScope (top 11)) .none kV11 dc11 pm11 an11 cd11 ct11), sl11⟩) (c11 : PySem.W.codeIn K cd11 "_law_cell_at" = true) (k11 : PySem.W.keepIn K (.ref f11) = true)
    (l12 : K.lookup f12 = some ⟨oc12, od12, .func (PySem.W.fnOf "_law_joined" "_law_joined" (defArgs (top 13)) (defBody (top 13)) (defScope (top 13)) .none kV12 dc12 pm12 an12 cd12 ct12), sl12⟩) (c12 : PySem.W.codeIn K cd12 "_law_joined" = true) (k12 : PySem.W.keepIn K (.ref f12) = true)
    (l13 : K.lookup f13 = some ⟨oc13, od13, .func (PySem.W.fnOf "note" "Formula.note" (defArgs (inClass (top 2) 2)) (defBody (inClass (top 2) 2)) (defScope (inClass (top 2) 2)) .none kV13 dc13 pm13 an13 cd13 ct13), sl13⟩) (c13 : PySem.W.codeIn K cd13 "Formula.note" = true) (k13 : PySem.W.keepIn K (.ref f13) = true)
    (l14 : K.lookup f14 = some ⟨oc14, od14, .func (PySem.W.fnOf "note" "Lamp.note" (defArgs (inClass (top 3) 3)) (defBody (inClass (top 3) 3)) (defScope (inClass (top 3) 3)) .none kV14 dc14 pm14 an14 cd14 ct14), sl14⟩) (c14 : PySem.W.codeIn K cd14 "Lamp.note" = true) (k14 : PySem.W.keepIn K (.ref f14) = true)
    (l15 : K.lookup f15 = some ⟨oc15, od15, .func (PySem.W.fnOf "note" "Joined.note" (defArgs (inClass (top 6) 2)) (defBody (inClass (top 6) 2)) (defScope (inClass (top 6) 2)) .none kV15 dc15 pm15 an15 cd15 ct15), sl15⟩) (c15 : PySem.W.codeIn K cd15 "Joined.note" = true) (k15 : PySem.W.keepIn K (.ref f15) = true)
    (l16 : K.lookup f16 = some ⟨oc16, od16, .func (PySem.W.fnOf "note" "Not.note" (defArgs (inClass (top 5) 3)) (defBody (inClass (top 5) 3)) (defScope (inClass (top 5) 3)) .none kV16 dc16 pm16 an16 cd16 ct16), sl16⟩) (c16 : PySem.W.codeIn K cd16 "Not.note" = true) (k16 : PySem.W.keepIn K (.ref f16) = true)
    (l17 : K.lookup f17 = some ⟨oc17, od17, .func (PySem.W.fnOf "lamps" "Formula.lamps" (defArgs (inClass (top 2) 5)) (defBody (inClass (top 2) 5)) (defScope (inClass (top 2) 5)) .none kV17 dc17 pm17 an17 cd17 ct17), sl17⟩) (c17 : PySem.W.codeIn K cd17 "Formula.lamps" = true) (k17 : PySem.W.keepIn K (.ref f17) = true)
    (l18 : K.lookup f18 = some ⟨oc18, od18, .func (PySem.W.fnOf "_law_whole" "_law_whole" (defArgs (top 12)) (defBody (top 12)) (defScope (top 12)) .none kV18 dc18 pm18 an18 cd18 ct18), sl18⟩) (c18 : PySem.W.codeIn K cd18 "_law_whole" = true) (k18 : PySem.W.keepIn K (.ref f18) = true)
    (l19 : K.lookup f19 = some ⟨oc19, od19, .func (PySem.W.fnOf "_law_seen" "_law_seen" (defArgs (top 14)) (defBody (top 14)) (defScope (top 14)) .none kV19 dc19 pm19 an19 cd19 ct19), sl19⟩) (c19 : PySem.W.codeIn K cd19 "_law_seen" = true) (k19 : PySem.W.keepIn K (.ref f19) = true)
    (l20 : K.lookup f20 = some ⟨oc20, od20, .func (PySem.W.fnOf "law" "law" (defArgs (top 16)) (defBody (top 16)) (defScope (top 16)) .none kV20 dc20 pm20 an20 cd20 ct20), sl20⟩) (c20 : PySem.W.codeIn K cd20 "law" = true) (k20 : PySem.W.keepIn K (.ref f20) = true)
    (pg_Lamp : PySem.W.plainGet K C_Lamp Str.empty = true) (hd_Lamp : PySem.W.hasDictIn K C_Lamp = true) (po_Lamp : PySem.W.plainOver K C_Lamp = true) (sa_Lamp : PySem.W.findIn K (.ref C_Lamp) "__setattr__" = some (some (.builtin "object.__setattr__")))
    (ha_Lamp : PySem.W.findIn K (.ref C_Lamp) "__class__" = some (some (.builtin "object.__class__"))) (hn_Lamp : PySem.W.specialIn K (.builtin "object.__class__") "__get__" = some (some (.builtin "getset_descriptor.__get__"))) (ht_Lamp : PySem.W.takesIn K (.builtin "object.__class__") = some true) (hm_Lamp : PySem.W.mroIn K C_Lamp (.type "object") = some true)
    (mk_Lamp : PySem.W.makesIn K C_Lamp = true) (kc_Lamp : PySem.W.keepIn K (.ref C_Lamp) = true)
    (pg_Sure : PySem.W.plainGet K C_Sure Str.empty = true) (hd_Sure : PySem.W.hasDictIn K C_Sure = true) (po_Sure : PySem.W.plainOver K C_Sure = true) (sa_Sure : PySem.W.findIn K (.ref C_Sure) "__setattr__" = some (some (.builtin "object.__setattr__")))
    (ha_Sure : PySem.W.findIn K (.ref C_Sure) "__class__" = some (some (.builtin "object.__class__"))) (hn_Sure : PySem.W.specialIn K (.builtin "object.__class__") "__get__" = some (some (.builtin "getset_descriptor.__get__"))) (ht_Sure : PySem.W.takesIn K (.builtin "object.__class__") = some true) (hm_Sure : PySem.W.mroIn K C_Sure (.type "object") = some true)
    (mk_Sure : PySem.W.makesIn K C_Sure = true) (kc_Sure : PySem.W.keepIn K (.ref C_Sure) = true)
    (pg_Not : PySem.W.plainGet K C_Not Str.empty = true) (hd_Not : PySem.W.hasDictIn K C_Not = true) (po_Not : PySem.W.plainOver K C_Not = true) (sa_Not : PySem.W.findIn K (.ref C_Not) "__setattr__" = some (some (.builtin "object.__setattr__")))
    (ha_Not : PySem.W.findIn K (.ref C_Not) "__class__" = some (some (.builtin "object.__class__"))) (hn_Not : PySem.W.specialIn K (.builtin "object.__class__") "__get__" = some (some (.builtin "getset_descriptor.__get__"))) (ht_Not : PySem.W.takesIn K (.builtin "object.__class__") = some true) (hm_Not : PySem.W.mroIn K C_Not (.type "object") = some true)
    (mk_Not : PySem.W.makesIn K C_Not = true) (kc_Not : PySem.W.keepIn K (.ref C_Not) = true)
    (pg_And : PySem.W.plainGet K C_And Str.empty = true) (hd_And : PySem.W.hasDictIn K C_And = true) (po_And : PySem.W.plainOver K C_And = true) (sa_And : PySem.W.findIn K (.ref C_And) "__setattr__" = some (some (.builtin "object.__setattr__")))
    (ha_And : PySem.W.findIn K (.ref C_And) "__class__" = some (some (.builtin "object.__class__"))) (hn_And : PySem.W.specialIn K (.builtin "object.__class__") "__get__" = some (some (.builtin "getset_descriptor.__get__"))) (ht_And : PySem.W.takesIn K (.builtin "object.__class__") = some true) (hm_And : PySem.W.mroIn K C_And (.type "object") = some true)
    (mk_And : PySem.W.makesIn K C_And = true) (kc_And : PySem.W.keepIn K (.ref C_And) = true)
    (pg_Either : PySem.W.plainGet K C_Either Str.empty = true) (hd_Either : PySem.W.hasDictIn K C_Either = true) (po_Either : PySem.W.plainOver K C_Either = true) (sa_Either : PySem.W.findIn K (.ref C_Either) "__setattr__" = some (some (.builtin "object.__setattr__")))
    (ha_Either : PySem.W.findIn K (.ref C_Either) "__class__" = some (some (.builtin "object.__class__"))) (hn_Either : PySem.W.specialIn K (.builtin "object.__class__") "__get__" = some (some (.builtin "getset_descriptor.__get__"))) (ht_Either : PySem.W.takesIn K (.builtin "object.__class__") = some true) (hm_Either : PySem.W.mroIn K C_Either (.type "object") = some true)
    (mk_Either : PySem.W.makesIn K C_Either = true) (kc_Either : PySem.W.keepIn K (.ref C_Either) = true)
    (am_Either___init__ : PySem.W.findIn K (.ref C_Either) "__init__" = some (some (.ref f6)))
    (pg_Or : PySem.W.plainGet K C_Or Str.empty = true) (hd_Or : PySem.W.hasDictIn K C_Or = true) (po_Or : PySem.W.plainOver K C_Or = true) (sa_Or : PySem.W.findIn K (.ref C_Or) "__setattr__" = some (some (.builtin "object.__setattr__")))
    (ha_Or : PySem.W.findIn K (.ref C_Or) "__class__" = some (some (.builtin "object.__class__"))) (hn_Or : PySem.W.specialIn K (.builtin "object.__class__") "__get__" = some (some (.builtin "getset_descriptor.__get__"))) (ht_Or : PySem.W.takesIn K (.builtin "object.__class__") = some true) (hm_Or : PySem.W.mroIn K C_Or (.type "object") = some true)
    (mk_Or : PySem.W.makesIn K C_Or = true) (kc_Or : PySem.W.keepIn K (.ref C_Or) = true)
    (am_Or___init__ : PySem.W.findIn K (.ref C_Or) "__init__" = some (some (.ref f6)))
    (kc1_Formula : PySem.W.isClsIn K C_Formula = true) (kt_Formula : PySem.W.typeIn K (.ref C_Formula) = some (.type "type")) (ks_Formula : PySem.W.subIn K (.ref C_Formula) (.ref C_Formula) = some true)
    (ki_And_Formula : PySem.W.subIn K (.ref C_And) (.ref C_Formula) = some true)
    (ki_Either_Formula : PySem.W.subIn K (.ref C_Either) (.ref C_Formula) = some true)
    (ki_Lamp_Formula : PySem.W.subIn K (.ref C_Lamp) (.ref C_Formula) = some true)
    (ki_Not_Formula : PySem.W.subIn K (.ref C_Not) (.ref C_Formula) = some true)
    (ki_Or_Formula : PySem.W.subIn K (.ref C_Or) (.ref C_Formula) = some true)
    (ki_Sure_Formula : PySem.W.subIn K (.ref C_Sure) (.ref C_Formula) = some true)
    (nA_And_parts : PySem.W.findIn K (.ref C_And) "parts" = some none)
    (nA_Either_parts : PySem.W.findIn K (.ref C_Either) "parts" = some none)
    (nA_Lamp_at : PySem.W.findIn K (.ref C_Lamp) "at" = some none)
    (nA_Not_part : PySem.W.findIn K (.ref C_Not) "part" = some none)
    (nA_Or_parts : PySem.W.findIn K (.ref C_Or) "parts" = some none)
    (nA_Sure_truth : PySem.W.findIn K (.ref C_Sure) "truth" = some none)
    (am_And_lamps : PySem.W.findIn K (.ref C_And) "lamps" = some (some (.ref f17)))
    (am_Either_lamps : PySem.W.findIn K (.ref C_Either) "lamps" = some (some (.ref f17)))
    (am_Either_note : PySem.W.findIn K (.ref C_Either) "note" = some (some (.ref f15)))
    (am_Lamp_lamps : PySem.W.findIn K (.ref C_Lamp) "lamps" = some (some (.ref f17)))
    (am_Not_lamps : PySem.W.findIn K (.ref C_Not) "lamps" = some (some (.ref f17)))
    (am_Or_lamps : PySem.W.findIn K (.ref C_Or) "lamps" = some (some (.ref f17)))
    (am_Or_note : PySem.W.findIn K (.ref C_Or) "note" = some (some (.ref f15)))
    (am_Sure_lamps : PySem.W.findIn K (.ref C_Sure) "lamps" = some (some (.ref f17)))
    (am_Sure_note : PySem.W.findIn K (.ref C_Sure) "note" = some (some (.ref f13)))
    (z_bool : PySem.W.nsIn K mainGlobals "bool" = some none)
    (z_int : PySem.W.nsIn K mainGlobals "int" = some none)
    (z_isinstance : PySem.W.nsIn K mainGlobals "isinstance" = some none)
    (z_len : PySem.W.nsIn K mainGlobals "len" = some none)
    (z_list : PySem.W.nsIn K mainGlobals "list" = some none)
    (z_max : PySem.W.nsIn K mainGlobals "max" = some none)
    (z_range : PySem.W.nsIn K mainGlobals "range" = some none)
    (z_sorted : PySem.W.nsIn K mainGlobals "sorted" = some none) :
    ∃ fd : FuncData, (∀ (s : Shared) (v : Value), BindsTo s fd ⟨[v], []⟩ [("_law_script", v)]) ∧ ∀ base : Heap, K.In base → base.Ns mainGlobals mg → FnOk l.prog w K mg base CX0 104 fa fd ["_law_script"] (spLaw K) := by
  have e := hfa.symm.trans (PySem.W.mg_of X G a20)
  cases e
  exact ⟨_, fun s v => .of_eq rfl, fun base _ _ => law_ok (T := {
    c := (⟨C_Formula, C_Lamp, C_Sure, C_Not, C_And, C_Either, C_Or⟩),
    m__law_both := (PySem.W.mg_of X G a10),
    m__law_cell_at := (PySem.W.mg_of X G a11),
    m__law_joined := (PySem.W.mg_of X G a12),
    m__law_whole := (PySem.W.mg_of X G a18),
    m__law_seen := (PySem.W.mg_of X G a19),
    m_law := (PySem.W.mg_of X G a20),
    m_Formula := (PySem.W.mg_of X G aC_Formula),
    m_Lamp := (PySem.W.mg_of X G aC_Lamp),
    m_Sure := (PySem.W.mg_of X G aC_Sure),
    m_Not := (PySem.W.mg_of X G aC_Not),
    m_And := (PySem.W.mg_of X G aC_And),
    m_Either := (PySem.W.mg_of X G aC_Either),
    m_Or := (PySem.W.mg_of X G aC_Or),
    f_Lamp_holds := (_),
    d_Lamp_holds := (_),
    F_Lamp_holds := (fun_mk (st := (inClass (top 3) 1)) l0 c0 k0),
    b_Lamp_holds := ((fun_mk (st := (inClass (top 3) 1)) l0 c0 k0).binds (ps := ["self", "stand"]) fun _ _ _ _ _ _ us hl => match us, hl with | [_, _], _ => rfl),
    f_Sure_holds := (_),
    d_Sure_holds := (_),
    F_Sure_holds := (fun_mk (st := (inClass (top 4) 1)) l1 c1 k1),
    b_Sure_holds := ((fun_mk (st := (inClass (top 4) 1)) l1 c1 k1).binds (ps := ["self", "stand"]) fun _ _ _ _ _ _ us hl => match us, hl with | [_, _], _ => rfl),
    f_And_holds := (_),
    d_And_holds := (_),
    F_And_holds := (fun_mk (st := (inClass (top 7) 2)) l2 c2 k2),
    b_And_holds := ((fun_mk (st := (inClass (top 7) 2)) l2 c2 k2).binds (ps := ["self", "stand"]) fun _ _ _ _ _ _ us hl => match us, hl with | [_, _], _ => rfl),
    f_Either_holds := (_),
    d_Either_holds := (_),
    F_Either_holds := (fun_mk (st := (inClass (top 8) 2)) l3 c3 k3),
    b_Either_holds := ((fun_mk (st := (inClass (top 8) 2)) l3 c3 k3).binds (ps := ["self", "stand"]) fun _ _ _ _ _ _ us hl => match us, hl with | [_, _], _ => rfl),
    f_Not_holds := (_),
    d_Not_holds := (_),
    F_Not_holds := (fun_mk (st := (inClass (top 5) 1)) l4 c4 k4),
    b_Not_holds := ((fun_mk (st := (inClass (top 5) 1)) l4 c4 k4).binds (ps := ["self", "stand"]) fun _ _ _ _ _ _ us hl => match us, hl with | [_, _], _ => rfl),
    f_Or_holds := (_),
    d_Or_holds := (_),
    F_Or_holds := (fun_mk (st := (inClass (top 9) 2)) l5 c5 k5),
    b_Or_holds := ((fun_mk (st := (inClass (top 9) 2)) l5 c5 k5).binds (ps := ["self", "stand"]) fun _ _ _ _ _ _ us hl => match us, hl with | [_, _], _ => rfl),
    f_Joined___init__ := (_),
    d_Joined___init__ := (_),
    F_Joined___init__ := (fun_mk (st := (inClass (top 6) 0)) l6 c6 k6),
    b_Joined___init__ := ((fun_mk (st := (inClass (top 6) 0)) l6 c6 k6).binds (ps := ["self", "parts"]) fun _ _ _ _ _ _ us hl => match us, hl with | [_, _], _ => rfl),
    f_Lamp___init__ := (_),
    d_Lamp___init__ := (_),
    F_Lamp___init__ := (fun_mk (st := (inClass (top 3) 0)) l7 c7 k7),
    b_Lamp___init__ := ((fun_mk (st := (inClass (top 3) 0)) l7 c7 k7).binds (ps := ["self", "at"]) fun _ _ _ _ _ _ us hl => match us, hl with | [_, _], _ => rfl),
    f_Not___init__ := (_),
    d_Not___init__ := (_),
    F_Not___init__ := (fun_mk (st := (inClass (top 5) 0)) l8 c8 k8),
    b_Not___init__ := ((fun_mk (st := (inClass (top 5) 0)) l8 c8 k8).binds (ps := ["self", "part"]) fun _ _ _ _ _ _ us hl => match us, hl with | [_, _], _ => rfl),
    f_Sure___init__ := (_),
    d_Sure___init__ := (_),
    F_Sure___init__ := (fun_mk (st := (inClass (top 4) 0)) l9 c9 k9),
    b_Sure___init__ := ((fun_mk (st := (inClass (top 4) 0)) l9 c9 k9).binds (ps := ["self", "truth"]) fun _ _ _ _ _ _ us hl => match us, hl with | [_, _], _ => rfl),
    f__law_both := (_),
    d__law_both := (_),
    F__law_both := (fun_mk (st := (top 15)) l10 c10 k10),
    b__law_both := ((fun_mk (st := (top 15)) l10 c10 k10).binds (ps := ["_law_rows"]) fun _ _ _ _ _ _ us hl => match us, hl with | [_], _ => rfl),
    f__law_cell_at := (_),
    d__law_cell_at := (_),
    F__law_cell_at := (fun_mk (st := (top 11)) l11 c11 k11),
    b__law_cell_at := ((fun_mk (st := (top 11)) l11 c11 k11).binds (ps := ["_law_script", "_law_k"]) fun _ _ _ _ _ _ us hl => match us, hl with | [_, _], _ => rfl),
    f__law_joined := (_),
    d__law_joined := (_),
    F__law_joined := (fun_mk (st := (top 13)) l12 c12 k12),
    b__law_joined := ((fun_mk (st := (top 13)) l12 c12 k12).binds (ps := ["_law_word", "_law_parts"]) fun _ _ _ _ _ _ us hl => match us, hl with | [_, _], _ => rfl),
    f_Formula_note := (_),
    d_Formula_note := (_),
    F_Formula_note := (fun_mk (st := (inClass (top 2) 2)) l13 c13 k13),
    b_Formula_note := ((fun_mk (st := (inClass (top 2) 2)) l13 c13 k13).binds (ps := ["self", "seen"]) fun _ _ _ _ _ _ us hl => match us, hl with | [_, _], _ => rfl),
    f_Lamp_note := (_),
    d_Lamp_note := (_),
    F_Lamp_note := (fun_mk (st := (inClass (top 3) 3)) l14 c14 k14),
    b_Lamp_note := ((fun_mk (st := (inClass (top 3) 3)) l14 c14 k14).binds (ps := ["self", "seen"]) fun _ _ _ _ _ _ us hl => match us, hl with | [_, _], _ => rfl),
    f_Joined_note := (_),
    d_Joined_note := (_),
    F_Joined_note := (fun_mk (st := (inClass (top 6) 2)) l15 c15 k15),
    b_Joined_note := ((fun_mk (st := (inClass (top 6) 2)) l15 c15 k15).binds (ps := ["self", "seen"]) fun _ _ _ _ _ _ us hl => match us, hl with | [_, _], _ => rfl),
    f_Not_note := (_),
    d_Not_note := (_),
    F_Not_note := (fun_mk (st := (inClass (top 5) 3)) l16 c16 k16),
    b_Not_note := ((fun_mk (st := (inClass (top 5) 3)) l16 c16 k16).binds (ps := ["self", "seen"]) fun _ _ _ _ _ _ us hl => match us, hl with | [_, _], _ => rfl),
    f_Formula_lamps := (_),
    d_Formula_lamps := (_),
    F_Formula_lamps := (fun_mk (st := (inClass (top 2) 5)) l17 c17 k17),
    b_Formula_lamps := ((fun_mk (st := (inClass (top 2) 5)) l17 c17 k17).binds (ps := ["self"]) fun _ _ _ _ _ _ us hl => match us, hl with | [_], _ => rfl),
    f__law_whole := (_),
    d__law_whole := (_),
    F__law_whole := (fun_mk (st := (top 12)) l18 c18 k18),
    b__law_whole := ((fun_mk (st := (top 12)) l18 c18 k18).binds (ps := ["_law_found"]) fun _ _ _ _ _ _ us hl => match us, hl with | [_], _ => rfl),
    f__law_seen := (_),
    d__law_seen := (_),
    F__law_seen := (fun_mk (st := (top 14)) l19 c19 k19),
    b__law_seen := ((fun_mk (st := (top 14)) l19 c19 k19).binds (ps := ["_law_formula", "_law_used"]) fun _ _ _ _ _ _ us hl => match us, hl with | [_, _], _ => rfl),
    f_law := (_),
    d_law := (_),
    F_law := (fun_mk (st := (top 16)) l20 c20 k20),
    b_law := ((fun_mk (st := (top 16)) l20 c20 k20).binds (ps := ["_law_script"]) fun _ _ _ _ _ _ us hl => match us, hl with | [_], _ => rfl),
    l_Lamp := (⟨pg_Lamp, hd_Lamp, po_Lamp, sa_Lamp⟩),
    h_Lamp := (⟨ha_Lamp, hn_Lamp, ht_Lamp, hm_Lamp⟩),
    k_Lamp := (⟨mk_Lamp, a7, i7, kc_Lamp⟩),
    l_Sure := (⟨pg_Sure, hd_Sure, po_Sure, sa_Sure⟩),
    h_Sure := (⟨ha_Sure, hn_Sure, ht_Sure, hm_Sure⟩),
    k_Sure := (⟨mk_Sure, a9, i9, kc_Sure⟩),
    l_Not := (⟨pg_Not, hd_Not, po_Not, sa_Not⟩),
    h_Not := (⟨ha_Not, hn_Not, ht_Not, hm_Not⟩),
    k_Not := (⟨mk_Not, a8, i8, kc_Not⟩),
    l_And := (⟨pg_And, hd_And, po_And, sa_And⟩),
    h_And := (⟨ha_And, hn_And, ht_And, hm_And⟩),
    k_And := (⟨mk_And, a6, i6, kc_And⟩),
    l_Either := (⟨pg_Either, hd_Either, po_Either, sa_Either⟩),
    h_Either := (⟨ha_Either, hn_Either, ht_Either, hm_Either⟩),
    k_Either := (⟨mk_Either, am_Either___init__, i6, kc_Either⟩),
    l_Or := (⟨pg_Or, hd_Or, po_Or, sa_Or⟩),
    h_Or := (⟨ha_Or, hn_Or, ht_Or, hm_Or⟩),
    k_Or := (⟨mk_Or, am_Or___init__, i6, kc_Or⟩),
    i_And_Formula := (kit_t kc1_Formula kt_Formula ki_And_Formula),
    i_Either_Formula := (kit_t kc1_Formula kt_Formula ki_Either_Formula),
    i_Lamp_Formula := (kit_t kc1_Formula kt_Formula ki_Lamp_Formula),
    i_Not_Formula := (kit_t kc1_Formula kt_Formula ki_Not_Formula),
    i_Or_Formula := (kit_t kc1_Formula kt_Formula ki_Or_Formula),
    i_Sure_Formula := (kit_t kc1_Formula kt_Formula ki_Sure_Formula),
    a_And_parts := (nA_And_parts),
    a_Either_parts := (nA_Either_parts),
    a_Lamp_at := (nA_Lamp_at),
    a_Not_part := (nA_Not_part),
    a_Or_parts := (nA_Or_parts),
    a_Sure_truth := (nA_Sure_truth),
    t_And_holds := (⟨a2, i2, k2⟩),
    t_And_lamps := (⟨am_And_lamps, i17, k17⟩),
    t_And_note := (⟨a15, i15, k15⟩),
    t_Either_holds := (⟨a3, i3, k3⟩),
    t_Either_lamps := (⟨am_Either_lamps, i17, k17⟩),
    t_Either_note := (⟨am_Either_note, i15, k15⟩),
    t_Lamp_holds := (⟨a0, i0, k0⟩),
    t_Lamp_lamps := (⟨am_Lamp_lamps, i17, k17⟩),
    t_Lamp_note := (⟨a14, i14, k14⟩),
    t_Not_holds := (⟨a4, i4, k4⟩),
    t_Not_lamps := (⟨am_Not_lamps, i17, k17⟩),
    t_Not_note := (⟨a16, i16, k16⟩),
    t_Or_holds := (⟨a5, i5, k5⟩),
    t_Or_lamps := (⟨am_Or_lamps, i17, k17⟩),
    t_Or_note := (⟨am_Or_note, i15, k15⟩),
    t_Sure_holds := (⟨a1, i1, k1⟩),
    t_Sure_lamps := (⟨am_Sure_lamps, i17, k17⟩),
    t_Sure_note := (⟨am_Sure_note, i13, k13⟩),
    n_bool := (PySem.W.mg_none_of X G z_bool),
    n_int := (PySem.W.mg_none_of X G z_int),
    n_isinstance := (PySem.W.mg_none_of X G z_isinstance),
    n_len := (PySem.W.mg_none_of X G z_len),
    n_list := (PySem.W.mg_none_of X G z_list),
    n_max := (PySem.W.mg_none_of X G z_max),
    n_range := (PySem.W.mg_none_of X G z_range),
    n_sorted := (PySem.W.mg_none_of X G z_sorted) })⟩
end E
open PySem PySem.W PyProof.Rows
set_option maxRecDepth 100000 in
set_option maxHeartbeats 0 in
theorem PySem.Challenge.cw_evernever_k04_lamps_in_a_formula_holds : PySem.Challenge.rw_evernever_k04_lamps_in_a_formula.Holds := by
  w_on; o_law; k_head; (case hw => w_witness2)
  k_fill
  refine L2.walk_of (l := PySem.Challenge.rw_evernever_k04_lamps_in_a_formula) (n := 63) (k := 104) (x := "_law_script") (CX := fun _ => L2.CX0) (sp := fun w => E.spLaw _) rfl (by decide) rfl ⟨rfl, by decide, by decide⟩ (fun w h Y => PySem.W.kIn_of Y) ?F (fun _ _ a ns hl _ hS => ⟨a, ns, rfl, hS, hl, fun _ => rfl⟩) (fun _ _ _ _ _ h => h)
  case F =>
    intro w mg fa h KX G hmg
    refine' E.all_mk KX G hmg ?a10 ?a11 ?a12 ?a18 ?a19 ?a20 ?aC_Formula ?a13 ?i13 ?a17 ?i17 ?aC_Lamp ?a0 ?i0 ?a7 ?i7 ?a14 ?i14 ?aC_Sure ?a1 ?i1 ?a9 ?i9 ?aC_Not ?a4 ?i4 ?a8 ?i8 ?a16 ?i16 ?aC_And ?a2 ?i2 ?a6 ?i6 ?a15 ?i15 ?aC_Either ?a3 ?i3 ?aC_Or ?a5 ?i5 ?l0 ?c0 ?k0 ?l1 ?c1 ?k1 ?l2 ?c2 ?k2 ?l3 ?c3 ?k3 ?l4 ?c4 ?k4 ?l5 ?c5 ?k5 ?l6 ?c6 ?k6 ?l7 ?c7 ?k7 ?l8 ?c8 ?k8 ?l9 ?c9 ?k9 ?l10 ?c10 ?k10 ?l11 ?c11 ?k11 ?l12 ?c12 ?k12 ?l13 ?c13 ?k13 ?l14 ?c14 ?k14 ?l15 ?c15 ?k15 ?l16 ?c16 ?k16 ?l17 ?c17 ?k17 ?l18 ?c18 ?k18 ?l19 ?c19 ?k19 ?l20 ?c20 ?k20 ?pg_Lamp ?hd_Lamp ?po_Lamp ?sa_Lamp ?ha_Lamp ?hn_Lamp ?ht_Lamp ?hm_Lamp ?mk_Lamp ?kc_Lamp ?pg_Sure ?hd_Sure ?po_Sure ?sa_Sure ?ha_Sure ?hn_Sure ?ht_Sure ?hm_Sure ?mk_Sure ?kc_Sure ?pg_Not ?hd_Not ?po_Not ?sa_Not ?ha_Not ?hn_Not ?ht_Not ?hm_Not ?mk_Not ?kc_Not ?pg_And ?hd_And ?po_And ?sa_And ?ha_And ?hn_And ?ht_And ?hm_And ?mk_And ?kc_And ?pg_Either ?hd_Either ?po_Either ?sa_Either ?ha_Either ?hn_Either ?ht_Either ?hm_Either ?mk_Either ?kc_Either ?am_Either___init__ ?pg_Or ?hd_Or ?po_Or ?sa_Or ?ha_Or ?hn_Or ?ht_Or ?hm_Or ?mk_Or ?kc_Or ?am_Or___init__ ?kc1_Formula ?kt_Formula ?ks_Formula ?ki_And_Formula ?ki_Either_Formula ?ki_Lamp_Formula ?ki_Not_Formula ?ki_Or_Formula ?ki_Sure_Formula ?nA_And_parts ?nA_Either_parts ?nA_Lamp_at ?nA_Not_part ?nA_Or_parts ?nA_Sure_truth ?am_And_lamps ?am_Either_lamps ?am_Either_note ?am_Lamp_lamps ?am_Not_lamps ?am_Or_lamps ?am_Or_note ?am_Sure_lamps ?am_Sure_note ?z_bool ?z_int ?z_isinstance ?z_len ?z_list ?z_max ?z_range ?z_sorted
    (case a10 => k_is)
    (case a11 => k_is)
    (case a12 => k_is)
    (case a18 => k_is)
    (case a19 => k_is)
    (case a20 => k_is)
    (case aC_Formula => k_is)
    (case a13 => k_is)
    (case i13 => k_is)
    (case a17 => k_is)
    (case i17 => k_is)
    (case aC_Lamp => k_is)
    (case a0 => k_is)
    (case i0 => k_is)
    (case a7 => k_is)
    (case i7 => k_is)
    (case a14 => k_is)
    (case i14 => k_is)
    (case aC_Sure => k_is)
    (case a1 => k_is)
    (case i1 => k_is)
    (case a9 => k_is)
    (case i9 => k_is)
    (case aC_Not => k_is)
    (case a4 => k_is)
    (case i4 => k_is)
    (case a8 => k_is)
    (case i8 => k_is)
    (case a16 => k_is)
    (case i16 => k_is)
    (case aC_And => k_is)
    (case a2 => k_is)
    (case i2 => k_is)
    (case a6 => k_is)
    (case i6 => k_is)
    (case a15 => k_is)
    (case i15 => k_is)
    (case aC_Either => k_is)
    (case a3 => k_is)
    (case i3 => k_is)
    (case aC_Or => k_is)
    (case a5 => k_is)
    (case i5 => k_is)
    (case l0 => k_is)
    (case c0 => k_is)
    (case k0 => k_is)
    (case l1 => k_is)
    (case c1 => k_is)
    (case k1 => k_is)
    (case l2 => k_is)
    (case c2 => k_is)
    (case k2 => k_is)
    (case l3 => k_is)
    (case c3 => k_is)
    (case k3 => k_is)
    (case l4 => k_is)
    (case c4 => k_is)
    (case k4 => k_is)
    (case l5 => k_is)
    (case c5 => k_is)
    (case k5 => k_is)
    (case l6 => k_is)
    (case c6 => k_is)
    (case k6 => k_is)
    (case l7 => k_is)
    (case c7 => k_is)
    (case k7 => k_is)
    (case l8 => k_is)
    (case c8 => k_is)
    (case k8 => k_is)
    (case l9 => k_is)
    (case c9 => k_is)
    (case k9 => k_is)
    (case l10 => k_is)
    (case c10 => k_is)
    (case k10 => k_is)
    (case l11 => k_is)
    (case c11 => k_is)
    (case k11 => k_is)
    (case l12 => k_is)
    (case c12 => k_is)
    (case k12 => k_is)
    (case l13 => k_is)
    (case c13 => k_is)
    (case k13 => k_is)
    (case l14 => k_is)
    (case c14 => k_is)
    (case k14 => k_is)
    (case l15 => k_is)
    (case c15 => k_is)
    (case k15 => k_is)
    (case l16 => k_is)
    (case c16 => k_is)
    (case k16 => k_is)
    (case l17 => k_is)
    (case c17 => k_is)
    (case k17 => k_is)
    (case l18 => k_is)
    (case c18 => k_is)
    (case k18 => k_is)
    (case l19 => k_is)
    (case c19 => k_is)
    (case k19 => k_is)
    (case l20 => k_is)
    (case c20 => k_is)
    (case k20 => k_is)
    (case pg_Lamp => k_is)
    (case hd_Lamp => k_is)
    (case po_Lamp => k_is)
    (case sa_Lamp => k_is)
    (case ha_Lamp => k_is)
    (case hn_Lamp => k_is)
    (case ht_Lamp => k_is)
    (case hm_Lamp => k_is)
    (case mk_Lamp => k_is)
    (case kc_Lamp => k_is)
    (case pg_Sure => k_is)
    (case hd_Sure => k_is)
    (case po_Sure => k_is)
    (case sa_Sure => k_is)
    (case ha_Sure => k_is)
    (case hn_Sure => k_is)
    (case ht_Sure => k_is)
    (case hm_Sure => k_is)
    (case mk_Sure => k_is)
    (case kc_Sure => k_is)
    (case pg_Not => k_is)
    (case hd_Not => k_is)
    (case po_Not => k_is)
    (case sa_Not => k_is)
    (case ha_Not => k_is)
    (case hn_Not => k_is)
    (case ht_Not => k_is)
    (case hm_Not => k_is)
    (case mk_Not => k_is)
    (case kc_Not => k_is)
    (case pg_And => k_is)
    (case hd_And => k_is)
    (case po_And => k_is)
    (case sa_And => k_is)
    (case ha_And => k_is)
    (case hn_And => k_is)
    (case ht_And => k_is)
    (case hm_And => k_is)
    (case mk_And => k_is)
    (case kc_And => k_is)
    (case pg_Either => k_is)
    (case hd_Either => k_is)
    (case po_Either => k_is)
    (case sa_Either => k_is)
    (case ha_Either => k_is)
    (case hn_Either => k_is)
    (case ht_Either => k_is)
    (case hm_Either => k_is)
    (case mk_Either => k_is)
    (case kc_Either => k_is)
    (case am_Either___init__ => k_is)
    (case pg_Or => k_is)
    (case hd_Or => k_is)
    (case po_Or => k_is)
    (case sa_Or => k_is)
    (case ha_Or => k_is)
    (case hn_Or => k_is)
    (case ht_Or => k_is)
    (case hm_Or => k_is)
    (case mk_Or => k_is)
    (case kc_Or => k_is)
    (case am_Or___init__ => k_is)
    (case kc1_Formula => k_is)
    (case kt_Formula => k_is)
    (case ks_Formula => k_is)
    (case ki_And_Formula => k_is)
    (case ki_Either_Formula => k_is)
    (case ki_Lamp_Formula => k_is)
    (case ki_Not_Formula => k_is)
    (case ki_Or_Formula => k_is)
    (case ki_Sure_Formula => k_is)
    (case nA_And_parts => k_is)
    (case nA_Either_parts => k_is)
    (case nA_Lamp_at => k_is)
    (case nA_Not_part => k_is)
    (case nA_Or_parts => k_is)
    (case nA_Sure_truth => k_is)
    (case am_And_lamps => k_is)
    (case am_Either_lamps => k_is)
    (case am_Either_note => k_is)
    (case am_Lamp_lamps => k_is)
    (case am_Not_lamps => k_is)
    (case am_Or_lamps => k_is)
    (case am_Or_note => k_is)
    (case am_Sure_lamps => k_is)
    (case am_Sure_note => k_is)
    (case z_bool => k_is)
    (case z_int => k_is)
    (case z_isinstance => k_is)
    (case z_len => k_is)
    (case z_list => k_is)
    (case z_max => k_is)
    (case z_range => k_is)
    (case z_sorted => k_is)
#print axioms PySem.Challenge.cw_evernever_k04_lamps_in_a_formula_holds
