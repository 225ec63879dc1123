import PyProof.Rows.All
import Wide.All
import OpenK.AllK
import Wide.FinOn
import HandS.ForMost
import HandS.ForExc
import HandS.ExcIs
import HandS.Small
import HandS.Text
import HandS.Conv
import KE.KDictSum
import HandS.IsInst
import HandS.WideBits
import HandS.Wide
import HandS.WideMore
import HandS.Steps
import HandS.SortRule
import HandS.SortInts
import HandS.TupLe
import HandS.RevTup
import HandS.Rev
import HandS.Iter
import KE.KDictList
import PySem.Challenge.RW_evernever_k16_chart_of_a_machine
set_option Elab.async false
set_option linter.all false
set_option maxRecDepth 100000
set_option maxHeartbeats 8000000
namespace Z
open PySem PySem.Spec PyProof.Rows L2

/-! ### Option as the monad of a mirror: what an answer is wanted for -/
def OP {α : Type} (m : Option α) (A : α → Prop) : Prop := match m with
  | some a => A a
  | none => False
theorem OP.bind {α β : Type} {m : Option α} {k : α → Option β} {A : β → Prop} (h : OP (m.bind k) A) : ∃ x, m = some x ∧ OP (k x) A := by
  cases m with
  | none => exact h.elim
  | some x => exact ⟨x, rfl, h⟩
theorem OP.of {α β : Type} {m : Option α} {k : α → Option β} {A : β → Prop} (h : OP (m.bind k) A) : OP m (fun x => OP (k x) A) := by
  cases m with
  | none => exact h.elim
  | some x => exact h
theorem OP.some {α : Type} {a : α} {A : α → Prop} (h : OP (some a) A) : A a := h
theorem OP.get {α : Type} {m : Option α} {A : α → Prop} (h : OP m A) : ∃ a, m = .some a ∧ A a := by
  cases m with
  | none => exact h.elim
  | some x => exact ⟨x, rfl, h⟩
theorem OP.mk {α : Type} {m : Option α} {a : α} {A : α → Prop} (e : m = .some a) (h : A a) : OP m A := by subst e; exact h
theorem OP.mono {α : Type} {m : Option α} {A B : α → Prop} (h : OP m A) (f : ∀ a, A a → B a) : OP m B := by
  cases m with
  | none => exact h.elim
  | some x => exact f _ h
/-- a guard -/
@[irreducible] def grd {β : Type} (c : Prop) [Decidable c] (k : Option β) : Option β := if c then k else none
theorem OP.grd {β : Type} {c : Prop} {_ : Decidable c} {k : Option β} {A : β → Prop} (h : OP (Z.grd c k) A) : c ∧ OP k A := by
  unfold Z.grd at h
  by_cases hc : c
  · rw [if_pos hc] at h
    exact ⟨hc, h⟩
  · rw [if_neg hc] at h
    exact h.elim
theorem grd_some {β : Type} {c : Prop} {_ : Decidable c} {k : Option β} {r : β} (h : Z.grd c k = some r) : c ∧ k = some r := by
  unfold Z.grd at h
  by_cases hc : c
  · rw [if_pos hc] at h
    exact ⟨hc, h⟩
  · rw [if_neg hc] at h
    cases h
theorem grd_of {β : Type} {c : Prop} [Decidable c] {k : Option β} (h : c) : Z.grd c k = k := by
  unfold Z.grd
  rw [if_pos h]
theorem bind_some {α β : Type} {m : Option α} {k : α → Option β} {r : β} (h : m.bind k = some r) : ∃ x, m = some x ∧ k x = some r := by
  cases m with
  | none => cases h
  | some x => exact ⟨x, rfl, h⟩
/-- a mirror's test -/
@[irreducible] def ifo {α : Type} (c : Bool) (m n : Option α) : Option α := if c = true then m else n
theorem ifo_eq {α : Type} (c : Bool) (m n : Option α) : ifo c m n = if c = true then m else n := by unfold ifo; rfl
theorem ifo_t {α : Type} {c : Bool} {m n : Option α} (h : c = true) : ifo c m n = m := by rw [ifo_eq, if_pos h]
theorem ifo_f {α : Type} {c : Bool} {m n : Option α} (h : c = false) : ifo c m n = n := by rw [ifo_eq, if_neg (by rw [h]; exact Bool.false_ne_true)]
/-- a mirror's loops: without, with an early answer -/
def forO' {α σ : Type} (body : α → σ → Option σ) : List α → σ → Option σ
  | [], s => some s
  | x :: xs, s => (body x s).bind fun s' => forO' body xs s'
@[irreducible] def forO {α σ : Type} (body : α → σ → Option σ) (xs : List α) (s : σ) : Option σ := forO' body xs s
def forR' {α σ ρ : Type} (body : α → σ → Option (σ ⊕ ρ)) : List α → σ → Option (σ ⊕ ρ)
  | [], s => some (.inl s)
  | x :: xs, s => (body x s).bind fun r => match r with
    | .inl s' => forR' body xs s'
    | .inr v => some (.inr v)
@[irreducible] def forR {α σ ρ : Type} (body : α → σ → Option (σ ⊕ ρ)) (xs : List α) (s : σ) : Option (σ ⊕ ρ) := forR' body xs s
def whileO' {σ : Type} (c : σ → Option Bool) (body : σ → Option σ) : Nat → σ → Option σ
  | 0, _ => none
  | n + 1, s => (c s).bind fun b => if b = true then (body s).bind fun s' => whileO' c body n s' else some s
@[irreducible] def whileO {σ : Type} (c : σ → Option Bool) (body : σ → Option σ) (n : Nat) (s : σ) : Option σ := whileO' c body n s
def whileR' {σ ρ : Type} (c : σ → Option Bool) (body : σ → Option (σ ⊕ ρ)) : Nat → σ → Option (σ ⊕ ρ)
  | 0, _ => none
  | n + 1, s => (c s).bind fun b => if b = true then (body s).bind fun r => match r with
    | .inl s' => whileR' c body n s'
    | .inr v => some (.inr v) else some (.inl s)
@[irreducible] def whileR {σ ρ : Type} (c : σ → Option Bool) (body : σ → Option (σ ⊕ ρ)) (n : Nat) (s : σ) : Option (σ ⊕ ρ) := whileR' c body n s
theorem forO_nil {α σ : Type} {body : α → σ → Option σ} {s : σ} : forO body [] s = some s := by unfold forO; rfl
theorem forO_cons {α σ : Type} {body : α → σ → Option σ} {x : α} {xs : List α} {s : σ} : forO body (x :: xs) s = (body x s).bind fun s' => forO body xs s' := by unfold forO; rfl
theorem forR_nil {α σ ρ : Type} {body : α → σ → Option (σ ⊕ ρ)} {s : σ} : forR body [] s = some (.inl s) := by unfold forR; rfl
theorem forR_cons {α σ ρ : Type} {body : α → σ → Option (σ ⊕ ρ)} {x : α} {xs : List α} {s : σ} : forR body (x :: xs) s = (body x s).bind fun r => match r with
    | .inl s' => forR body xs s'
    | .inr v => some (.inr v) := by unfold forR; rfl
theorem whileO_zero {σ : Type} {c : σ → Option Bool} {body : σ → Option σ} {s : σ} : whileO c body 0 s = none := by unfold whileO; rfl
theorem whileO_succ {σ : Type} {c : σ → Option Bool} {body : σ → Option σ} {n : Nat} {s : σ} : whileO c body (n + 1) s = (c s).bind fun b => if b = true then (body s).bind fun s' => whileO c body n s' else some s := by unfold whileO; rfl
theorem whileR_zero {σ ρ : Type} {c : σ → Option Bool} {body : σ → Option (σ ⊕ ρ)} {s : σ} : whileR c body 0 s = none := by unfold whileR; rfl
theorem whileR_succ {σ ρ : Type} {c : σ → Option Bool} {body : σ → Option (σ ⊕ ρ)} {n : Nat} {s : σ} : whileR c body (n + 1) s = (c s).bind fun b => if b = true then (body s).bind fun r => match r with
    | .inl s' => whileR c body n s'
    | .inr v => some (.inr v) else some (.inl s) := by unfold whileR; rfl
def rangeI (lo : Int) (n : Nat) : List Int := (List.range n).map fun (i : Nat) => lo + (i : Int)

/-! ### a datum of Lean's at a value of the heap -/
structure Rep (K : PySem.W.Frag) (α : Type) where
  R : Hp → V → α → Prop
  mono : ∀ {H H' : Hp} {v : V} {x : α}, Same H H' → R H v x → R H' v x
abbrev RL {K : PySem.W.Frag} {α : Type} (τ : Rep K α) (H : Hp) (ws : List V) (xs : List α) : Prop := Paired (τ.R H) ws xs
theorem RL.mono {K : PySem.W.Frag} {α : Type} {τ : Rep K α} {H H' : Hp} (e : Same H H') : ∀ {ws : List V} {xs : List α}, RL τ H ws xs → RL τ H' ws xs
  | _, _, .nil => .nil
  | _, _, .cons a b => .cons (τ.mono e a) (RL.mono e b)
theorem RL.length {K : PySem.W.Frag} {α : Type} {τ : Rep K α} {H : Hp} {ws : List V} {xs : List α} (h : RL τ H ws xs) : ws.length = xs.length := Paired.length h
theorem RL.app {K : PySem.W.Frag} {α : Type} {τ : Rep K α} {H : Hp} : ∀ {ws ws' : List V} {xs xs' : List α}, RL τ H ws xs → RL τ H ws' xs' → RL τ H (ws ++ ws') (xs ++ xs')
  | _, _, _, _, .nil, s => s
  | _, _, _, _, .cons a b, s => .cons a (RL.app b s)
theorem RL.get {K : PySem.W.Frag} {α : Type} {τ : Rep K α} {H : Hp} : ∀ {ws : List V} {xs : List α} {i : Nat} {x : α}, RL τ H ws xs → xs[i]? = some x → ∃ w, ws[i]? = some w ∧ τ.R H w x
  | _, _, _, _, .nil, e => by simp at e
  | _, _, 0, _, .cons r _, e => by simp at e; subst e; exact ⟨_, rfl, r⟩
  | _, _, i + 1, x, .cons _ t, e => by
    obtain ⟨w, h1, h2⟩ := RL.get (i := i) (x := x) t (by simpa using e)
    exact ⟨w, by simpa using h1, h2⟩
theorem RL.set {K : PySem.W.Frag} {α : Type} {τ : Rep K α} {H : Hp} {v : V} {x : α} (r : τ.R H v x) : ∀ {ws : List V} {xs : List α} (i : Nat), RL τ H ws xs → RL τ H (ws.set i v) (xs.set i x)
  | _, _, _, .nil => .nil
  | _, _, 0, .cons _ t => .cons r t
  | _, _, i + 1, .cons q t => .cons q (RL.set r i t)
theorem RL.drop {K : PySem.W.Frag} {α : Type} {τ : Rep K α} {H : Hp} : ∀ {ws : List V} {xs : List α} (n : Nat), RL τ H ws xs → RL τ H (ws.drop n) (xs.drop n)
  | _, _, 0, r => r
  | _, _, _ + 1, .nil => .nil
  | _, _, n + 1, .cons _ t => RL.drop n t
theorem RL.take {K : PySem.W.Frag} {α : Type} {τ : Rep K α} {H : Hp} : ∀ {ws : List V} {xs : List α} (n : Nat), RL τ H ws xs → RL τ H (ws.take n) (xs.take n)
  | _, _, 0, _ => .nil
  | _, _, _ + 1, .nil => .nil
  | _, _, n + 1, .cons r t => .cons r (RL.take n t)
theorem RL.dropLast {K : PySem.W.Frag} {α : Type} {τ : Rep K α} {H : Hp} {ws : List V} {xs : List α} (h : RL τ H ws xs) : RL τ H ws.dropLast xs.dropLast := by
  rw [List.dropLast_eq_take, List.dropLast_eq_take, h.length]
  exact h.take _
theorem RL.reverse {K : PySem.W.Frag} {α : Type} {τ : Rep K α} {H : Hp} : ∀ {ws : List V} {xs : List α}, RL τ H ws xs → RL τ H ws.reverse xs.reverse
  | _, _, .nil => .nil
  | _, _, .cons r t => by
    rw [List.reverse_cons, List.reverse_cons]
    exact (RL.reverse t).app (.cons r .nil)
theorem RL.map {K : PySem.W.Frag} {α : Type} {τ : Rep K α} {H : Hp} (f : α → V) (hf : ∀ x, τ.R H (f x) x) : ∀ xs : List α, RL τ H (xs.map f) xs
  | [] => .nil
  | x :: xs => .cons (hf x) (RL.map f hf xs)
theorem RL.eqmap {K : PySem.W.Frag} {α : Type} {τ : Rep K α} {H : Hp} (f : α → V) (hf : ∀ v x, τ.R H v x → v = f x) : ∀ {ws : List V} {xs : List α}, RL τ H ws xs → ws = xs.map f
  | _, _, .nil => rfl
  | _, _, .cons r t => by
    rw [List.map_cons, hf _ _ r, RL.eqmap f hf t]

section
variable {K : PySem.W.Frag}
def qI : Rep K Int := ⟨fun _ v x => v = .int x, fun _ h => h⟩
def qB : Rep K Bool := ⟨fun _ v x => v = .bl x, fun _ h => h⟩
def qS : Rep K Str := ⟨fun _ v x => v = .str x, fun _ h => h⟩
def qU : Rep K Unit := ⟨fun _ v _ => v = .non, fun _ h => h⟩
def qOpt {α : Type} (τ : Rep K α) : Rep K (Option α) := ⟨fun H v x => match x with | none => v = .non | some y => v ≠ .non ∧ τ.R H v y, fun {H H' v x} e h => by
  cases x with
  | none => exact h
  | some y => exact ⟨h.1, τ.mono e h.2⟩⟩
def qT2 {α β : Type} (τ : Rep K α) (υ : Rep K β) : Rep K (α × β) := ⟨fun H v x => ∃ a w1 w2, v = .ref a ∧ H a = some (.tup [w1, w2]) ∧ τ.R H w1 x.1 ∧ υ.R H w2 x.2, fun {H H' v x} e h => by
  obtain ⟨a, w1, w2, h1, h2, h3, h4⟩ := h
  exact ⟨a, w1, w2, h1, e _ _ h2, τ.mono e h3, υ.mono e h4⟩⟩
def qT3 {α β γ : Type} (τ : Rep K α) (υ : Rep K β) (φ : Rep K γ) : Rep K (α × β × γ) := ⟨fun H v x => ∃ a w1 w2 w3, v = .ref a ∧ H a = some (.tup [w1, w2, w3]) ∧ τ.R H w1 x.1 ∧ υ.R H w2 x.2.1 ∧ φ.R H w3 x.2.2, fun {H H' v x} e h => by
  obtain ⟨a, w1, w2, w3, h1, h2, h3, h4, h5⟩ := h
  exact ⟨a, w1, w2, w3, h1, e _ _ h2, τ.mono e h3, υ.mono e h4, φ.mono e h5⟩⟩
/-- a list that is tracked -/
def qL {α : Type} (τ : Rep K α) : Rep K (List α) := ⟨fun H v x => ∃ a ws, v = .ref a ∧ H a = some (.lst ws) ∧ RL τ H ws x, fun {H H' v x} e h => by
  obtain ⟨a, ws, h1, h2, h3⟩ := h
  exact ⟨a, ws, h1, e _ _ h2, RL.mono e h3⟩⟩
/-- a list that is to be read (the script) -/
def qQ {α : Type} (τ : Rep K α) : Rep K (List α) := ⟨fun H v x => ∃ a ws, v = .ref a ∧ SqL K H a ws ∧ RL τ H ws x, fun {H H' v x} e h => by
  obtain ⟨a, ws, h1, h2, h3⟩ := h
  exact ⟨a, ws, h1, e.seq h2, RL.mono e h3⟩⟩
theorem qL_qQ {α : Type} {τ : Rep K α} {H : Hp} {v : V} {x : List α} (h : (qL τ).R H v x) : (qQ τ).R H v x := by
  obtain ⟨a, ws, h1, h2, h3⟩ := h
  exact ⟨a, ws, h1, SqL.of h2, h3⟩
end

/-! ### heaps: S what stands for good, H the whole; L the lists that a def may change -/
/-- what may change -/
def mo : HO → Bool
  | .tup _ => false
  | _ => true
structure Grow (L : List Addr) (S0 H0 S H : Hp) : Prop where
  ss : Same S0 S
  sh : Same S H
  hh : ∀ a o, a ∉ L → H0 a = some o → H a = some o
  fr : ∀ a o, S0 a = none → H0 a = some o → mo o = true → S a = none
  ne : ∀ a o, H0 a = some o → ∃ o', H a = some o' ∧ (mo o = true → mo o' = true)
/-- a cell: an object that may change -/
structure Cel (L : List Addr) (H0 S H : Hp) (l : Addr) (o : HO) : Prop where
  h : H l = some o
  s : S l = none
  z : H0 l = none ∨ l ∈ L
  m : mo o = true
section
variable {L L' : List Addr} {S0 H0 S H S' H' : Hp} {p l l' : Addr} {o o' : HO}
theorem sne {x : HO} {H : Hp} {a : Addr} (h : H a = some x) : H a ≠ none := by rw [h]; exact fun q => by cases q
theorem Grow.refl (h : Same S H) : Grow L S H S H := ⟨Same.refl _, h, fun _ _ _ e => e, fun _ _ e _ _ => e, fun _ o e => ⟨o, e, id⟩⟩
theorem Grow.ext (g : Grow L S0 H0 S H) (e : Same H H') : Grow L S0 H0 S H' :=
  ⟨g.ss, g.sh.trans e, fun a o hl ha => e _ _ (g.hh a o hl ha), g.fr, fun a o ha => by
    obtain ⟨o', h1, h2⟩ := g.ne a o ha
    exact ⟨o', e _ _ h1, h2⟩⟩
theorem Grow.snone (g : Grow L S0 H0 S H) (hp : H p = none) : S p = none := g.sh.free hp
theorem Grow.hnone (g : Grow L S0 H0 S H) (hp : H p = none) : H0 p = none := by
  cases z : H0 p with
  | none => rfl
  | some x =>
    obtain ⟨o', h1, _⟩ := g.ne p x z
    rw [hp] at h1; cases h1
theorem Grow.imm (g : Grow L S0 H0 S H) (hp : H p = none) : Grow L S0 H0 (upd S p o) (upd H p o) where
  ss := fun a x e => by rw [upd_ne (ne_of_none (g.ss a x e) (g.snone hp))]; exact g.ss a x e
  sh := fun a x e => by
    by_cases h : a = p
    · subst h
      rw [upd_same] at e ⊢
      exact e
    · rw [upd_ne h] at e ⊢
      exact g.sh a x e
  hh := fun a x hl e => by rw [upd_ne (ne_of_none (g.hh a x hl e) hp)]; exact g.hh a x hl e
  fr := fun a x e h m => by
    have n : a ≠ p := fun q => by subst q; rw [g.hnone hp] at h; cases h
    rw [upd_ne n]
    exact g.fr a x e h m
  ne := fun a x h => by
    have n : a ≠ p := fun q => by subst q; rw [g.hnone hp] at h; cases h
    rw [upd_ne n]; exact g.ne a x h
theorem Grow.cell (g : Grow L S0 H0 S H) (hp : H p = none) : Grow L S0 H0 S (upd H p o) := g.ext fun a x e => by rw [upd_ne (ne_of_none e hp)]; exact e
/-- a tuple that stands may be kept for good -/
theorem Grow.tup (g : Grow L S0 H0 S H) {ws : List V} (hp : H p = some (.tup ws)) : Grow L S0 H0 (upd S p (.tup ws)) H where
  ss := fun a x e => by
    by_cases h : a = p
    · subst h
      have q := g.sh _ _ (g.ss _ _ e)
      rw [hp] at q; cases q
      exact upd_same
    · rw [upd_ne h]; exact g.ss a x e
  sh := fun a x e => by
    by_cases h : a = p
    · subst h; rw [upd_same] at e; cases e; exact hp
    · rw [upd_ne h] at e; exact g.sh a x e
  hh := g.hh
  fr := fun a x e h m => by
    have n : a ≠ p := fun q => by
      subst q
      obtain ⟨o', h1, h2⟩ := g.ne _ _ h
      rw [hp] at h1; cases h1
      exact absurd (h2 m) Bool.false_ne_true
    rw [upd_ne n]; exact g.fr a x e h m
  ne := g.ne
theorem Grow.wr (g : Grow L S0 H0 S H) (c : Cel L H0 S H l o') (hm : mo o = true) : Grow L S0 H0 S (upd H l o) where
  ss := g.ss
  sh := fun a x e => by
    have n : a ≠ l := fun q => by subst q; rw [c.s] at e; cases e
    rw [upd_ne n]
    exact g.sh a x e
  hh := fun a x hl e => by
    have n : a ≠ l := fun q => by
      subst q
      rcases c.z with z | z
      · rw [z] at e; cases e
      · exact hl z
    rw [upd_ne n]
    exact g.hh a x hl e
  fr := g.fr
  ne := fun a x h => by
    by_cases q : a = l
    · subst q; exact ⟨o, upd_same, fun _ => hm⟩
    · rw [upd_ne q]; exact g.ne a x h
theorem Grow.call (g : Grow L S0 H0 S H) (c : Grow L' S H S' H') (hL : ∀ l ∈ L', H0 l = none ∨ l ∈ L) : Grow L S0 H0 S' H' where
  ss := g.ss.trans c.ss
  sh := c.sh
  hh := fun a x hl e => c.hh a x (fun q => by
    rcases hL a q with z | z
    · rw [z] at e; cases e
    · exact hl z) (g.hh a x hl e)
  fr := fun a x e h m => by
    obtain ⟨o', h1, h2⟩ := g.ne a x h
    exact c.fr a o' (g.fr a x e h m) h1 (h2 m)
  ne := fun a x h => by
    obtain ⟨o', h1, h2⟩ := g.ne a x h
    obtain ⟨o2, h3, h4⟩ := c.ne a o' h1
    exact ⟨o2, h3, fun m => h4 (h2 m)⟩
theorem Grow.call0 (g : Grow L S0 H0 S H) (c : Grow [] S H S' H') : Grow L S0 H0 S' H' := g.call c fun _ q => by cases q
theorem Grow.same0 (c : Grow [] S H S' H') : Same H H' := fun a o e => c.hh a o (fun q => by cases q) e
/-- a cell that is not to change any more -/
theorem Grow.freeze (g : Grow L S0 H0 S H) (c : Cel L H0 S H l o) (hl : H0 l = none) : Grow L S0 H0 (upd S l o) H where
  ss := fun a x e => by
    have q := g.ss a x e
    rw [upd_ne (ne_of_none q c.s)]; exact q
  sh := fun a x e => by
    by_cases h : a = l
    · subst h; rw [upd_same] at e; cases e; exact c.h
    · rw [upd_ne h] at e; exact g.sh a x e
  hh := g.hh
  fr := fun a x e h m => by
    have n : a ≠ l := fun q => by subst q; rw [hl] at h; cases h
    rw [upd_ne n]
    exact g.fr a x e h m
  ne := g.ne
theorem Cel.own (g : Grow L S0 H0 S H) (e : Same H H') (hp : H p = none) (hp' : H' p = some o) (hm : mo o = true) : Cel L H0 S H' p o := ⟨hp', g.snone hp, .inl (g.hnone hp), hm⟩
theorem Cel.ext (c : Cel L H0 S H l o) (e : Same H H') : Cel L H0 S H' l o := ⟨e _ _ c.h, c.s, c.z, c.m⟩
theorem Cel.wr (c : Cel L H0 S H l o) (hm : mo o' = true) : Cel L H0 S (upd H l o') l o' := ⟨upd_same, c.s, c.z, hm⟩
theorem Cel.wrn (c : Cel L H0 S H l o) (n : l ≠ l') : Cel L H0 S (upd H l' o') l o := ⟨by rw [upd_ne n]; exact c.h, c.s, c.z, c.m⟩
theorem Cel.call (c : Cel L H0 S H l o) (g : Grow L' S H S' H') (n : l ∉ L') : Cel L H0 S' H' l o := ⟨g.hh _ _ n c.h, g.fr _ _ c.s c.h c.m, c.z, c.m⟩
theorem Cel.call0 (c : Cel L H0 S H l o) (g : Grow [] S H S' H') : Cel L H0 S' H' l o := c.call g fun q => by cases q
theorem Cel.mut (c : Cel L H0 S H l o) (g : Grow L' S H S' H') (h : H' l = some o') (hm : mo o' = true) : Cel L H0 S' H' l o' := ⟨h, g.fr _ _ c.s c.h c.m, c.z, hm⟩
theorem Cel.freeze (c : Cel L H0 S H l o) (n : l ≠ l') : Cel L H0 (upd S l' o') H l o := ⟨c.h, by rw [upd_ne n]; exact c.s, c.z, c.m⟩
theorem Cel.ne (c : Cel L H0 S H l o) (hp : H p = none) : l ≠ p := ne_of_none c.h hp
theorem Cel.z0 (c : Cel [] H0 S H l o) : H0 l = none := c.z.elim id fun q => by cases q
theorem same_upd {H : Hp} {p : Addr} {o : HO} (h : H p = none) : Same H (upd H p o) := fun b x e => by
  rw [upd_ne (ne_of_none e h)]
  exact e
end
end Z

namespace Z
open PySem PySem.Spec PyProof.Rows L2

/-! ### the mirror's words -/
def lt {α β : Type} (e : α) (k : α → Option β) : Option β := k e
theorem OP.lt {α β : Type} {e : α} {k : α → Option β} {A : β → Prop} (h : OP (Z.lt e k) A) : ∃ x, e = x ∧ OP (k x) A := ⟨e, rfl, h⟩
theorem lt_some {α β : Type} {e : α} {k : α → Option β} {r : β} (h : Z.lt e k = some r) : ∃ x, e = x ∧ k x = some r := ⟨e, rfl, h⟩
theorem OP.cut {α β : Type} {m : Option α} {k : α → Option β} {A : β → Prop} (h : OP (m.bind k) A) : ∃ B : α → Prop, OP m B ∧ ∀ x, B x → OP (k x) A := ⟨_, OP.of h, fun _ z => z⟩
/-- an early answer, or what follows -/
def SE {σ ρ : Type} (B : σ → Prop) (A : ρ → Prop) : σ ⊕ ρ → Prop
  | .inl s => B s
  | .inr v => A v
def brk {σ ρ : Type} (m : Option (σ ⊕ ρ)) (k : σ → Option ρ) : Option ρ := m.bind fun r => match r with
  | .inl s => k s
  | .inr v => some v
theorem OP.brk {σ ρ : Type} {m : Option (σ ⊕ ρ)} {k : σ → Option ρ} {A : ρ → Prop} (h : OP (Z.brk m k) A) : ∃ B : σ → Prop, OP m (SE B A) ∧ ∀ x, B x → OP (k x) A := by
  refine ⟨fun x => OP (k x) A, ?_, fun _ z => z⟩
  cases m with
  | none => exact h.elim
  | some r => cases r with
    | inl s => exact h
    | inr v => exact h
def un2 {α β γ : Type} (f : α → β → γ) (s : α × β) : γ := f s.1 s.2
def un3 {α β γ δ : Type} (f : α → β → γ → δ) (s : α × β × γ) : δ := f s.1 s.2.1 s.2.2
def un4 {α β γ δ ε : Type} (f : α → β → γ → δ → ε) (s : α × β × γ × δ) : ε := f s.1 s.2.1 s.2.2.1 s.2.2.2
def un5 {α β γ δ ε ζ : Type} (f : α → β → γ → δ → ε → ζ) (s : α × β × γ × δ × ε) : ζ := f s.1 s.2.1 s.2.2.1 s.2.2.2.1 s.2.2.2.2
def un6 {α β γ δ ε ζ η : Type} (f : α → β → γ → δ → ε → ζ → η) (s : α × β × γ × δ × ε × ζ) : η := f s.1 s.2.1 s.2.2.1 s.2.2.2.1 s.2.2.2.2.1 s.2.2.2.2.2
def un0 {γ : Type} (f : γ) (_ : Unit) : γ := f
theorem OP.un0 {γ : Type} {f : Option γ} {u : Unit} {A : γ → Prop} (h : OP (Z.un0 f u) A) : OP f A := h
theorem OP.un2 {α β γ : Type} {f : α → β → Option γ} {a : α} {b : β} {A : γ → Prop} (h : OP (Z.un2 f (a, b)) A) : OP (f a b) A := h
theorem OP.un3 {α β γ δ : Type} {f : α → β → γ → Option δ} {a : α} {b : β} {c : γ} {A : δ → Prop} (h : OP (Z.un3 f (a, b, c)) A) : OP (f a b c) A := h
theorem OP.un4 {α β γ δ ε : Type} {f : α → β → γ → δ → Option ε} {a : α} {b : β} {c : γ} {d : δ} {A : ε → Prop} (h : OP (Z.un4 f (a, b, c, d)) A) : OP (f a b c d) A := h
theorem OP.un5 {α β γ δ ε ζ : Type} {f : α → β → γ → δ → ε → Option ζ} {a : α} {b : β} {c : γ} {d : δ} {e : ε} {A : ζ → Prop} (h : OP (Z.un5 f (a, b, c, d, e)) A) : OP (f a b c d e) A := h
theorem OP.un6 {α β γ δ ε ζ η : Type} {f : α → β → γ → δ → ε → ζ → Option η} {a : α} {b : β} {c : γ} {d : δ} {e : ε} {z : ζ} {A : η → Prop} (h : OP (Z.un6 f (a, b, c, d, e, z)) A) : OP (f a b c d e z) A := h
theorem OP.ite1 {α : Type} {c : Bool} {m n : Option α} {A : α → Prop} (hc : c = true) (h : OP (ifo c m n) A) : OP m A := by rw [ifo_t hc] at h; exact h
theorem OP.ite0 {α : Type} {c : Bool} {m n : Option α} {A : α → Prop} (hc : c = false) (h : OP (ifo c m n) A) : OP n A := by rw [ifo_f hc] at h; exact h
theorem OP.forO {α σ : Type} {body : α → σ → Option σ} {x : α} {xs : List α} {s : σ} {A : σ → Prop} (h : OP (Z.forO body (x :: xs) s) A) : OP (body x s) (fun s' => OP (Z.forO body xs s') A) := by
  rw [forO_cons] at h
  exact OP.of h
theorem OP.forO_nil {α σ : Type} {body : α → σ → Option σ} {s : σ} {A : σ → Prop} (h : OP (Z.forO body [] s) A) : A s := by
  rw [Z.forO_nil] at h
  exact h
theorem OP.forR {α σ ρ : Type} {body : α → σ → Option (σ ⊕ ρ)} {x : α} {xs : List α} {s : σ} {B : σ → Prop} {A : ρ → Prop} (h : OP (Z.forR body (x :: xs) s) (SE B A)) : OP (body x s) (SE (fun s' => OP (Z.forR body xs s') (SE B A)) A) := by
  rw [forR_cons] at h
  have q := OP.of h
  cases e : body x s with
  | none => rw [e] at q; exact q.elim
  | some r =>
    rw [e] at q
    cases r with
    | inl s' => exact q
    | inr v => exact q
theorem OP.forR_nil {α σ ρ : Type} {body : α → σ → Option (σ ⊕ ρ)} {s : σ} {B : σ → Prop} {A : ρ → Prop} (h : OP (Z.forR body [] s) (SE B A)) : B s := by
  rw [Z.forR_nil] at h
  exact h
theorem OP.whileO {σ : Type} {c : σ → Option Bool} {body : σ → Option σ} {n : Nat} {s : σ} {A : σ → Prop} (h : OP (Z.whileO c body n s) A) :
    ∃ n', n = n' + 1 ∧ OP (c s) (fun b => if b = true then OP (body s) (fun s' => OP (Z.whileO c body n' s') A) else A s) := by
  cases n with
  | zero => rw [whileO_zero] at h; exact h.elim
  | succ n' =>
    refine ⟨n', rfl, ?_⟩
    rw [whileO_succ] at h
    have q := OP.of h
    refine q.mono fun b z => ?_
    cases b with
    | true => exact OP.of z
    | false => exact z
theorem OP.whileR {σ ρ : Type} {c : σ → Option Bool} {body : σ → Option (σ ⊕ ρ)} {n : Nat} {s : σ} {B : σ → Prop} {A : ρ → Prop} (h : OP (Z.whileR c body n s) (SE B A)) :
    ∃ n', n = n' + 1 ∧ OP (c s) (fun b => if b = true then OP (body s) (SE (fun s' => OP (Z.whileR c body n' s') (SE B A)) A) else B s) := by
  cases n with
  | zero => rw [whileR_zero] at h; exact h.elim
  | succ n' =>
    refine ⟨n', rfl, ?_⟩
    rw [whileR_succ] at h
    have q := OP.of h
    refine q.mono fun b z => ?_
    cases b with
    | true =>
      have z' := OP.of z
      show OP (body s) _
      refine z'.mono fun r y => ?_
      cases r with
      | inl s' => exact y
      | inr v => exact y
    | false => exact z
@[irreducible] def bigN : Nat := 1000000
theorem bigN_eq : bigN = 1000000 := by unfold bigN; rfl

/-! ### ints -/
abbrev shl (i j : Int) : Int := i * 2 ^ j.toNat
abbrev shr (i j : Int) : Int := i / 2 ^ j.toNat
abbrev band (i j : Int) : Int := Builtin.bitAnd i j
abbrev bor (i j : Int) : Int := Builtin.bitOr i j
abbrev bxor (i j : Int) : Int := Builtin.bitXor i j
abbrev bnot (i : Int) : Int := Builtin.bitNot i
def blen (i : Int) : Int := ((Builtin.Int.intBits i : Nat) : Int)

/-! ### values of expressions that leave the heap as it is -/
section
variable {K : PySem.W.Frag} {σ σ' : L2.St} {H : Hp} {ta tb te : TE} {t u : TT} {x y z v : V} {i j : Int} {b c : Bool}
theorem v_eq {v w : V} (h : Val te σ H v) (e : v = w) : Val te σ H w := e ▸ h
theorem v_o2 {g : Int → Int → V} (ha : Val ta σ H (.int i)) (hb : Val tb σ H (.int j)) : Val (tOp (rI0 g) ta tb) σ H (g i j) := fun Q q => ha _ (hb _ ⟨i, j, rfl, rfl, q⟩)
theorem v_o2c {C : Int → Int → Prop} {g : Int → Int → V} (ha : Val ta σ H (.int i)) (hb : Val tb σ H (.int j)) (hc : C i j) : Val (tOp (rI C g) ta tb) σ H (g i j) := fun Q q => ha _ (hb _ ⟨i, j, rfl, rfl, hc, q⟩)
theorem v_u {g : Int → V} (ha : Val ta σ H (.int i)) : Val (tUn (rU g) ta) σ H (g i) := fun Q q => ha _ ⟨i, rfl, q⟩
theorem dec_int : decide (V.int i = V.int j) = decide (i = j) := decide_eq_decide.mpr ⟨V.int.inj, fun e => by rw [e]⟩
theorem dec_str {s t : Str} : decide (V.str s = V.str t) = decide (s = t) := decide_eq_decide.mpr ⟨V.str.inj, fun e => by rw [e]⟩
theorem dec_bl : decide (V.bl b = V.bl c) = decide (b = c) := decide_eq_decide.mpr ⟨V.bl.inj, fun e => by rw [e]⟩
theorem v_eqI (ha : Val ta σ H (.int i)) (hb : Val tb σ H (.int j)) : Val (tOp rEq ta tb) σ H (.bl (decide (i = j))) := fun Q q => ha _ (hb _ ⟨rfl, by rw [dec_int]; exact q⟩)
theorem v_neI (ha : Val ta σ H (.int i)) (hb : Val tb σ H (.int j)) : Val (tOp rNe ta tb) σ H (.bl (!decide (i = j))) := fun Q q => ha _ (hb _ ⟨rfl, by rw [dec_int]; exact q⟩)
theorem v_eqS {s t : Str} (ha : Val ta σ H (.str s)) (hb : Val tb σ H (.str t)) : Val (tOp rEq ta tb) σ H (.bl (decide (s = t))) := fun Q q => ha _ (hb _ ⟨rfl, by rw [dec_str]; exact q⟩)
theorem v_neS {s t : Str} (ha : Val ta σ H (.str s)) (hb : Val tb σ H (.str t)) : Val (tOp rNe ta tb) σ H (.bl (!decide (s = t))) := fun Q q => ha _ (hb _ ⟨rfl, by rw [dec_str]; exact q⟩)
theorem v_eqB (ha : Val ta σ H (.bl b)) (hb : Val tb σ H (.bl c)) : Val (tOp rEq ta tb) σ H (.bl (decide (b = c))) := fun Q q => ha _ (hb _ ⟨rfl, by rw [dec_bl]; exact q⟩)
theorem v_neB (ha : Val ta σ H (.bl b)) (hb : Val tb σ H (.bl c)) : Val (tOp rNe ta tb) σ H (.bl (!decide (b = c))) := fun Q q => ha _ (hb _ ⟨rfl, by rw [dec_bl]; exact q⟩)
theorem v_test (h : Val te σ H (.bl b)) : Ans (tTest te) σ H b := fun Q q => h _ ⟨b, rfl, q⟩
theorem v_B (h : Val te σ H (.bl b)) : Ans (tB te) σ H b := fun Q q => h _ ⟨b, rfl, q⟩
theorem a_eq (h : Ans t σ H b) (e : b = c) : Ans t σ H c := e ▸ h
theorem a_not (h : Ans t σ H b) : Ans (tNot t) σ H (!b) := fun Q q => h _ q
theorem a_and (h1 : Ans t σ H b) (h2 : Ans u σ H c) : Ans (tAnd t u) σ H (b && c) := fun Q q => h1 _ (by
  cases b with
  | true => exact (show (if true = true then u σ H Q else Q false H) from h2 _ q)
  | false => exact (show (if false = true then u σ H Q else Q false H) from q))
theorem a_or (h1 : Ans t σ H b) (h2 : Ans u σ H c) : Ans (tOr t u) σ H (b || c) := fun Q q => h1 _ (by
  cases b with
  | true => exact (show (if true = true then Q true H else u σ H Q) from q)
  | false => exact (show (if false = true then Q true H else u σ H Q) from h2 _ q))
theorem a_andP {m : Option Bool} (h1 : Ans t σ H b) (hm : ifo b m (some false) = some c) (h2 : b = true → m = some c → Ans u σ H c) : Ans (tAnd t u) σ H c := fun Q q => h1 _ (by
  cases b with
  | true => exact (show (if true = true then u σ H Q else Q false H) from h2 rfl (by first | (rw [ifo_t rfl] at hm; exact hm) | (rw [ifo_f rfl] at hm; exact hm)) _ q)
  | false =>
    have e : false = c := by rw [ifo_f rfl] at hm; exact Option.some.inj hm
    subst e
    exact (show (if false = true then u σ H Q else Q false H) from q))
theorem a_orP {m : Option Bool} (h1 : Ans t σ H b) (hm : ifo b (some true) m = some c) (h2 : b = false → m = some c → Ans u σ H c) : Ans (tOr t u) σ H c := fun Q q => h1 _ (by
  cases b with
  | true =>
    have e : true = c := by rw [ifo_t rfl] at hm; exact Option.some.inj hm
    subst e
    exact (show (if true = true then Q true H else u σ H Q) from q)
  | false => exact (show (if false = true then Q true H else u σ H Q) from h2 rfl (by first | (rw [ifo_t rfl] at hm; exact hm) | (rw [ifo_f rfl] at hm; exact hm)) _ q))
theorem v_and (h1 : Val ta σ H (.bl b)) (h2 : Val tb σ H (.bl c)) : Val (tAndV ta tb) σ H (.bl (b && c)) := fun Q q => h1 _ ⟨b, rfl, by
  cases b with
  | true => exact (show (if true = true then tb σ H Q else Q (.bl false) H) from h2 _ q)
  | false => exact (show (if false = true then tb σ H Q else Q (.bl false) H) from q)⟩
theorem v_or (h1 : Val ta σ H (.bl b)) (h2 : Val tb σ H (.bl c)) : Val (tOrV ta tb) σ H (.bl (b || c)) := fun Q q => h1 _ ⟨b, rfl, by
  cases b with
  | true => exact (show (if true = true then Q (.bl true) H else tb σ H Q) from q)
  | false => exact (show (if false = true then Q (.bl true) H else tb σ H Q) from h2 _ q)⟩
theorem v_not (h : Val ta σ H (.bl b)) : Val (tNotV ta) σ H (.bl (!b)) := fun Q q => h _ ⟨b, rfl, q⟩
theorem v_andP {m : Option Bool} (h1 : Val ta σ H (.bl b)) (hm : ifo b m (some false) = some c) (h2 : b = true → m = some c → Val tb σ H (.bl c)) : Val (tAndV ta tb) σ H (.bl c) := fun Q q => h1 _ ⟨b, rfl, by
  cases b with
  | true => exact (show (if true = true then tb σ H Q else Q (.bl false) H) from h2 rfl (by first | (rw [ifo_t rfl] at hm; exact hm) | (rw [ifo_f rfl] at hm; exact hm)) _ q)
  | false =>
    have e : false = c := by rw [ifo_f rfl] at hm; exact Option.some.inj hm
    subst e
    exact (show (if false = true then tb σ H Q else Q (.bl false) H) from q)⟩
theorem v_orP {m : Option Bool} (h1 : Val ta σ H (.bl b)) (hm : ifo b (some true) m = some c) (h2 : b = false → m = some c → Val tb σ H (.bl c)) : Val (tOrV ta tb) σ H (.bl c) := fun Q q => h1 _ ⟨b, rfl, by
  cases b with
  | true =>
    have e : true = c := by rw [ifo_t rfl] at hm; exact Option.some.inj hm
    subst e
    exact (show (if true = true then Q (.bl true) H else tb σ H Q) from q)
  | false => exact (show (if false = true then Q (.bl true) H else tb σ H Q) from h2 rfl (by first | (rw [ifo_t rfl] at hm; exact hm) | (rw [ifo_f rfl] at hm; exact hm)) _ q)⟩
/-- t[0], t[1] of a pair, xs[i] -/
theorem v_t20 {β : Type} {υ : Rep K β} {p : Int × β} (ha : Val ta σ H v) (hb : Val tb σ H (.int 0)) (hr : (qT2 qI υ).R H v p) : Val (tOp (rIxT K) ta tb) σ H (.int p.1) := by
  obtain ⟨a, w1, w2, rfl, h2, h3, _⟩ := hr
  cases (show w1 = .int p.1 from h3)
  exact fun Q q => ha _ (hb _ ⟨a, _, 0, _, rfl, rfl, SqT.of h2, rfl, q⟩)
theorem v_t21 {α : Type} {τ : Rep K α} {p : α × Int} (ha : Val ta σ H v) (hb : Val tb σ H (.int 1)) (hr : (qT2 τ qI).R H v p) : Val (tOp (rIxT K) ta tb) σ H (.int p.2) := by
  obtain ⟨a, w1, w2, rfl, h2, _, h3⟩ := hr
  cases (show w2 = .int p.2 from h3)
  exact fun Q q => ha _ (hb _ ⟨a, _, 1, _, rfl, rfl, SqT.of h2, rfl, q⟩)
theorem atI_get {α β : Type} {R : α → β → Prop} {ws : List α} {xs : List β} {k : Int} {x : β} (hl : ws.length = xs.length) (hg : ∀ (j : Nat), xs[j]? = some x → ∃ w, ws[j]? = some w ∧ R w x) (h : atI xs k = some x) : ∃ w, atI ws k = some w ∧ R w x := by
  unfold atI at h ⊢
  rw [hl]
  cases e : ixN xs.length k with
  | none => rw [e] at h; cases h
  | some j => rw [e] at h; exact hg j h
theorem RL.at {α : Type} {τ : Rep K α} {ws : List V} {xs : List α} {k : Int} {x : α} (r : RL τ H ws xs) (h : atI xs k = some x) : ∃ w, atI ws k = some w ∧ τ.R H w x := atI_get r.length (fun _ e => r.get e) h
theorem v_ixq {α : Type} {τ : Rep K α} {xs : List α} {q : α} (ha : Val ta σ H v) (hb : Val tb σ H (.int i)) (hr : (qQ τ).R H v xs) (hx : atI xs i = some q) : ∃ w, Val (tOp (rIxL K) ta tb) σ H w ∧ τ.R H w q := by
  obtain ⟨a, ws, rfl, h2, h3⟩ := hr
  obtain ⟨w, e, r⟩ := h3.at hx
  exact ⟨w, fun Q z => ha _ (hb _ ⟨a, ws, i, w, rfl, rfl, h2, e, z⟩), r⟩
theorem v_ixI {xs : List Int} {q : Int} (ha : Val ta σ H v) (hb : Val tb σ H (.int i)) (hr : (qQ (K := K) qI).R H v xs) (hx : atI xs i = some q) : Val (tOp (rIxL K) ta tb) σ H (.int q) := by
  obtain ⟨w, h, r⟩ := v_ixq ha hb hr hx
  cases (show w = .int q from r)
  exact h
theorem v_ixB {xs : List Bool} {q : Bool} (ha : Val ta σ H v) (hb : Val tb σ H (.int i)) (hr : (qQ (K := K) qB).R H v xs) (hx : atI xs i = some q) : Val (tOp (rIxL K) ta tb) σ H (.bl q) := by
  obtain ⟨w, h, r⟩ := v_ixq ha hb hr hx
  cases (show w = .bl q from r)
  exact h
theorem v_ixS {xs : List Str} {q : Str} (ha : Val ta σ H v) (hb : Val tb σ H (.int i)) (hr : (qQ (K := K) qS).R H v xs) (hx : atI xs i = some q) : Val (tOp (rIxL K) ta tb) σ H (.str q) := by
  obtain ⟨w, h, r⟩ := v_ixq ha hb hr hx
  cases (show w = .str q from r)
  exact h
/-- what a list's length, a tuple's length tells -/
def rLenS (K : PySem.W.Frag) : List V → Hp → VK → Prop := fun xs H Q => ∃ p ys, xs = [.ref p] ∧ (SqL K H p ys ∨ SqT K H p ys) ∧ Q (.int ys.length) H
theorem v_len {α : Type} {τ : Rep K α} {xs : List α} (ha : Val ta σ H v) (hr : (qQ τ).R H v xs) : Val (tCB (rLenS K) (tCons ta tNil)) σ H (.int (xs.length : Int)) := by
  obtain ⟨a, ws, rfl, h2, h3⟩ := hr
  rw [← h3.length]
  exact fun Q q => ha _ ⟨a, ws, rfl, .inl h2, q⟩
theorem v_lenT2 {α β : Type} {τ : Rep K α} {υ : Rep K β} {p : α × β} (ha : Val ta σ H v) (hr : (qT2 τ υ).R H v p) : Val (tCB (rLenS K) (tCons ta tNil)) σ H (.int 2) := by
  obtain ⟨a, w1, w2, rfl, h2, _⟩ := hr
  exact fun Q q => ha _ ⟨a, _, rfl, .inr (SqT.of h2), q⟩
theorem v_isi {T n : String} {k : Bool} (ha : Val ta σ H x) (ty : TyX K H x (.type T)) (hk : kitB T n = some k) : Val (tCB (rIsi K) (tCons ta (tCons (tC (.ty n)) tNil))) σ H (.bl k) := fun Q q => ha _ ⟨x, .ty n, _, _, k, rfl, .ty n, ty, kit_ty hk, q⟩
theorem ty_int : TyX K H (.int i) (.type "int") := .base (.int i)
theorem ty_bl : TyX K H (.bl b) (.type "bool") := .base (.bl b)
theorem ty_str {s : Str} : TyX K H (.str s) (.type "str") := .base (.str s)
theorem ty_non : TyX K H .non (.type "NoneType") := .base .non
theorem ty_t2 {α β : Type} {τ : Rep K α} {υ : Rep K β} {p : α × β} (hr : (qT2 τ υ).R H v p) : TyX K H v (.type "tuple") := by
  obtain ⟨a, w1, w2, rfl, h2, _⟩ := hr
  exact .base (.tup h2)
theorem ty_t3 {α β γ : Type} {τ : Rep K α} {υ : Rep K β} {φ : Rep K γ} {p : α × β × γ} (hr : (qT3 τ υ φ).R H v p) : TyX K H v (.type "tuple") := by
  obtain ⟨a, w1, w2, w3, rfl, h2, _⟩ := hr
  exact .base (.tup h2)
theorem ty_l {α : Type} {τ : Rep K α} {xs : List α} (hr : (qL τ).R H v xs) : TyX K H v (.type "list") := by
  obtain ⟨a, ws, rfl, h2, _⟩ := hr
  exact .base (.lst h2)
/-- arguments -/
def VA (ta : TA) (σ : L2.St) (H : Hp) (vs : List V) : Prop := ∀ Q : List V → Hp → Prop, Q vs H → ta σ H Q
theorem va_nil : VA tNil σ H [] := fun _ q => q
theorem va_cons {tr : TA} {vs : List V} (ha : Val ta σ H x) (hr : VA tr σ H vs) : VA (tCons ta tr) σ H (x :: vs) := fun _ q => ha _ (hr _ q)
theorem v_call {sp : Sp} {dvs vs : List V} {E : XK} {tr : TA} (ha : VA tr σ H vs) (hs : ∀ Q : VK, Q z H → sp (vs ++ dvs) H Q E) : Val (tCall sp dvs E tr) σ H z := fun Q q => ha _ (hs Q q)
theorem v_cb {r : List V → Hp → VK → Prop} {vs : List V} {tr : TA} (ha : VA tr σ H vs) (hs : ∀ Q : VK, Q z H → r vs H Q) : Val (tCB r tr) σ H z := fun Q q => ha _ (hs Q q)
theorem v_bits (ha : Val ta σ H (.int i)) : Val (tBits ta) σ H (.int (blen i)) := fun Q q => ha _ ⟨i, rfl, q⟩
theorem v_isN (ha : Val ta σ H x) (e : decide (x = .non) = b) : Val (tOp rIsN ta (tC .non)) σ H (.bl b) := fun Q q => ha _ ⟨rfl, by rw [e]; exact q⟩
theorem v_notN (ha : Val ta σ H x) (e : (!decide (x = .non)) = b) : Val (tOp rNotN ta (tC .non)) σ H (.bl b) := fun Q q => ha _ ⟨rfl, by rw [e]; exact q⟩
theorem opt_dec {α : Type} {τ : Rep K α} {o : Option α} (hr : (qOpt τ).R H v o) : decide (v = .non) = o.isNone := by
  cases o with
  | none => exact decide_eq_true hr
  | some y => exact decide_eq_false hr.1
theorem opt_decN {α : Type} {τ : Rep K α} {o : Option α} (hr : (qOpt τ).R H v o) : (!decide (v = .non)) = o.isSome := by
  rw [opt_dec hr]
  cases o <;> rfl
theorem opt_get {α : Type} {τ : Rep K α} {o : Option α} {y : α} (hr : (qOpt τ).R H v o) (e : o = some y) : τ.R H v y := by
  subst e
  exact hr.2

/-! ### statements -/
variable {D : Ends} {t1 t2 ts tu : TS} {w : V} {k n : Nat}
theorem z_next (q : D.nx σ H) : tNext D σ H := q
theorem z_set (hv : Val te σ H v) (he : v = w) (hs : σ.set k (some w) = σ') (q : tu D σ' H) : tSeq (tAsg te (gName k)) tu D σ H := hv _ (by
  subst he; subst hs
  exact q)
theorem z_aug {ti : TIp} (hx : σ[k]? = some (some x)) (hv : Val te σ H y) (hr : ∀ Q : VK, Q v H → ti x y H Q) (he : v = w) (hs : σ.set k (some w) = σ') (q : tu D σ' H) : tSeq (tAug k te ti) tu D σ H := by
  subst he; subst hs
  exact ⟨x, hx, hv _ (hr _ q)⟩
theorem z_augI {g : Int → Int → V} (hx : σ[k]? = some (some (.int i))) (hv : Val te σ H (.int j)) (he : g i j = w) (hs : σ.set k (some w) = σ') (q : tu D σ' H) : tSeq (tAug k te (rI0 g)) tu D σ H :=
  z_aug hx hv (fun _ q => ⟨i, j, rfl, rfl, q⟩) he hs q
theorem z_augC {C : Int → Int → Prop} {g : Int → Int → V} (hx : σ[k]? = some (some (.int i))) (hv : Val te σ H (.int j)) (hc : C i j) (he : g i j = w) (hs : σ.set k (some w) = σ') (q : tu D σ' H) : tSeq (tAug k te (rI C g)) tu D σ H :=
  z_aug hx hv (fun _ q => ⟨i, j, rfl, rfl, hc, q⟩) he hs q
theorem z_ret (hv : Val te σ H v) (q : D.rt v H) : tSeq (tRet te) tu D σ H := hv _ q
theorem z_if {c : Bool} {tc : TT} (hc : Ans tc σ H c) (h1 : c = true → t1 { D with nx := tu D } σ H) (h2 : c = false → t2 { D with nx := tu D } σ H) : tSeq (tIfS tc t1 t2) tu D σ H := hc _ (by
  cases c with
  | true => exact (show (if true = true then t1 { D with nx := tu D } σ H else t2 { D with nx := tu D } σ H) from h1 rfl)
  | false => exact (show (if false = true then t1 { D with nx := tu D } σ H else t2 { D with nx := tu D } σ H) from h2 rfl))
theorem z_ifj {c : Bool} {tc : TT} (P : L2.St → Hp → Prop) (hc : Ans tc σ H c) (hP : ∀ σ' H', P σ' H' → tu D σ' H')
    (h1 : c = true → ∀ N : L2.St → Hp → Prop, (∀ σ' H', P σ' H' → N σ' H') → t1 { D with nx := N } σ H) (h2 : c = false → ∀ N : L2.St → Hp → Prop, (∀ σ' H', P σ' H' → N σ' H') → t2 { D with nx := N } σ H) : tSeq (tIfS tc t1 t2) tu D σ H :=
  z_if hc (fun e => h1 e _ hP) (fun e => h2 e _ hP)
theorem rangeI_zero {lo : Int} : rangeI lo 0 = [] := rfl
theorem rangeI_succ {lo : Int} {n : Nat} : rangeI lo (n + 1) = lo :: rangeI (lo + 1) n := by
  unfold rangeI
  rw [List.range_succ_eq_map, List.map_cons, List.map_map]
  congr 1
  · exact Int.add_zero lo
  · refine List.map_congr_left fun a _ => ?_
    show lo + ((a + 1 : Nat) : Int) = lo + 1 + (a : Int)
    omega
/-- the turns over a range, by what is left -/
theorem turns_range {lo : Int} {n : Nat} {g : TG} {tb : TS} (Pv : List Int → L2.St → Hp → Prop) (h0 : Pv (rangeI lo n) σ H)
    (hs : ∀ x xs σ' H', Pv (x :: xs) σ' H' → ∀ N : L2.St → Hp → Prop, (∀ σ'' H'', Pv xs σ'' H'' → N σ'' H'') → g (.int x) σ' H' fun σ2 H2 => tb { D with nx := N, ct := N, bk := D.nx } σ2 H2) (hd : ∀ σ' H', Pv [] σ' H' → D.nx σ' H') :
    ∃ W : Nat → Nat → L2.St → Hp → Prop, (∃ m, W 0 m σ H) ∧ ∀ i m σ H, W i m σ H →
      ((Itr lo n).stop i H ∧ D.nx σ H) ∨ ((Itr lo n).go i H ∧ ∃ N : L2.St → Hp → Prop, (∀ σ' H', N σ' H' → ∃ m', m' < m ∧ W (i + 1) m' σ' H') ∧ ∀ x H', (Itr lo n).yld i H x H' → g x σ H' fun σ2 H2 => tb { D with nx := N, ct := N, bk := D.nx } σ2 H2) := by
  refine for_range (fun i σ H => i ≤ n ∧ Pv (rangeI (lo + (i : Int)) (n - i)) σ H) ⟨Nat.zero_le _, by
    rw [show lo + ((0 : Nat) : Int) = lo from Int.add_zero lo]; exact h0⟩ (fun i σ' H' hi p => ?_) (fun σ' H' p => hd _ _ (by
    have q := p.2
    rw [Nat.sub_self] at q
    exact q))
  have e : n - i = (n - (i + 1)) + 1 := by omega
  have q := p.2
  rw [e, rangeI_succ] at q
  refine hs _ _ σ' H' q _ fun σ'' H'' r => ⟨hi, ?_⟩
  rw [show lo + ((i + 1 : Nat) : Int) = lo + (i : Int) + 1 by omega]
  exact r
theorem z_for1 {ta : TA} {g : TG} {tb : TS} {j : Int} (ha : VA ta σ H [.int j]) (hj : -(2 ^ 62) ≤ j ∧ j < 2 ^ 62) (Pv : List Int → L2.St → Hp → Prop) (h0 : Pv (rangeI 0 j.toNat) σ H)
    (hs : ∀ x xs σ' H', Pv (x :: xs) σ' H' → ∀ N : L2.St → Hp → Prop, (∀ σ'' H'', Pv xs σ'' H'' → N σ'' H'') → g (.int x) σ' H' fun σ2 H2 => tb { D with nx := N, ct := N, bk := tu D } σ2 H2) (hd : ∀ σ' H', Pv [] σ' H' → tu D σ' H') :
    tSeq (tFor (iRng1 ta) g tb) tu D σ H := ha _ ⟨j, rfl, hj.1, hj.2, turns_range (D := { D with nx := tu D }) Pv h0 hs hd⟩
theorem z_for2 {ta : TA} {g : TG} {tb : TS} {i j : Int} (ha : VA ta σ H [.int i, .int j]) (hj : -(2 ^ 62) ≤ i ∧ i < 2 ^ 62 ∧ -(2 ^ 62) ≤ j ∧ j < 2 ^ 62) (Pv : List Int → L2.St → Hp → Prop) (h0 : Pv (rangeI i (j - i).toNat) σ H)
    (hs : ∀ x xs σ' H', Pv (x :: xs) σ' H' → ∀ N : L2.St → Hp → Prop, (∀ σ'' H'', Pv xs σ'' H'' → N σ'' H'') → g (.int x) σ' H' fun σ2 H2 => tb { D with nx := N, ct := N, bk := tu D } σ2 H2) (hd : ∀ σ' H', Pv [] σ' H' → tu D σ' H') :
    tSeq (tFor (iRng2 ta) g tb) tu D σ H := ha _ ⟨i, j, rfl, hj, turns_range (D := { D with nx := tu D }) Pv h0 hs hd⟩
/-- the turns over a list that stands, by what is left -/
theorem turns_list {α : Type} {R : V → α → Prop} {a : Addr} {ws : List V} {xs : List α} {g : TG} {tb : TS} (hp : Paired R ws xs) (Pv : List α → L2.St → Hp → Prop) (h0 : Pv xs σ H) (hl : ∀ ys σ' H', Pv ys σ' H' → SqL K H' a ws)
    (hs : ∀ w y ys σ' H', R w y → Pv (y :: ys) σ' H' → ∀ N : L2.St → Hp → Prop, (∀ σ'' H'', Pv ys σ'' H'' → N σ'' H'') → g w σ' H' fun σ2 H2 => tb { D with nx := N, ct := N, bk := D.nx } σ2 H2) (hd : ∀ σ' H', Pv [] σ' H' → D.nx σ' H') :
    ∃ W : Nat → Nat → L2.St → Hp → Prop, (∃ m, W 0 m σ H) ∧ ∀ i m σ H, W i m σ H →
      ((Itl K a).stop i H ∧ D.nx σ H) ∨ ((Itl K a).go i H ∧ ∃ N : L2.St → Hp → Prop, (∀ σ' H', N σ' H' → ∃ m', m' < m ∧ W (i + 1) m' σ' H') ∧ ∀ x H', (Itl K a).yld i H x H' → g x σ H' fun σ2 H2 => tb { D with nx := N, ct := N, bk := D.nx } σ2 H2) := by
  have hlen := Paired.length hp
  refine for_list (K := K) (a := a) (xs := ws) (fun i σ H => i ≤ ws.length ∧ ∃ ys, Paired R (ws.drop i) ys ∧ Pv ys σ H) ⟨Nat.zero_le _, xs, hp, h0⟩ (fun i σ' H' _ p => ?_) (fun i x σ' H' hx p => ?_) (fun σ' H' p => ?_)
  · obtain ⟨_, ys, _, q⟩ := p
    exact hl _ _ _ q
  · obtain ⟨_, ys, r, q⟩ := p
    have hi : i < ws.length := (List.getElem?_eq_some_iff.mp hx).1
    have e : ws.drop i = x :: ws.drop (i + 1) := by
      rw [List.drop_eq_getElem_cons hi]
      rw [(List.getElem?_eq_some_iff.mp hx).2]
    rw [e] at r
    cases r with
    | cons a b => exact hs _ _ _ σ' H' a q _ fun σ'' H'' z => ⟨hi, _, b, z⟩
  · obtain ⟨_, ys, r, q⟩ := p
    rw [List.drop_length] at r
    cases r
    exact hd _ _ q
theorem z_forL {α : Type} {R : V → α → Prop} {a : Addr} {ws : List V} {xs : List α} {tl : TE} {g : TG} {tb : TS} (ha : Val tl σ H (.ref a)) (hp : Paired R ws xs) (Pv : List α → L2.St → Hp → Prop) (h0 : Pv xs σ H) (hl : ∀ ys σ' H', Pv ys σ' H' → SqL K H' a ws)
    (hs : ∀ w y ys σ' H', R w y → Pv (y :: ys) σ' H' → ∀ N : L2.St → Hp → Prop, (∀ σ'' H'', Pv ys σ'' H'' → N σ'' H'') → g w σ' H' fun σ2 H2 => tb { D with nx := N, ct := N, bk := tu D } σ2 H2) (hd : ∀ σ' H', Pv [] σ' H' → tu D σ' H') :
    tSeq (tFor (iList K tl) g tb) tu D σ H := ha _ ⟨a, rfl, ⟨ws, hl _ _ _ h0⟩, turns_list (D := { D with nx := tu D }) hp Pv h0 hl hs hd⟩
theorem g_name {q : L2.St → Hp → Prop} (hs : σ.set k (some v) = σ') (h : q σ' H) : gName k v σ H q := by
  subst hs
  exact h
/-- a while with a test that leaves the heap as it is -/
theorem z_while {tc : TT} {tb : TS} {n0 : Nat} (Pv : Nat → L2.St → Hp → Prop) (h0 : Pv n0 σ H)
    (hs : ∀ n σ' H', Pv n σ' H' → ∃ b, Ans tc σ' H' b ∧ (b = true → ∃ n', n = n' + 1 ∧ ∀ N : L2.St → Hp → Prop, (∀ σ'' H'', Pv n' σ'' H'' → N σ'' H'') → tb { D with nx := N, ct := N, bk := tu D } σ' H') ∧ (b = false → tu D σ' H')) :
    tSeq (tWhile tc tb) tu D σ H := by
  refine ⟨Pv, ⟨n0, h0⟩, fun m σ' H' w => ?_⟩
  obtain ⟨b, hb, h1, h2⟩ := hs m σ' H' w
  refine hb _ ?_
  cases b with
  | true =>
    obtain ⟨n', e, h⟩ := h1 rfl
    exact (show (if true = true then _ else _) from ⟨Pv n', fun σ'' H'' p => ⟨n', by omega, p⟩, h _ fun _ _ z => z⟩)
  | false => exact (show (if false = true then _ else _) from h2 rfl)
end
/-! ### facts of the builtins' table -/
theorem bt_int : bootBuiltins "int" = some (.type "int") := by decide +kernel
theorem bt_bool : bootBuiltins "bool" = some (.type "bool") := by decide +kernel
theorem bt_str : bootBuiltins "str" = some (.type "str") := by decide +kernel
theorem bt_list : bootBuiltins "list" = some (.type "list") := by decide +kernel
theorem bt_tuple : bootBuiltins "tuple" = some (.type "tuple") := by decide +kernel
theorem bt_isinstance : bootBuiltins "isinstance" = some (.builtin "isinstance") := by decide +kernel
theorem bt_len : bootBuiltins "len" = some (.builtin "len") := by decide +kernel
end Z

namespace Z
open PySem PySem.Spec PyProof.Rows L2

theorem OP.nameO {α σ : Type} {f : α → σ → Option σ} {xs : List α} {s : σ} {A : σ → Prop} (h : OP (Z.forO f xs s) A) : ∃ F, F = f ∧ OP (Z.forO F xs s) A := ⟨f, rfl, h⟩
theorem OP.nameR {α σ ρ : Type} {f : α → σ → Option (σ ⊕ ρ)} {xs : List α} {s : σ} {A : σ ⊕ ρ → Prop} (h : OP (Z.forR f xs s) A) : ∃ F, F = f ∧ OP (Z.forR F xs s) A := ⟨f, rfl, h⟩
theorem OP.fcall2 {α σ τ : Type} {F f : α → σ → Option τ} {x : α} {s : σ} {A : τ → Prop} (e : F = f) (h : OP (F x s) A) : OP (f x s) A := e ▸ h
theorem OP.fcall1 {σ τ : Type} {F f : σ → Option τ} {s : σ} {A : τ → Prop} (e : F = f) (h : OP (F s) A) : OP (f s) A := e ▸ h
def gMul (i j : Int) : Prop := (-(2 ^ 64) < i ∧ i < 2 ^ 64) ∨ (-(2 ^ 64) < j ∧ j < 2 ^ 64)
def gDiv (j : Int) : Prop := 0 < j ∧ j < 1073741824
def gPow (i j : Int) : Prop := 0 ≤ j ∧ j ≤ 1000000 ∧ i.natAbs < 2 ^ 64
def gR (j : Int) : Prop := -(2 ^ 62) ≤ j ∧ j < 2 ^ 62
def gR2 (i j : Int) : Prop := -(2 ^ 62) ≤ i ∧ i < 2 ^ 62 ∧ -(2 ^ 62) ≤ j ∧ j < 2 ^ 62
instance (i j : Int) : Decidable (gMul i j) := by unfold gMul; infer_instance
instance (j : Int) : Decidable (gDiv j) := by unfold gDiv; infer_instance
instance (i j : Int) : Decidable (gPow i j) := by unfold gPow; infer_instance
instance (j : Int) : Decidable (gR j) := by unfold gR; infer_instance
instance (i j : Int) : Decidable (gR2 i j) := by unfold gR2; infer_instance
abbrev ipow (i j : Int) : Int := i ^ j.toNat
def setI {α : Type} (xs : List α) (i : Int) (v : α) : Option (List α) := (ixN xs.length i).bind fun j => some (xs.set j v)

/-! ### data that == compares -/
structure Dat {K : PySem.W.Frag} {α : Type} [DecidableEq α] (τ : Rep K α) where
  enc : α → PyData
  dp : ∀ {H : Hp} {v : V} {x : α}, τ.R H v x → Dp K H v (enc x)
  lay : ∀ x, (enc x).canLay0 = true
  n : Nat
  dep : ∀ x, (enc x).depth ≤ n
  eqv : ∀ x y, PyData.eqv (enc x) (enc y) = decide (x = y)
section
variable {K : PySem.W.Frag}
theorem Dat.shaped {α : Type} [DecidableEq α] {τ : Rep K α} (d : Dat τ) (hn : d.n ≤ 64) (x : α) : SeqAt.shaped (d.enc x) = true := by
  unfold SeqAt.shaped
  rw [d.lay x, decide_eq_true (Nat.le_trans (d.dep x) hn)]
  rfl
def dI : Dat (K := K) qI := ⟨.int, fun {H v x} h => by cases (show v = .int x from h); exact .int x, fun _ => rfl, 1, fun x => by show PyData.depth (.int x) ≤ 1; simp [PyData.depth], fun x y => by
  show (x == y) = decide (x = y)
  rw [Bool.beq_eq_decide_eq]⟩
def dB : Dat (K := K) qB := ⟨.bool, fun {H v x} h => by cases (show v = .bl x from h); exact .bl x, fun _ => rfl, 1, fun x => by show PyData.depth (.bool x) ≤ 1; simp [PyData.depth], fun x y => by
  show (x == y) = decide (x = y)
  rw [Bool.beq_eq_decide_eq]⟩
theorem eqvAll2 {a b c d : PyData} : PyData.eqv (.tuple [a, b]) (.tuple [c, d]) = (PyData.eqv a c && PyData.eqv b d) := by
  simp [PyData.eqv, PyData.eqvAll]
def dT2 {α β : Type} [DecidableEq α] [DecidableEq β] {τ : Rep K α} {υ : Rep K β} (a : Dat τ) (b : Dat υ) : Dat (qT2 τ υ) := ⟨fun x => .tuple [a.enc x.1, b.enc x.2], fun {H v x} h => by
    obtain ⟨p, w1, w2, rfl, h2, h3, h4⟩ := h
    exact .tup (SqT.of h2) (.cons (a.dp h3) (.cons (b.dp h4) .nil)), fun x => by
    show PyData.canLayAll0 [a.enc x.1, b.enc x.2] = true
    simp [PyData.canLayAll0, a.lay, b.lay], max a.n b.n + 1, fun x => by
    have h1 := a.dep x.1
    have h2 := b.dep x.2
    show PyData.depth (.tuple [a.enc x.1, b.enc x.2]) ≤ _
    simp only [PyData.depth, PyData.depthAll]
    omega, fun x y => by
    rw [eqvAll2, a.eqv, b.eqv, ← Bool.decide_and]
    exact decide_eq_decide.mpr ⟨fun h => Prod.ext h.1 h.2, fun h => by rw [h]; exact ⟨rfl, rfl⟩⟩⟩
theorem dpAll {α : Type} [DecidableEq α] {τ : Rep K α} (a : Dat τ) {H : Hp} : ∀ {ws : List V} {xs : List α}, RL τ H ws xs → DpAll K H ws (xs.map a.enc)
  | _, _, .nil => .nil
  | _, _, .cons r t => .cons (a.dp r) (dpAll a t)
theorem layAll {α : Type} [DecidableEq α] {τ : Rep K α} (a : Dat τ) : ∀ xs : List α, PyData.canLayAll0 (xs.map a.enc) = true
  | [] => rfl
  | x :: xs => by
    show (PyData.canLay0 (a.enc x) && PyData.canLayAll0 (xs.map a.enc)) = true
    rw [a.lay, layAll a xs]
    rfl
theorem depAll {α : Type} [DecidableEq α] {τ : Rep K α} (a : Dat τ) : ∀ xs : List α, PyData.depthAll (xs.map a.enc) ≤ a.n
  | [] => by simp [PyData.depthAll]
  | x :: xs => by
    rw [List.map_cons]
    simp only [PyData.depthAll]
    have h1 := a.dep x
    have h2 := depAll a xs
    omega
theorem eqvAllD {α : Type} [DecidableEq α] {τ : Rep K α} (a : Dat τ) : ∀ xs ys : List α, PyData.eqvAll (xs.map a.enc) (ys.map a.enc) = decide (xs = ys)
  | [], [] => rfl
  | [], y :: ys => by simp [PyData.eqvAll]
  | x :: xs, [] => by simp [PyData.eqvAll]
  | x :: xs, y :: ys => by
    rw [List.map_cons, List.map_cons]
    simp only [PyData.eqvAll]
    rw [a.eqv, eqvAllD a xs ys, ← Bool.decide_and]
    exact decide_eq_decide.mpr ⟨fun h => by rw [h.1, h.2], fun h => by injection h with h1 h2; exact ⟨h1, h2⟩⟩
def dQ {α : Type} [DecidableEq α] {τ : Rep K α} (a : Dat τ) : Dat (qQ τ) := ⟨fun xs => .list (xs.map a.enc), fun {H v x} h => by
    obtain ⟨p, ws, rfl, h2, h3⟩ := h
    exact .lst h2 (dpAll a h3), fun xs => layAll a xs, a.n + 1, fun xs => by
    have h := depAll a xs
    show PyData.depth (.list (xs.map a.enc)) ≤ _
    simp only [PyData.depth]
    omega, fun x y => by
    show PyData.eqvAll (x.map a.enc) (y.map a.enc) = _
    exact eqvAllD a x y⟩
def dL {α : Type} [DecidableEq α] {τ : Rep K α} (a : Dat τ) : Dat (qL τ) := ⟨(dQ a).enc, fun h => (dQ a).dp (qL_qQ h), (dQ a).lay, (dQ a).n, (dQ a).dep, (dQ a).eqv⟩
end

/-! ### values that move the heap: the goal goes from te σ H Q to Q v H' -/
section
variable {K : PySem.W.Frag} {σ σ' : L2.St} {S H S0 H0 : Hp} {L : List Addr} {ta tb te : TE} {t u tc : TT} {tr : TA} {x y z v : V} {i j : Int} {b c : Bool} {Q : VK} {D : Ends} {t1 t2 tu : TS} {g : TG} {vs ws : List V}
theorem c_val (h : Val te σ H v) (q : Q v H) : te σ H Q := h _ q
theorem c_op {r : R2} (h : ta σ H fun x H1 => tb σ H1 fun y H2 => r x y H2 Q) : tOp r ta tb σ H Q := h
theorem c_un {r : V → Hp → VK → Prop} (h : ta σ H fun x H1 => r x H1 Q) : tUn r ta σ H Q := h
theorem c_cons {q : List V → Hp → Prop} (h : ta σ H fun x H1 => tr σ H1 fun xs H2 => q (x :: xs) H2) : tCons ta tr σ H q := h
theorem c_nil {q : List V → Hp → Prop} (h : q [] H) : tNil σ H q := h
theorem c_args {q : List V → Hp → Prop} (ha : VA tr σ H vs) (h : q vs H) : tr σ H q := ha _ h
theorem c_tup (h : tr σ H fun xs H1 => xs.length ≤ sizeLine ∧ ∀ p, H1 p = none → Q (.ref p) (upd H1 p (.tup xs))) : tTup tr σ H Q := h
theorem c_lst (h : tr σ H fun xs H1 => xs.length ≤ sizeLine ∧ ∀ p, H1 p = none → Q (.ref p) (upd H1 p (.lst xs))) : tLst tr σ H Q := h
theorem c_tupE (h : ∀ Q' : VK, Q' = Q → tr σ H fun xs H1 => xs.length ≤ sizeLine ∧ ∀ p, H1 p = none → Q' (.ref p) (upd H1 p (.tup xs))) : tTup tr σ H Q := h _ rfl
theorem c_lstE (h : ∀ Q' : VK, Q' = Q → tr σ H fun xs H1 => xs.length ≤ sizeLine ∧ ∀ p, H1 p = none → Q' (.ref p) (upd H1 p (.lst xs))) : tLst tr σ H Q := h _ rfl
theorem c_cbE {r : List V → Hp → VK → Prop} (h : ∀ Q' : VK, Q' = Q → tr σ H fun vs H1 => r vs H1 Q') : tCB r tr σ H Q := h _ rfl
theorem q_eq {Q' : VK} (e : Q' = Q) (h : Q v H) : Q' v H := e ▸ h
theorem c_call {sp : Sp} {dvs : List V} {E : XK} (h : tr σ H fun vs H1 => sp (vs ++ dvs) H1 Q E) : tCall sp dvs E tr σ H Q := h
theorem c_cb {r : List V → Hp → VK → Prop} (h : tr σ H fun vs H1 => r vs H1 Q) : tCB r tr σ H Q := h
theorem c_newtup (e : Same S H) (hl : vs.length ≤ 1000) (k : ∀ p S' H', Grow [] S H S' H' → S' p = some (.tup vs) → Q (.ref p) H') : vs.length ≤ sizeLine ∧ ∀ p, H p = none → Q (.ref p) (upd H p (.tup vs)) :=
  ⟨Nat.le_trans hl (by decide), fun p hp => k p _ _ ((Grow.refl e).imm hp) upd_same⟩
theorem c_newlst (hl : vs.length ≤ 1000) (k : ∀ p H', Same H H' → H p = none → H' p = some (.lst vs) → Q (.ref p) H') : vs.length ≤ sizeLine ∧ ∀ p, H p = none → Q (.ref p) (upd H p (.lst vs)) :=
  ⟨Nat.le_trans hl (by decide), fun p hp => k p _ (same_upd hp) hp upd_same⟩
theorem c_not {q : Bool → Hp → Prop} (h : t σ H fun b H1 => q (!b) H1) : tNot t σ H q := h
theorem c_test {q : Bool → Hp → Prop} (h : te σ H fun x H' => ∃ k, x = .bl k ∧ q k H') : tTest te σ H q := h
theorem c_B {q : Bool → Hp → Prop} (h : te σ H fun x H' => ∃ k, x = .bl k ∧ q k H') : tB te σ H q := h
theorem c_ans {q : Bool → Hp → Prop} (h : Ans t σ H b) (k : q b H) : t σ H q := h _ k
theorem c_bl {q : Bool → Hp → Prop} (h : q b H) : ∃ k, V.bl b = .bl k ∧ q k H := ⟨b, rfl, h⟩
theorem c_and {q : Bool → Hp → Prop} (h : t σ H fun c H1 => if c = true then u σ H1 q else q false H1) : tAnd t u σ H q := h
theorem c_or {q : Bool → Hp → Prop} (h : t σ H fun c H1 => if c = true then q true H1 else u σ H1 q) : tOr t u σ H q := h
theorem c_andV (h : ta σ H fun x H1 => ∃ c, x = .bl c ∧ if c = true then tb σ H1 Q else Q (.bl false) H1) : tAndV ta tb σ H Q := h
theorem c_orV (h : ta σ H fun x H1 => ∃ c, x = .bl c ∧ if c = true then Q (.bl true) H1 else tb σ H1 Q) : tOrV ta tb σ H Q := h
theorem c_cutT {q : Bool → Hp → Prop} (P : Bool → Hp → Prop) (hc : ∀ q' : Bool → Hp → Prop, (∀ b H', P b H' → q' b H') → t σ H q') (hP : ∀ b H', P b H' → q b H') : t σ H q := hc _ hP
theorem c_cutV (P : Bool → Hp → Prop) (hc : ∀ q' : VK, (∀ b H', P b H' → q' (.bl b) H') → te σ H q') (hP : ∀ b H', P b H' → Q (.bl b) H') : te σ H Q := hc _ hP
theorem ifb {A B : Prop} (h1 : c = true → A) (h2 : c = false → B) : if c = true then A else B := by
  cases c with
  | true => exact (show (if true = true then A else B) from h1 rfl)
  | false => exact (show (if false = true then A else B) from h2 rfl)
/-- the ends of the operators -/
theorem e_o2 {g : Int → Int → V} (q : Q (g i j) H) : rI0 g (.int i) (.int j) H Q := ⟨i, j, rfl, rfl, q⟩
theorem e_o2c {C : Int → Int → Prop} {g : Int → Int → V} (hc : C i j) (q : Q (g i j) H) : rI C g (.int i) (.int j) H Q := ⟨i, j, rfl, rfl, hc, q⟩
theorem e_u {g : Int → V} (q : Q (g i) H) : rU g (.int i) H Q := ⟨i, rfl, q⟩
theorem e_eqI (q : Q (.bl (decide (i = j))) H) : rEq (.int i) (.int j) H Q := ⟨rfl, by rw [dec_int]; exact q⟩
theorem e_neI (q : Q (.bl (!decide (i = j))) H) : rNe (.int i) (.int j) H Q := ⟨rfl, by rw [dec_int]; exact q⟩
theorem e_eqS {s t : Str} (q : Q (.bl (decide (s = t))) H) : rEq (.str s) (.str t) H Q := ⟨rfl, by rw [dec_str]; exact q⟩
theorem e_neS {s t : Str} (q : Q (.bl (!decide (s = t))) H) : rNe (.str s) (.str t) H Q := ⟨rfl, by rw [dec_str]; exact q⟩
theorem e_eqB (q : Q (.bl (decide (b = c))) H) : rEq (.bl b) (.bl c) H Q := ⟨rfl, by rw [dec_bl]; exact q⟩
theorem e_neB (q : Q (.bl (!decide (b = c))) H) : rNe (.bl b) (.bl c) H Q := ⟨rfl, by rw [dec_bl]; exact q⟩
theorem e_eqD {α : Type} [DecidableEq α] {τ υ : Rep K α} (d : Dat τ) (d' : Dat υ) (he : d.enc = d'.enc) (hn : d.n ≤ 64) {p q : α} (h1 : τ.R H x p) (h2 : υ.R H y q) (k : Q (.bl (decide (p = q))) H) : rEqD K x y H Q :=
  ⟨d.enc p, d.enc q, d.dp h1, by rw [he]; exact d'.dp h2, d.shaped hn p, d.shaped hn q, by rw [d.eqv]; exact k⟩
theorem e_neD {α : Type} [DecidableEq α] {τ υ : Rep K α} (d : Dat τ) (d' : Dat υ) (he : d.enc = d'.enc) (hn : d.n ≤ 64) {p q : α} (h1 : τ.R H x p) (h2 : υ.R H y q) (k : Q (.bl (!decide (p = q))) H) : rNeD K x y H Q :=
  ⟨d.enc p, d.enc q, d.dp h1, by rw [he]; exact d'.dp h2, d.shaped hn p, d.shaped hn q, by rw [d.eqv]; exact k⟩
theorem v_eqD {α : Type} [DecidableEq α] {τ υ : Rep K α} (d : Dat τ) (d' : Dat υ) (he : d.enc = d'.enc) (hn : d.n ≤ 64) {p q : α} (ha : Val ta σ H x) (hb : Val tb σ H y) (h1 : τ.R H x p) (h2 : υ.R H y q) : Val (tOp (rEqD K) ta tb) σ H (.bl (decide (p = q))) :=
  fun Q k => ha _ (hb _ (e_eqD d d' he hn h1 h2 k))
theorem v_neD {α : Type} [DecidableEq α] {τ υ : Rep K α} (d : Dat τ) (d' : Dat υ) (he : d.enc = d'.enc) (hn : d.n ≤ 64) {p q : α} (ha : Val ta σ H x) (hb : Val tb σ H y) (h1 : τ.R H x p) (h2 : υ.R H y q) : Val (tOp (rNeD K) ta tb) σ H (.bl (!decide (p = q))) :=
  fun Q k => ha _ (hb _ (e_neD d d' he hn h1 h2 k))
/-- a shallow datum: tuples of scalars; it may be kept for good -/
def Shal {α : Type} (τ : Rep K α) : Prop := ∀ {S H : Hp} {v : V} {x : α}, Same S H → τ.R H v x → ∃ S', Grow [] S H S' H ∧ τ.R S' v x
theorem shI : Shal (K := K) qI := fun e h => ⟨_, Grow.refl e, h⟩
theorem shB : Shal (K := K) qB := fun e h => ⟨_, Grow.refl e, h⟩
theorem shS : Shal (K := K) qS := fun e h => ⟨_, Grow.refl e, h⟩
theorem shU : Shal (K := K) qU := fun e h => ⟨_, Grow.refl e, h⟩
theorem shOpt {α : Type} {τ : Rep K α} (a : Shal τ) : Shal (qOpt τ) := fun {S H v x} e h => by
  cases x with
  | none => exact ⟨_, Grow.refl e, h⟩
  | some y =>
    obtain ⟨S', g, r⟩ := a e h.2
    exact ⟨S', g, h.1, r⟩
theorem shT2 {α β : Type} {τ : Rep K α} {υ : Rep K β} (a : Shal τ) (b : Shal υ) : Shal (qT2 τ υ) := fun {S H v x} e h => by
  obtain ⟨p, w1, w2, rfl, h2, h3, h4⟩ := h
  obtain ⟨S1, g1, r1⟩ := a e h3
  obtain ⟨S2, g2, r2⟩ := b g1.sh h4
  have g3 := (g1.call0 g2).tup h2
  have e3 : Same S2 (upd S2 p (.tup [w1, w2])) := ((Grow.refl (L := []) g2.sh).tup h2).ss
  exact ⟨_, g3, p, w1, w2, rfl, upd_same, τ.mono (g2.ss.trans e3) r1, υ.mono e3 r2⟩
theorem shL {α : Type} {τ : Rep K α} (a : Shal τ) {S H : Hp} : ∀ {ws : List V} {xs : List α}, Same S H → RL τ H ws xs → ∃ S', Grow [] S H S' H ∧ RL τ S' ws xs
  | _, _, e, .nil => ⟨_, Grow.refl e, .nil⟩
  | _, _, e, .cons r t => by
    obtain ⟨S1, g1, r1⟩ := a e r
    obtain ⟨S2, g2, r2⟩ := shL a g1.sh t
    exact ⟨S2, g1.call0 g2, .cons (τ.mono g2.ss r1) r2⟩
theorem RL.sc {α : Type} {τ : Rep K α} {H H' : Hp} (f : α → V) (hf : ∀ {H v x}, τ.R H v x ↔ v = f x) : ∀ {ws : List V} {xs : List α}, RL τ H ws xs → RL τ H' ws xs
  | _, _, .nil => .nil
  | _, _, .cons r t => .cons (hf.mpr (hf.mp r)) (RL.sc f hf t)
theorem RL.scI {H H' : Hp} {ws : List V} {xs : List Int} (h : RL (K := K) qI H ws xs) : RL (K := K) qI H' ws xs := RL.sc V.int Iff.rfl h
theorem RL.scB {H H' : Hp} {ws : List V} {xs : List Bool} (h : RL (K := K) qB H ws xs) : RL (K := K) qB H' ws xs := RL.sc V.bl Iff.rfl h
theorem RL.scS {H H' : Hp} {ws : List V} {xs : List Str} (h : RL (K := K) qS H ws xs) : RL (K := K) qS H' ws xs := RL.sc V.str Iff.rfl h
/-- where a new list comes from -/
theorem e_listQ {α : Type} {τ : Rep K α} {xs : List α} (h : (qQ τ).R H v xs) (k : ∀ p ws H', Same H H' → H p = none → H' p = some (.lst ws) → RL τ H ws xs → Q (.ref p) H') :
    ∃ p ys, [v] = [.ref p] ∧ (SqL K H p ys ∨ SqT K H p ys) ∧ ∀ l, H l = none → Q (.ref l) (upd H l (.lst ys)) := by
  obtain ⟨a, ws, rfl, h2, h3⟩ := h
  exact ⟨a, ws, rfl, .inl h2, fun l hl => k l ws _ (same_upd hl) hl upd_same h3⟩
theorem RL.cut {α : Type} {τ : Rep K α} {ws : List V} {xs : List α} (h : RL τ H ws xs) (lo hi : Option Int) : RL τ H (cutV ws lo hi) ((xs.drop (HT.sIx xs.length 0 lo)).take (HT.sIx xs.length xs.length hi - HT.sIx xs.length 0 lo)) := by
  unfold cutV
  rw [h.length]
  exact (h.drop _).take _
def cutI {α : Type} (xs : List α) (lo hi : Option Int) : List α := (xs.drop (HT.sIx xs.length 0 lo)).take (HT.sIx xs.length xs.length hi - HT.sIx xs.length 0 lo)
theorem e_slice {α : Type} {τ : Rep K α} {xs : List α} {lo hi : Option Int} (h : (qQ τ).R H v xs) (k : ∀ p ws H', Same H H' → H p = none → H' p = some (.lst ws) → RL τ H ws (cutI xs lo hi) → Q (.ref p) H') : rSlL K v lo hi H Q := by
  obtain ⟨a, ws, rfl, h2, h3⟩ := h
  exact ⟨a, ws, rfl, h2, fun l hl => k l _ _ (same_upd hl) hl upd_same (h3.cut lo hi)⟩
theorem c_slice {r : V → Option Int → Option Int → Hp → VK → Prop} {tl th : TO} {lo hi : Option Int} (ha : Val te σ H v) (hl : ∀ q : Option Int → Hp → Prop, q lo H → tl σ H q) (hh : ∀ q : Option Int → Hp → Prop, q hi H → th σ H q) (k : r v lo hi H Q) : tSl r te tl th σ H Q := ha _ (hl _ (hh _ k))
theorem po0 : ∀ q : Option Int → Hp → Prop, q none H → tNoPart σ H q := fun _ z => z
theorem po1 (h : Val te σ H (.int i)) : ∀ q : Option Int → Hp → Prop, q (some i) H → tPart te σ H q := fun _ z => h _ ⟨i, rfl, z⟩
theorem e_cat {α : Type} {τ : Rep K α} {xs ys : List α} (h1 : (qL τ).R H x xs) (h2 : (qL τ).R H y ys) (hz : xs.length + ys.length ≤ 16777216) (k : ∀ p ws H', Same H H' → H p = none → H' p = some (.lst ws) → RL τ H ws (xs ++ ys) → Q (.ref p) H') : rCat x y H Q := by
  obtain ⟨a, ws, rfl, ha, ra⟩ := h1
  obtain ⟨b, us, rfl, hb, rb⟩ := h2
  exact ⟨a, b, ws, us, rfl, rfl, ha, hb, by rw [ra.length, rb.length]; exact hz, fun p hp => k p _ _ (same_upd hp) hp upd_same (ra.app rb)⟩

/-! ### statements -/
theorem z_start {N : List Str} {t : TS} (hs : start N vs = σ) (q : t D σ H) : t D (start N vs) H := hs ▸ q
theorem z_nextR (q : tu D σ H) : tNext { D with nx := tu D } σ H := q
theorem z_setE {k : Nat} (h : te σ H fun v H' => gName k v σ H' (tu D)) : tSeq (tAsg te (gName k)) tu D σ H := h
theorem z_asgE (h : te σ H fun v H' => g v σ H' (tu D)) : tSeq (tAsg te g) tu D σ H := h
theorem z_retE (h : te σ H D.rt) : tSeq (tRet te) tu D σ H := h
theorem z_retN (h : D.rt .non H) : tSeq tRetN tu D σ H := h
theorem z_pass (h : tu D σ H) : tSeq tNext tu D σ H := h
theorem z_cont (h : D.ct σ H) : tSeq tCont tu D σ H := h
theorem z_brk (h : D.bk σ H) : tSeq tBreak tu D σ H := h
theorem z_dropE (h : te σ H fun _ H' => tu D σ H') : tSeq (tDrop te) tu D σ H := h
theorem z_ifE (h : tc σ H fun b H1 => if b = true then t1 { D with nx := tu D } σ H1 else t2 { D with nx := tu D } σ H1) : tSeq (tIfS tc t1 t2) tu D σ H := h
theorem z_ifbj (P : L2.St → Hp → Prop) (hP : ∀ σ' H', P σ' H' → tu D σ' H')
    (h1 : c = true → ∀ N : L2.St → Hp → Prop, (∀ σ' H', P σ' H' → N σ' H') → t1 { D with nx := N } σ H) (h2 : c = false → ∀ N : L2.St → Hp → Prop, (∀ σ' H', P σ' H' → N σ' H') → t2 { D with nx := N } σ H) : if c = true then t1 { D with nx := tu D } σ H else t2 { D with nx := tu D } σ H :=
  ifb (fun e => h1 e _ hP) (fun e => h2 e _ hP)
/-- xs.append(v) -/
theorem c_app {α : Type} {τ : Rep K α} {l : Addr} {xs ys : List α} {q : α} (g : Grow L S0 H0 S H) (cl : Cel L H0 S H l (.lst ws)) (r : RL τ S ws xs) (rv : τ.R S v q) (hz : xs.length < 16777216) (he : xs ++ [q] = ys)
    (k : ∀ ws' H', Grow L S0 H0 S H' → Cel L H0 S H' l (.lst ws') → RL τ S ws' ys → (∀ l' o', l' ≠ l → Cel L H0 S H l' o' → Cel L H0 S H' l' o') → Q .non H') : rAppend (.ref l) [v] H Q := by
  subst he
  exact ⟨l, ws, v, rfl, rfl, cl.h, by rw [r.length]; exact hz, k _ _ (g.wr cl rfl) (cl.wr rfl) (r.app (.cons rv .nil)) fun l' o' n c => c.wrn n⟩
theorem c_bm {T : String} {r : V → List V → Hp → VK → Prop} {l : Addr} (ha : Val ta σ H (.ref l)) (h : tyV K T (.ref l) H) (k : tr σ H fun xs H2 => r (.ref l) xs H2 Q) : tBM K T r ta tr σ H Q := ha _ ⟨h, k⟩
theorem c_bm0 {T : String} {r : V → List V → Hp → VK → Prop} {l : Addr} (ha : Val ta σ H (.ref l)) (h : tyV K T (.ref l) H) (k : r (.ref l) [] H Q) : tBM0 K T r ta σ H Q := ha _ ⟨h, k⟩
theorem tyL {l : Addr} (h : H l = some (.lst ws)) : tyV K "list" (.ref l) H := .inl ⟨rfl, _, SqL.of h⟩
/-- xs[i] = v -/
theorem c_setL {α : Type} {τ : Rep K α} {l : Addr} {xs ys : List α} {q : α} (g : Grow L S0 H0 S H) (cl : Cel L H0 S H l (.lst ws)) (r : RL τ S ws xs) (rv : τ.R S v q) (ho : Val ta σ H (.ref l)) (hi : Val tb σ H (.int i)) (he : setI xs i q = some ys)
    (k : ∀ ws' H', Grow L S0 H0 S H' → Cel L H0 S H' l (.lst ws') → RL τ S ws' ys → (∀ l' o', l' ≠ l → Cel L H0 S H l' o' → Cel L H0 S H' l' o') → tu D σ H') : gSub ta tb rSetL v σ H (tu D) := by
  unfold setI at he
  cases e : ixN xs.length i with
  | none => rw [e] at he; cases he
  | some j =>
    rw [e] at he
    cases (Option.some.inj he)
    exact ho _ (hi _ ⟨l, ws, i, j, rfl, rfl, cl.h, by rw [r.length]; exact e, k _ _ (g.wr cl rfl) (cl.wr rfl) (r.set rv j) fun l' o' n c => c.wrn n⟩)
theorem c_clear {α : Type} {τ : Rep K α} {l : Addr} (g : Grow L S0 H0 S H) (cl : Cel L H0 S H l (.lst ws))
    (k : ∀ H', Grow L S0 H0 S H' → Cel L H0 S H' l (.lst []) → RL τ S [] ([] : List α) → (∀ l' o', l' ≠ l → Cel L H0 S H l' o' → Cel L H0 S H' l' o') → Q .non H') : rClear (.ref l) [] H Q :=
  ⟨l, ws, rfl, rfl, cl.h, k _ (g.wr cl rfl) (cl.wr rfl) .nil fun l' o' n c => c.wrn n⟩
theorem v_chain {g g' : Int → Int → V} {p q : Int → Int → Bool} {k l m : Int} (ha : Val ta σ H (.int k)) (hb : Val tb σ H (.int l)) (hc : Val te σ H (.int m)) (h1 : g k l = .bl b) (h2 : g' l m = .bl c) : Val (tChain (rI0 g) (rI0 g') ta tb te) σ H (.bl (b && c)) := fun Q z => ha _ (hb _ ⟨k, l, rfl, rfl, b, h1, by
  cases b with
  | true => exact (show (if true = true then _ else _) from hc _ ⟨l, m, rfl, rfl, by rw [h2]; exact z⟩)
  | false => exact (show (if false = true then _ else _) from z)⟩)
theorem Same.seqt {H H' : Hp} {a : Addr} {xs : List V} (e : Same H H') (h : SqT K H a xs) : SqT K H' a xs := by
  rcases h with (h | ⟨o, h⟩) | h
  · exact .inl (.inl (e _ _ h))
  · exact .inl (.inr ⟨o, e _ _ h⟩)
  · exact .inr h
theorem turns_tup {α : Type} {R : V → α → Prop} {a : Addr} {ws : List V} {xs : List α} {g : TG} {tb : TS} (hp : Paired R ws xs) (Pv : List α → L2.St → Hp → Prop) (h0 : Pv xs σ H) (hl : ∀ ys σ' H', Pv ys σ' H' → SqT K H' a ws)
    (hs : ∀ w y ys σ' H', R w y → Pv (y :: ys) σ' H' → ∀ N : L2.St → Hp → Prop, (∀ σ'' H'', Pv ys σ'' H'' → N σ'' H'') → g w σ' H' fun σ2 H2 => tb { D with nx := N, ct := N, bk := D.nx } σ2 H2) (hd : ∀ σ' H', Pv [] σ' H' → D.nx σ' H') :
    ∃ W : Nat → Nat → L2.St → Hp → Prop, (∃ m, W 0 m σ H) ∧ ∀ i m σ H, W i m σ H →
      ((Itt K a).stop i H ∧ D.nx σ H) ∨ ((Itt K a).go i H ∧ ∃ N : L2.St → Hp → Prop, (∀ σ' H', N σ' H' → ∃ m', m' < m ∧ W (i + 1) m' σ' H') ∧ ∀ x H', (Itt K a).yld i H x H' → g x σ H' fun σ2 H2 => tb { D with nx := N, ct := N, bk := D.nx } σ2 H2) := by
  refine for_tup (K := K) (a := a) (xs := ws) (fun i σ H => i ≤ ws.length ∧ ∃ ys, Paired R (ws.drop i) ys ∧ Pv ys σ H) ⟨Nat.zero_le _, xs, hp, h0⟩ (fun i σ' H' _ p => ?_) (fun i x σ' H' hx p => ?_) (fun σ' H' p => ?_)
  · obtain ⟨_, ys, _, q⟩ := p
    exact hl _ _ _ q
  · obtain ⟨_, ys, r, q⟩ := p
    have hi : i < ws.length := (List.getElem?_eq_some_iff.mp hx).1
    have e : ws.drop i = x :: ws.drop (i + 1) := by
      rw [List.drop_eq_getElem_cons hi]
      rw [(List.getElem?_eq_some_iff.mp hx).2]
    rw [e] at r
    cases r with
    | cons a b => exact hs _ _ _ σ' H' a q _ fun σ'' H'' z => ⟨hi, _, b, z⟩
  · obtain ⟨_, ys, r, q⟩ := p
    rw [List.drop_length] at r
    cases r
    exact hd _ _ q
theorem z_forT {α : Type} {R : V → α → Prop} {a : Addr} {ws : List V} {xs : List α} {tl : TE} {g : TG} {tb : TS} (ha : Val tl σ H (.ref a)) (hp : Paired R ws xs) (Pv : List α → L2.St → Hp → Prop) (h0 : Pv xs σ H) (hl : ∀ ys σ' H', Pv ys σ' H' → SqT K H' a ws)
    (hs : ∀ w y ys σ' H', R w y → Pv (y :: ys) σ' H' → ∀ N : L2.St → Hp → Prop, (∀ σ'' H'', Pv ys σ'' H'' → N σ'' H'') → g w σ' H' fun σ2 H2 => tb { D with nx := N, ct := N, bk := tu D } σ2 H2) (hd : ∀ σ' H', Pv [] σ' H' → tu D σ' H') :
    tSeq (tFor (iTup K tl) g tb) tu D σ H := ha _ ⟨a, rfl, ⟨ws, hl _ _ _ h0⟩, turns_tup (D := { D with nx := tu D }) hp Pv h0 hl hs hd⟩
end
theorem bt_min : bootBuiltins "min" = some (.builtin "min") := by decide +kernel
theorem bt_max : bootBuiltins "max" = some (.builtin "max") := by decide +kernel
end Z

namespace Z
open PySem PySem.Spec PyProof.Rows L2

/-! ### comprehensions -/
def consO {β : Type} (r : Option β) (ys : List β) : List β := match r with
  | some y => y :: ys
  | none => ys
def compO' {α β : Type} (f : α → Option (Option β)) : List α → Option (List β)
  | [] => some []
  | x :: xs => (f x).bind fun r => (compO' f xs).bind fun ys => some (consO r ys)
@[irreducible] def compO {α β : Type} (f : α → Option (Option β)) (xs : List α) : Option (List β) := if xs.length ≤ 16777216 then compO' f xs else none
theorem compO_some {α β : Type} {f : α → Option (Option β)} {xs : List α} {ys : List β} (h : compO f xs = some ys) : xs.length ≤ 16777216 ∧ compO' f xs = some ys := by
  unfold compO at h
  split at h
  · rename_i q; exact ⟨q, h⟩
  · cases h
theorem compO_eq {α β : Type} {f : α → Option (Option β)} {g : α → Option β} {xs : List α} (hl : xs.length ≤ 16777216) (h : ∀ x ∈ xs, f x = some (g x)) : compO f xs = some (xs.filterMap g) := by
  unfold compO
  rw [if_pos hl]
  clear hl
  induction xs with
  | nil => rfl
  | cons x xs ih =>
    unfold compO'
    rw [h x (List.mem_cons_self), ih fun y hy => h y (List.mem_cons_of_mem _ hy), List.filterMap_cons]
    cases g x <;> rfl
section
variable {K : PySem.W.Frag} {σ : L2.St} {S H : Hp} {ta tl te : TE} {tt : TT} {tr : TA} {v : V} {Q : VK} {D : Ends} {tu : TS}
theorem wipe_one (j : Nat) : wipe σ [j] = σ.set j none := rfl
theorem wipe_again (j : Nat) (v : V) : wipe ((wipe σ [j]).set j (some v)) [j] = wipe σ [j] := by
  rw [wipe_one, wipe_one, List.set_set, List.set_set]
theorem turnsC_range {lo : Int} {n : Nat} {g : TG} {vs : List Nat} {H1 : Hp} {P : Addr} {Qd : Hp → Prop} (Pv : List Int → Hp → Prop) (h0 : Pv (rangeI lo n) (upd H1 P (.lst [])))
    (hs : ∀ x xs H', Pv (x :: xs) H' → ∀ N : Hp → Prop, (∀ H'', Pv xs H'' → N H'') → g (.int x) (wipe σ vs) H' fun σ2 H2 => wipe σ2 vs = wipe σ vs ∧ tt σ2 H2 fun b H3 =>
      if b = true then te σ2 H3 fun y H4 => ∃ acc, H4 P = some (.lst acc) ∧ acc.length < sizeLine ∧ N (upd H4 P (.lst (acc ++ [y]))) else N H3) (hd : ∀ H', Pv [] H' → Qd H') :
    ∃ W : Nat → Nat → Hp → Prop, (∃ m, W 0 m (upd H1 P (.lst []))) ∧ ∀ i m H, W i m H →
      ((Itr lo n).stop i H ∧ Qd H) ∨ ((Itr lo n).go i H ∧ ∃ Nx : Hp → Prop, (∀ H', Nx H' → ∃ m', m' < m ∧ W (i + 1) m' H') ∧ ∀ x H', (Itr lo n).yld i H x H' → g x (wipe σ vs) H' fun σ2 H2 => wipe σ2 vs = wipe σ vs ∧ tt σ2 H2 fun b H3 =>
        if b = true then te σ2 H3 fun y H4 => ∃ acc, H4 P = some (.lst acc) ∧ acc.length < sizeLine ∧ Nx (upd H4 P (.lst (acc ++ [y]))) else Nx H3) := by
  refine lc_range (fun i H => i ≤ n ∧ Pv (rangeI (lo + (i : Int)) (n - i)) H) ⟨Nat.zero_le _, by
    rw [show lo + ((0 : Nat) : Int) = lo from Int.add_zero lo]; exact h0⟩ (fun i H' hi p => ?_) (fun H' p => hd _ (by
    have q := p.2
    rw [Nat.sub_self] at q
    exact q))
  have e : n - i = (n - (i + 1)) + 1 := by omega
  have q := p.2
  rw [e, rangeI_succ] at q
  refine hs _ _ H' q (fun H => i + 1 ≤ n ∧ Pv (rangeI (lo + ((i + 1 : Nat) : Int)) (n - (i + 1))) H) fun H'' z => ⟨hi, ?_⟩
  rw [show lo + ((i + 1 : Nat) : Int) = lo + (i : Int) + 1 by omega]
  exact z
theorem turnsC_list {α : Type} {R : V → α → Prop} {a : Addr} {ws : List V} {xs : List α} {g : TG} {vs : List Nat} {H1 : Hp} {P : Addr} {Qd : Hp → Prop} (hp : Paired R ws xs) (Pv : List α → Hp → Prop) (h0 : Pv xs (upd H1 P (.lst []))) (hl : ∀ ys H', Pv ys H' → SqL K H' a ws)
    (hs : ∀ w x xs H', R w x → Pv (x :: xs) H' → ∀ N : Hp → Prop, (∀ H'', Pv xs H'' → N H'') → g w (wipe σ vs) H' fun σ2 H2 => wipe σ2 vs = wipe σ vs ∧ tt σ2 H2 fun b H3 =>
      if b = true then te σ2 H3 fun y H4 => ∃ acc, H4 P = some (.lst acc) ∧ acc.length < sizeLine ∧ N (upd H4 P (.lst (acc ++ [y]))) else N H3) (hd : ∀ H', Pv [] H' → Qd H') :
    ∃ W : Nat → Nat → Hp → Prop, (∃ m, W 0 m (upd H1 P (.lst []))) ∧ ∀ i m H, W i m H →
      ((Itl K a).stop i H ∧ Qd H) ∨ ((Itl K a).go i H ∧ ∃ Nx : Hp → Prop, (∀ H', Nx H' → ∃ m', m' < m ∧ W (i + 1) m' H') ∧ ∀ x H', (Itl K a).yld i H x H' → g x (wipe σ vs) H' fun σ2 H2 => wipe σ2 vs = wipe σ vs ∧ tt σ2 H2 fun b H3 =>
        if b = true then te σ2 H3 fun y H4 => ∃ acc, H4 P = some (.lst acc) ∧ acc.length < sizeLine ∧ Nx (upd H4 P (.lst (acc ++ [y]))) else Nx H3) := by
  refine lc_list (K := K) (a := a) (xs := ws) (fun i H => i ≤ ws.length ∧ ∃ ys, Paired R (ws.drop i) ys ∧ Pv ys H) ⟨Nat.zero_le _, xs, hp, h0⟩ (fun i H' _ p => ?_) (fun i x H' hx p => ?_) (fun H' p => ?_)
  · obtain ⟨_, ys, _, q⟩ := p
    exact hl _ _ q
  · obtain ⟨_, ys, r, q⟩ := p
    have hi : i < ws.length := (List.getElem?_eq_some_iff.mp hx).1
    have e : ws.drop i = x :: ws.drop (i + 1) := by
      rw [List.drop_eq_getElem_cons hi]
      rw [(List.getElem?_eq_some_iff.mp hx).2]
    rw [e] at r
    cases r with
    | cons a b => exact hs _ _ _ H' a q (fun H => i + 1 ≤ ws.length ∧ ∃ ys, Paired R (ws.drop (i + 1)) ys ∧ Pv ys H) fun H'' z => ⟨hi, _, b, z⟩
  · obtain ⟨_, ys, r, q⟩ := p
    rw [List.drop_length] at r
    cases r
    exact hd _ q
/-- what holds between two turns of a comprehension whose parts leave the heap as it is: P the new list, zs what is left -/
def CPv {α β : Type} (τ : Rep K β) (S H : Hp) (P : Addr) (f : α → Option (Option β)) (ys : List β) (zs : List α) (H' : Hp) : Prop :=
  ∃ acc ys1 ys2, H' P = some (.lst acc) ∧ RL τ S acc ys1 ∧ Same H H' ∧ compO' f zs = some ys2 ∧ ys1 ++ ys2 = ys ∧ acc.length + zs.length ≤ 16777216
theorem CPv.start {α β : Type} {τ : Rep K β} {P : Addr} {f : α → Option (Option β)} {ys : List β} {zs : List α} (hP : H P = none) (h : compO f zs = some ys) : CPv τ S H P f ys zs (upd H P (.lst [])) := by
  obtain ⟨h1, h2⟩ := compO_some h
  exact ⟨[], [], ys, upd_same, .nil, same_upd hP, h2, rfl, by simpa using h1⟩
theorem CPv.turn {α β : Type} {τ : Rep K β} {P : Addr} {f : α → Option (Option β)} {ys : List β} {x : α} {zs : List α} {H' : Hp} {j : Nat} {w : V} {σx : L2.St} (hP : H P = none) (hσ : σ.set j (some w) = σx)
    (turn : ∀ H', Same H H' → ∀ r, f x = some r → ∃ b, Ans tt σx H' b ∧ (b = true → ∃ v y, r = some y ∧ Val te σx H' v ∧ τ.R S v y) ∧ (b = false → r = none))
    (p : CPv τ S H P f ys (x :: zs) H') (N : Hp → Prop) (hN : ∀ H'', CPv τ S H P f ys zs H'' → N H'') :
    gName j w (wipe σ [j]) H' fun σ2 H2 => wipe σ2 [j] = wipe σ [j] ∧ tt σ2 H2 fun b H3 =>
      if b = true then te σ2 H3 fun y H4 => ∃ acc, H4 P = some (.lst acc) ∧ acc.length < sizeLine ∧ N (upd H4 P (.lst (acc ++ [y]))) else N H3 := by
  obtain ⟨acc, ys1, ys2, h1, h2, h3, h4, h5, h6⟩ := p
  have e : (wipe σ [j]).set j (some w) = σx := by rw [wipe_one, List.set_set]; exact hσ
  have e2 : wipe σx [j] = wipe σ [j] := by rw [← e]; exact wipe_again j w
  unfold compO' at h4
  cases hf : f x with
  | none => rw [hf] at h4; cases h4
  | some r =>
    rw [hf] at h4
    cases hr : compO' f zs with
    | none => rw [hr] at h4; cases h4
    | some ys3 =>
      rw [hr] at h4
      have h4 : consO r ys3 = ys2 := Option.some.inj h4
      obtain ⟨b, ha, ht, hn⟩ := turn H' h3 r hf
      refine g_name e ?_
      refine ⟨e2, ha _ ?_⟩
      cases b with
      | true =>
        obtain ⟨v, y, rfl, hv, hR⟩ := ht rfl
        refine (show (if true = true then _ else _) from hv _ ⟨acc, h1, ?_, hN _ ⟨acc ++ [v], ys1 ++ [y], ys3, upd_same, h2.app (.cons hR .nil), fun a o q => ?_, hr, ?_, ?_⟩⟩)
        · rw [sizeLine_eq]; simp only [List.length_cons] at h6; omega
        · rw [upd_ne (ne_of_none q hP)]; exact h3 a o q
        · rw [← h5, ← h4, List.append_assoc]; rfl
        · rw [List.length_append]; simp only [List.length_cons, List.length_nil] at h6 ⊢; omega
      | false =>
        have hn := hn rfl
        subst hn
        refine (show (if false = true then _ else _) from hN _ ⟨acc, ys1, ys3, h1, h2, h3, hr, ?_, ?_⟩)
        · rw [← h5, ← h4]; rfl
        · simp only [List.length_cons] at h6; omega
theorem CPv.done {α β : Type} {τ : Rep K β} {P : Addr} {f : α → Option (Option β)} {ys : List β} {H' : Hp} (p : CPv τ S H P f ys [] H') : ∃ acc, H' P = some (.lst acc) ∧ RL τ S acc ys ∧ Same H H' := by
  obtain ⟨acc, ys1, ys2, h1, h2, h3, h4, h5, _⟩ := p
  have : ys2 = [] := (Option.some.inj h4).symm
  subst this
  rw [List.append_nil] at h5
  subst h5
  exact ⟨acc, h1, h2, h3⟩
theorem c_lcR1 {β : Type} {τ : Rep K β} {n : Int} {f : Int → Option (Option β)} {ys : List β} {j : Nat} (ha : VA tr σ H [.int n]) (hj : gR n) (h : compO f (rangeI 0 n.toNat) = some ys)
    (turn : ∀ x H', Same H H' → ∀ r, f x = some r → ∃ b, Ans tt (σ.set j (some (.int x))) H' b ∧ (b = true → ∃ v y, r = some y ∧ Val te (σ.set j (some (.int x))) H' v ∧ τ.R S v y) ∧ (b = false → r = none))
    (k : ∀ p ws H', Same H H' → H p = none → H' p = some (.lst ws) → RL τ S ws ys → Q (.ref p) H') : tLc (iRng1 tr) (gName j) tt te [j] σ H Q :=
  ha _ ⟨n, rfl, hj.1, hj.2, fun P hP => turnsC_range (CPv τ S H P f ys) (CPv.start hP h) (fun x xs H' p N hN => CPv.turn hP rfl (fun H' e r hr => turn x H' e r hr) p N hN) fun H' p => by
    obtain ⟨acc, h1, h2, h3⟩ := p.done
    exact k P acc H' h3 hP h1 h2⟩
theorem c_lcR2 {β : Type} {τ : Rep K β} {m n : Int} {f : Int → Option (Option β)} {ys : List β} {j : Nat} (ha : VA tr σ H [.int m, .int n]) (hj : gR2 m n) (h : compO f (rangeI m (n - m).toNat) = some ys)
    (turn : ∀ x H', Same H H' → ∀ r, f x = some r → ∃ b, Ans tt (σ.set j (some (.int x))) H' b ∧ (b = true → ∃ v y, r = some y ∧ Val te (σ.set j (some (.int x))) H' v ∧ τ.R S v y) ∧ (b = false → r = none))
    (k : ∀ p ws H', Same H H' → H p = none → H' p = some (.lst ws) → RL τ S ws ys → Q (.ref p) H') : tLc (iRng2 tr) (gName j) tt te [j] σ H Q :=
  ha _ ⟨m, n, rfl, hj, fun P hP => turnsC_range (CPv τ S H P f ys) (CPv.start hP h) (fun x xs H' p N hN => CPv.turn hP rfl (fun H' e r hr => turn x H' e r hr) p N hN) fun H' p => by
    obtain ⟨acc, h1, h2, h3⟩ := p.done
    exact k P acc H' h3 hP h1 h2⟩
theorem c_lcL {α β : Type} {τ : Rep K β} {R : V → α → Prop} {a : Addr} {us : List V} {xs : List α} {f : α → Option (Option β)} {ys : List β} {j : Nat} (ha : Val tl σ H (.ref a)) (hq : SqL K H a us) (hp : Paired R us xs) (h : compO f xs = some ys)
    (turn : ∀ w x H', R w x → Same H H' → ∀ r, f x = some r → ∃ b, Ans tt (σ.set j (some w)) H' b ∧ (b = true → ∃ v y, r = some y ∧ Val te (σ.set j (some w)) H' v ∧ τ.R S v y) ∧ (b = false → r = none))
    (k : ∀ p ws H', Same H H' → H p = none → H' p = some (.lst ws) → RL τ S ws ys → Q (.ref p) H') : tLc (iList K tl) (gName j) tt te [j] σ H Q :=
  ha _ ⟨a, rfl, ⟨us, hq⟩, fun P hP => turnsC_list hp (CPv τ S H P f ys) (CPv.start hP h) (fun zs H' p => by
    obtain ⟨_, _, _, _, _, e, _⟩ := p
    exact e.seq hq) (fun w x xs H' rw_ p N hN => CPv.turn hP rfl (fun H' e r hr => turn w x H' rw_ e r hr) p N hN) fun H' p => by
    obtain ⟨acc, h1, h2, h3⟩ := p.done
    exact k P acc H' h3 hP h1 h2⟩
theorem a_yes {b : Bool} (h : b = true) : Ans tYes σ H b := by subst h; exact fun _ q => q

/-! ### further forms of loops -/
theorem z_forLE {g : TG} {tb : TS} (h : tl σ H fun x H1 => tSeq (tFor (iList K (tC x)) g tb) tu D σ H1) : tSeq (tFor (iList K tl) g tb) tu D σ H := h
theorem c_lcLE {g : TG} {vs : List Nat} (h : tl σ H fun x H1 => tLc (iList K (tC x)) g tt te vs σ H1 Q) : tLc (iList K tl) g tt te vs σ H Q := h
theorem v_ixq2 {α : Type} {τ : Rep K α} {xs : List α} {q : α} {i : Int} (e : Same S H) (hr : (qQ τ).R S v xs) (hx : atI xs i = some q) : ∃ w, (∀ {σ : L2.St} {ta tb : TE}, Val ta σ H v → Val tb σ H (.int i) → Val (tOp (rIxL K) ta tb) σ H w) ∧ τ.R S w q := by
  obtain ⟨a, ws, rfl, h2, h3⟩ := hr
  obtain ⟨w, ew, r⟩ := h3.at hx
  exact ⟨w, fun ha hb Q z => ha _ (hb _ ⟨a, ws, i, w, rfl, rfl, e.seq h2, ew, z⟩), r⟩
theorem v_ixc {α : Type} {τ : Rep K α} {l : Addr} {ws : List V} {xs : List α} {q : α} {i : Int} (hl : H l = some (.lst ws)) (hr : RL τ S ws xs) (hx : atI xs i = some q) : ∃ w, (∀ {σ : L2.St} {ta tb : TE}, Val ta σ H (.ref l) → Val tb σ H (.int i) → Val (tOp (rIxL K) ta tb) σ H w) ∧ τ.R S w q := by
  obtain ⟨w, ew, r⟩ := hr.at hx
  exact ⟨w, fun ha hb Q z => ha _ (hb _ ⟨l, ws, i, w, rfl, rfl, SqL.of hl, ew, z⟩), r⟩
/-- a part of a tuple -/
theorem v_p20 {α β : Type} {τ : Rep K α} {υ : Rep K β} {p : α × β} (e : Same S H) (hr : (qT2 τ υ).R S v p) : ∃ w, (∀ {σ : L2.St} {ta tb : TE}, Val ta σ H v → Val tb σ H (.int 0) → Val (tOp (rIxT K) ta tb) σ H w) ∧ τ.R S w p.1 := by
  obtain ⟨a, w1, w2, rfl, h2, h3, _⟩ := hr
  exact ⟨w1, fun ha hb Q q => ha _ (hb _ ⟨a, _, 0, _, rfl, rfl, SqT.of (e _ _ h2), rfl, q⟩), h3⟩
theorem v_p21 {α β : Type} {τ : Rep K α} {υ : Rep K β} {p : α × β} (e : Same S H) (hr : (qT2 τ υ).R S v p) : ∃ w, (∀ {σ : L2.St} {ta tb : TE}, Val ta σ H v → Val tb σ H (.int 1) → Val (tOp (rIxT K) ta tb) σ H w) ∧ υ.R S w p.2 := by
  obtain ⟨a, w1, w2, rfl, h2, _, h3⟩ := hr
  exact ⟨w2, fun ha hb Q q => ha _ (hb _ ⟨a, _, 1, _, rfl, rfl, SqT.of (e _ _ h2), rfl, q⟩), h3⟩
theorem eun2 {α β γ : Type} {f : α → β → γ} {a : α} {b : β} {r : γ} (h : un2 f (a, b) = r) : f a b = r := h
theorem eun3 {α β γ δ : Type} {f : α → β → γ → δ} {a : α} {b : β} {c : γ} {r : δ} (h : un3 f (a, b, c) = r) : f a b c = r := h
theorem eun4 {α β γ δ ε : Type} {f : α → β → γ → δ → ε} {a : α} {b : β} {c : γ} {d : δ} {r : ε} (h : un4 f (a, b, c, d) = r) : f a b c d = r := h
theorem eun5 {α β γ δ ε ζ : Type} {f : α → β → γ → δ → ε → ζ} {a : α} {b : β} {c : γ} {d : δ} {e : ε} {r : ζ} (h : un5 f (a, b, c, d, e) = r) : f a b c d e = r := h
theorem OP.nameW {σ : Type} {c : σ → Option Bool} {f : σ → Option σ} {n : Nat} {s : σ} {A : σ → Prop} (h : OP (Z.whileO c f n s) A) : ∃ C F, C = c ∧ F = f ∧ OP (Z.whileO C F n s) A := ⟨c, f, rfl, rfl, h⟩
theorem OP.nameX {σ ρ : Type} {c : σ → Option Bool} {f : σ → Option (σ ⊕ ρ)} {n : Nat} {s : σ} {A : σ ⊕ ρ → Prop} (h : OP (Z.whileR c f n s) A) : ∃ C F, C = c ∧ F = f ∧ OP (Z.whileR C F n s) A := ⟨c, f, rfl, rfl, h⟩
theorem fcall {σ τ : Type} {F f : σ → Option τ} {s : σ} {r : τ} (e : F = f) (h : F s = some r) : f s = some r := e ▸ h
theorem nn_t2 {α β : Type} {τ : Rep K α} {υ : Rep K β} {p : α × β} (hr : (qT2 τ υ).R H v p) : v ≠ .non := by
  obtain ⟨a, w1, w2, rfl, _⟩ := hr
  exact fun z => nomatch z
theorem nn_l {α : Type} {τ : Rep K α} {xs : List α} (hr : (qL τ).R H v xs) : v ≠ .non := by
  obtain ⟨a, ws, rfl, _⟩ := hr
  exact fun z => nomatch z
theorem v_isiO {T n : String} {α : Type} {τ : Rep K α} {o : Option α} (ha : Val ta σ H v) (hr : (qOpt τ).R H v o) (ty : ∀ {y : α}, τ.R H v y → TyX K H v (.type T)) (hk : kitB T n = some true) (hn : kitB "NoneType" n = some false) : Val (tCB (rIsi K) (tCons ta (tCons (tC (.ty n)) tNil))) σ H (.bl o.isSome) := by
  cases o with
  | none =>
    cases (show v = .non from hr)
    exact v_isi ha ty_non hn
  | some y => exact v_isi ha (ty hr.2) hk
theorem v_isiN {T n : String} {α : Type} {τ : Rep K α} {o : Option α} (ha : Val ta σ H v) (hr : (qOpt τ).R H v o) (ty : ∀ {y : α}, τ.R H v y → TyX K H v (.type T)) (hk : kitB T n = some false) (hn : kitB "NoneType" n = some false) : Val (tCB (rIsi K) (tCons ta (tCons (tC (.ty n)) tNil))) σ H (.bl false) := by
  cases o with
  | none =>
    cases (show v = .non from hr)
    exact v_isi ha ty_non hn
  | some y => exact v_isi ha (ty hr.2) hk
end
end Z

namespace Z
open PySem PySem.Spec PyProof.Rows L2

/-! ### answers -/
theorem OP.fin {α : Type} {A F : α → Prop} {x : α} (hA : A = F) (h : OP (Option.some x) A) : F x := hA ▸ h
def EXP {α : Type} (r : Except Nat α) (P : α → Prop) (N : Nat → Prop) : Prop := match r with
  | .ok x => P x
  | .error c => N c
theorem EXP.ok {α : Type} {x : α} {P : α → Prop} {N : Nat → Prop} (h : EXP (.ok x) P N) : P x := h
theorem EXP.er {α : Type} {c : Nat} {P : α → Prop} {N : Nat → Prop} (h : EXP (.error c) P N) : N c := h
theorem LM0 {P : Addr → Prop} : ∀ l ∈ ([] : List Addr), P l := fun _ h => nomatch h
theorem LM1 {P : Addr → Prop} {a : Addr} {as : List Addr} (h : P a) (t : ∀ l ∈ as, P l) : ∀ l ∈ a :: as, P l := fun l q => by
  cases q with
  | head => exact h
  | tail _ q => exact t l q
theorem NM0 {a : Addr} : a ∉ ([] : List Addr) := fun h => nomatch h
theorem NM1 {a b : Addr} {bs : List Addr} (h : a ≠ b) (t : a ∉ bs) : a ∉ b :: bs := fun q => by
  cases q with
  | head => exact h rfl
  | tail _ q => exact t q

section
variable {K : PySem.W.Frag} {σ σ' : L2.St} {S S1 H S0 H0 : Hp} {L L' : List Addr} {ta tb te tl : TE} {t u tc : TT} {tr : TA} {x y z v : V} {i j : Int} {b c : Bool} {Q : VK} {D : Ends} {t1 t2 tu : TS} {g : TG} {vs ws : List V}

/-! ### lists that are only read -/
/-- a list written by the top -/
def Wr (K : PySem.W.Frag) (a : Addr) (xs : List V) : Prop := ∃ (o : Obj) (its : Array Value) (n : Nat), K.lookup a = some o ∧ o.cls = .type "list" ∧ o.dict = none ∧ o.data = .seq its n ∧ its.size ≤ sizeLine ∧ Vals xs its.toList
def StL (K : PySem.W.Frag) (L : List Addr) (H0 : Hp) (a : Addr) (ws : List V) : Prop := ((H0 a = some (.lst ws) ∨ ∃ o, H0 a = some (.frz o (.lst ws))) ∧ a ∉ L) ∨ Wr K a ws
theorem StL.sq {a : Addr} (h : StL K L H0 a ws) : SqL K H0 a ws := by
  rcases h with ⟨h | ⟨o, h⟩, _⟩ | h
  · exact .inl (.inl h)
  · exact .inl (.inr ⟨o, h⟩)
  · exact .inr h
theorem Grow.st {a : Addr} (g : Grow L S0 H0 S H) (h : StL K L H0 a ws) : StL K L H a ws := by
  rcases h with ⟨h | ⟨o, h⟩, n⟩ | h
  · exact .inl ⟨.inl (g.hh _ _ n h), n⟩
  · exact .inl ⟨.inr ⟨o, g.hh _ _ n h⟩, n⟩
  · exact .inr h
theorem Grow.sq {a : Addr} (g : Grow L S0 H0 S H) (h : StL K L H0 a ws) : SqL K H a ws := (g.st h).sq
theorem StL.to {a : Addr} (h : StL K L H0 a ws) (g : Grow L S0 H0 S H) (hL : ∀ l ∈ L', H0 l = none ∨ l ∈ L) : StL K L' H a ws := by
  rcases h with ⟨q, n⟩ | q
  · rcases g.st (.inl ⟨q, n⟩ : StL K L H0 a ws) with ⟨q', _⟩ | q'
    · refine .inl ⟨q', fun m => ?_⟩
      rcases hL a m with z | z
      · rcases q with q | ⟨o, q⟩
        · rw [z] at q; cases q
        · rw [z] at q; cases q
      · exact n z
    · exact .inr q'
  · exact .inr q
def RdL {α : Type} (τ : Rep K α) (L : List Addr) (S H0 : Hp) (v : V) (x : List α) : Prop := ∃ a ws, v = .ref a ∧ StL K L H0 a ws ∧ RL τ S ws x
/-- what a loop, a slice .. reads -/
def LS {α : Type} (τ : Rep K α) (S H : Hp) (v : V) (x : List α) : Prop := ∃ a ws, v = .ref a ∧ SqL K H a ws ∧ RL τ S ws x
def LP {α : Type} (τ : Rep K α) (S H : Hp) (v : V) (x : List α) : Prop := ∃ a ws, v = .ref a ∧ H a = some (.lst ws) ∧ RL τ S ws x
section
variable {α : Type} {τ : Rep K α} {xs ys : List α} {l : Addr} {o o' : HO}
theorem RdL.mono (e : Same S S1) (h : RdL τ L S H0 v xs) : RdL τ L S1 H0 v xs := by
  obtain ⟨a, ws, rfl, h1, h2⟩ := h
  exact ⟨a, ws, rfl, h1, RL.mono e h2⟩
theorem RdL.q (g : Grow L S0 H0 S H) (h : RdL τ L S H0 v xs) : (qQ τ).R H v xs := by
  obtain ⟨a, ws, rfl, h1, h2⟩ := h
  exact ⟨a, ws, rfl, g.sq h1, RL.mono g.sh h2⟩
theorem RdL.to (g : Grow L S0 H0 S H) (h : RdL τ L S H0 v xs) (hL : ∀ l ∈ L', H0 l = none ∨ l ∈ L) : RdL τ L' S H v xs := by
  obtain ⟨a, ws, rfl, h1, h2⟩ := h
  exact ⟨a, ws, rfl, h1.to g hL, h2⟩
theorem RdL.ofL (e : Same S H) (h : (qL τ).R S v xs) (hL : ∀ l ∈ L', S l = none) : RdL τ L' S H v xs := by
  obtain ⟨a, ws, rfl, h1, h2⟩ := h
  exact ⟨a, ws, rfl, .inl ⟨.inl (e _ _ h1), fun m => by rw [hL a m] at h1; cases h1⟩, h2⟩
theorem RdL.ofC (h : H l = some (.lst ws)) (n : l ∉ L') (r : RL τ S ws xs) : RdL τ L' S H (.ref l) xs := ⟨l, ws, rfl, .inl ⟨.inl h, n⟩, r⟩
theorem RdL.start {a : Addr} (h : SqL K H a ws) (r : RL τ S ws xs) : RdL τ [] S H (.ref a) xs := by
  refine ⟨a, ws, rfl, ?_, r⟩
  rcases h with (h | ⟨o, h⟩) | h
  · exact .inl ⟨.inl h, NM0⟩
  · exact .inl ⟨.inr ⟨o, h⟩, NM0⟩
  · exact .inr h
theorem RdL.ofQ (e : Same S H) (h : (qQ τ).R S v xs) (_ : ∀ l ∈ ([] : List Addr), S l = none) : RdL τ [] S H v xs := by
  obtain ⟨a, ws, rfl, h1, h2⟩ := h
  exact RdL.start (e.seq h1) h2
theorem qL_of (h : H l = some (.lst ws)) (r : RL τ H ws xs) : (qL τ).R H (.ref l) xs := ⟨l, ws, rfl, h, r⟩
theorem LS.ofL (e : Same S H) (h : (qL τ).R S v xs) : LS τ S H v xs := by
  obtain ⟨a, ws, rfl, h1, h2⟩ := h
  exact ⟨a, ws, rfl, SqL.of (e _ _ h1), h2⟩
theorem LS.ofQ (e : Same S H) (h : (qQ τ).R S v xs) : LS τ S H v xs := by
  obtain ⟨a, ws, rfl, h1, h2⟩ := h
  exact ⟨a, ws, rfl, e.seq h1, h2⟩
theorem LS.rd (g : Grow L S0 H0 S H) (h : RdL τ L S H0 v xs) : LS τ S H v xs := by
  obtain ⟨a, ws, rfl, h1, h2⟩ := h
  exact ⟨a, ws, rfl, g.sq h1, h2⟩
theorem LS.cel (h : H l = some (.lst ws)) (r : RL τ S ws xs) : LS τ S H (.ref l) xs := ⟨l, ws, rfl, SqL.of h, r⟩
theorem LP.ofL (e : Same S H) (h : (qL τ).R S v xs) : LP τ S H v xs := by
  obtain ⟨a, ws, rfl, h1, h2⟩ := h
  exact ⟨a, ws, rfl, e _ _ h1, h2⟩
theorem LP.cel (h : H l = some (.lst ws)) (r : RL τ S ws xs) : LP τ S H (.ref l) xs := ⟨l, ws, rfl, h, r⟩
theorem c_freeze (g : Grow L S0 H0 S H) (c : Cel L H0 S H l (.lst ws)) (z : H0 l = none) (r : RL τ S ws xs) :
    ∃ S1, Grow L S0 H0 S1 H ∧ Same S S1 ∧ (qL τ).R S1 (.ref l) xs ∧ ∀ l' o', l' ≠ l → Cel L H0 S H l' o' → Cel L H0 S1 H l' o' :=
  ⟨_, g.freeze c z, same_upd c.s, ⟨l, ws, rfl, upd_same, RL.mono (same_upd c.s) r⟩, fun _ _ n c' => c'.freeze n⟩
theorem look_none {ns : List Str} {fs : List (Str × V)} {m : Str} (e : fs.map (·.1) = ns) (h : m ∉ ns) : fs.lookup m = none := by
  subst e
  induction fs with
  | nil => rfl
  | cons p fs ih =>
    obtain ⟨k, w⟩ := p
    rw [List.map_cons, List.mem_cons, not_or] at h
    rw [List.lookup_cons]
    have : (m == k) = false := beq_eq_false_iff_ne.mpr h.1
    rw [this]
    exact ih h.2

/-! ### values -/
theorem nn_q (h : (qQ τ).R H v xs) : v ≠ .non := by
  obtain ⟨a, ws, rfl, _⟩ := h
  exact fun z => nomatch z
theorem ty_q (h : (qQ τ).R H v xs) : TyX K H v (.type "list") := by
  obtain ⟨a, ws, rfl, h, _⟩ := h
  rcases h with (h | ⟨o, h⟩) | ⟨o, its, n, h, c, _⟩
  · exact .base (.lst h)
  · exact .base (.frz h)
  · exact .kList h c
theorem dec_nn (h : v ≠ .non) : decide (v = .non) = false := decide_eq_false h
theorem dec_nnN (h : v ≠ .non) : (!decide (v = .non)) = true := by rw [decide_eq_false h]; rfl
theorem ty_scI (h : (qI (K := K)).R H v i) : TyX K H v (.type "int") := by cases h; exact ty_int
theorem ty_scB (h : (qB (K := K)).R H v b) : TyX K H v (.type "bool") := by cases h; exact ty_bl
theorem ty_scS {s : Str} (h : (qS (K := K)).R H v s) : TyX K H v (.type "str") := by cases h; exact ty_str
theorem v_catS {s t : Str} (ha : Val ta σ H (.str s)) (hb : Val tb σ H (.str t)) (hz : s.length + t.length ≤ 16777216) : Val (tOp (fun x y H Q => ∃ i j, x = .str i ∧ y = .str j ∧ i.length + j.length ≤ sizeLine ∧ Q (.str (i ++ j)) H) ta tb) σ H (.str (s ++ t)) := fun Q q => ha _ (hb _ ⟨s, t, rfl, rfl, hz, q⟩)
theorem e_catS {s t : Str} (hz : s.length + t.length ≤ 16777216) (q : Q (.str (s ++ t)) H) : (fun (x y : V) (H : Hp) (Q : VK) => ∃ i j, x = .str i ∧ y = .str j ∧ i.length + j.length ≤ sizeLine ∧ Q (.str (i ++ j)) H) (.str s) (.str t) H Q := ⟨s, t, rfl, rfl, hz, q⟩
theorem v_lenS {s : Str} (hz : s.length ≤ 16777216) (ha : Val ta σ H (.str s)) : Val (tCB (fun xs H Q => ∃ z, xs = [.str z] ∧ z.length ≤ sizeLine ∧ Q (.int z.length) H) (tCons ta tNil)) σ H (.int (s.length : Int)) := fun Q q => ha _ ⟨s, rfl, hz, q⟩
theorem e_len (h : (qQ τ).R H v xs) (q : Q (.int (xs.length : Int)) H) : rLenS K [v] H Q := by
  obtain ⟨a, ws, rfl, h2, h3⟩ := h
  exact ⟨a, ws, rfl, .inl h2, by rw [h3.length]; exact q⟩
theorem ints_of {xs : List Int} : ∀ {ws : List V}, RL (K := K) qI H ws xs → ws = xs.map V.int := fun h => RL.eqmap V.int (fun _ _ q => q) h
theorem e_sum {xs : List Int} (h : (qQ (K := K) qI).R H v xs) (q : Q (.int xs.sum) H) : rSum K [v] H Q := by
  obtain ⟨a, ws, rfl, h2, h3⟩ := h
  exact ⟨a, xs, rfl, by rw [← ints_of h3]; exact h2, q⟩
theorem v_sum {xs : List Int} (ha : Val ta σ H v) (h : (qQ (K := K) qI).R H v xs) : Val (tCB (rSum K) (tCons ta tNil)) σ H (.int xs.sum) := fun Q q => ha _ (e_sum h q)
theorem e_isN (e : decide (x = .non) = b) (q : Q (.bl b) H) : rIsN x .non H Q := ⟨rfl, by rw [e]; exact q⟩
theorem e_notN (e : (!decide (x = .non)) = b) (q : Q (.bl b) H) : rNotN x .non H Q := ⟨rfl, by rw [e]; exact q⟩
/-- pairs of whole numbers in order -/
def ltP2 (p q : Int × Int) : Bool := SrtO.lexB p q
theorem lex2 (p q : Int × Int) : HT.lexLt [p.1, p.2] [q.1, q.2] = ltP2 p q := by
  unfold ltP2 SrtO.lexB
  rw [HT.lexLt_cons, HT.lexLt_cons, HT.lexLt_nil_nil]
  by_cases h1 : p.1 = q.1
  · rw [if_pos h1, if_pos h1]
    by_cases h2 : p.2 = q.2
    · rw [if_pos h2, h2]; simp
    · rw [if_neg h2]
  · rw [if_neg h1, if_neg h1]
def rPair (f : Int × Int → Int × Int → Bool) (K : PySem.W.Frag) : R2 := fun x y H Q => ∃ (a b : Addr) (p q : Int × Int), x = .ref a ∧ y = .ref b ∧ SqT K H a [.int p.1, .int p.2] ∧ SqT K H b [.int q.1, .int q.2] ∧ Q (.bl (f p q)) H
theorem op_ltP {X : Cx} (hu : X.A.units < cLine) : OpR X (compareOp .Lt) (rPair ltP2 X.K) := fun pins s σ H x y v u Q I rx ry h => by
  obtain ⟨a, b, p, q, rfl, rfl, ha, hb, k⟩ := h
  exact op_ltT hu pins s σ H _ _ v u Q I rx ry ⟨a, b, [p.1, p.2], [q.1, q.2], rfl, rfl, ha, hb, by rw [lex2]; exact k⟩
theorem op_geP {X : Cx} (hu : X.A.units < cLine) : OpR X (compareOp .GtE) (rPair (fun p q => !ltP2 p q) X.K) := by
  intro pins s σ H x y v u Q I rx ry h
  obtain ⟨a, b, p, q, rfl, rfl, ha, hb, k⟩ := h
  cases rx
  cases ry
  obtain ⟨its, r1, p1, _⟩ := I.tuple ha
  obtain ⟨its2, r2, p2, _⟩ := I.tuple hb
  obtain ⟨ns, ens⟩ : ∃ ns, ns = [p.1, p.2] := ⟨_, rfl⟩
  obtain ⟨ms, ems⟩ : ∃ ms, ms = [q.1, q.2] := ⟨_, rfl⟩
  have i1 : IntsAre its ns := by rw [ens]; exact Vals.ints (ns := [p.1, p.2]) r1
  have i2 : IntsAre its2 ms := by rw [ems]; exact Vals.ints (ns := [q.1, q.2]) r2
  have e1 : its.toArray.size = ns.length := by rw [List.size_toArray]; exact i1.length
  have e2 : its2.toArray.size = ms.length := by rw [List.size_toArray]; exact i2.length
  have at1 : ∀ j (h1 : j < its.toArray.size), ∃ t, its.toArray[j] = .int (ns.getD j 0) t := fun j h1 => PyProof.Rows.IntsAre.int_at i1 _ _ (by simp at h1; simp [h1])
  have at2 : ∀ j (h1 : j < its2.toArray.size), ∃ t, its2.toArray[j] = .int (ms.getD j 0) t := fun j h1 => PyProof.Rows.IntsAre.int_at i2 _ _ (by simp at h1; simp [h1])
  have R := Ob.RcOp.tuples_ge (A := X.A) (s := s) (e := fun j => decide (ns.getD j 0 = ms.getD j 0)) (r := fun j => decide (ms.getD j 0 ≤ ns.getD j 0)) p1 p2 hu (fun j h1 h2 => by
    obtain ⟨t, et⟩ := at1 j h1
    obtain ⟨t', et'⟩ := at2 j h2
    rw [et, et']
    have z : (ns.getD j 0 == ms.getD j 0) = decide (ns.getD j 0 = ms.getD j 0) := by
      by_cases q : ns.getD j 0 = ms.getD j 0
      · rw [decide_eq_true q]; exact beq_iff_eq.mpr q
      · rw [decide_eq_false q]; exact beq_eq_false_iff_ne.mpr q
    rw [← z]
    exact SeqAt.EqAt.int_int _ _ _ _) (fun j h1 h2 _ => by
    obtain ⟨t, et⟩ := at1 j h1
    obtain ⟨t', et'⟩ := at2 j h2
    rw [et, et']
    exact Ob.RcOp.ge_int _ _ _ _)
  rw [e1, e2] at R
  have key : Ob.lexAt (fun j => decide (ns.getD j 0 = ms.getD j 0)) (fun j => decide (ms.getD j 0 ≤ ns.getD j 0)) (decide (ns.length ≥ ms.length)) 0 (min ns.length ms.length) = !ltP2 p q := by
    subst ens; subst ems
    show Ob.lexAt _ _ _ 0 2 = _
    rw [Ob.lexAt_succ, Ob.lexAt_succ, Ob.lexAt_zero]
    unfold ltP2 SrtO.lexB
    simp only [List.getD_cons_zero, List.getD_cons_succ, decide_eq_true_iff]
    by_cases h1 : p.1 = q.1
    · rw [if_pos h1, if_pos h1]
      by_cases h2 : p.2 = q.2
      · rw [if_pos h2, h2]; simp
      · rw [if_neg h2]
        have : decide (q.2 ≤ p.2) = !decide (p.2 < q.2) := by rw [← decide_not]; exact decide_eq_decide.mpr (by omega)
        rw [this]
    · rw [if_neg h1, if_neg h1]
      have : decide (q.1 ≤ p.1) = !decide (p.1 < q.1) := by rw [← decide_not]; exact decide_eq_decide.mpr (by omega)
      rw [this]
  rw [key] at R
  have z : wpAny (model X.prog X.w) X.A (compareOp .GtE (.ref a) (.ref b)) (EP X pins σ Q) X.xe s := R X.prog X.w X.xe (EP X pins σ Q) ⟨.bl _, H, I, rfl, k⟩
  exact z
theorem e_P2 {f : Int × Int → Int × Int → Bool} {p q : Int × Int} (h1 : (qT2 (K := K) qI qI).R H x p) (h2 : (qT2 (K := K) qI qI).R H y q) (k : Q (.bl (f p q)) H) : rPair f K x y H Q := by
  obtain ⟨a, w1, w2, rfl, ha, rfl, rfl⟩ := h1
  obtain ⟨b, u1, u2, rfl, hb, rfl, rfl⟩ := h2
  exact ⟨a, b, p, q, rfl, rfl, SqT.of ha, SqT.of hb, k⟩
theorem v_P2 {f : Int × Int → Int × Int → Bool} {p q : Int × Int} (ha : Val ta σ H x) (hb : Val tb σ H y) (h1 : (qT2 (K := K) qI qI).R H x p) (h2 : (qT2 (K := K) qI qI).R H y q) : Val (tOp (rPair f K) ta tb) σ H (.bl (f p q)) := fun Q k => ha _ (hb _ (e_P2 h1 h2 k))

/-! ### new lists -/
theorem l_slice {lo hi : Option Int} (h : LS τ S H v xs) (k : ∀ p ws H', Same H H' → H p = none → H' p = some (.lst ws) → RL τ S ws (cutI xs lo hi) → Q (.ref p) H') : rSlL K v lo hi H Q := by
  obtain ⟨a, ws, rfl, h2, h3⟩ := h
  exact ⟨a, ws, rfl, h2, fun l hl => k l _ _ (same_upd hl) hl upd_same (h3.cut lo hi)⟩
theorem l_list (h : LS τ S H v xs) (k : ∀ p ws H', Same H H' → H p = none → H' p = some (.lst ws) → RL τ S ws xs → Q (.ref p) H') :
    ∃ p ys, [v] = [.ref p] ∧ (SqL K H p ys ∨ SqT K H p ys) ∧ ∀ l, H l = none → Q (.ref l) (upd H l (.lst ys)) := by
  obtain ⟨a, ws, rfl, h2, h3⟩ := h
  exact ⟨a, ws, rfl, .inl h2, fun l hl => k l ws _ (same_upd hl) hl upd_same h3⟩
theorem l_cat (h1 : LP τ S H x xs) (h2 : LP τ S H y ys) (hz : xs.length + ys.length ≤ 16777216) (k : ∀ p ws H', Same H H' → H p = none → H' p = some (.lst ws) → RL τ S ws (xs ++ ys) → Q (.ref p) H') : rCat x y H Q := by
  obtain ⟨a, ws, rfl, ha, ra⟩ := h1
  obtain ⟨b, us, rfl, hb, rb⟩ := h2
  exact ⟨a, b, ws, us, rfl, rfl, ha, hb, by rw [ra.length, rb.length]; exact hz, fun p hp => k p _ _ (same_upd hp) hp upd_same (ra.app rb)⟩
/-- rising, by insertion -/
def insB {β : Type} (lt : β → β → Bool) (x : β) : List β → List β
  | [] => [x]
  | y :: ys => if lt y x = true then y :: insB lt x ys else x :: y :: ys
def sortB {β : Type} (lt : β → β → Bool) : List β → List β
  | [] => []
  | x :: xs => insB lt x (sortB lt xs)
theorem insB_perm {β : Type} {lt : β → β → Bool} {x : β} : ∀ ys : List β, (insB lt x ys).Perm (x :: ys)
  | [] => .refl _
  | y :: ys => by
    unfold insB
    split
    · exact ((insB_perm ys).cons y).trans (.swap x y ys)
    · exact .refl _
theorem sortB_perm {β : Type} {lt : β → β → Bool} : ∀ xs : List β, (sortB lt xs).Perm xs
  | [] => .refl _
  | x :: xs => (insB_perm _).trans ((sortB_perm xs).cons x)
theorem insB_srt {β : Type} {lt : β → β → Bool} (asy : ∀ a b, lt a b = true → lt b a = false) (tr : ∀ a b c, lt b a = false → lt c b = false → lt c a = false) {x : β} : ∀ {ys : List β}, SrtO.Srtd lt ys → SrtO.Srtd lt (insB lt x ys)
  | [], _ => List.pairwise_singleton _ _
  | y :: ys, h => by
    unfold insB
    obtain ⟨h1, h2⟩ := List.pairwise_cons.mp h
    split
    · rename_i q
      refine List.pairwise_cons.mpr ⟨fun z hz => ?_, insB_srt asy tr h2⟩
      rcases List.mem_cons.mp ((insB_perm ys).mem_iff.mp hz) with rfl | hz
      · exact asy _ _ q
      · exact h1 z hz
    · rename_i q
      have q : lt y x = false := by cases e : lt y x <;> simp_all
      refine List.pairwise_cons.mpr ⟨fun z hz => ?_, h⟩
      rcases List.mem_cons.mp hz with rfl | hz
      · exact q
      · exact tr _ _ _ q (h1 z hz)
theorem sortB_srt {β : Type} {lt : β → β → Bool} (asy : ∀ a b, lt a b = true → lt b a = false) (tr : ∀ a b c, lt b a = false → lt c b = false → lt c a = false) : ∀ xs : List β, SrtO.Srtd lt (sortB lt xs)
  | [] => List.Pairwise.nil
  | x :: xs => insB_srt asy tr (sortB_srt asy tr xs)
/-- two rising lists of the same things are one, where neither-below is equal -/
theorem srt_uniq {β : Type} {lt : β → β → Bool} (tot : ∀ a b, lt a b = false → lt b a = false → a = b) : ∀ {xs ys : List β}, xs.Perm ys → SrtO.Srtd lt xs → SrtO.Srtd lt ys → xs = ys
  | [], ys, p, _, _ => (List.Perm.nil_eq p)
  | x :: xs, [], p, _, _ => absurd p.length_eq (by simp)
  | x :: xs, y :: ys, p, h1, h2 => by
    obtain ⟨a1, a2⟩ := List.pairwise_cons.mp h1
    obtain ⟨b1, b2⟩ := List.pairwise_cons.mp h2
    have e : x = y := by
      rcases List.mem_cons.mp (p.mem_iff.mp List.mem_cons_self) with e | hx
      · exact e
      · rcases List.mem_cons.mp (p.mem_iff.mpr List.mem_cons_self) with e | hy
        · exact e.symm
        · exact tot x y (b1 x hx) (a1 y hy)
    subst e
    rw [srt_uniq tot (p.cons_inv) a2 b2]
abbrev sortP (xs : List (Int × Int)) : List (Int × Int) := sortB ltP2 xs
abbrev ltI (a b : Int) : Bool := decide (a < b)
abbrev sortI (xs : List Int) : List Int := sortB ltI xs
theorem ltP2_iff {p q : Int × Int} : ltP2 p q = true ↔ p.1 < q.1 ∨ (p.1 = q.1 ∧ p.2 < q.2) := SrtO.lexB_iff
theorem ltP2_no {p q : Int × Int} : ltP2 p q = false ↔ ¬ (p.1 < q.1 ∨ (p.1 = q.1 ∧ p.2 < q.2)) := SrtO.lexB_no
theorem ltP2_tot (a b : Int × Int) (h1 : ltP2 a b = false) (h2 : ltP2 b a = false) : a = b := by
  rw [ltP2_no] at h1 h2
  exact Prod.ext (by omega) (by omega)
theorem ltP2_asy (a b : Int × Int) (h : ltP2 a b = true) : ltP2 b a = false := by
  rw [ltP2_iff] at h
  rw [ltP2_no]; omega
theorem ltP2_tr (a b c : Int × Int) (h1 : ltP2 b a = false) (h2 : ltP2 c b = false) : ltP2 c a = false := by
  rw [ltP2_no] at h1 h2 ⊢; omega
theorem ltI_tot (a b : Int) (h1 : ltI a b = false) (h2 : ltI b a = false) : a = b := by
  have := of_decide_eq_false h1
  have := of_decide_eq_false h2
  omega
theorem ltI_asy (a b : Int) (h : ltI a b = true) : ltI b a = false := by
  have := of_decide_eq_true h
  exact decide_eq_false (by omega)
theorem ltI_tr (a b c : Int) (h1 : ltI b a = false) (h2 : ltI c b = false) : ltI c a = false := by
  have := of_decide_eq_false h1
  have := of_decide_eq_false h2
  exact decide_eq_false (by omega)
theorem RL.perm : ∀ {ws : List V} {xs : List α} {ws' : List V}, RL τ H ws xs → ws'.Perm ws → ∃ xs', xs'.Perm xs ∧ RL τ H ws' xs' := by
  intro ws xs ws' r p
  induction p generalizing xs with
  | nil => exact ⟨xs, .refl _, r⟩
  | cons x p ih =>
    cases r with
    | cons a b =>
      obtain ⟨ys, q, s⟩ := ih b
      exact ⟨_ :: ys, q.cons _, .cons a s⟩
  | swap x y l =>
    cases r with
    | cons a b =>
      cases b with
      | cons b c => exact ⟨_, .swap _ _ _, .cons b (.cons a c)⟩
  | trans p q ih1 ih2 =>
    obtain ⟨ys, q1, s1⟩ := ih2 r
    obtain ⟨zs, q2, s2⟩ := ih1 s1
    exact ⟨zs, q2.trans q1, s2⟩
/-- the pair that stands at a value -/
def pairAt (H : Hp) (v : V) : Int × Int := match v with
  | .ref a => match H a with
    | some (.tup [.int i, .int j]) => (i, j)
    | _ => (0, 0)
  | _ => (0, 0)
theorem pairAt_of {p : Int × Int} (h : (qT2 (K := K) qI qI).R H v p) : pairAt H v = p := by
  obtain ⟨a, w1, w2, rfl, h2, rfl, rfl⟩ := h
  simp only [pairAt, h2]
theorem l_sortP {xs : List (Int × Int)} (e : Same S H) (h : LS (qT2 (K := K) qI qI) S H v xs) (k : ∀ p ws H', Same H H' → H p = none → H' p = some (.lst ws) → RL (qT2 (K := K) qI qI) S ws (sortP xs) → Q (.ref p) H') : rSortedPO K [v] H Q := by
  obtain ⟨a, ws, rfl, h2, h3⟩ := h
  have all : ∀ {us : List V} {ys : List (Int × Int)}, RL (qT2 (K := K) qI qI) S us ys → us.map (pairAt H) = ys := by
    intro us ys r
    induction r with
    | nil => rfl
    | cons a _ ih => rw [List.map_cons, ih, pairAt_of (Rep.mono _ e a)]
  refine ⟨a, ws, pairAt H, rfl, h2, fun x hx => ?_, fun ys p h4 h5 hp => ?_⟩
  · clear all k h2
    revert hx
    induction h3 with
    | nil => intro hx; cases hx
    | cons a _ ih =>
      intro hx
      rcases List.mem_cons.mp hx with rfl | hx
      · have r := Rep.mono _ e a
        have z := pairAt_of r
        obtain ⟨t, w1, w2, rfl, ht, rfl, rfl⟩ := r
        exact ⟨t, rfl, by rw [z]; exact ht⟩
      · exact ih hx
  · obtain ⟨zs, q, r⟩ := RL.perm h3 h5.perm
    have ez : zs = ys.map (pairAt H) := (all r).symm
    have s1 : SrtO.Srtd ltP2 zs := by
      rw [ez]
      exact List.pairwise_map.mpr h4
    have : zs = sortP xs := srt_uniq ltP2_tot (q.trans (sortB_perm xs).symm) s1 (sortB_srt ltP2_asy ltP2_tr xs)
    exact k p ys _ (same_upd hp) hp upd_same (this ▸ r)
theorem l_sortI {xs : List Int} (e : Same S H) (h : LS (K := K) qI S H v xs) (k : ∀ p ws H', Same H H' → H p = none → H' p = some (.lst ws) → RL (K := K) qI S ws (sortI xs) → Q (.ref p) H') : rSortedI K [v] H Q := by
  obtain ⟨a, ws, rfl, h2, h3⟩ := h
  refine ⟨a, xs, rfl, by rw [← ints_of h3]; exact h2, fun ns p q h4 hp => ?_⟩
  have s1 : SrtO.Srtd ltI ns := h4.imp fun h => decide_eq_false (by omega)
  have : ns = sortI xs := srt_uniq ltI_tot (q.trans (sortB_perm xs).symm) s1 (sortB_srt ltI_asy ltI_tr xs)
  subst this
  exact k p _ _ (same_upd hp) hp upd_same (RL.map V.int (fun _ => rfl) _)
theorem c_sliceE {r : V → Option Int → Option Int → Hp → VK → Prop} {tl th : TO} (h : te σ H fun x H1 => tSl r (tC x) tl th σ H1 Q) : tSl r te tl th σ H Q := h
theorem c_slice2 {r : V → Option Int → Option Int → Hp → VK → Prop} {tl th : TO} {lo hi : Option Int} (hl : ∀ q : Option Int → Hp → Prop, q lo H → tl σ H q) (hh : ∀ q : Option Int → Hp → Prop, q hi H → th σ H q) (k : r v lo hi H Q) : tSl r (tC v) tl th σ H Q := hl _ (hh _ k)
/-! ### parts -/
theorem e_ix {q : α} (h : LS τ S H v xs) (hx : atI xs i = some q) (k : ∀ w, τ.R S w q → Q w H) : rIxL K v (.int i) H Q := by
  obtain ⟨a, ws, rfl, h2, h3⟩ := h
  obtain ⟨w, ew, r⟩ := h3.at hx
  exact ⟨a, ws, i, w, rfl, rfl, h2, ew, k w r⟩
theorem v_ixr {q : α} (g : Grow L S0 H0 S H) (h : RdL τ L S H0 v xs) (hx : atI xs i = some q) : ∃ w, (∀ {σ : L2.St} {ta tb : TE}, Val ta σ H v → Val tb σ H (.int i) → Val (tOp (rIxL K) ta tb) σ H w) ∧ τ.R S w q := by
  obtain ⟨a, ws, rfl, h2, h3⟩ := LS.rd g h
  obtain ⟨w, ew, r⟩ := h3.at hx
  exact ⟨w, fun ha hb Q z => ha _ (hb _ ⟨a, ws, i, w, rfl, rfl, h2, ew, z⟩), r⟩
end
section
variable {α β γ : Type} {τ : Rep K α} {υ : Rep K β} {φ : Rep K γ}
theorem e_p20 {p : α × β} (e : Same S H) (h : (qT2 τ υ).R S v p) (k : ∀ w, τ.R S w p.1 → Q w H) : rIxT K v (.int 0) H Q := by
  obtain ⟨a, w1, w2, rfl, h2, h3, h4⟩ := h
  exact ⟨a, _, 0, _, rfl, rfl, SqT.of (e _ _ h2), rfl, k w1 h3⟩
theorem e_p21 {p : α × β} (e : Same S H) (h : (qT2 τ υ).R S v p) (k : ∀ w, υ.R S w p.2 → Q w H) : rIxT K v (.int 1) H Q := by
  obtain ⟨a, w1, w2, rfl, h2, h3, h4⟩ := h
  exact ⟨a, _, 1, _, rfl, rfl, SqT.of (e _ _ h2), rfl, k w2 h4⟩
theorem g_tup2 {n : Nat} {p : α × β} {t1 t2 : TG} {q : L2.St → Hp → Prop} (hn : 2 = n) (e : Same S H) (h : (qT2 τ υ).R S v p) (k : ∀ w1 w2, τ.R S w1 p.1 → υ.R S w2 p.2 → t1 w1 σ H fun σ1 H1 => gCons t2 gNil [w2] σ1 H1 q) : gTup K n (gCons t1 (gCons t2 gNil)) v σ H q := by
  subst hn
  obtain ⟨a, w1, w2, rfl, h2, h3, h4⟩ := h
  exact ⟨a, _, rfl, SqT.of (e _ _ h2), rfl, w1, _, rfl, k w1 w2 h3 h4⟩
theorem g_tup3 {n : Nat} {p : α × β × γ} {t1 t2 t3 : TG} {q : L2.St → Hp → Prop} (hn : 3 = n) (e : Same S H) (h : (qT3 τ υ φ).R S v p) (k : ∀ w1 w2 w3, τ.R S w1 p.1 → υ.R S w2 p.2.1 → φ.R S w3 p.2.2 → t1 w1 σ H fun σ1 H1 => gCons t2 (gCons t3 gNil) [w2, w3] σ1 H1 q) : gTup K n (gCons t1 (gCons t2 (gCons t3 gNil))) v σ H q := by
  subst hn
  obtain ⟨a, w1, w2, w3, rfl, h2, h3, h4, h5⟩ := h
  exact ⟨a, _, rfl, SqT.of (e _ _ h2), rfl, w1, _, rfl, k w1 w2 w3 h3 h4 h5⟩
end
theorem g_next {t : TG} {u : TGs} {q : L2.St → Hp → Prop} (k : t v σ H fun σ' H' => u vs σ' H' q) : gCons t u (v :: vs) σ H q := ⟨v, vs, rfl, k⟩
theorem g_end {q : L2.St → Hp → Prop} (k : q σ H) : gNil [] σ H q := ⟨rfl, k⟩
/-- a new pair that is put apart at once -/
theorem g_pair {n : Nat} {p : Addr} {H2 : Hp} {t1 t2 : TG} {w1 w2 : V} {q : L2.St → Hp → Prop} (e : H2 = upd H p (.tup [w1, w2])) (h : H2 p = some (.tup [w1, w2])) (hn : 2 = n) (k : t1 w1 σ H2 fun σ1 H1 => gCons t2 gNil [w2] σ1 H1 q) : gTup K n (gCons t1 (gCons t2 gNil)) (.ref p) σ (upd H p (.tup [w1, w2])) q := by
  subst e; subst hn
  exact ⟨p, _, rfl, SqT.of h, rfl, w1, _, rfl, k⟩

/-! ### loops -/
section
variable {α β : Type} {R : V → α → Prop} {R2 : V → β → Prop} {a : Addr} {us : List V} {xs : List α} {ys : List β}
theorem paired_get {R : V → α → Prop} : ∀ {ws : List V} {xs : List α}, Paired R ws xs → ∀ {i : Nat} {w : V}, ws[i]? = some w → ∃ x, xs[i]? = some x ∧ R w x
  | _, _, .nil, i, w, h => by cases h
  | _, _, .cons r t, 0, w, h => by
    cases h
    exact ⟨_, rfl, r⟩
  | _, _, .cons r t, i + 1, w, h => paired_get t (i := i) h
/-- for x in reversed(xs) -/
theorem z_forV {ws : List V} {tl : TE} {g : TG} {tb : TS} (ha : Val tl σ H (.ref a)) (hp : Paired R ws xs) (Pv : List α → L2.St → Hp → Prop) (h0 : Pv xs.reverse σ H) (hl : ∀ ys σ' H', Pv ys σ' H' → SqL K H' a ws)
    (hs : ∀ w y ys σ' H', R w y → Pv (y :: ys) σ' H' → ∀ N : L2.St → Hp → Prop, (∀ σ'' H'', Pv ys σ'' H'' → N σ'' H'') → g w σ' H' fun σ2 H2 => tb { D with nx := N, ct := N, bk := tu D } σ2 H2) (hd : ∀ σ' H', Pv [] σ' H' → tu D σ' H') :
    tSeq (tFor (iRev K (tCons tl tNil)) g tb) tu D σ H := ha _ ⟨a, ws, rfl, hl _ _ _ h0, by
  have hlen := Paired.length hp
  refine ⟨fun i m σ H => m = ws.length - i ∧ i ≤ ws.length ∧ Pv (xs.reverse.drop i) σ H, ⟨_, rfl, Nat.zero_le _, h0⟩, ?_⟩
  rintro i m σ' H' ⟨rfl, hi, p⟩
  by_cases hlt : i < ws.length
  · have hj : ws.length - 1 - i < ws.length := by omega
    have hx : ws[ws.length - 1 - i]? = some ws[ws.length - 1 - i] := List.getElem?_eq_getElem hj
    refine .inr ⟨⟨hlt, ws, _, hl _ _ _ p, hx⟩, fun σ'' H'' => Pv (xs.reverse.drop (i + 1)) σ'' H'', fun σ'' H'' p' => ⟨ws.length - (i + 1), by omega, rfl, hlt, p'⟩, fun x H'' y => ?_⟩
    obtain ⟨rfl, f1⟩ := y
    have e1 := f1 ws (hl _ _ _ p)
    obtain ⟨q, hq, r⟩ := paired_get hp e1
    have e2 : xs.reverse[i]? = some q := by rw [List.getElem?_reverse (by omega), ← hlen]; exact hq
    have e3 : xs.reverse.drop i = q :: xs.reverse.drop (i + 1) := by
      have hi2 := (List.getElem?_eq_some_iff.mp e2)
      obtain ⟨h1, h2⟩ := hi2
      rw [List.drop_eq_getElem_cons h1, h2]
    rw [e3] at p
    exact hs x q _ σ' H'' r p _ fun _ _ z => z
  · refine .inl ⟨by show ws.length ≤ i; omega, hd σ' H' ?_⟩
    have : xs.reverse.drop i = [] := List.drop_eq_nil_of_le (by rw [List.length_reverse]; omega)
    rw [this] at p
    exact p⟩
def enumF {α : Type} : Nat → List α → List (Int × α)
  | _, [] => []
  | k, x :: xs => ((k : Nat), x) :: enumF (k + 1) xs
def enumI {α : Type} (xs : List α) : List (Int × α) := enumF 0 xs
theorem enumF_len : ∀ (xs : List α) (k : Nat), (enumF k xs).length = xs.length
  | [], _ => rfl
  | _ :: xs, k => congrArg (· + 1) (enumF_len xs (k + 1))
theorem enumF_get : ∀ (xs : List α) (k i : Nat) (x : α), xs[i]? = some x → (enumF k xs)[i]? = some (((k + i : Nat) : Int), x)
  | [], _, i, x, h => by cases h
  | y :: ys, k, 0, x, h => by cases h; rfl
  | y :: ys, k, i + 1, x, h => by
    have := enumF_get ys (k + 1) i x h
    rw [show k + (i + 1) = k + 1 + i by omega]
    exact this
/-- for i, x in enumerate(xs) -/
theorem z_forN {ws : List V} {tl : TE} {g : TG} {tb : TS} (ha : Val tl σ H (.ref a)) (hp : Paired R ws xs) (Pv : List (Int × α) → L2.St → Hp → Prop) (h0 : Pv (enumI xs) σ H) (hl : ∀ ys σ' H', Pv ys σ' H' → SqL K H' a ws)
    (hs : ∀ w (y : Int × α) ys σ' H', R w y.2 → Pv (y :: ys) σ' H' → ∀ N : L2.St → Hp → Prop, (∀ σ'' H'', Pv ys σ'' H'' → N σ'' H'') → ∀ t, H' t = none → g (.ref t) σ' (upd H' t (.tup [.int y.1, w])) fun σ2 H2 => tb { D with nx := N, ct := N, bk := tu D } σ2 H2) (hd : ∀ σ' H', Pv [] σ' H' → tu D σ' H') :
    tSeq (tFor (iEnum K (tCons tl tNil)) g tb) tu D σ H := ha _ ⟨a, ws, rfl, hl _ _ _ h0, by
  have hlen := Paired.length hp
  refine ⟨fun i m σ H => m = ws.length - i ∧ i ≤ ws.length ∧ Pv ((enumI xs).drop i) σ H, ⟨_, rfl, Nat.zero_le _, h0⟩, ?_⟩
  rintro i m σ' H' ⟨rfl, hi, p⟩
  by_cases hlt : i < ws.length
  · have hx : ws[i]? = some ws[i] := List.getElem?_eq_getElem hlt
    refine .inr ⟨⟨ws, _, hl _ _ _ p, hx⟩, fun σ'' H'' => Pv ((enumI xs).drop (i + 1)) σ'' H'', fun σ'' H'' p' => ⟨ws.length - (i + 1), by omega, rfl, hlt, p'⟩, fun x H'' y => ?_⟩
    obtain ⟨t, w, rfl, ht, rfl, f1⟩ := y
    have e1 := f1 ws (hl _ _ _ p)
    obtain ⟨q, hq, r⟩ := paired_get hp e1
    have e2 : (enumI xs)[i]? = some ((i : Int), q) := by
      have := enumF_get xs 0 i q hq
      rw [Nat.zero_add] at this
      exact this
    have e3 : (enumI xs).drop i = ((i : Int), q) :: (enumI xs).drop (i + 1) := by
      obtain ⟨h1, h2⟩ := List.getElem?_eq_some_iff.mp e2
      rw [List.drop_eq_getElem_cons h1, h2]
    rw [e3] at p
    exact hs w _ _ σ' H' r p _ (fun _ _ z => z) t ht
  · refine .inl ⟨⟨ws, hl _ _ _ p, by omega⟩, hd σ' H' ?_⟩
    have : (enumI xs).drop i = [] := List.drop_eq_nil_of_le (by unfold enumI; rw [enumF_len]; omega)
    rw [this] at p
    exact p⟩
/-- for x, y in zip(xs, ys) -/
theorem z_forZ {b : Addr} {ws vs : List V} {tl tl2 : TE} {g : TG} {tb : TS} (ha : Val tl σ H (.ref a)) (hb : Val tl2 σ H (.ref b)) (hp : Paired R ws xs) (hp2 : Paired R2 vs ys) (Pv : List (α × β) → L2.St → Hp → Prop) (h0 : Pv (List.zip xs ys) σ H) (hl : ∀ zs σ' H', Pv zs σ' H' → SqL K H' a ws ∧ SqL K H' b vs)
    (hs : ∀ w w2 (y : α × β) zs σ' H', R w y.1 → R2 w2 y.2 → Pv (y :: zs) σ' H' → ∀ N : L2.St → Hp → Prop, (∀ σ'' H'', Pv zs σ'' H'' → N σ'' H'') → ∀ t, H' t = none → g (.ref t) σ' (upd H' t (.tup [w, w2])) fun σ2 H2 => tb { D with nx := N, ct := N, bk := tu D } σ2 H2) (hd : ∀ σ' H', Pv [] σ' H' → tu D σ' H') :
    tSeq (tFor (iZip K (tCons tl (tCons tl2 tNil))) g tb) tu D σ H := ha _ (hb _ ⟨a, b, ws, vs, rfl, (hl _ _ _ h0).1, (hl _ _ _ h0).2, by
  have hlen := Paired.length hp
  have hlen2 := Paired.length hp2
  refine ⟨fun i m σ H => m = ws.length - i ∧ Pv ((List.zip xs ys).drop i) σ H, ⟨_, rfl, h0⟩, ?_⟩
  rintro i m σ' H' ⟨rfl, p⟩
  obtain ⟨qx, qy⟩ := hl _ _ _ p
  by_cases hlt : i < ws.length ∧ i < vs.length
  · obtain ⟨l1, l2⟩ := hlt
    refine .inr ⟨⟨ws, vs, _, _, qx, qy, List.getElem?_eq_getElem l1, List.getElem?_eq_getElem l2⟩, fun σ'' H'' => Pv ((List.zip xs ys).drop (i + 1)) σ'' H'', fun σ'' H'' p' => ⟨ws.length - (i + 1), by omega, rfl, p'⟩, fun x H'' y => ?_⟩
    obtain ⟨t, w, w2, rfl, ht, rfl, f1, f2⟩ := y
    obtain ⟨q, hq, r⟩ := paired_get hp (f1 ws qx)
    obtain ⟨q2, hq2, r2⟩ := paired_get hp2 (f2 vs qy)
    have e2 : (List.zip xs ys)[i]? = some (q, q2) := by rw [List.getElem?_zip_eq_some]; exact ⟨hq, hq2⟩
    have e3 : (List.zip xs ys).drop i = (q, q2) :: (List.zip xs ys).drop (i + 1) := by
      obtain ⟨h1, h2⟩ := List.getElem?_eq_some_iff.mp e2
      rw [List.drop_eq_getElem_cons h1, h2]
    rw [e3] at p
    exact hs w w2 _ _ σ' H' r r2 p _ (fun _ _ z => z) t ht
  · refine .inl ⟨⟨ws, vs, qx, qy, by omega⟩, hd σ' H' ?_⟩
    have : (List.zip xs ys).drop i = [] := List.drop_eq_nil_of_le (by rw [List.length_zip]; omega)
    rw [this] at p
    exact p⟩)
theorem z_forreversedE {g : TG} {tb : TS} (h : tl σ H fun x H1 => tSeq (tFor (iRev K (tCons (tC x) tNil)) g tb) tu D σ H1) : tSeq (tFor (iRev K (tCons tl tNil)) g tb) tu D σ H := h
theorem z_forenumerateE {g : TG} {tb : TS} (h : tl σ H fun x H1 => tSeq (tFor (iEnum K (tCons (tC x) tNil)) g tb) tu D σ H1) : tSeq (tFor (iEnum K (tCons tl tNil)) g tb) tu D σ H := h
theorem z_forzipE {tl2 : TE} {g : TG} {tb : TS} (h : tl σ H fun x H1 => tl2 σ H1 fun y H2 => tSeq (tFor (iZip K (tCons (tC x) (tCons (tC y) tNil))) g tb) tu D σ H2) : tSeq (tFor (iZip K (tCons tl (tCons tl2 tNil))) g tb) tu D σ H := h
end

/-! ### objects, calls -/
theorem v_fld {l C dx : Addr} {fs : List (Str × V)} {f : Str} {w : V} (ha : Val ta σ H (.ref l)) (h : H l = some (.ins C dx fs)) (c : Cls K C) (n : NoAttr K C f) (hf : fs.lookup f = some w) : Val (tFld K ta f) σ H w := fun Q q => ha _ ⟨l, C, dx, fs, w, rfl, h, c, n, hf, q⟩
theorem c_methO {l C dx : Addr} {fs : List (Str × V)} {m : Str} {sp : Sp} {dvs : List V} {E : XK} {t : TA} (ha : Val ta σ H (.ref l)) (h : H l = some (.ins C dx fs)) (hm : fs.lookup m = none) (k : t σ H fun vs H2 => sp (.ref l :: (vs ++ dvs)) H2 Q E) : tMeth C m sp dvs E ta t σ H Q := ha _ ⟨l, dx, fs, rfl, h, hm, k⟩
theorem c_meth {C : Addr} {ns : List Str} {m : Str} {sp : Sp} {dvs : List V} {E : XK} {t : TA} (ha : Val ta σ H v) (h : ∃ (l dx : Addr) (fs : List (Str × V)), v = .ref l ∧ H l = some (.ins C dx fs) ∧ ∀ m : Str, m ∉ ns → fs.lookup m = none) (hm : m ∉ ns) (k : t σ H fun vs H2 => sp (v :: (vs ++ dvs)) H2 Q E) : tMeth C m sp dvs E ta t σ H Q := by
  obtain ⟨l, dx, fs, rfl, h1, h2⟩ := h
  exact ha _ ⟨l, dx, fs, rfl, h1, h2 m hm, k⟩
theorem v_methO {l C dx : Addr} {fs : List (Str × V)} {m : Str} {sp : Sp} {dvs : List V} {E : XK} {t : TA} {vs : List V} (ha : Val ta σ H (.ref l)) (h : H l = some (.ins C dx fs)) (hm : fs.lookup m = none) (ht : VA t σ H vs) (hs : ∀ Q : VK, Q z H → sp (.ref l :: (vs ++ dvs)) H Q E) : Val (tMeth C m sp dvs E ta t) σ H z := fun Q q => c_methO ha h hm (ht _ (hs Q q))
theorem v_meth {C : Addr} {ns : List Str} {m : Str} {sp : Sp} {dvs : List V} {E : XK} {t : TA} {vs : List V} (ha : Val ta σ H v) (h : ∃ (l dx : Addr) (fs : List (Str × V)), v = .ref l ∧ H l = some (.ins C dx fs) ∧ ∀ m : Str, m ∉ ns → fs.lookup m = none) (hm : m ∉ ns) (ht : VA t σ H vs) (hs : ∀ Q : VK, Q z H → sp (v :: (vs ++ dvs)) H Q E) : Val (tMeth C m sp dvs E ta t) σ H z := fun Q q => c_meth ha h hm (ht _ (hs Q q))
theorem c_make {C : Addr} {sp : Sp} {dvs : List V} {E : XK} {t : TA} (h : t σ H fun vs H1 => ∀ x dx, H1 x = none → H1 dx = none → dx ≠ x →
    sp (.ref x :: (vs ++ dvs)) (upd (upd H1 dx (.own x)) x (.ins C dx [])) (fun v H2 => v = .non ∧ Q (.ref x) H2) E) : tMake C sp dvs E t σ H Q := h
theorem make_in {C : Addr} {vs : List V} {sp : Sp} {Qf : Addr → VK} {E : XK} (h : ∀ x dx H', Same H H' → H x = none → H' x = some (.ins C dx []) → sp (.ref x :: vs) H' (Qf x) E) : ∀ x dx, H x = none → H dx = none → dx ≠ x → sp (.ref x :: vs) (upd (upd H dx (.own x)) x (.ins C dx [])) (Qf x) E :=
  fun x dx hx hdx n => h x dx _ ((same_upd hdx).trans (same_upd (by rw [upd_ne n.symm]; exact hx))) hx upd_same
theorem v_chn {g g' : Int → Int → V} {k l m : Int} (ha : Val ta σ H (.int k)) (hb : Val tb σ H (.int l)) (hc : Val te σ H (.int m)) (h1 : g k l = .bl b) (h2 : g' l m = .bl c) : Val (tChain (rI0 g) (rI0 g') ta tb te) σ H (.bl (b && c)) := v_chain (p := fun _ _ => b) (q := fun _ _ => c) ha hb hc h1 h2
theorem z_fldE {f : Str} (h : te σ H fun y H1 => ta σ H1 fun x H2 => ∃ a C dx fs, x = .ref a ∧ H2 a = some (.ins C dx fs) ∧ Cls K C ∧ NoAttr K C f ∧ fs.length < 1000 ∧ tu D σ (upd H2 a (.ins C dx (putF f y fs)))) : tSeq (sFld K ta te f) tu D σ H := h
theorem c_setF {l C dx : Addr} {fs fs' : List (Str × V)} {f : Str} (g : Grow L S0 H0 S H) (cl : Cel L H0 S H l (.ins C dx fs)) (ho : Val ta σ H (.ref l)) (c : Cls K C) (n : NoAttr K C f) (hn : fs.length < 1000) (he : putF f y fs = fs')
    (k : ∀ H', Grow L S0 H0 S H' → Cel L H0 S H' l (.ins C dx fs') → (∀ l' o', l' ≠ l → Cel L H0 S H l' o' → Cel L H0 S H' l' o') → tu D σ H') :
    ta σ H fun x H2 => ∃ a C dx fs, x = .ref a ∧ H2 a = some (.ins C dx fs) ∧ Cls K C ∧ NoAttr K C f ∧ fs.length < 1000 ∧ tu D σ (upd H2 a (.ins C dx (putF f y fs))) := by
  subst he
  exact ho _ ⟨l, C, dx, fs, rfl, cl.h, c, n, hn, k _ (g.wr cl rfl) (cl.wr rfl) fun l' o' n c => c.wrn n⟩

def gDivW (j : Int) : Prop := 0 < j ∧ j < 2 ^ 200
instance (j : Int) : Decidable (gDivW j) := by unfold gDivW; infer_instance
theorem gDivW.ok {i j : Int} (h : gDivW j) : CDivW i j := wide_div (b := 200) h.1 (by
  have h1 := h.1
  have h2 := h.2
  omega) (by decide) (by decide)
theorem gDivW_nat {n : Nat} (h0 : 0 < n) (h : n < 2 ^ 200) : gDivW (n : Int) := ⟨by omega, by omega⟩
/-! ### more of lists -/
section
variable {α : Type} {τ : Rep K α} {l : Addr} {xs ys : List α}
theorem c_rev (g : Grow L S0 H0 S H) (cl : Cel L H0 S H l (.lst ws)) (r : RL τ S ws xs)
    (k : ∀ H', Grow L S0 H0 S H' → Cel L H0 S H' l (.lst ws.reverse) → RL τ S ws.reverse xs.reverse → (∀ l' o', l' ≠ l → Cel L H0 S H l' o' → Cel L H0 S H' l' o') → Q .non H') : rReverse (.ref l) [] H Q :=
  ⟨l, ws, rfl, rfl, cl.h, k _ (g.wr cl rfl) (cl.wr rfl) r.reverse fun l' o' n c => c.wrn n⟩
theorem c_pop {q : α} (g : Grow L S0 H0 S H) (cl : Cel L H0 S H l (.lst ws)) (r : RL τ S ws xs) (he : xs.getLast? = some q)
    (k : ∀ w, τ.R S w q → ∀ ws' H', Grow L S0 H0 S H' → Cel L H0 S H' l (.lst ws') → RL τ S ws' xs.dropLast → (∀ l' o', l' ≠ l → Cel L H0 S H l' o' → Cel L H0 S H' l' o') → Q w H') : rPop (.ref l) [] H Q := by
  rw [List.getLast?_eq_getElem?] at he
  obtain ⟨w, ew, rw_⟩ := r.get he
  exact ⟨l, ws, w, rfl, rfl, cl.h, by rw [r.length]; exact ew, k w rw_ _ _ (g.wr cl rfl) (cl.wr rfl) r.dropLast fun l' o' n c => c.wrn n⟩
theorem c_setL2 {q : α} {P : Hp → Prop} (g : Grow L S0 H0 S H) (cl : Cel L H0 S H l (.lst ws)) (r : RL τ S ws xs) (rv : τ.R S v q) (he : setI xs i q = some ys)
    (k : ∀ ws' H', Grow L S0 H0 S H' → Cel L H0 S H' l (.lst ws') → RL τ S ws' ys → (∀ l' o', l' ≠ l → Cel L H0 S H l' o' → Cel L H0 S H' l' o') → P H') : rSetL (.ref l) (.int i) v H P := by
  unfold setI at he
  cases e : ixN xs.length i with
  | none => rw [e] at he; cases he
  | some j =>
    rw [e] at he
    cases (Option.some.inj he)
    exact ⟨l, ws, i, j, rfl, rfl, cl.h, by rw [r.length]; exact e, k _ _ (g.wr cl rfl) (cl.wr rfl) (r.set rv j) fun l' o' n c => c.wrn n⟩
end
/-- xs[i] op= e -/
def sXAug (td ty tv : TE) (ri : R2) (rd : TIp) (t : TSet) : TS := fun D σ H => td σ H fun x H1 => ty σ H1 fun y H2 => ri x y H2 fun v H3 => tv σ H3 fun y2 H4 => rd v y2 H4 fun z H5 => t x y z H5 fun H6 => D.nx σ H6
theorem get_list {X : Cx} {pins : List (Addr × Obj)} {s : Shared} {u w : Value} (I : Inv X pins σ H s) (rx : RelV x u) (ry : RelV y w) (h : rIxL X.K x y H Q) : wpAny (model X.prog X.w) X.A (getItem u w) (EP X pins σ Q) X.xe s := by
  obtain ⟨p, xs, i, z, rfl, rfl, hq, he, q⟩ := h
  cases rx
  obtain ⟨t, rfl⟩ := ry
  obtain ⟨its, r, pl, hz⟩ := I.list hq
  obtain ⟨j, h1, h2, h3, h4, h5⟩ := L2.atI_get he
  obtain ⟨w, ew, rw'⟩ := r.get h2
  have hl := r.length
  have hn := line63
  have fin : EP X pins σ Q w s := ⟨z, H, I, rw', q⟩
  by_cases h0 : 0 ≤ i
  · have hj : i.toNat = j := by
      rw [seqIndex_of h0 h5] at h1
      exact Option.some.inj h1
    exact wpAny_getItem_list pl.isList h0 (by omega) (by rw [hj]; simpa using ew) fin
  · have hj : (i + (its.toArray.size : Int)).toNat = j := by
      rw [seqIndex_neg (by omega) h4] at h1
      rw [List.size_toArray, ← hl]
      exact Option.some.inj h1
    exact wpAny_getItem_list_neg pl.isList (by omega) (by rw [List.size_toArray] <;> omega) (by omega) (by rw [hj]; simpa using ew) fin
theorem ps_xaug {X : Cx} {o i value : Expr} {tpos pos : Pos} {op : Operator} {td ty tv : TE} {rd : TIp} (ho : PE X o td) (hi : PE X i ty) (hv : PE X value tv) (hop : PIp X op rd)
    (ha : ∀ ov iv new, augStore i ov iv new = (do holding [new, ov, iv] (setItem ov iv new); release [new, ov, iv] []; pure .next)) : PS X (.AugAssign (.Subscript o i tpos) op value pos) (sXAug td ty tv (rIxL X.K) rd rSetL) := by
  refine ⟨fun pins s σ H D I h => ?_⟩
  refine wpAny_AugAssign_SubscriptAny (thn (ho.run pins s σ H _ I h) fun u s1 ⟨x, H1, I1, rx, q1⟩ => thn (hi.run pins s1 σ H1 _ I1 q1) fun iv s2 ⟨y, H2, I2, ry, q2⟩ => ?_) ha
  refine thn (get_list I2 rx ry q2) fun w' s3 ⟨v, H3, I3, rw', q3⟩ => thn (hv.run pins s3 σ H3 _ I3 q3) fun w2 s4 ⟨y2, H4, I4, ry2, q4⟩ => thn (hop pins s4 σ H4 v y2 w' w2 _ I4 rw' ry2 q4) fun w3 s5 ⟨z, H5, I5, rz, q5⟩ => ?_
  exact thn (set_list pins s5 σ H5 x y z u iv w3 _ I5 rx ry rz q5) fun _ s6 ⟨H6, I6, q6⟩ => ⟨σ, H6, I6, q6⟩
theorem z_xaug {α : Type} {τ : Rep K α} {l : Addr} {xs : List α} {q : α} {rd : TIp} {t : TSet} {f : α → V} (ho : Val ta σ H (.ref l)) (hi : Val tb σ H (.int i)) (h : H l = some (.lst ws)) (r : RL τ S ws xs) (hx : atI xs i = some q)
    (k : ∀ w, τ.R S w q → te σ H fun y2 H4 => rd w y2 H4 fun z H5 => t (.ref l) (.int i) z H5 fun H6 => tu D σ H6) : tSeq (sXAug ta tb te (rIxL K) rd t) tu D σ H := by
  obtain ⟨w, ew, rw_⟩ := r.at hx
  exact ho _ (hi _ ⟨l, ws, i, w, rfl, rfl, SqL.of h, ew, k w rw_⟩)
theorem z_xaugI {l : Addr} {xs : List Int} {q : Int} {rd : TIp} {t : TSet} (ho : Val ta σ H (.ref l)) (hi : Val tb σ H (.int i)) (h : H l = some (.lst ws)) (r : RL (K := K) qI S ws xs) (hx : atI xs i = some q)
    (k : te σ H fun y2 H4 => rd (.int q) y2 H4 fun z H5 => t (.ref l) (.int i) z H5 fun H6 => tu D σ H6) : tSeq (sXAug ta tb te (rIxL K) rd t) tu D σ H :=
  z_xaug (τ := qI) (f := V.int) ho hi h r hx fun w e => by cases e; exact k
theorem z_augE {k : Nat} {ti : TIp} (hx : σ[k]? = some (some x)) (h : te σ H fun y H1 => ti x y H1 fun v H2 => tu D (σ.set k (some v)) H2) : tSeq (tAug k te ti) tu D σ H := ⟨x, hx, h⟩
theorem q_set {k : Nat} {w : V} (e : v = w) (hs : σ.set k (some w) = σ') (q : tu D σ' H) : tu D (σ.set k (some v)) H := by subst e; subst hs; exact q
theorem z_augS {k : Nat} {w : V} {s r : Str} (hx : σ[k]? = some (some (.str s))) (hv : Val te σ H (.str r)) (hz : s.length + r.length ≤ 16777216) (he : V.str (s ++ r) = w) (hs : σ.set k (some w) = σ') (q : tu D σ' H) :
    tSeq (tAug k te (fun x y H Q => ∃ i j, x = .str i ∧ y = .str j ∧ i.length + j.length ≤ sizeLine ∧ Q (.str (i ++ j)) H)) tu D σ H :=
  z_aug hx hv (fun _ q => ⟨s, r, rfl, rfl, hz, q⟩) he hs q
theorem c_bits (h : te σ H fun x H1 => ∃ i, x = .int i ∧ Q (.int (Builtin.Int.intBits i : Nat)) H1) : tBits te σ H Q := h
theorem c_notV (h : ta σ H fun x H1 => ∃ c, x = .bl c ∧ Q (.bl (!c)) H1) : tNotV ta σ H Q := h
theorem c_chain {r r' : R2} (h : ta σ H fun x H1 => tb σ H1 fun y H2 => r x y H2 fun z H3 => ∃ k, z = .bl k ∧ if k = true then te σ H3 fun w' H4 => r' y w' H4 Q else Q (.bl false) H3) : tChain r r' ta tb te σ H Q := h
theorem e_chain {g g' : Int → Int → V} {k l m : Int} (hc : Val te σ H (.int m)) (h1 : g k l = .bl b) (h2 : g' l m = .bl c) (q : Q (.bl (b && c)) H) : rI0 g (.int k) (.int l) H fun z H3 => ∃ k, z = .bl k ∧ if k = true then te σ H3 fun w' H4 => rI0 g' (.int l) w' H4 Q else Q (.bl false) H3 := ⟨k, l, rfl, rfl, b, h1, by
  cases b with
  | true => exact (show (if true = true then _ else _) from hc _ ⟨l, m, rfl, rfl, by rw [h2]; exact q⟩)
  | false => exact (show (if false = true then _ else _) from q)⟩
end
/-! ### classes of errors -/
structure ExF (K : PySem.W.Frag) (C : Addr) : Prop where
  x : PySem.W.excIn K C [.type "ValueError", .type "Exception", .type "BaseException", .type "object"] "ValueError.__new__" = true
  k : PySem.W.keepIn K (.ref C) = true
  b : PySem.W.subIn K (.ref C) (.type "BaseException") = some true
  t : PySem.W.typeIn K (.ref C) = some (.type "type")
theorem bt_sorted : bootBuiltins "sorted" = some (.builtin "sorted") := by decide +kernel
theorem bt_sum : bootBuiltins "sum" = some (.builtin "sum") := by decide +kernel
end Z

namespace Z
open PySem PySem.Spec PyProof.Rows L2 RT
/-! ### list(reversed(xs)) -/
section
variable {prog : Program} {w : World} {A : Around} {E : Value → Shared → Prop} {s : Shared} {it l : Addr} {items : Array Value}
abbrev RvOf (items : Array Value) : Nat → Value → Prop := fun i v => items[items.size - 1 - i]? = some v
theorem rl_extend {R : Result → Shared → Prop} (hh : A.handled = none) (hit : s.heap.IsRevIter it l ((items.size : Int) - 1)) (hl : s.heap.IsList l items) (hne : l ≠ it) (hn : items.size ≤ sizeLine)
    (S : Addr) (hSi : S ≠ it) (hSl : S ≠ l) (res : Value) (c₀ : Nat) (hS : s.heap.get? S = some { cls := .type "list", data := .seq #[] c₀ })
    (hR : ∀ h' tk acc' c', (∀ b o, b ≠ S → b ≠ it → s.heap.get? b = some o → h'.get? b = some o) → h'.get? S = some { cls := .type "list", dict := none, data := .seq acc' c', slots := #[] } → ItemsOf (RvOf items) acc' items.size → R (.ok (.ret res)) { s with heap := h', toks := tk }) :
    wpAny (model prog w) A.in1 (Builtin.List.listExtendWith (.ref S) (.ref it) res)
      (fun fin s' => match fin with | .done f => R (.ok f) s' | .again c' => c'.quiet = true ∧ codeAny (model prog w) A c' R s') (fun e s' => R (.error e) s') s := by
  have W := (Walks.listRev (prog := prog) (w := w) (A := A.in1) hh it l hne items).toS
  have hSf : S ∉ [it, l] := by simp only [List.mem_cons, List.not_mem_nil, or_false, not_or]; exact ⟨hSi, hSl⟩
  have hT : s.TypeIs (.ref it) "list_reverseiterator" := Heap.IsRevIter.typeIs (s := s) hit
  have h1 : Builtin.List.listSameRef (.ref S) (.ref it) = false := by simp [Builtin.List.listSameRef, hSi]
  unfold Builtin.List.listExtendWith
  refine wpAny_bind (wpAny_typeOf hT ?_)
  rw [if_neg (by rw [h1]; decide)]
  refine wpAny_bind (wpAny_pyIter_revIter hit ?_)
  refine wpAny_bind (wpAny_holding ?_)
  unfold Builtin.List.listLengthHint
  refine wpAny_bind (wpAny_specialOf hT nolen_lri ?_)
  show wpAny _ A.in1 (specialOf (Value.ref it) (Str.ofString "__length_hint__") >>= _) _ _ _
  refine wpAny_bind (wpAny_specialOf hT hint_lri ?_)
  generalize hid : ("list_reverseiterator.__length_hint__" : String) = id0
  wp_delta
  rw [show splitId id0 = some ("list_reverseiterator", "__length_hint__") from by subst hid; decide +kernel]
  subst hid
  refine wpAny_bind (wpAny_isInstance (b := true) hT (by rw [isSubtype_type]; kernel_rfl) ?_)
  refine wpAny_pure ?_
  rw [if_neg (by decide)]
  have e0 : ((items.size : Nat) : Int) - 1 - ((0 : Nat) : Int) = (items.size : Int) - 1 := by omega
  refine wpAny_pure ⟨plainId_quiet PySem.F.plain_extend_loop _, codeAny_extend_loopS W hn _ hSf _ items.size 0 _ _ _ rfl (Nat.zero_le _) ⟨Nat.zero_le _, by rw [e0]; exact hit, hl⟩ hS (ItemsOf.nil _) fun s' acc' c' hm hS' hacc => ?_⟩
  rw [Moved.eq_with hm]
  refine hR s'.heap s'.toks acc' c' (fun b o hb hb2 e => hm.heap b o (fun hmem => ?_) e) hS' hacc
  rcases List.mem_cons.mp hmem with e' | hmem
  · exact hb e'
  · exact hb2 (List.mem_singleton.mp hmem)
theorem rl_init {R : Result → Shared → Prop} (hh : A.handled = none) (hit : s.heap.IsRevIter it l ((items.size : Int) - 1)) (hl : s.heap.IsList l items) (hne : l ≠ it) (hn : items.size ≤ sizeLine)
    (S : Addr) (hSi : S ≠ it) (hSl : S ≠ l) (hS : s.heap.get? S = some { cls := .type "list", data := .seq #[] })
    (hR : ∀ h' tk acc' c', (∀ b o, b ≠ S → b ≠ it → s.heap.get? b = some o → h'.get? b = some o) → h'.get? S = some { cls := .type "list", dict := none, data := .seq acc' c', slots := #[] } → ItemsOf (RvOf items) acc' items.size → R (.ok (.ret .none)) { s with heap := h', toks := tk }) :
    wpAny (model prog w) A.in1 (Builtin.«list.__init__» ⟨[.ref S, .ref it], []⟩)
      (fun fin s' => match fin with | .done f => R (.ok f) s' | .again c' => c'.quiet = true ∧ codeAny (model prog w) A c' R s') (fun e s' => R (.error e) s') s := by
  show wpAny _ _ (do let old ← Builtin.List.listItems (.ref S); Builtin.List.listUpdate (.ref S) (fun _ => #[]); letGo old.toList.reverse; Builtin.List.listExtendWith (.ref S) (.ref it) .none) _ _ s
  refine wpAny_bind ?_
  unfold Builtin.List.listItems
  refine wpAny_bind (wpAny_seqItems hS rfl (wpAny_pure ?_))
  show wpAny _ _ (updateSeq S (fun _ => #[]) >>= fun _ => letGo (#[] : Array Value).toList.reverse >>= fun _ => Builtin.List.listExtendWith (.ref S) (.ref it) .none) _ _ s
  refine wpAny_bind (wpAny_updateSeq hS rfl ?_)
  have hS₂ := Heap.get?_update_self (Obj.mapSeq (fun _ => (#[] : Array Value))) hS rfl
  have oth : ∀ b o, b ≠ S → s.heap.get? b = some o → (s.heap.update S (Obj.mapSeq (fun _ => (#[] : Array Value)))).get? b = some o :=
    fun b o hb e => (Heap.get?_update_other _ _ (Ne.symm hb)).trans e
  refine wpAny_bind (wpAny_letGo ?_)
  refine rl_extend (s := { s with heap := s.heap.update S (Obj.mapSeq (fun _ => (#[] : Array Value))) }) hh (hit.at fun o e => oth it o hSi.symm e) (hl.at fun o e => oth l o hSl.symm e) hne hn S hSi hSl .none _ hS₂ (fun h' tk acc' c' hk hS' hacc => ?_)
  exact hR h' tk acc' c' (fun b o hb hb2 e => hk b o hb hb2 (oth b o hb e)) hS' hacc
theorem call_list_rev {Q : Value → Shared → Prop} (hh : A.handled = none) (hit : s.heap.IsRevIter it l ((items.size : Int) - 1)) (hl : s.heap.IsList l items) (hne : l ≠ it) (hn : items.size ≤ sizeLine)
    (hQ : ∀ h' tk acc' c', (∀ b o, b ≠ it → s.heap.get? b = some o → h'.get? b = some o) → h'.get? s.heap.objs.size = some { cls := .type "list", dict := none, data := .seq acc' c', slots := #[] } → ItemsOf (RvOf items) acc' items.size → Q (.ref s.heap.objs.size) { s with heap := h', toks := tk }) :
    wpAny (model prog w) A (call (.type "list") [.ref it]) Q E s := by
  refine callType_codes (Q₁ := fun obj s₁ => obj = .ref s.heap.objs.size ∧ s₁ = { s with heap := s.heap.push { cls := .type "list", data := .seq #[] } }) PySem.F.called_list (PySem.F.typeCall_list_1 _) PySem.F.entry_list_init
    (code_list_new _ ⟨rfl, rfl⟩) fun obj s₁ h₁ => ?_
  obtain ⟨rfl, rfl⟩ := h₁
  have hS : (s.heap.push { cls := .type "list", data := .seq #[] }).get? s.heap.objs.size = some { cls := .type "list", data := .seq #[] } := Heap.get?_push_size _ rfl
  obtain ⟨oi, hoi, _⟩ := id hit
  obtain ⟨ol, hol, _⟩ := id hl
  refine ⟨⟨_, hS, rfl⟩, PySem.F.args_list_init_2 _ _, rl_init (A := A.in1) (s := { s with heap := s.heap.push { cls := .type "list", data := .seq #[] } }) hh (hit.at fun o e => Heap.get?_push_of_some _ e) (hl.push _) hne hn _ (Nat.ne_of_gt (Heap.lt_size hoi)) (Nat.ne_of_gt (Heap.lt_size hol)) hS (fun h' tk acc' c' hk hS' hacc => ?_)⟩
  exact ⟨rfl, hQ h' tk acc' c' (fun b o hb e => hk b o (Nat.ne_of_lt (Heap.lt_size e)) hb (Heap.get?_push_of_some _ e)) hS' hacc⟩
end
def rListRev (K : PySem.W.Frag) (v : V) (H : Hp) (Q : VK) : Prop := ∃ (a : Addr) (xs : List V), v = .ref a ∧ SqL K H a xs ∧ ∀ q, H q = none → Q (.ref q) (upd H q (.lst xs.reverse))
def tListRev (K : PySem.W.Frag) (te : TE) : TE := fun σ H Q => te σ H fun v H1 => rListRev K v H1 Q
theorem pe_listRev {X : Cx} {e : Expr} {te : TE} {p p2 pos pos2 : Pos} (hc : X.calm = true) (hg : Gl X "list") (hm : X.mg "list" = none) (hg2 : Gl X "reversed") (hm2 : X.mg "reversed" = none) (he : PE X e te)
    (hs : starEach [e] X.env = (false, eval e X.env) :: starEach [] X.env := by rfl)
    (hs2 : starEach [.Call (.Name "reversed" p2) [e] [] pos2] X.env = (false, eval (.Call (.Name "reversed" p2) [e] [] pos2) X.env) :: starEach [] X.env := by rfl) :
    PE X (.Call (.Name "list" p) [.Call (.Name "reversed" p2) [e] [] pos2] [] pos) (tListRev X.K te) := by
  refine ⟨fun pins s σ H Q I h => ?_⟩
  refine Call_ (ld_blt I hg hm bt_list (PyProof.Rows.callWith_type1 (args_cons (Call_ (ld_blt I hg2 hm2 PyProof.Rows.boot_reversed (PyProof.Rows.callWith_type1 (args_cons (thn (he.run pins s σ H _ I h) fun u s1 ⟨v, H1, I1, r1, q1⟩ => args_nil ?_) hs) hs rfl))) hs2) hs2 rfl))
  obtain ⟨a, xs, ev, hq, q⟩ := q1
  subst ev
  obtain rfl : u = Value.ref a := r1
  obtain ⟨its, rv, p', hz⟩ := I1.list hq
  refine call_reversed_list p'.isList (args_nil ?_)
  have k0 : ∀ b o, s1.heap.get? b = some o → (s1.heap.push (revObj a ((its.toArray.size : Int) - 1))).get? b = some o := fun b o e => Heap.get?_push_of_some _ e
  have I2 : Inv X pins σ H1 { s1 with heap := s1.heap.push (revObj a ((its.toArray.size : Int) - 1)) } := I1.kept (t' := s1.toks) k0
  obtain ⟨f0, f1, f2, f3, f4, f5⟩ := I1.fpOk (H' := H1) (b := s1.heap.objs.size) (Nat.le_refl _) (I1.hok.fresh (Nat.le_refl _))
  have hl := p'.isList
  obtain ⟨ol, hol, _⟩ := id hl
  have hne : a ≠ s1.heap.objs.size := Nat.ne_of_lt (Heap.lt_size hol)
  have hn : its.toArray.size ≤ sizeLine := by rw [List.size_toArray, ← rv.length]; exact hz
  refine call_list_rev (s := { s1 with heap := s1.heap.push (revObj a ((its.toArray.size : Int) - 1)) }) (I1.ok.hd hc) ⟨_, Heap.get?_push_size _ rfl, rfl, rfl⟩ (hl.push _) hne hn fun h' tk acc c' hk hS hi => ?_
  refine ⟨.ref _, upd H1 _ (.lst xs.reverse), I2.turnedNew (t' := tk) (ch := [s1.heap.objs.size]) (fun b o hb e => hk b o (fun z => hb (by rw [z]; exact List.mem_singleton.mpr rfl)) e) (fun b hb => by cases List.mem_singleton.mp hb; exact ⟨f0, f1, f2, f3, f4, f5⟩) (Nat.le_refl _) (show ObjOk X.prog X.w _ h' _ (.lst xs.reverse) from ⟨by rw [List.length_reverse]; exact hz, acc.toList, c', vals_rev rv hi, by rw [Array.toArray_toList]; exact hS⟩), rfl, q _ (I2.hok.fresh (Nat.le_refl _))⟩
section
variable {K : PySem.W.Frag} {σ : L2.St} {S H : Hp} {te : TE} {v : V} {Q : VK} {α : Type} {τ : Rep K α} {xs : List α}
theorem c_lrE (h : ∀ Q' : VK, Q' = Q → te σ H fun v H1 => rListRev K v H1 Q') : tListRev K te σ H Q := h _ rfl
theorem l_listRev (h : LS τ S H v xs) (k : ∀ p ws H', Same H H' → H p = none → H' p = some (.lst ws) → RL τ S ws xs.reverse → Q (.ref p) H') : rListRev K v H Q := by
  obtain ⟨a, ws, rfl, h2, h3⟩ := h
  exact ⟨a, ws, rfl, h2, fun l hl => k l _ _ (same_upd hl) hl upd_same h3.reverse⟩
end
end Z

namespace Z
open PySem PySem.Spec PyProof.Rows L2
section
variable {K : PySem.W.Frag}
theorem enc_lay_none : (PyData.none).canLay0 = true := rfl
/-- what is never None -/
def NN {α : Type} [DecidableEq α] {τ : Rep K α} (d : Dat τ) : Prop := ∀ x, PyData.eqv .none (d.enc x) = false ∧ PyData.eqv (d.enc x) .none = false
def dOpt {α : Type} [DecidableEq α] {τ : Rep K α} (d : Dat τ) (hn : NN d) : Dat (qOpt τ) := ⟨fun o => match o with
    | none => .none
    | some x => d.enc x, fun {H v o} h => by
    cases o with
    | none => cases (show v = .non from h); exact .non
    | some x => exact d.dp h.2, fun o => by
    cases o with
    | none => rfl
    | some x => exact d.lay x, max d.n 1, fun o => by
    cases o with
    | none => show PyData.depth .none ≤ _; simp [PyData.depth]
    | some x => exact Nat.le_trans (d.dep x) (Nat.le_max_left _ _), fun a b => by
    cases a with
    | none =>
      cases b with
      | none => rfl
      | some y => exact (hn y).1.trans (decide_eq_false (fun e => nomatch e)).symm
    | some x =>
      cases b with
      | none => exact (hn x).2.trans (decide_eq_false (fun e => nomatch e)).symm
      | some y =>
        show PyData.eqv (d.enc x) (d.enc y) = _
        rw [d.eqv]
        exact decide_eq_decide.mpr ⟨fun e => by rw [e], fun e => Option.some.inj e⟩⟩
theorem nnI : NN (K := K) dI := fun _ => ⟨rfl, rfl⟩
theorem nnB : NN (K := K) dB := fun _ => ⟨rfl, rfl⟩
theorem nnL {α : Type} [DecidableEq α] {τ : Rep K α} (d : Dat τ) : NN (dL d) := fun _ => ⟨rfl, rfl⟩
theorem nnQ {α : Type} [DecidableEq α] {τ : Rep K α} (d : Dat τ) : NN (dQ d) := fun _ => ⟨rfl, rfl⟩
theorem nnT2 {α β : Type} [DecidableEq α] [DecidableEq β] {τ : Rep K α} {υ : Rep K β} (a : Dat τ) (b : Dat υ) : NN (dT2 a b) := fun _ => ⟨rfl, rfl⟩
theorem eqvAll3 {a b c a' b' c' : PyData} : PyData.eqv (.tuple [a, b, c]) (.tuple [a', b', c']) = (PyData.eqv a a' && (PyData.eqv b b' && PyData.eqv c c')) := by
  simp [PyData.eqv, PyData.eqvAll]
def dT3 {α β γ : Type} [DecidableEq α] [DecidableEq β] [DecidableEq γ] {τ : Rep K α} {υ : Rep K β} {φ : Rep K γ} (a : Dat τ) (b : Dat υ) (c : Dat φ) : Dat (qT3 τ υ φ) := ⟨fun x => .tuple [a.enc x.1, b.enc x.2.1, c.enc x.2.2], fun {H v x} h => by
    obtain ⟨p, w1, w2, w3, rfl, h2, h3, h4, h5⟩ := h
    exact .tup (SqT.of h2) (.cons (a.dp h3) (.cons (b.dp h4) (.cons (c.dp h5) .nil))), fun x => by
    show PyData.canLayAll0 [a.enc x.1, b.enc x.2.1, c.enc x.2.2] = true
    simp [PyData.canLayAll0, a.lay, b.lay, c.lay], max a.n (max b.n c.n) + 1, fun x => by
    have h1 := a.dep x.1
    have h2 := b.dep x.2.1
    have h3 := c.dep x.2.2
    show PyData.depth (.tuple [a.enc x.1, b.enc x.2.1, c.enc x.2.2]) ≤ _
    simp only [PyData.depth, PyData.depthAll]
    omega, fun x y => by
    rw [eqvAll3, a.eqv, b.eqv, c.eqv, ← Bool.decide_and, ← Bool.decide_and]
    exact decide_eq_decide.mpr ⟨fun h => Prod.ext h.1 (Prod.ext h.2.1 h.2.2), fun h => by rw [h]; exact ⟨rfl, rfl, rfl⟩⟩⟩
theorem nnT3 {α β γ : Type} [DecidableEq α] [DecidableEq β] [DecidableEq γ] {τ : Rep K α} {υ : Rep K β} {φ : Rep K γ} (a : Dat τ) (b : Dat υ) (c : Dat φ) : NN (dT3 a b c) := fun _ => ⟨rfl, rfl⟩
end
end Z
namespace Z
open PySem PySem.Spec PyProof.Rows L2
/-! ### range with a step -/
def gR3 (i j c : Int) : Prop := 0 < c ∧ c < 1073741824 ∧ Builtin.Range.small i j c = true
instance (i j c : Int) : Decidable (gR3 i j c) := by unfold gR3; infer_instance
def rangeS (i j c : Int) : List Int := (List.range (Builtin.Range.rangeSize i j c).toNat).map fun (k : Nat) => i + (k : Int) * c
theorem rsize_nn {i j c : Int} (h : 0 < c) : 0 ≤ Builtin.Range.rangeSize i j c := by
  unfold Builtin.Range.rangeSize
  rw [if_pos h]
  split
  · have := Int.ediv_nonneg (show 0 ≤ j - i - 1 by omega) (show 0 ≤ c by omega)
    omega
  · omega
section
variable {K : PySem.W.Frag} {σ : L2.St} {H : Hp} {ta : TA} {D : Ends} {tu : TS}
theorem z_for3 {g : TG} {tb : TS} {i j c : Int} (ha : VA ta σ H [.int i, .int j, .int c]) (hj : gR3 i j c) (Pv : List Int → L2.St → Hp → Prop) (h0 : Pv (rangeS i j c) σ H)
    (hs : ∀ x xs σ' H', Pv (x :: xs) σ' H' → ∀ N : L2.St → Hp → Prop, (∀ σ'' H'', Pv xs σ'' H'' → N σ'' H'') → g (.int x) σ' H' fun σ2 H2 => tb { D with nx := N, ct := N, bk := tu D } σ2 H2) (hd : ∀ σ' H', Pv [] σ' H' → tu D σ' H') :
    tSeq (tFor (iRng3 ta) g tb) tu D σ H := ha _ ⟨i, j, c, (Builtin.Range.rangeSize i j c).toNat, rfl, ⟨by have := hj.1; omega, by have h1 := hj.1; have h2 := hj.2.1; omega, hj.2.2, by have := rsize_nn (i := i) (j := j) hj.1; omega⟩, by
  obtain ⟨n, hn⟩ : ∃ n, n = (Builtin.Range.rangeSize i j c).toNat := ⟨_, rfl⟩
  have h0' : Pv ((List.range n).map fun (k : Nat) => i + (k : Int) * c) σ H := by rw [hn]; exact h0
  rw [← hn]
  have hlen : ((List.range n).map fun (k : Nat) => i + (k : Int) * c).length = n := by rw [List.length_map, List.length_range]
  refine for_rangeC (D := { D with nx := tu D }) (fun k σ H => k ≤ n ∧ Pv (((List.range n).map fun (k : Nat) => i + (k : Int) * c).drop k) σ H) ⟨Nat.zero_le _, h0'⟩ (fun k σ' H' hk p => ?_) (fun σ' H' p => hd _ _ (by
    have q := p.2
    rw [List.drop_eq_nil_of_le (by omega)] at q
    exact q))
  have e : ((List.range n).map fun (k : Nat) => i + (k : Int) * c).drop k = (i + (k : Int) * c) :: ((List.range n).map fun (k : Nat) => i + (k : Int) * c).drop (k + 1) := by
    rw [List.drop_eq_getElem_cons (by omega), List.getElem_map, List.getElem_range]
  have q := p.2
  rw [e] at q
  exact hs _ _ σ' H' q _ fun σ'' H'' r => ⟨hk, r⟩⟩
end
/-! ### a list of one's own, or None -/
def optC {α β : Type} (o : Option α) (n : Option β) (s : α → Option β) : Option β := match o with
  | none => n
  | some x => s x
section
variable {K : PySem.W.Frag} {α : Type} {τ : Rep K α}
/-- what a call hands back then: H ahead of it, S' H' behind it -/
def OwnR (τ : Rep K α) (H S' H' : Hp) (v : V) (r : Option (List α)) : Prop := match r with
  | none => v = .non
  | some x => ∃ p ws, v = .ref p ∧ H p = none ∧ H' p = some (.lst ws) ∧ S' p = none ∧ RL τ S' ws x
theorem OwnR.frz {L : List Addr} {S0 H0 S H Sp Hp : L2.Hp} {v : V} {r : Option (List α)} (g : Grow L S0 H0 S H) (gp : Grow L S0 H0 Sp Hp) (h : OwnR τ Hp S H v r) :
    ∃ S1, Grow L S0 H0 S1 H ∧ Same S S1 ∧ (qOpt (qL τ)).R S1 v r ∧ ∀ l' o', Hp l' ≠ none → Cel L H0 S H l' o' → Cel L H0 S1 H l' o' := by
  cases r with
  | none => exact ⟨S, g, Same.refl _, h, fun _ _ _ c => c⟩
  | some x =>
    obtain ⟨p, ws, rfl, h1, h2, h3, h4⟩ := h
    have c : Cel L H0 S H p (.lst ws) := ⟨h2, h3, .inl (gp.hnone h1), rfl⟩
    obtain ⟨S1, a, b, d, e⟩ := c_freeze g c (gp.hnone h1) h4
    exact ⟨S1, a, b, ⟨(fun z => nomatch z), d⟩, fun l' o' n c' => e l' o' (fun q => n (q ▸ h1)) c'⟩
theorem OP.optN {β : Type} {n : Option β} {s : α → Option β} {A : β → Prop} (h : OP (optC none n s) A) : OP n A := h
theorem OP.optS {β : Type} {x : α} {n : Option β} {s : α → Option β} {A : β → Prop} (h : OP (optC (Option.some x) n s) A) : OP (s x) A := h
end
end Z

namespace Z
open PySem PySem.Spec PyProof.Rows L2
/-! ### one of several readings -/
def tAlt (t u : TE) : TE := fun σ H Q => t σ H Q ∨ u σ H Q
theorem pe_alt {X : Cx} {e : Expr} {t u : TE} (h : PE X e t) (g : PE X e u) : PE X e (tAlt t u) := ⟨fun pins s σ H Q I q => by
  rcases q with q | q
  · exact h.run pins s σ H Q I q
  · exact g.run pins s σ H Q I q⟩
theorem fn_none {P : Program} {w : World} {K : PySem.W.Frag} {mg : Str → Option Value} {base : Heap} {CX : CXT} {k : Nat} {f : Addr} {fd : FuncData} {ps : List Str} {sp : Sp} (h : ∀ vs H Q E, ¬ sp vs H Q E) : FnOk P w K mg base CX k f fd ps sp :=
  ⟨fun vs H Q E q => absurd q (h vs H Q E), fun A outer s H args us vs Q E _ _ _ _ q => absurd q (h vs H Q E)⟩
/-- what isinstance asks of an own class -/
structure InsH (K : PySem.W.Frag) (C : Addr) : Prop where
  ha : PySem.W.findIn K (.ref C) "__class__" = some (some (.builtin "object.__class__"))
  hn : PySem.W.specialIn K (.builtin "object.__class__") "__get__" = some (some (.builtin "getset_descriptor.__get__"))
  htk : PySem.W.takesIn K (.builtin "object.__class__") = some true
  hm : PySem.W.mroIn K C (.type "object") = some true
theorem v_isO {K : PySem.W.Frag} {σ : L2.St} {H : Hp} {ta : TE} {l C D dx : Addr} {fs : List (Str × V)} {b : Bool} (ha : Val ta σ H (.ref l)) (hp : H l = some (.ins C dx fs)) (cl : Cls K C) (i : InsH K C) (e : PySem.W.kitOne K (.ref C) (.ref D) = some b) : Val (tCB (rIsi K) (tCons ta (tCons (tC (.ref D)) tNil))) σ H (.bl b) :=
  fun Q q => ha _ ⟨_, .ref D, _, _, _, rfl, .own D, .base (TyOf.ins hp cl i.ha i.hn i.htk i.hm), e, q⟩
theorem kit_t {K : PySem.W.Frag} {C D : Addr} (i : PySem.W.isClsIn K D = true) (t : PySem.W.typeIn K (.ref D) = some (.type "type")) (s : PySem.W.subIn K (.ref C) (.ref D) = some true) : PySem.W.kitOne K (.ref C) (.ref D) = some true := by
  unfold PySem.W.kitOne
  split
  · rfl
  · unfold PySem.W.kitCls
    show (if ((PySem.W.clsIn K D).isSome && PySem.W.typeIn K (.ref D) == some (.type "type")) = true then PySem.W.subIn K (.ref C) (.ref D) else none) = _
    have i' : (PySem.W.clsIn K D).isSome = true := i
    rw [i', t, if_pos, s]
    simp
theorem kit_f {K : PySem.W.Frag} {C D : Addr} (i : PySem.W.isClsIn K D = true) (t : PySem.W.typeIn K (.ref D) = some (.type "type")) (s : PySem.W.subIn K (.ref C) (.ref D) = some false) (sd : PySem.W.subIn K (.ref D) (.ref D) = some true) : PySem.W.kitOne K (.ref C) (.ref D) = some false := by
  unfold PySem.W.kitOne
  split
  · rename_i h
    have : (Value.ref C) = .ref D := beq_iff_eq.mp h
    rw [this] at s
    rw [s] at sd
    cases sd
  · unfold PySem.W.kitCls
    show (if ((PySem.W.clsIn K D).isSome && PySem.W.typeIn K (.ref D) == some (.type "type")) = true then PySem.W.subIn K (.ref C) (.ref D) else none) = _
    have i' : (PySem.W.clsIn K D).isSome = true := i
    rw [i', t, if_pos, s]
    simp

/-! ### comprehensions whose parts change the heap -/
section
variable {K : PySem.W.Frag} {σ : L2.St} {S H S0 H0 : Hp} {L : List Addr} {ta tl te : TE} {tt : TT} {tr : TA} {v : V} {Q : VK} {g : TG} {vs : List Nat}
theorem c_lcGL {α : Type} {R : V → α → Prop} {a : Addr} {us : List V} {xs : List α} (ha : Val tl σ H (.ref a)) (hp : Paired R us xs) (hq : SqL K H a us)
    (k : ∀ P, H P = none → ∃ Pv : List α → Hp → Prop, Pv xs (upd H P (.lst [])) ∧ (∀ ys H', Pv ys H' → SqL K H' a us) ∧ (∀ w x xs H', R w x → Pv (x :: xs) H' → ∀ N : Hp → Prop, (∀ H'', Pv xs H'' → N H'') → g w (wipe σ vs) H' fun σ2 H2 => wipe σ2 vs = wipe σ vs ∧ tt σ2 H2 fun b H3 =>
      if b = true then te σ2 H3 fun y H4 => ∃ acc, H4 P = some (.lst acc) ∧ acc.length < sizeLine ∧ N (upd H4 P (.lst (acc ++ [y]))) else N H3) ∧ ∀ H', Pv [] H' → Q (.ref P) H') : tLc (iList K tl) g tt te vs σ H Q :=
  ha _ ⟨a, rfl, ⟨us, hq⟩, fun P hP => by
    obtain ⟨Pv, h0, hl, hs, hd⟩ := k P hP
    exact turnsC_list hp Pv h0 hl hs hd⟩
theorem c_lcGR1 {n : Int} (ha : VA tr σ H [.int n]) (hj : gR n)
    (k : ∀ P, H P = none → ∃ Pv : List Int → Hp → Prop, Pv (rangeI 0 n.toNat) (upd H P (.lst [])) ∧ (∀ x xs H', Pv (x :: xs) H' → ∀ N : Hp → Prop, (∀ H'', Pv xs H'' → N H'') → g (.int x) (wipe σ vs) H' fun σ2 H2 => wipe σ2 vs = wipe σ vs ∧ tt σ2 H2 fun b H3 =>
      if b = true then te σ2 H3 fun y H4 => ∃ acc, H4 P = some (.lst acc) ∧ acc.length < sizeLine ∧ N (upd H4 P (.lst (acc ++ [y]))) else N H3) ∧ ∀ H', Pv [] H' → Q (.ref P) H') : tLc (iRng1 tr) g tt te vs σ H Q :=
  ha _ ⟨n, rfl, hj.1, hj.2, fun P hP => by
    obtain ⟨Pv, h0, hs, hd⟩ := k P hP
    exact turnsC_range Pv h0 hs hd⟩
theorem c_lcGR2 {m n : Int} (ha : VA tr σ H [.int m, .int n]) (hj : gR2 m n)
    (k : ∀ P, H P = none → ∃ Pv : List Int → Hp → Prop, Pv (rangeI m (n - m).toNat) (upd H P (.lst [])) ∧ (∀ x xs H', Pv (x :: xs) H' → ∀ N : Hp → Prop, (∀ H'', Pv xs H'' → N H'') → g (.int x) (wipe σ vs) H' fun σ2 H2 => wipe σ2 vs = wipe σ vs ∧ tt σ2 H2 fun b H3 =>
      if b = true then te σ2 H3 fun y H4 => ∃ acc, H4 P = some (.lst acc) ∧ acc.length < sizeLine ∧ N (upd H4 P (.lst (acc ++ [y]))) else N H3) ∧ ∀ H', Pv [] H' → Q (.ref P) H') : tLc (iRng2 tr) g tt te vs σ H Q :=
  ha _ ⟨m, n, rfl, hj, fun P hP => by
    obtain ⟨Pv, h0, hs, hd⟩ := k P hP
    exact turnsC_range Pv h0 hs hd⟩
theorem c_yes {q : Bool → Hp → Prop} (h : q true H) : tYes σ H q := h
theorem c_yesE {Z Z' : Prop} {q : Bool → Hp → Prop} (e : q true H = if true = true then Z else Z') (h : Z) : tYes σ H q := by
  show q true H
  rw [e, if_pos rfl]
  exact h
theorem ift {A B : Prop} (h : A) : if true = true then A else B := by rw [if_pos rfl]; exact h
theorem c_acc {α : Type} {τ : Rep K α} {l : Addr} {ws : List V} {xs ys : List α} {q : α} {N : Hp → Prop} (g : Grow L S0 H0 S H) (cl : Cel L H0 S H l (.lst ws)) (r : RL τ S ws xs) (rv : τ.R S v q) (hz : xs.length < 16777216) (he : xs ++ [q] = ys)
    (k : ∀ ws' H', Grow L S0 H0 S H' → Cel L H0 S H' l (.lst ws') → RL τ S ws' ys → (∀ l' o', l' ≠ l → Cel L H0 S H l' o' → Cel L H0 S H' l' o') → N H') : ∃ acc, H l = some (.lst acc) ∧ acc.length < sizeLine ∧ N (upd H l (.lst (acc ++ [v]))) := by
  subst he
  exact ⟨ws, cl.h, by rw [r.length, sizeLine_eq]; exact hz, k _ _ (g.wr cl rfl) (cl.wr rfl) (r.app (.cons rv .nil)) fun l' o' n c => c.wrn n⟩
end
end Z

namespace Z
open PySem PySem.Spec PyProof.Rows L2
/-! ### a fault: a text of three, and numbers -/
inductive Tag | start | step | bad deriving DecidableEq
def Tag.s : Tag → Str
  | .start => "start"
  | .step => "step"
  | .bad => "bad"
structure VT where
  t : Tag
  ns : List Int
deriving DecidableEq
theorem Tag.inj {a b : Tag} (h : a.s = b.s) : a = b := by
  cases a <;> cases b <;> first | rfl | (exact absurd h (by decide))
theorem Tag.ok (a : Tag) : PyData.strOk a.s = true := by cases a <;> decide +kernel
section
variable {K : PySem.W.Frag} {σ : L2.St} {S H : Hp} {v : V} {ta tb tc : TE}
def qV : Rep K VT := ⟨fun H v x => ∃ a, v = .ref a ∧ H a = some (.tup (.str x.t.s :: x.ns.map .int)), fun {H H' v x} e h => by
  obtain ⟨a, h1, h2⟩ := h
  exact ⟨a, h1, e _ _ h2⟩⟩
def qN : Rep K (List Int) := ⟨fun H v x => ∃ a, v = .ref a ∧ H a = some (.tup (x.map .int)), fun {H H' v x} e h => by
  obtain ⟨a, h1, h2⟩ := h
  exact ⟨a, h1, e _ _ h2⟩⟩
theorem qV1 {t : Tag} {s : Str} {i : Int} (h : (qT2 (K := K) qS qI).R S v (s, i)) (e : s = t.s) : (qV (K := K)).R S v ⟨t, [i]⟩ := by
  obtain ⟨a, w1, w2, rfl, h2, h3, h4⟩ := h
  cases (show w1 = .str s from h3)
  cases (show w2 = .int i from h4)
  exact ⟨a, rfl, by rw [h2, e]; rfl⟩
theorem qV2 {t : Tag} {s : Str} {i j : Int} (h : (qT3 (K := K) qS qI qI).R S v (s, i, j)) (e : s = t.s) : (qV (K := K)).R S v ⟨t, [i, j]⟩ := by
  obtain ⟨a, w1, w2, w3, rfl, h2, h3, h4, h5⟩ := h
  cases (show w1 = .str s from h3)
  cases (show w2 = .int i from h4)
  cases (show w3 = .int j from h5)
  exact ⟨a, rfl, by rw [h2, e]; rfl⟩
theorem nn_v {x : VT} (h : (qV (K := K)).R H v x) : v ≠ .non := by
  obtain ⟨a, rfl, _⟩ := h
  exact fun z => nomatch z
theorem ty_v {x : VT} (h : (qV (K := K)).R H v x) : TyX K H v (.type "tuple") := by
  obtain ⟨a, rfl, h2⟩ := h
  exact .base (.tup h2)
theorem v_lenV {x : VT} (ha : Val ta σ H v) (h : (qV (K := K)).R H v x) : Val (tCB (rLenS K) (tCons ta tNil)) σ H (.int ((x.ns.length : Int) + 1)) := by
  obtain ⟨a, rfl, h2⟩ := h
  refine fun Q q => ha _ ⟨a, _, rfl, .inr (SqT.of h2), ?_⟩
  rw [List.length_cons, List.length_map]
  exact q
theorem v_V0 {x : VT} (ha : Val ta σ H v) (hb : Val tb σ H (.int 0)) (h : (qV (K := K)).R H v x) : Val (tOp (rIxT K) ta tb) σ H (.str x.t.s) := by
  obtain ⟨a, rfl, h2⟩ := h
  exact fun Q q => ha _ (hb _ ⟨a, _, 0, _, rfl, rfl, SqT.of h2, L2.atI_nat (j := 0) rfl, q⟩)
theorem dpInts {H : Hp} : ∀ xs : List Int, DpAll K H (xs.map .int) (xs.map .int)
  | [] => .nil
  | x :: xs => .cons (.int x) (dpInts xs)
def dV : Dat (K := K) qV := ⟨fun x => .tuple (.str x.t.s :: x.ns.map .int), fun {H v x} h => by
    obtain ⟨a, rfl, h2⟩ := h
    exact .tup (SqT.of h2) (.cons (.str _) (dpInts _)), fun x => by
    show PyData.canLayAll0 (.str x.t.s :: x.ns.map .int) = true
    have h : ∀ xs : List Int, PyData.canLayAll0 (xs.map .int) = true := fun xs => layAll (K := K) dI xs
    show (PyData.canLay0 (.str x.t.s) && PyData.canLayAll0 (x.ns.map .int)) = true
    rw [h, Bool.and_true]
    exact x.t.ok, 2, fun x => by
    have h : PyData.depthAll (x.ns.map .int) ≤ 1 := depAll (K := K) dI x.ns
    show PyData.depth (.tuple (.str x.t.s :: x.ns.map .int)) ≤ _
    simp only [PyData.depth, PyData.depthAll]
    omega, fun x y => by
    have h : PyData.eqvAll (x.ns.map .int) (y.ns.map .int) = decide (x.ns = y.ns) := eqvAllD (K := K) dI x.ns y.ns
    show PyData.eqvAll (.str x.t.s :: x.ns.map .int) (.str y.t.s :: y.ns.map .int) = _
    simp only [PyData.eqvAll]
    rw [h]
    have e : PyData.eqv (.str x.t.s) (.str y.t.s) = decide (x.t.s = y.t.s) := by
      show (x.t.s == y.t.s) = _
      rw [Bool.beq_eq_decide_eq]
    rw [e, ← Bool.decide_and]
    exact decide_eq_decide.mpr ⟨fun h => by
      cases x; cases y
      rw [VT.mk.injEq]
      exact ⟨Tag.inj h.1, h.2⟩, fun h => by rw [h]; exact ⟨rfl, rfl⟩⟩⟩
theorem nnV : NN (K := K) dV := fun _ => ⟨rfl, rfl⟩
/-- x[1:] of a fault -/
theorem e_tailV {x : VT} {Q : VK} (h : (qV (K := K)).R H v x) (k : ∀ p H', Same H H' → H p = none → H' p = some (.tup (x.ns.map .int)) → Q (.ref p) H') : rSlT K v (some 1) none H Q := by
  obtain ⟨a, rfl, h2⟩ := h
  have e : HT.sIx (V.str x.t.s :: x.ns.map .int).length 0 (some 1) = 1 := by
    rw [List.length_cons]
    show HT.sIx _ 0 (some ((1 : Nat) : Int)) = 1
    rw [HT.sIx_nat]
    omega
  refine ⟨a, _, rfl, SqT.of h2, fun z => ?_, fun p hp => ?_⟩
  · rw [e] at z
    exact absurd z.1 (by decide)
  · refine k p _ (same_upd hp) hp ?_
    rw [show cutV (V.str x.t.s :: x.ns.map .int) (some 1) none = x.ns.map .int from ?_]
    · exact upd_same
    · unfold cutV
      rw [e]
      show (List.drop 1 _).take ((V.str x.t.s :: x.ns.map .int).length - 1) = _
      rw [List.drop_one, List.tail_cons, List.length_cons, Nat.add_sub_cancel, List.take_length]
theorem z_forTE {D : Ends} {g : TG} {tb : TS} {tl : TE} {tu : TS} (h : tl σ H fun x H1 => tSeq (tFor (iTup K (tC x)) g tb) tu D σ H1) : tSeq (tFor (iTup K tl) g tb) tu D σ H := h
end
end Z

namespace Z
open PySem PySem.Spec PyProof.Rows L2
/-! ### errors told -/
def exE {α β : Type} (r : Except Nat α) (er : Nat → Option β) (ok : α → Option β) : Option β := match r with
  | .ok x => ok x
  | .error c => er c
theorem OP.exO {α β : Type} {x : α} {er : Nat → Option β} {ok : α → Option β} {A : β → Prop} (h : OP (exE (.ok x) er ok) A) : OP (ok x) A := h
theorem OP.exR {α β : Type} {c : Nat} {er : Nat → Option β} {ok : α → Option β} {A : β → Prop} (h : OP (exE (.error c) er ok) A) : OP (er c) A := h
theorem takesN {X : Cx} : Takes X (fun _ _ _ _ => False) := fun _ _ ⟨_, _, _, _, _, _, _, _, _, _, _, _, _, _, _, _, z⟩ => z.elim
theorem passL {X : Cx} : Passes (L2.CX X.prog X.w) X (fun _ _ _ => False) := passes_call takesN (fun _ _ _ _ h => h)
theorem z_cutj {σ : L2.St} {H : Hp} {D : Ends} {t tu : TS} (P : L2.St → Hp → Prop) (hP : ∀ σ' H', P σ' H' → tu D σ' H') (h : ∀ N : L2.St → Hp → Prop, (∀ σ' H', P σ' H' → N σ' H') → t { D with nx := N } σ H) : tSeq t tu D σ H := h _ hP
/-- the first clause, with a name, takes what the body raises -/
def wA1 (K : PySem.W.Frag) (c : Value) (i : Nat) (ts : Addr → Value → Option Addr → TS) (D : Ends) : WX := fun cls d σ H =>
  PySem.W.exmOne K cls c = some true ∧ ∀ a, H a = none → ts a cls d { nx := fun σ1 H1 => D.nx (σ1.set i none) H1, rt := D.rt, bk := fun σ1 H1 => D.bk (σ1.set i none) H1, ct := fun σ1 H1 => D.ct (σ1.set i none) H1 } (σ.set i (some (.ref a))) H
section
variable {X : Cx} {x n : Str} {c : Value} {i : Nat} {bd su : List Stmt} {st0 : Stmt} {hds : List ExceptHandler} {q1 q2 q3 : Pos} {tb : WX → TS} {ts : Addr → Value → Option Addr → TS}
theorem ps_tryA (eS : X.stack = X.env :: X.outer) (eF : X.env.frame = some X.env.locals) (nd : X.N.Nodup) (gi : X.N[i]? = some n) (lc : X.env.kindOf n = some .local) (nm : Names X x c)
    (hbd : ∀ (W : WX) (pn : List (Addr × Obj)) (xe : Value → Shared → Prop), Takes (X.tr pn xe) W → PassesOwn (model X.prog X.w) X.A X.env xe → PSs (X.tr pn xe) bd (tb W))
    (hs : ∀ (a : Addr) (oe : Obj) (cls : Value) (d : Option Addr) (pn : List (Addr × Obj)), Zc cls d oe → (∃ vs, oe.data = .fields vs) → PSs (X.suite a ((a, oe) :: pn)) (st0 :: su) (ts a cls d)) :
    PS X (.Try bd (.ExceptHandler (some (.Name x q1)) (some n) (st0 :: su) q2 :: hds) [] [] q3) (fun D σ H => tb (wA1 X.K c i ts D) D σ H) := ⟨fun pins s σ H D I h => by
  have okI := I.ok
  have frm : X.A.frames = some (X.env :: X.outer) := okI.frames.trans (congrArg some eS)
  refine wpAny_Try_except (wpAny_mono ((hbd (wA1 X.K c i ts D) (X.pn ++ pins) (fun e s₁ => wpAny (model X.prog X.w) X.A (noteFrame e X.env) (fun _ s₂ => wpAny (model X.prog X.w) X.A (setFlight e none) (fun _ s₃ => wpAny (model X.prog X.w) X.A (handleBy e X.env (.ExceptHandler (some (.Name x q1)) (some n) (st0 :: su) q2 :: hds)) (SP X pins D) X.xe s₃) X.xe s₂) X.xe s₁) (fun u t1 air => ?_) PassesOwn.looking).run [] s σ H D (I.toTry _) h) (fun fl t1 sp => ?_) fun e t1 z => z)
  · obtain ⟨ea, Bd, sB, pinsB, σB, HB, cls, dd, rfl, IB', nbB, upB, sky0, naB, osB, agB, em, wsh⟩ := air
    have IB : Inv X pins σB HB sB := Inv.ofTry IB' okI
    have sky1 : Sky Bd (X.env :: X.outer) ea (Zc cls dd) X.env.locals t1.heap := eS ▸ sky0
    show wpAny (model X.prog X.w) X.A (noteFrame (Value.ref ea) X.env) _ _ _
    refine Sky.land Zc.steady frm eF sky1 fun hA flA upA => ?_
    have IA : Inv X pins σB HB { t1 with heap := hA } := Inv.landed IB nbB flA.1 (upB.trans upA) osB agB
    obtain ⟨oA, vA, getA, zA, datA⟩ := flA.there
    have noF : ea ∉ frs (X.env :: X.outer) := fun hm => by
      obtain ⟨_, o', e', hnf⟩ := (flA.2.2.1).mem hm
      rw [getA] at e'; cases e'
      exact hnf _ datA
    have n1 : ea ≠ X.env.locals := fun z => noF (List.mem_filterMap.mpr ⟨X.env, List.mem_cons_self, by rw [eF, z]⟩)
    have n2 : ea ∉ X.fs := fun hm => by
      obtain ⟨e, he, q⟩ := List.mem_filterMap.mp hm
      exact noF (List.mem_filterMap.mpr ⟨e, List.mem_cons_of_mem _ he, q⟩)
    have SA := Inv.suite IA getA datA naB n1 n2
    refine wpAny_handleBy_cons (codeAny_handlers_test ?_) (fun q => by cases q)
    have lookT : PySem.W.Looks (model X.prog X.w) hA (typeOf (.ref ea)) cls := fun A Q E s k q => wpAny_typeOf_ref (k _ _ getA) (by rw [zA.1]; exact q)
    have lookM := PySem.W.exm_one (M := model X.prog X.w) IA.kIn lookT em
    have tst : ∀ {Q E : Value → Shared → Prop}, Q c { t1 with heap := hA } → wpAny (model X.prog X.w) (X.A.mark (some (.ref ea))) (eval (.Name x q1) X.env) Q E { t1 with heap := hA } := fun {Q E} q => by
      rcases nm with ⟨hg, hdbg, hm | ⟨hm, hv, hnn⟩⟩
      · exact ld_glob (X := X.suite ea ((ea, oA) :: (X.pn ++ pins))) SA hg hm q hdbg
      · exact ld_blt (X := X.suite ea ((ea, oA) :: (X.pn ++ pins))) SA hg hm hv q hnn hdbg
    refine tst (lookM.here (codeAny_handlers_suite_as (HandSPX.lands_againZ flA fun hC flC upC => ?_)))
    have IC : Inv X pins σB HB { t1 with heap := hC } := Inv.landed IB nbB flC.1 ((upB.trans upA).trans upC) osB agB
    obtain ⟨oC, vC, getC, zC, datC⟩ := flC.there
    refine store_ok (X := X.suite ea ((ea, oC) :: (X.pn ++ pins))) (v := .ref ea) (Inv.suite IC getC datC naB n1 n2) nd gi (.inl lc) rfl (fun s5 S5 => ?_) (.inr lc)
    refine wpAny_mono ((hs ea oC cls dd (X.pn ++ pins) zC ⟨_, datC⟩).run [] s5 _ HB _ S5 (wsh ea naB)) (fun fl s6 sp => ?_) fun _ _ z => z.elim
    have gone : ∀ {σ6 : L2.St} {H6 : Hp} {Q : Shared → Prop}, Inv (X.suite ea ((ea, oC) :: (X.pn ++ pins))) [] σ6 H6 s6 → (∀ s7, Inv X pins (σ6.set i none) H6 s7 → Q s7) →
        wpAny (model X.prog X.w) X.A (do bindName X.env n .none; unbindBehindTheSuite X.env n q2) (fun _ s7 => Q s7) X.xe s6 := fun {σ6 H6 Q} S6 hq => gone_ok (S6.unsuite okI) nd gi lc hq
    cases fl with
    | next =>
      obtain ⟨σ6, H6, S6, k6⟩ := sp
      exact gone S6 fun s7 J7 => ⟨_, _, J7, k6⟩
    | brk =>
      obtain ⟨σ6, H6, S6, k6⟩ := sp
      exact gone S6 fun s7 J7 => ⟨_, _, J7, k6⟩
    | cont =>
      obtain ⟨σ6, H6, S6, k6⟩ := sp
      exact gone S6 fun s7 J7 => ⟨_, _, J7, k6⟩
    | ret u =>
      obtain ⟨v6, σ6, H6, S6, r6, k6⟩ := sp
      exact gone S6 fun s7 J7 => ⟨_, _, _, J7, r6, k6⟩
  · cases fl with
    | next =>
      obtain ⟨σ1, H1, J1, k⟩ := sp
      exact wpAny_execs_nil ⟨σ1, H1, J1.ofTry okI, k⟩
    | brk =>
      obtain ⟨σ1, H1, J1, k⟩ := sp
      exact ⟨σ1, H1, J1.ofTry okI, k⟩
    | cont =>
      obtain ⟨σ1, H1, J1, k⟩ := sp
      exact ⟨σ1, H1, J1.ofTry okI, k⟩
    | ret u =>
      obtain ⟨v, σ1, H1, J1, r, k⟩ := sp
      exact ⟨v, σ1, H1, J1.ofTry okI, r, k⟩⟩
end
theorem EXP.sp {α β : Type} {x : Except Nat α} {P : α → Prop} {N : Nat → Prop} {er : Nat → Option β} {ok : α → Option β} {A : β → Prop} (h : OP (exE x er ok) A) (hr : ∀ c, x = .error c → OP (er c) A → N c) (ho : ∀ v, x = .ok v → OP (ok v) A → P v) : EXP x P N := by
  cases x with
  | ok v => exact ho v rfl h
  | error c => exact hr c rfl h
theorem z_seqE {σ : L2.St} {H : Hp} {D : Ends} {t tu : TS} (h : t { D with nx := tu D } σ H) : tSeq t tu D σ H := h
theorem z_sl {σ σ' : L2.St} {H : Hp} {D : Ends} {tu : TS} (e : σ = σ') (h : tu D σ' H) : tu D σ H := e ▸ h
/-- isinstance(e, c), isinstance(e, (c1, c2, ..)), e the exception that the suite holds -/
def rIsES (K : PySem.W.Frag) (cls : Value) (d : Option Addr) (a : Addr) : List V → Hp → VK → Prop := fun xs H Q => ∃ (D : Addr) (c : V) (cv : Value) (b : Bool), cls = .ref D ∧ d = none ∧ ExcC K D ∧ xs = [.ref a, c] ∧ ClsV c cv ∧ PySem.W.kitOne K (.ref D) cv = some b ∧ Q (.bl b) H
def rIsET (K : PySem.W.Frag) (cls : Value) (d : Option Addr) (a : Addr) : List V → Hp → VK → Prop := fun xs H Q => ∃ (D tp : Addr) (cs : List V) (us : List Value) (b : Bool), cls = .ref D ∧ d = none ∧ ExcC K D ∧ xs = [.ref a, .ref tp] ∧ H tp = some (.tup cs) ∧ Paired ClsV cs us ∧ PySem.W.kitAny K (.ref D) us = some b ∧ Q (.bl b) H
theorem pin_inst {X : Cx} {a D : Addr} {oe : Obj} {pn pins : List (Addr × Obj)} {σ : L2.St} {H : Hp} {s : Shared} (I : Inv (X.suite a ((a, oe) :: pn)) pins σ H s) (hz : Zc (.ref D) none oe) (hf : ∃ vs, oe.data = .fields vs) : PySem.W.InstAt s.heap a oe D none := by
  obtain ⟨gt, _⟩ := I.pin (a, oe) (List.mem_append.mpr (.inl List.mem_cons_self))
  obtain ⟨vs, hv⟩ := hf
  obtain ⟨oc, od, oda, osl⟩ := oe
  obtain ⟨z1, z2⟩ := hz
  dsimp only at z1 z2 hv
  subst z1 z2 hv
  exact ⟨gt, rfl, rfl, trivial⟩
theorem call_isES {X : Cx} {a : Addr} {cls : Value} {d : Option Addr} {oe : Obj} {pn : List (Addr × Obj)} (hz : Zc cls d oe) (hf : ∃ vs, oe.data = .fields vs) : CallR (X.suite a ((a, oe) :: pn)) (.builtin "isinstance") (rIsES X.K cls d a) := by
  intro pins s σ H xs us Q I r h
  obtain ⟨D, c, cv, b, rfl, rfl, C, rfl, kc, e, q⟩ := h
  exact call_isE C hz hf pins s σ H _ us Q I r ⟨c, cv, b, rfl, fun u ru => kc.eq ru, e, q⟩
theorem call_isET {X : Cx} {a : Addr} {cls : Value} {d : Option Addr} {oe : Obj} {pn : List (Addr × Obj)} (hz : Zc cls d oe) (hf : ∃ vs, oe.data = .fields vs) : CallR (X.suite a ((a, oe) :: pn)) (.builtin "isinstance") (rIsET X.K cls d a) := by
  intro pins s σ H xs us Q I r h
  obtain ⟨D, tp, cs, ws, b, rfl, rfl, C, rfl, hT, k, e, q⟩ := h
  obtain ⟨u1, u2, rfl, r1, r2⟩ := vals2 r
  cases (show u2 = Value.ref tp from r2)
  cases (show u1 = Value.ref a from r1)
  have J := pin_inst I hz hf
  obtain ⟨_, its, rv, o, h1, h2, n, h3⟩ := I.hok tp _ hT
  have e3 := ClsV.all k rv
  subst e3
  obtain ⟨oc, od, dt, sl⟩ := o
  simp only at h2 h3
  subst h2 h3
  exact PySem.W.kia_tup (PySem.W.handS_kitx_exc C.hg C.hk C.hs C.hd C.ha C.hn C.ht C.hm) I.kIn J h1 e (fun z => nomatch z) fun tk => ⟨.bl b, H, I.kept (t' := tk) fun _ _ z => z, rfl, q⟩
section
variable {K : PySem.W.Frag} {σ : L2.St} {H : Hp} {ta tb : TE} {a D : Addr} {c : V} {cv : Value} {b : Bool}
theorem v_isE (C : ExcC K D) (ha : Val ta σ H (.ref a)) (hb : Val tb σ H c) (kc : ClsV c cv) (e : PySem.W.kitOne K (.ref D) cv = some b) : Val (tCB (rIsES K (.ref D) none a) (tCons ta (tCons tb tNil))) σ H (.bl b) :=
  fun Q q => ha _ (hb _ ⟨D, c, cv, b, rfl, rfl, C, rfl, kc, e, q⟩)
end
theorem kit_bt {K : PySem.W.Frag} {D : Addr} {T : String} {b : Bool} (m : PySem.W.kitMeta T = true) (s : PySem.W.subIn K (.ref D) (.type T) = some b) : PySem.W.kitOne K (.ref D) (.type T) = some b := by
  unfold PySem.W.kitOne
  have hne : ((Value.ref D : Value) == Value.type T) = false := by
    cases e : ((Value.ref D : Value) == Value.type T) with
    | false => rfl
    | true => cases beq_iff_eq.mp e
  rw [hne, if_neg Bool.false_ne_true]
  unfold PySem.W.kitCls
  show (if PySem.W.kitMeta T = true then PySem.W.subIn K (.ref D) (.type T) else none) = _
  rw [if_pos m, s]
theorem bt_ValueError : bootBuiltins "ValueError" = some (.type "ValueError") := by decide +kernel
theorem meta_ValueError : PySem.W.kitMeta "ValueError" = true := by decide +kernel
/-- o.m(e, ..), where what is raised is wished for at the slots -/
def tMethX (C : Addr) (m : Str) (sp : Sp) (E : L2.St → XK) (ta : TE) (t : TA) : TE := fun σ H Q => ta σ H fun x H1 => ∃ a dx fs, x = .ref a ∧ H1 a = some (.ins C dx fs) ∧ fs.lookup m = none ∧ t σ H1 fun vs H2 => sp (x :: vs) H2 Q (E σ)
theorem pe_methX {X : Cx} {CX : CXT} {k : Nat} {f C : Addr} {fd : FuncData} {ps : List Str} {sp : Sp} {E : L2.St → XK} {m : Str} {pos apos : Pos} {e o : Expr} {es : List Expr} {ta : TE} {t : TA} {pl : Sem Bool} (he : PE X o ta) (c : Cls X.K C) (hm : Meth X.K C m f) (F : FnOk X.prog X.w X.K X.mg X.base CX k f fd ps sp) (hr : Room k X.A) (hb : Binds X.K fd ps []) (hx : ∀ σ, PassesAt CX X σ (E σ)) (ha : PA X (e :: es) t)
    (hst : starEach (e :: es) X.env = (false, eval e X.env) :: starEach es X.env := by rfl) (hpl : (backTo pos (starEach es X.env)).any (·.1) = false := by rfl)
    (ht : eval (.Call (.Attribute o m apos) (e :: es) [] pos) X.env = (eval o X.env >>= fun ov => standAt apos.atName >>= fun _ => holding [ov] (getMethod ov m pl) >>= fun z => callWith pos z.1 z.2 (backTo pos (starEach (e :: es) X.env)) (backToKw pos (keywordEach [] X.env))) := by rfl) :
    PE X (.Call (.Attribute o m apos) (e :: es) [] pos) (tMethX C m sp E ta t) := ⟨fun pins s σ H Q I h => by
  refine PySem.W.methodCall_KW (pl := pl) (thn (he.run pins s σ H _ I h) fun u s1 ⟨x, H1, I1, rx, a, dx, fs, ex, ea, l, q⟩ => ?_) ht
  cases ex
  cases (show u = Value.ref a from rx)
  refine getmeth_ok I1 ea c hm l (PySem.W.callWith_K (first := [.ref a]) (h₀ := X.base) I.ok.mod.kin hm.kp (thn (ha.run pos pins s1 σ H1 _ I1 q) fun us s2 ⟨vs, H2, I2, r, q2⟩ => ⟨I2.kIn, ?_⟩) hst hpl)
  exact run_fnS (us := .ref a :: us) (vs := .ref a :: vs) F hr hb (hx σ) I2 (.cons rfl r) q2⟩
theorem kitAny_f {K : PySem.W.Frag} {t c : Value} {r : List Value} {b : Bool} (h : PySem.W.kitOne K t c = some false) (k : PySem.W.kitAny K t r = some b) : PySem.W.kitAny K t (c :: r) = some b := by
  unfold PySem.W.kitAny
  rw [h]
  exact k
theorem kitAny_t {K : PySem.W.Frag} {t c : Value} {r : List Value} (h : PySem.W.kitOne K t c = some true) : PySem.W.kitAny K t (c :: r) = some true := by
  unfold PySem.W.kitAny
  rw [h]
end Z
namespace Z
open PySem PySem.Spec PyProof.Rows L2
theorem z_suite {σ σ' : L2.St} {H : Hp} {D : Ends} {t tu : TS} {i : Nat} {a : Addr} (e : σ.set i (some (.ref a)) = σ') (h : ∀ (N Bk Ct : L2.St → Hp → Prop), (∀ σ1 H1, tu D (σ1.set i none) H1 → N σ1 H1) → t { nx := N, rt := D.rt, bk := Bk, ct := Ct } σ' H) :
    t { nx := fun σ1 H1 => (tu D) (σ1.set i none) H1, rt := D.rt, bk := fun σ1 H1 => D.bk (σ1.set i none) H1, ct := fun σ1 H1 => D.ct (σ1.set i none) H1 } (σ.set i (some (.ref a))) H := e ▸ h _ _ _ fun _ _ z => z
end Z
namespace Z
open PySem PySem.Spec PyProof.Rows L2
theorem c_callS {sp : Sp} {E : L2.St → XK} {tr : TA} {σ : L2.St} {H : Hp} {Q : VK} (h : tr σ H fun vs H1 => sp vs H1 Q (E σ)) : tCallS sp E tr σ H Q := h
end Z

namespace Z
open PySem PySem.Spec PyProof.Rows L2 PySem.Calls
/-! ### sorted(d.keys()) -/
def tSortKeys (te : TE) : TE := fun σ H Q => te σ H fun v H1 => ∃ (a : Addr) (kvs : List (Key × V)) (ks : List Int), v = .ref a ∧ H1 a = some (.dK kvs) ∧ kvs.map (·.1) = ks.map .inl ∧
  ∀ (zs : List Int) (p : Addr), zs.Perm ks → zs.Pairwise (· ≤ ·) → H1 p = none → Q (.ref p) (upd H1 p (.lst (zs.map V.int)))
theorem kv_keys : ∀ {kvs : List (Key × V)} {vs : List (Key × Value)}, KV kvs vs → kvs.map (·.1) = vs.map (·.1)
  | _, _, .nil => rfl
  | _, _, .cons a b => by rw [List.map_cons, List.map_cons, a.1, kv_keys b]
theorem keysInts {P : Program} {w : World} : ∀ {us : List Value} {ks : List Int} {vs : List (Key × Value)}, us.length = vs.length → (∀ (i : Nat) (v : Value), us[i]? = some v → ∃ k x, vs[i]? = some (k, x) ∧ (mixKind P w).is k v = true) → vs.map (·.1) = ks.map .inl → IntsAre us ks
  | [], ks, vs, hl, _, hk => by
    cases vs with
    | nil =>
      cases ks with
      | nil => exact .nil
      | cons => cases hk
    | cons => cases hl
  | u :: us, ks, vs, hl, h, hk => by
    cases vs with
    | nil => cases hl
    | cons q vs =>
      cases ks with
      | nil => cases hk
      | cons n ks =>
        rw [List.map_cons, List.map_cons] at hk
        injection hk with h1 h2
        obtain ⟨k, x, e, i⟩ := h 0 u rfl
        rw [List.getElem?_cons_zero] at e
        cases e
        rw [mixKind_is] at i
        have h1' : k = Sum.inl n := h1
        subst h1'
        rcases keyIs_shape i with ⟨j, t, e1, e2⟩ | ⟨y, t, e1, e2⟩
        · cases e1
          subst e2
          exact .cons n t (keysInts (P := P) (w := w) (by simpa using hl) (fun i v e => h (i + 1) v (by rw [List.getElem?_cons_succ]; exact e)) h2)
        · cases e1
theorem pe_sortedKeys {X : Cx} {e : Expr} {te : TE} {p pos apos cpos : Pos} (hc : X.calm = true) (hg : Gl X "sorted") (hm : X.mg "sorted" = none) (he : PE X e te)
    (hbase : attributeBase e "keys" X.env (eval e X.env) = eval e X.env := by rfl) (hline : (apos.endLine == cpos.line) = true := by rfl)
    (hs : starEach [.Call (.Attribute e "keys" apos) [] [] cpos] X.env = (false, eval (.Call (.Attribute e "keys" apos) [] [] cpos) X.env) :: starEach [] X.env := by rfl) :
    PE X (.Call (.Name "sorted" p) [.Call (.Attribute e "keys" apos) [] [] cpos] [] pos) (tSortKeys te) := by
  refine ⟨fun pins s σ H Q I h => ?_⟩
  refine wpAny_Call_Name_kw (ld_blt I hg hm bt_sorted ?_)
  refine PyProof.Rows.callWith_builtin1 (args_cons ?_ hs) hs rfl
  refine wpAny_Call_method (T := "dict") (id := "dict.keys") hbase rfl hline F.plainAttrs_dict F.slot_dict_keys F.type_dict_keys (thn (he.run pins s σ H _ I h) fun u s1 ⟨x, H1, I1, rx, d, kvs, ks, ex, hd, hks, q⟩ => ?_)
  subst ex
  obtain rfl : u = Value.ref d := rx
  obtain ⟨hz, hgd, vs, kv, hm⟩ := I1.hok d _ hd
  have hl : kvs.length = vs.length := Paired.length kv
  refine ⟨hm.typeIs, hm.mapOf.noDict, ?_⟩
  have I2 : Inv X pins σ H1 { s1 with heap := s1.heap.push { cls := .type "dict_keys", data := .fields #[.ref d] } } := I1.kept (t' := s1.toks) fun b ob q => Heap.get?_push_of_some _ q
  have fin : wpAny (model X.prog X.w) X.A (call (.builtin "sorted") [.ref s1.heap.objs.size]) (EP X pins σ Q) X.xe { s1 with heap := s1.heap.push { cls := .type "dict_keys", data := .fields #[.ref d] } } := by
    obtain ⟨ep, hat⟩ := hm.dictAt
    have hat2 := hat.push { cls := .type "dict_keys", data := .fields #[.ref d] }
    refine call_function_entry kind_sorted plain_sorted entry_sorted (args_sorted1 _) ?_
    unfold Builtin.«sorted»
    refine wpAny_bind (m := checkCount "sorted" 1 1 _) (wpAny_pure ?_)
    refine wpAny_bind (PySem.W.kdu_collect (A := X.A.in1) (PySem.W.kdl_keys (knd := mixKind X.prog X.w) (kvs := vs) (ep := ep)) (I1.ok.hd hc) ⟨⟨_, Heap.get?_push_size _ rfl, rfl, rfl⟩, hat2⟩ (by rw [← hl]; exact hz) fun h' tk acc hk hacc => ?_)
    have hlen : acc.toList.length = vs.length := by rw [Array.length_toList]; exact hacc.1
    refine wpAny_bind (wpAny_newList ?_ (by rw [hlen, ← hl]; exact hz))
    have hi : IntsAre acc.toList ks := keysInts (P := X.prog) (w := X.w) hlen (fun j v e => hacc.2 j v (by rw [← Array.getElem?_toList]; exact e)) ((kv_keys kv).symm.trans hks)
    have hzz : acc.toList.length ≤ sizeLine := by rw [hlen, ← hl]; exact hz
    have hob : (h'.push { cls := .type "list", data := .seq acc.toList.toArray }).get? h'.objs.size = some { cls := .type "list", data := .seq acc.toList.toArray } := Heap.get?_push_size _ rfl
    refine wpAny_bind (wpAny_holding (wpAny_call_entry slot_list_sort ⟨_, hob, rfl⟩ entry_list_sort (SrtO.list_sort_ord SrtO.swo_int hob hzz (fun h2 => SrtO.ints_sortable hi h2) fun out h1 h2 => ⟨_, rfl, ?_⟩) (args_list_sort _)))
    refine wpAny_pure ⟨_, rfl, ?_⟩
    obtain ⟨k1, k2, k3⟩ := SrtO.ints_out hi h1 h2
    obtain ⟨ep2, he'⟩ := PyProof.Rows.sortedHeap_at (vs := acc.toList) (out := out.toArray) hob
    have hlo : ((out.map SrtO.iv).map V.int).length ≤ sizeLine := by
      rw [List.length_map, k2.length_eq]
      have := congrArg List.length hks
      rw [List.length_map, List.length_map] at this
      rw [← this]; exact hz
    have old : ∀ b u, (s1.heap.push { cls := .type "dict_keys", data := .fields #[.ref d] }).get? b = some u → (sortedHeap (h'.push { cls := .type "list", data := .seq acc.toList.toArray }) h'.objs.size acc.toList out.toArray).get? b = some u := fun b u hu => by
      have h3 := hk b u hu
      have h4 : (h'.push { cls := .type "list", data := .seq acc.toList.toArray }).get? b = some u := Heap.get?_push_of_some _ h3
      rw [PyProof.Rows.sortedHeap_old (Nat.ne_of_lt (Heap.lt_size h3)) (Heap.lt_size h4)]
      exact h4
    have hsz : s1.heap.objs.size + 1 ≤ h'.objs.size := by
      have h3 := hk s1.heap.objs.size _ (Heap.get?_push_size _ rfl)
      exact Heap.lt_size h3
    have hpz : (s1.heap.push { cls := .type "dict_keys", data := .fields #[.ref d] }).objs.size ≤ h'.objs.size := by rw [size_push']; exact hsz
    exact ⟨.ref _, upd H1 h'.objs.size (.lst ((out.map SrtO.iv).map V.int)), I2.laid (t' := tk) old hpz ⟨hlo, out, ep2, vals_of_ints k1, he'⟩, rfl, q _ _ k2 k3 (I2.hok.fresh hpz)⟩
  show wpAny _ _ (callWith cpos (.builtin "dict.keys") [.ref d] [] []) _ _ s1
  exact method_meetsIn F.slot_dict_keys F.entry_dict_keys rfl (PySem.evalArgs_none ⟨rfl, hm.typeIs, F.args_dict_keys_1 _, _, PySem.W.kdl_meets_keys (mixKind X.prog X.w) d hgd, ⟨vs, hm⟩, args_nil fin⟩)
end Z
namespace Z
open PySem PySem.Spec PyProof.Rows L2
/-! ### dicts of one's own, keys ints -/
section
variable {K : PySem.W.Frag} {σ : L2.St} {S H S0 H0 : Hp} {L : List Addr} {ta tb te : TE} {β : Type} {Q : VK} {v : V} {D : Ends} {tu : TS}
def kvD (vf : β → V) (x : List (Int × β)) : List (Key × V) := x.map fun p => (.inl p.1, vf p.2)
def KR (vf : β → V) (kvs : List (Key × V)) (x : List (Int × β)) : Prop := kvs = kvD vf x
def putD (x : List (Int × β)) (k : Int) (v : β) : List (Int × β) := if (x.any fun p => decide (p.1 = k)) = true then x.map (fun p => if p.1 = k then (p.1, v) else p) else x ++ [(k, v)]
theorem KR.nil {vf : β → V} : KR vf [] [] := rfl
theorem KR.length {vf : β → V} {kvs : List (Key × V)} {x : List (Int × β)} (h : KR vf kvs x) : kvs.length = x.length := by rw [h]; unfold kvD; rw [List.length_map]
theorem KR.keys {vf : β → V} {kvs : List (Key × V)} {x : List (Int × β)} (h : KR vf kvs x) : kvs.map (·.1) = (x.map (·.1)).map .inl := by
  rw [h]
  unfold kvD
  rw [List.map_map, List.map_map]
  rfl
theorem KR.put {vf : β → V} {kvs : List (Key × V)} {x : List (Int × β)} (h : KR vf kvs x) (k : Int) (v : β) : KR vf (putK kvs (.inl k) (vf v)) (putD x k v) := by
  have inl : ∀ a : Int, decide ((Sum.inl a : Key) = .inl k) = decide (a = k) := fun a => decide_eq_decide.mpr ⟨fun e => Sum.inl.inj e, fun e => by rw [e]⟩
  have e1 : (kvs.any fun kv => decide (kv.1 = (.inl k : Key))) = x.any fun p => decide (p.1 = k) := by
    rw [h]
    unfold kvD
    rw [List.any_map]
    congr 1
    funext p
    exact inl p.1
  unfold KR putK putD
  rw [e1]
  split
  · rw [h]
    unfold kvD
    rw [List.map_map, List.map_map]
    apply List.map_congr_left
    intro p _
    show (if (Sum.inl p.1 : Key) = .inl k then ((Sum.inl p.1 : Key), vf v) else (.inl p.1, vf p.2)) = _
    by_cases e : p.1 = k
    · rw [if_pos (by rw [e])]
      show _ = ((.inl (if p.1 = k then (p.1, v) else p).1 : Key), vf (if p.1 = k then (p.1, v) else p).2)
      rw [if_pos e]
    · rw [if_neg (fun q => e (Sum.inl.inj q))]
      show _ = ((.inl (if p.1 = k then (p.1, v) else p).1 : Key), vf (if p.1 = k then (p.1, v) else p).2)
      rw [if_neg e]
  · rw [h]
    unfold kvD
    rw [List.map_append]
    rfl
theorem c_newdK (k : ∀ p H', Same H H' → H p = none → H' p = some (.dK []) → Q (.ref p) H') : tDNewK σ H Q := fun p hp => k p _ (same_upd hp) hp upd_same
theorem c_dnE (h : ∀ Q' : VK, Q' = Q → tDNewK σ H Q') : tDNewK σ H Q := h _ rfl
theorem c_setD {vf : β → V} {l : Addr} {kvs : List (Key × V)} {x : List (Int × β)} {i : Int} {q : β} (g : Grow L S0 H0 S H) (cl : Cel L H0 S H l (.dK kvs)) (r : KR vf kvs x) (ho : Val ta σ H (.ref l)) (hi : Val tb σ H (.int i)) (hz : x.length < 16777216)
    (k : ∀ kvs' H', Grow L S0 H0 S H' → Cel L H0 S H' l (.dK kvs') → KR vf kvs' (putD x i q) → (∀ l' o', l' ≠ l → Cel L H0 S H l' o' → Cel L H0 S H' l' o') → tu D σ H') : gSub ta tb rSetD (vf q) σ H (tu D) :=
  ho _ (hi _ ⟨l, _, rfl, DPut.k (k := .inl i) cl.h (by rw [r.length]; show _ < sizeLine; rw [sizeLine_eq]; exact hz), k _ _ (g.wr cl rfl) (cl.wr rfl) (r.put i q) fun l' o' n c => c.wrn n⟩)
theorem c_skE (h : ∀ Q' : VK, Q' = Q → tSortKeys te σ H Q') : tSortKeys te σ H Q := h _ rfl
theorem l_sortKeys {vf : β → V} {l : Addr} {kvs : List (Key × V)} {x : List (Int × β)} (ha : Val te σ H (.ref l)) (cl : Cel L H0 S H l (.dK kvs)) (r : KR vf kvs x) (k : ∀ p ws H', Same H H' → H p = none → H' p = some (.lst ws) → RL (K := K) qI S ws (sortI (x.map (·.1))) → Q (.ref p) H') : tSortKeys te σ H Q :=
  ha _ ⟨l, kvs, x.map (·.1), rfl, cl.h, r.keys, fun zs p h1 h2 hp => by
    have s1 : SrtO.Srtd ltI zs := h2.imp fun h => decide_eq_false (by omega)
    have : zs = sortI (x.map (·.1)) := srt_uniq ltI_tot (h1.trans (sortB_perm _).symm) s1 (sortB_srt ltI_asy ltI_tr _)
    subst this
    exact k p _ _ (same_upd hp) hp upd_same (RL.map V.int (fun _ => rfl) _)⟩
end
end Z

namespace Z
open PySem PySem.Spec PyProof.Rows L2
/-! ### texts -/
section
variable {K : PySem.W.Frag} {σ : L2.St} {S H S0 H0 : Hp} {L : List Addr} {ta tb te : TE} {Q : VK} {v : V} {D : Ends} {tu : TS}
def chS (s : Str) (i : Int) : Option Str := (L2.atI s.cps.toList i).map fun c => ⟨#[c]⟩
theorem v_chr {s c : Str} {i : Int} (ha : Val ta σ H (.str s)) (hb : Val tb σ H (.int i)) (hz : s.length ≤ 16777216) (he : chS s i = some c) : Val (tOp rIxS ta tb) σ H (.str c) := fun Q q => by
  unfold chS at he
  obtain ⟨n, e1, rfl⟩ := Option.map_eq_some_iff.mp he
  exact ha _ (hb _ ⟨s, i, n, rfl, rfl, hz, e1, q⟩)
@[irreducible] def inS (a b : Str) : Bool := !(Builtin.Str.occurrences b a 0 b.length 1).isEmpty
def rInT : R2 := fun x y H Q => ∃ i j, x = .str i ∧ y = .str j ∧ Q (.bl (!(Builtin.Str.occurrences j i 0 j.length 1).isEmpty)) H
def rNinT : R2 := fun x y H Q => ∃ i j, x = .str i ∧ y = .str j ∧ Q (.bl (!(!(Builtin.Str.occurrences j i 0 j.length 1).isEmpty))) H
theorem op_inT {X : Cx} : OpR X (compareOp .In) rInT := op_in_str
theorem op_ninT {X : Cx} : OpR X (compareOp .NotIn) rNinT := op_notin_str
theorem v_inS {a b : Str} (ha : Val ta σ H (.str a)) (hb : Val tb σ H (.str b)) : Val (tOp rInT ta tb) σ H (.bl (inS a b)) := fun Q q => ha _ (hb _ ⟨a, b, rfl, rfl, by unfold inS at q; exact q⟩)
theorem v_ninS {a b : Str} (ha : Val ta σ H (.str a)) (hb : Val tb σ H (.str b)) : Val (tOp rNinT ta tb) σ H (.bl (!(inS a b))) := fun Q q => ha _ (hb _ ⟨a, b, rfl, rfl, by unfold inS at q; exact q⟩)
theorem v_cutS {s : Str} {tl th : TO} {lo hi : Option Int} (ha : Val te σ H (.str s)) (hl : ∀ q : Option Int → Hp → Prop, q lo H → tl σ H q) (hh : ∀ q : Option Int → Hp → Prop, q hi H → th σ H q) (hz : s.length ≤ 16777216) :
    Val (tSl rSlS te tl th) σ H (.str (cutS s lo hi)) := fun Q q => c_slice ha hl hh ⟨s, rfl, hz, q⟩
def gStr (i : Int) : Prop := i.natAbs < 1073741824
instance (i : Int) : Decidable (gStr i) := by unfold gStr; infer_instance
def strI (i : Int) : Str := (toString i : String)
theorem v_strI {i : Int} (ha : Val ta σ H (.int i)) (hz : gStr i) : Val (tCB (fun xs H Q => ∃ i, xs = [.int i] ∧ i.natAbs.log2 < 1920 ∧ Q (.str (toString i)) H) (tCons ta tNil)) σ H (.str (strI i)) := fun Q q => ha _ ⟨i, rfl, by
  unfold gStr at hz
  by_cases h0 : i.natAbs = 0
  · rw [h0]; decide
  · have := Nat.log2_lt (n := i.natAbs) (k := 30) h0
    have h2 : i.natAbs.log2 < 30 := this.mpr hz
    omega, q⟩
/-! a text's sgs -/
def sgs (x : Str) : List Str := x.cps.toList.map fun c => ⟨#[c]⟩
theorem z_forS {x : Str} {te : TE} {g : TG} {tb : TS} (ha : Val te σ H (.str x)) (Pv : List Str → L2.St → Hp → Prop) (h0 : Pv (sgs x) σ H)
    (hs : ∀ y ys σ' H', Pv (y :: ys) σ' H' → ∀ N : L2.St → Hp → Prop, (∀ σ'' H'', Pv ys σ'' H'' → N σ'' H'') → g (.str y) σ' H' fun σ2 H2 => tb { D with nx := N, ct := N, bk := tu D } σ2 H2) (hd : ∀ σ' H', Pv [] σ' H' → tu D σ' H') :
    tSeq (tFor (iStr te) g tb) tu D σ H := ha _ ⟨x, rfl, by
  refine ⟨fun i m σ H => i ≤ x.cps.size ∧ m = x.cps.size - i ∧ Pv ((sgs x).drop i) σ H, ⟨_, Nat.zero_le _, rfl, h0⟩, fun i m σ H h => ?_⟩
  obtain ⟨hi, rfl, hp⟩ := h
  have hl : (sgs x).length = x.cps.size := by unfold sgs; rw [List.length_map, Array.length_toList]
  by_cases hc : i < x.cps.size
  · refine .inr ⟨hc, fun σ' H' => Pv ((sgs x).drop (i + 1)) σ' H', fun σ' H' q => ⟨x.cps.size - (i + 1), by omega, by omega, rfl, q⟩, fun v H' hy => ?_⟩
    obtain ⟨rfl, c, ec, rfl⟩ := hy
    have e : (sgs x).drop i = (⟨#[c]⟩ : Str) :: (sgs x).drop (i + 1) := by
      rw [List.drop_eq_getElem_cons (by rw [hl]; exact hc)]
      congr 1
      unfold sgs
      rw [List.getElem_map, Array.getElem_toList]
      rw [Array.getElem?_eq_getElem hc] at ec
      rw [Option.some.inj ec]
    rw [e] at hp
    exact hs _ _ σ H' hp _ fun σ'' H'' z => z
  · refine .inl ⟨by show x.cps.size ≤ i; omega, ?_⟩
    rw [List.drop_eq_nil_of_le (by omega)] at hp
    exact hd _ _ hp⟩
/-! x in a new tuple of texts -/
theorem inV_str (x : Str) : ∀ ys : List Str, inV (.str x) (ys.map V.str) = ys.any fun y => decide (y = x)
  | [] => rfl
  | y :: ys => by
    show (y == x || inV (.str x) (ys.map V.str)) = _
    rw [inV_str x ys, List.any_cons]
    congr 1
theorem e_inTS {x : Str} {p : Addr} {ys : List Str} (h : H p = some (.tup (ys.map V.str))) (q : Q (.bl (ys.any fun y => decide (y = x))) H) : rIn K false (.str x) (.ref p) H Q :=
  ⟨p, _, rfl, .inr (SqT.of h), rfl, by rw [List.all_map]; exact List.all_eq_true.mpr fun _ _ => rfl, by
    show Q (.bl (inV _ _)) H
    rw [inV_str]; exact q⟩
end
end Z
namespace Z
open PySem PySem.Spec PyProof.Rows L2
/-! ### enumerate(text) -/
theorem draws_str {prog : Program} {w : World} {A : Around} (hh : A.handled = none) (it : Addr) (x : Str) (t : Tok) :
    Draws prog w A it [it] x.cps.size (fun i v => ∃ c u, x.cps[i]? = some c ∧ v = .str ⟨#[c]⟩ u) (fun i h => h.IsStrIter it (strIterType x) x t i) := by
  unfold strIterType
  split
  · exact Draws.strAscii hh it x t
  · exact Draws.strWide hh it x t
def Iten (x : Str) : It :=
  ⟨fun i _ => i < x.cps.size, fun i H v H' => ∃ T c, v = .ref T ∧ H T = none ∧ H' = upd H T (.tup [.int (i : Nat), .str ⟨#[c]⟩]) ∧ x.cps[i]? = some c, fun i _ => x.cps.size ≤ i⟩
theorem turn_enumS {P : Program} {w : World} {K : PySem.W.Frag} {elts : List Expr} {kk : Nat} {tpos : Pos} (x : Str) (t : Tok) (e it : Addr) :
    Turn P w K (.Tuple elts kk tpos) (Iten x) [e, it] e (fun i h => (∃ old, IsEnum h e it ((i : Nat) : Int) old) ∧ h.IsStrIter it (strIterType x) x t i ∧ e ≠ it ∧ i ≤ x.cps.size) where
  mem := by simp
  obj := fun i h st b hb => by
    obtain ⟨⟨old, he⟩, ⟨o, ho, hc, hd⟩, _⟩ := st
    have e' : b = e ∨ b = it := by simpa using hb
    rcases e' with z | z
    · rw [z]; exact ⟨_, he, fun v q => nomatch q⟩
    · rw [z]; exact ⟨o, ho, fun v q => by rw [hd] at q; cases q⟩
  keep := fun i h h' st k => let ⟨⟨old, he⟩, ⟨o, ho, r⟩, hne⟩ := st; ⟨⟨old, k e (by simp) _ he⟩, ⟨o, k it (by simp) o ho, r⟩, hne⟩
  item := by
    intro X hP hw hK hc i pins s σ H E I hf st hg
    subst hP hw hK
    obtain ⟨⟨old, he⟩, hit, hne, hsz0⟩ := st
    have hel : e < s.heap.objs.size := Heap.lt_size he
    have hil : it < s.heap.objs.size := by obtain ⟨_, q, _⟩ := hit; exact Heap.lt_size q
    refine wpAny_pyNext_enum_itemD (draws_str (show X.A.in1.handled = none from I.ok.hd hc) it x t) he hit hg hne (by simp [hne]) fun v h' tk hv ho hit' hT hsz hk => ?_
    obtain ⟨c, u, hcx, rfl⟩ := hv
    refine ⟨_, rfl, wpAny_letOwnedTupleGo_enum (s := { s with heap := h', toks := tk + 1 }) ho fun h'' he' sb => ?_⟩
    have hT2 : h''.get? s.heap.objs.size = some { cls := .type "tuple", data := .seq #[.int i tk, .str ⟨#[c]⟩ u] } := (sb.2 _ (Nat.ne_of_gt hel)).trans hT
    have new : ObjOk X.prog X.w (upd H s.heap.objs.size (.tup [.int (i : Nat), .str ⟨#[c]⟩])) h'' s.heap.objs.size (.tup [.int (i : Nat), .str ⟨#[c]⟩]) :=
      ⟨by show 2 ≤ sizeLine; decide, [.int i tk, .str ⟨#[c]⟩ u], .cons ⟨_, rfl⟩ (.cons ⟨_, rfl⟩ .nil), ⟨_, hT2, rfl, _, rfl⟩⟩
    have I1 : Inv X pins σ (upd H s.heap.objs.size (.tup [.int (i : Nat), .str ⟨#[c]⟩])) { s with heap := h'', toks := tk + 1 } :=
      I.turnedNew (ch := [e, it]) (fun b ob hb q => (sb.2 b (fun z => hb (by simp [z]))).trans (hk b ob (fun z => hb (by simp [z])) (fun z => hb (by simp [z])) q)) hf (Nat.le_refl _) new
    have hit2 : h''.IsStrIter it (strIterType x) x t (i + 1) := by
      obtain ⟨o, q1, q2⟩ := hit'
      exact ⟨o, (sb.2 it (Ne.symm hne)).trans q1, q2⟩
    refine ⟨.ref s.heap.objs.size, _, I1, rfl, ⟨_, c, rfl, I.hok.fresh (Nat.le_refl _), rfl, hcx⟩, ⟨⟨Value.str ⟨#[c]⟩ u, ?_⟩, hit2, hne, hg⟩, fun b hb => ?_⟩
    · have e1 : ((i + 1 : Nat) : Int) = (i : Int) + 1 := by omega
      rw [e1]; exact he'
    · have hb' : b < s.heap.objs.size := by
        have e' : b = e ∨ b = it := by simpa using hb
        rcases e' with z | z
        · rw [z]; exact hel
        · rw [z]; exact hil
      rw [upd_ne (Nat.ne_of_lt hb')]
      exact (hf b hb).1
  done := by
    intro X hP hw hK hc i pins s σ H E I hf st hg
    subst hP hw hK
    obtain ⟨⟨old, he⟩, hit, hne, hsz0⟩ := st
    obtain ⟨f0, f1, f2, f3, f4, f5⟩ := hf it (by simp)
    obtain rfl : i = x.cps.size := Nat.le_antisymm hsz0 hg
    exact wpAny_pyNext_enum_endD (draws_str (show X.A.in1.handled = none from I.ok.hd hc) it x t) he hit fun h' eb => ⟨rfl, I.turned (t' := s.toks) (fun b o hb q => eb b o hb q) f0 f1 f3 f4 f5⟩
  self := fun A i s Q E st h => let ⟨⟨_, he⟩, _⟩ := st; wpAny_pyIter_enum he h
def iEnumS (ta : TA) : TI := fun σ H R => ta σ H fun vs H1 => ∃ x, vs = [.str x] ∧ R (Iten x) H1
theorem pi_enumS {X : Cx} {e : Expr} {ta : TA} {p pos tpos : Pos} {elts : List Expr} {kk : Nat} (hg : Gl X "enumerate") (hm : X.mg "enumerate" = none) (ha : PA X [e] ta) (hs : starEach [e] X.env = [(false, eval e X.env)] := by rfl) :
    PI X (.Tuple elts kk tpos) (.Call (.Name "enumerate" p) [e] [] pos) (iEnumS ta) := by
  refine ⟨fun pins s σ H R I h => ?_⟩
  refine Call_ (ld_blt I hg hm boot_enumerate (PyProof.Rows.callWith_type1 (thn (ha.run pos pins s σ H _ I h) fun us s1 ⟨vs, H1, I1, r1, q1⟩ => ?_) hs rfl))
  obtain ⟨x, ex, q⟩ := q1
  subst ex
  cases r1 with
  | cons r rr =>
    cases rr
    obtain ⟨t, rfl⟩ := r
    refine call_enumerate_str fun h' he hit hsz hk => wpAny_pyIter_enum he ?_
    have I2 : Inv X pins σ H1 { s1 with heap := h' } := I1.kept (t' := s1.toks) hk
    refine ⟨s1.heap.objs.size + 1, [s1.heap.objs.size + 1, s1.heap.objs.size], _, _, H1, rfl, I2, turn_enumS x t (s1.heap.objs.size + 1) s1.heap.objs.size, ⟨⟨.none, he⟩, hit, Nat.succ_ne_self _, Nat.zero_le _⟩, fun b hb => ?_, q⟩
    have e' : b = s1.heap.objs.size + 1 ∨ b = s1.heap.objs.size := by simpa using hb
    have hle : s1.heap.objs.size ≤ b := by
      rcases e' with z | z
      · rw [z]; exact Nat.le_add_right _ _
      · rw [z]; exact Nat.le_refl _
    exact I1.fpOk hle (I1.hok.fresh hle)
section
variable {K : PySem.W.Frag} {σ : L2.St} {H : Hp} {te : TE} {D : Ends} {tu : TS}
theorem z_forNS {x : Str} {g : TG} {tb : TS} (ha : Val te σ H (.str x)) (Pv : List (Int × Str) → L2.St → Hp → Prop) (h0 : Pv (enumI (sgs x)) σ H)
    (hs : ∀ (y : Int × Str) ys σ' H', Pv (y :: ys) σ' H' → ∀ N : L2.St → Hp → Prop, (∀ σ'' H'', Pv ys σ'' H'' → N σ'' H'') → ∀ t, H' t = none → g (.ref t) σ' (upd H' t (.tup [.int y.1, .str y.2])) fun σ2 H2 => tb { D with nx := N, ct := N, bk := tu D } σ2 H2) (hd : ∀ σ' H', Pv [] σ' H' → tu D σ' H') :
    tSeq (tFor (iEnumS (tCons te tNil)) g tb) tu D σ H := ha _ ⟨x, rfl, by
  have hl : (sgs x).length = x.cps.size := by unfold sgs; rw [List.length_map, Array.length_toList]
  refine ⟨fun i m σ H => i ≤ x.cps.size ∧ m = x.cps.size - i ∧ Pv ((enumI (sgs x)).drop i) σ H, ⟨_, Nat.zero_le _, rfl, h0⟩, fun i m σ H h => ?_⟩
  obtain ⟨hi, rfl, hp⟩ := h
  by_cases hc : i < x.cps.size
  · refine .inr ⟨hc, fun σ' H' => Pv ((enumI (sgs x)).drop (i + 1)) σ' H', fun σ' H' q => ⟨x.cps.size - (i + 1), by omega, by omega, rfl, q⟩, fun v H' hy => ?_⟩
    obtain ⟨T, c, rfl, hT, rfl, ec⟩ := hy
    have e2 : (enumI (sgs x))[i]? = some ((i : Int), (⟨#[c]⟩ : Str)) := by
      have := enumF_get (sgs x) 0 i ⟨#[c]⟩ (by
        unfold sgs
        rw [List.getElem?_map, Array.getElem?_toList, ec]; rfl)
      rw [Nat.zero_add] at this
      exact this
    have e3 : (enumI (sgs x)).drop i = ((i : Int), (⟨#[c]⟩ : Str)) :: (enumI (sgs x)).drop (i + 1) := by
      obtain ⟨h1, h2⟩ := List.getElem?_eq_some_iff.mp e2
      rw [List.drop_eq_getElem_cons h1, h2]
    rw [e3] at hp
    exact hs _ _ σ H hp _ (fun _ _ z => z) T hT
  · refine .inl ⟨by show x.cps.size ≤ i; omega, ?_⟩
    rw [List.drop_eq_nil_of_le (by unfold enumI; rw [enumF_len]; omega)] at hp
    exact hd _ _ hp⟩
end
end Z
namespace Z
open PySem PySem.Spec PyProof.Rows L2
/-! ### a list and an empty one: ==, whatever the items are -/
def rEqE (K : PySem.W.Frag) : R2 := fun x y H Q => ∃ (p q : Addr) (xs ys : List V), x = .ref p ∧ y = .ref q ∧ SqL K H p xs ∧ SqL K H q ys ∧ ys.length = 0 ∧ Q (.bl (decide (xs.length = 0))) H
theorem op_eqE {X : Cx} (hu : X.A.units < cLine) : OpR X (compareOp .Eq) (rEqE X.K) := by
  intro pins s σ H x y v u Q I rx ry h
  obtain ⟨p, q, xs, ys, rfl, rfl, h1, h2, h3, k⟩ := h
  cases rx
  cases ry
  obtain ⟨is1, r1, p1, z1⟩ := I.list h1
  obtain ⟨is2, r2, p2, z2⟩ := I.list h2
  have l1 := r1.length
  have l2 := r2.length
  by_cases e : xs.length = 0
  · rw [decide_eq_true e] at k
    refine SeqAt.eq_listAt (e := fun _ => true) p1.isList p2.isList (by simp; omega) hu (fun j hj1 hj2 => absurd hj2 (by simp; omega)) ⟨.bl true, H, I, ?_, k⟩
    rw [show (List.range is1.toArray.size).all (fun _ => true) = true from List.all_eq_true.mpr fun _ _ => rfl]
    rfl
  · rw [decide_eq_false e] at k
    exact SeqAt.eq_list_lengthsAt p1.isList p2.isList (by simp; omega) hu ⟨.bl false, H, I, rfl, k⟩
section
variable {K : PySem.W.Frag} {σ : L2.St} {H : Hp} {ta tb te : TE} {Q : VK} {x y v : V} {α β : Type} {τ : Rep K α} {υ : Rep K β}
theorem e_eqE {xs : List α} {ys : List β} (h1 : (qQ τ).R H x xs) (h2 : (qQ υ).R H y ys) (hz : ys.length = 0) (q : Q (.bl (decide (xs.length = 0))) H) : rEqE K x y H Q := by
  obtain ⟨a, ws, rfl, h3, h4⟩ := h1
  obtain ⟨b, us, rfl, h5, h6⟩ := h2
  exact ⟨a, b, ws, us, rfl, rfl, h3, h5, by rw [h6.length]; exact hz, by rw [h4.length]; exact q⟩
def gJoin (s : Str) (xs : List Str) : Prop := (xs.map (·.length)).sum + xs.length * s.length ≤ 16777216
instance (s : Str) (xs : List Str) : Decidable (gJoin s xs) := by unfold gJoin; infer_instance
theorem strs_of {xs : List Str} : ∀ {ws : List V}, RL (K := K) qS H ws xs → ws = xs.map V.str := fun h => RL.eqmap V.str (fun _ _ q => q) h
def rJoin (K : PySem.W.Frag) : V → List V → Hp → VK → Prop := fun x xs H Q => ∃ a p, ∃ ys : List Str, x = .str a ∧ xs = [.ref p] ∧ (SqL K H p (ys.map V.str) ∨ SqT K H p (ys.map V.str)) ∧
      (ys.map (·.length)).sum + ys.length * a.length ≤ 16777216 ∧ Q (.str (Txt.join a ys)) H
theorem v_join {s : Str} {xs : List Str} (ha : Val ta σ H (.str s)) (hb : Val tb σ H v) (hr : (qQ (K := K) qS).R H v xs) (hz : gJoin s xs) : Val (tM1 (rJoin K) ta tb) σ H (.str (Txt.join s xs)) := fun Q q => by
  obtain ⟨a, ws, rfl, h3, h4⟩ := hr
  exact ha _ ⟨⟨_, rfl⟩, hb _ ⟨s, a, xs, rfl, rfl, .inl (by rw [← strs_of h4]; exact h3), hz, q⟩⟩
theorem c_methE {C : Addr} {m : Str} {sp : Sp} {dvs : List V} {E : XK} {t : TA} (h : ta σ H fun x H1 => tMeth C m sp dvs E (tC x) t σ H1 Q) : tMeth C m sp dvs E ta t σ H Q := h
end
end Z

namespace Z
open PySem PySem.Spec PyProof.Rows L2
/-! ### walks over range(e), e with effects -/
section
variable {K : PySem.W.Frag} {σ : L2.St} {S H S0 H0 : Hp} {L : List Addr} {ta tb te : TE} {Q : VK} {v : V} {D : Ends} {tu : TS}
def kTA (us : List V) : TA := fun _ H q => q us H
theorem va_k {us : List V} : VA (kTA us) σ H us := fun _ q => q
theorem z_rng1E {tr : TA} {g : TG} {tb : TS} (h : tr σ H fun us H1 => tSeq (tFor (iRng1 (kTA us)) g tb) tu D σ H1) : tSeq (tFor (iRng1 tr) g tb) tu D σ H := h
theorem c_lcR1E {tr : TA} {g : TG} {tt : TT} {vs : List Nat} (h : tr σ H fun us H1 => tLc (iRng1 (kTA us)) g tt te vs σ H1 Q) : tLc (iRng1 tr) g tt te vs σ H Q := h
theorem OP.pr2 {α β γ : Type} {k : α → β → Option γ} {a : α} {b : β} {A : γ → Prop} (h : OP (Z.lt (a, b).1 fun x => Z.lt (a, b).2 fun y => k x y) A) : OP (k a b) A := h
/-- list(range(n)) -/
def gRg (n : Int) : Prop := 0 ≤ n ∧ n ≤ 16777216
instance (n : Int) : Decidable (gRg n) := by unfold gRg; infer_instance
theorem l_listRg {n : Int} (ha : Val te σ H (.int n)) (hj : gRg n) (k : ∀ p ws H', Same H H' → H p = none → H' p = some (.lst ws) → RL (K := K) qI S ws (rangeI 0 n.toNat) → Q (.ref p) H') : tLstRg (tRg1 te) σ H Q :=
  ha _ ⟨n, rfl, .of_le (by decide) hj.2 (by decide) hj.1, fun p hp => k p _ _ (same_upd hp) hp upd_same (by
    have e : rgV 0 n = (rangeI 0 n.toNat).map V.int := by
      unfold rgV rangeI
      rw [List.map_map, Int.sub_zero]; rfl
    rw [e]
    exact RL.map V.int (fun _ => rfl) _)⟩
theorem c_rgE (h : ∀ Q' : VK, Q' = Q → te σ H Q') : te σ H Q := h _ rfl
/-- xs.pop(i) -/
def gIx (i : Int) : Prop := -(2 ^ 63) ≤ i ∧ i < 2 ^ 63
instance (i : Int) : Decidable (gIx i) := by unfold gIx; infer_instance
def popI {α : Type} (xs : List α) (i : Int) : Option (α × List α) := (seqIndex? i xs.length).bind fun k => (xs[k]?).map fun y => (y, xs.eraseIdx k)
theorem RL.erase {α : Type} {τ : Rep K α} : ∀ {ws : List V} {xs : List α} (_ : RL τ S ws xs) (k : Nat), RL τ S (ws.eraseIdx k) (xs.eraseIdx k)
  | _, _, .nil, _ => .nil
  | _, _, .cons _ b, 0 => b
  | _, _, .cons a b, k + 1 => .cons a (RL.erase b k)
theorem c_popAt {α : Type} {τ : Rep K α} {l : Addr} {ws : List V} {xs : List α} {r : α × List α} {i : Int} (g : Grow L S0 H0 S H) (cl : Cel L H0 S H l (.lst ws)) (h : RL τ S ws xs) (hi : gIx i) (he : popI xs i = some r)
    (k : ∀ w, τ.R S w r.1 → ∀ ws' H', Grow L S0 H0 S H' → Cel L H0 S H' l (.lst ws') → RL τ S ws' r.2 → (∀ l' o', l' ≠ l → Cel L H0 S H l' o' → Cel L H0 S H' l' o') → Q w H') : rPopAt (.ref l) [.int i] H Q := by
  unfold popI at he
  obtain ⟨j, ej, h2⟩ := Option.bind_eq_some_iff.mp he
  obtain ⟨y, ey, rfl⟩ := Option.map_eq_some_iff.mp h2
  obtain ⟨w, ew, rw_⟩ := h.get ey
  exact ⟨l, ws, i, j, w, rfl, rfl, cl.h, hi.1, hi.2, by rw [h.length]; exact ej, ew, k w rw_ _ _ (g.wr cl rfl) (cl.wr rfl) (RL.erase h j) fun l' o' n c => c.wrn n⟩
/-- an item of a list whose items are known -/
theorem v_ixl {l : Addr} {ws : List V} {w : V} {i : Int} (hl : H l = some (.lst ws)) (hx : L2.atI ws i = some w) (ha : Val ta σ H (.ref l)) (hb : Val tb σ H (.int i)) : Val (tOp (rIxL K) ta tb) σ H w :=
  fun Q q => ha _ (hb _ ⟨l, ws, i, w, rfl, rfl, SqL.of hl, hx, q⟩)
end
end Z
namespace Z
open PySem PySem.Spec PyProof.Rows L2
section
variable {K : PySem.W.Frag} {σ : L2.St} {S H S0 H0 : Hp} {L : List Addr} {ta tb te : TE} {Q : VK} {v : V}
/-! rows of a list of lists -/
theorem v_lenRow {n : Int} (ha : Val ta σ H v) (h : ∃ (l : Addr) (ws : List V), v = .ref l ∧ H l = some (.lst ws) ∧ (ws.length : Int) = n) : Val (tCB (rLenS K) (tCons ta tNil)) σ H (.int n) := fun Q q => by
  obtain ⟨l, ws, rfl, h1, rfl⟩ := h
  exact ha _ ⟨l, ws, rfl, .inl (SqL.of h1), q⟩
theorem lenRow {α : Type} {τ : Rep K α} {l : Addr} {ws : List V} {xs : List α} (h : H l = some (.lst ws)) (r : RL τ S ws xs) : ∃ (l' : Addr) (ws' : List V), (V.ref l) = .ref l' ∧ H l' = some (.lst ws') ∧ (ws'.length : Int) = (xs.length : Int) := ⟨l, ws, rfl, h, by rw [r.length]⟩
theorem c_clearR {l : Addr} {ws : List V} (ha : Val ta σ H (.ref l)) (h : H l = some (.lst ws)) (q : Q .non (upd H l (.lst []))) : tBM0 K "list" rClear ta σ H Q := ha _ ⟨tyL h, l, ws, rfl, rfl, h, q⟩
theorem eqsL : ∀ ws : List V, Paired (fun (a b : V) => a = b) ws ws
  | [] => .nil
  | _ :: ws => .cons rfl (eqsL ws)
end
end Z

namespace E
open PySem PySem.Spec PyProof.Rows L2 Z
def top (i : Nat) : Stmt := PySem.Challenge.pw_evernever_k16_chart_of_a_machine.main.body.getD i (.Pass ⟨0, 0, 0, 0⟩)
structure Cl where
  mk ::
  Chart : Addr
  Move : Addr
  Machine : Addr
  Lamp : Addr
  Sure : Addr
  Not : Addr
  And : Addr
  Either : Addr
  Or : Addr
  NoChart : Addr
def clsV (c : Cl) : Nat → Value
  | 1 => .ref c.NoChart
  | _ => .none
section
variable {P : Program} {w : World} {K : PySem.W.Frag} {mg : Str → Option Value} {base : Heap}
inductive O_Formula where
  | Lamp (at_ : Int)
  | Sure (truth : Bool)
  | Not (part : O_Formula)
  | And (parts : (List O_Formula))
  | Either (parts : (List O_Formula))
  | Or (parts : (List O_Formula))
mutual
inductive RF_Formula (K : PySem.W.Frag) (c : Cl) (H : Hp) : V → O_Formula → Prop where
  | Lamp {p dx : Addr} {w0 : V} {x0 : Int} : H p = some (.ins c.Lamp dx [("at", w0)]) → ((qI (K := K))).R H w0 x0 → RF_Formula K c H (.ref p) (.Lamp x0)
  | Sure {p dx : Addr} {w0 : V} {x0 : Bool} : H p = some (.ins c.Sure dx [("truth", w0)]) → ((qB (K := K))).R H w0 x0 → RF_Formula K c H (.ref p) (.Sure x0)
  | Not {p dx : Addr} {w0 : V} {x0 : O_Formula} : H p = some (.ins c.Not dx [("part", w0)]) → RF_Formula K c H w0 x0 → RF_Formula K c H (.ref p) (.Not x0)
  | And {p dx : Addr} {l0 : Addr} {ws0 : List V} {x0 : (List O_Formula)} : H p = some (.ins c.And dx [("parts", .ref l0)]) → H l0 = some (.lst ws0) → RFs_Formula K c H ws0 x0 → RF_Formula K c H (.ref p) (.And x0)
  | Either {p dx : Addr} {l0 : Addr} {ws0 : List V} {x0 : (List O_Formula)} : H p = some (.ins c.Either dx [("parts", .ref l0)]) → H l0 = some (.lst ws0) → RFs_Formula K c H ws0 x0 → RF_Formula K c H (.ref p) (.Either x0)
  | Or {p dx : Addr} {l0 : Addr} {ws0 : List V} {x0 : (List O_Formula)} : H p = some (.ins c.Or dx [("parts", .ref l0)]) → H l0 = some (.lst ws0) → RFs_Formula K c H ws0 x0 → RF_Formula K c H (.ref p) (.Or x0)
inductive RFs_Formula (K : PySem.W.Frag) (c : Cl) (H : Hp) : List V → List O_Formula → Prop where
  | nil : RFs_Formula K c H [] []
  | cons {v : V} {x : O_Formula} {vs : List V} {xs : List O_Formula} : RF_Formula K c H v x → RFs_Formula K c H vs xs → RFs_Formula K c H (v :: vs) (x :: xs)
end
mutual
theorem RF_Formula.mono {K : PySem.W.Frag} {c : Cl} {H H' : Hp} (e : Same H H') : ∀ {v : V} {x : O_Formula}, RF_Formula K c H v x → RF_Formula K c H' v x
  | _, _, .Lamp hp r0 => .Lamp (e _ _ hp) (Rep.mono _ e r0)
  | _, _, .Sure hp r0 => .Sure (e _ _ hp) (Rep.mono _ e r0)
  | _, _, .Not hp r0 => .Not (e _ _ hp) (RF_Formula.mono e r0)
  | _, _, .And hp ha0 r0 => .And (e _ _ hp) (e _ _ ha0) (RFs_Formula.mono e r0)
  | _, _, .Either hp ha0 r0 => .Either (e _ _ hp) (e _ _ ha0) (RFs_Formula.mono e r0)
  | _, _, .Or hp ha0 r0 => .Or (e _ _ hp) (e _ _ ha0) (RFs_Formula.mono e r0)
theorem RFs_Formula.mono {K : PySem.W.Frag} {c : Cl} {H H' : Hp} (e : Same H H') : ∀ {v : List V} {x : List O_Formula}, RFs_Formula K c H v x → RFs_Formula K c H' v x
  | _, _, .nil => .nil
  | _, _, .cons a b => .cons (RF_Formula.mono e a) (RFs_Formula.mono e b)
end
def q_Formula (c : Cl) : Rep K O_Formula := ⟨fun H v x => RF_Formula K c H v x, fun {H H' v x} e h => RF_Formula.mono e h⟩
theorem RFs_Formula.to {c : Cl} {H : Hp} : ∀ {ws : List V} {xs : List O_Formula}, RFs_Formula K c H ws xs → RL (q_Formula (K := K) c) H ws xs
  | _, _, .nil => .nil
  | _, _, .cons a b => .cons a b.to
theorem RFs_Formula.of {c : Cl} {H : Hp} : ∀ {ws : List V} {xs : List O_Formula}, RL (q_Formula (K := K) c) H ws xs → RFs_Formula K c H ws xs
  | _, _, .nil => .nil
  | _, _, .cons a b => .cons a (RFs_Formula.of b)
def tag_Formula : O_Formula → Nat
  | .Lamp .. => 0
  | .Sure .. => 1
  | .Not .. => 2
  | .And .. => 3
  | .Either .. => 4
  | .Or .. => 5
theorem nn_Formula {c : Cl} {H : Hp} {v : V} {x : O_Formula} (h : (q_Formula (K := K) c).R H v x) : v ≠ .non := by
  cases h <;> exact fun z => nomatch z
def gf_Formula_at : O_Formula → Option Int
  | .Lamp x0 => some x0
  | _ => none
def gf_Formula_truth : O_Formula → Option Bool
  | .Sure x0 => some x0
  | _ => none
def gf_Formula_part : O_Formula → Option O_Formula
  | .Not x0 => some x0
  | _ => none
def gf_Formula_parts : O_Formula → Option (List O_Formula)
  | .And x0 => some x0
  | .Either x0 => some x0
  | .Or x0 => some x0
  | _ => none
theorem fz_Formula_Lamp {c : Cl} {L : List Addr} {S0 H0 S H : Hp} {l dx : Addr} {w0 : V} (g : Grow L S0 H0 S H) (cl : Cel L H0 S H l (.ins c.Lamp dx [("at", w0)])) (z : H0 l = none) {x0 : Int} (r0 : ((qI (K := K))).R S w0 x0) : ∃ S1, Grow L S0 H0 S1 H ∧ Same S S1 ∧ (q_Formula (K := K) c).R S1 (.ref l) (.Lamp x0) ∧ ∀ l' o', l' ≠ l → Cel L H0 S H l' o' → Cel L H0 S1 H l' o' := by
  have e := same_upd (o := (.ins c.Lamp dx [("at", w0)])) cl.s
  exact ⟨_, g.freeze cl z, e, .Lamp upd_same (Rep.mono _ e r0), fun l' o' n c' => c'.freeze n⟩
theorem fz_Formula_Sure {c : Cl} {L : List Addr} {S0 H0 S H : Hp} {l dx : Addr} {w0 : V} (g : Grow L S0 H0 S H) (cl : Cel L H0 S H l (.ins c.Sure dx [("truth", w0)])) (z : H0 l = none) {x0 : Bool} (r0 : ((qB (K := K))).R S w0 x0) : ∃ S1, Grow L S0 H0 S1 H ∧ Same S S1 ∧ (q_Formula (K := K) c).R S1 (.ref l) (.Sure x0) ∧ ∀ l' o', l' ≠ l → Cel L H0 S H l' o' → Cel L H0 S1 H l' o' := by
  have e := same_upd (o := (.ins c.Sure dx [("truth", w0)])) cl.s
  exact ⟨_, g.freeze cl z, e, .Sure upd_same (Rep.mono _ e r0), fun l' o' n c' => c'.freeze n⟩
theorem fz_Formula_Not {c : Cl} {L : List Addr} {S0 H0 S H : Hp} {l dx : Addr} {w0 : V} (g : Grow L S0 H0 S H) (cl : Cel L H0 S H l (.ins c.Not dx [("part", w0)])) (z : H0 l = none) {x0 : O_Formula} (r0 : ((q_Formula (K := K) c)).R S w0 x0) : ∃ S1, Grow L S0 H0 S1 H ∧ Same S S1 ∧ (q_Formula (K := K) c).R S1 (.ref l) (.Not x0) ∧ ∀ l' o', l' ≠ l → Cel L H0 S H l' o' → Cel L H0 S1 H l' o' := by
  have e := same_upd (o := (.ins c.Not dx [("part", w0)])) cl.s
  exact ⟨_, g.freeze cl z, e, .Not upd_same (RF_Formula.mono e r0), fun l' o' n c' => c'.freeze n⟩
theorem fz_Formula_And {c : Cl} {L : List Addr} {S0 H0 S H : Hp} {l dx : Addr} {w0 : V} (g : Grow L S0 H0 S H) (cl : Cel L H0 S H l (.ins c.And dx [("parts", w0)])) (z : H0 l = none) {x0 : (List O_Formula)} (r0 : ((qL (q_Formula (K := K) c))).R S w0 x0) : ∃ S1, Grow L S0 H0 S1 H ∧ Same S S1 ∧ (q_Formula (K := K) c).R S1 (.ref l) (.And x0) ∧ ∀ l' o', l' ≠ l → Cel L H0 S H l' o' → Cel L H0 S1 H l' o' := by
  have e := same_upd (o := (.ins c.And dx [("parts", w0)])) cl.s
  obtain ⟨a0, us0, rfl, ha0, r0⟩ := r0
  exact ⟨_, g.freeze cl z, e, .And upd_same (e _ _ ha0) (RFs_Formula.mono e (RFs_Formula.of r0)), fun l' o' n c' => c'.freeze n⟩
theorem fz_Formula_Either {c : Cl} {L : List Addr} {S0 H0 S H : Hp} {l dx : Addr} {w0 : V} (g : Grow L S0 H0 S H) (cl : Cel L H0 S H l (.ins c.Either dx [("parts", w0)])) (z : H0 l = none) {x0 : (List O_Formula)} (r0 : ((qL (q_Formula (K := K) c))).R S w0 x0) : ∃ S1, Grow L S0 H0 S1 H ∧ Same S S1 ∧ (q_Formula (K := K) c).R S1 (.ref l) (.Either x0) ∧ ∀ l' o', l' ≠ l → Cel L H0 S H l' o' → Cel L H0 S1 H l' o' := by
  have e := same_upd (o := (.ins c.Either dx [("parts", w0)])) cl.s
  obtain ⟨a0, us0, rfl, ha0, r0⟩ := r0
  exact ⟨_, g.freeze cl z, e, .Either upd_same (e _ _ ha0) (RFs_Formula.mono e (RFs_Formula.of r0)), fun l' o' n c' => c'.freeze n⟩
theorem fz_Formula_Or {c : Cl} {L : List Addr} {S0 H0 S H : Hp} {l dx : Addr} {w0 : V} (g : Grow L S0 H0 S H) (cl : Cel L H0 S H l (.ins c.Or dx [("parts", w0)])) (z : H0 l = none) {x0 : (List O_Formula)} (r0 : ((qL (q_Formula (K := K) c))).R S w0 x0) : ∃ S1, Grow L S0 H0 S1 H ∧ Same S S1 ∧ (q_Formula (K := K) c).R S1 (.ref l) (.Or x0) ∧ ∀ l' o', l' ≠ l → Cel L H0 S H l' o' → Cel L H0 S1 H l' o' := by
  have e := same_upd (o := (.ins c.Or dx [("parts", w0)])) cl.s
  obtain ⟨a0, us0, rfl, ha0, r0⟩ := r0
  exact ⟨_, g.freeze cl z, e, .Or upd_same (e _ _ ha0) (RFs_Formula.mono e (RFs_Formula.of r0)), fun l' o' n c' => c'.freeze n⟩
structure O_Chart where
  many : Int
  starts : Int
  bads : Int
  forth : (List Int)
  back : (List Int)
def q_Chart (c : Cl) : Rep K O_Chart := ⟨fun H v x => ∃ (p dx : Addr) (w0 w1 w2 w3 w4 : V), v = .ref p ∧ H p = some (.ins c.Chart dx [("many", w0), ("starts", w1), ("bads", w2), ("forth", w3), ("back", w4)]) ∧ ((qI (K := K))).R H w0 x.many ∧ ((qI (K := K))).R H w1 x.starts ∧ ((qI (K := K))).R H w2 x.bads ∧ ((qL (qI (K := K)))).R H w3 x.forth ∧ ((qL (qI (K := K)))).R H w4 x.back, fun {H H' v x} e h => by
  obtain ⟨p, dx, w0, w1, w2, w3, w4, rfl, hp, r0, r1, r2, r3, r4⟩ := h
  exact ⟨p, dx, w0, w1, w2, w3, w4, rfl, e _ _ hp, Rep.mono _ e r0, Rep.mono _ e r1, Rep.mono _ e r2, Rep.mono _ e r3, Rep.mono _ e r4⟩⟩
theorem in_Chart {c : Cl} {H : Hp} {v : V} {x : O_Chart} (h : (q_Chart (K := K) c).R H v x) : ∃ (l dx : Addr) (fs : List (Str × V)), v = .ref l ∧ H l = some (.ins c.Chart dx fs) ∧ ∀ m : Str, m ∉ (["many", "starts", "bads", "forth", "back"] : List Str) → fs.lookup m = none := by
  obtain ⟨p, dx, w0, w1, w2, w3, w4, rfl, hp, _⟩ := h
  exact ⟨p, dx, _, rfl, hp, fun m hm => look_none (ns := ["many", "starts", "bads", "forth", "back"]) rfl hm⟩
theorem nn_Chart {c : Cl} {H : Hp} {v : V} {x : O_Chart} (h : (q_Chart (K := K) c).R H v x) : v ≠ .non := by
  obtain ⟨p, dx, w0, w1, w2, w3, w4, rfl, _⟩ := h
  exact fun z => nomatch z
theorem fz_Chart {c : Cl} {L : List Addr} {S0 H0 S H : Hp} {l dx : Addr} {w0 w1 w2 w3 w4 : V} (g : Grow L S0 H0 S H) (cl : Cel L H0 S H l (.ins c.Chart dx [("many", w0), ("starts", w1), ("bads", w2), ("forth", w3), ("back", w4)])) (z : H0 l = none) {x : O_Chart} (r0 : ((qI (K := K))).R S w0 x.many) (r1 : ((qI (K := K))).R S w1 x.starts) (r2 : ((qI (K := K))).R S w2 x.bads) (r3 : ((qL (qI (K := K)))).R S w3 x.forth) (r4 : ((qL (qI (K := K)))).R S w4 x.back) : ∃ S1, Grow L S0 H0 S1 H ∧ Same S S1 ∧ (q_Chart (K := K) c).R S1 (.ref l) x ∧ ∀ l' o', l' ≠ l → Cel L H0 S H l' o' → Cel L H0 S1 H l' o' := by
  have e := same_upd (o := (.ins c.Chart dx [("many", w0), ("starts", w1), ("bads", w2), ("forth", w3), ("back", w4)])) cl.s
  exact ⟨_, g.freeze cl z, e, ⟨l, dx, w0, w1, w2, w3, w4, rfl, upd_same, Rep.mono _ e r0, Rep.mono _ e r1, Rep.mono _ e r2, Rep.mono _ e r3, Rep.mono _ e r4⟩, fun l' o' n c' => c'.freeze n⟩
structure O_Move where
  guard : O_Formula
  changes : (List (Int × O_Formula))
def q_Move (c : Cl) : Rep K O_Move := ⟨fun H v x => ∃ (p dx : Addr) (w0 w1 : V), v = .ref p ∧ H p = some (.ins c.Move dx [("guard", w0), ("changes", w1)]) ∧ ((q_Formula (K := K) c)).R H w0 x.guard ∧ ((qL (qT2 (qI (K := K)) (q_Formula (K := K) c)))).R H w1 x.changes, fun {H H' v x} e h => by
  obtain ⟨p, dx, w0, w1, rfl, hp, r0, r1⟩ := h
  exact ⟨p, dx, w0, w1, rfl, e _ _ hp, Rep.mono _ e r0, Rep.mono _ e r1⟩⟩
theorem in_Move {c : Cl} {H : Hp} {v : V} {x : O_Move} (h : (q_Move (K := K) c).R H v x) : ∃ (l dx : Addr) (fs : List (Str × V)), v = .ref l ∧ H l = some (.ins c.Move dx fs) ∧ ∀ m : Str, m ∉ (["guard", "changes"] : List Str) → fs.lookup m = none := by
  obtain ⟨p, dx, w0, w1, rfl, hp, _⟩ := h
  exact ⟨p, dx, _, rfl, hp, fun m hm => look_none (ns := ["guard", "changes"]) rfl hm⟩
theorem nn_Move {c : Cl} {H : Hp} {v : V} {x : O_Move} (h : (q_Move (K := K) c).R H v x) : v ≠ .non := by
  obtain ⟨p, dx, w0, w1, rfl, _⟩ := h
  exact fun z => nomatch z
theorem fz_Move {c : Cl} {L : List Addr} {S0 H0 S H : Hp} {l dx : Addr} {w0 w1 : V} (g : Grow L S0 H0 S H) (cl : Cel L H0 S H l (.ins c.Move dx [("guard", w0), ("changes", w1)])) (z : H0 l = none) {x : O_Move} (r0 : ((q_Formula (K := K) c)).R S w0 x.guard) (r1 : ((qL (qT2 (qI (K := K)) (q_Formula (K := K) c)))).R S w1 x.changes) : ∃ S1, Grow L S0 H0 S1 H ∧ Same S S1 ∧ (q_Move (K := K) c).R S1 (.ref l) x ∧ ∀ l' o', l' ≠ l → Cel L H0 S H l' o' → Cel L H0 S1 H l' o' := by
  have e := same_upd (o := (.ins c.Move dx [("guard", w0), ("changes", w1)])) cl.s
  exact ⟨_, g.freeze cl z, e, ⟨l, dx, w0, w1, rfl, upd_same, Rep.mono _ e r0, Rep.mono _ e r1⟩, fun l' o' n c' => c'.freeze n⟩
structure O_Machine where
  names : (List Str)
  starts : (List O_Formula)
  bads : (List O_Formula)
  moves : (List O_Move)
def q_Machine (c : Cl) : Rep K O_Machine := ⟨fun H v x => ∃ (p dx : Addr) (w0 w1 w2 w3 : V), v = .ref p ∧ H p = some (.ins c.Machine dx [("names", w0), ("starts", w1), ("bads", w2), ("moves", w3)]) ∧ ((qL (qS (K := K)))).R H w0 x.names ∧ ((qL (q_Formula (K := K) c))).R H w1 x.starts ∧ ((qL (q_Formula (K := K) c))).R H w2 x.bads ∧ ((qL (q_Move (K := K) c))).R H w3 x.moves, fun {H H' v x} e h => by
  obtain ⟨p, dx, w0, w1, w2, w3, rfl, hp, r0, r1, r2, r3⟩ := h
  exact ⟨p, dx, w0, w1, w2, w3, rfl, e _ _ hp, Rep.mono _ e r0, Rep.mono _ e r1, Rep.mono _ e r2, Rep.mono _ e r3⟩⟩
theorem in_Machine {c : Cl} {H : Hp} {v : V} {x : O_Machine} (h : (q_Machine (K := K) c).R H v x) : ∃ (l dx : Addr) (fs : List (Str × V)), v = .ref l ∧ H l = some (.ins c.Machine dx fs) ∧ ∀ m : Str, m ∉ (["names", "starts", "bads", "moves"] : List Str) → fs.lookup m = none := by
  obtain ⟨p, dx, w0, w1, w2, w3, rfl, hp, _⟩ := h
  exact ⟨p, dx, _, rfl, hp, fun m hm => look_none (ns := ["names", "starts", "bads", "moves"]) rfl hm⟩
theorem nn_Machine {c : Cl} {H : Hp} {v : V} {x : O_Machine} (h : (q_Machine (K := K) c).R H v x) : v ≠ .non := by
  obtain ⟨p, dx, w0, w1, w2, w3, rfl, _⟩ := h
  exact fun z => nomatch z
theorem fz_Machine {c : Cl} {L : List Addr} {S0 H0 S H : Hp} {l dx : Addr} {w0 w1 w2 w3 : V} (g : Grow L S0 H0 S H) (cl : Cel L H0 S H l (.ins c.Machine dx [("names", w0), ("starts", w1), ("bads", w2), ("moves", w3)])) (z : H0 l = none) {x : O_Machine} (r0 : ((qL (qS (K := K)))).R S w0 x.names) (r1 : ((qL (q_Formula (K := K) c))).R S w1 x.starts) (r2 : ((qL (q_Formula (K := K) c))).R S w2 x.bads) (r3 : ((qL (q_Move (K := K) c))).R S w3 x.moves) : ∃ S1, Grow L S0 H0 S1 H ∧ Same S S1 ∧ (q_Machine (K := K) c).R S1 (.ref l) x ∧ ∀ l' o', l' ≠ l → Cel L H0 S H l' o' → Cel L H0 S1 H l' o' := by
  have e := same_upd (o := (.ins c.Machine dx [("names", w0), ("starts", w1), ("bads", w2), ("moves", w3)])) cl.s
  exact ⟨_, g.freeze cl z, e, ⟨l, dx, w0, w1, w2, w3, rfl, upd_same, Rep.mono _ e r0, Rep.mono _ e r1, Rep.mono _ e r2, Rep.mono _ e r3⟩, fun l' o' n c' => c'.freeze n⟩
structure Tx (K : PySem.W.Frag) (mg : Str → Option Value) : Type where
  c : Cl
  f_Machine___init__ : Addr
  d_Machine___init__ : FuncData
  F_Machine___init__ : Fun K "__init__" "Machine.__init__" (inClass (top 12) 0) f_Machine___init__ d_Machine___init__
  b_Machine___init__ : Binds K d_Machine___init__ ["self", "names", "starts", "bads", "moves"] []
  f_is_whole : Addr
  d_is_whole : FuncData
  F_is_whole : Fun K "is_whole" "is_whole" (top 5) f_is_whole d_is_whole
  b_is_whole : Binds K d_is_whole ["thing"] []
  m_is_whole : mg "is_whole" = some (.ref f_is_whole)
  f_is_crowd : Addr
  d_is_crowd : FuncData
  F_is_crowd : Fun K "is_crowd" "is_crowd" (top 6) f_is_crowd d_is_crowd
  b_is_crowd : Binds K d_is_crowd ["many", "thing"] []
  m_is_crowd : mg "is_crowd" = some (.ref f_is_crowd)
  f_stands_of : Addr
  d_stands_of : FuncData
  F_stands_of : Fun K "stands_of" "stands_of" (top 7) f_stands_of d_stands_of
  b_stands_of : Binds K d_stands_of ["crowd"] []
  m_stands_of : mg "stands_of" = some (.ref f_stands_of)
  f_leading_back : Addr
  d_leading_back : FuncData
  F_leading_back : Fun K "leading_back" "leading_back" (top 8) f_leading_back d_leading_back
  b_leading_back : Binds K d_leading_back ["after"] []
  m_leading_back : mg "leading_back" = some (.ref f_leading_back)
  f_Chart___init__ : Addr
  d_Chart___init__ : FuncData
  F_Chart___init__ : Fun K "__init__" "Chart.__init__" (inClass (top 9) 0) f_Chart___init__ d_Chart___init__
  b_Chart___init__ : Binds K d_Chart___init__ ["self", "many", "starts", "bads", "after"] []
  f_all_stands : Addr
  d_all_stands : FuncData
  F_all_stands : Fun K "all_stands" "all_stands" (top 14) f_all_stands d_all_stands
  b_all_stands : Binds K d_all_stands ["many"] []
  m_all_stands : mg "all_stands" = some (.ref f_all_stands)
  f_Lamp_crowd : Addr
  d_Lamp_crowd : FuncData
  F_Lamp_crowd : Fun K "crowd" "Lamp.crowd" (inClass (top 16) 2) f_Lamp_crowd d_Lamp_crowd
  b_Lamp_crowd : Binds K d_Lamp_crowd ["self", "many"] []
  f_Sure_crowd : Addr
  d_Sure_crowd : FuncData
  F_Sure_crowd : Fun K "crowd" "Sure.crowd" (inClass (top 17) 2) f_Sure_crowd d_Sure_crowd
  b_Sure_crowd : Binds K d_Sure_crowd ["self", "many"] []
  f_And_crowd : Addr
  d_And_crowd : FuncData
  F_And_crowd : Fun K "crowd" "And.crowd" (inClass (top 20) 3) f_And_crowd d_And_crowd
  b_And_crowd : Binds K d_And_crowd ["self", "many"] []
  f_Either_crowd : Addr
  d_Either_crowd : FuncData
  F_Either_crowd : Fun K "crowd" "Either.crowd" (inClass (top 21) 3) f_Either_crowd d_Either_crowd
  b_Either_crowd : Binds K d_Either_crowd ["self", "many"] []
  f_Not_crowd : Addr
  d_Not_crowd : FuncData
  F_Not_crowd : Fun K "crowd" "Not.crowd" (inClass (top 18) 2) f_Not_crowd d_Not_crowd
  b_Not_crowd : Binds K d_Not_crowd ["self", "many"] []
  f_Or_crowd : Addr
  d_Or_crowd : FuncData
  F_Or_crowd : Fun K "crowd" "Or.crowd" (inClass (top 22) 3) f_Or_crowd d_Or_crowd
  b_Or_crowd : Binds K d_Or_crowd ["self", "many"] []
  f_Machine_any_of : Addr
  d_Machine_any_of : FuncData
  F_Machine_any_of : Fun K "any_of" "Machine.any_of" (inClass (top 12) 1) f_Machine_any_of d_Machine_any_of
  b_Machine_any_of : Binds K d_Machine_any_of ["self", "formulas"] []
  f_Move_onward_from_all : Addr
  d_Move_onward_from_all : FuncData
  F_Move_onward_from_all : Fun K "onward_from_all" "Move.onward_from_all" (inClass (top 11) 3) f_Move_onward_from_all d_Move_onward_from_all
  b_Move_onward_from_all : Binds K d_Move_onward_from_all ["self", "many"] []
  f_Machine_chart : Addr
  d_Machine_chart : FuncData
  F_Machine_chart : Fun K "chart" "Machine.chart" (inClass (top 12) 2) f_Machine_chart d_Machine_chart
  b_Machine_chart : Binds K d_Machine_chart ["self"] []
  f_Move___init__ : Addr
  d_Move___init__ : FuncData
  F_Move___init__ : Fun K "__init__" "Move.__init__" (inClass (top 11) 0) f_Move___init__ d_Move___init__
  b_Move___init__ : Binds K d_Move___init__ ["self", "guard", "changes"] []
  f__law_digit : Addr
  d__law_digit : FuncData
  F__law_digit : Fun K "_law_digit" "_law_digit" (top 31) f__law_digit d__law_digit
  b__law_digit : Binds K d__law_digit ["_law_bag", "_law_many"] []
  m__law_digit : mg "_law_digit" = some (.ref f__law_digit)
  f__law_any_moves : Addr
  d__law_any_moves : FuncData
  F__law_any_moves : Fun K "_law_any_moves" "_law_any_moves" (top 32) f__law_any_moves d__law_any_moves
  b__law_any_moves : Binds K d__law_any_moves ["_law_pile_here", "_law_many", "_law_bag"] []
  m__law_any_moves : mg "_law_any_moves" = some (.ref f__law_any_moves)
  f__law_any_picked : Addr
  d__law_any_picked : FuncData
  F__law_any_picked : Fun K "_law_any_picked" "_law_any_picked" (top 33) f__law_any_picked d__law_any_picked
  b__law_any_picked : Binds K d__law_any_picked ["_law_pile_here", "_law_bag"] []
  m__law_any_picked : mg "_law_any_picked" = some (.ref f__law_any_picked)
  f__law_cell_at : Addr
  d__law_cell_at : FuncData
  F__law_cell_at : Fun K "_law_cell_at" "_law_cell_at" (top 24) f__law_cell_at d__law_cell_at
  b__law_cell_at : Binds K d__law_cell_at ["_law_script", "_law_k"] []
  m__law_cell_at : mg "_law_cell_at" = some (.ref f__law_cell_at)
  f__law_moves : Addr
  d__law_moves : FuncData
  F__law_moves : Fun K "_law_moves" "_law_moves" (top 30) f__law_moves d__law_moves
  b__law_moves : Binds K d__law_moves ["_law_pile_here", "_law_many", "_law_count", "_law_cell"] []
  m__law_moves : mg "_law_moves" = some (.ref f__law_moves)
  f__law_picked : Addr
  d__law_picked : FuncData
  F__law_picked : Fun K "_law_picked" "_law_picked" (top 29) f__law_picked d__law_picked
  b__law_picked : Binds K d__law_picked ["_law_pile_here", "_law_count", "_law_cell", "_law_step"] []
  m__law_picked : mg "_law_picked" = some (.ref f__law_picked)
  f_Not___init__ : Addr
  d_Not___init__ : FuncData
  F_Not___init__ : Fun K "__init__" "Not.__init__" (inClass (top 18) 0) f_Not___init__ d_Not___init__
  b_Not___init__ : Binds K d_Not___init__ ["self", "part"] []
  f_Joined___init__ : Addr
  d_Joined___init__ : FuncData
  F_Joined___init__ : Fun K "__init__" "Joined.__init__" (inClass (top 19) 0) f_Joined___init__ d_Joined___init__
  b_Joined___init__ : Binds K d_Joined___init__ ["self", "parts"] []
  f__law_joined : Addr
  d__law_joined : FuncData
  F__law_joined : Fun K "_law_joined" "_law_joined" (top 27) f__law_joined d__law_joined
  b__law_joined : Binds K d__law_joined ["_law_kind", "_law_pairs"] []
  m__law_joined : mg "_law_joined" = some (.ref f__law_joined)
  f_Lamp___init__ : Addr
  d_Lamp___init__ : FuncData
  F_Lamp___init__ : Fun K "__init__" "Lamp.__init__" (inClass (top 16) 0) f_Lamp___init__ d_Lamp___init__
  b_Lamp___init__ : Binds K d_Lamp___init__ ["self", "at"] []
  f_Sure___init__ : Addr
  d_Sure___init__ : FuncData
  F_Sure___init__ : Fun K "__init__" "Sure.__init__" (inClass (top 17) 0) f_Sure___init__ d_Sure___init__
  b_Sure___init__ : Binds K d_Sure___init__ ["self", "truth"] []
  f__law_lit : Addr
  d__law_lit : FuncData
  F__law_lit : Fun K "_law_lit" "_law_lit" (top 25) f__law_lit d__law_lit
  b__law_lit : Binds K d__law_lit ["_law_lamp", "_law_many"] []
  m__law_lit : mg "_law_lit" = some (.ref f__law_lit)
  f__law_leaf : Addr
  d__law_leaf : FuncData
  F__law_leaf : Fun K "_law_leaf" "_law_leaf" (top 26) f__law_leaf d__law_leaf
  b__law_leaf : Binds K d__law_leaf ["_law_kind", "_law_more", "_law_many"] []
  m__law_leaf : mg "_law_leaf" = some (.ref f__law_leaf)
  f__law_pile : Addr
  d__law_pile : FuncData
  F__law_pile : Fun K "_law_pile" "_law_pile" (top 28) f__law_pile d__law_pile
  b__law_pile : Binds K d__law_pile ["_law_cells", "_law_many"] []
  m__law_pile : mg "_law_pile" = some (.ref f__law_pile)
  f_Chart_ahead : Addr
  d_Chart_ahead : FuncData
  F_Chart_ahead : Fun K "ahead" "Chart.ahead" (inClass (top 9) 1) f_Chart_ahead d_Chart_ahead
  b_Chart_ahead : Binds K d_Chart_ahead ["self", "crowd"] []
  f__law_onward : Addr
  d__law_onward : FuncData
  F__law_onward : Fun K "_law_onward" "_law_onward" (top 34) f__law_onward d__law_onward
  b__law_onward : Binds K d__law_onward ["_law_stand", "_law_changes"] []
  m__law_onward : mg "_law_onward" = some (.ref f__law_onward)
  f__law_after : Addr
  d__law_after : FuncData
  F__law_after : Fun K "_law_after" "_law_after" (top 35) f__law_after d__law_after
  b__law_after : Binds K d__law_after ["_law_stand", "_law_moves_here"] []
  m__law_after : mg "_law_after" = some (.ref f__law_after)
  f__law_any : Addr
  d__law_any : FuncData
  F__law_any : Fun K "_law_any" "_law_any" (top 36) f__law_any d__law_any
  b__law_any : Binds K d__law_any ["_law_pairs"] []
  m__law_any : mg "_law_any" = some (.ref f__law_any)
  f__law_number : Addr
  d__law_number : FuncData
  F__law_number : Fun K "_law_number" "_law_number" (top 37) f__law_number d__law_number
  b__law_number : Binds K d__law_number ["_law_found", "_law_due"] []
  m__law_number : mg "_law_number" = some (.ref f__law_number)
  f__law_tells : Addr
  d__law_tells : FuncData
  F__law_tells : Fun K "_law_tells" "_law_tells" (top 38) f__law_tells d__law_tells
  b__law_tells : Binds K d__law_tells ["_law_chart", "_law_many", "_law_starts", "_law_bads", "_law_moves_here"] []
  m__law_tells : mg "_law_tells" = some (.ref f__law_tells)
  f_law : Addr
  d_law : FuncData
  F_law : Fun K "law" "law" (top 39) f_law d_law
  b_law : Binds K d_law ["_law_script"] []
  m_law : mg "law" = some (.ref f_law)
  m_Chart : mg "Chart" = some (.ref c.Chart)
  l_Chart : Cls K c.Chart
  h_Chart : InsH K c.Chart
  k_Chart : Mk K c.Chart f_Chart___init__
  m_Move : mg "Move" = some (.ref c.Move)
  l_Move : Cls K c.Move
  k_Move : Mk K c.Move f_Move___init__
  m_Machine : mg "Machine" = some (.ref c.Machine)
  l_Machine : Cls K c.Machine
  k_Machine : Mk K c.Machine f_Machine___init__
  m_Lamp : mg "Lamp" = some (.ref c.Lamp)
  l_Lamp : Cls K c.Lamp
  k_Lamp : Mk K c.Lamp f_Lamp___init__
  m_Sure : mg "Sure" = some (.ref c.Sure)
  l_Sure : Cls K c.Sure
  k_Sure : Mk K c.Sure f_Sure___init__
  m_Not : mg "Not" = some (.ref c.Not)
  l_Not : Cls K c.Not
  k_Not : Mk K c.Not f_Not___init__
  m_And : mg "And" = some (.ref c.And)
  l_And : Cls K c.And
  k_And : Mk K c.And f_Joined___init__
  m_Either : mg "Either" = some (.ref c.Either)
  l_Either : Cls K c.Either
  k_Either : Mk K c.Either f_Joined___init__
  m_Or : mg "Or" = some (.ref c.Or)
  l_Or : Cls K c.Or
  k_Or : Mk K c.Or f_Joined___init__
  i_Chart_Chart : PySem.W.kitOne K (.ref c.Chart) (.ref c.Chart) = some true
  a_And_parts : NoAttr K c.And "parts"
  a_Chart_back : NoAttr K c.Chart "back"
  a_Chart_bads : NoAttr K c.Chart "bads"
  a_Chart_forth : NoAttr K c.Chart "forth"
  a_Chart_many : NoAttr K c.Chart "many"
  a_Chart_starts : NoAttr K c.Chart "starts"
  a_Either_parts : NoAttr K c.Either "parts"
  a_Lamp_at : NoAttr K c.Lamp "at"
  a_Machine_bads : NoAttr K c.Machine "bads"
  a_Machine_moves : NoAttr K c.Machine "moves"
  a_Machine_names : NoAttr K c.Machine "names"
  a_Machine_starts : NoAttr K c.Machine "starts"
  a_Move_changes : NoAttr K c.Move "changes"
  a_Move_guard : NoAttr K c.Move "guard"
  a_Not_part : NoAttr K c.Not "part"
  a_Or_parts : NoAttr K c.Or "parts"
  a_Sure_truth : NoAttr K c.Sure "truth"
  t_And_crowd : Meth K c.And "crowd" f_And_crowd
  t_Chart_ahead : Meth K c.Chart "ahead" f_Chart_ahead
  t_Either_crowd : Meth K c.Either "crowd" f_Either_crowd
  t_Lamp_crowd : Meth K c.Lamp "crowd" f_Lamp_crowd
  t_Machine_any_of : Meth K c.Machine "any_of" f_Machine_any_of
  t_Machine_chart : Meth K c.Machine "chart" f_Machine_chart
  t_Move_onward_from_all : Meth K c.Move "onward_from_all" f_Move_onward_from_all
  t_Not_crowd : Meth K c.Not "crowd" f_Not_crowd
  t_Or_crowd : Meth K c.Or "crowd" f_Or_crowd
  t_Sure_crowd : Meth K c.Sure "crowd" f_Sure_crowd
  m_NoChart : mg "NoChart" = some (.ref c.NoChart)
  e_NoChart : ExF K c.NoChart
  n_bool : mg "bool" = none
  n_enumerate : mg "enumerate" = none
  n_int : mg "int" = none
  n_isinstance : mg "isinstance" = none
  n_len : mg "len" = none
  n_list : mg "list" = none
  n_max : mg "max" = none
  n_range : mg "range" = none
  n_reversed : mg "reversed" = none
  n_sum : mg "sum" = none
theorem vf_Formula_at (T : Tx K mg) {σ : L2.St} {H : Hp} {ta : TE} {v : V} {x : O_Formula} {y : Int} (ha : Val ta σ H v) (h : (q_Formula (K := K) T.c).R H v x) (e : gf_Formula_at x = some y) : Val (tFld K ta "at") σ H (.int y) := by
  cases h with
  | Lamp hp r0 =>
    cases Option.some.inj e
    cases r0
    exact v_fld ha hp T.l_Lamp T.a_Lamp_at rfl
  | Sure hp r0 =>
    cases e
  | Not hp r0 =>
    cases e
  | And hp ha0 r0 =>
    cases e
  | Either hp ha0 r0 =>
    cases e
  | Or hp ha0 r0 =>
    cases e
theorem vf_Formula_part (T : Tx K mg) {S H : Hp} {v : V} {x : O_Formula} {y : O_Formula} (eS : Same S H) (h : (q_Formula (K := K) T.c).R S v x) (e : gf_Formula_part x = some y) : ∃ w, (∀ {σ : L2.St} {ta : TE}, Val ta σ H v → Val (tFld K ta "part") σ H w) ∧ ((q_Formula (K := K) T.c)).R S w y := by
  cases h with
  | Lamp hp r0 =>
    cases e
  | Sure hp r0 =>
    cases e
  | Not hp r0 =>
    cases Option.some.inj e
    exact ⟨_, fun ha => v_fld ha (eS _ _ hp) T.l_Not T.a_Not_part rfl, r0⟩
  | And hp ha0 r0 =>
    cases e
  | Either hp ha0 r0 =>
    cases e
  | Or hp ha0 r0 =>
    cases e
theorem vf_Formula_parts (T : Tx K mg) {S H : Hp} {v : V} {x : O_Formula} {y : (List O_Formula)} (eS : Same S H) (h : (q_Formula (K := K) T.c).R S v x) (e : gf_Formula_parts x = some y) : ∃ w, (∀ {σ : L2.St} {ta : TE}, Val ta σ H v → Val (tFld K ta "parts") σ H w) ∧ ((qL (q_Formula (K := K) T.c))).R S w y := by
  cases h with
  | Lamp hp r0 =>
    cases e
  | Sure hp r0 =>
    cases e
  | Not hp r0 =>
    cases e
  | And hp ha0 r0 =>
    cases Option.some.inj e
    exact ⟨_, fun ha => v_fld ha (eS _ _ hp) T.l_And T.a_And_parts rfl, _, _, rfl, ha0, r0.to⟩
  | Either hp ha0 r0 =>
    cases Option.some.inj e
    exact ⟨_, fun ha => v_fld ha (eS _ _ hp) T.l_Either T.a_Either_parts rfl, _, _, rfl, ha0, r0.to⟩
  | Or hp ha0 r0 =>
    cases Option.some.inj e
    exact ⟨_, fun ha => v_fld ha (eS _ _ hp) T.l_Or T.a_Or_parts rfl, _, _, rfl, ha0, r0.to⟩
theorem vf_Formula_truth (T : Tx K mg) {σ : L2.St} {H : Hp} {ta : TE} {v : V} {x : O_Formula} {y : Bool} (ha : Val ta σ H v) (h : (q_Formula (K := K) T.c).R H v x) (e : gf_Formula_truth x = some y) : Val (tFld K ta "truth") σ H (.bl y) := by
  cases h with
  | Lamp hp r0 =>
    cases e
  | Sure hp r0 =>
    cases Option.some.inj e
    cases r0
    exact v_fld ha hp T.l_Sure T.a_Sure_truth rfl
  | Not hp r0 =>
    cases e
  | And hp ha0 r0 =>
    cases e
  | Either hp ha0 r0 =>
    cases e
  | Or hp ha0 r0 =>
    cases e
def is_Chart_Chart (_ : O_Chart) : Bool := true
theorem v_is_Chart_Chart (T : Tx K mg) {σ : L2.St} {H : Hp} {ta : TE} {v : V} {x : O_Chart} (ha : Val ta σ H v) (h : (q_Chart (K := K) T.c).R H v x) : Val (tCB (rIsi K) (tCons ta (tCons (tC (.ref T.c.Chart)) tNil))) σ H (.bl (is_Chart_Chart x)) := by
  obtain ⟨p, dx, w0, w1, w2, w3, w4, rfl, hp, _⟩ := h
  exact v_isO ha hp T.l_Chart T.h_Chart T.i_Chart_Chart
theorem vf_Chart_many (T : Tx K mg) {σ : L2.St} {H : Hp} {ta : TE} {v : V} {x : O_Chart} (ha : Val ta σ H v) (h : (q_Chart (K := K) T.c).R H v x) : Val (tFld K ta "many") σ H (.int x.many) := by
  obtain ⟨p, dx, w0, w1, w2, w3, w4, rfl, hp, r0, r1, r2, r3, r4⟩ := h
  cases r0
  exact v_fld ha hp T.l_Chart T.a_Chart_many rfl
theorem vf_Chart_starts (T : Tx K mg) {σ : L2.St} {H : Hp} {ta : TE} {v : V} {x : O_Chart} (ha : Val ta σ H v) (h : (q_Chart (K := K) T.c).R H v x) : Val (tFld K ta "starts") σ H (.int x.starts) := by
  obtain ⟨p, dx, w0, w1, w2, w3, w4, rfl, hp, r0, r1, r2, r3, r4⟩ := h
  cases r1
  exact v_fld ha hp T.l_Chart T.a_Chart_starts rfl
theorem vf_Chart_bads (T : Tx K mg) {σ : L2.St} {H : Hp} {ta : TE} {v : V} {x : O_Chart} (ha : Val ta σ H v) (h : (q_Chart (K := K) T.c).R H v x) : Val (tFld K ta "bads") σ H (.int x.bads) := by
  obtain ⟨p, dx, w0, w1, w2, w3, w4, rfl, hp, r0, r1, r2, r3, r4⟩ := h
  cases r2
  exact v_fld ha hp T.l_Chart T.a_Chart_bads rfl
theorem vf_Chart_forth (T : Tx K mg) {S H : Hp} {v : V} {x : O_Chart} (e : Same S H) (h : (q_Chart (K := K) T.c).R S v x) : ∃ w, (∀ {σ : L2.St} {ta : TE}, Val ta σ H v → Val (tFld K ta "forth") σ H w) ∧ ((qL (qI (K := K)))).R S w x.forth := by
  obtain ⟨p, dx, w0, w1, w2, w3, w4, rfl, hp, r0, r1, r2, r3, r4⟩ := h
  exact ⟨w3, fun ha => v_fld ha (e _ _ hp) T.l_Chart T.a_Chart_forth rfl, r3⟩
theorem vf_Chart_back (T : Tx K mg) {S H : Hp} {v : V} {x : O_Chart} (e : Same S H) (h : (q_Chart (K := K) T.c).R S v x) : ∃ w, (∀ {σ : L2.St} {ta : TE}, Val ta σ H v → Val (tFld K ta "back") σ H w) ∧ ((qL (qI (K := K)))).R S w x.back := by
  obtain ⟨p, dx, w0, w1, w2, w3, w4, rfl, hp, r0, r1, r2, r3, r4⟩ := h
  exact ⟨w4, fun ha => v_fld ha (e _ _ hp) T.l_Chart T.a_Chart_back rfl, r4⟩
theorem vf_Move_guard (T : Tx K mg) {S H : Hp} {v : V} {x : O_Move} (e : Same S H) (h : (q_Move (K := K) T.c).R S v x) : ∃ w, (∀ {σ : L2.St} {ta : TE}, Val ta σ H v → Val (tFld K ta "guard") σ H w) ∧ ((q_Formula (K := K) T.c)).R S w x.guard := by
  obtain ⟨p, dx, w0, w1, rfl, hp, r0, r1⟩ := h
  exact ⟨w0, fun ha => v_fld ha (e _ _ hp) T.l_Move T.a_Move_guard rfl, r0⟩
theorem vf_Move_changes (T : Tx K mg) {S H : Hp} {v : V} {x : O_Move} (e : Same S H) (h : (q_Move (K := K) T.c).R S v x) : ∃ w, (∀ {σ : L2.St} {ta : TE}, Val ta σ H v → Val (tFld K ta "changes") σ H w) ∧ ((qL (qT2 (qI (K := K)) (q_Formula (K := K) T.c)))).R S w x.changes := by
  obtain ⟨p, dx, w0, w1, rfl, hp, r0, r1⟩ := h
  exact ⟨w1, fun ha => v_fld ha (e _ _ hp) T.l_Move T.a_Move_changes rfl, r1⟩
theorem vf_Machine_names (T : Tx K mg) {S H : Hp} {v : V} {x : O_Machine} (e : Same S H) (h : (q_Machine (K := K) T.c).R S v x) : ∃ w, (∀ {σ : L2.St} {ta : TE}, Val ta σ H v → Val (tFld K ta "names") σ H w) ∧ ((qL (qS (K := K)))).R S w x.names := by
  obtain ⟨p, dx, w0, w1, w2, w3, rfl, hp, r0, r1, r2, r3⟩ := h
  exact ⟨w0, fun ha => v_fld ha (e _ _ hp) T.l_Machine T.a_Machine_names rfl, r0⟩
theorem vf_Machine_starts (T : Tx K mg) {S H : Hp} {v : V} {x : O_Machine} (e : Same S H) (h : (q_Machine (K := K) T.c).R S v x) : ∃ w, (∀ {σ : L2.St} {ta : TE}, Val ta σ H v → Val (tFld K ta "starts") σ H w) ∧ ((qL (q_Formula (K := K) T.c))).R S w x.starts := by
  obtain ⟨p, dx, w0, w1, w2, w3, rfl, hp, r0, r1, r2, r3⟩ := h
  exact ⟨w1, fun ha => v_fld ha (e _ _ hp) T.l_Machine T.a_Machine_starts rfl, r1⟩
theorem vf_Machine_bads (T : Tx K mg) {S H : Hp} {v : V} {x : O_Machine} (e : Same S H) (h : (q_Machine (K := K) T.c).R S v x) : ∃ w, (∀ {σ : L2.St} {ta : TE}, Val ta σ H v → Val (tFld K ta "bads") σ H w) ∧ ((qL (q_Formula (K := K) T.c))).R S w x.bads := by
  obtain ⟨p, dx, w0, w1, w2, w3, rfl, hp, r0, r1, r2, r3⟩ := h
  exact ⟨w2, fun ha => v_fld ha (e _ _ hp) T.l_Machine T.a_Machine_bads rfl, r2⟩
theorem vf_Machine_moves (T : Tx K mg) {S H : Hp} {v : V} {x : O_Machine} (e : Same S H) (h : (q_Machine (K := K) T.c).R S v x) : ∃ w, (∀ {σ : L2.St} {ta : TE}, Val ta σ H v → Val (tFld K ta "moves") σ H w) ∧ ((qL (q_Move (K := K) T.c))).R S w x.moves := by
  obtain ⟨p, dx, w0, w1, w2, w3, rfl, hp, r0, r1, r2, r3⟩ := h
  exact ⟨w3, fun ha => v_fld ha (e _ _ hp) T.l_Machine T.a_Machine_moves rfl, r3⟩

@[irreducible] def m_Machine___init__ (names7 : (List Str)) (starts10 : (List O_Formula)) (bads13 : (List O_Formula)) (moves16 : (List O_Move)) : Option O_Machine :=
some (O_Machine.mk names7 starts10 bads13 moves16)
abbrev s_Machine___init__ : Stmt := inClass (top 12) 0
abbrev sn_Machine___init__ : List Str := ["self", "names", "starts", "bads", "moves"]
theorem sc_Machine___init__ : FnScope ["self", "names", "starts", "bads", "moves"] ["self", "names", "starts", "bads", "moves"] (defScope (s_Machine___init__)) := ⟨rfl, rfl, rfl, by decide +kernel, rfl, by decide +kernel, by decide +kernel⟩
def p_Machine___init__ (K : PySem.W.Frag) (c : Cl) : Sp := fun vs H Q E => ∃ (S : Hp) (l2 : Addr) (dx3 : Addr) (v8 : V) (names7 : (List Str)) (v11 : V) (starts10 : (List O_Formula)) (v14 : V) (bads13 : (List O_Formula)) (v17 : V) (moves16 : (List O_Move)), vs = [.ref l2, v8, v11, v14, v17] ∧ Same S H ∧ H l2 = some (.ins c.Machine dx3 []) ∧ S l2 = none ∧ RdL (qS (K := K)) [l2] S H v8 names7 ∧ RdL (q_Formula (K := K) c) [l2] S H v11 starts10 ∧ RdL (q_Formula (K := K) c) [l2] S H v14 bads13 ∧ RdL (q_Move (K := K) c) [l2] S H v17 moves16 ∧ OP (m_Machine___init__ names7 starts10 bads13 moves16) (fun r => ∀ (S' H' : Hp) (w0 : V) (w1 : V) (w2 : V) (w3 : V), Grow [l2] S H S' H' → H' l2 = some (.ins c.Machine dx3 [("names", w0), ("starts", w1), ("bads", w2), ("moves", w3)]) → ((qL (qS (K := K)))).R S' w0 r.names → ((qL (q_Formula (K := K) c))).R S' w1 r.starts → ((qL (q_Formula (K := K) c))).R S' w2 r.bads → ((qL (q_Move (K := K) c))).R S' w3 r.moves → Q .non H')
theorem ok_Machine___init__ (T : Tx K mg) : FnOk P w K mg base CX0 1 T.f_Machine___init__ T.d_Machine___init__ ["self", "names", "starts", "bads", "moves"] (p_Machine___init__ K T.c) := by
  refine T.F_Machine___init__.ok sc_Machine___init__ (fun vs H Q E h => by obtain ⟨S, l2, dx3, v8, names7, v11, starts10, v14, bads13, v17, moves16, rfl, _⟩ := h; rfl) (fun cdv A outer s H vs Q E hr h => ?_)
  obtain ⟨S, l2, dx3, v8, names7, v11, starts10, v14, bads13, v17, moves16, rfl, gS, h_4, h_5, r9, r12, r15, r18, h⟩ := h
  obtain ⟨A_, hA⟩ : ∃ A_, A_ = (fun r : O_Machine => ∀ (S' H' : Hp) (w0 : V) (w1 : V) (w2 : V) (w3 : V), Grow [l2] S H S' H' → H' l2 = some (.ins T.c.Machine dx3 [("names", w0), ("starts", w1), ("bads", w2), ("moves", w3)]) → ((qL (qS (K := K)))).R S' w0 r.names → ((qL (q_Formula (K := K) T.c))).R S' w1 r.starts → ((qL (q_Formula (K := K) T.c))).R S' w2 r.bads → ((qL (q_Move (K := K) T.c))).R S' w3 r.moves → Q .non H') := ⟨_, rfl⟩
  replace h : OP (m_Machine___init__ names7 starts10 bads13 moves16) A_ := hA ▸ h
  rw [m_Machine___init__] at h
  refine ⟨_, (pss_cons (ps_fld (pe_var (i := 0) rfl (.inl rfl) rfl rfl) (pe_callTy call_list_of rfl T.n_list bt_list (pa_cons (pe_var (i := 1) rfl (.inl rfl) rfl rfl) pa_nil)) rfl)
      (pss_cons (ps_fld (pe_var (i := 0) rfl (.inl rfl) rfl rfl) (pe_callTy call_list_of rfl T.n_list bt_list (pa_cons (pe_var (i := 2) rfl (.inl rfl) rfl rfl) pa_nil)) rfl)
      (pss_cons (ps_fld (pe_var (i := 0) rfl (.inl rfl) rfl rfl) (pe_callTy call_list_of rfl T.n_list bt_list (pa_cons (pe_var (i := 3) rfl (.inl rfl) rfl rfl) pa_nil)) rfl)
      (pss_cons (ps_fld (pe_var (i := 0) rfl (.inl rfl) rfl rfl) (pe_callTy call_list_of rfl T.n_list bt_list (pa_cons (pe_var (i := 4) rfl (.inl rfl) rfl rfl) pa_nil)) rfl)
      pss_nil)))), ?_⟩
  refine z_start (σ := [some (.ref l2), some v8, some v11, some v14, some v17]) rfl ?_
  have g : Grow [l2] S H S H := Grow.refl gS
  have c_6 : Cel [l2] H S H l2 (.ins T.c.Machine dx3 []) := ⟨h_4, h_5, .inr (.head _), rfl⟩
  refine z_fldE ?_
  refine c_cbE fun Q_19 hQ_19 => ?_
  refine c_args (va_cons (val_var rfl) va_nil) ?_
  refine (l_list (Q := Q_19) (LS.rd g r9) fun p20 ws21 H_22 e23 np24 ep25 rw26 => ?_)
  refine q_eq hQ_19 ?_
  have ne29 := c_6.ne np24
  have z28 := g.hnone np24
  have c_27 : Cel [l2] H S H_22 p20 (.lst ws21) := Cel.own g e23 np24 ep25 rfl
  replace c_6 := c_6.ext e23
  replace g := g.ext e23
  obtain ⟨S_30, g31, eS32, r33, ot34⟩ := c_freeze g c_27 z28 rw26
  replace c_6 := ot34 _ _ (by first | assumption | exact Ne.symm (by assumption)) c_6
  replace r9 := RdL.mono eS32 r9
  replace r12 := RdL.mono eS32 r12
  replace r15 := RdL.mono eS32 r15
  replace r18 := RdL.mono eS32 r18
  replace rw26 := RL.mono eS32 rw26
  replace g := g31
  refine c_setF (fs' := [("names", (.ref p20))]) g c_6 (val_var rfl) T.l_Machine T.a_Machine_names (show 0 < 1000 by decide) rfl fun H_35 g36 c_37 ot38 => ?_
  replace g := g36
  refine z_fldE ?_
  refine c_cbE fun Q_39 hQ_39 => ?_
  refine c_args (va_cons (val_var rfl) va_nil) ?_
  refine (l_list (Q := Q_39) (LS.rd g r12) fun p40 ws41 H_42 e43 np44 ep45 rw46 => ?_)
  refine q_eq hQ_39 ?_
  have ne49 := c_37.ne np44
  have z48 := g.hnone np44
  have c_47 : Cel [l2] H S_30 H_42 p40 (.lst ws41) := Cel.own g e43 np44 ep45 rfl
  replace c_37 := c_37.ext e43
  replace g := g.ext e43
  obtain ⟨S_50, g51, eS52, r53, ot54⟩ := c_freeze g c_47 z48 rw46
  replace c_37 := ot54 _ _ (by first | assumption | exact Ne.symm (by assumption)) c_37
  replace r33 := Rep.mono _ eS52 r33
  replace r9 := RdL.mono eS52 r9
  replace r12 := RdL.mono eS52 r12
  replace r15 := RdL.mono eS52 r15
  replace r18 := RdL.mono eS52 r18
  replace rw46 := RL.mono eS52 rw46
  replace g := g51
  refine c_setF (fs' := [("names", (.ref p20)), ("starts", (.ref p40))]) g c_37 (val_var rfl) T.l_Machine T.a_Machine_starts (show 1 < 1000 by decide) rfl fun H_55 g56 c_57 ot58 => ?_
  replace g := g56
  refine z_fldE ?_
  refine c_cbE fun Q_59 hQ_59 => ?_
  refine c_args (va_cons (val_var rfl) va_nil) ?_
  refine (l_list (Q := Q_59) (LS.rd g r15) fun p60 ws61 H_62 e63 np64 ep65 rw66 => ?_)
  refine q_eq hQ_59 ?_
  have ne69 := c_57.ne np64
  have z68 := g.hnone np64
  have c_67 : Cel [l2] H S_50 H_62 p60 (.lst ws61) := Cel.own g e63 np64 ep65 rfl
  replace c_57 := c_57.ext e63
  replace g := g.ext e63
  obtain ⟨S_70, g71, eS72, r73, ot74⟩ := c_freeze g c_67 z68 rw66
  replace c_57 := ot74 _ _ (by first | assumption | exact Ne.symm (by assumption)) c_57
  replace r33 := Rep.mono _ eS72 r33
  replace r53 := Rep.mono _ eS72 r53
  replace r9 := RdL.mono eS72 r9
  replace r12 := RdL.mono eS72 r12
  replace r15 := RdL.mono eS72 r15
  replace r18 := RdL.mono eS72 r18
  replace rw66 := RL.mono eS72 rw66
  replace g := g71
  refine c_setF (fs' := [("names", (.ref p20)), ("starts", (.ref p40)), ("bads", (.ref p60))]) g c_57 (val_var rfl) T.l_Machine T.a_Machine_bads (show 2 < 1000 by decide) rfl fun H_75 g76 c_77 ot78 => ?_
  replace g := g76
  refine z_fldE ?_
  refine c_cbE fun Q_79 hQ_79 => ?_
  refine c_args (va_cons (val_var rfl) va_nil) ?_
  refine (l_list (Q := Q_79) (LS.rd g r18) fun p80 ws81 H_82 e83 np84 ep85 rw86 => ?_)
  refine q_eq hQ_79 ?_
  have ne89 := c_77.ne np84
  have z88 := g.hnone np84
  have c_87 : Cel [l2] H S_70 H_82 p80 (.lst ws81) := Cel.own g e83 np84 ep85 rfl
  replace c_77 := c_77.ext e83
  replace g := g.ext e83
  obtain ⟨S_90, g91, eS92, r93, ot94⟩ := c_freeze g c_87 z88 rw86
  replace c_77 := ot94 _ _ (by first | assumption | exact Ne.symm (by assumption)) c_77
  replace r33 := Rep.mono _ eS92 r33
  replace r53 := Rep.mono _ eS92 r53
  replace r73 := Rep.mono _ eS92 r73
  replace r9 := RdL.mono eS92 r9
  replace r12 := RdL.mono eS92 r12
  replace r15 := RdL.mono eS92 r15
  replace r18 := RdL.mono eS92 r18
  replace rw86 := RL.mono eS92 rw86
  replace g := g91
  refine c_setF (fs' := [("names", (.ref p20)), ("starts", (.ref p40)), ("bads", (.ref p60)), ("moves", (.ref p80))]) g c_77 (val_var rfl) T.l_Machine T.a_Machine_moves (show 3 < 1000 by decide) rfl fun H_95 g96 c_97 ot98 => ?_
  replace g := g96
  refine z_next ?_
  have h := OP.fin hA h
  exact h _ _ _ _ _ _ g c_97.h r33 r53 r73 r93

@[irreducible] def m_is_whole (thing1 : Int) : Option Bool :=
some (true && (!false))
abbrev s_is_whole : Stmt := top 5
abbrev sn_is_whole : List Str := ["thing"]
theorem sc_is_whole : FnScope ["thing"] ["thing"] (defScope (s_is_whole)) := ⟨rfl, rfl, rfl, by decide +kernel, rfl, by decide +kernel, by decide +kernel⟩
def p_is_whole (K : PySem.W.Frag) (c : Cl) : Sp := fun vs H Q E => ∃ (thing1 : Int), vs = [.int thing1] ∧ OP (m_is_whole thing1) (fun r => Q (.bl r) H)
theorem ok_is_whole (T : Tx K mg) : FnOk P w K mg base CX0 1 T.f_is_whole T.d_is_whole ["thing"] (p_is_whole K T.c) := by
  refine T.F_is_whole.ok sc_is_whole (fun vs H Q E h => by obtain ⟨thing1, rfl, _⟩ := h; rfl) (fun cdv A outer s H vs Q E hr h => ?_)
  obtain ⟨thing1, rfl, h⟩ := h
  obtain ⟨A_, hA⟩ : ∃ A_, A_ = (fun r : Bool => Q (.bl r) H) := ⟨_, rfl⟩
  replace h : OP (m_is_whole thing1) A_ := hA ▸ h
  rw [m_is_whole] at h
  refine ⟨_, (pss_cons (ps_ret (pe_and (pe_callB (show CallR _ (.builtin "isinstance") (rIsi K) from call_isi) rfl T.n_isinstance bt_isinstance (pa_cons (pe_var (i := 0) rfl (.inl rfl) rfl rfl) (pa_cons (pe_bltn (v := .ty "int") rfl T.n_int bt_int rfl) pa_nil))) (pe_one (pe_not (pe_callB (show CallR _ (.builtin "isinstance") (rIsi K) from call_isi) rfl T.n_isinstance bt_isinstance (pa_cons (pe_var (i := 0) rfl (.inl rfl) rfl rfl) (pa_cons (pe_bltn (v := .ty "bool") rfl T.n_bool bt_bool rfl) pa_nil)))))))
      pss_nil), ?_⟩
  refine z_start (σ := [some (.int thing1)]) rfl ?_
  have g : Grow [] H H H H := Grow.refl (Same.refl _)
  refine z_ret (v_and (v_isi (val_var rfl) ty_int (k := true) (by decide +kernel)) (v_not (v_isi (val_var rfl) ty_int (k := false) (by decide +kernel)))) ?_
  have h := OP.fin hA h
  exact h

@[irreducible] def m_is_crowd (many1 : Int) (thing2 : Int) : Option Bool :=
(m_is_whole thing2).bind fun v3 =>
ifo (!v3) (
some false) (
(ifo (decide (0 ≤ thing2)) (grd (gPow 1 many1) <|
grd (gPow 1 (shl 1 many1)) <|
some (decide (thing2 < (shl 1 (shl 1 many1))))) (some false)).bind fun c_6 =>
some c_6)
abbrev s_is_crowd : Stmt := top 6
abbrev sn_is_crowd : List Str := ["many", "thing"]
theorem sc_is_crowd : FnScope ["many", "thing"] ["many", "thing"] (defScope (s_is_crowd)) := ⟨rfl, rfl, rfl, by decide +kernel, rfl, by decide +kernel, by decide +kernel⟩
def p_is_crowd (K : PySem.W.Frag) (c : Cl) : Sp := fun vs H Q E => ∃ (many1 : Int) (thing2 : Int), vs = [.int many1, .int thing2] ∧ OP (m_is_crowd many1 thing2) (fun r => Q (.bl r) H)
theorem ok_is_crowd (T : Tx K mg) : FnOk P w K mg base CX0 2 T.f_is_crowd T.d_is_crowd ["many", "thing"] (p_is_crowd K T.c) := by
  refine T.F_is_crowd.ok sc_is_crowd (fun vs H Q E h => by obtain ⟨many1, thing2, rfl, _⟩ := h; rfl) (fun cdv A outer s H vs Q E hr h => ?_)
  obtain ⟨many1, thing2, rfl, h⟩ := h
  obtain ⟨A_, hA⟩ : ∃ A_, A_ = (fun r : Bool => Q (.bl r) H) := ⟨_, rfl⟩
  replace h : OP (m_is_crowd many1 thing2) A_ := hA ▸ h
  rw [m_is_crowd] at h
  have hr1 : Room 1 _ := hr.mono (by decide)
  refine ⟨_, (pss_cons (ps_if (pt_not (pt_val (pe_call (ok_is_whole T) hr1 rfl T.m_is_whole T.F_is_whole.kp T.b_is_whole .nil pass0 (pa_cons (pe_var (i := 1) rfl (.inl rfl) rfl rfl) pa_nil)))) (pss_cons (ps_ret pe_bl)
      pss_nil) pss_nil)
      (pss_cons (ps_ret (pe_and (pe_cmpR op_le pe_int (pe_var (i := 1) rfl (.inl rfl) rfl rfl) (nomark _)) (pe_one (pe_cmpR op_lt (pe_var (i := 1) rfl (.inl rfl) rfl rfl) (pe_op op_shl pe_int (pe_op op_shl pe_int (pe_var (i := 0) rfl (.inl rfl) rfl rfl))) (nomark _)))))
      pss_nil)), ?_⟩
  refine z_start (σ := [some (.int many1), some (.int thing2)]) rfl ?_
  have g : Grow [] H H H H := Grow.refl (Same.refl _)
  obtain ⟨v3, ev3, h⟩ := OP.bind h
  refine z_if (a_not (v_B (v_call (va_cons (val_var rfl) va_nil) fun Q q => ⟨_, rfl, OP.mk ev3 q⟩))) (fun hc => ?_) (fun hc => ?_)
  · replace h := OP.ite1 hc h
    refine z_ret val_c ?_
    have h := OP.fin hA h
    exact h
  · replace h := OP.ite0 hc h
    refine z_nextR ?_
    obtain ⟨c_6, ec_6, h⟩ := OP.bind h
    refine z_ret (v_andP (v_o2 val_c (val_var rfl)) ec_6 (fun hb hm => by
          obtain ⟨g4, hm⟩ := grd_some hm
          obtain ⟨g5, hm⟩ := grd_some hm
          exact (v_eq (v_o2 (val_var rfl) (v_o2c val_c (v_o2c val_c (val_var rfl) g4) g5)) (congrArg V.bl (Option.some.inj hm))))) ?_
    have h := OP.fin hA h
    exact h

@[irreducible] def m_stands_of (crowd1 : Int) : Option (List Int) :=
(whileO (fun s => un2 (fun crowd19 found23 =>
some (decide (0 < crowd19))) s) (fun s => un2 (fun crowd19 found23 =>
lt (band crowd19 (-crowd19)) fun lowest31 =>
grd (found23.length < 16777216) <|
lt (found23 ++ [((blen lowest31) - 1)]) fun l33 =>
lt (bxor crowd19 lowest31) fun crowd40 =>
some (crowd40, l33)) s) bigN (crowd1, ([] : List Int))).bind (fun s => un2 (fun crowd19 found23 =>
some found23) s)
abbrev s_stands_of : Stmt := top 7
abbrev sn_stands_of : List Str := ["crowd", "found", "lowest"]
theorem sc_stands_of : FnScope ["crowd", "found", "lowest"] ["crowd"] (defScope (s_stands_of)) := ⟨rfl, rfl, rfl, by decide +kernel, rfl, by decide +kernel, by decide +kernel⟩
def p_stands_of (K : PySem.W.Frag) (c : Cl) : Sp := fun vs H Q E => ∃ (S : Hp) (crowd1 : Int), vs = [.int crowd1] ∧ Same S H ∧ OP (m_stands_of crowd1) (fun r => ∀ (S' H' : Hp) (p : Addr) (ws : List V), Grow [] S H S' H' → H p = none → H' p = some (.lst ws) → S' p = none → RL (qI (K := K)) S' ws r → Q (.ref p) H')
theorem ok_stands_of (T : Tx K mg) : FnOk P w K mg base CX0 1 T.f_stands_of T.d_stands_of ["crowd"] (p_stands_of K T.c) := by
  refine T.F_stands_of.ok sc_stands_of (fun vs H Q E h => by obtain ⟨S, crowd1, rfl, _⟩ := h; rfl) (fun cdv A outer s H vs Q E hr h => ?_)
  obtain ⟨S, crowd1, rfl, gS, h⟩ := h
  obtain ⟨A_, hA⟩ : ∃ A_, A_ = (fun r : (List Int) => ∀ (S' H' : Hp) (p : Addr) (ws : List V), Grow [] S H S' H' → H p = none → H' p = some (.lst ws) → S' p = none → RL (qI (K := K)) S' ws r → Q (.ref p) H') := ⟨_, rfl⟩
  replace h : OP (m_stands_of crowd1) A_ := hA ▸ h
  rw [m_stands_of] at h
  refine ⟨_, (pss_cons (ps_set (i := 1) sc_stands_of.nd rfl (.inl rfl) (pe_lst pa_nil))
      (pss_cons (ps_while PassesOwn.never (pt_cmpR op_gt (pe_var (i := 0) rfl (.inl rfl) rfl rfl) pe_int (nomark _)) (pss_cons (ps_set (i := 2) sc_stands_of.nd rfl (.inl rfl) (pe_op op_and (pe_var (i := 0) rfl (.inl rfl) rfl rfl) (pe_un un_neg (pe_var (i := 0) rfl (.inl rfl) rfl rfl))))
      (pss_cons (ps_expr (pe_bm PySem.F.plainAttrs_list PySem.F.slot_list_append PySem.F.type_list_append mt_append (pe_var (i := 1) rfl (.inl rfl) rfl rfl) (pa_cons (pe_op op_sub (pe_bits (pe_var (i := 2) rfl (.inl rfl) rfl rfl)) pe_int) pa_nil)))
      (pss_cons (ps_aug (i := 0) sc_stands_of.nd rfl (.inl rfl) (pe_var (i := 2) rfl (.inl rfl) rfl rfl) iop_xor)
      pss_nil))))
      (pss_cons (ps_ret (pe_var (i := 1) rfl (.inl rfl) rfl rfl))
      pss_nil))), ?_⟩
  refine z_start (σ := [some (.int crowd1), none, none]) rfl ?_
  have g : Grow [] S H S H := Grow.refl gS
  refine z_setE ?_
  refine c_lstE fun Q_2 hQ_2 => ?_
  refine c_args va_nil ?_
  refine c_newlst (Q := Q_2) (vs := []) (show 0 ≤ 1000 by decide) fun p3 H_4 e5 np6 ep7 => ?_
  refine q_eq hQ_2 ?_
  have w_8 : RL (qI (K := K)) S [] ([] : List Int) := .nil
  have z10 := g.hnone np6
  have c_9 : Cel [] H S H_4 p3 (.lst []) := Cel.own g e5 np6 ep7 rfl
  replace g := g.ext e5
  refine g_name (σ' := [some (.int crowd1), some (.ref p3), none]) rfl ?_
  obtain ⟨B11, h, hB12⟩ := OP.cut h
  obtain ⟨C13, F15, hC14, hF16, h⟩ := OP.nameW h
  refine z_while (fun n18 σ' H' => ∃ (crowd19 : Int) (ws20 : List V) (found23 : (List Int)) (u24 : Option V) (S_25 : Hp), σ' = [some (.int crowd19), some (.ref p3), u24] ∧ Grow [] S H S_25 H' ∧ Same S S_25 ∧ Cel [] H S_25 H' p3 (.lst ws20) ∧ RL (qI (K := K)) S_25 ws20 found23 ∧ OP (whileO C13 F15 n18 (crowd19, found23)) B11) ⟨_, _, _, _, _, rfl, g, (Same.refl _), c_9, w_8, h⟩ (fun n18 σ' H_26 p => ?_)
  obtain ⟨crowd19, ws20, found23, u24, S_25, rfl, gN, eS27, c_21N, r22N, h⟩ := p
  replace g := gN
  have c_21 := c_21N
  have r22 := r22N
  obtain ⟨n28, en29, h⟩ := OP.whileO h
  obtain ⟨b30, hm, h⟩ := OP.get h
  replace hm := fcall hC14 hm
  replace hm := eun2 hm
  refine ⟨b30, a_eq (v_test (v_o2 (val_var rfl) val_c)) (Option.some.inj hm), fun hc => ⟨n28, en29, fun N hN17 => ?_⟩, fun hc => ?_⟩
  · rw [if_pos hc] at h
    replace h := OP.fcall1 hF16 h
    replace h := OP.un2 h
    obtain ⟨lowest31, elowest31, h⟩ := OP.lt h
    refine z_set (w := (.int lowest31)) (σ' := [some (.int crowd19), some (.ref p3), some (.int lowest31)]) (v_o2 (val_var rfl) (v_u (val_var rfl))) (congrArg V.int elowest31) rfl ?_
    refine z_dropE ?_
    refine c_bm (val_var rfl) (tyL c_21.h) ?_
    refine c_args (va_cons (v_o2 (v_bits (val_var rfl)) val_c) va_nil) ?_
    obtain ⟨g32, h⟩ := OP.grd h
    obtain ⟨l33, el33, h⟩ := OP.lt h
    refine c_app g c_21 r22 rfl g32 el33 fun ws34 H_35 g36 c_37 w_38 ot39 => ?_
    replace g := g36
    obtain ⟨crowd40, ecrowd40, h⟩ := OP.lt h
    refine z_augI (w := (.int crowd40)) (σ' := [some (.int crowd40), some (.ref p3), some (.int lowest31)]) rfl (val_var rfl) (congrArg V.int ecrowd40) rfl ?_
    refine z_next ?_
    exact hN17 _ _ ⟨_, _, _, _, _, rfl, g, eS27, c_37, w_38, h⟩
  · rw [if_neg (by rw [hc]; exact Bool.false_ne_true)] at h
    replace h := hB12 _ h
    replace h := OP.un2 h
    refine z_ret (val_var rfl) ?_
    have h := OP.fin hA h
    exact h _ _ _ _ g z10 c_21.h c_21.s r22

@[irreducible] def m_leading_back (after1 : (List Int)) : Option (List Int) :=
(compO (fun zx4 =>
some (some 0)) (after1)).bind fun ys8 =>
(forO (fun x18 back30 =>
(m_stands_of x18.2).bind fun v42 =>
(forO (fun there56 back68 =>
(atI back68 there56).bind fun i74 =>
grd (gPow 1 x18.1) <|
(setI back68 there56 (bor i74 (shl 1 x18.1))).bind fun l76 =>
some l76) (v42) back30).bind (fun back68 =>
some back68)) (enumI after1) ys8).bind (fun back30 =>
some back30)
abbrev s_leading_back : Stmt := top 8
abbrev sn_leading_back : List Str := ["after", "back", "here", "crowd", "there"]
theorem sc_leading_back : FnScope ["after", "back", "here", "crowd", "there"] ["after"] (defScope (s_leading_back)) := ⟨rfl, rfl, rfl, by decide +kernel, rfl, by decide +kernel, by decide +kernel⟩
def p_leading_back (K : PySem.W.Frag) (c : Cl) : Sp := fun vs H Q E => ∃ (S : Hp) (v2 : V) (after1 : (List Int)), vs = [v2] ∧ Same S H ∧ RdL (qI (K := K)) [] S H v2 after1 ∧ OP (m_leading_back after1) (fun r => ∀ (S' H' : Hp) (p : Addr) (ws : List V), Grow [] S H S' H' → H p = none → H' p = some (.lst ws) → S' p = none → RL (qI (K := K)) S' ws r → Q (.ref p) H')
theorem ok_leading_back (T : Tx K mg) : FnOk P w K mg base CX0 2 T.f_leading_back T.d_leading_back ["after"] (p_leading_back K T.c) := by
  refine T.F_leading_back.ok sc_leading_back (fun vs H Q E h => by obtain ⟨S, v2, after1, rfl, _⟩ := h; rfl) (fun cdv A outer s H vs Q E hr h => ?_)
  obtain ⟨S, v2, after1, rfl, gS, r3, h⟩ := h
  obtain ⟨A_, hA⟩ : ∃ A_, A_ = (fun r : (List Int) => ∀ (S' H' : Hp) (p : Addr) (ws : List V), Grow [] S H S' H' → H p = none → H' p = some (.lst ws) → S' p = none → RL (qI (K := K)) S' ws r → Q (.ref p) H') := ⟨_, rfl⟩
  replace h : OP (m_leading_back after1) A_ := hA ▸ h
  rw [m_leading_back] at h
  have hr1 : Room 1 _ := hr.mono (by decide)
  refine ⟨_, (pss_cons (ps_setLc (i := 1) (y := "back") (own := [("here", 2)]) (g := gName 2) (tt := tYes) rfl sc_leading_back.nd rfl rfl (sw_true rfl rfl rfl (by decide +kernel)) (pi_list (pe_var (i := 0) rfl (.inl rfl) rfl rfl)) (blkOk_by (N := sn_leading_back) (sc := defScope s_leading_back) (by decide +kernel)) (fun _ _ _ _ _ => pg_name (i := 2) sc_leading_back.nd rfl (.inl rfl)) (fun _ _ _ _ _ => pts_nil) (fun _ _ _ _ _ => pe_int))
      (pss_cons (ps_for PassesOwn.never rfl (pi_enum rfl T.n_enumerate (pa_cons (pe_var (i := 0) rfl (.inl rfl) rfl rfl) pa_nil)) (pg_tup rfl (pgs_cons (pg_name (i := 2) sc_leading_back.nd rfl (.inl rfl)) (pgs_cons (pg_name (i := 3) sc_leading_back.nd rfl (.inl rfl)) pgs_nil))) (pss_cons (ps_for PassesOwn.never rfl (pi_list (pe_call (ok_stands_of T) hr1 rfl T.m_stands_of T.F_stands_of.kp T.b_stands_of .nil pass0 (pa_cons (pe_var (i := 3) rfl (.inl rfl) rfl rfl) pa_nil))) (pg_name (i := 4) sc_leading_back.nd rfl (.inl rfl)) (pss_cons (show PS _ _ (sXAug _ _ _ (rIxL K) _ rSetL) from ps_xaug (pe_var (i := 1) rfl (.inl rfl) rfl rfl) (pe_var (i := 4) rfl (.inl rfl) rfl rfl) (pe_op op_shl pe_int (pe_var (i := 2) rfl (.inl rfl) rfl rfl)) (show PIp _ _ _ from iop_or) (fun _ _ _ => rfl))
      pss_nil))
      pss_nil))
      (pss_cons (ps_ret (pe_var (i := 1) rfl (.inl rfl) rfl rfl))
      pss_nil))), ?_⟩
  refine z_start (σ := [some v2, none, none, none, none]) rfl ?_
  have g : Grow [] S H S H := Grow.refl gS
  refine z_setE ?_
  obtain ⟨q5a, q5w, q5e, q5h, q5p⟩ := (LS.rd g r3)
  obtain ⟨ys8, eys8, h⟩ := OP.bind h
  refine c_lcL (v_eq (val_var rfl) q5e) q5h q5p eys8 (τ := (qI (K := K))) (S := S) (fun w zx4 H_6 rw_ e7 r_ hm => ?_) ?_
  · have g := g.ext e7
    cases (show w = (.int zx4) from rw_)
    exact ⟨true, a_yes rfl, fun _ => ⟨_, _, (Option.some.inj hm).symm, val_c, rfl⟩, fun z => nomatch z⟩
  intro p9 ws10 H_11 e12 np13 ep14 rw15
  have z17 := g.hnone np13
  have c_16 : Cel [] H S H_11 p9 (.lst ws10) := Cel.own g e12 np13 ep14 rfl
  replace g := g.ext e12
  refine g_name (σ' := [some v2, some (.ref p9), none, none, none]) rfl ?_
  obtain ⟨B21, h, hB22⟩ := OP.cut h
  obtain ⟨F23, hF24, h⟩ := OP.nameO h
  obtain ⟨q37a, q37w, q37e, q37h, q37p⟩ := id r3
  refine z_forN (v_eq (val_var rfl) q37e) q37p (fun ys26 σ' H' => ∃ (ws27 : List V) (back30 : (List Int)) (u31 : Option V) (u32 : Option V) (u33 : Option V) (S_34 : Hp), σ' = [some v2, some (.ref p9), u31, u32, u33] ∧ Grow [] S H S_34 H' ∧ Same S S_34 ∧ Cel [] H S_34 H' p9 (.lst ws27) ∧ RL (qI (K := K)) S_34 ws27 back30 ∧ OP (forO F23 ys26 back30) B21) ⟨_, _, _, _, _, _, rfl, g, (Same.refl _), c_16, rw15, h⟩ (fun ys σ' H' p => by obtain ⟨ws27, back30, u31, u32, u33, S_34, rfl, gN, eS36, c_28N, r29N, h⟩ := p; exact gN.sq q37h) (fun w_19 x18 ys26 σ' H_35 rw20 p N hN25 t38 nt39 => ?_) ?_
  · obtain ⟨ws27, back30, u31, u32, u33, S_34, rfl, gN, eS36, c_28N, r29N, h⟩ := p
    replace g := gN
    have c_28 := c_28N
    have r29 := r29N
    replace r3 := RdL.mono eS36 r3
    replace h := OP.forO h
    replace h := OP.fcall2 hF24 h
    cases (show w_19 = (.int x18.2) from rw20)
    obtain ⟨H_41, e40, qH_41⟩ : ∃ H2, Same H_35 H2 ∧ H2 = upd H_35 t38 (.tup [.int x18.1, .int x18.2]) := ⟨_, same_upd nt39, rfl⟩
    have tH_41 : H_41 t38 = some (.tup [.int x18.1, .int x18.2]) := by rw [qH_41]; exact upd_same
    replace c_28 := c_28.ext e40
    replace g := g.ext e40
    refine g_pair qH_41 tH_41 rfl ?_
    refine g_name (σ' := [some v2, some (.ref p9), some (.int x18.1), u32, u33]) rfl ?_
    refine g_next ?_
    refine g_name (σ' := [some v2, some (.ref p9), some (.int x18.1), some (.int x18.2), u33]) rfl ?_
    refine g_end ?_
    refine z_forLE ?_
    refine c_call ?_
    refine c_args (va_cons (val_var rfl) va_nil) ?_
    have gL52 : ∀ l ∈ [], H l = none ∨ l ∈ [] := LM0
    refine ⟨S_34, _, rfl, g.sh, (OP.of h).mono fun v42 h S_43 H_44 p46 ws47 gc45 np48 hp49 sp50 wf51 => ?_⟩
    have ne53 := c_28.ne np48
    have z54 := g.hnone np48
    replace c_28 := c_28.call gc45 NM0
    replace r3 := RdL.mono gc45.ss r3
    replace r29 := RL.mono gc45.ss r29
    replace eS36 := eS36.trans gc45.ss
    have c_55 : Cel [] H S_43 H_44 p46 (.lst ws47) := ⟨hp49, sp50, .inl z54, rfl⟩
    replace g := g.call gc45 gL52
    obtain ⟨B59, h, hB60⟩ := OP.cut h
    obtain ⟨F61, hF62, h⟩ := OP.nameO h
    have q73e : ((.ref p46) : V) = (.ref p46) := rfl
    have q73p := wf51
    refine z_forL (v_eq val_c q73e) q73p (fun ys64 σ' H' => ∃ (ws65 : List V) (back68 : (List Int)) (u69 : Option V) (S_70 : Hp), σ' = [some v2, some (.ref p9), some (.int x18.1), some (.int x18.2), u69] ∧ Grow [] S H S_70 H' ∧ Same S_43 S_70 ∧ Cel [] H S_70 H' p9 (.lst ws65) ∧ RL (qI (K := K)) S_70 ws65 back68 ∧ Cel [] H S_70 H' p46 (.lst ws47) ∧ OP (forO F61 ys64 back68) B59) ⟨_, _, _, _, rfl, g, (Same.refl _), c_28, r29, c_55, h⟩ (fun ys σ' H' p => by obtain ⟨ws65, back68, u69, S_70, rfl, gN, eS72, c_66N, r67N, c_55N, h⟩ := p; exact SqL.of c_55N.h) (fun w_57 there56 ys64 σ' H_71 rw58 p N hN63 => ?_) ?_
    · obtain ⟨ws65, back68, u69, S_70, rfl, gN, eS72, c_66N, r67N, c_55N, h⟩ := p
      replace g := gN
      have c_66 := c_66N
      have r67 := r67N
      replace c_55 := c_55N
      replace r3 := RdL.mono eS72 r3
      replace wf51 := RL.mono eS72 wf51
      replace eS36 := eS36.trans eS72
      replace h := OP.forO h
      replace h := OP.fcall2 hF62 h
      cases (show w_57 = (.int there56) from rw58)
      refine g_name (σ' := [some v2, some (.ref p9), some (.int x18.1), some (.int x18.2), some (.int there56)]) rfl ?_
      obtain ⟨i74, ei74, h⟩ := OP.bind h
      refine z_xaugI (val_var rfl) (val_var rfl) c_66.h r67 ei74 ?_
      obtain ⟨g75, h⟩ := OP.grd h
      refine c_val (v_o2c val_c (val_var rfl) g75) ?_
      refine e_o2 ?_
      obtain ⟨l76, el76, h⟩ := OP.bind h
      refine c_setL2 g c_66 r67 rfl el76 fun ws77 H_78 g79 c_80 w_81 ot82 => ?_
      replace c_55 := ot82 _ _ (by first | assumption | exact Ne.symm (by assumption)) c_55
      replace g := g79
      refine z_next ?_
      exact hN63 _ _ ⟨_, _, _, _, rfl, g, eS72, c_80, w_81, c_55, h⟩
    · intro σ' H_71 p
      obtain ⟨ws65, back68, u69, S_70, rfl, gN, eS72, c_66N, r67N, c_55N, h⟩ := p
      replace g := gN
      have c_66 := c_66N
      have r67 := r67N
      replace c_55 := c_55N
      replace r3 := RdL.mono eS72 r3
      replace wf51 := RL.mono eS72 wf51
      replace eS36 := eS36.trans eS72
      replace h := hB60 _ (OP.forO_nil h)
      refine z_next ?_
      exact hN25 _ _ ⟨_, _, _, _, _, _, rfl, g, eS36, c_66, r67, h⟩
  · intro σ' H_35 p
    obtain ⟨ws27, back30, u31, u32, u33, S_34, rfl, gN, eS36, c_28N, r29N, h⟩ := p
    replace g := gN
    have c_28 := c_28N
    have r29 := r29N
    replace r3 := RdL.mono eS36 r3
    replace h := hB22 _ (OP.forO_nil h)
    refine z_ret (val_var rfl) ?_
    have h := OP.fin hA h
    exact h _ _ _ _ g z17 c_28.h c_28.s r29

@[irreducible] def m_Chart___init__ (many7 : Int) (starts8 : Int) (bads9 : Int) (after10 : (List Int)) : Option O_Chart :=
(m_is_whole many7).bind fun v13 =>
ifo ((!v13) || ((decide (many7 < 1)) || (decide (6 < many7)))) (
none) (
(m_is_crowd many7 starts8).bind fun v14 =>
(ifo (!v14) (some true) ((m_is_crowd many7 bads9).bind fun v15 =>
some (!v15))).bind fun c_16 =>
ifo c_16 (
none) (
(ifo (!true) (some true) (grd (gPow 1 many7) <|
some (!(decide ((after10.length : Int) = (shl 1 many7)))))).bind fun c_18 =>
ifo c_18 (
none) (
(forO (fun crowd19 _ =>
(m_is_crowd many7 crowd19).bind fun v31 =>
ifo (!v31) (
none) (
some ())) (after10) ()).bind (fun _ =>
(m_leading_back after10).bind fun v65 =>
some (O_Chart.mk many7 starts8 bads9 after10 v65)))))
abbrev s_Chart___init__ : Stmt := inClass (top 9) 0
abbrev sn_Chart___init__ : List Str := ["self", "many", "starts", "bads", "after", "crowd"]
theorem sc_Chart___init__ : FnScope ["self", "many", "starts", "bads", "after", "crowd"] ["self", "many", "starts", "bads", "after"] (defScope (s_Chart___init__)) := ⟨rfl, rfl, rfl, by decide +kernel, rfl, by decide +kernel, by decide +kernel⟩
def p_Chart___init__ (K : PySem.W.Frag) (c : Cl) : Sp := fun vs H Q E => ∃ (S : Hp) (l2 : Addr) (dx3 : Addr) (many7 : Int) (starts8 : Int) (bads9 : Int) (v11 : V) (after10 : (List Int)), vs = [.ref l2, .int many7, .int starts8, .int bads9, v11] ∧ Same S H ∧ H l2 = some (.ins c.Chart dx3 []) ∧ S l2 = none ∧ RdL (qI (K := K)) [l2] S H v11 after10 ∧ OP (m_Chart___init__ many7 starts8 bads9 after10) (fun r => ∀ (S' H' : Hp) (w0 : V) (w1 : V), Grow [l2] S H S' H' → H' l2 = some (.ins c.Chart dx3 [("many", (.int r.many)), ("starts", (.int r.starts)), ("bads", (.int r.bads)), ("forth", w0), ("back", w1)]) → ((qL (qI (K := K)))).R S' w0 r.forth → ((qL (qI (K := K)))).R S' w1 r.back → Q .non H')
theorem ok_Chart___init__ (T : Tx K mg) : FnOk P w K mg base CX0 3 T.f_Chart___init__ T.d_Chart___init__ ["self", "many", "starts", "bads", "after"] (p_Chart___init__ K T.c) := by
  refine T.F_Chart___init__.ok sc_Chart___init__ (fun vs H Q E h => by obtain ⟨S, l2, dx3, many7, starts8, bads9, v11, after10, rfl, _⟩ := h; rfl) (fun cdv A outer s H vs Q E hr h => ?_)
  obtain ⟨S, l2, dx3, many7, starts8, bads9, v11, after10, rfl, gS, h_4, h_5, r12, h⟩ := h
  obtain ⟨A_, hA⟩ : ∃ A_, A_ = (fun r : O_Chart => ∀ (S' H' : Hp) (w0 : V) (w1 : V), Grow [l2] S H S' H' → H' l2 = some (.ins T.c.Chart dx3 [("many", (.int r.many)), ("starts", (.int r.starts)), ("bads", (.int r.bads)), ("forth", w0), ("back", w1)]) → ((qL (qI (K := K)))).R S' w0 r.forth → ((qL (qI (K := K)))).R S' w1 r.back → Q .non H') := ⟨_, rfl⟩
  replace h : OP (m_Chart___init__ many7 starts8 bads9 after10) A_ := hA ▸ h
  rw [m_Chart___init__] at h
  have hr1 : Room 1 _ := hr.mono (by decide)
  have hr2 : Room 2 _ := hr.mono (by decide)
  refine ⟨_, (pss_cons (ps_if (PW.pt (pw_or (pt_not (pt_val (pe_call (ok_is_whole T) hr1 rfl T.m_is_whole T.F_is_whole.kp T.b_is_whole .nil pass0 (pa_cons (pe_var (i := 1) rfl (.inl rfl) rfl rfl) pa_nil)))) (pw_or (pt_cmpR op_lt (pe_var (i := 1) rfl (.inl rfl) rfl rfl) pe_int (nomark _)) (pw_or1 (pt_cmpR op_gt (pe_var (i := 1) rfl (.inl rfl) rfl rfl) pe_int (nomark _)))))) (pss_cons (ps_raise rfl takes0 (pmk_own PySem.F.excBase_ValueError T.e_NoChart.x T.m_NoChart T.e_NoChart.k (raises_own T.e_NoChart.b T.e_NoChart.t) rfl))
      pss_nil) pss_nil)
      (pss_cons (ps_if (PW.pt (pw_or (pt_not (pt_val (pe_call (ok_is_crowd T) hr2 rfl T.m_is_crowd T.F_is_crowd.kp T.b_is_crowd .nil pass0 (pa_cons (pe_var (i := 1) rfl (.inl rfl) rfl rfl) (pa_cons (pe_var (i := 2) rfl (.inl rfl) rfl rfl) pa_nil))))) (pw_or1 (pt_not (pt_val (pe_call (ok_is_crowd T) hr2 rfl T.m_is_crowd T.F_is_crowd.kp T.b_is_crowd .nil pass0 (pa_cons (pe_var (i := 1) rfl (.inl rfl) rfl rfl) (pa_cons (pe_var (i := 3) rfl (.inl rfl) rfl rfl) pa_nil)))))))) (pss_cons (ps_raise rfl takes0 (pmk_own PySem.F.excBase_ValueError T.e_NoChart.x T.m_NoChart T.e_NoChart.k (raises_own T.e_NoChart.b T.e_NoChart.t) rfl))
      pss_nil) pss_nil)
      (pss_cons (ps_if (PW.pt (pw_or (pt_not (pt_val (pe_callB (show CallR _ (.builtin "isinstance") (rIsi K) from call_isi) rfl T.n_isinstance bt_isinstance (pa_cons (pe_var (i := 4) rfl (.inl rfl) rfl rfl) (pa_cons (pe_bltn (v := .ty "list") rfl T.n_list bt_list rfl) pa_nil))))) (pw_or1 (pt_cmpR op_ne (pe_callB (show CallR _ (.builtin "len") (Z.rLenS K) from call_len_seq) rfl T.n_len bt_len (pa_cons (pe_var (i := 4) rfl (.inl rfl) rfl rfl) pa_nil)) (pe_op op_shl pe_int (pe_var (i := 1) rfl (.inl rfl) rfl rfl)) (nomark _))))) (pss_cons (ps_raise rfl takes0 (pmk_own PySem.F.excBase_ValueError T.e_NoChart.x T.m_NoChart T.e_NoChart.k (raises_own T.e_NoChart.b T.e_NoChart.t) rfl))
      pss_nil) pss_nil)
      (pss_cons (ps_for PassesOwn.never rfl (pi_list (pe_var (i := 4) rfl (.inl rfl) rfl rfl)) (pg_name (i := 5) sc_Chart___init__.nd rfl (.inl rfl)) (pss_cons (ps_if (pt_not (pt_val (pe_call (ok_is_crowd T) hr2 rfl T.m_is_crowd T.F_is_crowd.kp T.b_is_crowd .nil pass0 (pa_cons (pe_var (i := 1) rfl (.inl rfl) rfl rfl) (pa_cons (pe_var (i := 5) rfl (.inl rfl) rfl rfl) pa_nil))))) (pss_cons (ps_raise rfl takes0 (pmk_own PySem.F.excBase_ValueError T.e_NoChart.x T.m_NoChart T.e_NoChart.k (raises_own T.e_NoChart.b T.e_NoChart.t) rfl))
      pss_nil) pss_nil)
      pss_nil))
      (pss_cons (ps_fld (pe_var (i := 0) rfl (.inl rfl) rfl rfl) (pe_var (i := 1) rfl (.inl rfl) rfl rfl) rfl)
      (pss_cons (ps_fld (pe_var (i := 0) rfl (.inl rfl) rfl rfl) (pe_var (i := 2) rfl (.inl rfl) rfl rfl) rfl)
      (pss_cons (ps_fld (pe_var (i := 0) rfl (.inl rfl) rfl rfl) (pe_var (i := 3) rfl (.inl rfl) rfl rfl) rfl)
      (pss_cons (ps_fld (pe_var (i := 0) rfl (.inl rfl) rfl rfl) (pe_callTy call_list_of rfl T.n_list bt_list (pa_cons (pe_var (i := 4) rfl (.inl rfl) rfl rfl) pa_nil)) rfl)
      (pss_cons (ps_fld (pe_var (i := 0) rfl (.inl rfl) rfl rfl) (pe_call (ok_leading_back T) hr2 rfl T.m_leading_back T.F_leading_back.kp T.b_leading_back .nil pass0 (pa_cons (pe_var (i := 4) rfl (.inl rfl) rfl rfl) pa_nil)) rfl)
      pss_nil))))))))), ?_⟩
  refine z_start (σ := [some (.ref l2), some (.int many7), some (.int starts8), some (.int bads9), some v11, none]) rfl ?_
  have g : Grow [l2] S H S H := Grow.refl gS
  have c_6 : Cel [l2] H S H l2 (.ins T.c.Chart dx3 []) := ⟨h_4, h_5, .inr (.head _), rfl⟩
  obtain ⟨v13, ev13, h⟩ := OP.bind h
  refine z_if (a_or (a_not (v_B (v_call (va_cons (val_var rfl) va_nil) fun Q q => ⟨_, rfl, OP.mk ev13 q⟩))) (a_or (v_test (v_o2 (val_var rfl) val_c)) (v_test (v_o2 (val_var rfl) val_c)))) (fun hc => ?_) (fun hc => ?_)
  · replace h := OP.ite1 hc h
    exact h.elim
  · replace h := OP.ite0 hc h
    refine z_nextR ?_
    obtain ⟨v14, ev14, h⟩ := OP.bind h
    obtain ⟨c_16, ec_16, h⟩ := OP.bind h
    refine z_if (a_orP (a_not (v_B (v_call (va_cons (val_var rfl) (va_cons (val_var rfl) va_nil)) fun Q q => ⟨_, _, rfl, OP.mk ev14 q⟩))) ec_16 (fun hb hm => by
          obtain ⟨v15, ev15, hm⟩ := bind_some hm
          exact (a_eq (a_not (v_B (v_call (va_cons (val_var rfl) (va_cons (val_var rfl) va_nil)) fun Q q => ⟨_, _, rfl, OP.mk ev15 q⟩))) (Option.some.inj hm)))) (fun hc => ?_) (fun hc => ?_)
    · replace h := OP.ite1 hc h
      exact h.elim
    · replace h := OP.ite0 hc h
      refine z_nextR ?_
      obtain ⟨c_18, ec_18, h⟩ := OP.bind h
      refine z_if (a_orP (a_not (v_B (v_isi (val_var rfl) (ty_q (RdL.q g r12)) (k := true) (by decide +kernel)))) ec_18 (fun hb hm => by
            obtain ⟨g17, hm⟩ := grd_some hm
            exact (a_eq (v_test (v_neI (v_len (val_var rfl) (RdL.q g r12)) (v_o2c val_c (val_var rfl) g17))) (Option.some.inj hm)))) (fun hc => ?_) (fun hc => ?_)
      · replace h := OP.ite1 hc h
        exact h.elim
      · replace h := OP.ite0 hc h
        refine z_nextR ?_
        obtain ⟨B22, h, hB23⟩ := OP.cut h
        obtain ⟨F24, hF25, h⟩ := OP.nameO h
        obtain ⟨q30a, q30w, q30e, q30h, q30p⟩ := id r12
        have q30j := g.sq q30h
        refine z_forL (v_eq (val_var rfl) q30e) q30p (fun ys27 σ' H' => ∃ (u28 : Option V), σ' = [some (.ref l2), some (.int many7), some (.int starts8), some (.int bads9), some v11, u28] ∧ H = H' ∧ OP (forO F24 ys27 ()) B22) ⟨_, rfl, rfl, h⟩ (fun ys σ' H' p => by obtain ⟨u28, rfl, rfl, h⟩ := p; exact q30j) (fun w_20 crowd19 ys27 σ' H_29 rw21 p N hN26 => ?_) ?_
        · obtain ⟨u28, rfl, rfl, h⟩ := p
          replace h := OP.forO h
          replace h := OP.fcall2 hF25 h
          cases (show w_20 = (.int crowd19) from rw21)
          refine g_name (σ' := [some (.ref l2), some (.int many7), some (.int starts8), some (.int bads9), some v11, some (.int crowd19)]) rfl ?_
          obtain ⟨v31, ev31, h⟩ := OP.bind h
          refine z_if (a_not (v_B (v_call (va_cons (val_var rfl) (va_cons (val_var rfl) va_nil)) fun Q q => ⟨_, _, rfl, OP.mk ev31 q⟩))) (fun hc => ?_) (fun hc => ?_)
          · replace h := OP.ite1 hc h
            exact h.elim
          · replace h := OP.ite0 hc h
            refine z_nextR ?_
            refine z_next ?_
            exact hN26 _ _ ⟨_, rfl, rfl, h⟩
        · intro σ' H_32 p
          obtain ⟨u28, rfl, rfl, h⟩ := p
          replace h := hB23 _ (OP.forO_nil h)
          refine z_fldE ?_
          refine c_val (val_var rfl) ?_
          refine c_setF (fs' := [("many", (.int many7))]) g c_6 (val_var rfl) T.l_Chart T.a_Chart_many (show 0 < 1000 by decide) rfl fun H_33 g34 c_35 ot36 => ?_
          replace g := g34
          refine z_fldE ?_
          refine c_val (val_var rfl) ?_
          refine c_setF (fs' := [("many", (.int many7)), ("starts", (.int starts8))]) g c_35 (val_var rfl) T.l_Chart T.a_Chart_starts (show 1 < 1000 by decide) rfl fun H_37 g38 c_39 ot40 => ?_
          replace g := g38
          refine z_fldE ?_
          refine c_val (val_var rfl) ?_
          refine c_setF (fs' := [("many", (.int many7)), ("starts", (.int starts8)), ("bads", (.int bads9))]) g c_39 (val_var rfl) T.l_Chart T.a_Chart_bads (show 2 < 1000 by decide) rfl fun H_41 g42 c_43 ot44 => ?_
          replace g := g42
          refine z_fldE ?_
          refine c_cbE fun Q_45 hQ_45 => ?_
          refine c_args (va_cons (val_var rfl) va_nil) ?_
          refine (l_list (Q := Q_45) (LS.rd g r12) fun p46 ws47 H_48 e49 np50 ep51 rw52 => ?_)
          refine q_eq hQ_45 ?_
          have ne55 := c_43.ne np50
          have z54 := g.hnone np50
          have c_53 : Cel [l2] H S H_48 p46 (.lst ws47) := Cel.own g e49 np50 ep51 rfl
          replace c_43 := c_43.ext e49
          replace g := g.ext e49
          obtain ⟨S_56, g57, eS58, r59, ot60⟩ := c_freeze g c_53 z54 rw52
          replace c_43 := ot60 _ _ (by first | assumption | exact Ne.symm (by assumption)) c_43
          replace r12 := RdL.mono eS58 r12
          replace rw52 := RL.mono eS58 rw52
          replace g := g57
          refine c_setF (fs' := [("many", (.int many7)), ("starts", (.int starts8)), ("bads", (.int bads9)), ("forth", (.ref p46))]) g c_43 (val_var rfl) T.l_Chart T.a_Chart_forth (show 3 < 1000 by decide) rfl fun H_61 g62 c_63 ot64 => ?_
          replace g := g62
          refine z_fldE ?_
          refine c_call ?_
          refine c_args (va_cons (val_var rfl) va_nil) ?_
          have gL75 : ∀ l ∈ [], H l = none ∨ l ∈ [l2] := LM0
          refine ⟨S_56, _, _, rfl, g.sh, (RdL.to g r12 LM0), (OP.of h).mono fun v65 h S_66 H_67 p69 ws70 gc68 np71 hp72 sp73 wf74 => ?_⟩
          have ne76 := c_63.ne np71
          have z77 := g.hnone np71
          replace c_63 := c_63.call gc68 NM0
          replace r59 := Rep.mono _ gc68.ss r59
          replace r12 := RdL.mono gc68.ss r12
          have c_78 : Cel [l2] H S_66 H_67 p69 (.lst ws70) := ⟨hp72, sp73, .inl z77, rfl⟩
          replace g := g.call gc68 gL75
          obtain ⟨S_79, g80, eS81, r82, ot83⟩ := c_freeze g c_78 z77 wf74
          replace c_63 := ot83 _ _ (by first | assumption | exact Ne.symm (by assumption)) c_63
          replace r59 := Rep.mono _ eS81 r59
          replace r12 := RdL.mono eS81 r12
          replace wf74 := RL.mono eS81 wf74
          replace g := g80
          refine c_setF (fs' := [("many", (.int many7)), ("starts", (.int starts8)), ("bads", (.int bads9)), ("forth", (.ref p46)), ("back", (.ref p69))]) g c_63 (val_var rfl) T.l_Chart T.a_Chart_back (show 4 < 1000 by decide) rfl fun H_84 g85 c_86 ot87 => ?_
          replace g := g85
          refine z_next ?_
          have h := OP.fin hA h
          exact h _ _ _ _ g c_86.h r59 r82

@[irreducible] def m_all_stands (many1 : Int) : Option Int :=
grd (gPow 1 many1) <|
grd (gPow 1 (shl 1 many1)) <|
some ((shl 1 (shl 1 many1)) - 1)
abbrev s_all_stands : Stmt := top 14
abbrev sn_all_stands : List Str := ["many"]
theorem sc_all_stands : FnScope ["many"] ["many"] (defScope (s_all_stands)) := ⟨rfl, rfl, rfl, by decide +kernel, rfl, by decide +kernel, by decide +kernel⟩
def p_all_stands (K : PySem.W.Frag) (c : Cl) : Sp := fun vs H Q E => ∃ (many1 : Int), vs = [.int many1] ∧ OP (m_all_stands many1) (fun r => Q (.int r) H)
theorem ok_all_stands (T : Tx K mg) : FnOk P w K mg base CX0 1 T.f_all_stands T.d_all_stands ["many"] (p_all_stands K T.c) := by
  refine T.F_all_stands.ok sc_all_stands (fun vs H Q E h => by obtain ⟨many1, rfl, _⟩ := h; rfl) (fun cdv A outer s H vs Q E hr h => ?_)
  obtain ⟨many1, rfl, h⟩ := h
  obtain ⟨A_, hA⟩ : ∃ A_, A_ = (fun r : Int => Q (.int r) H) := ⟨_, rfl⟩
  replace h : OP (m_all_stands many1) A_ := hA ▸ h
  rw [m_all_stands] at h
  refine ⟨_, (pss_cons (ps_ret (pe_op op_sub (pe_op op_shl pe_int (pe_op op_shl pe_int (pe_var (i := 0) rfl (.inl rfl) rfl rfl))) pe_int))
      pss_nil), ?_⟩
  refine z_start (σ := [some (.int many1)]) rfl ?_
  have g : Grow [] H H H H := Grow.refl (Same.refl _)
  obtain ⟨g2, h⟩ := OP.grd h
  obtain ⟨g3, h⟩ := OP.grd h
  refine z_ret (v_o2 (v_o2c val_c (v_o2c val_c (val_var rfl) g2) g3) val_c) ?_
  have h := OP.fin hA h
  exact h

@[irreducible] def m_Lamp_crowd (self1 : O_Formula) (many4 : Int) : Option Int :=
(gf_Formula_at self1).bind fun y5 =>
grd (gPow 1 y5) <|
lt (shl 1 y5) fun block7 =>
grd (gPow 1 block7) <|
grd (gPow ((shl 1 block7) - 1) block7) <|
lt (shl ((shl 1 block7) - 1) block7) fun lit10 =>
(gf_Formula_at self1).bind fun y11 =>
grd (gPow 1 ((many4 - y11) - 1)) <|
grd (gR (shl 1 ((many4 - y11) - 1))) <|
(forO (fun turn14 found23 =>
grd (gMul (turn14 * 2) block7) <|
grd (gPow lit10 ((turn14 * 2) * block7)) <|
lt (bor found23 (shl lit10 ((turn14 * 2) * block7))) fun found28 =>
some found28) (rangeI 0 (Int.toNat (shl 1 ((many4 - y11) - 1)))) 0).bind (fun found23 =>
some found23)
abbrev s_Lamp_crowd : Stmt := inClass (top 16) 2
abbrev sn_Lamp_crowd : List Str := ["self", "many", "block", "lit", "found", "turn"]
theorem sc_Lamp_crowd : FnScope ["self", "many", "block", "lit", "found", "turn"] ["self", "many"] (defScope (s_Lamp_crowd)) := ⟨rfl, rfl, rfl, by decide +kernel, rfl, by decide +kernel, by decide +kernel⟩
def p_Lamp_crowd (K : PySem.W.Frag) (c : Cl) : Sp := fun vs H Q E => ∃ (v2 : V) (self1 : O_Formula) (many4 : Int), vs = [v2, .int many4] ∧ ((q_Formula (K := K) c)).R H v2 self1 ∧ OP (m_Lamp_crowd self1 many4) (fun r => Q (.int r) H)
theorem ok_Lamp_crowd (T : Tx K mg) : FnOk P w K mg base CX0 1 T.f_Lamp_crowd T.d_Lamp_crowd ["self", "many"] (p_Lamp_crowd K T.c) := by
  refine T.F_Lamp_crowd.ok sc_Lamp_crowd (fun vs H Q E h => by obtain ⟨v2, self1, many4, rfl, _⟩ := h; rfl) (fun cdv A outer s H vs Q E hr h => ?_)
  obtain ⟨v2, self1, many4, rfl, r3, h⟩ := h
  obtain ⟨A_, hA⟩ : ∃ A_, A_ = (fun r : Int => Q (.int r) H) := ⟨_, rfl⟩
  replace h : OP (m_Lamp_crowd self1 many4) A_ := hA ▸ h
  rw [m_Lamp_crowd] at h
  refine ⟨_, (pss_cons (ps_set (i := 2) sc_Lamp_crowd.nd rfl (.inl rfl) (pe_op op_shl pe_int (pe_fld (pe_var (i := 0) rfl (.inl rfl) rfl rfl) rfl)))
      (pss_cons (ps_set (i := 3) sc_Lamp_crowd.nd rfl (.inl rfl) (pe_op op_shl (pe_op op_sub (pe_op op_shl pe_int (pe_var (i := 2) rfl (.inl rfl) rfl rfl)) pe_int) (pe_var (i := 2) rfl (.inl rfl) rfl rfl)))
      (pss_cons (ps_set (i := 4) sc_Lamp_crowd.nd rfl (.inl rfl) pe_int)
      (pss_cons (ps_for PassesOwn.never rfl (pi_range1 rfl T.n_range (pa_cons (pe_op op_shl pe_int (pe_op op_sub (pe_op op_sub (pe_var (i := 1) rfl (.inl rfl) rfl rfl) (pe_fld (pe_var (i := 0) rfl (.inl rfl) rfl rfl) rfl)) pe_int)) pa_nil)) (pg_name (i := 5) sc_Lamp_crowd.nd rfl (.inl rfl)) (pss_cons (ps_aug (i := 4) sc_Lamp_crowd.nd rfl (.inl rfl) (pe_op op_shl (pe_var (i := 3) rfl (.inl rfl) rfl rfl) (pe_op op_mul (pe_op op_mul (pe_var (i := 5) rfl (.inl rfl) rfl rfl) pe_int) (pe_var (i := 2) rfl (.inl rfl) rfl rfl))) iop_or)
      pss_nil))
      (pss_cons (ps_ret (pe_var (i := 4) rfl (.inl rfl) rfl rfl))
      pss_nil))))), ?_⟩
  refine z_start (σ := [some v2, some (.int many4), none, none, none, none]) rfl ?_
  have g : Grow [] H H H H := Grow.refl (Same.refl _)
  obtain ⟨y5, ey5, h⟩ := OP.bind h
  obtain ⟨g6, h⟩ := OP.grd h
  obtain ⟨block7, eblock7, h⟩ := OP.lt h
  refine z_set (w := (.int block7)) (σ' := [some v2, some (.int many4), some (.int block7), none, none, none]) (v_o2c val_c (vf_Formula_at T (val_var rfl) (Rep.mono _ g.sh r3) ey5) g6) (congrArg V.int eblock7) rfl ?_
  obtain ⟨g8, h⟩ := OP.grd h
  obtain ⟨g9, h⟩ := OP.grd h
  obtain ⟨lit10, elit10, h⟩ := OP.lt h
  refine z_set (w := (.int lit10)) (σ' := [some v2, some (.int many4), some (.int block7), some (.int lit10), none, none]) (v_o2c (v_o2 (v_o2c val_c (val_var rfl) g8) val_c) (val_var rfl) g9) (congrArg V.int elit10) rfl ?_
  refine z_set (w := (.int 0)) (σ' := [some v2, some (.int many4), some (.int block7), some (.int lit10), some (.int 0), none]) val_c rfl rfl ?_
  obtain ⟨y11, ey11, h⟩ := OP.bind h
  obtain ⟨g12, h⟩ := OP.grd h
  obtain ⟨g13, h⟩ := OP.grd h
  obtain ⟨B17, h, hB18⟩ := OP.cut h
  obtain ⟨F19, hF20, h⟩ := OP.nameO h
  refine z_for1 (j := (shl 1 ((many4 - y11) - 1))) (va_cons (v_o2c val_c (v_o2 (v_o2 (val_var rfl) (vf_Formula_at T (val_var rfl) (Rep.mono _ g.sh r3) ey11)) val_c) g12) va_nil) g13 (fun ys22 σ' H' => ∃ (found23 : Int) (u24 : Option V), σ' = [some v2, some (.int many4), some (.int block7), some (.int lit10), some (.int found23), u24] ∧ H = H' ∧ OP (forO F19 ys22 found23) B17) ⟨_, _, rfl, rfl, h⟩ (fun turn14 ys22 σ' H_25 p N hN21 => ?_) ?_
  · obtain ⟨found23, u24, rfl, rfl, h⟩ := p
    replace h := OP.forO h
    replace h := OP.fcall2 hF20 h
    refine g_name (σ' := [some v2, some (.int many4), some (.int block7), some (.int lit10), some (.int found23), some (.int turn14)]) rfl ?_
    obtain ⟨g26, h⟩ := OP.grd h
    obtain ⟨g27, h⟩ := OP.grd h
    obtain ⟨found28, efound28, h⟩ := OP.lt h
    refine z_augI (w := (.int found28)) (σ' := [some v2, some (.int many4), some (.int block7), some (.int lit10), some (.int found28), some (.int turn14)]) rfl (v_o2c (val_var rfl) (v_o2c (v_o2c (val_var rfl) val_c (.inr ⟨by decide, by decide⟩)) (val_var rfl) g26) g27) (congrArg V.int efound28) rfl ?_
    refine z_next ?_
    exact hN21 _ _ ⟨_, _, rfl, rfl, h⟩
  · intro σ' H_29 p
    obtain ⟨found23, u24, rfl, rfl, h⟩ := p
    replace h := hB18 _ (OP.forO_nil h)
    refine z_ret (val_var rfl) ?_
    have h := OP.fin hA h
    exact h

@[irreducible] def m_Sure_crowd (self1 : O_Formula) (many4 : Int) : Option Int :=
(gf_Formula_truth self1).bind fun y5 =>
ifo y5 (
(m_all_stands many4).bind fun v6 =>
some v6) (
some 0)
abbrev s_Sure_crowd : Stmt := inClass (top 17) 2
abbrev sn_Sure_crowd : List Str := ["self", "many"]
theorem sc_Sure_crowd : FnScope ["self", "many"] ["self", "many"] (defScope (s_Sure_crowd)) := ⟨rfl, rfl, rfl, by decide +kernel, rfl, by decide +kernel, by decide +kernel⟩
def p_Sure_crowd (K : PySem.W.Frag) (c : Cl) : Sp := fun vs H Q E => ∃ (v2 : V) (self1 : O_Formula) (many4 : Int), vs = [v2, .int many4] ∧ ((q_Formula (K := K) c)).R H v2 self1 ∧ OP (m_Sure_crowd self1 many4) (fun r => Q (.int r) H)
theorem ok_Sure_crowd (T : Tx K mg) : FnOk P w K mg base CX0 2 T.f_Sure_crowd T.d_Sure_crowd ["self", "many"] (p_Sure_crowd K T.c) := by
  refine T.F_Sure_crowd.ok sc_Sure_crowd (fun vs H Q E h => by obtain ⟨v2, self1, many4, rfl, _⟩ := h; rfl) (fun cdv A outer s H vs Q E hr h => ?_)
  obtain ⟨v2, self1, many4, rfl, r3, h⟩ := h
  obtain ⟨A_, hA⟩ : ∃ A_, A_ = (fun r : Int => Q (.int r) H) := ⟨_, rfl⟩
  replace h : OP (m_Sure_crowd self1 many4) A_ := hA ▸ h
  rw [m_Sure_crowd] at h
  have hr1 : Room 1 _ := hr.mono (by decide)
  refine ⟨_, (pss_cons (ps_if (pt_val (pe_fld (pe_var (i := 0) rfl (.inl rfl) rfl rfl) rfl)) (pss_cons (ps_ret (pe_call (ok_all_stands T) hr1 rfl T.m_all_stands T.F_all_stands.kp T.b_all_stands .nil pass0 (pa_cons (pe_var (i := 1) rfl (.inl rfl) rfl rfl) pa_nil)))
      pss_nil) pss_nil)
      (pss_cons (ps_ret pe_int)
      pss_nil)), ?_⟩
  refine z_start (σ := [some v2, some (.int many4)]) rfl ?_
  have g : Grow [] H H H H := Grow.refl (Same.refl _)
  obtain ⟨y5, ey5, h⟩ := OP.bind h
  refine z_if (v_B (vf_Formula_truth T (val_var rfl) (Rep.mono _ g.sh r3) ey5)) (fun hc => ?_) (fun hc => ?_)
  · replace h := OP.ite1 hc h
    obtain ⟨v6, ev6, h⟩ := OP.bind h
    refine z_ret (v_call (va_cons (val_var rfl) va_nil) fun Q q => ⟨_, rfl, OP.mk ev6 q⟩) ?_
    have h := OP.fin hA h
    exact h
  · replace h := OP.ite0 hc h
    refine z_nextR ?_
    refine z_ret val_c ?_
    have h := OP.fin hA h
    exact h

@[irreducible] def mb_And_crowd (rec_D_Formula_crowd : O_Formula → Int → Option Int) (self1 : O_Formula) (many4 : Int) : Option Int :=
(m_all_stands many4).bind fun v5 =>
(gf_Formula_parts self1).bind fun y6 =>
(forO (fun part8 found17 =>
(rec_D_Formula_crowd part8 many4).bind fun v22 =>
lt (band found17 v22) fun found23 =>
some found23) (y6) v5).bind (fun found17 =>
some found17)
abbrev s_And_crowd : Stmt := inClass (top 20) 3
abbrev sn_And_crowd : List Str := ["self", "many", "found", "part"]
theorem sc_And_crowd : FnScope ["self", "many", "found", "part"] ["self", "many"] (defScope (s_And_crowd)) := ⟨rfl, rfl, rfl, by decide +kernel, rfl, by decide +kernel, by decide +kernel⟩
def p_And_crowd (mir : O_Formula → Int → Option Int) (K : PySem.W.Frag) (c : Cl) : Sp := fun vs H Q E => ∃ (v2 : V) (self1 : O_Formula) (many4 : Int), vs = [v2, .int many4] ∧ ((q_Formula (K := K) c)).R H v2 self1 ∧ OP (mir self1 many4) (fun r => Q (.int r) H)
@[irreducible] def mb_Either_crowd (rec_D_Formula_crowd : O_Formula → Int → Option Int) (self1 : O_Formula) (many4 : Int) : Option Int :=
(gf_Formula_parts self1).bind fun y5 =>
(forO (fun part7 found16 =>
(rec_D_Formula_crowd part7 many4).bind fun v21 =>
lt (bxor found16 v21) fun found22 =>
some found22) (y5) 0).bind (fun found16 =>
some found16)
abbrev s_Either_crowd : Stmt := inClass (top 21) 3
abbrev sn_Either_crowd : List Str := ["self", "many", "found", "part"]
theorem sc_Either_crowd : FnScope ["self", "many", "found", "part"] ["self", "many"] (defScope (s_Either_crowd)) := ⟨rfl, rfl, rfl, by decide +kernel, rfl, by decide +kernel, by decide +kernel⟩
def p_Either_crowd (mir : O_Formula → Int → Option Int) (K : PySem.W.Frag) (c : Cl) : Sp := fun vs H Q E => ∃ (v2 : V) (self1 : O_Formula) (many4 : Int), vs = [v2, .int many4] ∧ ((q_Formula (K := K) c)).R H v2 self1 ∧ OP (mir self1 many4) (fun r => Q (.int r) H)
@[irreducible] def mb_Not_crowd (rec_D_Formula_crowd : O_Formula → Int → Option Int) (self1 : O_Formula) (many4 : Int) : Option Int :=
(m_all_stands many4).bind fun v5 =>
(gf_Formula_part self1).bind fun y6 =>
(rec_D_Formula_crowd y6 many4).bind fun v8 =>
some (bxor v5 v8)
abbrev s_Not_crowd : Stmt := inClass (top 18) 2
abbrev sn_Not_crowd : List Str := ["self", "many"]
theorem sc_Not_crowd : FnScope ["self", "many"] ["self", "many"] (defScope (s_Not_crowd)) := ⟨rfl, rfl, rfl, by decide +kernel, rfl, by decide +kernel, by decide +kernel⟩
def p_Not_crowd (mir : O_Formula → Int → Option Int) (K : PySem.W.Frag) (c : Cl) : Sp := fun vs H Q E => ∃ (v2 : V) (self1 : O_Formula) (many4 : Int), vs = [v2, .int many4] ∧ ((q_Formula (K := K) c)).R H v2 self1 ∧ OP (mir self1 many4) (fun r => Q (.int r) H)
@[irreducible] def mb_Or_crowd (rec_D_Formula_crowd : O_Formula → Int → Option Int) (self1 : O_Formula) (many4 : Int) : Option Int :=
(gf_Formula_parts self1).bind fun y5 =>
(forO (fun part7 found16 =>
(rec_D_Formula_crowd part7 many4).bind fun v21 =>
lt (bor found16 v21) fun found22 =>
some found22) (y5) 0).bind (fun found16 =>
some found16)
abbrev s_Or_crowd : Stmt := inClass (top 22) 3
abbrev sn_Or_crowd : List Str := ["self", "many", "found", "part"]
theorem sc_Or_crowd : FnScope ["self", "many", "found", "part"] ["self", "many"] (defScope (s_Or_crowd)) := ⟨rfl, rfl, rfl, by decide +kernel, rfl, by decide +kernel, by decide +kernel⟩
def p_Or_crowd (mir : O_Formula → Int → Option Int) (K : PySem.W.Frag) (c : Cl) : Sp := fun vs H Q E => ∃ (v2 : V) (self1 : O_Formula) (many4 : Int), vs = [v2, .int many4] ∧ ((q_Formula (K := K) c)).R H v2 self1 ∧ OP (mir self1 many4) (fun r => Q (.int r) H)
def mb_D_Formula_crowd (rec_D_Formula_crowd : O_Formula → Int → Option Int) : O_Formula → Int → Option Int := fun x a1 => match x with
  | .Lamp .. => m_Lamp_crowd x a1
  | .Sure .. => m_Sure_crowd x a1
  | .Not .. => mb_Not_crowd rec_D_Formula_crowd x a1
  | .And .. => mb_And_crowd rec_D_Formula_crowd x a1
  | .Either .. => mb_Either_crowd rec_D_Formula_crowd x a1
  | .Or .. => mb_Or_crowd rec_D_Formula_crowd x a1
def pr_Formula_crowd (rec : O_Formula → Int → Option Int) (i : Nat) (K : PySem.W.Frag) (c : Cl) : Sp := fun vs H Q E => ∃ (v2 : V) (self1 : O_Formula) (many4 : Int), vs = [v2, .int many4] ∧ ((q_Formula (K := K) c)).R H v2 self1 ∧ tag_Formula self1 = i ∧ OP (rec self1 many4) (fun r => Q (.int r) H)
structure DOk_Formula_crowd (P : Program) (w : World) (base : Heap) (T : Tx K mg) (k : Nat) (rec : O_Formula → Int → Option Int) : Prop where
  c_Lamp : FnOk P w K mg base CX0 k T.f_Lamp_crowd T.d_Lamp_crowd ["self", "many"] (pr_Formula_crowd rec 0 K T.c)
  c_Sure : FnOk P w K mg base CX0 k T.f_Sure_crowd T.d_Sure_crowd ["self", "many"] (pr_Formula_crowd rec 1 K T.c)
  c_Not : FnOk P w K mg base CX0 k T.f_Not_crowd T.d_Not_crowd ["self", "many"] (pr_Formula_crowd rec 2 K T.c)
  c_And : FnOk P w K mg base CX0 k T.f_And_crowd T.d_And_crowd ["self", "many"] (pr_Formula_crowd rec 3 K T.c)
  c_Either : FnOk P w K mg base CX0 k T.f_Either_crowd T.d_Either_crowd ["self", "many"] (pr_Formula_crowd rec 4 K T.c)
  c_Or : FnOk P w K mg base CX0 k T.f_Or_crowd T.d_Or_crowd ["self", "many"] (pr_Formula_crowd rec 5 K T.c)
theorem v_dp_Formula_crowd (T : Tx K mg) {rec : O_Formula → Int → Option Int} {σ : L2.St} {H : Hp} {z v : V} {ta : TE} {t : TA} {x : O_Formula} {vs : List V} {E : XK} (ha : Val ta σ H v) (r : (q_Formula (K := K) T.c).R H v x) (ht : VA t σ H vs) (hs : ∀ i, tag_Formula x = i → ∀ Q : VK, Q z H → pr_Formula_crowd rec i K T.c (v :: (vs ++ [])) H Q E) : Val ((tAlt (tMeth T.c.Lamp "crowd" (pr_Formula_crowd rec 0 K T.c) [] E ta t) (tAlt (tMeth T.c.Sure "crowd" (pr_Formula_crowd rec 1 K T.c) [] E ta t) (tAlt (tMeth T.c.Not "crowd" (pr_Formula_crowd rec 2 K T.c) [] E ta t) (tAlt (tMeth T.c.And "crowd" (pr_Formula_crowd rec 3 K T.c) [] E ta t) (tAlt (tMeth T.c.Either "crowd" (pr_Formula_crowd rec 4 K T.c) [] E ta t) (tMeth T.c.Or "crowd" (pr_Formula_crowd rec 5 K T.c) [] E ta t))))))) σ H z := fun Q q => by
  cases r with
  | Lamp hp r0 => exact (Or.inl (c_meth ha ⟨_, _, _, rfl, hp, fun m hm => look_none (ns := ["at"]) rfl hm⟩ (m := "crowd") (by decide) (ht _ (hs 0 rfl Q q))))
  | Sure hp r0 => exact (Or.inr (Or.inl (c_meth ha ⟨_, _, _, rfl, hp, fun m hm => look_none (ns := ["truth"]) rfl hm⟩ (m := "crowd") (by decide) (ht _ (hs 1 rfl Q q)))))
  | Not hp r0 => exact (Or.inr (Or.inr (Or.inl (c_meth ha ⟨_, _, _, rfl, hp, fun m hm => look_none (ns := ["part"]) rfl hm⟩ (m := "crowd") (by decide) (ht _ (hs 2 rfl Q q))))))
  | And hp ha0 r0 => exact (Or.inr (Or.inr (Or.inr (Or.inl (c_meth ha ⟨_, _, _, rfl, hp, fun m hm => look_none (ns := ["parts"]) rfl hm⟩ (m := "crowd") (by decide) (ht _ (hs 3 rfl Q q)))))))
  | Either hp ha0 r0 => exact (Or.inr (Or.inr (Or.inr (Or.inr (Or.inl (c_meth ha ⟨_, _, _, rfl, hp, fun m hm => look_none (ns := ["parts"]) rfl hm⟩ (m := "crowd") (by decide) (ht _ (hs 4 rfl Q q))))))))
  | Or hp ha0 r0 => exact (Or.inr (Or.inr (Or.inr (Or.inr (Or.inr (c_meth ha ⟨_, _, _, rfl, hp, fun m hm => look_none (ns := ["parts"]) rfl hm⟩ (m := "crowd") (by decide) (ht _ (hs 5 rfl Q q))))))))
theorem dp_Formula_crowd (T : Tx K mg) {rec : O_Formula → Int → Option Int} {σ : L2.St} {S H : Hp} {v : V} {ta : TE} {t : TA} {x : O_Formula} {Q : VK} {E : XK} (e : Same S H) (ha : Val ta σ H v) (r : (q_Formula (K := K) T.c).R S v x) (k : ∀ i, tag_Formula x = i → t σ H fun vs H2 => pr_Formula_crowd rec i K T.c (v :: (vs ++ [])) H2 Q E) : ((tAlt (tMeth T.c.Lamp "crowd" (pr_Formula_crowd rec 0 K T.c) [] E ta t) (tAlt (tMeth T.c.Sure "crowd" (pr_Formula_crowd rec 1 K T.c) [] E ta t) (tAlt (tMeth T.c.Not "crowd" (pr_Formula_crowd rec 2 K T.c) [] E ta t) (tAlt (tMeth T.c.And "crowd" (pr_Formula_crowd rec 3 K T.c) [] E ta t) (tAlt (tMeth T.c.Either "crowd" (pr_Formula_crowd rec 4 K T.c) [] E ta t) (tMeth T.c.Or "crowd" (pr_Formula_crowd rec 5 K T.c) [] E ta t))))))) σ H Q := by
  cases r with
  | Lamp hp r0 => exact (Or.inl (c_meth ha ⟨_, _, _, rfl, e _ _ hp, fun m hm => look_none (ns := ["at"]) rfl hm⟩ (m := "crowd") (by decide) (k 0 rfl)))
  | Sure hp r0 => exact (Or.inr (Or.inl (c_meth ha ⟨_, _, _, rfl, e _ _ hp, fun m hm => look_none (ns := ["truth"]) rfl hm⟩ (m := "crowd") (by decide) (k 1 rfl))))
  | Not hp r0 => exact (Or.inr (Or.inr (Or.inl (c_meth ha ⟨_, _, _, rfl, e _ _ hp, fun m hm => look_none (ns := ["part"]) rfl hm⟩ (m := "crowd") (by decide) (k 2 rfl)))))
  | And hp ha0 r0 => exact (Or.inr (Or.inr (Or.inr (Or.inl (c_meth ha ⟨_, _, _, rfl, e _ _ hp, fun m hm => look_none (ns := ["parts"]) rfl hm⟩ (m := "crowd") (by decide) (k 3 rfl))))))
  | Either hp ha0 r0 => exact (Or.inr (Or.inr (Or.inr (Or.inr (Or.inl (c_meth ha ⟨_, _, _, rfl, e _ _ hp, fun m hm => look_none (ns := ["parts"]) rfl hm⟩ (m := "crowd") (by decide) (k 4 rfl)))))))
  | Or hp ha0 r0 => exact (Or.inr (Or.inr (Or.inr (Or.inr (Or.inr (c_meth ha ⟨_, _, _, rfl, e _ _ hp, fun m hm => look_none (ns := ["parts"]) rfl hm⟩ (m := "crowd") (by decide) (k 5 rfl)))))))
theorem ok_And_crowd (T : Tx K mg) {k : Nat} (hk : 2 ≤ k) {rec_D_Formula_crowd : O_Formula → Int → Option Int} (hrec_D_Formula_crowd : DOk_Formula_crowd P w base T (k) (rec_D_Formula_crowd)) : FnOk P w K mg base CX0 (k + 1) T.f_And_crowd T.d_And_crowd ["self", "many"] (p_And_crowd (mb_And_crowd rec_D_Formula_crowd) K T.c) := by
  refine T.F_And_crowd.ok sc_And_crowd (fun vs H Q E h => by obtain ⟨v2, self1, many4, rfl, _⟩ := h; rfl) (fun cdv A outer s H vs Q E hr h => ?_)
  obtain ⟨v2, self1, many4, rfl, r3, h⟩ := h
  obtain ⟨A_, hA⟩ : ∃ A_, A_ = (fun r : Int => Q (.int r) H) := ⟨_, rfl⟩
  replace h : OP (mb_And_crowd rec_D_Formula_crowd self1 many4) A_ := hA ▸ h
  rw [mb_And_crowd] at h
  have hr1 : Room 1 _ := hr.mono (by omega)
  refine ⟨_, (pss_cons (ps_set (i := 2) sc_And_crowd.nd rfl (.inl rfl) (pe_call (ok_all_stands T) hr1 rfl T.m_all_stands T.F_all_stands.kp T.b_all_stands .nil pass0 (pa_cons (pe_var (i := 1) rfl (.inl rfl) rfl rfl) pa_nil)))
      (pss_cons (ps_for PassesOwn.never rfl (pi_list (pe_fld (pe_var (i := 0) rfl (.inl rfl) rfl rfl) rfl)) (pg_name (i := 3) sc_And_crowd.nd rfl (.inl rfl)) (pss_cons (ps_aug (i := 2) sc_And_crowd.nd rfl (.inl rfl) (pe_alt (pe_meth (pe_var (i := 3) rfl (.inl rfl) rfl rfl) T.l_Lamp T.t_Lamp_crowd hrec_D_Formula_crowd.c_Lamp hr T.b_Lamp_crowd .nil pass0 (pa_cons (pe_var (i := 1) rfl (.inl rfl) rfl rfl) pa_nil)) (pe_alt (pe_meth (pe_var (i := 3) rfl (.inl rfl) rfl rfl) T.l_Sure T.t_Sure_crowd hrec_D_Formula_crowd.c_Sure hr T.b_Sure_crowd .nil pass0 (pa_cons (pe_var (i := 1) rfl (.inl rfl) rfl rfl) pa_nil)) (pe_alt (pe_meth (pe_var (i := 3) rfl (.inl rfl) rfl rfl) T.l_Not T.t_Not_crowd hrec_D_Formula_crowd.c_Not hr T.b_Not_crowd .nil pass0 (pa_cons (pe_var (i := 1) rfl (.inl rfl) rfl rfl) pa_nil)) (pe_alt (pe_meth (pe_var (i := 3) rfl (.inl rfl) rfl rfl) T.l_And T.t_And_crowd hrec_D_Formula_crowd.c_And hr T.b_And_crowd .nil pass0 (pa_cons (pe_var (i := 1) rfl (.inl rfl) rfl rfl) pa_nil)) (pe_alt (pe_meth (pe_var (i := 3) rfl (.inl rfl) rfl rfl) T.l_Either T.t_Either_crowd hrec_D_Formula_crowd.c_Either hr T.b_Either_crowd .nil pass0 (pa_cons (pe_var (i := 1) rfl (.inl rfl) rfl rfl) pa_nil)) (pe_meth (pe_var (i := 3) rfl (.inl rfl) rfl rfl) T.l_Or T.t_Or_crowd hrec_D_Formula_crowd.c_Or hr T.b_Or_crowd .nil pass0 (pa_cons (pe_var (i := 1) rfl (.inl rfl) rfl rfl) pa_nil))))))) iop_and)
      pss_nil))
      (pss_cons (ps_ret (pe_var (i := 2) rfl (.inl rfl) rfl rfl))
      pss_nil))), ?_⟩
  refine z_start (σ := [some v2, some (.int many4), none, none]) rfl ?_
  have g : Grow [] H H H H := Grow.refl (Same.refl _)
  obtain ⟨v5, ev5, h⟩ := OP.bind h
  refine z_set (w := (.int v5)) (σ' := [some v2, some (.int many4), some (.int v5), none]) (v_call (va_cons (val_var rfl) va_nil) fun Q q => ⟨_, rfl, OP.mk ev5 q⟩) rfl rfl ?_
  obtain ⟨y6, ey6, h⟩ := OP.bind h
  obtain ⟨w_7, hw_7, rw_7⟩ := vf_Formula_parts T g.sh r3 ey6
  obtain ⟨B11, h, hB12⟩ := OP.cut h
  obtain ⟨F13, hF14, h⟩ := OP.nameO h
  obtain ⟨q20a, q20w, q20e, q20h, q20p⟩ := id (qL_qQ rw_7)
  replace q20h := g.sh.seq q20h
  refine z_forL (v_eq (hw_7 (val_var rfl)) q20e) q20p (fun ys16 σ' H' => ∃ (found17 : Int) (u18 : Option V), σ' = [some v2, some (.int many4), some (.int found17), u18] ∧ H = H' ∧ OP (forO F13 ys16 found17) B11) ⟨_, _, rfl, rfl, h⟩ (fun ys σ' H' p => by obtain ⟨found17, u18, rfl, rfl, h⟩ := p; exact q20h) (fun w_9 part8 ys16 σ' H_19 rw10 p N hN15 => ?_) ?_
  · obtain ⟨found17, u18, rfl, rfl, h⟩ := p
    replace h := OP.forO h
    replace h := OP.fcall2 hF14 h
    have rx21 := rw10
    refine g_name (σ' := [some v2, some (.int many4), some (.int found17), some w_9]) rfl ?_
    obtain ⟨v22, ev22, h⟩ := OP.bind h
    obtain ⟨found23, efound23, h⟩ := OP.lt h
    refine z_augI (w := (.int found23)) (σ' := [some v2, some (.int many4), some (.int found23), some w_9]) rfl (v_dp_Formula_crowd T (val_var rfl) (Rep.mono _ g.sh rx21) (va_cons (val_var rfl) va_nil) fun i_ hi_ Q q => ⟨_, _, _, rfl, (Rep.mono _ g.sh rx21), hi_, OP.mk ev22 q⟩) (congrArg V.int efound23) rfl ?_
    refine z_next ?_
    exact hN15 _ _ ⟨_, _, rfl, rfl, h⟩
  · intro σ' H_24 p
    obtain ⟨found17, u18, rfl, rfl, h⟩ := p
    replace h := hB12 _ (OP.forO_nil h)
    refine z_ret (val_var rfl) ?_
    have h := OP.fin hA h
    exact h
theorem ok_Either_crowd (T : Tx K mg) {k : Nat} (hk : 2 ≤ k) {rec_D_Formula_crowd : O_Formula → Int → Option Int} (hrec_D_Formula_crowd : DOk_Formula_crowd P w base T (k) (rec_D_Formula_crowd)) : FnOk P w K mg base CX0 (k + 1) T.f_Either_crowd T.d_Either_crowd ["self", "many"] (p_Either_crowd (mb_Either_crowd rec_D_Formula_crowd) K T.c) := by
  refine T.F_Either_crowd.ok sc_Either_crowd (fun vs H Q E h => by obtain ⟨v2, self1, many4, rfl, _⟩ := h; rfl) (fun cdv A outer s H vs Q E hr h => ?_)
  obtain ⟨v2, self1, many4, rfl, r3, h⟩ := h
  obtain ⟨A_, hA⟩ : ∃ A_, A_ = (fun r : Int => Q (.int r) H) := ⟨_, rfl⟩
  replace h : OP (mb_Either_crowd rec_D_Formula_crowd self1 many4) A_ := hA ▸ h
  rw [mb_Either_crowd] at h
  refine ⟨_, (pss_cons (ps_set (i := 2) sc_Either_crowd.nd rfl (.inl rfl) pe_int)
      (pss_cons (ps_for PassesOwn.never rfl (pi_list (pe_fld (pe_var (i := 0) rfl (.inl rfl) rfl rfl) rfl)) (pg_name (i := 3) sc_Either_crowd.nd rfl (.inl rfl)) (pss_cons (ps_aug (i := 2) sc_Either_crowd.nd rfl (.inl rfl) (pe_alt (pe_meth (pe_var (i := 3) rfl (.inl rfl) rfl rfl) T.l_Lamp T.t_Lamp_crowd hrec_D_Formula_crowd.c_Lamp hr T.b_Lamp_crowd .nil pass0 (pa_cons (pe_var (i := 1) rfl (.inl rfl) rfl rfl) pa_nil)) (pe_alt (pe_meth (pe_var (i := 3) rfl (.inl rfl) rfl rfl) T.l_Sure T.t_Sure_crowd hrec_D_Formula_crowd.c_Sure hr T.b_Sure_crowd .nil pass0 (pa_cons (pe_var (i := 1) rfl (.inl rfl) rfl rfl) pa_nil)) (pe_alt (pe_meth (pe_var (i := 3) rfl (.inl rfl) rfl rfl) T.l_Not T.t_Not_crowd hrec_D_Formula_crowd.c_Not hr T.b_Not_crowd .nil pass0 (pa_cons (pe_var (i := 1) rfl (.inl rfl) rfl rfl) pa_nil)) (pe_alt (pe_meth (pe_var (i := 3) rfl (.inl rfl) rfl rfl) T.l_And T.t_And_crowd hrec_D_Formula_crowd.c_And hr T.b_And_crowd .nil pass0 (pa_cons (pe_var (i := 1) rfl (.inl rfl) rfl rfl) pa_nil)) (pe_alt (pe_meth (pe_var (i := 3) rfl (.inl rfl) rfl rfl) T.l_Either T.t_Either_crowd hrec_D_Formula_crowd.c_Either hr T.b_Either_crowd .nil pass0 (pa_cons (pe_var (i := 1) rfl (.inl rfl) rfl rfl) pa_nil)) (pe_meth (pe_var (i := 3) rfl (.inl rfl) rfl rfl) T.l_Or T.t_Or_crowd hrec_D_Formula_crowd.c_Or hr T.b_Or_crowd .nil pass0 (pa_cons (pe_var (i := 1) rfl (.inl rfl) rfl rfl) pa_nil))))))) iop_xor)
      pss_nil))
      (pss_cons (ps_ret (pe_var (i := 2) rfl (.inl rfl) rfl rfl))
      pss_nil))), ?_⟩
  refine z_start (σ := [some v2, some (.int many4), none, none]) rfl ?_
  have g : Grow [] H H H H := Grow.refl (Same.refl _)
  refine z_set (w := (.int 0)) (σ' := [some v2, some (.int many4), some (.int 0), none]) val_c rfl rfl ?_
  obtain ⟨y5, ey5, h⟩ := OP.bind h
  obtain ⟨w_6, hw_6, rw_6⟩ := vf_Formula_parts T g.sh r3 ey5
  obtain ⟨B10, h, hB11⟩ := OP.cut h
  obtain ⟨F12, hF13, h⟩ := OP.nameO h
  obtain ⟨q19a, q19w, q19e, q19h, q19p⟩ := id (qL_qQ rw_6)
  replace q19h := g.sh.seq q19h
  refine z_forL (v_eq (hw_6 (val_var rfl)) q19e) q19p (fun ys15 σ' H' => ∃ (found16 : Int) (u17 : Option V), σ' = [some v2, some (.int many4), some (.int found16), u17] ∧ H = H' ∧ OP (forO F12 ys15 found16) B10) ⟨_, _, rfl, rfl, h⟩ (fun ys σ' H' p => by obtain ⟨found16, u17, rfl, rfl, h⟩ := p; exact q19h) (fun w_8 part7 ys15 σ' H_18 rw9 p N hN14 => ?_) ?_
  · obtain ⟨found16, u17, rfl, rfl, h⟩ := p
    replace h := OP.forO h
    replace h := OP.fcall2 hF13 h
    have rx20 := rw9
    refine g_name (σ' := [some v2, some (.int many4), some (.int found16), some w_8]) rfl ?_
    obtain ⟨v21, ev21, h⟩ := OP.bind h
    obtain ⟨found22, efound22, h⟩ := OP.lt h
    refine z_augI (w := (.int found22)) (σ' := [some v2, some (.int many4), some (.int found22), some w_8]) rfl (v_dp_Formula_crowd T (val_var rfl) (Rep.mono _ g.sh rx20) (va_cons (val_var rfl) va_nil) fun i_ hi_ Q q => ⟨_, _, _, rfl, (Rep.mono _ g.sh rx20), hi_, OP.mk ev21 q⟩) (congrArg V.int efound22) rfl ?_
    refine z_next ?_
    exact hN14 _ _ ⟨_, _, rfl, rfl, h⟩
  · intro σ' H_23 p
    obtain ⟨found16, u17, rfl, rfl, h⟩ := p
    replace h := hB11 _ (OP.forO_nil h)
    refine z_ret (val_var rfl) ?_
    have h := OP.fin hA h
    exact h
theorem ok_Not_crowd (T : Tx K mg) {k : Nat} (hk : 2 ≤ k) {rec_D_Formula_crowd : O_Formula → Int → Option Int} (hrec_D_Formula_crowd : DOk_Formula_crowd P w base T (k) (rec_D_Formula_crowd)) : FnOk P w K mg base CX0 (k + 1) T.f_Not_crowd T.d_Not_crowd ["self", "many"] (p_Not_crowd (mb_Not_crowd rec_D_Formula_crowd) K T.c) := by
  refine T.F_Not_crowd.ok sc_Not_crowd (fun vs H Q E h => by obtain ⟨v2, self1, many4, rfl, _⟩ := h; rfl) (fun cdv A outer s H vs Q E hr h => ?_)
  obtain ⟨v2, self1, many4, rfl, r3, h⟩ := h
  obtain ⟨A_, hA⟩ : ∃ A_, A_ = (fun r : Int => Q (.int r) H) := ⟨_, rfl⟩
  replace h : OP (mb_Not_crowd rec_D_Formula_crowd self1 many4) A_ := hA ▸ h
  rw [mb_Not_crowd] at h
  have hr1 : Room 1 _ := hr.mono (by omega)
  refine ⟨_, (pss_cons (ps_ret (pe_op op_xor (pe_call (ok_all_stands T) hr1 rfl T.m_all_stands T.F_all_stands.kp T.b_all_stands .nil pass0 (pa_cons (pe_var (i := 1) rfl (.inl rfl) rfl rfl) pa_nil)) (pe_alt (pe_meth (pe_fld (pe_var (i := 0) rfl (.inl rfl) rfl rfl) rfl) T.l_Lamp T.t_Lamp_crowd hrec_D_Formula_crowd.c_Lamp hr T.b_Lamp_crowd .nil pass0 (pa_cons (pe_var (i := 1) rfl (.inl rfl) rfl rfl) pa_nil)) (pe_alt (pe_meth (pe_fld (pe_var (i := 0) rfl (.inl rfl) rfl rfl) rfl) T.l_Sure T.t_Sure_crowd hrec_D_Formula_crowd.c_Sure hr T.b_Sure_crowd .nil pass0 (pa_cons (pe_var (i := 1) rfl (.inl rfl) rfl rfl) pa_nil)) (pe_alt (pe_meth (pe_fld (pe_var (i := 0) rfl (.inl rfl) rfl rfl) rfl) T.l_Not T.t_Not_crowd hrec_D_Formula_crowd.c_Not hr T.b_Not_crowd .nil pass0 (pa_cons (pe_var (i := 1) rfl (.inl rfl) rfl rfl) pa_nil)) (pe_alt (pe_meth (pe_fld (pe_var (i := 0) rfl (.inl rfl) rfl rfl) rfl) T.l_And T.t_And_crowd hrec_D_Formula_crowd.c_And hr T.b_And_crowd .nil pass0 (pa_cons (pe_var (i := 1) rfl (.inl rfl) rfl rfl) pa_nil)) (pe_alt (pe_meth (pe_fld (pe_var (i := 0) rfl (.inl rfl) rfl rfl) rfl) T.l_Either T.t_Either_crowd hrec_D_Formula_crowd.c_Either hr T.b_Either_crowd .nil pass0 (pa_cons (pe_var (i := 1) rfl (.inl rfl) rfl rfl) pa_nil)) (pe_meth (pe_fld (pe_var (i := 0) rfl (.inl rfl) rfl rfl) rfl) T.l_Or T.t_Or_crowd hrec_D_Formula_crowd.c_Or hr T.b_Or_crowd .nil pass0 (pa_cons (pe_var (i := 1) rfl (.inl rfl) rfl rfl) pa_nil)))))))))
      pss_nil), ?_⟩
  refine z_start (σ := [some v2, some (.int many4)]) rfl ?_
  have g : Grow [] H H H H := Grow.refl (Same.refl _)
  obtain ⟨v5, ev5, h⟩ := OP.bind h
  obtain ⟨y6, ey6, h⟩ := OP.bind h
  obtain ⟨w_7, hw_7, rw_7⟩ := vf_Formula_part T g.sh r3 ey6
  obtain ⟨v8, ev8, h⟩ := OP.bind h
  refine z_ret (v_o2 (v_call (va_cons (val_var rfl) va_nil) fun Q q => ⟨_, rfl, OP.mk ev5 q⟩) (v_dp_Formula_crowd T (hw_7 (val_var rfl)) (Rep.mono _ g.sh rw_7) (va_cons (val_var rfl) va_nil) fun i_ hi_ Q q => ⟨_, _, _, rfl, (Rep.mono _ g.sh rw_7), hi_, OP.mk ev8 q⟩)) ?_
  have h := OP.fin hA h
  exact h
theorem ok_Or_crowd (T : Tx K mg) {k : Nat} (hk : 2 ≤ k) {rec_D_Formula_crowd : O_Formula → Int → Option Int} (hrec_D_Formula_crowd : DOk_Formula_crowd P w base T (k) (rec_D_Formula_crowd)) : FnOk P w K mg base CX0 (k + 1) T.f_Or_crowd T.d_Or_crowd ["self", "many"] (p_Or_crowd (mb_Or_crowd rec_D_Formula_crowd) K T.c) := by
  refine T.F_Or_crowd.ok sc_Or_crowd (fun vs H Q E h => by obtain ⟨v2, self1, many4, rfl, _⟩ := h; rfl) (fun cdv A outer s H vs Q E hr h => ?_)
  obtain ⟨v2, self1, many4, rfl, r3, h⟩ := h
  obtain ⟨A_, hA⟩ : ∃ A_, A_ = (fun r : Int => Q (.int r) H) := ⟨_, rfl⟩
  replace h : OP (mb_Or_crowd rec_D_Formula_crowd self1 many4) A_ := hA ▸ h
  rw [mb_Or_crowd] at h
  refine ⟨_, (pss_cons (ps_set (i := 2) sc_Or_crowd.nd rfl (.inl rfl) pe_int)
      (pss_cons (ps_for PassesOwn.never rfl (pi_list (pe_fld (pe_var (i := 0) rfl (.inl rfl) rfl rfl) rfl)) (pg_name (i := 3) sc_Or_crowd.nd rfl (.inl rfl)) (pss_cons (ps_aug (i := 2) sc_Or_crowd.nd rfl (.inl rfl) (pe_alt (pe_meth (pe_var (i := 3) rfl (.inl rfl) rfl rfl) T.l_Lamp T.t_Lamp_crowd hrec_D_Formula_crowd.c_Lamp hr T.b_Lamp_crowd .nil pass0 (pa_cons (pe_var (i := 1) rfl (.inl rfl) rfl rfl) pa_nil)) (pe_alt (pe_meth (pe_var (i := 3) rfl (.inl rfl) rfl rfl) T.l_Sure T.t_Sure_crowd hrec_D_Formula_crowd.c_Sure hr T.b_Sure_crowd .nil pass0 (pa_cons (pe_var (i := 1) rfl (.inl rfl) rfl rfl) pa_nil)) (pe_alt (pe_meth (pe_var (i := 3) rfl (.inl rfl) rfl rfl) T.l_Not T.t_Not_crowd hrec_D_Formula_crowd.c_Not hr T.b_Not_crowd .nil pass0 (pa_cons (pe_var (i := 1) rfl (.inl rfl) rfl rfl) pa_nil)) (pe_alt (pe_meth (pe_var (i := 3) rfl (.inl rfl) rfl rfl) T.l_And T.t_And_crowd hrec_D_Formula_crowd.c_And hr T.b_And_crowd .nil pass0 (pa_cons (pe_var (i := 1) rfl (.inl rfl) rfl rfl) pa_nil)) (pe_alt (pe_meth (pe_var (i := 3) rfl (.inl rfl) rfl rfl) T.l_Either T.t_Either_crowd hrec_D_Formula_crowd.c_Either hr T.b_Either_crowd .nil pass0 (pa_cons (pe_var (i := 1) rfl (.inl rfl) rfl rfl) pa_nil)) (pe_meth (pe_var (i := 3) rfl (.inl rfl) rfl rfl) T.l_Or T.t_Or_crowd hrec_D_Formula_crowd.c_Or hr T.b_Or_crowd .nil pass0 (pa_cons (pe_var (i := 1) rfl (.inl rfl) rfl rfl) pa_nil))))))) iop_or)
      pss_nil))
      (pss_cons (ps_ret (pe_var (i := 2) rfl (.inl rfl) rfl rfl))
      pss_nil))), ?_⟩
  refine z_start (σ := [some v2, some (.int many4), none, none]) rfl ?_
  have g : Grow [] H H H H := Grow.refl (Same.refl _)
  refine z_set (w := (.int 0)) (σ' := [some v2, some (.int many4), some (.int 0), none]) val_c rfl rfl ?_
  obtain ⟨y5, ey5, h⟩ := OP.bind h
  obtain ⟨w_6, hw_6, rw_6⟩ := vf_Formula_parts T g.sh r3 ey5
  obtain ⟨B10, h, hB11⟩ := OP.cut h
  obtain ⟨F12, hF13, h⟩ := OP.nameO h
  obtain ⟨q19a, q19w, q19e, q19h, q19p⟩ := id (qL_qQ rw_6)
  replace q19h := g.sh.seq q19h
  refine z_forL (v_eq (hw_6 (val_var rfl)) q19e) q19p (fun ys15 σ' H' => ∃ (found16 : Int) (u17 : Option V), σ' = [some v2, some (.int many4), some (.int found16), u17] ∧ H = H' ∧ OP (forO F12 ys15 found16) B10) ⟨_, _, rfl, rfl, h⟩ (fun ys σ' H' p => by obtain ⟨found16, u17, rfl, rfl, h⟩ := p; exact q19h) (fun w_8 part7 ys15 σ' H_18 rw9 p N hN14 => ?_) ?_
  · obtain ⟨found16, u17, rfl, rfl, h⟩ := p
    replace h := OP.forO h
    replace h := OP.fcall2 hF13 h
    have rx20 := rw9
    refine g_name (σ' := [some v2, some (.int many4), some (.int found16), some w_8]) rfl ?_
    obtain ⟨v21, ev21, h⟩ := OP.bind h
    obtain ⟨found22, efound22, h⟩ := OP.lt h
    refine z_augI (w := (.int found22)) (σ' := [some v2, some (.int many4), some (.int found22), some w_8]) rfl (v_dp_Formula_crowd T (val_var rfl) (Rep.mono _ g.sh rx20) (va_cons (val_var rfl) va_nil) fun i_ hi_ Q q => ⟨_, _, _, rfl, (Rep.mono _ g.sh rx20), hi_, OP.mk ev21 q⟩) (congrArg V.int efound22) rfl ?_
    refine z_next ?_
    exact hN14 _ _ ⟨_, _, rfl, rfl, h⟩
  · intro σ' H_23 p
    obtain ⟨found16, u17, rfl, rfl, h⟩ := p
    replace h := hB11 _ (OP.forO_nil h)
    refine z_ret (val_var rfl) ?_
    have h := OP.fin hA h
    exact h
def mf_D_Formula_crowd : Nat → (O_Formula → Int → Option Int)
  | 0 => (fun _ _ => none)
  | n + 1 => (mb_D_Formula_crowd ((mf_D_Formula_crowd n)))
@[irreducible] def m_D_Formula_crowd : O_Formula → Int → Option Int := (mf_D_Formula_crowd 100)
theorem okF_D_Formula_crowd (T : Tx K mg) : ∀ n : Nat, (DOk_Formula_crowd P w base T (2 + n) ((mf_D_Formula_crowd n)))
  | 0 => ⟨fn_none fun vs H Q E h => by obtain ⟨v2, self1, many4, rfl, r3, ht, h⟩ := h; exact h.elim, fn_none fun vs H Q E h => by obtain ⟨v2, self1, many4, rfl, r3, ht, h⟩ := h; exact h.elim, fn_none fun vs H Q E h => by obtain ⟨v2, self1, many4, rfl, r3, ht, h⟩ := h; exact h.elim, fn_none fun vs H Q E h => by obtain ⟨v2, self1, many4, rfl, r3, ht, h⟩ := h; exact h.elim, fn_none fun vs H Q E h => by obtain ⟨v2, self1, many4, rfl, r3, ht, h⟩ := h; exact h.elim, fn_none fun vs H Q E h => by obtain ⟨v2, self1, many4, rfl, r3, ht, h⟩ := h; exact h.elim⟩
  | n + 1 => by
    have ih := okF_D_Formula_crowd T n
    have hk : 2 ≤ 2 + n := Nat.le_add_right _ _
    have st_D_Formula_crowd : DOk_Formula_crowd P w base T (2 + n + 1) (mb_D_Formula_crowd ((mf_D_Formula_crowd n))) := {
      c_Lamp := ((ok_Lamp_crowd T).mono (by omega)).imp fun vs H Q E q => by
        obtain ⟨v2, self1, many4, rfl, r3, ht, h⟩ := q
        cases self1 with
        | Lamp => exact ⟨_, _, _, rfl, r3, h⟩
        | _ => cases ht
      c_Sure := ((ok_Sure_crowd T).mono (by omega)).imp fun vs H Q E q => by
        obtain ⟨v2, self1, many4, rfl, r3, ht, h⟩ := q
        cases self1 with
        | Sure => exact ⟨_, _, _, rfl, r3, h⟩
        | _ => cases ht
      c_Not := ((ok_Not_crowd T hk ih).mono (by omega)).imp fun vs H Q E q => by
        obtain ⟨v2, self1, many4, rfl, r3, ht, h⟩ := q
        cases self1 with
        | Not => exact ⟨_, _, _, rfl, r3, h⟩
        | _ => cases ht
      c_And := ((ok_And_crowd T hk ih).mono (by omega)).imp fun vs H Q E q => by
        obtain ⟨v2, self1, many4, rfl, r3, ht, h⟩ := q
        cases self1 with
        | And => exact ⟨_, _, _, rfl, r3, h⟩
        | _ => cases ht
      c_Either := ((ok_Either_crowd T hk ih).mono (by omega)).imp fun vs H Q E q => by
        obtain ⟨v2, self1, many4, rfl, r3, ht, h⟩ := q
        cases self1 with
        | Either => exact ⟨_, _, _, rfl, r3, h⟩
        | _ => cases ht
      c_Or := ((ok_Or_crowd T hk ih).mono (by omega)).imp fun vs H Q E q => by
        obtain ⟨v2, self1, many4, rfl, r3, ht, h⟩ := q
        cases self1 with
        | Or => exact ⟨_, _, _, rfl, r3, h⟩
        | _ => cases ht
    }
    exact st_D_Formula_crowd
theorem okD_Formula_crowd (T : Tx K mg) : DOk_Formula_crowd P w base T (102) (m_D_Formula_crowd) := by
  unfold m_D_Formula_crowd
  exact (okF_D_Formula_crowd T 100)

@[irreducible] def m_Machine_any_of (self1 : O_Machine) (formulas4 : (List O_Formula)) : Option Int :=
(forO (fun formula7 found16 =>
(m_D_Formula_crowd formula7 (self1.names.length : Int)).bind fun v22 =>
lt (bor found16 v22) fun found23 =>
some found23) (formulas4) 0).bind (fun found16 =>
some found16)
abbrev s_Machine_any_of : Stmt := inClass (top 12) 1
abbrev sn_Machine_any_of : List Str := ["self", "formulas", "found", "formula"]
theorem sc_Machine_any_of : FnScope ["self", "formulas", "found", "formula"] ["self", "formulas"] (defScope (s_Machine_any_of)) := ⟨rfl, rfl, rfl, by decide +kernel, rfl, by decide +kernel, by decide +kernel⟩
def p_Machine_any_of (K : PySem.W.Frag) (c : Cl) : Sp := fun vs H Q E => ∃ (v2 : V) (self1 : O_Machine) (v5 : V) (formulas4 : (List O_Formula)), vs = [v2, v5] ∧ ((q_Machine (K := K) c)).R H v2 self1 ∧ ((qQ (q_Formula (K := K) c))).R H v5 formulas4 ∧ OP (m_Machine_any_of self1 formulas4) (fun r => Q (.int r) H)
theorem ok_Machine_any_of (T : Tx K mg) : FnOk P w K mg base CX0 103 T.f_Machine_any_of T.d_Machine_any_of ["self", "formulas"] (p_Machine_any_of K T.c) := by
  refine T.F_Machine_any_of.ok sc_Machine_any_of (fun vs H Q E h => by obtain ⟨v2, self1, v5, formulas4, rfl, _⟩ := h; rfl) (fun cdv A outer s H vs Q E hr h => ?_)
  obtain ⟨v2, self1, v5, formulas4, rfl, r3, r6, h⟩ := h
  obtain ⟨A_, hA⟩ : ∃ A_, A_ = (fun r : Int => Q (.int r) H) := ⟨_, rfl⟩
  replace h : OP (m_Machine_any_of self1 formulas4) A_ := hA ▸ h
  rw [m_Machine_any_of] at h
  have hr102 : Room 102 _ := hr.mono (by decide)
  refine ⟨_, (pss_cons (ps_set (i := 2) sc_Machine_any_of.nd rfl (.inl rfl) pe_int)
      (pss_cons (ps_for PassesOwn.never rfl (pi_list (pe_var (i := 1) rfl (.inl rfl) rfl rfl)) (pg_name (i := 3) sc_Machine_any_of.nd rfl (.inl rfl)) (pss_cons (ps_aug (i := 2) sc_Machine_any_of.nd rfl (.inl rfl) (pe_alt (pe_meth (pe_var (i := 3) rfl (.inl rfl) rfl rfl) T.l_Lamp T.t_Lamp_crowd (okD_Formula_crowd T).c_Lamp hr102 T.b_Lamp_crowd .nil pass0 (pa_cons (pe_callB (show CallR _ (.builtin "len") (Z.rLenS K) from call_len_seq) rfl T.n_len bt_len (pa_cons (pe_fld (pe_var (i := 0) rfl (.inl rfl) rfl rfl) rfl) pa_nil)) pa_nil)) (pe_alt (pe_meth (pe_var (i := 3) rfl (.inl rfl) rfl rfl) T.l_Sure T.t_Sure_crowd (okD_Formula_crowd T).c_Sure hr102 T.b_Sure_crowd .nil pass0 (pa_cons (pe_callB (show CallR _ (.builtin "len") (Z.rLenS K) from call_len_seq) rfl T.n_len bt_len (pa_cons (pe_fld (pe_var (i := 0) rfl (.inl rfl) rfl rfl) rfl) pa_nil)) pa_nil)) (pe_alt (pe_meth (pe_var (i := 3) rfl (.inl rfl) rfl rfl) T.l_Not T.t_Not_crowd (okD_Formula_crowd T).c_Not hr102 T.b_Not_crowd .nil pass0 (pa_cons (pe_callB (show CallR _ (.builtin "len") (Z.rLenS K) from call_len_seq) rfl T.n_len bt_len (pa_cons (pe_fld (pe_var (i := 0) rfl (.inl rfl) rfl rfl) rfl) pa_nil)) pa_nil)) (pe_alt (pe_meth (pe_var (i := 3) rfl (.inl rfl) rfl rfl) T.l_And T.t_And_crowd (okD_Formula_crowd T).c_And hr102 T.b_And_crowd .nil pass0 (pa_cons (pe_callB (show CallR _ (.builtin "len") (Z.rLenS K) from call_len_seq) rfl T.n_len bt_len (pa_cons (pe_fld (pe_var (i := 0) rfl (.inl rfl) rfl rfl) rfl) pa_nil)) pa_nil)) (pe_alt (pe_meth (pe_var (i := 3) rfl (.inl rfl) rfl rfl) T.l_Either T.t_Either_crowd (okD_Formula_crowd T).c_Either hr102 T.b_Either_crowd .nil pass0 (pa_cons (pe_callB (show CallR _ (.builtin "len") (Z.rLenS K) from call_len_seq) rfl T.n_len bt_len (pa_cons (pe_fld (pe_var (i := 0) rfl (.inl rfl) rfl rfl) rfl) pa_nil)) pa_nil)) (pe_meth (pe_var (i := 3) rfl (.inl rfl) rfl rfl) T.l_Or T.t_Or_crowd (okD_Formula_crowd T).c_Or hr102 T.b_Or_crowd .nil pass0 (pa_cons (pe_callB (show CallR _ (.builtin "len") (Z.rLenS K) from call_len_seq) rfl T.n_len bt_len (pa_cons (pe_fld (pe_var (i := 0) rfl (.inl rfl) rfl rfl) rfl) pa_nil)) pa_nil))))))) iop_or)
      pss_nil))
      (pss_cons (ps_ret (pe_var (i := 2) rfl (.inl rfl) rfl rfl))
      pss_nil))), ?_⟩
  refine z_start (σ := [some v2, some v5, none, none]) rfl ?_
  have g : Grow [] H H H H := Grow.refl (Same.refl _)
  refine z_set (w := (.int 0)) (σ' := [some v2, some v5, some (.int 0), none]) val_c rfl rfl ?_
  obtain ⟨B10, h, hB11⟩ := OP.cut h
  obtain ⟨F12, hF13, h⟩ := OP.nameO h
  obtain ⟨q19a, q19w, q19e, q19h, q19p⟩ := id r6
  replace q19h := g.sh.seq q19h
  refine z_forL (v_eq (val_var rfl) q19e) q19p (fun ys15 σ' H' => ∃ (found16 : Int) (u17 : Option V), σ' = [some v2, some v5, some (.int found16), u17] ∧ H = H' ∧ OP (forO F12 ys15 found16) B10) ⟨_, _, rfl, rfl, h⟩ (fun ys σ' H' p => by obtain ⟨found16, u17, rfl, rfl, h⟩ := p; exact q19h) (fun w_8 formula7 ys15 σ' H_18 rw9 p N hN14 => ?_) ?_
  · obtain ⟨found16, u17, rfl, rfl, h⟩ := p
    replace h := OP.forO h
    replace h := OP.fcall2 hF13 h
    have rx20 := rw9
    refine g_name (σ' := [some v2, some v5, some (.int found16), some w_8]) rfl ?_
    obtain ⟨w_21, hw_21, rw_21⟩ := vf_Machine_names T g.sh r3
    obtain ⟨v22, ev22, h⟩ := OP.bind h
    obtain ⟨found23, efound23, h⟩ := OP.lt h
    refine z_augI (w := (.int found23)) (σ' := [some v2, some v5, some (.int found23), some w_8]) rfl (v_dp_Formula_crowd T (val_var rfl) (Rep.mono _ g.sh rx20) (va_cons (v_len (hw_21 (val_var rfl)) (qL_qQ (Rep.mono _ g.sh rw_21))) va_nil) fun i_ hi_ Q q => ⟨_, _, _, rfl, (Rep.mono _ g.sh rx20), hi_, OP.mk ev22 q⟩) (congrArg V.int efound23) rfl ?_
    refine z_next ?_
    exact hN14 _ _ ⟨_, _, rfl, rfl, h⟩
  · intro σ' H_24 p
    obtain ⟨found16, u17, rfl, rfl, h⟩ := p
    replace h := hB11 _ (OP.forO_nil h)
    refine z_ret (val_var rfl) ?_
    have h := OP.fin hA h
    exact h

@[irreducible] def m_Move_onward_from_all (self1 : O_Move) (many4 : Int) : Option (List Int) :=
(forO (fun x15 lit27 =>
(m_D_Formula_crowd x15.2 many4).bind fun v40 =>
grd (lit27.length < 16777216) <|
lt (lit27 ++ [(x15.1, v40)]) fun l48 =>
some l48) (self1.changes) ([] : List (Int × Int))).bind (fun lit27 =>
grd (gPow 1 many4) <|
grd (gR (shl 1 many4)) <|
(forO (fun stand67 found79 =>
(forO (fun x87 there96 =>
grd (0 ≤ x87.1) <|
grd (0 ≤ stand67) <|
ifo (!(decide ((band (shr stand67 x87.1) 1) = (band (shr x87.2 stand67) 1)))) (
grd (gPow 1 x87.1) <|
lt (bxor there96 (shl 1 x87.1)) fun there109 =>
some there109) (
some there96)) (lit27) stand67).bind (fun there96 =>
grd (found79.length < 16777216) <|
lt (found79 ++ [there96]) fun l112 =>
some l112)) (rangeI 0 (Int.toNat (shl 1 many4))) ([] : List Int)).bind (fun found79 =>
some found79))
abbrev s_Move_onward_from_all : Stmt := inClass (top 11) 3
abbrev sn_Move_onward_from_all : List Str := ["self", "many", "lit", "lamp", "formula", "found", "stand", "there", "crowd"]
theorem sc_Move_onward_from_all : FnScope ["self", "many", "lit", "lamp", "formula", "found", "stand", "there", "crowd"] ["self", "many"] (defScope (s_Move_onward_from_all)) := ⟨rfl, rfl, rfl, by decide +kernel, rfl, by decide +kernel, by decide +kernel⟩
def p_Move_onward_from_all (K : PySem.W.Frag) (c : Cl) : Sp := fun vs H Q E => ∃ (S : Hp) (v2 : V) (self1 : O_Move) (many4 : Int), vs = [v2, .int many4] ∧ Same S H ∧ ((q_Move (K := K) c)).R S v2 self1 ∧ OP (m_Move_onward_from_all self1 many4) (fun r => ∀ (S' H' : Hp) (p : Addr) (ws : List V), Grow [] S H S' H' → H p = none → H' p = some (.lst ws) → S' p = none → RL (qI (K := K)) S' ws r → Q (.ref p) H')
theorem ok_Move_onward_from_all (T : Tx K mg) : FnOk P w K mg base CX0 103 T.f_Move_onward_from_all T.d_Move_onward_from_all ["self", "many"] (p_Move_onward_from_all K T.c) := by
  refine T.F_Move_onward_from_all.ok sc_Move_onward_from_all (fun vs H Q E h => by obtain ⟨S, v2, self1, many4, rfl, _⟩ := h; rfl) (fun cdv A outer s H vs Q E hr h => ?_)
  obtain ⟨S, v2, self1, many4, rfl, gS, r3, h⟩ := h
  obtain ⟨A_, hA⟩ : ∃ A_, A_ = (fun r : (List Int) => ∀ (S' H' : Hp) (p : Addr) (ws : List V), Grow [] S H S' H' → H p = none → H' p = some (.lst ws) → S' p = none → RL (qI (K := K)) S' ws r → Q (.ref p) H') := ⟨_, rfl⟩
  replace h : OP (m_Move_onward_from_all self1 many4) A_ := hA ▸ h
  rw [m_Move_onward_from_all] at h
  have hr102 : Room 102 _ := hr.mono (by decide)
  refine ⟨_, (pss_cons (ps_set (i := 2) sc_Move_onward_from_all.nd rfl (.inl rfl) (pe_lst pa_nil))
      (pss_cons (ps_for PassesOwn.never rfl (pi_list (pe_fld (pe_var (i := 0) rfl (.inl rfl) rfl rfl) rfl)) (pg_tup rfl (pgs_cons (pg_name (i := 3) sc_Move_onward_from_all.nd rfl (.inl rfl)) (pgs_cons (pg_name (i := 4) sc_Move_onward_from_all.nd rfl (.inl rfl)) pgs_nil))) (pss_cons (ps_expr (pe_bm PySem.F.plainAttrs_list PySem.F.slot_list_append PySem.F.type_list_append mt_append (pe_var (i := 2) rfl (.inl rfl) rfl rfl) (pa_cons (pe_tup (pa_cons (pe_var (i := 3) rfl (.inl rfl) rfl rfl) (pa_cons (pe_alt (pe_meth (pe_var (i := 4) rfl (.inl rfl) rfl rfl) T.l_Lamp T.t_Lamp_crowd (okD_Formula_crowd T).c_Lamp hr102 T.b_Lamp_crowd .nil pass0 (pa_cons (pe_var (i := 1) rfl (.inl rfl) rfl rfl) pa_nil)) (pe_alt (pe_meth (pe_var (i := 4) rfl (.inl rfl) rfl rfl) T.l_Sure T.t_Sure_crowd (okD_Formula_crowd T).c_Sure hr102 T.b_Sure_crowd .nil pass0 (pa_cons (pe_var (i := 1) rfl (.inl rfl) rfl rfl) pa_nil)) (pe_alt (pe_meth (pe_var (i := 4) rfl (.inl rfl) rfl rfl) T.l_Not T.t_Not_crowd (okD_Formula_crowd T).c_Not hr102 T.b_Not_crowd .nil pass0 (pa_cons (pe_var (i := 1) rfl (.inl rfl) rfl rfl) pa_nil)) (pe_alt (pe_meth (pe_var (i := 4) rfl (.inl rfl) rfl rfl) T.l_And T.t_And_crowd (okD_Formula_crowd T).c_And hr102 T.b_And_crowd .nil pass0 (pa_cons (pe_var (i := 1) rfl (.inl rfl) rfl rfl) pa_nil)) (pe_alt (pe_meth (pe_var (i := 4) rfl (.inl rfl) rfl rfl) T.l_Either T.t_Either_crowd (okD_Formula_crowd T).c_Either hr102 T.b_Either_crowd .nil pass0 (pa_cons (pe_var (i := 1) rfl (.inl rfl) rfl rfl) pa_nil)) (pe_meth (pe_var (i := 4) rfl (.inl rfl) rfl rfl) T.l_Or T.t_Or_crowd (okD_Formula_crowd T).c_Or hr102 T.b_Or_crowd .nil pass0 (pa_cons (pe_var (i := 1) rfl (.inl rfl) rfl rfl) pa_nil))))))) pa_nil))) pa_nil)))
      pss_nil))
      (pss_cons (ps_set (i := 5) sc_Move_onward_from_all.nd rfl (.inl rfl) (pe_lst pa_nil))
      (pss_cons (ps_for PassesOwn.never rfl (pi_range1 rfl T.n_range (pa_cons (pe_op op_shl pe_int (pe_var (i := 1) rfl (.inl rfl) rfl rfl)) pa_nil)) (pg_name (i := 6) sc_Move_onward_from_all.nd rfl (.inl rfl)) (pss_cons (ps_set (i := 7) sc_Move_onward_from_all.nd rfl (.inl rfl) (pe_var (i := 6) rfl (.inl rfl) rfl rfl))
      (pss_cons (ps_for PassesOwn.never rfl (pi_list (pe_var (i := 2) rfl (.inl rfl) rfl rfl)) (pg_tup rfl (pgs_cons (pg_name (i := 3) sc_Move_onward_from_all.nd rfl (.inl rfl)) (pgs_cons (pg_name (i := 8) sc_Move_onward_from_all.nd rfl (.inl rfl)) pgs_nil))) (pss_cons (ps_if (pt_cmpR op_ne (pe_op op_and (pe_op op_shr (pe_var (i := 6) rfl (.inl rfl) rfl rfl) (pe_var (i := 3) rfl (.inl rfl) rfl rfl)) pe_int) (pe_op op_and (pe_op op_shr (pe_var (i := 8) rfl (.inl rfl) rfl rfl) (pe_var (i := 6) rfl (.inl rfl) rfl rfl)) pe_int) (nomark _)) (pss_cons (ps_aug (i := 7) sc_Move_onward_from_all.nd rfl (.inl rfl) (pe_op op_shl pe_int (pe_var (i := 3) rfl (.inl rfl) rfl rfl)) iop_xor)
      pss_nil) pss_nil)
      pss_nil))
      (pss_cons (ps_expr (pe_bm PySem.F.plainAttrs_list PySem.F.slot_list_append PySem.F.type_list_append mt_append (pe_var (i := 5) rfl (.inl rfl) rfl rfl) (pa_cons (pe_var (i := 7) rfl (.inl rfl) rfl rfl) pa_nil)))
      pss_nil))))
      (pss_cons (ps_ret (pe_var (i := 5) rfl (.inl rfl) rfl rfl))
      pss_nil))))), ?_⟩
  refine z_start (σ := [some v2, some (.int many4), none, none, none, none, none, none, none]) rfl ?_
  have g : Grow [] S H S H := Grow.refl gS
  refine z_setE ?_
  refine c_lstE fun Q_5 hQ_5 => ?_
  refine c_args va_nil ?_
  refine c_newlst (Q := Q_5) (vs := []) (show 0 ≤ 1000 by decide) fun p6 H_7 e8 np9 ep10 => ?_
  refine q_eq hQ_5 ?_
  have w_11 : RL (qT2 (qI (K := K)) (qI (K := K))) S [] ([] : List (Int × Int)) := .nil
  have z13 := g.hnone np9
  have c_12 : Cel [] H S H_7 p6 (.lst []) := Cel.own g e8 np9 ep10 rfl
  replace g := g.ext e8
  refine g_name (σ' := [some v2, some (.int many4), some (.ref p6), none, none, none, none, none, none]) rfl ?_
  obtain ⟨w_14, hw_14, rw_14⟩ := vf_Move_changes T g.sh r3
  obtain ⟨B18, h, hB19⟩ := OP.cut h
  obtain ⟨F20, hF21, h⟩ := OP.nameO h
  obtain ⟨q33a, q33w, q33e, q33h, q33p⟩ := id (qL_qQ rw_14)
  refine z_forL (v_eq (hw_14 (val_var rfl)) q33e) q33p (fun ys23 σ' H' => ∃ (ws24 : List V) (lit27 : (List (Int × Int))) (u28 : Option V) (u29 : Option V) (S_30 : Hp), σ' = [some v2, some (.int many4), some (.ref p6), u28, u29, none, none, none, none] ∧ Grow [] S H S_30 H' ∧ Same S S_30 ∧ Cel [] H S_30 H' p6 (.lst ws24) ∧ RL (qT2 (qI (K := K)) (qI (K := K))) S_30 ws24 lit27 ∧ OP (forO F20 ys23 lit27) B18) ⟨_, _, _, _, _, rfl, g, (Same.refl _), c_12, w_11, h⟩ (fun ys σ' H' p => by obtain ⟨ws24, lit27, u28, u29, S_30, rfl, gN, eS32, c_25N, r26N, h⟩ := p; exact (eS32.trans gN.sh).seq q33h) (fun w_16 x15 ys23 σ' H_31 rw17 p N hN22 => ?_) ?_
  · obtain ⟨ws24, lit27, u28, u29, S_30, rfl, gN, eS32, c_25N, r26N, h⟩ := p
    replace g := gN
    have c_25 := c_25N
    have r26 := r26N
    replace r3 := Rep.mono _ eS32 r3
    replace h := OP.forO h
    replace h := OP.fcall2 hF21 h
    have rx34 := Rep.mono _ eS32 rw17
    refine g_tup2 rfl g.sh rx34 fun w_35 w_36 r37 r38 => ?_
    cases (show w_35 = (.int x15.1) from r37)
    refine g_name (σ' := [some v2, some (.int many4), some (.ref p6), some (.int x15.1), u29, none, none, none, none]) rfl ?_
    refine g_next ?_
    refine g_name (σ' := [some v2, some (.int many4), some (.ref p6), some (.int x15.1), some w_36, none, none, none, none]) rfl ?_
    refine g_end ?_
    refine z_dropE ?_
    refine c_bm (val_var rfl) (tyL c_25.h) ?_
    refine c_cons ?_
    refine c_tupE fun Q_39 hQ_39 => ?_
    obtain ⟨v40, ev40, h⟩ := OP.bind h
    refine c_args (va_cons (val_var rfl) (va_cons (v_dp_Formula_crowd T (val_var rfl) (Rep.mono _ g.sh r38) (va_cons (val_var rfl) va_nil) fun i_ hi_ Q q => ⟨_, _, _, rfl, (Rep.mono _ g.sh r38), hi_, OP.mk ev40 q⟩) va_nil)) ?_
    refine c_newtup (Q := Q_39) (vs := [(.int x15.1), (.int v40)]) g.sh (show 2 ≤ 1000 by decide) fun p41 S_42 H_43 gs44 ep45 => ?_
    refine q_eq hQ_39 ?_
    replace r3 := Rep.mono _ gs44.ss r3
    replace r26 := RL.mono gs44.ss r26
    replace r38 := Rep.mono _ gs44.ss r38
    replace eS32 := eS32.trans gs44.ss
    replace c_25 := c_25.call0 gs44
    replace g := g.call0 gs44
    have r46 : ((qT2 (qI (K := K)) (qI (K := K)))).R S_42 (.ref p41) (x15.1, v40) := ⟨p41, _, _, rfl, ep45, rfl, rfl⟩
    refine c_nil ?_
    obtain ⟨g47, h⟩ := OP.grd h
    obtain ⟨l48, el48, h⟩ := OP.lt h
    refine c_app g c_25 r26 r46 g47 el48 fun ws49 H_50 g51 c_52 w_53 ot54 => ?_
    replace g := g51
    refine z_next ?_
    exact hN22 _ _ ⟨_, _, _, _, _, rfl, g, eS32, c_52, w_53, h⟩
  · intro σ' H_31 p
    obtain ⟨ws24, lit27, u28, u29, S_30, rfl, gN, eS32, c_25N, r26N, h⟩ := p
    replace g := gN
    have c_25 := c_25N
    have r26 := r26N
    replace r3 := Rep.mono _ eS32 r3
    replace h := hB19 _ (OP.forO_nil h)
    refine z_setE ?_
    refine c_lstE fun Q_55 hQ_55 => ?_
    refine c_args va_nil ?_
    refine c_newlst (Q := Q_55) (vs := []) (show 0 ≤ 1000 by decide) fun p56 H_57 e58 np59 ep60 => ?_
    refine q_eq hQ_55 ?_
    have w_61 : RL (qI (K := K)) S_30 [] ([] : List Int) := .nil
    have ne64 := c_25.ne np59
    have z63 := g.hnone np59
    have c_62 : Cel [] H S_30 H_57 p56 (.lst []) := Cel.own g e58 np59 ep60 rfl
    replace c_25 := c_25.ext e58
    replace g := g.ext e58
    refine g_name (σ' := [some v2, some (.int many4), some (.ref p6), u28, u29, some (.ref p56), none, none, none]) rfl ?_
    obtain ⟨g65, h⟩ := OP.grd h
    obtain ⟨g66, h⟩ := OP.grd h
    obtain ⟨B70, h, hB71⟩ := OP.cut h
    obtain ⟨F72, hF73, h⟩ := OP.nameO h
    refine z_for1 (j := (shl 1 many4)) (va_cons (v_o2c val_c (val_var rfl) g65) va_nil) g66 (fun ys75 σ' H' => ∃ (ws76 : List V) (found79 : (List Int)) (u80 : Option V) (u81 : Option V) (u82 : Option V) (u83 : Option V) (S_84 : Hp), σ' = [some v2, some (.int many4), some (.ref p6), u80, u29, some (.ref p56), u81, u82, u83] ∧ Grow [] S H S_84 H' ∧ Same S_30 S_84 ∧ Cel [] H S_84 H' p56 (.lst ws76) ∧ RL (qI (K := K)) S_84 ws76 found79 ∧ Cel [] H S_84 H' p6 (.lst ws24) ∧ OP (forO F72 ys75 found79) B70) ⟨_, _, _, _, _, _, _, rfl, g, (Same.refl _), c_62, w_61, c_25, h⟩ (fun stand67 ys75 σ' H_85 p N hN74 => ?_) ?_
    · obtain ⟨ws76, found79, u80, u81, u82, u83, S_84, rfl, gN, eS86, c_77N, r78N, c_25N, h⟩ := p
      replace g := gN
      have c_77 := c_77N
      have r78 := r78N
      replace c_25 := c_25N
      replace r3 := Rep.mono _ eS86 r3
      replace r26 := RL.mono eS86 r26
      replace h := OP.forO h
      replace h := OP.fcall2 hF73 h
      refine g_name (σ' := [some v2, some (.int many4), some (.ref p6), u80, u29, some (.ref p56), some (.int stand67), u82, u83]) rfl ?_
      refine z_set (w := (.int stand67)) (σ' := [some v2, some (.int many4), some (.ref p6), u80, u29, some (.ref p56), some (.int stand67), some (.int stand67), u83]) (val_var rfl) rfl rfl ?_
      obtain ⟨B90, h, hB91⟩ := OP.cut h
      obtain ⟨F92, hF93, h⟩ := OP.nameO h
      have q100e : ((.ref p6) : V) = (.ref p6) := rfl
      have q100p := r26
      have q100h := SqL.of (K := K) c_25.h
      refine z_forL (v_eq (val_var rfl) q100e) q100p (fun ys95 σ' H' => ∃ (there96 : Int) (u97 : Option V) (u98 : Option V), σ' = [some v2, some (.int many4), some (.ref p6), u97, u29, some (.ref p56), some (.int stand67), some (.int there96), u98] ∧ H_85 = H' ∧ OP (forO F92 ys95 there96) B90) ⟨_, _, _, rfl, rfl, h⟩ (fun ys σ' H' p => by obtain ⟨there96, u97, u98, rfl, rfl, h⟩ := p; exact q100h) (fun w_88 x87 ys95 σ' H_99 rw89 p N hN94 => ?_) ?_
      · obtain ⟨there96, u97, u98, rfl, rfl, h⟩ := p
        replace h := OP.forO h
        replace h := OP.fcall2 hF93 h
        have rx101 := rw89
        refine g_tup2 rfl g.sh rx101 fun w_102 w_103 r104 r105 => ?_
        cases (show w_102 = (.int x87.1) from r104)
        cases (show w_103 = (.int x87.2) from r105)
        refine g_name (σ' := [some v2, some (.int many4), some (.ref p6), some (.int x87.1), u29, some (.ref p56), some (.int stand67), some (.int there96), u98]) rfl ?_
        refine g_next ?_
        refine g_name (σ' := [some v2, some (.int many4), some (.ref p6), some (.int x87.1), u29, some (.ref p56), some (.int stand67), some (.int there96), some (.int x87.2)]) rfl ?_
        refine g_end ?_
        obtain ⟨g106, h⟩ := OP.grd h
        obtain ⟨g107, h⟩ := OP.grd h
        refine z_if (v_test (v_neI (v_o2 (v_o2c (val_var rfl) (val_var rfl) g106) val_c) (v_o2 (v_o2c (val_var rfl) (val_var rfl) g107) val_c))) (fun hc => ?_) (fun hc => ?_)
        · replace h := OP.ite1 hc h
          obtain ⟨g108, h⟩ := OP.grd h
          obtain ⟨there109, ethere109, h⟩ := OP.lt h
          refine z_augI (w := (.int there109)) (σ' := [some v2, some (.int many4), some (.ref p6), some (.int x87.1), u29, some (.ref p56), some (.int stand67), some (.int there109), some (.int x87.2)]) rfl (v_o2c val_c (val_var rfl) g108) (congrArg V.int ethere109) rfl ?_
          refine z_nextR ?_
          refine z_next ?_
          exact hN94 _ _ ⟨_, _, _, rfl, rfl, h⟩
        · replace h := OP.ite0 hc h
          refine z_nextR ?_
          refine z_next ?_
          exact hN94 _ _ ⟨_, _, _, rfl, rfl, h⟩
      · intro σ' H_110 p
        obtain ⟨there96, u97, u98, rfl, rfl, h⟩ := p
        replace h := hB91 _ (OP.forO_nil h)
        refine z_dropE ?_
        refine c_bm (val_var rfl) (tyL c_77.h) ?_
        refine c_args (va_cons (val_var rfl) va_nil) ?_
        obtain ⟨g111, h⟩ := OP.grd h
        obtain ⟨l112, el112, h⟩ := OP.lt h
        refine c_app g c_77 r78 rfl g111 el112 fun ws113 H_114 g115 c_116 w_117 ot118 => ?_
        replace c_25 := ot118 _ _ (by first | assumption | exact Ne.symm (by assumption)) c_25
        replace g := g115
        refine z_next ?_
        exact hN74 _ _ ⟨_, _, _, _, _, _, _, rfl, g, eS86, c_116, w_117, c_25, h⟩
    · intro σ' H_85 p
      obtain ⟨ws76, found79, u80, u81, u82, u83, S_84, rfl, gN, eS86, c_77N, r78N, c_25N, h⟩ := p
      replace g := gN
      have c_77 := c_77N
      have r78 := r78N
      replace c_25 := c_25N
      replace r3 := Rep.mono _ eS86 r3
      replace r26 := RL.mono eS86 r26
      replace h := hB71 _ (OP.forO_nil h)
      refine z_ret (val_var rfl) ?_
      have h := OP.fin hA h
      exact h _ _ _ _ g z63 c_77.h c_77.s r78

@[irreducible] def m_Machine_chart (self1 : O_Machine) : Option O_Chart :=
lt (self1.names.length : Int) fun many5 =>
grd (gPow 1 many5) <|
grd (gR (shl 1 many5)) <|
(compO (fun zx6 =>
some (some 0)) (rangeI 0 (Int.toNat (shl 1 many5)))).bind fun ys11 =>
(forO (fun move22 after34 =>
(m_D_Formula_crowd move22.guard many5).bind fun v46 =>
(m_Move_onward_from_all move22 many5).bind fun v47 =>
(forO (fun x66 after78 =>
grd (0 ≤ x66.1) <|
ifo (decide ((band (shr v46 x66.1) 1) = 1)) (
(atI after78 x66.1).bind fun i90 =>
grd (gPow 1 x66.2) <|
(setI after78 x66.1 (bor i90 (shl 1 x66.2))).bind fun l92 =>
some l92) (
some after78)) (enumI v47) after34).bind (fun after78 =>
some after78)) (self1.moves) ys11).bind (fun after34 =>
(m_Machine_any_of self1 self1.starts).bind fun v100 =>
(m_Machine_any_of self1 self1.bads).bind fun v102 =>
(m_Chart___init__ many5 v100 v102 after34).bind fun v113 =>
some v113)
abbrev s_Machine_chart : Stmt := inClass (top 12) 2
abbrev sn_Machine_chart : List Str := ["self", "many", "after", "move", "fit", "leads", "stand", "there"]
theorem sc_Machine_chart : FnScope ["self", "many", "after", "move", "fit", "leads", "stand", "there"] ["self"] (defScope (s_Machine_chart)) := ⟨rfl, rfl, rfl, by decide +kernel, rfl, by decide +kernel, by decide +kernel⟩
def p_Machine_chart (K : PySem.W.Frag) (c : Cl) : Sp := fun vs H Q E => ∃ (S : Hp) (v2 : V) (self1 : O_Machine), vs = [v2] ∧ Same S H ∧ ((q_Machine (K := K) c)).R S v2 self1 ∧ OP (m_Machine_chart self1) (fun r => ∀ (S' H' : Hp) (v : V), Grow [] S H S' H' → ((q_Chart (K := K) c)).R S' v r → Q v H')
theorem ok_Machine_chart (T : Tx K mg) : FnOk P w K mg base CX0 104 T.f_Machine_chart T.d_Machine_chart ["self"] (p_Machine_chart K T.c) := by
  refine T.F_Machine_chart.ok sc_Machine_chart (fun vs H Q E h => by obtain ⟨S, v2, self1, rfl, _⟩ := h; rfl) (fun cdv A outer s H vs Q E hr h => ?_)
  obtain ⟨S, v2, self1, rfl, gS, r3, h⟩ := h
  obtain ⟨A_, hA⟩ : ∃ A_, A_ = (fun r : O_Chart => ∀ (S' H' : Hp) (v : V), Grow [] S H S' H' → ((q_Chart (K := K) T.c)).R S' v r → Q v H') := ⟨_, rfl⟩
  replace h : OP (m_Machine_chart self1) A_ := hA ▸ h
  rw [m_Machine_chart] at h
  have hr4 : Room 4 _ := hr.mono (by decide)
  have hr102 : Room 102 _ := hr.mono (by decide)
  have hr103 : Room 103 _ := hr.mono (by decide)
  refine ⟨_, (pss_cons (ps_set (i := 1) sc_Machine_chart.nd rfl (.inl rfl) (pe_callB (show CallR _ (.builtin "len") (Z.rLenS K) from call_len_seq) rfl T.n_len bt_len (pa_cons (pe_fld (pe_var (i := 0) rfl (.inl rfl) rfl rfl) rfl) pa_nil)))
      (pss_cons (ps_setLc (i := 2) (y := "after") (own := [("stand", 6)]) (g := gName 6) (tt := tYes) rfl sc_Machine_chart.nd rfl rfl (sw_true rfl rfl rfl (by decide +kernel)) (pi_range1 rfl T.n_range (pa_cons (pe_op op_shl pe_int (pe_var (i := 1) rfl (.inl rfl) rfl rfl)) pa_nil)) (blkOk_by (N := sn_Machine_chart) (sc := defScope s_Machine_chart) (by decide +kernel)) (fun _ _ _ _ _ => pg_name (i := 6) sc_Machine_chart.nd rfl (.inl rfl)) (fun _ _ _ _ _ => pts_nil) (fun _ _ _ _ _ => pe_int))
      (pss_cons (ps_for PassesOwn.never rfl (pi_list (pe_fld (pe_var (i := 0) rfl (.inl rfl) rfl rfl) rfl)) (pg_name (i := 3) sc_Machine_chart.nd rfl (.inl rfl)) (pss_cons (ps_set (i := 4) sc_Machine_chart.nd rfl (.inl rfl) (pe_alt (pe_meth (pe_fld (pe_var (i := 3) rfl (.inl rfl) rfl rfl) rfl) T.l_Lamp T.t_Lamp_crowd (okD_Formula_crowd T).c_Lamp hr102 T.b_Lamp_crowd .nil pass0 (pa_cons (pe_var (i := 1) rfl (.inl rfl) rfl rfl) pa_nil)) (pe_alt (pe_meth (pe_fld (pe_var (i := 3) rfl (.inl rfl) rfl rfl) rfl) T.l_Sure T.t_Sure_crowd (okD_Formula_crowd T).c_Sure hr102 T.b_Sure_crowd .nil pass0 (pa_cons (pe_var (i := 1) rfl (.inl rfl) rfl rfl) pa_nil)) (pe_alt (pe_meth (pe_fld (pe_var (i := 3) rfl (.inl rfl) rfl rfl) rfl) T.l_Not T.t_Not_crowd (okD_Formula_crowd T).c_Not hr102 T.b_Not_crowd .nil pass0 (pa_cons (pe_var (i := 1) rfl (.inl rfl) rfl rfl) pa_nil)) (pe_alt (pe_meth (pe_fld (pe_var (i := 3) rfl (.inl rfl) rfl rfl) rfl) T.l_And T.t_And_crowd (okD_Formula_crowd T).c_And hr102 T.b_And_crowd .nil pass0 (pa_cons (pe_var (i := 1) rfl (.inl rfl) rfl rfl) pa_nil)) (pe_alt (pe_meth (pe_fld (pe_var (i := 3) rfl (.inl rfl) rfl rfl) rfl) T.l_Either T.t_Either_crowd (okD_Formula_crowd T).c_Either hr102 T.b_Either_crowd .nil pass0 (pa_cons (pe_var (i := 1) rfl (.inl rfl) rfl rfl) pa_nil)) (pe_meth (pe_fld (pe_var (i := 3) rfl (.inl rfl) rfl rfl) rfl) T.l_Or T.t_Or_crowd (okD_Formula_crowd T).c_Or hr102 T.b_Or_crowd .nil pass0 (pa_cons (pe_var (i := 1) rfl (.inl rfl) rfl rfl) pa_nil))))))))
      (pss_cons (ps_set (i := 5) sc_Machine_chart.nd rfl (.inl rfl) (pe_meth (pe_var (i := 3) rfl (.inl rfl) rfl rfl) T.l_Move T.t_Move_onward_from_all (ok_Move_onward_from_all T) hr103 T.b_Move_onward_from_all .nil pass0 (pa_cons (pe_var (i := 1) rfl (.inl rfl) rfl rfl) pa_nil)))
      (pss_cons (ps_for PassesOwn.never rfl (pi_enum rfl T.n_enumerate (pa_cons (pe_var (i := 5) rfl (.inl rfl) rfl rfl) pa_nil)) (pg_tup rfl (pgs_cons (pg_name (i := 6) sc_Machine_chart.nd rfl (.inl rfl)) (pgs_cons (pg_name (i := 7) sc_Machine_chart.nd rfl (.inl rfl)) pgs_nil))) (pss_cons (ps_if (pt_cmpR op_eq (pe_op op_and (pe_op op_shr (pe_var (i := 4) rfl (.inl rfl) rfl rfl) (pe_var (i := 6) rfl (.inl rfl) rfl rfl)) pe_int) pe_int (nomark _)) (pss_cons (show PS _ _ (sXAug _ _ _ (rIxL K) _ rSetL) from ps_xaug (pe_var (i := 2) rfl (.inl rfl) rfl rfl) (pe_var (i := 6) rfl (.inl rfl) rfl rfl) (pe_op op_shl pe_int (pe_var (i := 7) rfl (.inl rfl) rfl rfl)) (show PIp _ _ _ from iop_or) (fun _ _ _ => rfl))
      pss_nil) pss_nil)
      pss_nil))
      pss_nil))))
      (pss_cons (ps_ret (pe_make T.k_Chart (ok_Chart___init__ T) hr4 rfl T.m_Chart T.b_Chart___init__ .nil pass0 (pa_cons (pe_var (i := 1) rfl (.inl rfl) rfl rfl) (pa_cons (pe_meth (pe_var (i := 0) rfl (.inl rfl) rfl rfl) T.l_Machine T.t_Machine_any_of (ok_Machine_any_of T) hr103 T.b_Machine_any_of .nil pass0 (pa_cons (pe_fld (pe_var (i := 0) rfl (.inl rfl) rfl rfl) rfl) pa_nil)) (pa_cons (pe_meth (pe_var (i := 0) rfl (.inl rfl) rfl rfl) T.l_Machine T.t_Machine_any_of (ok_Machine_any_of T) hr103 T.b_Machine_any_of .nil pass0 (pa_cons (pe_fld (pe_var (i := 0) rfl (.inl rfl) rfl rfl) rfl) pa_nil)) (pa_cons (pe_var (i := 2) rfl (.inl rfl) rfl rfl) pa_nil))))))
      pss_nil)))), ?_⟩
  refine z_start (σ := [some v2, none, none, none, none, none, none, none]) rfl ?_
  have g : Grow [] S H S H := Grow.refl gS
  obtain ⟨w_4, hw_4, rw_4⟩ := vf_Machine_names T g.sh r3
  obtain ⟨many5, emany5, h⟩ := OP.lt h
  refine z_set (w := (.int many5)) (σ' := [some v2, some (.int many5), none, none, none, none, none, none]) (v_len (hw_4 (val_var rfl)) (qL_qQ (Rep.mono _ g.sh rw_4))) (congrArg V.int emany5) rfl ?_
  refine z_setE ?_
  obtain ⟨g7, h⟩ := OP.grd h
  obtain ⟨g8, h⟩ := OP.grd h
  obtain ⟨ys11, eys11, h⟩ := OP.bind h
  refine c_lcR1 (n := (shl 1 many5)) (va_cons (v_o2c val_c (val_var rfl) g7) va_nil) g8 eys11 (τ := (qI (K := K))) (S := S) (fun zx6 H_9 e10 r_ hm => ?_) ?_
  · have g := g.ext e10
    exact ⟨true, a_yes rfl, fun _ => ⟨_, _, (Option.some.inj hm).symm, val_c, rfl⟩, fun z => nomatch z⟩
  intro p12 ws13 H_14 e15 np16 ep17 rw18
  have z20 := g.hnone np16
  have c_19 : Cel [] H S H_14 p12 (.lst ws13) := Cel.own g e15 np16 ep17 rfl
  replace g := g.ext e15
  refine g_name (σ' := [some v2, some (.int many5), some (.ref p12), none, none, none, none, none]) rfl ?_
  obtain ⟨w_21, hw_21, rw_21⟩ := vf_Machine_moves T g.sh r3
  obtain ⟨B25, h, hB26⟩ := OP.cut h
  obtain ⟨F27, hF28, h⟩ := OP.nameO h
  obtain ⟨q43a, q43w, q43e, q43h, q43p⟩ := id (qL_qQ rw_21)
  refine z_forL (v_eq (hw_21 (val_var rfl)) q43e) q43p (fun ys30 σ' H' => ∃ (ws31 : List V) (after34 : (List Int)) (u35 : Option V) (u36 : Option V) (u37 : Option V) (u38 : Option V) (u39 : Option V) (S_40 : Hp), σ' = [some v2, some (.int many5), some (.ref p12), u35, u36, u37, u38, u39] ∧ Grow [] S H S_40 H' ∧ Same S S_40 ∧ Cel [] H S_40 H' p12 (.lst ws31) ∧ RL (qI (K := K)) S_40 ws31 after34 ∧ OP (forO F27 ys30 after34) B25) ⟨_, _, _, _, _, _, _, _, rfl, g, (Same.refl _), c_19, rw18, h⟩ (fun ys σ' H' p => by obtain ⟨ws31, after34, u35, u36, u37, u38, u39, S_40, rfl, gN, eS42, c_32N, r33N, h⟩ := p; exact (eS42.trans gN.sh).seq q43h) (fun w_23 move22 ys30 σ' H_41 rw24 p N hN29 => ?_) ?_
  · obtain ⟨ws31, after34, u35, u36, u37, u38, u39, S_40, rfl, gN, eS42, c_32N, r33N, h⟩ := p
    replace g := gN
    have c_32 := c_32N
    have r33 := r33N
    replace r3 := Rep.mono _ eS42 r3
    replace h := OP.forO h
    replace h := OP.fcall2 hF28 h
    have rx44 := Rep.mono _ eS42 rw24
    refine g_name (σ' := [some v2, some (.int many5), some (.ref p12), some w_23, u36, u37, u38, u39]) rfl ?_
    obtain ⟨w_45, hw_45, rw_45⟩ := vf_Move_guard T g.sh rx44
    obtain ⟨v46, ev46, h⟩ := OP.bind h
    refine z_set (w := (.int v46)) (σ' := [some v2, some (.int many5), some (.ref p12), some w_23, some (.int v46), u37, u38, u39]) (v_dp_Formula_crowd T (hw_45 (val_var rfl)) (Rep.mono _ g.sh rw_45) (va_cons (val_var rfl) va_nil) fun i_ hi_ Q q => ⟨_, _, _, rfl, (Rep.mono _ g.sh rw_45), hi_, OP.mk ev46 q⟩) rfl rfl ?_
    refine z_setE ?_
    refine c_meth (val_var rfl) (in_Move (Rep.mono _ g.sh rx44)) (m := "onward_from_all") (by decide) ?_
    refine c_args (va_cons (val_var rfl) va_nil) ?_
    have gL57 : ∀ l ∈ [], H l = none ∨ l ∈ [] := LM0
    refine ⟨S_40, _, _, _, rfl, g.sh, rx44, (OP.of h).mono fun v47 h S_48 H_49 p51 ws52 gc50 np53 hp54 sp55 wf56 => ?_⟩
    have ne58 := c_32.ne np53
    have z59 := g.hnone np53
    replace c_32 := c_32.call gc50 NM0
    replace r3 := Rep.mono _ gc50.ss r3
    replace r33 := RL.mono gc50.ss r33
    replace rx44 := Rep.mono _ gc50.ss rx44
    replace eS42 := eS42.trans gc50.ss
    have c_60 : Cel [] H S_48 H_49 p51 (.lst ws52) := ⟨hp54, sp55, .inl z59, rfl⟩
    replace g := g.call gc50 gL57
    obtain ⟨S_61, g62, eS63, r64, ot65⟩ := c_freeze g c_60 z59 wf56
    replace c_32 := ot65 _ _ (by first | assumption | exact Ne.symm (by assumption)) c_32
    replace r3 := Rep.mono _ eS63 r3
    replace r33 := RL.mono eS63 r33
    replace rx44 := Rep.mono _ eS63 rx44
    replace eS42 := eS42.trans eS63
    replace g := g62
    refine g_name (σ' := [some v2, some (.int many5), some (.ref p12), some w_23, some (.int v46), some (.ref p51), u38, u39]) rfl ?_
    obtain ⟨B69, h, hB70⟩ := OP.cut h
    obtain ⟨F71, hF72, h⟩ := OP.nameO h
    obtain ⟨q84a, q84w, q84e, q84h, q84p⟩ := id (qL_qQ r64)
    refine z_forN (v_eq (val_var rfl) q84e) q84p (fun ys74 σ' H' => ∃ (ws75 : List V) (after78 : (List Int)) (u79 : Option V) (u80 : Option V) (S_81 : Hp), σ' = [some v2, some (.int many5), some (.ref p12), some w_23, some (.int v46), some (.ref p51), u79, u80] ∧ Grow [] S H S_81 H' ∧ Same S_61 S_81 ∧ Cel [] H S_81 H' p12 (.lst ws75) ∧ RL (qI (K := K)) S_81 ws75 after78 ∧ OP (forO F71 ys74 after78) B69) ⟨_, _, _, _, _, rfl, g, (Same.refl _), c_32, r33, h⟩ (fun ys σ' H' p => by obtain ⟨ws75, after78, u79, u80, S_81, rfl, gN, eS83, c_76N, r77N, h⟩ := p; exact (eS83.trans gN.sh).seq q84h) (fun w_67 x66 ys74 σ' H_82 rw68 p N hN73 t85 nt86 => ?_) ?_
    · obtain ⟨ws75, after78, u79, u80, S_81, rfl, gN, eS83, c_76N, r77N, h⟩ := p
      replace g := gN
      have c_76 := c_76N
      have r77 := r77N
      replace r3 := Rep.mono _ eS83 r3
      replace rx44 := Rep.mono _ eS83 rx44
      replace r64 := Rep.mono _ eS83 r64
      replace eS42 := eS42.trans eS83
      replace h := OP.forO h
      replace h := OP.fcall2 hF72 h
      cases (show w_67 = (.int x66.2) from rw68)
      obtain ⟨H_88, e87, qH_88⟩ : ∃ H2, Same H_82 H2 ∧ H2 = upd H_82 t85 (.tup [.int x66.1, .int x66.2]) := ⟨_, same_upd nt86, rfl⟩
      have tH_88 : H_88 t85 = some (.tup [.int x66.1, .int x66.2]) := by rw [qH_88]; exact upd_same
      replace c_76 := c_76.ext e87
      replace g := g.ext e87
      refine g_pair qH_88 tH_88 rfl ?_
      refine g_name (σ' := [some v2, some (.int many5), some (.ref p12), some w_23, some (.int v46), some (.ref p51), some (.int x66.1), u80]) rfl ?_
      refine g_next ?_
      refine g_name (σ' := [some v2, some (.int many5), some (.ref p12), some w_23, some (.int v46), some (.ref p51), some (.int x66.1), some (.int x66.2)]) rfl ?_
      refine g_end ?_
      obtain ⟨g89, h⟩ := OP.grd h
      refine z_if (v_test (v_eqI (v_o2 (v_o2c (val_var rfl) (val_var rfl) g89) val_c) val_c)) (fun hc => ?_) (fun hc => ?_)
      · replace h := OP.ite1 hc h
        obtain ⟨i90, ei90, h⟩ := OP.bind h
        refine z_xaugI (val_var rfl) (val_var rfl) c_76.h r77 ei90 ?_
        obtain ⟨g91, h⟩ := OP.grd h
        refine c_val (v_o2c val_c (val_var rfl) g91) ?_
        refine e_o2 ?_
        obtain ⟨l92, el92, h⟩ := OP.bind h
        refine c_setL2 g c_76 r77 rfl el92 fun ws93 H_94 g95 c_96 w_97 ot98 => ?_
        replace g := g95
        refine z_nextR ?_
        refine z_next ?_
        exact hN73 _ _ ⟨_, _, _, _, _, rfl, g, eS83, c_96, w_97, h⟩
      · replace h := OP.ite0 hc h
        refine z_nextR ?_
        refine z_next ?_
        exact hN73 _ _ ⟨_, _, _, _, _, rfl, g, eS83, c_76, r77, h⟩
    · intro σ' H_82 p
      obtain ⟨ws75, after78, u79, u80, S_81, rfl, gN, eS83, c_76N, r77N, h⟩ := p
      replace g := gN
      have c_76 := c_76N
      have r77 := r77N
      replace r3 := Rep.mono _ eS83 r3
      replace rx44 := Rep.mono _ eS83 rx44
      replace r64 := Rep.mono _ eS83 r64
      replace eS42 := eS42.trans eS83
      replace h := hB70 _ (OP.forO_nil h)
      refine z_next ?_
      exact hN29 _ _ ⟨_, _, _, _, _, _, _, _, rfl, g, eS42, c_76, r77, h⟩
  · intro σ' H_41 p
    obtain ⟨ws31, after34, u35, u36, u37, u38, u39, S_40, rfl, gN, eS42, c_32N, r33N, h⟩ := p
    replace g := gN
    have c_32 := c_32N
    have r33 := r33N
    replace r3 := Rep.mono _ eS42 r3
    replace h := hB26 _ (OP.forO_nil h)
    refine z_retE ?_
    refine c_make ?_
    obtain ⟨w_99, hw_99, rw_99⟩ := vf_Machine_starts T g.sh r3
    obtain ⟨v100, ev100, h⟩ := OP.bind h
    obtain ⟨w_101, hw_101, rw_101⟩ := vf_Machine_bads T g.sh r3
    obtain ⟨v102, ev102, h⟩ := OP.bind h
    refine c_args (va_cons (val_var rfl) (va_cons (v_meth (val_var rfl) (in_Machine (Rep.mono _ g.sh r3)) (m := "any_of") (by decide) (va_cons (hw_99 (val_var rfl)) va_nil) fun Q q => ⟨_, _, _, _, rfl, (Rep.mono _ g.sh r3), (qL_qQ (Rep.mono _ g.sh rw_99)), OP.mk ev100 q⟩) (va_cons (v_meth (val_var rfl) (in_Machine (Rep.mono _ g.sh r3)) (m := "any_of") (by decide) (va_cons (hw_101 (val_var rfl)) va_nil) fun Q q => ⟨_, _, _, _, rfl, (Rep.mono _ g.sh r3), (qL_qQ (Rep.mono _ g.sh rw_101)), OP.mk ev102 q⟩) (va_cons (val_var rfl) va_nil)))) ?_
    refine make_in fun p103 dx104 H_105 e106 np107 ep108 => ?_
    have ne112 := c_32.ne np107
    have z111 := g.hnone np107
    have c_110 : Cel [] H S_40 H_105 p103 (.ins T.c.Chart dx104 []) := Cel.own g e106 np107 ep108 rfl
    replace c_32 := c_32.ext e106
    replace g := g.ext e106
    have gL122 : ∀ l ∈ [p103], H l = none ∨ l ∈ [] := (LM1 c_110.z LM0)
    refine ⟨S_40, _, _, _, _, _, _, _, rfl, g.sh, c_110.h, c_110.s, (RdL.ofC c_32.h (NM1 (by first | assumption | exact Ne.symm (by assumption)) NM0) r33), (OP.of h).mono fun v113 h S_114 H_115 w_117 w_119 gc116 hp121 r118 r120 => ?_⟩
    replace c_32 := c_32.call gc116 (NM1 (by first | assumption | exact Ne.symm (by assumption)) NM0)
    replace r3 := Rep.mono _ gc116.ss r3
    replace r33 := RL.mono gc116.ss r33
    replace c_110 := c_110.mut gc116 hp121 rfl
    replace g := g.call gc116 gL122
    refine ⟨rfl, ?_⟩
    obtain ⟨S_123, g124, eS125, r126, ot127⟩ := fz_Chart (c := T.c) g c_110 z111 (x := v113) rfl rfl rfl r118 r120
    replace c_32 := ot127 _ _ (by first | assumption | exact Ne.symm (by assumption)) c_32
    replace r3 := Rep.mono _ eS125 r3
    replace r33 := RL.mono eS125 r33
    replace r118 := Rep.mono _ eS125 r118
    replace r120 := Rep.mono _ eS125 r120
    replace g := g124
    have h := OP.fin hA h
    exact h _ _ _ g r126

@[irreducible] def m_Move___init__ (guard7 : O_Formula) (changes10 : (List (Int × O_Formula))) : Option O_Move :=
some (O_Move.mk guard7 changes10)
abbrev s_Move___init__ : Stmt := inClass (top 11) 0
abbrev sn_Move___init__ : List Str := ["self", "guard", "changes"]
theorem sc_Move___init__ : FnScope ["self", "guard", "changes"] ["self", "guard", "changes"] (defScope (s_Move___init__)) := ⟨rfl, rfl, rfl, by decide +kernel, rfl, by decide +kernel, by decide +kernel⟩
def p_Move___init__ (K : PySem.W.Frag) (c : Cl) : Sp := fun vs H Q E => ∃ (S : Hp) (l2 : Addr) (dx3 : Addr) (v8 : V) (guard7 : O_Formula) (v11 : V) (changes10 : (List (Int × O_Formula))), vs = [.ref l2, v8, v11] ∧ Same S H ∧ H l2 = some (.ins c.Move dx3 []) ∧ S l2 = none ∧ ((q_Formula (K := K) c)).R S v8 guard7 ∧ RdL (qT2 (qI (K := K)) (q_Formula (K := K) c)) [l2] S H v11 changes10 ∧ OP (m_Move___init__ guard7 changes10) (fun r => ∀ (S' H' : Hp) (w0 : V) (w1 : V), Grow [l2] S H S' H' → H' l2 = some (.ins c.Move dx3 [("guard", w0), ("changes", w1)]) → ((q_Formula (K := K) c)).R S' w0 r.guard → ((qL (qT2 (qI (K := K)) (q_Formula (K := K) c)))).R S' w1 r.changes → Q .non H')
theorem ok_Move___init__ (T : Tx K mg) : FnOk P w K mg base CX0 1 T.f_Move___init__ T.d_Move___init__ ["self", "guard", "changes"] (p_Move___init__ K T.c) := by
  refine T.F_Move___init__.ok sc_Move___init__ (fun vs H Q E h => by obtain ⟨S, l2, dx3, v8, guard7, v11, changes10, rfl, _⟩ := h; rfl) (fun cdv A outer s H vs Q E hr h => ?_)
  obtain ⟨S, l2, dx3, v8, guard7, v11, changes10, rfl, gS, h_4, h_5, r9, r12, h⟩ := h
  obtain ⟨A_, hA⟩ : ∃ A_, A_ = (fun r : O_Move => ∀ (S' H' : Hp) (w0 : V) (w1 : V), Grow [l2] S H S' H' → H' l2 = some (.ins T.c.Move dx3 [("guard", w0), ("changes", w1)]) → ((q_Formula (K := K) T.c)).R S' w0 r.guard → ((qL (qT2 (qI (K := K)) (q_Formula (K := K) T.c)))).R S' w1 r.changes → Q .non H') := ⟨_, rfl⟩
  replace h : OP (m_Move___init__ guard7 changes10) A_ := hA ▸ h
  rw [m_Move___init__] at h
  refine ⟨_, (pss_cons (ps_fld (pe_var (i := 0) rfl (.inl rfl) rfl rfl) (pe_var (i := 1) rfl (.inl rfl) rfl rfl) rfl)
      (pss_cons (ps_fld (pe_var (i := 0) rfl (.inl rfl) rfl rfl) (pe_callTy call_list_of rfl T.n_list bt_list (pa_cons (pe_var (i := 2) rfl (.inl rfl) rfl rfl) pa_nil)) rfl)
      pss_nil)), ?_⟩
  refine z_start (σ := [some (.ref l2), some v8, some v11]) rfl ?_
  have g : Grow [l2] S H S H := Grow.refl gS
  have c_6 : Cel [l2] H S H l2 (.ins T.c.Move dx3 []) := ⟨h_4, h_5, .inr (.head _), rfl⟩
  refine z_fldE ?_
  refine c_val (val_var rfl) ?_
  refine c_setF (fs' := [("guard", v8)]) g c_6 (val_var rfl) T.l_Move T.a_Move_guard (show 0 < 1000 by decide) rfl fun H_13 g14 c_15 ot16 => ?_
  replace g := g14
  refine z_fldE ?_
  refine c_cbE fun Q_17 hQ_17 => ?_
  refine c_args (va_cons (val_var rfl) va_nil) ?_
  refine (l_list (Q := Q_17) (LS.rd g r12) fun p18 ws19 H_20 e21 np22 ep23 rw24 => ?_)
  refine q_eq hQ_17 ?_
  have ne27 := c_15.ne np22
  have z26 := g.hnone np22
  have c_25 : Cel [l2] H S H_20 p18 (.lst ws19) := Cel.own g e21 np22 ep23 rfl
  replace c_15 := c_15.ext e21
  replace g := g.ext e21
  obtain ⟨S_28, g29, eS30, r31, ot32⟩ := c_freeze g c_25 z26 rw24
  replace c_15 := ot32 _ _ (by first | assumption | exact Ne.symm (by assumption)) c_15
  replace r9 := Rep.mono _ eS30 r9
  replace r12 := RdL.mono eS30 r12
  replace rw24 := RL.mono eS30 rw24
  replace g := g29
  refine c_setF (fs' := [("guard", v8), ("changes", (.ref p18))]) g c_15 (val_var rfl) T.l_Move T.a_Move_changes (show 1 < 1000 by decide) rfl fun H_33 g34 c_35 ot36 => ?_
  replace g := g34
  refine z_next ?_
  have h := OP.fin hA h
  exact h _ _ _ _ g c_35.h r9 r31

@[irreducible] def m__law_digit (bag1 : (List Int)) (many8 : Int) : Option (Int × (List Int)) :=
(atI bag1 0).bind fun i9 =>
grd (0 < many8) <|
lt (i9 % many8) fun found11 =>
(atI bag1 0).bind fun i12 =>
grd (gDivW many8) <|
(setI bag1 0 (i12 / many8)).bind fun l14 =>
some (found11, l14)
abbrev s__law_digit : Stmt := top 31
abbrev sn__law_digit : List Str := ["_law_bag", "_law_many", "_law_found"]
theorem sc__law_digit : FnScope ["_law_bag", "_law_many", "_law_found"] ["_law_bag", "_law_many"] (defScope (s__law_digit)) := ⟨rfl, rfl, rfl, by decide +kernel, rfl, by decide +kernel, by decide +kernel⟩
def p__law_digit (K : PySem.W.Frag) (c : Cl) : Sp := fun vs H Q E => ∃ (S : Hp) (l2 : Addr) (ws3 : List V) (bag1 : (List Int)) (many8 : Int), vs = [.ref l2, .int many8] ∧ Same S H ∧ H l2 = some (.lst ws3) ∧ S l2 = none ∧ RL (qI (K := K)) S ws3 bag1 ∧ OP (m__law_digit bag1 many8) (fun r => ∀ (S' H' : Hp) (us0 : List V), Grow [l2] S H S' H' → H' l2 = some (.lst us0) → RL (qI (K := K)) S' us0 r.2 → Q (.int r.1) H')
theorem ok__law_digit (T : Tx K mg) : FnOk P w K mg base CX0 1 T.f__law_digit T.d__law_digit ["_law_bag", "_law_many"] (p__law_digit K T.c) := by
  refine T.F__law_digit.ok sc__law_digit (fun vs H Q E h => by obtain ⟨S, l2, ws3, bag1, many8, rfl, _⟩ := h; rfl) (fun cdv A outer s H vs Q E hr h => ?_)
  obtain ⟨S, l2, ws3, bag1, many8, rfl, gS, h_4, h_5, r6, h⟩ := h
  obtain ⟨A_, hA⟩ : ∃ A_, A_ = (fun r : (Int × (List Int)) => ∀ (S' H' : Hp) (us0 : List V), Grow [l2] S H S' H' → H' l2 = some (.lst us0) → RL (qI (K := K)) S' us0 r.2 → Q (.int r.1) H') := ⟨_, rfl⟩
  replace h : OP (m__law_digit bag1 many8) A_ := hA ▸ h
  rw [m__law_digit] at h
  refine ⟨_, (pss_cons (ps_set (i := 2) sc__law_digit.nd rfl (.inl rfl) (pe_op op_mod (pe_ix (show IxR _ (rIxL K) from ix_list) (pe_var (i := 0) rfl (.inl rfl) rfl rfl) pe_int (fun _ _ => rfl)) (pe_var (i := 1) rfl (.inl rfl) rfl rfl)))
      (pss_cons (ps_asg (pe_op op_fdivW (pe_ix (show IxR _ (rIxL K) from ix_list) (pe_var (i := 0) rfl (.inl rfl) rfl rfl) pe_int (fun _ _ => rfl)) (pe_var (i := 1) rfl (.inl rfl) rfl rfl)) (pg_sub (pe_var (i := 0) rfl (.inl rfl) rfl rfl) pe_int set_list))
      (pss_cons (ps_ret (pe_var (i := 2) rfl (.inl rfl) rfl rfl))
      pss_nil))), ?_⟩
  refine z_start (σ := [some (.ref l2), some (.int many8), none]) rfl ?_
  have g : Grow [l2] S H S H := Grow.refl gS
  have c_7 : Cel [l2] H S H l2 (.lst ws3) := ⟨h_4, h_5, .inr (.head _), rfl⟩
  obtain ⟨i9, ei9, h⟩ := OP.bind h
  obtain ⟨g10, h⟩ := OP.grd h
  obtain ⟨found11, efound11, h⟩ := OP.lt h
  refine z_set (w := (.int found11)) (σ' := [some (.ref l2), some (.int many8), some (.int found11)]) (v_o2c (v_ixI (val_var rfl) val_c (qL_qQ (qL_of c_7.h (RL.mono g.sh r6))) ei9) (val_var rfl) g10) (congrArg V.int efound11) rfl ?_
  refine z_asgE ?_
  obtain ⟨i12, ei12, h⟩ := OP.bind h
  obtain ⟨g13, h⟩ := OP.grd h
  refine c_val (v_o2c (v_ixI (val_var rfl) val_c (qL_qQ (qL_of c_7.h (RL.mono g.sh r6))) ei12) (val_var rfl) (gDivW.ok g13)) ?_
  obtain ⟨l14, el14, h⟩ := OP.bind h
  refine c_setL g c_7 r6 rfl (val_var rfl) val_c el14 fun ws15 H_16 g17 c_18 w_19 ot20 => ?_
  replace g := g17
  refine z_ret (val_var rfl) ?_
  have h := OP.fin hA h
  exact h _ _ _ g c_18.h w_19

@[irreducible] def m__law_any_moves (pile_here1 : (List (O_Formula × Int))) (many4 : Int) (bag5 : (List Int)) : Option ((List ((O_Formula × Int) × (List (Int × (O_Formula × Int))))) × (List Int)) :=
(m__law_digit bag5 9).bind fun v22 =>
grd (gR v22.1) <|
(forO (fun k31 s =>
un2 (fun bag43 moves_here47 =>
(m__law_digit bag43 (pile_here1.length : Int)).bind fun v57 =>
(atI pile_here1 v57.1).bind fun i65 =>
grd (gRg many4) <|
(m__law_digit v57.2 many4).bind fun v93 =>
grd (gR (1 + v93.1)) <|
(forO (fun j102 s =>
un3 (fun bag114 lamps_left118 changes122 =>
(m__law_digit bag114 (lamps_left118.length : Int)).bind fun v128 =>
grd (gIx v128.1) <|
(popI lamps_left118 v128.1).bind fun p137 =>
(m__law_digit v128.2 (pile_here1.length : Int)).bind fun v147 =>
(atI pile_here1 v147.1).bind fun i155 =>
grd (changes122.length < 16777216) <|
lt (changes122 ++ [(p137.1, i155)]) fun l165 =>
some (v147.2, p137.2, l165)) s) (rangeI 0 (Int.toNat (1 + v93.1))) (v93.2, (rangeI 0 (Int.toNat many4)), ([] : List (Int × (O_Formula × Int))))).bind (fun s => un3 (fun bag114 lamps_left118 changes122 =>
grd (moves_here47.length < 16777216) <|
lt (moves_here47 ++ [(i65, changes122)]) fun l185 =>
some (bag114, l185)) s)) s) (rangeI 0 (Int.toNat v22.1)) (v22.2, ([] : List ((O_Formula × Int) × (List (Int × (O_Formula × Int))))))).bind (fun s => un2 (fun bag43 moves_here47 =>
some (moves_here47, bag43)) s)
abbrev s__law_any_moves : Stmt := top 32
abbrev sn__law_any_moves : List Str := ["_law_pile_here", "_law_many", "_law_bag", "_law_moves_here", "_law_k", "_law_guard", "_law_lamps_left", "_law_changes", "_law_j", "_law_lamp"]
theorem sc__law_any_moves : FnScope ["_law_pile_here", "_law_many", "_law_bag", "_law_moves_here", "_law_k", "_law_guard", "_law_lamps_left", "_law_changes", "_law_j", "_law_lamp"] ["_law_pile_here", "_law_many", "_law_bag"] (defScope (s__law_any_moves)) := ⟨rfl, rfl, rfl, by decide +kernel, rfl, by decide +kernel, by decide +kernel⟩
def p__law_any_moves (K : PySem.W.Frag) (c : Cl) : Sp := fun vs H Q E => ∃ (S : Hp) (v2 : V) (pile_here1 : (List (O_Formula × Int))) (many4 : Int) (l6 : Addr) (ws7 : List V) (bag5 : (List Int)), vs = [v2, .int many4, .ref l6] ∧ Same S H ∧ RdL (qT2 (q_Formula (K := K) c) (qI (K := K))) [l6] S H v2 pile_here1 ∧ H l6 = some (.lst ws7) ∧ S l6 = none ∧ RL (qI (K := K)) S ws7 bag5 ∧ OP (m__law_any_moves pile_here1 many4 bag5) (fun r => ∀ (S' H' : Hp) (p : Addr) (ws : List V) (us0 : List V), Grow [l6] S H S' H' → H p = none → H' p = some (.lst ws) → S' p = none → RL (qT2 (qT2 (q_Formula (K := K) c) (qI (K := K))) (qL (qT2 (qI (K := K)) (qT2 (q_Formula (K := K) c) (qI (K := K)))))) S' ws r.1 → H' l6 = some (.lst us0) → RL (qI (K := K)) S' us0 r.2 → Q (.ref p) H')
theorem ok__law_any_moves (T : Tx K mg) : FnOk P w K mg base CX0 2 T.f__law_any_moves T.d__law_any_moves ["_law_pile_here", "_law_many", "_law_bag"] (p__law_any_moves K T.c) := by
  refine T.F__law_any_moves.ok sc__law_any_moves (fun vs H Q E h => by obtain ⟨S, v2, pile_here1, many4, l6, ws7, bag5, rfl, _⟩ := h; rfl) (fun cdv A outer s H vs Q E hr h => ?_)
  obtain ⟨S, v2, pile_here1, many4, l6, ws7, bag5, rfl, gS, r3, h_8, h_9, r10, h⟩ := h
  obtain ⟨A_, hA⟩ : ∃ A_, A_ = (fun r : ((List ((O_Formula × Int) × (List (Int × (O_Formula × Int))))) × (List Int)) => ∀ (S' H' : Hp) (p : Addr) (ws : List V) (us0 : List V), Grow [l6] S H S' H' → H p = none → H' p = some (.lst ws) → S' p = none → RL (qT2 (qT2 (q_Formula (K := K) T.c) (qI (K := K))) (qL (qT2 (qI (K := K)) (qT2 (q_Formula (K := K) T.c) (qI (K := K)))))) S' ws r.1 → H' l6 = some (.lst us0) → RL (qI (K := K)) S' us0 r.2 → Q (.ref p) H') := ⟨_, rfl⟩
  replace h : OP (m__law_any_moves pile_here1 many4 bag5) A_ := hA ▸ h
  rw [m__law_any_moves] at h
  have hr1 : Room 1 _ := hr.mono (by decide)
  refine ⟨_, (pss_cons (ps_set (i := 3) sc__law_any_moves.nd rfl (.inl rfl) (pe_lst pa_nil))
      (pss_cons (ps_for PassesOwn.never rfl (pi_range1 rfl T.n_range (pa_cons (pe_call (ok__law_digit T) hr1 rfl T.m__law_digit T.F__law_digit.kp T.b__law_digit .nil pass0 (pa_cons (pe_var (i := 2) rfl (.inl rfl) rfl rfl) (pa_cons pe_int pa_nil))) pa_nil)) (pg_name (i := 4) sc__law_any_moves.nd rfl (.inl rfl)) (pss_cons (ps_set (i := 5) sc__law_any_moves.nd rfl (.inl rfl) (pe_ix (show IxR _ (rIxL K) from ix_list) (pe_var (i := 0) rfl (.inl rfl) rfl rfl) (pe_call (ok__law_digit T) hr1 rfl T.m__law_digit T.F__law_digit.kp T.b__law_digit .nil pass0 (pa_cons (pe_var (i := 2) rfl (.inl rfl) rfl rfl) (pa_cons (pe_callB (show CallR _ (.builtin "len") (Z.rLenS K) from call_len_seq) rfl T.n_len bt_len (pa_cons (pe_var (i := 0) rfl (.inl rfl) rfl rfl) pa_nil)) pa_nil))) (fun _ _ => rfl)))
      (pss_cons (ps_set (i := 6) sc__law_any_moves.nd rfl (.inl rfl) (show PE _ _ (tLstRg (tRg1 _)) from pe_listRg rfl rfl T.n_list (prg_1 rfl T.n_range (pe_var (i := 1) rfl (.inl rfl) rfl rfl))))
      (pss_cons (ps_set (i := 7) sc__law_any_moves.nd rfl (.inl rfl) (pe_lst pa_nil))
      (pss_cons (ps_for PassesOwn.never rfl (pi_range1 rfl T.n_range (pa_cons (pe_op op_add pe_int (pe_call (ok__law_digit T) hr1 rfl T.m__law_digit T.F__law_digit.kp T.b__law_digit .nil pass0 (pa_cons (pe_var (i := 2) rfl (.inl rfl) rfl rfl) (pa_cons (pe_var (i := 1) rfl (.inl rfl) rfl rfl) pa_nil)))) pa_nil)) (pg_name (i := 8) sc__law_any_moves.nd rfl (.inl rfl)) (pss_cons (ps_set (i := 9) sc__law_any_moves.nd rfl (.inl rfl) (pe_bm PySem.F.plainAttrs_list PySem.F.slot_list_pop PySem.F.type_list_pop mt_popAt (pe_var (i := 6) rfl (.inl rfl) rfl rfl) (pa_cons (pe_call (ok__law_digit T) hr1 rfl T.m__law_digit T.F__law_digit.kp T.b__law_digit .nil pass0 (pa_cons (pe_var (i := 2) rfl (.inl rfl) rfl rfl) (pa_cons (pe_callB (show CallR _ (.builtin "len") (Z.rLenS K) from call_len_seq) rfl T.n_len bt_len (pa_cons (pe_var (i := 6) rfl (.inl rfl) rfl rfl) pa_nil)) pa_nil))) pa_nil)))
      (pss_cons (ps_expr (pe_bm PySem.F.plainAttrs_list PySem.F.slot_list_append PySem.F.type_list_append mt_append (pe_var (i := 7) rfl (.inl rfl) rfl rfl) (pa_cons (pe_tup (pa_cons (pe_var (i := 9) rfl (.inl rfl) rfl rfl) (pa_cons (pe_ix (show IxR _ (rIxL K) from ix_list) (pe_var (i := 0) rfl (.inl rfl) rfl rfl) (pe_call (ok__law_digit T) hr1 rfl T.m__law_digit T.F__law_digit.kp T.b__law_digit .nil pass0 (pa_cons (pe_var (i := 2) rfl (.inl rfl) rfl rfl) (pa_cons (pe_callB (show CallR _ (.builtin "len") (Z.rLenS K) from call_len_seq) rfl T.n_len bt_len (pa_cons (pe_var (i := 0) rfl (.inl rfl) rfl rfl) pa_nil)) pa_nil))) (fun _ _ => rfl)) pa_nil))) pa_nil)))
      pss_nil)))
      (pss_cons (ps_expr (pe_bm PySem.F.plainAttrs_list PySem.F.slot_list_append PySem.F.type_list_append mt_append (pe_var (i := 3) rfl (.inl rfl) rfl rfl) (pa_cons (pe_tup (pa_cons (pe_var (i := 5) rfl (.inl rfl) rfl rfl) (pa_cons (pe_var (i := 7) rfl (.inl rfl) rfl rfl) pa_nil))) pa_nil)))
      pss_nil))))))
      (pss_cons (ps_ret (pe_var (i := 3) rfl (.inl rfl) rfl rfl))
      pss_nil))), ?_⟩
  refine z_start (σ := [some v2, some (.int many4), some (.ref l6), none, none, none, none, none, none, none]) rfl ?_
  have g : Grow [l6] S H S H := Grow.refl gS
  have c_11 : Cel [l6] H S H l6 (.lst ws7) := ⟨h_8, h_9, .inr (.head _), rfl⟩
  refine z_setE ?_
  refine c_lstE fun Q_12 hQ_12 => ?_
  refine c_args va_nil ?_
  refine c_newlst (Q := Q_12) (vs := []) (show 0 ≤ 1000 by decide) fun p13 H_14 e15 np16 ep17 => ?_
  refine q_eq hQ_12 ?_
  have w_18 : RL (qT2 (qT2 (q_Formula (K := K) T.c) (qI (K := K))) (qL (qT2 (qI (K := K)) (qT2 (q_Formula (K := K) T.c) (qI (K := K)))))) S [] ([] : List ((O_Formula × Int) × (List (Int × (O_Formula × Int))))) := .nil
  have ne21 := c_11.ne np16
  have z20 := g.hnone np16
  have c_19 : Cel [l6] H S H_14 p13 (.lst []) := Cel.own g e15 np16 ep17 rfl
  replace c_11 := c_11.ext e15
  replace g := g.ext e15
  refine g_name (σ' := [some v2, some (.int many4), some (.ref l6), some (.ref p13), none, none, none, none, none, none]) rfl ?_
  refine z_rng1E ?_
  refine c_cons ?_
  refine c_call ?_
  refine c_args (va_cons (val_var rfl) (va_cons val_c va_nil)) ?_
  have gL29 : ∀ l ∈ [l6], H l = none ∨ l ∈ [l6] := (LM1 c_11.z LM0)
  refine ⟨S, _, _, _, _, rfl, g.sh, c_11.h, c_11.s, r10, (OP.of h).mono fun v22 h S_23 H_24 ws26 gc25 hp27 wf28 => ?_⟩
  replace c_19 := c_19.call gc25 (NM1 (by first | assumption | exact Ne.symm (by assumption)) NM0)
  replace r3 := RdL.mono gc25.ss r3
  replace r10 := RL.mono gc25.ss r10
  replace w_18 := RL.mono gc25.ss w_18
  replace c_11 := c_11.mut gc25 hp27 rfl
  replace g := g.call gc25 gL29
  refine c_nil ?_
  obtain ⟨g30, h⟩ := OP.grd h
  obtain ⟨B34, h, hB35⟩ := OP.cut h
  obtain ⟨F36, hF37, h⟩ := OP.nameO h
  refine z_for1 (j := v22.1) va_k g30 (fun ys39 σ' H' => ∃ (ws40 : List V) (bag43 : (List Int)) (ws44 : List V) (moves_here47 : (List ((O_Formula × Int) × (List (Int × (O_Formula × Int)))))) (u48 : Option V) (u49 : Option V) (u50 : Option V) (u51 : Option V) (u52 : Option V) (u53 : Option V) (S_54 : Hp), σ' = [some v2, some (.int many4), some (.ref l6), some (.ref p13), u48, u49, u50, u51, u52, u53] ∧ Grow [l6] S H S_54 H' ∧ Same S_23 S_54 ∧ Cel [l6] H S_54 H' l6 (.lst ws40) ∧ RL (qI (K := K)) S_54 ws40 bag43 ∧ Cel [l6] H S_54 H' p13 (.lst ws44) ∧ RL (qT2 (qT2 (q_Formula (K := K) T.c) (qI (K := K))) (qL (qT2 (qI (K := K)) (qT2 (q_Formula (K := K) T.c) (qI (K := K)))))) S_54 ws44 moves_here47 ∧ OP (forO F36 ys39 (bag43, moves_here47)) B34) ⟨_, _, _, _, _, _, _, _, _, _, _, rfl, g, (Same.refl _), c_11, wf28, c_19, w_18, h⟩ (fun k31 ys39 σ' H_55 p N hN38 => ?_) ?_
  · obtain ⟨ws40, bag43, ws44, moves_here47, u48, u49, u50, u51, u52, u53, S_54, rfl, gN, eS56, c_41N, r42N, c_45N, r46N, h⟩ := p
    replace g := gN
    have c_41 := c_41N
    have r42 := r42N
    have c_45 := c_45N
    have r46 := r46N
    replace r3 := RdL.mono eS56 r3
    replace h := OP.forO h
    replace h := OP.fcall2 hF37 h
    replace h := OP.un2 h
    refine g_name (σ' := [some v2, some (.int many4), some (.ref l6), some (.ref p13), some (.int k31), u49, u50, u51, u52, u53]) rfl ?_
    refine z_setE ?_
    refine c_op ?_
    refine c_val (val_var rfl) ?_
    refine c_call ?_
    refine c_args (va_cons (val_var rfl) (va_cons (v_len (val_var rfl) (RdL.q g r3)) va_nil)) ?_
    have gL64 : ∀ l ∈ [l6], H l = none ∨ l ∈ [l6] := (LM1 c_41.z LM0)
    refine ⟨S_54, _, _, _, _, rfl, g.sh, c_41.h, c_41.s, r42, (OP.of h).mono fun v57 h S_58 H_59 ws61 gc60 hp62 wf63 => ?_⟩
    replace c_45 := c_45.call gc60 (NM1 (by first | assumption | exact Ne.symm (by assumption)) NM0)
    replace r3 := RdL.mono gc60.ss r3
    replace r42 := RL.mono gc60.ss r42
    replace r46 := RL.mono gc60.ss r46
    replace eS56 := eS56.trans gc60.ss
    replace c_41 := c_41.mut gc60 hp62 rfl
    replace g := g.call gc60 gL64
    obtain ⟨i65, ei65, h⟩ := OP.bind h
    refine e_ix (LS.rd g r3) ei65 fun w_66 r67 => ?_
    refine g_name (σ' := [some v2, some (.int many4), some (.ref l6), some (.ref p13), some (.int k31), some w_66, u50, u51, u52, u53]) rfl ?_
    refine z_setE ?_
    obtain ⟨g68, h⟩ := OP.grd h
    refine c_rgE fun Q_69 hQ_69 => ?_
    refine (l_listRg (K := K) (S := S_58) (Q := Q_69) (val_var rfl) g68 fun p70 ws71 H_72 e73 np74 ep75 rw76 => ?_)
    refine q_eq hQ_69 ?_
    have ne79 := c_41.ne np74
    have ne80 := c_45.ne np74
    have z78 := g.hnone np74
    have c_77 : Cel [l6] H S_58 H_72 p70 (.lst ws71) := Cel.own g e73 np74 ep75 rfl
    replace c_41 := c_41.ext e73
    replace c_45 := c_45.ext e73
    replace g := g.ext e73
    refine g_name (σ' := [some v2, some (.int many4), some (.ref l6), some (.ref p13), some (.int k31), some w_66, some (.ref p70), u51, u52, u53]) rfl ?_
    refine z_setE ?_
    refine c_lstE fun Q_81 hQ_81 => ?_
    refine c_args va_nil ?_
    refine c_newlst (Q := Q_81) (vs := []) (show 0 ≤ 1000 by decide) fun p82 H_83 e84 np85 ep86 => ?_
    refine q_eq hQ_81 ?_
    have w_87 : RL (qT2 (qI (K := K)) (qT2 (q_Formula (K := K) T.c) (qI (K := K)))) S_58 [] ([] : List (Int × (O_Formula × Int))) := .nil
    have ne90 := c_41.ne np85
    have ne91 := c_45.ne np85
    have ne92 := c_77.ne np85
    have z89 := g.hnone np85
    have c_88 : Cel [l6] H S_58 H_83 p82 (.lst []) := Cel.own g e84 np85 ep86 rfl
    replace c_41 := c_41.ext e84
    replace c_45 := c_45.ext e84
    replace c_77 := c_77.ext e84
    replace g := g.ext e84
    refine g_name (σ' := [some v2, some (.int many4), some (.ref l6), some (.ref p13), some (.int k31), some w_66, some (.ref p70), some (.ref p82), u52, u53]) rfl ?_
    refine z_rng1E ?_
    refine c_cons ?_
    refine c_op ?_
    refine c_val val_c ?_
    refine c_call ?_
    refine c_args (va_cons (val_var rfl) (va_cons (val_var rfl) va_nil)) ?_
    have gL100 : ∀ l ∈ [l6], H l = none ∨ l ∈ [l6] := (LM1 c_41.z LM0)
    refine ⟨S_58, _, _, _, _, rfl, g.sh, c_41.h, c_41.s, wf63, (OP.of h).mono fun v93 h S_94 H_95 ws97 gc96 hp98 wf99 => ?_⟩
    replace c_45 := c_45.call gc96 (NM1 (by first | assumption | exact Ne.symm (by assumption)) NM0)
    replace c_77 := c_77.call gc96 (NM1 (by first | assumption | exact Ne.symm (by assumption)) NM0)
    replace c_88 := c_88.call gc96 (NM1 (by first | assumption | exact Ne.symm (by assumption)) NM0)
    replace r3 := RdL.mono gc96.ss r3
    replace wf63 := RL.mono gc96.ss wf63
    replace r46 := RL.mono gc96.ss r46
    replace r67 := Rep.mono _ gc96.ss r67
    replace rw76 := RL.mono gc96.ss rw76
    replace w_87 := RL.mono gc96.ss w_87
    replace eS56 := eS56.trans gc96.ss
    replace c_41 := c_41.mut gc96 hp98 rfl
    replace g := g.call gc96 gL100
    refine e_o2 ?_
    refine c_nil ?_
    obtain ⟨g101, h⟩ := OP.grd h
    obtain ⟨B105, h, hB106⟩ := OP.cut h
    obtain ⟨F107, hF108, h⟩ := OP.nameO h
    refine z_for1 (j := (1 + v93.1)) va_k g101 (fun ys110 σ' H' => ∃ (ws111 : List V) (bag114 : (List Int)) (ws115 : List V) (lamps_left118 : (List Int)) (ws119 : List V) (changes122 : (List (Int × (O_Formula × Int)))) (u123 : Option V) (u124 : Option V) (S_125 : Hp), σ' = [some v2, some (.int many4), some (.ref l6), some (.ref p13), some (.int k31), some w_66, some (.ref p70), some (.ref p82), u123, u124] ∧ Grow [l6] S H S_125 H' ∧ Same S_94 S_125 ∧ Cel [l6] H S_125 H' l6 (.lst ws111) ∧ RL (qI (K := K)) S_125 ws111 bag114 ∧ Cel [l6] H S_125 H' p70 (.lst ws115) ∧ RL (qI (K := K)) S_125 ws115 lamps_left118 ∧ Cel [l6] H S_125 H' p82 (.lst ws119) ∧ RL (qT2 (qI (K := K)) (qT2 (q_Formula (K := K) T.c) (qI (K := K)))) S_125 ws119 changes122 ∧ Cel [l6] H S_125 H' p13 (.lst ws44) ∧ OP (forO F107 ys110 (bag114, lamps_left118, changes122)) B105) ⟨_, _, _, _, _, _, _, _, _, rfl, g, (Same.refl _), c_41, wf99, c_77, rw76, c_88, w_87, c_45, h⟩ (fun j102 ys110 σ' H_126 p N hN109 => ?_) ?_
    · obtain ⟨ws111, bag114, ws115, lamps_left118, ws119, changes122, u123, u124, S_125, rfl, gN, eS127, c_112N, r113N, c_116N, r117N, c_120N, r121N, c_45N, h⟩ := p
      replace g := gN
      have c_112 := c_112N
      have r113 := r113N
      have c_116 := c_116N
      have r117 := r117N
      have c_120 := c_120N
      have r121 := r121N
      replace c_45 := c_45N
      replace r3 := RdL.mono eS127 r3
      replace r46 := RL.mono eS127 r46
      replace r67 := Rep.mono _ eS127 r67
      replace eS56 := eS56.trans eS127
      replace h := OP.forO h
      replace h := OP.fcall2 hF108 h
      replace h := OP.un3 h
      refine g_name (σ' := [some v2, some (.int many4), some (.ref l6), some (.ref p13), some (.int k31), some w_66, some (.ref p70), some (.ref p82), some (.int j102), u124]) rfl ?_
      refine z_setE ?_
      refine c_bm (val_var rfl) (tyL c_116.h) ?_
      refine c_cons ?_
      refine c_call ?_
      refine c_args (va_cons (val_var rfl) (va_cons (v_len (val_var rfl) (qL_qQ (qL_of c_116.h (RL.mono g.sh r117)))) va_nil)) ?_
      have gL135 : ∀ l ∈ [l6], H l = none ∨ l ∈ [l6] := (LM1 c_112.z LM0)
      refine ⟨S_125, _, _, _, _, rfl, g.sh, c_112.h, c_112.s, r113, (OP.of h).mono fun v128 h S_129 H_130 ws132 gc131 hp133 wf134 => ?_⟩
      replace c_45 := c_45.call gc131 (NM1 (by first | assumption | exact Ne.symm (by assumption)) NM0)
      replace c_116 := c_116.call gc131 (NM1 (by first | assumption | exact Ne.symm (by assumption)) NM0)
      replace c_120 := c_120.call gc131 (NM1 (by first | assumption | exact Ne.symm (by assumption)) NM0)
      replace r3 := RdL.mono gc131.ss r3
      replace r113 := RL.mono gc131.ss r113
      replace r46 := RL.mono gc131.ss r46
      replace r67 := Rep.mono _ gc131.ss r67
      replace r117 := RL.mono gc131.ss r117
      replace r121 := RL.mono gc131.ss r121
      replace eS56 := eS56.trans gc131.ss
      replace eS127 := eS127.trans gc131.ss
      replace c_112 := c_112.mut gc131 hp133 rfl
      replace g := g.call gc131 gL135
      refine c_nil ?_
      obtain ⟨g136, h⟩ := OP.grd h
      obtain ⟨p137, ep137, h⟩ := OP.bind h
      refine c_popAt g c_116 r117 g136 ep137 fun w_138 r139 ws140 H_141 g142 c_143 w_144 ot145 => ?_
      replace c_112 := ot145 _ _ (by first | assumption | exact Ne.symm (by assumption)) c_112
      replace c_45 := ot145 _ _ (by first | assumption | exact Ne.symm (by assumption)) c_45
      replace c_120 := ot145 _ _ (by first | assumption | exact Ne.symm (by assumption)) c_120
      replace g := g142
      cases (show w_138 = (.int p137.1) from r139)
      refine g_name (σ' := [some v2, some (.int many4), some (.ref l6), some (.ref p13), some (.int k31), some w_66, some (.ref p70), some (.ref p82), some (.int j102), some (.int p137.1)]) rfl ?_
      refine z_dropE ?_
      refine c_bm (val_var rfl) (tyL c_120.h) ?_
      refine c_cons ?_
      refine c_tupE fun Q_146 hQ_146 => ?_
      refine c_cons ?_
      refine c_val (val_var rfl) ?_
      refine c_cons ?_
      refine c_op ?_
      refine c_val (val_var rfl) ?_
      refine c_call ?_
      refine c_args (va_cons (val_var rfl) (va_cons (v_len (val_var rfl) (RdL.q g r3)) va_nil)) ?_
      have gL154 : ∀ l ∈ [l6], H l = none ∨ l ∈ [l6] := (LM1 c_112.z LM0)
      refine ⟨S_129, _, _, _, _, rfl, g.sh, c_112.h, c_112.s, wf134, (OP.of h).mono fun v147 h S_148 H_149 ws151 gc150 hp152 wf153 => ?_⟩
      replace c_45 := c_45.call gc150 (NM1 (by first | assumption | exact Ne.symm (by assumption)) NM0)
      replace c_143 := c_143.call gc150 (NM1 (by first | assumption | exact Ne.symm (by assumption)) NM0)
      replace c_120 := c_120.call gc150 (NM1 (by first | assumption | exact Ne.symm (by assumption)) NM0)
      replace r3 := RdL.mono gc150.ss r3
      replace wf134 := RL.mono gc150.ss wf134
      replace r46 := RL.mono gc150.ss r46
      replace r67 := Rep.mono _ gc150.ss r67
      replace w_144 := RL.mono gc150.ss w_144
      replace r121 := RL.mono gc150.ss r121
      replace eS56 := eS56.trans gc150.ss
      replace eS127 := eS127.trans gc150.ss
      replace c_112 := c_112.mut gc150 hp152 rfl
      replace g := g.call gc150 gL154
      obtain ⟨i155, ei155, h⟩ := OP.bind h
      refine e_ix (LS.rd g r3) ei155 fun w_156 r157 => ?_
      refine c_nil ?_
      refine c_newtup (Q := Q_146) (vs := [(.int p137.1), w_156]) g.sh (show 2 ≤ 1000 by decide) fun p158 S_159 H_160 gs161 ep162 => ?_
      refine q_eq hQ_146 ?_
      replace r3 := RdL.mono gs161.ss r3
      replace wf153 := RL.mono gs161.ss wf153
      replace r46 := RL.mono gs161.ss r46
      replace r67 := Rep.mono _ gs161.ss r67
      replace w_144 := RL.mono gs161.ss w_144
      replace r121 := RL.mono gs161.ss r121
      replace r157 := Rep.mono _ gs161.ss r157
      replace eS56 := eS56.trans gs161.ss
      replace eS127 := eS127.trans gs161.ss
      replace c_112 := c_112.call0 gs161
      replace c_45 := c_45.call0 gs161
      replace c_143 := c_143.call0 gs161
      replace c_120 := c_120.call0 gs161
      replace g := g.call0 gs161
      have r163 : ((qT2 (qI (K := K)) (qT2 (q_Formula (K := K) T.c) (qI (K := K))))).R S_159 (.ref p158) (p137.1, i155) := ⟨p158, _, _, rfl, ep162, rfl, r157⟩
      refine c_nil ?_
      obtain ⟨g164, h⟩ := OP.grd h
      obtain ⟨l165, el165, h⟩ := OP.lt h
      refine c_app g c_120 r121 r163 g164 el165 fun ws166 H_167 g168 c_169 w_170 ot171 => ?_
      replace c_112 := ot171 _ _ (by first | assumption | exact Ne.symm (by assumption)) c_112
      replace c_45 := ot171 _ _ (by first | assumption | exact Ne.symm (by assumption)) c_45
      replace c_143 := ot171 _ _ (by first | assumption | exact Ne.symm (by assumption)) c_143
      replace g := g168
      refine z_next ?_
      exact hN109 _ _ ⟨_, _, _, _, _, _, _, _, _, rfl, g, eS127, c_112, wf153, c_143, w_144, c_169, w_170, c_45, h⟩
    · intro σ' H_126 p
      obtain ⟨ws111, bag114, ws115, lamps_left118, ws119, changes122, u123, u124, S_125, rfl, gN, eS127, c_112N, r113N, c_116N, r117N, c_120N, r121N, c_45N, h⟩ := p
      replace g := gN
      have c_112 := c_112N
      have r113 := r113N
      have c_116 := c_116N
      have r117 := r117N
      have c_120 := c_120N
      have r121 := r121N
      replace c_45 := c_45N
      replace r3 := RdL.mono eS127 r3
      replace r46 := RL.mono eS127 r46
      replace r67 := Rep.mono _ eS127 r67
      replace eS56 := eS56.trans eS127
      replace h := hB106 _ (OP.forO_nil h)
      replace h := OP.un3 h
      refine z_dropE ?_
      refine c_bm (val_var rfl) (tyL c_45.h) ?_
      refine c_cons ?_
      refine c_tupE fun Q_172 hQ_172 => ?_
      refine c_args (va_cons (val_var rfl) (va_cons (val_var rfl) va_nil)) ?_
      obtain ⟨S_173, g174, eS175, r176, ot177⟩ := c_freeze g c_120 z89 r121
      replace c_112 := ot177 _ _ (by first | assumption | exact Ne.symm (by assumption)) c_112
      replace c_45 := ot177 _ _ (by first | assumption | exact Ne.symm (by assumption)) c_45
      replace c_116 := ot177 _ _ (by first | assumption | exact Ne.symm (by assumption)) c_116
      replace r3 := RdL.mono eS175 r3
      replace r113 := RL.mono eS175 r113
      replace r46 := RL.mono eS175 r46
      replace r67 := Rep.mono _ eS175 r67
      replace r117 := RL.mono eS175 r117
      replace r121 := RL.mono eS175 r121
      replace eS56 := eS56.trans eS175
      replace g := g174
      refine c_newtup (Q := Q_172) (vs := [w_66, (.ref p82)]) g.sh (show 2 ≤ 1000 by decide) fun p178 S_179 H_180 gs181 ep182 => ?_
      refine q_eq hQ_172 ?_
      replace r3 := RdL.mono gs181.ss r3
      replace r113 := RL.mono gs181.ss r113
      replace r46 := RL.mono gs181.ss r46
      replace r67 := Rep.mono _ gs181.ss r67
      replace r117 := RL.mono gs181.ss r117
      replace r176 := Rep.mono _ gs181.ss r176
      replace eS56 := eS56.trans gs181.ss
      replace c_112 := c_112.call0 gs181
      replace c_45 := c_45.call0 gs181
      replace c_116 := c_116.call0 gs181
      replace g := g.call0 gs181
      have r183 : ((qT2 (qT2 (q_Formula (K := K) T.c) (qI (K := K))) (qL (qT2 (qI (K := K)) (qT2 (q_Formula (K := K) T.c) (qI (K := K))))))).R S_179 (.ref p178) (i65, changes122) := ⟨p178, _, _, rfl, ep182, r67, r176⟩
      refine c_nil ?_
      obtain ⟨g184, h⟩ := OP.grd h
      obtain ⟨l185, el185, h⟩ := OP.lt h
      refine c_app g c_45 r46 r183 g184 el185 fun ws186 H_187 g188 c_189 w_190 ot191 => ?_
      replace c_112 := ot191 _ _ (by first | assumption | exact Ne.symm (by assumption)) c_112
      replace c_116 := ot191 _ _ (by first | assumption | exact Ne.symm (by assumption)) c_116
      replace g := g188
      refine z_next ?_
      exact hN38 _ _ ⟨_, _, _, _, _, _, _, _, _, _, _, rfl, g, eS56, c_112, r113, c_189, w_190, h⟩
  · intro σ' H_55 p
    obtain ⟨ws40, bag43, ws44, moves_here47, u48, u49, u50, u51, u52, u53, S_54, rfl, gN, eS56, c_41N, r42N, c_45N, r46N, h⟩ := p
    replace g := gN
    have c_41 := c_41N
    have r42 := r42N
    have c_45 := c_45N
    have r46 := r46N
    replace r3 := RdL.mono eS56 r3
    replace h := hB35 _ (OP.forO_nil h)
    replace h := OP.un2 h
    refine z_ret (val_var rfl) ?_
    have h := OP.fin hA h
    exact h _ _ _ _ _ g z20 c_45.h c_45.s r46 c_41.h r42

@[irreducible] def m__law_any_picked (pile_here1 : (List (O_Formula × Int))) (bag4 : (List Int)) : Option ((List (O_Formula × Int)) × (List Int)) :=
(m__law_digit bag4 9).bind fun v12 =>
grd (gR v12.1) <|
(forO (fun k50 s =>
un2 (fun acc3242 bag46 =>
(m__law_digit bag46 (pile_here1.length : Int)).bind fun v53 =>
(atI pile_here1 v53.1).bind fun i61 =>
grd (acc3242.length < 16777216) <|
lt (acc3242 ++ [i61]) fun l65 =>
some (l65, v53.2)) s) (rangeI 0 (Int.toNat v12.1)) (([] : List (O_Formula × Int)), v12.2)).bind fun st72 =>
lt st72.1 fun acc3242 =>
lt st72.2 fun bag46 =>
some (acc3242, bag46)
abbrev s__law_any_picked : Stmt := top 33
abbrev sn__law_any_picked : List Str := ["_law_pile_here", "_law_bag", "_law_k"]
theorem sc__law_any_picked : FnScope ["_law_pile_here", "_law_bag", "_law_k"] ["_law_pile_here", "_law_bag"] (defScope (s__law_any_picked)) := ⟨rfl, rfl, rfl, by decide +kernel, rfl, by decide +kernel, by decide +kernel⟩
def p__law_any_picked (K : PySem.W.Frag) (c : Cl) : Sp := fun vs H Q E => ∃ (S : Hp) (v2 : V) (pile_here1 : (List (O_Formula × Int))) (l5 : Addr) (ws6 : List V) (bag4 : (List Int)), vs = [v2, .ref l5] ∧ Same S H ∧ RdL (qT2 (q_Formula (K := K) c) (qI (K := K))) [l5] S H v2 pile_here1 ∧ H l5 = some (.lst ws6) ∧ S l5 = none ∧ RL (qI (K := K)) S ws6 bag4 ∧ OP (m__law_any_picked pile_here1 bag4) (fun r => ∀ (S' H' : Hp) (p : Addr) (ws : List V) (us0 : List V), Grow [l5] S H S' H' → H p = none → H' p = some (.lst ws) → S' p = none → RL (qT2 (q_Formula (K := K) c) (qI (K := K))) S' ws r.1 → H' l5 = some (.lst us0) → RL (qI (K := K)) S' us0 r.2 → Q (.ref p) H')
theorem ok__law_any_picked (T : Tx K mg) : FnOk P w K mg base CX0 2 T.f__law_any_picked T.d__law_any_picked ["_law_pile_here", "_law_bag"] (p__law_any_picked K T.c) := by
  refine T.F__law_any_picked.ok sc__law_any_picked (fun vs H Q E h => by obtain ⟨S, v2, pile_here1, l5, ws6, bag4, rfl, _⟩ := h; rfl) (fun cdv A outer s H vs Q E hr h => ?_)
  obtain ⟨S, v2, pile_here1, l5, ws6, bag4, rfl, gS, r3, h_7, h_8, r9, h⟩ := h
  obtain ⟨A_, hA⟩ : ∃ A_, A_ = (fun r : ((List (O_Formula × Int)) × (List Int)) => ∀ (S' H' : Hp) (p : Addr) (ws : List V) (us0 : List V), Grow [l5] S H S' H' → H p = none → H' p = some (.lst ws) → S' p = none → RL (qT2 (q_Formula (K := K) T.c) (qI (K := K))) S' ws r.1 → H' l5 = some (.lst us0) → RL (qI (K := K)) S' us0 r.2 → Q (.ref p) H') := ⟨_, rfl⟩
  replace h : OP (m__law_any_picked pile_here1 bag4) A_ := hA ▸ h
  rw [m__law_any_picked] at h
  have hr1 : Room 1 _ := hr.mono (by decide)
  refine ⟨_, (pss_cons (ps_ret (pe_lc (own := [("_law_k", 2)]) (g := gName 2) (tt := tYes) rfl sc__law_any_picked.nd (pi_range1 rfl T.n_range (pa_cons (pe_call (ok__law_digit T) hr1 rfl T.m__law_digit T.F__law_digit.kp T.b__law_digit .nil pass0 (pa_cons (pe_var (i := 1) rfl (.inr (.inl rfl)) rfl rfl) (pa_cons pe_int pa_nil))) pa_nil)) (blkOk_by (N := sn__law_any_picked) (sc := defScope s__law_any_picked) (by decide +kernel)) (fun _ _ _ _ _ => pg_name (i := 2) sc__law_any_picked.nd rfl (.inl rfl)) (fun _ _ _ _ _ => pts_nil) (fun _ _ _ _ _ => (pe_ix (show IxR _ (rIxL K) from ix_list) (pe_var (i := 0) rfl (by first | exact .inr (.inr rfl) | exact .inr (.inl rfl)) rfl rfl) (pe_call (ok__law_digit T) hr1 rfl T.m__law_digit T.F__law_digit.kp T.b__law_digit .nil pass0 (pa_cons (pe_var (i := 1) rfl (by first | exact .inr (.inr rfl) | exact .inr (.inl rfl)) rfl rfl) (pa_cons (pe_callB (show CallR _ (.builtin "len") (Z.rLenS K) from call_len_seq) rfl T.n_len bt_len (pa_cons (pe_var (i := 0) rfl (by first | exact .inr (.inr rfl) | exact .inr (.inl rfl)) rfl rfl) pa_nil)) pa_nil))) (fun _ _ => rfl)))))
      pss_nil), ?_⟩
  refine z_start (σ := [some v2, some (.ref l5), none]) rfl ?_
  have g : Grow [l5] S H S H := Grow.refl gS
  have c_10 : Cel [l5] H S H l5 (.lst ws6) := ⟨h_7, h_8, .inr (.head _), rfl⟩
  refine z_retE ?_
  refine c_lcR1E ?_
  refine c_cons ?_
  refine c_call ?_
  refine c_args (va_cons (val_var rfl) (va_cons val_c va_nil)) ?_
  have gL19 : ∀ l ∈ [l5], H l = none ∨ l ∈ [l5] := (LM1 c_10.z LM0)
  refine ⟨S, _, _, _, _, rfl, g.sh, c_10.h, c_10.s, r9, (OP.of h).mono fun v12 h S_13 H_14 ws16 gc15 hp17 wf18 => ?_⟩
  replace r3 := RdL.mono gc15.ss r3
  replace r9 := RL.mono gc15.ss r9
  replace c_10 := c_10.mut gc15 hp17 rfl
  replace g := g.call gc15 gL19
  refine c_nil ?_
  obtain ⟨g20, h⟩ := OP.grd h
  refine c_lcGR1 (n := v12.1) va_k g20 fun P_22 np23 => ?_
  obtain ⟨H_24, e25, eH26⟩ : ∃ H1, Same H_14 H1 ∧ upd H_14 P_22 (.lst []) = H1 := ⟨_, same_upd np23, rfl⟩
  have ep27 : H_24 P_22 = some (.lst []) := by rw [← eH26]; exact upd_same
  have rw28 : RL (qT2 (q_Formula (K := K) T.c) (qI (K := K))) S_13 [] ([] : List (O_Formula × Int)) := .nil
  rw [eH26]
  have ne31 := c_10.ne np23
  have z30 := g.hnone np23
  have c_29 : Cel [l5] H S_13 H_24 P_22 (.lst []) := Cel.own g e25 np23 ep27 rfl
  replace c_10 := c_10.ext e25
  replace g := g.ext e25
  obtain ⟨B33, h, hB34⟩ := OP.cut h
  obtain ⟨F35, hF36, h⟩ := OP.nameO h
  refine ⟨(fun ys38 H' => ∃ (ws39 : List V) (acc3242 : (List (O_Formula × Int))) (ws43 : List V) (bag46 : (List Int)) (S_47 : Hp), Grow [l5] S H S_47 H' ∧ Same S_13 S_47 ∧ Cel [l5] H S_47 H' P_22 (.lst ws39) ∧ RL (qT2 (q_Formula (K := K) T.c) (qI (K := K))) S_47 ws39 acc3242 ∧ Cel [l5] H S_47 H' l5 (.lst ws43) ∧ RL (qI (K := K)) S_47 ws43 bag46 ∧ OP (forO F35 ys38 (acc3242, bag46)) B33), ⟨_, _, _, _, _, g, (Same.refl _), c_29, rw28, c_10, wf18, h⟩, fun k50 ys38 H_48 p N hN37 => ?_, fun H_48 p => ?_⟩
  · obtain ⟨ws39, acc3242, ws43, bag46, S_47, gN, eS49, c_40N, r41N, c_44N, r45N, h⟩ := p
    replace g := gN
    have c_40 := c_40N
    have r41 := r41N
    have c_44 := c_44N
    have r45 := r45N
    replace r3 := RdL.mono eS49 r3
    replace h := OP.forO h
    replace h := OP.fcall2 hF36 h
    replace h := OP.un2 h
    refine g_name (σ' := [some v2, some (.ref l5), some (.int k50)]) rfl ?_
    refine ⟨rfl, ?_⟩
    refine c_yes ?_
    refine ift ?_
    refine c_op ?_
    refine c_val (val_var rfl) ?_
    refine c_call ?_
    refine c_args (va_cons (val_var rfl) (va_cons (v_len (val_var rfl) (RdL.q g r3)) va_nil)) ?_
    have gL60 : ∀ l ∈ [l5], H l = none ∨ l ∈ [l5] := (LM1 c_44.z LM0)
    refine ⟨S_47, _, _, _, _, rfl, g.sh, c_44.h, c_44.s, r45, (OP.of h).mono fun v53 h S_54 H_55 ws57 gc56 hp58 wf59 => ?_⟩
    replace c_40 := c_40.call gc56 (NM1 (by first | assumption | exact Ne.symm (by assumption)) NM0)
    replace r3 := RdL.mono gc56.ss r3
    replace r45 := RL.mono gc56.ss r45
    replace r41 := RL.mono gc56.ss r41
    replace eS49 := eS49.trans gc56.ss
    replace c_44 := c_44.mut gc56 hp58 rfl
    replace g := g.call gc56 gL60
    obtain ⟨i61, ei61, h⟩ := OP.bind h
    refine e_ix (LS.rd g r3) ei61 fun w_62 r63 => ?_
    obtain ⟨g64, h⟩ := OP.grd h
    obtain ⟨l65, el65, h⟩ := OP.lt h
    refine c_acc g c_40 r41 r63 g64 el65 fun ws66 H_67 g68 c_69 w_70 ot71 => ?_
    replace c_44 := ot71 _ _ (by first | assumption | exact Ne.symm (by assumption)) c_44
    replace g := g68
    exact hN37 _ ⟨_, _, _, _, _, g, eS49, c_69, w_70, c_44, wf59, h⟩
  obtain ⟨ws39, acc3242, ws43, bag46, S_47, gN, eS49, c_40N, r41N, c_44N, r45N, h⟩ := p
  replace g := gN
  have c_40 := c_40N
  have r41 := r41N
  have c_44 := c_44N
  have r45 := r45N
  replace r3 := RdL.mono eS49 r3
  replace h := hB34 _ (OP.forO_nil h)
  replace h := OP.pr2 h
  have h := OP.fin hA h
  exact h _ _ _ _ _ g z30 c_40.h c_40.s r41 c_44.h r45

@[irreducible] def m__law_cell_at (script1 : (List Int)) (k4 : Int) : Option Int :=
ifo (decide (k4 < (script1.length : Int))) (
(atI script1 k4).bind fun i5 =>
some i5) (
some 0)
abbrev s__law_cell_at : Stmt := top 24
abbrev sn__law_cell_at : List Str := ["_law_script", "_law_k"]
theorem sc__law_cell_at : FnScope ["_law_script", "_law_k"] ["_law_script", "_law_k"] (defScope (s__law_cell_at)) := ⟨rfl, rfl, rfl, by decide +kernel, rfl, by decide +kernel, by decide +kernel⟩
def p__law_cell_at (K : PySem.W.Frag) (c : Cl) : Sp := fun vs H Q E => ∃ (v2 : V) (script1 : (List Int)) (k4 : Int), vs = [v2, .int k4] ∧ ((qQ (qI (K := K)))).R H v2 script1 ∧ OP (m__law_cell_at script1 k4) (fun r => Q (.int r) H)
theorem ok__law_cell_at (T : Tx K mg) : FnOk P w K mg base CX0 1 T.f__law_cell_at T.d__law_cell_at ["_law_script", "_law_k"] (p__law_cell_at K T.c) := by
  refine T.F__law_cell_at.ok sc__law_cell_at (fun vs H Q E h => by obtain ⟨v2, script1, k4, rfl, _⟩ := h; rfl) (fun cdv A outer s H vs Q E hr h => ?_)
  obtain ⟨v2, script1, k4, rfl, r3, h⟩ := h
  obtain ⟨A_, hA⟩ : ∃ A_, A_ = (fun r : Int => Q (.int r) H) := ⟨_, rfl⟩
  replace h : OP (m__law_cell_at script1 k4) A_ := hA ▸ h
  rw [m__law_cell_at] at h
  refine ⟨_, (pss_cons (ps_if (pt_cmpR op_lt (pe_var (i := 1) rfl (.inl rfl) rfl rfl) (pe_callB (show CallR _ (.builtin "len") (Z.rLenS K) from call_len_seq) rfl T.n_len bt_len (pa_cons (pe_var (i := 0) rfl (.inl rfl) rfl rfl) pa_nil)) (nomark _)) (pss_cons (ps_ret (pe_ix (show IxR _ (rIxL K) from ix_list) (pe_var (i := 0) rfl (.inl rfl) rfl rfl) (pe_var (i := 1) rfl (.inl rfl) rfl rfl) (fun _ _ => rfl)))
      pss_nil) pss_nil)
      (pss_cons (ps_ret pe_int)
      pss_nil)), ?_⟩
  refine z_start (σ := [some v2, some (.int k4)]) rfl ?_
  have g : Grow [] H H H H := Grow.refl (Same.refl _)
  refine z_if (v_test (v_o2 (val_var rfl) (v_len (val_var rfl) (Rep.mono _ g.sh r3)))) (fun hc => ?_) (fun hc => ?_)
  · replace h := OP.ite1 hc h
    obtain ⟨i5, ei5, h⟩ := OP.bind h
    refine z_ret (v_ixI (val_var rfl) (val_var rfl) (Rep.mono _ g.sh r3) ei5) ?_
    have h := OP.fin hA h
    exact h
  · replace h := OP.ite0 hc h
    refine z_nextR ?_
    refine z_ret val_c ?_
    have h := OP.fin hA h
    exact h

@[irreducible] def m__law_moves (pile_here1 : (List (O_Formula × Int))) (many4 : Int) (count5 : Int) (cell6 : Int) : Option (List ((O_Formula × Int) × (List (Int × (O_Formula × Int))))) :=
grd (gR count5) <|
(forO (fun k17 moves_here29 =>
grd (0 < many4) <|
grd (gR (1 + ((cell6 + (5 * k17)) % many4))) <|
(forO (fun j49 changes61 =>
grd (0 < many4) <|
lt ((((cell6 / 6) + k17) + j49) % many4) fun lamp68 =>
grd (0 < (pile_here1.length : Int)) <|
(atI pile_here1 ((((cell6 / 36) + (3 * k17)) + (2 * j49)) % (pile_here1.length : Int))).bind fun i71 =>
grd (changes61.length < 16777216) <|
lt (changes61 ++ [(lamp68, i71)]) fun l80 =>
some l80) (rangeI 0 (Int.toNat (1 + ((cell6 + (5 * k17)) % many4)))) ([] : List (Int × (O_Formula × Int)))).bind (fun changes61 =>
grd (0 < (pile_here1.length : Int)) <|
(atI pile_here1 (((cell6 / 216) + (5 * k17)) % (pile_here1.length : Int))).bind fun i89 =>
grd (moves_here29.length < 16777216) <|
lt (moves_here29 ++ [(i89, changes61)]) fun l103 =>
some l103)) (rangeI 0 (Int.toNat count5)) ([] : List ((O_Formula × Int) × (List (Int × (O_Formula × Int)))))).bind (fun moves_here29 =>
some moves_here29)
abbrev s__law_moves : Stmt := top 30
abbrev sn__law_moves : List Str := ["_law_pile_here", "_law_many", "_law_count", "_law_cell", "_law_moves_here", "_law_k", "_law_changes", "_law_j", "_law_lamp"]
theorem sc__law_moves : FnScope ["_law_pile_here", "_law_many", "_law_count", "_law_cell", "_law_moves_here", "_law_k", "_law_changes", "_law_j", "_law_lamp"] ["_law_pile_here", "_law_many", "_law_count", "_law_cell"] (defScope (s__law_moves)) := ⟨rfl, rfl, rfl, by decide +kernel, rfl, by decide +kernel, by decide +kernel⟩
def p__law_moves (K : PySem.W.Frag) (c : Cl) : Sp := fun vs H Q E => ∃ (S : Hp) (v2 : V) (pile_here1 : (List (O_Formula × Int))) (many4 : Int) (count5 : Int) (cell6 : Int), vs = [v2, .int many4, .int count5, .int cell6] ∧ Same S H ∧ RdL (qT2 (q_Formula (K := K) c) (qI (K := K))) [] S H v2 pile_here1 ∧ OP (m__law_moves pile_here1 many4 count5 cell6) (fun r => ∀ (S' H' : Hp) (p : Addr) (ws : List V), Grow [] S H S' H' → H p = none → H' p = some (.lst ws) → S' p = none → RL (qT2 (qT2 (q_Formula (K := K) c) (qI (K := K))) (qL (qT2 (qI (K := K)) (qT2 (q_Formula (K := K) c) (qI (K := K)))))) S' ws r → Q (.ref p) H')
theorem ok__law_moves (T : Tx K mg) : FnOk P w K mg base CX0 1 T.f__law_moves T.d__law_moves ["_law_pile_here", "_law_many", "_law_count", "_law_cell"] (p__law_moves K T.c) := by
  refine T.F__law_moves.ok sc__law_moves (fun vs H Q E h => by obtain ⟨S, v2, pile_here1, many4, count5, cell6, rfl, _⟩ := h; rfl) (fun cdv A outer s H vs Q E hr h => ?_)
  obtain ⟨S, v2, pile_here1, many4, count5, cell6, rfl, gS, r3, h⟩ := h
  obtain ⟨A_, hA⟩ : ∃ A_, A_ = (fun r : (List ((O_Formula × Int) × (List (Int × (O_Formula × Int))))) => ∀ (S' H' : Hp) (p : Addr) (ws : List V), Grow [] S H S' H' → H p = none → H' p = some (.lst ws) → S' p = none → RL (qT2 (qT2 (q_Formula (K := K) T.c) (qI (K := K))) (qL (qT2 (qI (K := K)) (qT2 (q_Formula (K := K) T.c) (qI (K := K)))))) S' ws r → Q (.ref p) H') := ⟨_, rfl⟩
  replace h : OP (m__law_moves pile_here1 many4 count5 cell6) A_ := hA ▸ h
  rw [m__law_moves] at h
  refine ⟨_, (pss_cons (ps_set (i := 4) sc__law_moves.nd rfl (.inl rfl) (pe_lst pa_nil))
      (pss_cons (ps_for PassesOwn.never rfl (pi_range1 rfl T.n_range (pa_cons (pe_var (i := 2) rfl (.inl rfl) rfl rfl) pa_nil)) (pg_name (i := 5) sc__law_moves.nd rfl (.inl rfl)) (pss_cons (ps_set (i := 6) sc__law_moves.nd rfl (.inl rfl) (pe_lst pa_nil))
      (pss_cons (ps_for PassesOwn.never rfl (pi_range1 rfl T.n_range (pa_cons (pe_op op_add pe_int (pe_op op_mod (pe_op op_add (pe_var (i := 3) rfl (.inl rfl) rfl rfl) (pe_op op_mul pe_int (pe_var (i := 5) rfl (.inl rfl) rfl rfl))) (pe_var (i := 1) rfl (.inl rfl) rfl rfl))) pa_nil)) (pg_name (i := 7) sc__law_moves.nd rfl (.inl rfl)) (pss_cons (ps_set (i := 8) sc__law_moves.nd rfl (.inl rfl) (pe_op op_mod (pe_op op_add (pe_op op_add (pe_op op_fdiv (pe_var (i := 3) rfl (.inl rfl) rfl rfl) pe_int) (pe_var (i := 5) rfl (.inl rfl) rfl rfl)) (pe_var (i := 7) rfl (.inl rfl) rfl rfl)) (pe_var (i := 1) rfl (.inl rfl) rfl rfl)))
      (pss_cons (ps_expr (pe_bm PySem.F.plainAttrs_list PySem.F.slot_list_append PySem.F.type_list_append mt_append (pe_var (i := 6) rfl (.inl rfl) rfl rfl) (pa_cons (pe_tup (pa_cons (pe_var (i := 8) rfl (.inl rfl) rfl rfl) (pa_cons (pe_ix (show IxR _ (rIxL K) from ix_list) (pe_var (i := 0) rfl (.inl rfl) rfl rfl) (pe_op op_mod (pe_op op_add (pe_op op_add (pe_op op_fdiv (pe_var (i := 3) rfl (.inl rfl) rfl rfl) pe_int) (pe_op op_mul pe_int (pe_var (i := 5) rfl (.inl rfl) rfl rfl))) (pe_op op_mul pe_int (pe_var (i := 7) rfl (.inl rfl) rfl rfl))) (pe_callB (show CallR _ (.builtin "len") (Z.rLenS K) from call_len_seq) rfl T.n_len bt_len (pa_cons (pe_var (i := 0) rfl (.inl rfl) rfl rfl) pa_nil))) (fun _ _ => rfl)) pa_nil))) pa_nil)))
      pss_nil)))
      (pss_cons (ps_expr (pe_bm PySem.F.plainAttrs_list PySem.F.slot_list_append PySem.F.type_list_append mt_append (pe_var (i := 4) rfl (.inl rfl) rfl rfl) (pa_cons (pe_tup (pa_cons (pe_ix (show IxR _ (rIxL K) from ix_list) (pe_var (i := 0) rfl (.inl rfl) rfl rfl) (pe_op op_mod (pe_op op_add (pe_op op_fdiv (pe_var (i := 3) rfl (.inl rfl) rfl rfl) pe_int) (pe_op op_mul pe_int (pe_var (i := 5) rfl (.inl rfl) rfl rfl))) (pe_callB (show CallR _ (.builtin "len") (Z.rLenS K) from call_len_seq) rfl T.n_len bt_len (pa_cons (pe_var (i := 0) rfl (.inl rfl) rfl rfl) pa_nil))) (fun _ _ => rfl)) (pa_cons (pe_var (i := 6) rfl (.inl rfl) rfl rfl) pa_nil))) pa_nil)))
      pss_nil))))
      (pss_cons (ps_ret (pe_var (i := 4) rfl (.inl rfl) rfl rfl))
      pss_nil))), ?_⟩
  refine z_start (σ := [some v2, some (.int many4), some (.int count5), some (.int cell6), none, none, none, none, none]) rfl ?_
  have g : Grow [] S H S H := Grow.refl gS
  refine z_setE ?_
  refine c_lstE fun Q_7 hQ_7 => ?_
  refine c_args va_nil ?_
  refine c_newlst (Q := Q_7) (vs := []) (show 0 ≤ 1000 by decide) fun p8 H_9 e10 np11 ep12 => ?_
  refine q_eq hQ_7 ?_
  have w_13 : RL (qT2 (qT2 (q_Formula (K := K) T.c) (qI (K := K))) (qL (qT2 (qI (K := K)) (qT2 (q_Formula (K := K) T.c) (qI (K := K)))))) S [] ([] : List ((O_Formula × Int) × (List (Int × (O_Formula × Int))))) := .nil
  have z15 := g.hnone np11
  have c_14 : Cel [] H S H_9 p8 (.lst []) := Cel.own g e10 np11 ep12 rfl
  replace g := g.ext e10
  refine g_name (σ' := [some v2, some (.int many4), some (.int count5), some (.int cell6), some (.ref p8), none, none, none, none]) rfl ?_
  obtain ⟨g16, h⟩ := OP.grd h
  obtain ⟨B20, h, hB21⟩ := OP.cut h
  obtain ⟨F22, hF23, h⟩ := OP.nameO h
  refine z_for1 (j := count5) (va_cons (val_var rfl) va_nil) g16 (fun ys25 σ' H' => ∃ (ws26 : List V) (moves_here29 : (List ((O_Formula × Int) × (List (Int × (O_Formula × Int)))))) (u30 : Option V) (u31 : Option V) (u32 : Option V) (u33 : Option V) (S_34 : Hp), σ' = [some v2, some (.int many4), some (.int count5), some (.int cell6), some (.ref p8), u30, u31, u32, u33] ∧ Grow [] S H S_34 H' ∧ Same S S_34 ∧ Cel [] H S_34 H' p8 (.lst ws26) ∧ RL (qT2 (qT2 (q_Formula (K := K) T.c) (qI (K := K))) (qL (qT2 (qI (K := K)) (qT2 (q_Formula (K := K) T.c) (qI (K := K)))))) S_34 ws26 moves_here29 ∧ OP (forO F22 ys25 moves_here29) B20) ⟨_, _, _, _, _, _, _, rfl, g, (Same.refl _), c_14, w_13, h⟩ (fun k17 ys25 σ' H_35 p N hN24 => ?_) ?_
  · obtain ⟨ws26, moves_here29, u30, u31, u32, u33, S_34, rfl, gN, eS36, c_27N, r28N, h⟩ := p
    replace g := gN
    have c_27 := c_27N
    have r28 := r28N
    replace r3 := RdL.mono eS36 r3
    replace h := OP.forO h
    replace h := OP.fcall2 hF23 h
    refine g_name (σ' := [some v2, some (.int many4), some (.int count5), some (.int cell6), some (.ref p8), some (.int k17), u31, u32, u33]) rfl ?_
    refine z_setE ?_
    refine c_lstE fun Q_37 hQ_37 => ?_
    refine c_args va_nil ?_
    refine c_newlst (Q := Q_37) (vs := []) (show 0 ≤ 1000 by decide) fun p38 H_39 e40 np41 ep42 => ?_
    refine q_eq hQ_37 ?_
    have w_43 : RL (qT2 (qI (K := K)) (qT2 (q_Formula (K := K) T.c) (qI (K := K)))) S_34 [] ([] : List (Int × (O_Formula × Int))) := .nil
    have ne46 := c_27.ne np41
    have z45 := g.hnone np41
    have c_44 : Cel [] H S_34 H_39 p38 (.lst []) := Cel.own g e40 np41 ep42 rfl
    replace c_27 := c_27.ext e40
    replace g := g.ext e40
    refine g_name (σ' := [some v2, some (.int many4), some (.int count5), some (.int cell6), some (.ref p8), some (.int k17), some (.ref p38), u32, u33]) rfl ?_
    obtain ⟨g47, h⟩ := OP.grd h
    obtain ⟨g48, h⟩ := OP.grd h
    obtain ⟨B52, h, hB53⟩ := OP.cut h
    obtain ⟨F54, hF55, h⟩ := OP.nameO h
    refine z_for1 (j := (1 + ((cell6 + (5 * k17)) % many4))) (va_cons (v_o2 val_c (v_o2c (v_o2 (val_var rfl) (v_o2c val_c (val_var rfl) (.inl ⟨by decide, by decide⟩))) (val_var rfl) g47)) va_nil) g48 (fun ys57 σ' H' => ∃ (ws58 : List V) (changes61 : (List (Int × (O_Formula × Int)))) (u62 : Option V) (u63 : Option V) (S_64 : Hp), σ' = [some v2, some (.int many4), some (.int count5), some (.int cell6), some (.ref p8), some (.int k17), some (.ref p38), u62, u63] ∧ Grow [] S H S_64 H' ∧ Same S_34 S_64 ∧ Cel [] H S_64 H' p38 (.lst ws58) ∧ RL (qT2 (qI (K := K)) (qT2 (q_Formula (K := K) T.c) (qI (K := K)))) S_64 ws58 changes61 ∧ Cel [] H S_64 H' p8 (.lst ws26) ∧ OP (forO F54 ys57 changes61) B52) ⟨_, _, _, _, _, rfl, g, (Same.refl _), c_44, w_43, c_27, h⟩ (fun j49 ys57 σ' H_65 p N hN56 => ?_) ?_
    · obtain ⟨ws58, changes61, u62, u63, S_64, rfl, gN, eS66, c_59N, r60N, c_27N, h⟩ := p
      replace g := gN
      have c_59 := c_59N
      have r60 := r60N
      replace c_27 := c_27N
      replace r3 := RdL.mono eS66 r3
      replace r28 := RL.mono eS66 r28
      replace eS36 := eS36.trans eS66
      replace h := OP.forO h
      replace h := OP.fcall2 hF55 h
      refine g_name (σ' := [some v2, some (.int many4), some (.int count5), some (.int cell6), some (.ref p8), some (.int k17), some (.ref p38), some (.int j49), u63]) rfl ?_
      obtain ⟨g67, h⟩ := OP.grd h
      obtain ⟨lamp68, elamp68, h⟩ := OP.lt h
      refine z_set (w := (.int lamp68)) (σ' := [some v2, some (.int many4), some (.int count5), some (.int cell6), some (.ref p8), some (.int k17), some (.ref p38), some (.int j49), some (.int lamp68)]) (v_o2c (v_o2 (v_o2 (v_o2c (val_var rfl) val_c ⟨by decide, by decide⟩) (val_var rfl)) (val_var rfl)) (val_var rfl) g67) (congrArg V.int elamp68) rfl ?_
      refine z_dropE ?_
      refine c_bm (val_var rfl) (tyL c_59.h) ?_
      refine c_cons ?_
      refine c_tupE fun Q_69 hQ_69 => ?_
      obtain ⟨g70, h⟩ := OP.grd h
      obtain ⟨i71, ei71, h⟩ := OP.bind h
      obtain ⟨w_72, hw_72, rw_72⟩ := v_ixr g r3 ei71
      refine c_args (va_cons (val_var rfl) (va_cons (hw_72 (val_var rfl) (v_o2c (v_o2 (v_o2 (v_o2c (val_var rfl) val_c ⟨by decide, by decide⟩) (v_o2c val_c (val_var rfl) (.inl ⟨by decide, by decide⟩))) (v_o2c val_c (val_var rfl) (.inl ⟨by decide, by decide⟩))) (v_len (val_var rfl) (RdL.q g r3)) g70)) va_nil)) ?_
      refine c_newtup (Q := Q_69) (vs := [(.int lamp68), w_72]) g.sh (show 2 ≤ 1000 by decide) fun p73 S_74 H_75 gs76 ep77 => ?_
      refine q_eq hQ_69 ?_
      replace r3 := RdL.mono gs76.ss r3
      replace r28 := RL.mono gs76.ss r28
      replace r60 := RL.mono gs76.ss r60
      replace rw_72 := Rep.mono _ gs76.ss rw_72
      replace eS36 := eS36.trans gs76.ss
      replace eS66 := eS66.trans gs76.ss
      replace c_27 := c_27.call0 gs76
      replace c_59 := c_59.call0 gs76
      replace g := g.call0 gs76
      have r78 : ((qT2 (qI (K := K)) (qT2 (q_Formula (K := K) T.c) (qI (K := K))))).R S_74 (.ref p73) (lamp68, i71) := ⟨p73, _, _, rfl, ep77, rfl, rw_72⟩
      refine c_nil ?_
      obtain ⟨g79, h⟩ := OP.grd h
      obtain ⟨l80, el80, h⟩ := OP.lt h
      refine c_app g c_59 r60 r78 g79 el80 fun ws81 H_82 g83 c_84 w_85 ot86 => ?_
      replace c_27 := ot86 _ _ (by first | assumption | exact Ne.symm (by assumption)) c_27
      replace g := g83
      refine z_next ?_
      exact hN56 _ _ ⟨_, _, _, _, _, rfl, g, eS66, c_84, w_85, c_27, h⟩
    · intro σ' H_65 p
      obtain ⟨ws58, changes61, u62, u63, S_64, rfl, gN, eS66, c_59N, r60N, c_27N, h⟩ := p
      replace g := gN
      have c_59 := c_59N
      have r60 := r60N
      replace c_27 := c_27N
      replace r3 := RdL.mono eS66 r3
      replace r28 := RL.mono eS66 r28
      replace eS36 := eS36.trans eS66
      replace h := hB53 _ (OP.forO_nil h)
      refine z_dropE ?_
      refine c_bm (val_var rfl) (tyL c_27.h) ?_
      refine c_cons ?_
      refine c_tupE fun Q_87 hQ_87 => ?_
      obtain ⟨g88, h⟩ := OP.grd h
      obtain ⟨i89, ei89, h⟩ := OP.bind h
      obtain ⟨w_90, hw_90, rw_90⟩ := v_ixr g r3 ei89
      refine c_args (va_cons (hw_90 (val_var rfl) (v_o2c (v_o2 (v_o2c (val_var rfl) val_c ⟨by decide, by decide⟩) (v_o2c val_c (val_var rfl) (.inl ⟨by decide, by decide⟩))) (v_len (val_var rfl) (RdL.q g r3)) g88)) (va_cons (val_var rfl) va_nil)) ?_
      obtain ⟨S_91, g92, eS93, r94, ot95⟩ := c_freeze g c_59 z45 r60
      replace c_27 := ot95 _ _ (by first | assumption | exact Ne.symm (by assumption)) c_27
      replace r3 := RdL.mono eS93 r3
      replace r28 := RL.mono eS93 r28
      replace r60 := RL.mono eS93 r60
      replace rw_90 := Rep.mono _ eS93 rw_90
      replace eS36 := eS36.trans eS93
      replace g := g92
      refine c_newtup (Q := Q_87) (vs := [w_90, (.ref p38)]) g.sh (show 2 ≤ 1000 by decide) fun p96 S_97 H_98 gs99 ep100 => ?_
      refine q_eq hQ_87 ?_
      replace r3 := RdL.mono gs99.ss r3
      replace r28 := RL.mono gs99.ss r28
      replace r94 := Rep.mono _ gs99.ss r94
      replace rw_90 := Rep.mono _ gs99.ss rw_90
      replace eS36 := eS36.trans gs99.ss
      replace c_27 := c_27.call0 gs99
      replace g := g.call0 gs99
      have r101 : ((qT2 (qT2 (q_Formula (K := K) T.c) (qI (K := K))) (qL (qT2 (qI (K := K)) (qT2 (q_Formula (K := K) T.c) (qI (K := K))))))).R S_97 (.ref p96) (i89, changes61) := ⟨p96, _, _, rfl, ep100, rw_90, r94⟩
      refine c_nil ?_
      obtain ⟨g102, h⟩ := OP.grd h
      obtain ⟨l103, el103, h⟩ := OP.lt h
      refine c_app g c_27 r28 r101 g102 el103 fun ws104 H_105 g106 c_107 w_108 ot109 => ?_
      replace g := g106
      refine z_next ?_
      exact hN24 _ _ ⟨_, _, _, _, _, _, _, rfl, g, eS36, c_107, w_108, h⟩
  · intro σ' H_35 p
    obtain ⟨ws26, moves_here29, u30, u31, u32, u33, S_34, rfl, gN, eS36, c_27N, r28N, h⟩ := p
    replace g := gN
    have c_27 := c_27N
    have r28 := r28N
    replace r3 := RdL.mono eS36 r3
    replace h := hB21 _ (OP.forO_nil h)
    refine z_ret (val_var rfl) ?_
    have h := OP.fin hA h
    exact h _ _ _ _ g z15 c_27.h c_27.s r28

@[irreducible] def m__law_picked (pile_here1 : (List (O_Formula × Int))) (count4 : Int) (cell5 : Int) (step6 : Int) : Option (List (O_Formula × Int)) :=
grd (gR count4) <|
(compO (fun zx7 =>
grd (gMul step6 zx7) <|
grd (0 < (pile_here1.length : Int)) <|
(atI pile_here1 ((cell5 + (step6 * zx7)) % (pile_here1.length : Int))).bind fun i13 =>
some (some i13)) (rangeI 0 (Int.toNat count4))).bind fun ys15 =>
some ys15
abbrev s__law_picked : Stmt := top 29
abbrev sn__law_picked : List Str := ["_law_pile_here", "_law_count", "_law_cell", "_law_step", "_law_k"]
theorem sc__law_picked : FnScope ["_law_pile_here", "_law_count", "_law_cell", "_law_step", "_law_k"] ["_law_pile_here", "_law_count", "_law_cell", "_law_step"] (defScope (s__law_picked)) := ⟨rfl, rfl, rfl, by decide +kernel, rfl, by decide +kernel, by decide +kernel⟩
def p__law_picked (K : PySem.W.Frag) (c : Cl) : Sp := fun vs H Q E => ∃ (S : Hp) (v2 : V) (pile_here1 : (List (O_Formula × Int))) (count4 : Int) (cell5 : Int) (step6 : Int), vs = [v2, .int count4, .int cell5, .int step6] ∧ Same S H ∧ RdL (qT2 (q_Formula (K := K) c) (qI (K := K))) [] S H v2 pile_here1 ∧ OP (m__law_picked pile_here1 count4 cell5 step6) (fun r => ∀ (S' H' : Hp) (p : Addr) (ws : List V), Grow [] S H S' H' → H p = none → H' p = some (.lst ws) → S' p = none → RL (qT2 (q_Formula (K := K) c) (qI (K := K))) S' ws r → Q (.ref p) H')
theorem ok__law_picked (T : Tx K mg) : FnOk P w K mg base CX0 1 T.f__law_picked T.d__law_picked ["_law_pile_here", "_law_count", "_law_cell", "_law_step"] (p__law_picked K T.c) := by
  refine T.F__law_picked.ok sc__law_picked (fun vs H Q E h => by obtain ⟨S, v2, pile_here1, count4, cell5, step6, rfl, _⟩ := h; rfl) (fun cdv A outer s H vs Q E hr h => ?_)
  obtain ⟨S, v2, pile_here1, count4, cell5, step6, rfl, gS, r3, h⟩ := h
  obtain ⟨A_, hA⟩ : ∃ A_, A_ = (fun r : (List (O_Formula × Int)) => ∀ (S' H' : Hp) (p : Addr) (ws : List V), Grow [] S H S' H' → H p = none → H' p = some (.lst ws) → S' p = none → RL (qT2 (q_Formula (K := K) T.c) (qI (K := K))) S' ws r → Q (.ref p) H') := ⟨_, rfl⟩
  replace h : OP (m__law_picked pile_here1 count4 cell5 step6) A_ := hA ▸ h
  rw [m__law_picked] at h
  refine ⟨_, (pss_cons (ps_ret (pe_lc (own := [("_law_k", 4)]) (g := gName 4) (tt := tYes) rfl sc__law_picked.nd (pi_range1 rfl T.n_range (pa_cons (pe_var (i := 1) rfl (.inl rfl) rfl rfl) pa_nil)) (blkOk_by (N := sn__law_picked) (sc := defScope s__law_picked) (by decide +kernel)) (fun _ _ _ _ _ => pg_name (i := 4) sc__law_picked.nd rfl (.inl rfl)) (fun _ _ _ _ _ => pts_nil) (fun _ _ _ _ _ => (pe_ix (show IxR _ (rIxL K) from ix_list) (pe_var (i := 0) rfl (by first | exact .inr (.inr rfl) | exact .inr (.inl rfl)) rfl rfl) (pe_op op_mod (pe_op op_add (pe_var (i := 2) rfl (by first | exact .inr (.inr rfl) | exact .inr (.inl rfl)) rfl rfl) (pe_op op_mul (pe_var (i := 3) rfl (by first | exact .inr (.inr rfl) | exact .inr (.inl rfl)) rfl rfl) (pe_var (i := 4) rfl (.inl rfl) rfl rfl))) (pe_callB (show CallR _ (.builtin "len") (Z.rLenS K) from call_len_seq) rfl T.n_len bt_len (pa_cons (pe_var (i := 0) rfl (by first | exact .inr (.inr rfl) | exact .inr (.inl rfl)) rfl rfl) pa_nil))) (fun _ _ => rfl)))))
      pss_nil), ?_⟩
  refine z_start (σ := [some v2, some (.int count4), some (.int cell5), some (.int step6), none]) rfl ?_
  have g : Grow [] S H S H := Grow.refl gS
  refine z_retE ?_
  obtain ⟨g8, h⟩ := OP.grd h
  obtain ⟨ys15, eys15, h⟩ := OP.bind h
  refine c_lcR1 (n := count4) (va_cons (val_var rfl) va_nil) g8 eys15 (τ := (qT2 (q_Formula (K := K) T.c) (qI (K := K)))) (S := S) (fun zx7 H_9 e10 r_ hm => ?_) ?_
  · have g := g.ext e10
    obtain ⟨g11, hm⟩ := grd_some hm
    obtain ⟨g12, hm⟩ := grd_some hm
    obtain ⟨i13, ei13, hm⟩ := bind_some hm
    obtain ⟨w_14, hw_14, rw_14⟩ := v_ixr g r3 ei13
    exact ⟨true, a_yes rfl, fun _ => ⟨_, _, (Option.some.inj hm).symm, (hw_14 (val_var rfl) (v_o2c (v_o2 (val_var rfl) (v_o2c (val_var rfl) (val_var rfl) g11)) (v_len (val_var rfl) (RdL.q g r3)) g12)), rw_14⟩, fun z => nomatch z⟩
  intro p16 ws17 H_18 e19 np20 ep21 rw22
  have z24 := g.hnone np20
  have c_23 : Cel [] H S H_18 p16 (.lst ws17) := Cel.own g e19 np20 ep21 rfl
  replace g := g.ext e19
  have h := OP.fin hA h
  exact h _ _ _ _ g z24 c_23.h c_23.s rw22

@[irreducible] def m_Not___init__ (part10 : O_Formula) : Option O_Formula :=
some part10
abbrev s_Not___init__ : Stmt := inClass (top 18) 0
abbrev sn_Not___init__ : List Str := ["self", "part"]
theorem sc_Not___init__ : FnScope ["self", "part"] ["self", "part"] (defScope (s_Not___init__)) := ⟨rfl, rfl, rfl, by decide +kernel, rfl, by decide +kernel, by decide +kernel⟩
def p_Not___init__ (K : PySem.W.Frag) (c : Cl) : Sp := fun vs H Q E => ∃ (S : Hp) (l2 : Addr) (dx3 : Addr) (C7 : Addr) (v11 : V) (part10 : O_Formula), vs = [.ref l2, v11] ∧ Same S H ∧ H l2 = some (.ins C7 dx3 []) ∧ S l2 = none ∧ Cls K C7 ∧ NoAttr K C7 "part" ∧ ((q_Formula (K := K) c)).R S v11 part10 ∧ OP (m_Not___init__ part10) (fun r => ∀ (S' H' : Hp) (w0 : V), Grow [l2] S H S' H' → H' l2 = some (.ins C7 dx3 [("part", w0)]) → ((q_Formula (K := K) c)).R S' w0 r → Q .non H')
theorem ok_Not___init__ (T : Tx K mg) : FnOk P w K mg base CX0 1 T.f_Not___init__ T.d_Not___init__ ["self", "part"] (p_Not___init__ K T.c) := by
  refine T.F_Not___init__.ok sc_Not___init__ (fun vs H Q E h => by obtain ⟨S, l2, dx3, C7, v11, part10, rfl, _⟩ := h; rfl) (fun cdv A outer s H vs Q E hr h => ?_)
  obtain ⟨S, l2, dx3, C7, v11, part10, rfl, gS, h_4, h_5, lC8, nA9, r12, h⟩ := h
  obtain ⟨A_, hA⟩ : ∃ A_, A_ = (fun r : O_Formula => ∀ (S' H' : Hp) (w0 : V), Grow [l2] S H S' H' → H' l2 = some (.ins C7 dx3 [("part", w0)]) → ((q_Formula (K := K) T.c)).R S' w0 r → Q .non H') := ⟨_, rfl⟩
  replace h : OP (m_Not___init__ part10) A_ := hA ▸ h
  rw [m_Not___init__] at h
  refine ⟨_, (pss_cons (ps_fld (pe_var (i := 0) rfl (.inl rfl) rfl rfl) (pe_var (i := 1) rfl (.inl rfl) rfl rfl) rfl)
      pss_nil), ?_⟩
  refine z_start (σ := [some (.ref l2), some v11]) rfl ?_
  have g : Grow [l2] S H S H := Grow.refl gS
  have c_6 : Cel [l2] H S H l2 (.ins C7 dx3 []) := ⟨h_4, h_5, .inr (.head _), rfl⟩
  refine z_fldE ?_
  refine c_val (val_var rfl) ?_
  refine c_setF (fs' := [("part", v11)]) g c_6 (val_var rfl) lC8 nA9 (show 0 < 1000 by decide) rfl fun H_13 g14 c_15 ot16 => ?_
  replace g := g14
  refine z_next ?_
  have h := OP.fin hA h
  exact h _ _ _ g c_15.h r12

@[irreducible] def m_Joined___init__ (parts10 : (List O_Formula)) : Option (List O_Formula) :=
some parts10
abbrev s_Joined___init__ : Stmt := inClass (top 19) 0
abbrev sn_Joined___init__ : List Str := ["self", "parts"]
theorem sc_Joined___init__ : FnScope ["self", "parts"] ["self", "parts"] (defScope (s_Joined___init__)) := ⟨rfl, rfl, rfl, by decide +kernel, rfl, by decide +kernel, by decide +kernel⟩
def p_Joined___init__ (K : PySem.W.Frag) (c : Cl) : Sp := fun vs H Q E => ∃ (S : Hp) (l2 : Addr) (dx3 : Addr) (C7 : Addr) (v11 : V) (parts10 : (List O_Formula)), vs = [.ref l2, v11] ∧ Same S H ∧ H l2 = some (.ins C7 dx3 []) ∧ S l2 = none ∧ Cls K C7 ∧ NoAttr K C7 "parts" ∧ RdL (q_Formula (K := K) c) [l2] S H v11 parts10 ∧ OP (m_Joined___init__ parts10) (fun r => ∀ (S' H' : Hp) (w0 : V), Grow [l2] S H S' H' → H' l2 = some (.ins C7 dx3 [("parts", w0)]) → ((qL (q_Formula (K := K) c))).R S' w0 r → Q .non H')
theorem ok_Joined___init__ (T : Tx K mg) : FnOk P w K mg base CX0 1 T.f_Joined___init__ T.d_Joined___init__ ["self", "parts"] (p_Joined___init__ K T.c) := by
  refine T.F_Joined___init__.ok sc_Joined___init__ (fun vs H Q E h => by obtain ⟨S, l2, dx3, C7, v11, parts10, rfl, _⟩ := h; rfl) (fun cdv A outer s H vs Q E hr h => ?_)
  obtain ⟨S, l2, dx3, C7, v11, parts10, rfl, gS, h_4, h_5, lC8, nA9, r12, h⟩ := h
  obtain ⟨A_, hA⟩ : ∃ A_, A_ = (fun r : (List O_Formula) => ∀ (S' H' : Hp) (w0 : V), Grow [l2] S H S' H' → H' l2 = some (.ins C7 dx3 [("parts", w0)]) → ((qL (q_Formula (K := K) T.c))).R S' w0 r → Q .non H') := ⟨_, rfl⟩
  replace h : OP (m_Joined___init__ parts10) A_ := hA ▸ h
  rw [m_Joined___init__] at h
  refine ⟨_, (pss_cons (ps_fld (pe_var (i := 0) rfl (.inl rfl) rfl rfl) (pe_callTy call_list_of rfl T.n_list bt_list (pa_cons (pe_var (i := 1) rfl (.inl rfl) rfl rfl) pa_nil)) rfl)
      pss_nil), ?_⟩
  refine z_start (σ := [some (.ref l2), some v11]) rfl ?_
  have g : Grow [l2] S H S H := Grow.refl gS
  have c_6 : Cel [l2] H S H l2 (.ins C7 dx3 []) := ⟨h_4, h_5, .inr (.head _), rfl⟩
  refine z_fldE ?_
  refine c_cbE fun Q_13 hQ_13 => ?_
  refine c_args (va_cons (val_var rfl) va_nil) ?_
  refine (l_list (Q := Q_13) (LS.rd g r12) fun p14 ws15 H_16 e17 np18 ep19 rw20 => ?_)
  refine q_eq hQ_13 ?_
  have ne23 := c_6.ne np18
  have z22 := g.hnone np18
  have c_21 : Cel [l2] H S H_16 p14 (.lst ws15) := Cel.own g e17 np18 ep19 rfl
  replace c_6 := c_6.ext e17
  replace g := g.ext e17
  obtain ⟨S_24, g25, eS26, r27, ot28⟩ := c_freeze g c_21 z22 rw20
  replace c_6 := ot28 _ _ (by first | assumption | exact Ne.symm (by assumption)) c_6
  replace r12 := RdL.mono eS26 r12
  replace rw20 := RL.mono eS26 rw20
  replace g := g25
  refine c_setF (fs' := [("parts", (.ref p14))]) g c_6 (val_var rfl) lC8 nA9 (show 0 < 1000 by decide) rfl fun H_29 g30 c_31 ot32 => ?_
  replace g := g30
  refine z_next ?_
  have h := OP.fin hA h
  exact h _ _ _ g c_31.h r27

@[irreducible] def m__law_joined (kind1 : Int) (pairs2 : (List (O_Formula × Int))) : Option (O_Formula × Int) :=
(compO (fun zx5 =>
some (some zx5.1)) (pairs2)).bind fun ys11 =>
(atI pairs2 0).bind fun i26 =>
lt i26.2 fun due28 =>
(forO (fun pair38 due47 =>
ifo (decide (kind1 = 8)) (
lt (band due47 pair38.2) fun due52 =>
some due52) (
ifo (decide (kind1 = 9)) (
lt (bxor due47 pair38.2) fun due53 =>
some due53) (
lt (bor due47 pair38.2) fun due54 =>
some due54))) ((cutI pairs2 (some 1) none)) due28).bind (fun due47 =>
ifo (decide (kind1 = 8)) (
(m_Joined___init__ ys11).bind fun v66 =>
some ((O_Formula.And v66), due47)) (
ifo (decide (kind1 = 9)) (
(m_Joined___init__ ys11).bind fun v95 =>
some ((O_Formula.Either v95), due47)) (
(m_Joined___init__ ys11).bind fun v124 =>
some ((O_Formula.Or v124), due47))))
abbrev s__law_joined : Stmt := top 27
abbrev sn__law_joined : List Str := ["_law_kind", "_law_pairs", "_law_parts", "_law_due", "_law_pair"]
theorem sc__law_joined : FnScope ["_law_kind", "_law_pairs", "_law_parts", "_law_due", "_law_pair"] ["_law_kind", "_law_pairs"] (defScope (s__law_joined)) := ⟨rfl, rfl, rfl, by decide +kernel, rfl, by decide +kernel, by decide +kernel⟩
def p__law_joined (K : PySem.W.Frag) (c : Cl) : Sp := fun vs H Q E => ∃ (S : Hp) (kind1 : Int) (v3 : V) (pairs2 : (List (O_Formula × Int))), vs = [.int kind1, v3] ∧ Same S H ∧ RdL (qT2 (q_Formula (K := K) c) (qI (K := K))) [] S H v3 pairs2 ∧ OP (m__law_joined kind1 pairs2) (fun r => ∀ (S' H' : Hp) (v : V), Grow [] S H S' H' → ((qT2 (q_Formula (K := K) c) (qI (K := K)))).R S' v r → Q v H')
theorem ok__law_joined (T : Tx K mg) : FnOk P w K mg base CX0 3 T.f__law_joined T.d__law_joined ["_law_kind", "_law_pairs"] (p__law_joined K T.c) := by
  refine T.F__law_joined.ok sc__law_joined (fun vs H Q E h => by obtain ⟨S, kind1, v3, pairs2, rfl, _⟩ := h; rfl) (fun cdv A outer s H vs Q E hr h => ?_)
  obtain ⟨S, kind1, v3, pairs2, rfl, gS, r4, h⟩ := h
  obtain ⟨A_, hA⟩ : ∃ A_, A_ = (fun r : (O_Formula × Int) => ∀ (S' H' : Hp) (v : V), Grow [] S H S' H' → ((qT2 (q_Formula (K := K) T.c) (qI (K := K)))).R S' v r → Q v H') := ⟨_, rfl⟩
  replace h : OP (m__law_joined kind1 pairs2) A_ := hA ▸ h
  rw [m__law_joined] at h
  have hr2 : Room 2 _ := hr.mono (by decide)
  refine ⟨_, (pss_cons (ps_setLc (i := 2) (y := "_law_parts") (own := [("_law_pair", 4)]) (g := gName 4) (tt := tYes) rfl sc__law_joined.nd rfl rfl (sw_true rfl rfl rfl (by decide +kernel)) (pi_list (pe_var (i := 1) rfl (.inl rfl) rfl rfl)) (blkOk_by (N := sn__law_joined) (sc := defScope s__law_joined) (by decide +kernel)) (fun _ _ _ _ _ => pg_name (i := 4) sc__law_joined.nd rfl (.inl rfl)) (fun _ _ _ _ _ => pts_nil) (fun _ _ _ _ _ => (pe_ix (show IxR _ (rIxT K) from ix_tup) (pe_var (i := 4) rfl (.inl rfl) rfl rfl) pe_int (fun _ _ => rfl))))
      (pss_cons (ps_set (i := 3) sc__law_joined.nd rfl (.inl rfl) (pe_ix (show IxR _ (rIxT K) from ix_tup) (pe_ix (show IxR _ (rIxL K) from ix_list) (pe_var (i := 1) rfl (.inl rfl) rfl rfl) pe_int (fun _ _ => rfl)) pe_int (fun _ _ => rfl)))
      (pss_cons (ps_for PassesOwn.never rfl (pi_list (pe_slice sl_list (pe_var (i := 1) rfl (.inl rfl) rfl rfl) (po_some pe_int) po_none)) (pg_name (i := 4) sc__law_joined.nd rfl (.inl rfl)) (pss_cons (ps_if (pt_cmpR op_eq (pe_var (i := 0) rfl (.inl rfl) rfl rfl) pe_int (nomark _)) (pss_cons (ps_set (i := 3) sc__law_joined.nd rfl (.inl rfl) (pe_op op_and (pe_var (i := 3) rfl (.inl rfl) rfl rfl) (pe_ix (show IxR _ (rIxT K) from ix_tup) (pe_var (i := 4) rfl (.inl rfl) rfl rfl) pe_int (fun _ _ => rfl))))
      pss_nil) (pss_cons (ps_if (pt_cmpR op_eq (pe_var (i := 0) rfl (.inl rfl) rfl rfl) pe_int (nomark _)) (pss_cons (ps_set (i := 3) sc__law_joined.nd rfl (.inl rfl) (pe_op op_xor (pe_var (i := 3) rfl (.inl rfl) rfl rfl) (pe_ix (show IxR _ (rIxT K) from ix_tup) (pe_var (i := 4) rfl (.inl rfl) rfl rfl) pe_int (fun _ _ => rfl))))
      pss_nil) (pss_cons (ps_set (i := 3) sc__law_joined.nd rfl (.inl rfl) (pe_op op_or (pe_var (i := 3) rfl (.inl rfl) rfl rfl) (pe_ix (show IxR _ (rIxT K) from ix_tup) (pe_var (i := 4) rfl (.inl rfl) rfl rfl) pe_int (fun _ _ => rfl))))
      pss_nil))
      pss_nil))
      pss_nil))
      (pss_cons (ps_if (pt_cmpR op_eq (pe_var (i := 0) rfl (.inl rfl) rfl rfl) pe_int (nomark _)) (pss_cons (ps_ret (pe_tup (pa_cons (pe_make T.k_And (ok_Joined___init__ T) hr2 rfl T.m_And T.b_Joined___init__ .nil pass0 (pa_cons (pe_var (i := 2) rfl (.inl rfl) rfl rfl) pa_nil)) (pa_cons (pe_var (i := 3) rfl (.inl rfl) rfl rfl) pa_nil))))
      pss_nil) pss_nil)
      (pss_cons (ps_if (pt_cmpR op_eq (pe_var (i := 0) rfl (.inl rfl) rfl rfl) pe_int (nomark _)) (pss_cons (ps_ret (pe_tup (pa_cons (pe_make T.k_Either (ok_Joined___init__ T) hr2 rfl T.m_Either T.b_Joined___init__ .nil pass0 (pa_cons (pe_var (i := 2) rfl (.inl rfl) rfl rfl) pa_nil)) (pa_cons (pe_var (i := 3) rfl (.inl rfl) rfl rfl) pa_nil))))
      pss_nil) pss_nil)
      (pss_cons (ps_ret (pe_tup (pa_cons (pe_make T.k_Or (ok_Joined___init__ T) hr2 rfl T.m_Or T.b_Joined___init__ .nil pass0 (pa_cons (pe_var (i := 2) rfl (.inl rfl) rfl rfl) pa_nil)) (pa_cons (pe_var (i := 3) rfl (.inl rfl) rfl rfl) pa_nil))))
      pss_nil)))))), ?_⟩
  refine z_start (σ := [some (.int kind1), some v3, none, none, none]) rfl ?_
  have g : Grow [] S H S H := Grow.refl gS
  refine z_setE ?_
  obtain ⟨q6a, q6w, q6e, q6h, q6p⟩ := (LS.rd g r4)
  obtain ⟨ys11, eys11, h⟩ := OP.bind h
  refine c_lcL (v_eq (val_var rfl) q6e) q6h q6p eys11 (τ := (q_Formula (K := K) T.c)) (S := S) (fun w zx5 H_7 rw_ e8 r_ hm => ?_) ?_
  · have g := g.ext e8
    have rx9 := rw_
    obtain ⟨w_10, hw_10, rw_10⟩ := v_p20 g.sh rx9
    exact ⟨true, a_yes rfl, fun _ => ⟨_, _, (Option.some.inj hm).symm, (hw_10 (val_var rfl) val_c), rw_10⟩, fun z => nomatch z⟩
  intro p12 ws13 H_14 e15 np16 ep17 rw18
  have z20 := g.hnone np16
  have c_19 : Cel [] H S H_14 p12 (.lst ws13) := Cel.own g e15 np16 ep17 rfl
  replace g := g.ext e15
  obtain ⟨S_21, g22, eS23, r24, ot25⟩ := c_freeze g c_19 z20 rw18
  replace r4 := RdL.mono eS23 r4
  replace g := g22
  refine g_name (σ' := [some (.int kind1), some v3, some (.ref p12), none, none]) rfl ?_
  obtain ⟨i26, ei26, h⟩ := OP.bind h
  obtain ⟨w_27, hw_27, rw_27⟩ := v_ixr g r4 ei26
  obtain ⟨due28, edue28, h⟩ := OP.lt h
  refine z_set (w := (.int due28)) (σ' := [some (.int kind1), some v3, some (.ref p12), some (.int due28), none]) (v_t21 (hw_27 (val_var rfl) val_c) val_c (Rep.mono _ g.sh rw_27)) (congrArg V.int edue28) rfl ?_
  refine z_forLE ?_
  refine c_slice (val_var rfl) (po1 val_c) po0 ?_
  refine (l_slice (LS.rd g r4) fun p29 ws30 H_31 e32 np33 ep34 rw35 => ?_)
  have z37 := g.hnone np33
  have c_36 : Cel [] H S_21 H_31 p29 (.lst ws30) := Cel.own g e32 np33 ep34 rfl
  replace g := g.ext e32
  obtain ⟨B41, h, hB42⟩ := OP.cut h
  obtain ⟨F43, hF44, h⟩ := OP.nameO h
  have q50e : ((.ref p29) : V) = (.ref p29) := rfl
  have q50p := rw35
  have q50h := SqL.of (K := K) c_36.h
  refine z_forL (v_eq val_c q50e) q50p (fun ys46 σ' H' => ∃ (due47 : Int) (u48 : Option V), σ' = [some (.int kind1), some v3, some (.ref p12), some (.int due47), u48] ∧ H_31 = H' ∧ OP (forO F43 ys46 due47) B41) ⟨_, _, rfl, rfl, h⟩ (fun ys σ' H' p => by obtain ⟨due47, u48, rfl, rfl, h⟩ := p; exact q50h) (fun w_39 pair38 ys46 σ' H_49 rw40 p N hN45 => ?_) ?_
  · obtain ⟨due47, u48, rfl, rfl, h⟩ := p
    replace h := OP.forO h
    replace h := OP.fcall2 hF44 h
    have rx51 := rw40
    refine g_name (σ' := [some (.int kind1), some v3, some (.ref p12), some (.int due47), some w_39]) rfl ?_
    refine z_if (v_test (v_eqI (val_var rfl) val_c)) (fun hc => ?_) (fun hc => ?_)
    · replace h := OP.ite1 hc h
      obtain ⟨due52, edue52, h⟩ := OP.lt h
      refine z_set (w := (.int due52)) (σ' := [some (.int kind1), some v3, some (.ref p12), some (.int due52), some w_39]) (v_o2 (val_var rfl) (v_t21 (val_var rfl) val_c (Rep.mono _ g.sh rx51))) (congrArg V.int edue52) rfl ?_
      refine z_nextR ?_
      refine z_next ?_
      exact hN45 _ _ ⟨_, _, rfl, rfl, h⟩
    · replace h := OP.ite0 hc h
      refine z_if (v_test (v_eqI (val_var rfl) val_c)) (fun hc => ?_) (fun hc => ?_)
      · replace h := OP.ite1 hc h
        obtain ⟨due53, edue53, h⟩ := OP.lt h
        refine z_set (w := (.int due53)) (σ' := [some (.int kind1), some v3, some (.ref p12), some (.int due53), some w_39]) (v_o2 (val_var rfl) (v_t21 (val_var rfl) val_c (Rep.mono _ g.sh rx51))) (congrArg V.int edue53) rfl ?_
        refine z_nextR ?_
        refine z_nextR ?_
        refine z_next ?_
        exact hN45 _ _ ⟨_, _, rfl, rfl, h⟩
      · replace h := OP.ite0 hc h
        obtain ⟨due54, edue54, h⟩ := OP.lt h
        refine z_set (w := (.int due54)) (σ' := [some (.int kind1), some v3, some (.ref p12), some (.int due54), some w_39]) (v_o2 (val_var rfl) (v_t21 (val_var rfl) val_c (Rep.mono _ g.sh rx51))) (congrArg V.int edue54) rfl ?_
        refine z_nextR ?_
        refine z_nextR ?_
        refine z_next ?_
        exact hN45 _ _ ⟨_, _, rfl, rfl, h⟩
  · intro σ' H_55 p
    obtain ⟨due47, u48, rfl, rfl, h⟩ := p
    replace h := hB42 _ (OP.forO_nil h)
    refine z_if (v_test (v_eqI (val_var rfl) val_c)) (fun hc => ?_) (fun hc => ?_)
    · replace h := OP.ite1 hc h
      refine z_retE ?_
      refine c_tupE fun Q_56 hQ_56 => ?_
      refine c_cons ?_
      refine c_make ?_
      refine c_args (va_cons (val_var rfl) va_nil) ?_
      refine make_in fun p57 dx58 H_59 e60 np61 ep62 => ?_
      have z65 := g.hnone np61
      have c_64 : Cel [] H S_21 H_59 p57 (.ins T.c.And dx58 []) := Cel.own g e60 np61 ep62 rfl
      replace g := g.ext e60
      have gL73 : ∀ l ∈ [p57], H l = none ∨ l ∈ [] := (LM1 c_64.z LM0)
      refine ⟨S_21, _, _, _, _, _, rfl, g.sh, c_64.h, c_64.s, T.l_And, T.a_And_parts, (RdL.ofL g.sh r24 (LM1 c_64.s LM0)), (OP.of h).mono fun v66 h S_67 H_68 w_70 gc69 hp72 r71 => ?_⟩
      replace r4 := RdL.mono gc69.ss r4
      replace r24 := Rep.mono _ gc69.ss r24
      replace c_64 := c_64.mut gc69 hp72 rfl
      replace g := g.call gc69 gL73
      refine ⟨rfl, ?_⟩
      obtain ⟨S_74, g75, eS76, r77, ot78⟩ := fz_Formula_And (c := T.c) g c_64 z65 r71
      replace r4 := RdL.mono eS76 r4
      replace r24 := Rep.mono _ eS76 r24
      replace r71 := Rep.mono _ eS76 r71
      replace g := g75
      refine c_cons ?_
      refine c_val (val_var rfl) ?_
      refine c_nil ?_
      refine c_newtup (Q := Q_56) (vs := [(.ref p57), (.int due47)]) g.sh (show 2 ≤ 1000 by decide) fun p79 S_80 H_81 gs82 ep83 => ?_
      refine q_eq hQ_56 ?_
      replace r4 := RdL.mono gs82.ss r4
      replace r24 := Rep.mono _ gs82.ss r24
      replace r77 := Rep.mono _ gs82.ss r77
      replace g := g.call0 gs82
      have r84 : ((qT2 (q_Formula (K := K) T.c) (qI (K := K)))).R S_80 (.ref p79) ((O_Formula.And v66), due47) := ⟨p79, _, _, rfl, ep83, r77, rfl⟩
      have h := OP.fin hA h
      exact h _ _ _ g r84
    · replace h := OP.ite0 hc h
      refine z_nextR ?_
      refine z_if (v_test (v_eqI (val_var rfl) val_c)) (fun hc => ?_) (fun hc => ?_)
      · replace h := OP.ite1 hc h
        refine z_retE ?_
        refine c_tupE fun Q_85 hQ_85 => ?_
        refine c_cons ?_
        refine c_make ?_
        refine c_args (va_cons (val_var rfl) va_nil) ?_
        refine make_in fun p86 dx87 H_88 e89 np90 ep91 => ?_
        have z94 := g.hnone np90
        have c_93 : Cel [] H S_21 H_88 p86 (.ins T.c.Either dx87 []) := Cel.own g e89 np90 ep91 rfl
        replace g := g.ext e89
        have gL102 : ∀ l ∈ [p86], H l = none ∨ l ∈ [] := (LM1 c_93.z LM0)
        refine ⟨S_21, _, _, _, _, _, rfl, g.sh, c_93.h, c_93.s, T.l_Either, T.a_Either_parts, (RdL.ofL g.sh r24 (LM1 c_93.s LM0)), (OP.of h).mono fun v95 h S_96 H_97 w_99 gc98 hp101 r100 => ?_⟩
        replace r4 := RdL.mono gc98.ss r4
        replace r24 := Rep.mono _ gc98.ss r24
        replace c_93 := c_93.mut gc98 hp101 rfl
        replace g := g.call gc98 gL102
        refine ⟨rfl, ?_⟩
        obtain ⟨S_103, g104, eS105, r106, ot107⟩ := fz_Formula_Either (c := T.c) g c_93 z94 r100
        replace r4 := RdL.mono eS105 r4
        replace r24 := Rep.mono _ eS105 r24
        replace r100 := Rep.mono _ eS105 r100
        replace g := g104
        refine c_cons ?_
        refine c_val (val_var rfl) ?_
        refine c_nil ?_
        refine c_newtup (Q := Q_85) (vs := [(.ref p86), (.int due47)]) g.sh (show 2 ≤ 1000 by decide) fun p108 S_109 H_110 gs111 ep112 => ?_
        refine q_eq hQ_85 ?_
        replace r4 := RdL.mono gs111.ss r4
        replace r24 := Rep.mono _ gs111.ss r24
        replace r106 := Rep.mono _ gs111.ss r106
        replace g := g.call0 gs111
        have r113 : ((qT2 (q_Formula (K := K) T.c) (qI (K := K)))).R S_109 (.ref p108) ((O_Formula.Either v95), due47) := ⟨p108, _, _, rfl, ep112, r106, rfl⟩
        have h := OP.fin hA h
        exact h _ _ _ g r113
      · replace h := OP.ite0 hc h
        refine z_nextR ?_
        refine z_retE ?_
        refine c_tupE fun Q_114 hQ_114 => ?_
        refine c_cons ?_
        refine c_make ?_
        refine c_args (va_cons (val_var rfl) va_nil) ?_
        refine make_in fun p115 dx116 H_117 e118 np119 ep120 => ?_
        have z123 := g.hnone np119
        have c_122 : Cel [] H S_21 H_117 p115 (.ins T.c.Or dx116 []) := Cel.own g e118 np119 ep120 rfl
        replace g := g.ext e118
        have gL131 : ∀ l ∈ [p115], H l = none ∨ l ∈ [] := (LM1 c_122.z LM0)
        refine ⟨S_21, _, _, _, _, _, rfl, g.sh, c_122.h, c_122.s, T.l_Or, T.a_Or_parts, (RdL.ofL g.sh r24 (LM1 c_122.s LM0)), (OP.of h).mono fun v124 h S_125 H_126 w_128 gc127 hp130 r129 => ?_⟩
        replace r4 := RdL.mono gc127.ss r4
        replace r24 := Rep.mono _ gc127.ss r24
        replace c_122 := c_122.mut gc127 hp130 rfl
        replace g := g.call gc127 gL131
        refine ⟨rfl, ?_⟩
        obtain ⟨S_132, g133, eS134, r135, ot136⟩ := fz_Formula_Or (c := T.c) g c_122 z123 r129
        replace r4 := RdL.mono eS134 r4
        replace r24 := Rep.mono _ eS134 r24
        replace r129 := Rep.mono _ eS134 r129
        replace g := g133
        refine c_cons ?_
        refine c_val (val_var rfl) ?_
        refine c_nil ?_
        refine c_newtup (Q := Q_114) (vs := [(.ref p115), (.int due47)]) g.sh (show 2 ≤ 1000 by decide) fun p137 S_138 H_139 gs140 ep141 => ?_
        refine q_eq hQ_114 ?_
        replace r4 := RdL.mono gs140.ss r4
        replace r24 := Rep.mono _ gs140.ss r24
        replace r135 := Rep.mono _ gs140.ss r135
        replace g := g.call0 gs140
        have r142 : ((qT2 (q_Formula (K := K) T.c) (qI (K := K)))).R S_138 (.ref p137) ((O_Formula.Or v124), due47) := ⟨p137, _, _, rfl, ep141, r135, rfl⟩
        have h := OP.fin hA h
        exact h _ _ _ g r142

@[irreducible] def m_Lamp___init__ (at_10 : Int) : Option Int :=
some at_10
abbrev s_Lamp___init__ : Stmt := inClass (top 16) 0
abbrev sn_Lamp___init__ : List Str := ["self", "at"]
theorem sc_Lamp___init__ : FnScope ["self", "at"] ["self", "at"] (defScope (s_Lamp___init__)) := ⟨rfl, rfl, rfl, by decide +kernel, rfl, by decide +kernel, by decide +kernel⟩
def p_Lamp___init__ (K : PySem.W.Frag) (c : Cl) : Sp := fun vs H Q E => ∃ (S : Hp) (l2 : Addr) (dx3 : Addr) (C7 : Addr) (at_10 : Int), vs = [.ref l2, .int at_10] ∧ Same S H ∧ H l2 = some (.ins C7 dx3 []) ∧ S l2 = none ∧ Cls K C7 ∧ NoAttr K C7 "at" ∧ OP (m_Lamp___init__ at_10) (fun r => ∀ (S' H' : Hp), Grow [l2] S H S' H' → H' l2 = some (.ins C7 dx3 [("at", (.int r))]) → Q .non H')
theorem ok_Lamp___init__ (T : Tx K mg) : FnOk P w K mg base CX0 1 T.f_Lamp___init__ T.d_Lamp___init__ ["self", "at"] (p_Lamp___init__ K T.c) := by
  refine T.F_Lamp___init__.ok sc_Lamp___init__ (fun vs H Q E h => by obtain ⟨S, l2, dx3, C7, at_10, rfl, _⟩ := h; rfl) (fun cdv A outer s H vs Q E hr h => ?_)
  obtain ⟨S, l2, dx3, C7, at_10, rfl, gS, h_4, h_5, lC8, nA9, h⟩ := h
  obtain ⟨A_, hA⟩ : ∃ A_, A_ = (fun r : Int => ∀ (S' H' : Hp), Grow [l2] S H S' H' → H' l2 = some (.ins C7 dx3 [("at", (.int r))]) → Q .non H') := ⟨_, rfl⟩
  replace h : OP (m_Lamp___init__ at_10) A_ := hA ▸ h
  rw [m_Lamp___init__] at h
  refine ⟨_, (pss_cons (ps_fld (pe_var (i := 0) rfl (.inl rfl) rfl rfl) (pe_var (i := 1) rfl (.inl rfl) rfl rfl) rfl)
      pss_nil), ?_⟩
  refine z_start (σ := [some (.ref l2), some (.int at_10)]) rfl ?_
  have g : Grow [l2] S H S H := Grow.refl gS
  have c_6 : Cel [l2] H S H l2 (.ins C7 dx3 []) := ⟨h_4, h_5, .inr (.head _), rfl⟩
  refine z_fldE ?_
  refine c_val (val_var rfl) ?_
  refine c_setF (fs' := [("at", (.int at_10))]) g c_6 (val_var rfl) lC8 nA9 (show 0 < 1000 by decide) rfl fun H_11 g12 c_13 ot14 => ?_
  replace g := g12
  refine z_next ?_
  have h := OP.fin hA h
  exact h _ _ g c_13.h

@[irreducible] def m_Sure___init__ (truth10 : Bool) : Option Bool :=
some truth10
abbrev s_Sure___init__ : Stmt := inClass (top 17) 0
abbrev sn_Sure___init__ : List Str := ["self", "truth"]
theorem sc_Sure___init__ : FnScope ["self", "truth"] ["self", "truth"] (defScope (s_Sure___init__)) := ⟨rfl, rfl, rfl, by decide +kernel, rfl, by decide +kernel, by decide +kernel⟩
def p_Sure___init__ (K : PySem.W.Frag) (c : Cl) : Sp := fun vs H Q E => ∃ (S : Hp) (l2 : Addr) (dx3 : Addr) (C7 : Addr) (truth10 : Bool), vs = [.ref l2, .bl truth10] ∧ Same S H ∧ H l2 = some (.ins C7 dx3 []) ∧ S l2 = none ∧ Cls K C7 ∧ NoAttr K C7 "truth" ∧ OP (m_Sure___init__ truth10) (fun r => ∀ (S' H' : Hp), Grow [l2] S H S' H' → H' l2 = some (.ins C7 dx3 [("truth", (.bl r))]) → Q .non H')
theorem ok_Sure___init__ (T : Tx K mg) : FnOk P w K mg base CX0 1 T.f_Sure___init__ T.d_Sure___init__ ["self", "truth"] (p_Sure___init__ K T.c) := by
  refine T.F_Sure___init__.ok sc_Sure___init__ (fun vs H Q E h => by obtain ⟨S, l2, dx3, C7, truth10, rfl, _⟩ := h; rfl) (fun cdv A outer s H vs Q E hr h => ?_)
  obtain ⟨S, l2, dx3, C7, truth10, rfl, gS, h_4, h_5, lC8, nA9, h⟩ := h
  obtain ⟨A_, hA⟩ : ∃ A_, A_ = (fun r : Bool => ∀ (S' H' : Hp), Grow [l2] S H S' H' → H' l2 = some (.ins C7 dx3 [("truth", (.bl r))]) → Q .non H') := ⟨_, rfl⟩
  replace h : OP (m_Sure___init__ truth10) A_ := hA ▸ h
  rw [m_Sure___init__] at h
  refine ⟨_, (pss_cons (ps_fld (pe_var (i := 0) rfl (.inl rfl) rfl rfl) (pe_var (i := 1) rfl (.inl rfl) rfl rfl) rfl)
      pss_nil), ?_⟩
  refine z_start (σ := [some (.ref l2), some (.bl truth10)]) rfl ?_
  have g : Grow [l2] S H S H := Grow.refl gS
  have c_6 : Cel [l2] H S H l2 (.ins C7 dx3 []) := ⟨h_4, h_5, .inr (.head _), rfl⟩
  refine z_fldE ?_
  refine c_val (val_var rfl) ?_
  refine c_setF (fs' := [("truth", (.bl truth10))]) g c_6 (val_var rfl) lC8 nA9 (show 0 < 1000 by decide) rfl fun H_11 g12 c_13 ot14 => ?_
  replace g := g12
  refine z_next ?_
  have h := OP.fin hA h
  exact h _ _ g c_13.h

@[irreducible] def m__law_lit (lamp1 : Int) (many2 : Int) : Option Int :=
grd (gPow 1 many2) <|
grd (gR (shl 1 many2)) <|
(compO (fun zx3 =>
grd (gPow 1 lamp1) <|
grd (gDivW (shl 1 lamp1)) <|
ifo (decide (((zx3 / (shl 1 lamp1)) % 2) = 1)) (grd (gPow 1 zx3) <|
some (some (shl 1 zx3))) (some none)) (rangeI 0 (Int.toNat (shl 1 many2)))).bind fun ys11 =>
some (ys11.sum)
abbrev s__law_lit : Stmt := top 25
abbrev sn__law_lit : List Str := ["_law_lamp", "_law_many", "_law_stand"]
theorem sc__law_lit : FnScope ["_law_lamp", "_law_many", "_law_stand"] ["_law_lamp", "_law_many"] (defScope (s__law_lit)) := ⟨rfl, rfl, rfl, by decide +kernel, rfl, by decide +kernel, by decide +kernel⟩
def p__law_lit (K : PySem.W.Frag) (c : Cl) : Sp := fun vs H Q E => ∃ (S : Hp) (lamp1 : Int) (many2 : Int), vs = [.int lamp1, .int many2] ∧ Same S H ∧ OP (m__law_lit lamp1 many2) (fun r => ∀ (S' H' : Hp), Grow [] S H S' H' → Q (.int r) H')
theorem ok__law_lit (T : Tx K mg) : FnOk P w K mg base CX0 1 T.f__law_lit T.d__law_lit ["_law_lamp", "_law_many"] (p__law_lit K T.c) := by
  refine T.F__law_lit.ok sc__law_lit (fun vs H Q E h => by obtain ⟨S, lamp1, many2, rfl, _⟩ := h; rfl) (fun cdv A outer s H vs Q E hr h => ?_)
  obtain ⟨S, lamp1, many2, rfl, gS, h⟩ := h
  obtain ⟨A_, hA⟩ : ∃ A_, A_ = (fun r : Int => ∀ (S' H' : Hp), Grow [] S H S' H' → Q (.int r) H') := ⟨_, rfl⟩
  replace h : OP (m__law_lit lamp1 many2) A_ := hA ▸ h
  rw [m__law_lit] at h
  refine ⟨_, (pss_cons (ps_ret (pe_callB (cr_sum rfl) rfl T.n_sum bt_sum (pa_cons (pe_lc (own := [("_law_stand", 2)]) (g := gName 2) rfl sc__law_lit.nd (pi_range1 rfl T.n_range (pa_cons (pe_op op_shl pe_int (pe_var (i := 1) rfl (.inl rfl) rfl rfl)) pa_nil)) (blkOk_by (N := sn__law_lit) (sc := defScope s__law_lit) (by decide +kernel)) (fun _ _ _ _ _ => pg_name (i := 2) sc__law_lit.nd rfl (.inl rfl)) (fun _ _ _ _ _ => (pts_one (pt_cmpR op_eq (pe_op op_mod (pe_op op_fdivW (pe_var (i := 2) rfl (.inl rfl) rfl rfl) (pe_op op_shl pe_int (pe_var (i := 0) rfl (by first | exact .inr (.inr rfl) | exact .inr (.inl rfl)) rfl rfl))) pe_int) pe_int (nomark _)))) (fun _ _ _ _ _ => (pe_op op_shl pe_int (pe_var (i := 2) rfl (.inl rfl) rfl rfl)))) pa_nil)))
      pss_nil), ?_⟩
  refine z_start (σ := [some (.int lamp1), some (.int many2), none]) rfl ?_
  have g : Grow [] S H S H := Grow.refl gS
  refine z_retE ?_
  refine c_cb ?_
  refine c_cons ?_
  obtain ⟨g4, h⟩ := OP.grd h
  obtain ⟨g5, h⟩ := OP.grd h
  obtain ⟨ys11, eys11, h⟩ := OP.bind h
  refine c_lcR1 (n := (shl 1 many2)) (va_cons (v_o2c val_c (val_var rfl) g4) va_nil) g5 eys11 (τ := (qI (K := K))) (S := S) (fun zx3 H_6 e7 r_ hm => ?_) ?_
  · have g := g.ext e7
    obtain ⟨g8, hm⟩ := grd_some hm
    obtain ⟨g9, hm⟩ := grd_some hm
    refine ⟨_, (v_test (v_eqI (v_o2c (v_o2c (val_var rfl) (v_o2c val_c (val_var rfl) g8) (gDivW.ok g9)) val_c (show (0 : Int) < 2 by decide)) val_c)), fun hb => ?_, fun hb => ?_⟩
    · rw [ifo_t hb] at hm
      obtain ⟨g10, hm⟩ := grd_some hm
      exact ⟨_, _, (Option.some.inj hm).symm, (v_o2c val_c (val_var rfl) g10), rfl⟩
    · rw [ifo_f hb] at hm
      exact (Option.some.inj hm).symm
  intro p12 ws13 H_14 e15 np16 ep17 rw18
  have z20 := g.hnone np16
  have c_19 : Cel [] H S H_14 p12 (.lst ws13) := Cel.own g e15 np16 ep17 rfl
  replace g := g.ext e15
  refine c_nil ?_
  refine e_sum (qL_qQ (qL_of c_19.h (RL.mono g.sh rw18))) ?_
  have h := OP.fin hA h
  exact h _ _ g

@[irreducible] def m__law_leaf (kind1 : Int) (more2 : Int) (many3 : Int) : Option (O_Formula × Int) :=
grd (gPow 1 many3) <|
grd (gPow 1 (shl 1 many3)) <|
lt ((shl 1 (shl 1 many3)) - 1) fun every6 =>
grd (0 < many3) <|
lt (more2 % many3) fun lamp8 =>
ifo (decide (kind1 = 5)) (
(m_Sure___init__ (decide ((more2 % 2) = 0))).bind fun v19 =>
grd (gMul every6 (if (decide ((more2 % 2) = 0)) then 1 else 0)) <|
some ((O_Formula.Sure v19), (every6 * (if (decide ((more2 % 2) = 0)) then 1 else 0)))) (
ifo (decide (kind1 = 11)) (
(m_Lamp___init__ lamp8).bind fun v47 =>
(m_Not___init__ (O_Formula.Lamp v47)).bind fun v67 =>
(m__law_lit lamp8 many3).bind fun v80 =>
some ((O_Formula.Not v67), (every6 - v80))) (
(m_Lamp___init__ lamp8).bind fun v101 =>
(m__law_lit lamp8 many3).bind fun v112 =>
some ((O_Formula.Lamp v101), v112)))
abbrev s__law_leaf : Stmt := top 26
abbrev sn__law_leaf : List Str := ["_law_kind", "_law_more", "_law_many", "_law_every", "_law_lamp"]
theorem sc__law_leaf : FnScope ["_law_kind", "_law_more", "_law_many", "_law_every", "_law_lamp"] ["_law_kind", "_law_more", "_law_many"] (defScope (s__law_leaf)) := ⟨rfl, rfl, rfl, by decide +kernel, rfl, by decide +kernel, by decide +kernel⟩
def p__law_leaf (K : PySem.W.Frag) (c : Cl) : Sp := fun vs H Q E => ∃ (S : Hp) (kind1 : Int) (more2 : Int) (many3 : Int), vs = [.int kind1, .int more2, .int many3] ∧ Same S H ∧ OP (m__law_leaf kind1 more2 many3) (fun r => ∀ (S' H' : Hp) (v : V), Grow [] S H S' H' → ((qT2 (q_Formula (K := K) c) (qI (K := K)))).R S' v r → Q v H')
theorem ok__law_leaf (T : Tx K mg) : FnOk P w K mg base CX0 3 T.f__law_leaf T.d__law_leaf ["_law_kind", "_law_more", "_law_many"] (p__law_leaf K T.c) := by
  refine T.F__law_leaf.ok sc__law_leaf (fun vs H Q E h => by obtain ⟨S, kind1, more2, many3, rfl, _⟩ := h; rfl) (fun cdv A outer s H vs Q E hr h => ?_)
  obtain ⟨S, kind1, more2, many3, rfl, gS, h⟩ := h
  obtain ⟨A_, hA⟩ : ∃ A_, A_ = (fun r : (O_Formula × Int) => ∀ (S' H' : Hp) (v : V), Grow [] S H S' H' → ((qT2 (q_Formula (K := K) T.c) (qI (K := K)))).R S' v r → Q v H') := ⟨_, rfl⟩
  replace h : OP (m__law_leaf kind1 more2 many3) A_ := hA ▸ h
  rw [m__law_leaf] at h
  have hr1 : Room 1 _ := hr.mono (by decide)
  have hr2 : Room 2 _ := hr.mono (by decide)
  refine ⟨_, (pss_cons (ps_set (i := 3) sc__law_leaf.nd rfl (.inl rfl) (pe_op op_sub (pe_op op_shl pe_int (pe_op op_shl pe_int (pe_var (i := 2) rfl (.inl rfl) rfl rfl))) pe_int))
      (pss_cons (ps_set (i := 4) sc__law_leaf.nd rfl (.inl rfl) (pe_op op_mod (pe_var (i := 1) rfl (.inl rfl) rfl rfl) (pe_var (i := 2) rfl (.inl rfl) rfl rfl)))
      (pss_cons (ps_if (pt_cmpR op_eq (pe_var (i := 0) rfl (.inl rfl) rfl rfl) pe_int (nomark _)) (pss_cons (ps_ret (pe_tup (pa_cons (pe_make T.k_Sure (ok_Sure___init__ T) hr2 rfl T.m_Sure T.b_Sure___init__ .nil pass0 (pa_cons (pe_cmpR op_eq (pe_op op_mod (pe_var (i := 1) rfl (.inl rfl) rfl rfl) pe_int) pe_int (nomark _)) pa_nil)) (pa_cons (pe_op op_mul (pe_var (i := 3) rfl (.inl rfl) rfl rfl) (pe_callTy call_int1 rfl T.n_int bt_int (pa_cons (pe_cmpR op_eq (pe_op op_mod (pe_var (i := 1) rfl (.inl rfl) rfl rfl) pe_int) pe_int (nomark _)) pa_nil))) pa_nil))))
      pss_nil) pss_nil)
      (pss_cons (ps_if (pt_cmpR op_eq (pe_var (i := 0) rfl (.inl rfl) rfl rfl) pe_int (nomark _)) (pss_cons (ps_ret (pe_tup (pa_cons (pe_make T.k_Not (ok_Not___init__ T) hr2 rfl T.m_Not T.b_Not___init__ .nil pass0 (pa_cons (pe_make T.k_Lamp (ok_Lamp___init__ T) hr2 rfl T.m_Lamp T.b_Lamp___init__ .nil pass0 (pa_cons (pe_var (i := 4) rfl (.inl rfl) rfl rfl) pa_nil)) pa_nil)) (pa_cons (pe_op op_sub (pe_var (i := 3) rfl (.inl rfl) rfl rfl) (pe_call (ok__law_lit T) hr1 rfl T.m__law_lit T.F__law_lit.kp T.b__law_lit .nil pass0 (pa_cons (pe_var (i := 4) rfl (.inl rfl) rfl rfl) (pa_cons (pe_var (i := 2) rfl (.inl rfl) rfl rfl) pa_nil)))) pa_nil))))
      pss_nil) pss_nil)
      (pss_cons (ps_ret (pe_tup (pa_cons (pe_make T.k_Lamp (ok_Lamp___init__ T) hr2 rfl T.m_Lamp T.b_Lamp___init__ .nil pass0 (pa_cons (pe_var (i := 4) rfl (.inl rfl) rfl rfl) pa_nil)) (pa_cons (pe_call (ok__law_lit T) hr1 rfl T.m__law_lit T.F__law_lit.kp T.b__law_lit .nil pass0 (pa_cons (pe_var (i := 4) rfl (.inl rfl) rfl rfl) (pa_cons (pe_var (i := 2) rfl (.inl rfl) rfl rfl) pa_nil))) pa_nil))))
      pss_nil))))), ?_⟩
  refine z_start (σ := [some (.int kind1), some (.int more2), some (.int many3), none, none]) rfl ?_
  have g : Grow [] S H S H := Grow.refl gS
  obtain ⟨g4, h⟩ := OP.grd h
  obtain ⟨g5, h⟩ := OP.grd h
  obtain ⟨every6, eevery6, h⟩ := OP.lt h
  refine z_set (w := (.int every6)) (σ' := [some (.int kind1), some (.int more2), some (.int many3), some (.int every6), none]) (v_o2 (v_o2c val_c (v_o2c val_c (val_var rfl) g4) g5) val_c) (congrArg V.int eevery6) rfl ?_
  obtain ⟨g7, h⟩ := OP.grd h
  obtain ⟨lamp8, elamp8, h⟩ := OP.lt h
  refine z_set (w := (.int lamp8)) (σ' := [some (.int kind1), some (.int more2), some (.int many3), some (.int every6), some (.int lamp8)]) (v_o2c (val_var rfl) (val_var rfl) g7) (congrArg V.int elamp8) rfl ?_
  refine z_if (v_test (v_eqI (val_var rfl) val_c)) (fun hc => ?_) (fun hc => ?_)
  · replace h := OP.ite1 hc h
    refine z_retE ?_
    refine c_tupE fun Q_9 hQ_9 => ?_
    refine c_cons ?_
    refine c_make ?_
    refine c_args (va_cons (v_eqI (v_o2c (val_var rfl) val_c (show (0 : Int) < 2 by decide)) val_c) va_nil) ?_
    refine make_in fun p10 dx11 H_12 e13 np14 ep15 => ?_
    have z18 := g.hnone np14
    have c_17 : Cel [] H S H_12 p10 (.ins T.c.Sure dx11 []) := Cel.own g e13 np14 ep15 rfl
    replace g := g.ext e13
    have gL24 : ∀ l ∈ [p10], H l = none ∨ l ∈ [] := (LM1 c_17.z LM0)
    refine ⟨S, _, _, _, _, rfl, g.sh, c_17.h, c_17.s, T.l_Sure, T.a_Sure_truth, (OP.of h).mono fun v19 h S_20 H_21 gc22 hp23 => ?_⟩
    replace c_17 := c_17.mut gc22 hp23 rfl
    replace g := g.call gc22 gL24
    refine ⟨rfl, ?_⟩
    obtain ⟨S_25, g26, eS27, r28, ot29⟩ := fz_Formula_Sure (c := T.c) g c_17 z18 (show ((qB (K := K))).R _ _ v19 from rfl)
    replace g := g26
    refine c_cons ?_
    obtain ⟨g30, h⟩ := OP.grd h
    refine c_val (v_o2c (val_var rfl) (v_cb (va_cons (v_eqI (v_o2c (val_var rfl) val_c (show (0 : Int) < 2 by decide)) val_c) va_nil) fun Q q => .inr ⟨_, rfl, q⟩) g30) ?_
    refine c_nil ?_
    refine c_newtup (Q := Q_9) (vs := [(.ref p10), (.int (every6 * (if (decide ((more2 % 2) = 0)) then 1 else 0)))]) g.sh (show 2 ≤ 1000 by decide) fun p31 S_32 H_33 gs34 ep35 => ?_
    refine q_eq hQ_9 ?_
    replace r28 := Rep.mono _ gs34.ss r28
    replace g := g.call0 gs34
    have r36 : ((qT2 (q_Formula (K := K) T.c) (qI (K := K)))).R S_32 (.ref p31) ((O_Formula.Sure v19), (every6 * (if (decide ((more2 % 2) = 0)) then 1 else 0))) := ⟨p31, _, _, rfl, ep35, r28, rfl⟩
    have h := OP.fin hA h
    exact h _ _ _ g r36
  · replace h := OP.ite0 hc h
    refine z_nextR ?_
    refine z_if (v_test (v_eqI (val_var rfl) val_c)) (fun hc => ?_) (fun hc => ?_)
    · replace h := OP.ite1 hc h
      refine z_retE ?_
      refine c_tupE fun Q_37 hQ_37 => ?_
      refine c_cons ?_
      refine c_make ?_
      refine c_cons ?_
      refine c_make ?_
      refine c_args (va_cons (val_var rfl) va_nil) ?_
      refine make_in fun p38 dx39 H_40 e41 np42 ep43 => ?_
      have z46 := g.hnone np42
      have c_45 : Cel [] H S H_40 p38 (.ins T.c.Lamp dx39 []) := Cel.own g e41 np42 ep43 rfl
      replace g := g.ext e41
      have gL52 : ∀ l ∈ [p38], H l = none ∨ l ∈ [] := (LM1 c_45.z LM0)
      refine ⟨S, _, _, _, _, rfl, g.sh, c_45.h, c_45.s, T.l_Lamp, T.a_Lamp_at, (OP.of h).mono fun v47 h S_48 H_49 gc50 hp51 => ?_⟩
      replace c_45 := c_45.mut gc50 hp51 rfl
      replace g := g.call gc50 gL52
      refine ⟨rfl, ?_⟩
      obtain ⟨S_53, g54, eS55, r56, ot57⟩ := fz_Formula_Lamp (c := T.c) g c_45 z46 (show ((qI (K := K))).R _ _ v47 from rfl)
      replace g := g54
      refine c_nil ?_
      refine make_in fun p58 dx59 H_60 e61 np62 ep63 => ?_
      have z66 := g.hnone np62
      have c_65 : Cel [] H S_53 H_60 p58 (.ins T.c.Not dx59 []) := Cel.own g e61 np62 ep63 rfl
      replace g := g.ext e61
      have gL74 : ∀ l ∈ [p58], H l = none ∨ l ∈ [] := (LM1 c_65.z LM0)
      refine ⟨S_53, _, _, _, _, _, rfl, g.sh, c_65.h, c_65.s, T.l_Not, T.a_Not_part, r56, (OP.of h).mono fun v67 h S_68 H_69 w_71 gc70 hp73 r72 => ?_⟩
      replace r56 := Rep.mono _ gc70.ss r56
      replace c_65 := c_65.mut gc70 hp73 rfl
      replace g := g.call gc70 gL74
      refine ⟨rfl, ?_⟩
      obtain ⟨S_75, g76, eS77, r78, ot79⟩ := fz_Formula_Not (c := T.c) g c_65 z66 r72
      replace r56 := Rep.mono _ eS77 r56
      replace r72 := Rep.mono _ eS77 r72
      replace g := g76
      refine c_cons ?_
      refine c_op ?_
      refine c_val (val_var rfl) ?_
      refine c_call ?_
      refine c_args (va_cons (val_var rfl) (va_cons (val_var rfl) va_nil)) ?_
      have gL84 : ∀ l ∈ [], H l = none ∨ l ∈ [] := LM0
      refine ⟨S_75, _, _, rfl, g.sh, (OP.of h).mono fun v80 h S_81 H_82 gc83 => ?_⟩
      replace r78 := Rep.mono _ gc83.ss r78
      replace g := g.call gc83 gL84
      refine e_o2 ?_
      refine c_nil ?_
      refine c_newtup (Q := Q_37) (vs := [(.ref p58), (.int (every6 - v80))]) g.sh (show 2 ≤ 1000 by decide) fun p85 S_86 H_87 gs88 ep89 => ?_
      refine q_eq hQ_37 ?_
      replace r78 := Rep.mono _ gs88.ss r78
      replace g := g.call0 gs88
      have r90 : ((qT2 (q_Formula (K := K) T.c) (qI (K := K)))).R S_86 (.ref p85) ((O_Formula.Not v67), (every6 - v80)) := ⟨p85, _, _, rfl, ep89, r78, rfl⟩
      have h := OP.fin hA h
      exact h _ _ _ g r90
    · replace h := OP.ite0 hc h
      refine z_nextR ?_
      refine z_retE ?_
      refine c_tupE fun Q_91 hQ_91 => ?_
      refine c_cons ?_
      refine c_make ?_
      refine c_args (va_cons (val_var rfl) va_nil) ?_
      refine make_in fun p92 dx93 H_94 e95 np96 ep97 => ?_
      have z100 := g.hnone np96
      have c_99 : Cel [] H S H_94 p92 (.ins T.c.Lamp dx93 []) := Cel.own g e95 np96 ep97 rfl
      replace g := g.ext e95
      have gL106 : ∀ l ∈ [p92], H l = none ∨ l ∈ [] := (LM1 c_99.z LM0)
      refine ⟨S, _, _, _, _, rfl, g.sh, c_99.h, c_99.s, T.l_Lamp, T.a_Lamp_at, (OP.of h).mono fun v101 h S_102 H_103 gc104 hp105 => ?_⟩
      replace c_99 := c_99.mut gc104 hp105 rfl
      replace g := g.call gc104 gL106
      refine ⟨rfl, ?_⟩
      obtain ⟨S_107, g108, eS109, r110, ot111⟩ := fz_Formula_Lamp (c := T.c) g c_99 z100 (show ((qI (K := K))).R _ _ v101 from rfl)
      replace g := g108
      refine c_cons ?_
      refine c_call ?_
      refine c_args (va_cons (val_var rfl) (va_cons (val_var rfl) va_nil)) ?_
      have gL116 : ∀ l ∈ [], H l = none ∨ l ∈ [] := LM0
      refine ⟨S_107, _, _, rfl, g.sh, (OP.of h).mono fun v112 h S_113 H_114 gc115 => ?_⟩
      replace r110 := Rep.mono _ gc115.ss r110
      replace g := g.call gc115 gL116
      refine c_nil ?_
      refine c_newtup (Q := Q_91) (vs := [(.ref p92), (.int v112)]) g.sh (show 2 ≤ 1000 by decide) fun p117 S_118 H_119 gs120 ep121 => ?_
      refine q_eq hQ_91 ?_
      replace r110 := Rep.mono _ gs120.ss r110
      replace g := g.call0 gs120
      have r122 : ((qT2 (q_Formula (K := K) T.c) (qI (K := K)))).R S_118 (.ref p117) ((O_Formula.Lamp v101), v112) := ⟨p117, _, _, rfl, ep121, r110, rfl⟩
      have h := OP.fin hA h
      exact h _ _ _ g r122

@[irreducible] def m__law_pile (cells1 : (List Int)) (many4 : Int) : Option (List (O_Formula × Int)) :=
(forO (fun cell14 pile_here26 =>
lt (cell14 % 12) fun kind38 =>
lt (cell14 / 12) fun more39 =>
ifo (((decide (8 ≤ kind38)) && (decide (kind38 ≤ 10))) && (decide (1 < (pile_here26.length : Int)))) (
lt (if (((pile_here26.length : Int) - 2) - ((more39 % 5) / 4)) > 0 then (((pile_here26.length : Int) - 2) - ((more39 % 5) / 4)) else 0) fun left40 =>
(m__law_joined kind38 (cutI pile_here26 (some left40) none)).bind fun v63 =>
grd ((cutI pile_here26 none (some left40)).length + ([v63] : List (O_Formula × Int)).length ≤ 16777216) <|
some ((cutI pile_here26 none (some left40)) ++ ([v63] : List (O_Formula × Int)))) (
ifo (((decide (6 ≤ kind38)) && (decide (kind38 ≤ 7))) && (decide (0 < (pile_here26.length : Int)))) (
(atI pile_here26 (-1)).bind fun i91 =>
(m_Not___init__ i91.1).bind fun v118 =>
grd (gPow 1 many4) <|
grd (gPow 1 (shl 1 many4)) <|
grd ((cutI pile_here26 none (some (-1))).length + ([((O_Formula.Not v118), (((shl 1 (shl 1 many4)) - 1) - i91.2))] : List (O_Formula × Int)).length ≤ 16777216) <|
some ((cutI pile_here26 none (some (-1))) ++ ([((O_Formula.Not v118), (((shl 1 (shl 1 many4)) - 1) - i91.2))] : List (O_Formula × Int)))) (
(m__law_leaf kind38 more39 many4).bind fun v160 =>
grd (pile_here26.length < 16777216) <|
lt (pile_here26 ++ [v160]) fun l168 =>
some l168))) (cells1) ([] : List (O_Formula × Int))).bind (fun pile_here26 =>
(ifo (decide ((pile_here26.length : Int) = 0)) (
(m__law_leaf 0 (cells1.length : Int) many4).bind fun v185 =>
grd (pile_here26.length < 16777216) <|
lt (pile_here26 ++ [v185]) fun l193 =>
some l193) (
some pile_here26)).bind (fun pile_here180 =>
some pile_here180))
abbrev s__law_pile : Stmt := top 28
abbrev sn__law_pile : List Str := ["_law_cells", "_law_many", "_law_pile_here", "_law_cell", "_law_kind", "_law_more", "_law_left", "_law_top"]
theorem sc__law_pile : FnScope ["_law_cells", "_law_many", "_law_pile_here", "_law_cell", "_law_kind", "_law_more", "_law_left", "_law_top"] ["_law_cells", "_law_many"] (defScope (s__law_pile)) := ⟨rfl, rfl, rfl, by decide +kernel, rfl, by decide +kernel, by decide +kernel⟩
def p__law_pile (K : PySem.W.Frag) (c : Cl) : Sp := fun vs H Q E => ∃ (S : Hp) (v2 : V) (cells1 : (List Int)) (many4 : Int), vs = [v2, .int many4] ∧ Same S H ∧ RdL (qI (K := K)) [] S H v2 cells1 ∧ OP (m__law_pile cells1 many4) (fun r => ∀ (S' H' : Hp) (p : Addr) (ws : List V), Grow [] S H S' H' → H p = none → H' p = some (.lst ws) → S' p = none → RL (qT2 (q_Formula (K := K) c) (qI (K := K))) S' ws r → Q (.ref p) H')
theorem ok__law_pile (T : Tx K mg) : FnOk P w K mg base CX0 4 T.f__law_pile T.d__law_pile ["_law_cells", "_law_many"] (p__law_pile K T.c) := by
  refine T.F__law_pile.ok sc__law_pile (fun vs H Q E h => by obtain ⟨S, v2, cells1, many4, rfl, _⟩ := h; rfl) (fun cdv A outer s H vs Q E hr h => ?_)
  obtain ⟨S, v2, cells1, many4, rfl, gS, r3, h⟩ := h
  obtain ⟨A_, hA⟩ : ∃ A_, A_ = (fun r : (List (O_Formula × Int)) => ∀ (S' H' : Hp) (p : Addr) (ws : List V), Grow [] S H S' H' → H p = none → H' p = some (.lst ws) → S' p = none → RL (qT2 (q_Formula (K := K) T.c) (qI (K := K))) S' ws r → Q (.ref p) H') := ⟨_, rfl⟩
  replace h : OP (m__law_pile cells1 many4) A_ := hA ▸ h
  rw [m__law_pile] at h
  have hr2 : Room 2 _ := hr.mono (by decide)
  have hr3 : Room 3 _ := hr.mono (by decide)
  refine ⟨_, (pss_cons (ps_set (i := 2) sc__law_pile.nd rfl (.inl rfl) (pe_lst pa_nil))
      (pss_cons (ps_for PassesOwn.never rfl (pi_list (pe_var (i := 0) rfl (.inl rfl) rfl rfl)) (pg_name (i := 3) sc__law_pile.nd rfl (.inl rfl)) (pss_cons (ps_set (i := 4) sc__law_pile.nd rfl (.inl rfl) (pe_op op_mod (pe_var (i := 3) rfl (.inl rfl) rfl rfl) pe_int))
      (pss_cons (ps_set (i := 5) sc__law_pile.nd rfl (.inl rfl) (pe_op op_fdiv (pe_var (i := 3) rfl (.inl rfl) rfl rfl) pe_int))
      (pss_cons (ps_if (PW.pt (pw_and (pt_chain op_le op_le pe_int (pe_var (i := 4) rfl (.inl rfl) rfl rfl) pe_int) (pw_and1 (pt_cmpR op_gt (pe_callB (show CallR _ (.builtin "len") (Z.rLenS K) from call_len_seq) rfl T.n_len bt_len (pa_cons (pe_var (i := 2) rfl (.inl rfl) rfl rfl) pa_nil)) pe_int (nomark _))))) (pss_cons (ps_set (i := 6) sc__law_pile.nd rfl (.inl rfl) (pe_callB (call_max2 rfl) rfl T.n_max bt_max (pa_cons pe_int (pa_cons (pe_op op_sub (pe_op op_sub (pe_callB (show CallR _ (.builtin "len") (Z.rLenS K) from call_len_seq) rfl T.n_len bt_len (pa_cons (pe_var (i := 2) rfl (.inl rfl) rfl rfl) pa_nil)) pe_int) (pe_op op_fdiv (pe_op op_mod (pe_var (i := 5) rfl (.inl rfl) rfl rfl) pe_int) pe_int)) pa_nil))))
      (pss_cons (ps_set (i := 2) sc__law_pile.nd rfl (.inl rfl) (pe_op op_cat (pe_slice sl_list (pe_var (i := 2) rfl (.inl rfl) rfl rfl) po_none (po_some (pe_var (i := 6) rfl (.inl rfl) rfl rfl))) (pe_lst (pa_cons (pe_call (ok__law_joined T) hr3 rfl T.m__law_joined T.F__law_joined.kp T.b__law_joined .nil pass0 (pa_cons (pe_var (i := 4) rfl (.inl rfl) rfl rfl) (pa_cons (pe_slice sl_list (pe_var (i := 2) rfl (.inl rfl) rfl rfl) (po_some (pe_var (i := 6) rfl (.inl rfl) rfl rfl)) po_none) pa_nil))) pa_nil))))
      pss_nil)) (pss_cons (ps_if (PW.pt (pw_and (pt_chain op_le op_le pe_int (pe_var (i := 4) rfl (.inl rfl) rfl rfl) pe_int) (pw_and1 (pt_cmpR op_gt (pe_callB (show CallR _ (.builtin "len") (Z.rLenS K) from call_len_seq) rfl T.n_len bt_len (pa_cons (pe_var (i := 2) rfl (.inl rfl) rfl rfl) pa_nil)) pe_int (nomark _))))) (pss_cons (ps_set (i := 7) sc__law_pile.nd rfl (.inl rfl) (pe_ix (show IxR _ (rIxL K) from ix_list) (pe_var (i := 2) rfl (.inl rfl) rfl rfl) (pe_un un_neg pe_int) (fun _ _ => rfl)))
      (pss_cons (ps_set (i := 2) sc__law_pile.nd rfl (.inl rfl) (pe_op op_cat (pe_slice sl_list (pe_var (i := 2) rfl (.inl rfl) rfl rfl) po_none (po_some (pe_un un_neg pe_int))) (pe_lst (pa_cons (pe_tup (pa_cons (pe_make T.k_Not (ok_Not___init__ T) hr2 rfl T.m_Not T.b_Not___init__ .nil pass0 (pa_cons (pe_ix (show IxR _ (rIxT K) from ix_tup) (pe_var (i := 7) rfl (.inl rfl) rfl rfl) pe_int (fun _ _ => rfl)) pa_nil)) (pa_cons (pe_op op_sub (pe_op op_sub (pe_op op_shl pe_int (pe_op op_shl pe_int (pe_var (i := 1) rfl (.inl rfl) rfl rfl))) pe_int) (pe_ix (show IxR _ (rIxT K) from ix_tup) (pe_var (i := 7) rfl (.inl rfl) rfl rfl) pe_int (fun _ _ => rfl))) pa_nil))) pa_nil))))
      pss_nil)) (pss_cons (ps_expr (pe_bm PySem.F.plainAttrs_list PySem.F.slot_list_append PySem.F.type_list_append mt_append (pe_var (i := 2) rfl (.inl rfl) rfl rfl) (pa_cons (pe_call (ok__law_leaf T) hr3 rfl T.m__law_leaf T.F__law_leaf.kp T.b__law_leaf .nil pass0 (pa_cons (pe_var (i := 4) rfl (.inl rfl) rfl rfl) (pa_cons (pe_var (i := 5) rfl (.inl rfl) rfl rfl) (pa_cons (pe_var (i := 1) rfl (.inl rfl) rfl rfl) pa_nil)))) pa_nil)))
      pss_nil))
      pss_nil))
      pss_nil))))
      (pss_cons (ps_if (pt_cmpR op_eq (pe_callB (show CallR _ (.builtin "len") (Z.rLenS K) from call_len_seq) rfl T.n_len bt_len (pa_cons (pe_var (i := 2) rfl (.inl rfl) rfl rfl) pa_nil)) pe_int (nomark _)) (pss_cons (ps_expr (pe_bm PySem.F.plainAttrs_list PySem.F.slot_list_append PySem.F.type_list_append mt_append (pe_var (i := 2) rfl (.inl rfl) rfl rfl) (pa_cons (pe_call (ok__law_leaf T) hr3 rfl T.m__law_leaf T.F__law_leaf.kp T.b__law_leaf .nil pass0 (pa_cons pe_int (pa_cons (pe_callB (show CallR _ (.builtin "len") (Z.rLenS K) from call_len_seq) rfl T.n_len bt_len (pa_cons (pe_var (i := 0) rfl (.inl rfl) rfl rfl) pa_nil)) (pa_cons (pe_var (i := 1) rfl (.inl rfl) rfl rfl) pa_nil)))) pa_nil)))
      pss_nil) pss_nil)
      (pss_cons (ps_ret (pe_var (i := 2) rfl (.inl rfl) rfl rfl))
      pss_nil)))), ?_⟩
  refine z_start (σ := [some v2, some (.int many4), none, none, none, none, none, none]) rfl ?_
  have g : Grow [] S H S H := Grow.refl gS
  refine z_setE ?_
  refine c_lstE fun Q_5 hQ_5 => ?_
  refine c_args va_nil ?_
  refine c_newlst (Q := Q_5) (vs := []) (show 0 ≤ 1000 by decide) fun p6 H_7 e8 np9 ep10 => ?_
  refine q_eq hQ_5 ?_
  have w_11 : RL (qT2 (q_Formula (K := K) T.c) (qI (K := K))) S [] ([] : List (O_Formula × Int)) := .nil
  have z13 := g.hnone np9
  have c_12 : Cel [] H S H_7 p6 (.lst []) := Cel.own g e8 np9 ep10 rfl
  replace g := g.ext e8
  refine g_name (σ' := [some v2, some (.int many4), some (.ref p6), none, none, none, none, none]) rfl ?_
  obtain ⟨B17, h, hB18⟩ := OP.cut h
  obtain ⟨F19, hF20, h⟩ := OP.nameO h
  obtain ⟨q37a, q37w, q37e, q37h, q37p⟩ := id r3
  refine z_forL (v_eq (val_var rfl) q37e) q37p (fun ys22 σ' H' => ∃ (l27 : Addr) (ws23 : List V) (pile_here26 : (List (O_Formula × Int))) (u29 : Option V) (u30 : Option V) (u31 : Option V) (u32 : Option V) (u33 : Option V) (S_34 : Hp), σ' = [some v2, some (.int many4), some (.ref l27), u29, u30, u31, u32, u33] ∧ Grow [] S H S_34 H' ∧ Same S S_34 ∧ H l27 = none ∧ Cel [] H S_34 H' l27 (.lst ws23) ∧ RL (qT2 (q_Formula (K := K) T.c) (qI (K := K))) S_34 ws23 pile_here26 ∧ OP (forO F19 ys22 pile_here26) B17) ⟨_, _, _, _, _, _, _, _, _, rfl, g, (Same.refl _), z13, c_12, w_11, h⟩ (fun ys σ' H' p => by obtain ⟨l27, ws23, pile_here26, u29, u30, u31, u32, u33, S_34, rfl, gN, eS36, z28N, c_24N, r25N, h⟩ := p; exact gN.sq q37h) (fun w_15 cell14 ys22 σ' H_35 rw16 p N hN21 => ?_) ?_
  · obtain ⟨l27, ws23, pile_here26, u29, u30, u31, u32, u33, S_34, rfl, gN, eS36, z28N, c_24N, r25N, h⟩ := p
    replace g := gN
    have z28 := z28N
    have c_24 := c_24N
    have r25 := r25N
    replace r3 := RdL.mono eS36 r3
    replace h := OP.forO h
    replace h := OP.fcall2 hF20 h
    cases (show w_15 = (.int cell14) from rw16)
    refine g_name (σ' := [some v2, some (.int many4), some (.ref l27), some (.int cell14), u30, u31, u32, u33]) rfl ?_
    obtain ⟨kind38, ekind38, h⟩ := OP.lt h
    refine z_set (w := (.int kind38)) (σ' := [some v2, some (.int many4), some (.ref l27), some (.int cell14), some (.int kind38), u31, u32, u33]) (v_o2c (val_var rfl) val_c (show (0 : Int) < 12 by decide)) (congrArg V.int ekind38) rfl ?_
    obtain ⟨more39, emore39, h⟩ := OP.lt h
    refine z_set (w := (.int more39)) (σ' := [some v2, some (.int many4), some (.ref l27), some (.int cell14), some (.int kind38), some (.int more39), u32, u33]) (v_o2c (val_var rfl) val_c ⟨by decide, by decide⟩) (congrArg V.int emore39) rfl ?_
    refine z_if (a_and (v_test (v_chn val_c (val_var rfl) val_c rfl rfl)) (v_test (v_o2 (v_len (val_var rfl) (qL_qQ (qL_of c_24.h (RL.mono g.sh r25)))) val_c))) (fun hc => ?_) (fun hc => ?_)
    · replace h := OP.ite1 hc h
      obtain ⟨left40, eleft40, h⟩ := OP.lt h
      refine z_set (w := (.int left40)) (σ' := [some v2, some (.int many4), some (.ref l27), some (.int cell14), some (.int kind38), some (.int more39), some (.int left40), u33]) (v_cb (va_cons val_c (va_cons (v_o2 (v_o2 (v_len (val_var rfl) (qL_qQ (qL_of c_24.h (RL.mono g.sh r25)))) val_c) (v_o2c (v_o2c (val_var rfl) val_c (show (0 : Int) < 5 by decide)) val_c ⟨by decide, by decide⟩)) va_nil)) fun Q q => ⟨_, _, rfl, q⟩) (congrArg V.int eleft40) rfl ?_
      refine z_setE ?_
      refine c_op ?_
      refine c_slice (val_var rfl) po0 (po1 (val_var rfl)) ?_
      refine (l_slice (LS.cel c_24.h r25) fun p41 ws42 H_43 e44 np45 ep46 rw47 => ?_)
      have ne50 := c_24.ne np45
      have z49 := g.hnone np45
      have c_48 : Cel [] H S_34 H_43 p41 (.lst ws42) := Cel.own g e44 np45 ep46 rfl
      replace c_24 := c_24.ext e44
      replace g := g.ext e44
      refine c_lstE fun Q_51 hQ_51 => ?_
      refine c_cons ?_
      refine c_call ?_
      refine c_cons ?_
      refine c_val (val_var rfl) ?_
      refine c_cons ?_
      refine c_slice (val_var rfl) (po1 (val_var rfl)) po0 ?_
      refine (l_slice (LS.cel c_24.h r25) fun p52 ws53 H_54 e55 np56 ep57 rw58 => ?_)
      have ne61 := c_24.ne np56
      have ne62 := c_48.ne np56
      have z60 := g.hnone np56
      have c_59 : Cel [] H S_34 H_54 p52 (.lst ws53) := Cel.own g e55 np56 ep57 rfl
      replace c_24 := c_24.ext e55
      replace c_48 := c_48.ext e55
      replace g := g.ext e55
      refine c_nil ?_
      have gL69 : ∀ l ∈ [], H l = none ∨ l ∈ [] := LM0
      refine ⟨S_34, _, _, _, rfl, g.sh, (RdL.ofC c_59.h NM0 rw58), (OP.of h).mono fun v63 h S_64 H_65 v67 gc66 r68 => ?_⟩
      replace c_24 := c_24.call gc66 NM0
      replace c_48 := c_48.call gc66 NM0
      replace c_59 := c_59.call gc66 NM0
      replace r3 := RdL.mono gc66.ss r3
      replace r25 := RL.mono gc66.ss r25
      replace rw47 := RL.mono gc66.ss rw47
      replace rw58 := RL.mono gc66.ss rw58
      replace eS36 := eS36.trans gc66.ss
      replace g := g.call gc66 gL69
      refine c_nil ?_
      refine c_newlst (Q := Q_51) (vs := [v67]) (show 1 ≤ 1000 by decide) fun p70 H_71 e72 np73 ep74 => ?_
      refine q_eq hQ_51 ?_
      have w_75 : RL (qT2 (q_Formula (K := K) T.c) (qI (K := K))) S_64 [v67] ([v63] : List (O_Formula × Int)) := (.cons r68 .nil)
      have ne78 := c_24.ne np73
      have ne79 := c_48.ne np73
      have z77 := g.hnone np73
      have c_76 : Cel [] H S_64 H_71 p70 (.lst [v67]) := Cel.own g e72 np73 ep74 rfl
      replace c_24 := c_24.ext e72
      replace c_48 := c_48.ext e72
      replace g := g.ext e72
      obtain ⟨g80, h⟩ := OP.grd h
      refine (l_cat (LP.cel c_48.h rw47) (LP.cel c_76.h w_75) g80 fun p81 ws82 H_83 e84 np85 ep86 rw87 => ?_)
      have ne90 := c_24.ne np85
      have z89 := g.hnone np85
      have c_88 : Cel [] H S_64 H_83 p81 (.lst ws82) := Cel.own g e84 np85 ep86 rfl
      replace c_24 := c_24.ext e84
      replace g := g.ext e84
      refine g_name (σ' := [some v2, some (.int many4), some (.ref p81), some (.int cell14), some (.int kind38), some (.int more39), some (.int left40), u33]) rfl ?_
      refine z_nextR ?_
      refine z_next ?_
      exact hN21 _ _ ⟨_, _, _, _, _, _, _, _, _, rfl, g, eS36, z89, c_88, rw87, h⟩
    · replace h := OP.ite0 hc h
      refine z_if (a_and (v_test (v_chn val_c (val_var rfl) val_c rfl rfl)) (v_test (v_o2 (v_len (val_var rfl) (qL_qQ (qL_of c_24.h (RL.mono g.sh r25)))) val_c))) (fun hc => ?_) (fun hc => ?_)
      · replace h := OP.ite1 hc h
        obtain ⟨i91, ei91, h⟩ := OP.bind h
        obtain ⟨w_92, hw_92, rw_92⟩ := v_ixc c_24.h r25 ei91
        have r93 := rw_92
        refine z_set (w := w_92) (σ' := [some v2, some (.int many4), some (.ref l27), some (.int cell14), some (.int kind38), some (.int more39), u32, some w_92]) (hw_92 (val_var rfl) (v_u val_c)) rfl rfl ?_
        refine z_setE ?_
        refine c_op ?_
        refine c_slice (val_var rfl) po0 (po1 (v_u val_c)) ?_
        refine (l_slice (LS.cel c_24.h r25) fun p94 ws95 H_96 e97 np98 ep99 rw100 => ?_)
        have ne103 := c_24.ne np98
        have z102 := g.hnone np98
        have c_101 : Cel [] H S_34 H_96 p94 (.lst ws95) := Cel.own g e97 np98 ep99 rfl
        replace c_24 := c_24.ext e97
        replace g := g.ext e97
        refine c_lstE fun Q_104 hQ_104 => ?_
        refine c_cons ?_
        refine c_tupE fun Q_105 hQ_105 => ?_
        refine c_cons ?_
        refine c_make ?_
        obtain ⟨w_106, hw_106, rw_106⟩ := v_p20 g.sh r93
        refine c_args (va_cons (hw_106 (val_var rfl) val_c) va_nil) ?_
        refine make_in fun p107 dx108 H_109 e110 np111 ep112 => ?_
        have ne116 := c_24.ne np111
        have ne117 := c_101.ne np111
        have z115 := g.hnone np111
        have c_114 : Cel [] H S_34 H_109 p107 (.ins T.c.Not dx108 []) := Cel.own g e110 np111 ep112 rfl
        replace c_24 := c_24.ext e110
        replace c_101 := c_101.ext e110
        replace g := g.ext e110
        have gL125 : ∀ l ∈ [p107], H l = none ∨ l ∈ [] := (LM1 c_114.z LM0)
        refine ⟨S_34, _, _, _, _, _, rfl, g.sh, c_114.h, c_114.s, T.l_Not, T.a_Not_part, rw_106, (OP.of h).mono fun v118 h S_119 H_120 w_122 gc121 hp124 r123 => ?_⟩
        replace c_24 := c_24.call gc121 (NM1 (by first | assumption | exact Ne.symm (by assumption)) NM0)
        replace c_101 := c_101.call gc121 (NM1 (by first | assumption | exact Ne.symm (by assumption)) NM0)
        replace r3 := RdL.mono gc121.ss r3
        replace r25 := RL.mono gc121.ss r25
        replace r93 := Rep.mono _ gc121.ss r93
        replace rw100 := RL.mono gc121.ss rw100
        replace rw_106 := Rep.mono _ gc121.ss rw_106
        replace eS36 := eS36.trans gc121.ss
        replace c_114 := c_114.mut gc121 hp124 rfl
        replace g := g.call gc121 gL125
        refine ⟨rfl, ?_⟩
        obtain ⟨S_126, g127, eS128, r129, ot130⟩ := fz_Formula_Not (c := T.c) g c_114 z115 r123
        replace c_24 := ot130 _ _ (by first | assumption | exact Ne.symm (by assumption)) c_24
        replace c_101 := ot130 _ _ (by first | assumption | exact Ne.symm (by assumption)) c_101
        replace r3 := RdL.mono eS128 r3
        replace r25 := RL.mono eS128 r25
        replace r93 := Rep.mono _ eS128 r93
        replace rw100 := RL.mono eS128 rw100
        replace rw_106 := Rep.mono _ eS128 rw_106
        replace r123 := Rep.mono _ eS128 r123
        replace eS36 := eS36.trans eS128
        replace g := g127
        refine c_cons ?_
        obtain ⟨g131, h⟩ := OP.grd h
        obtain ⟨g132, h⟩ := OP.grd h
        refine c_val (v_o2 (v_o2 (v_o2c val_c (v_o2c val_c (val_var rfl) g131) g132) val_c) (v_t21 (val_var rfl) val_c (Rep.mono _ g.sh r93))) ?_
        refine c_nil ?_
        refine c_newtup (Q := Q_105) (vs := [(.ref p107), (.int (((shl 1 (shl 1 many4)) - 1) - i91.2))]) g.sh (show 2 ≤ 1000 by decide) fun p133 S_134 H_135 gs136 ep137 => ?_
        refine q_eq hQ_105 ?_
        replace r3 := RdL.mono gs136.ss r3
        replace r25 := RL.mono gs136.ss r25
        replace r93 := Rep.mono _ gs136.ss r93
        replace rw100 := RL.mono gs136.ss rw100
        replace r129 := Rep.mono _ gs136.ss r129
        replace eS36 := eS36.trans gs136.ss
        replace c_24 := c_24.call0 gs136
        replace c_101 := c_101.call0 gs136
        replace g := g.call0 gs136
        have r138 : ((qT2 (q_Formula (K := K) T.c) (qI (K := K)))).R S_134 (.ref p133) ((O_Formula.Not v118), (((shl 1 (shl 1 many4)) - 1) - i91.2)) := ⟨p133, _, _, rfl, ep137, r129, rfl⟩
        refine c_nil ?_
        refine c_newlst (Q := Q_104) (vs := [(.ref p133)]) (show 1 ≤ 1000 by decide) fun p139 H_140 e141 np142 ep143 => ?_
        refine q_eq hQ_104 ?_
        have w_144 : RL (qT2 (q_Formula (K := K) T.c) (qI (K := K))) S_134 [(.ref p133)] ([((O_Formula.Not v118), (((shl 1 (shl 1 many4)) - 1) - i91.2))] : List (O_Formula × Int)) := (.cons r138 .nil)
        have ne147 := c_24.ne np142
        have ne148 := c_101.ne np142
        have z146 := g.hnone np142
        have c_145 : Cel [] H S_134 H_140 p139 (.lst [(.ref p133)]) := Cel.own g e141 np142 ep143 rfl
        replace c_24 := c_24.ext e141
        replace c_101 := c_101.ext e141
        replace g := g.ext e141
        obtain ⟨g149, h⟩ := OP.grd h
        refine (l_cat (LP.cel c_101.h rw100) (LP.cel c_145.h w_144) g149 fun p150 ws151 H_152 e153 np154 ep155 rw156 => ?_)
        have ne159 := c_24.ne np154
        have z158 := g.hnone np154
        have c_157 : Cel [] H S_134 H_152 p150 (.lst ws151) := Cel.own g e153 np154 ep155 rfl
        replace c_24 := c_24.ext e153
        replace g := g.ext e153
        refine g_name (σ' := [some v2, some (.int many4), some (.ref p150), some (.int cell14), some (.int kind38), some (.int more39), u32, some w_92]) rfl ?_
        refine z_nextR ?_
        refine z_nextR ?_
        refine z_next ?_
        exact hN21 _ _ ⟨_, _, _, _, _, _, _, _, _, rfl, g, eS36, z158, c_157, rw156, h⟩
      · replace h := OP.ite0 hc h
        refine z_dropE ?_
        refine c_bm (val_var rfl) (tyL c_24.h) ?_
        refine c_cons ?_
        refine c_call ?_
        refine c_args (va_cons (val_var rfl) (va_cons (val_var rfl) (va_cons (val_var rfl) va_nil))) ?_
        have gL166 : ∀ l ∈ [], H l = none ∨ l ∈ [] := LM0
        refine ⟨S_34, _, _, _, rfl, g.sh, (OP.of h).mono fun v160 h S_161 H_162 v164 gc163 r165 => ?_⟩
        replace c_24 := c_24.call gc163 NM0
        replace r3 := RdL.mono gc163.ss r3
        replace r25 := RL.mono gc163.ss r25
        replace eS36 := eS36.trans gc163.ss
        replace g := g.call gc163 gL166
        refine c_nil ?_
        obtain ⟨g167, h⟩ := OP.grd h
        obtain ⟨l168, el168, h⟩ := OP.lt h
        refine c_app g c_24 r25 r165 g167 el168 fun ws169 H_170 g171 c_172 w_173 ot174 => ?_
        replace g := g171
        refine z_nextR ?_
        refine z_nextR ?_
        refine z_next ?_
        exact hN21 _ _ ⟨_, _, _, _, _, _, _, _, _, rfl, g, eS36, z28, c_172, w_173, h⟩
  · intro σ' H_35 p
    obtain ⟨l27, ws23, pile_here26, u29, u30, u31, u32, u33, S_34, rfl, gN, eS36, z28N, c_24N, r25N, h⟩ := p
    replace g := gN
    have z28 := z28N
    have c_24 := c_24N
    have r25 := r25N
    replace r3 := RdL.mono eS36 r3
    replace h := hB18 _ (OP.forO_nil h)
    obtain ⟨B175, h, hB176⟩ := OP.cut h
    refine z_ifj (fun σ' H' => ∃ (ws177 : List V) (pile_here180 : (List (O_Formula × Int))) (S_181 : Hp), σ' = [some v2, some (.int many4), some (.ref l27), u29, u30, u31, u32, u33] ∧ Grow [] S H S_181 H' ∧ Same S_34 S_181 ∧ Cel [] H S_181 H' l27 (.lst ws177) ∧ RL (qT2 (q_Formula (K := K) T.c) (qI (K := K))) S_181 ws177 pile_here180 ∧ B175 pile_here180) (v_test (v_eqI (v_len (val_var rfl) (qL_qQ (qL_of c_24.h (RL.mono g.sh r25)))) val_c)) ?_ (fun hc N hN => ?_) (fun hc N hN => ?_)
    · intro σ' H_182 p
      obtain ⟨ws177, pile_here180, S_181, rfl, gN, eS183, c_178N, r179N, h⟩ := p
      replace g := gN
      have c_178 := c_178N
      have r179 := r179N
      replace r3 := RdL.mono eS183 r3
      replace h := hB176 _ h
      refine z_ret (val_var rfl) ?_
      have h := OP.fin hA h
      exact h _ _ _ _ g z28 c_178.h c_178.s r179
    · replace h := OP.ite1 hc h
      have sn184 := Same.refl S_34
      refine z_dropE ?_
      refine c_bm (val_var rfl) (tyL c_24.h) ?_
      refine c_cons ?_
      refine c_call ?_
      refine c_args (va_cons val_c (va_cons (v_len (val_var rfl) (RdL.q g r3)) (va_cons (val_var rfl) va_nil))) ?_
      have gL191 : ∀ l ∈ [], H l = none ∨ l ∈ [] := LM0
      refine ⟨S_34, _, _, _, rfl, g.sh, (OP.of h).mono fun v185 h S_186 H_187 v189 gc188 r190 => ?_⟩
      replace c_24 := c_24.call gc188 NM0
      replace r3 := RdL.mono gc188.ss r3
      replace r25 := RL.mono gc188.ss r25
      replace sn184 := sn184.trans gc188.ss
      replace g := g.call gc188 gL191
      refine c_nil ?_
      obtain ⟨g192, h⟩ := OP.grd h
      obtain ⟨l193, el193, h⟩ := OP.lt h
      refine c_app g c_24 r25 r190 g192 el193 fun ws194 H_195 g196 c_197 w_198 ot199 => ?_
      replace g := g196
      refine z_next ?_
      exact hN _ _ ⟨_, _, _, rfl, g, sn184, c_197, w_198, h⟩
    · replace h := OP.ite0 hc h
      have sn200 := Same.refl S_34
      refine z_next ?_
      exact hN _ _ ⟨_, _, _, rfl, g, sn200, c_24, r25, h⟩

@[irreducible] def m_Chart_ahead (self1 : O_Chart) (crowd4 : Int) : Option Int :=
(m_stands_of crowd4).bind fun v5 =>
(forO (fun here18 found27 =>
(atI self1.forth here18).bind fun i32 =>
lt (bor found27 i32) fun found33 =>
some found33) (v5) 0).bind (fun found27 =>
some found27)
abbrev s_Chart_ahead : Stmt := inClass (top 9) 1
abbrev sn_Chart_ahead : List Str := ["self", "crowd", "found", "here"]
theorem sc_Chart_ahead : FnScope ["self", "crowd", "found", "here"] ["self", "crowd"] (defScope (s_Chart_ahead)) := ⟨rfl, rfl, rfl, by decide +kernel, rfl, by decide +kernel, by decide +kernel⟩
def p_Chart_ahead (K : PySem.W.Frag) (c : Cl) : Sp := fun vs H Q E => ∃ (S : Hp) (v2 : V) (self1 : O_Chart) (crowd4 : Int), vs = [v2, .int crowd4] ∧ Same S H ∧ ((q_Chart (K := K) c)).R S v2 self1 ∧ OP (m_Chart_ahead self1 crowd4) (fun r => ∀ (S' H' : Hp), Grow [] S H S' H' → Q (.int r) H')
theorem ok_Chart_ahead (T : Tx K mg) : FnOk P w K mg base CX0 2 T.f_Chart_ahead T.d_Chart_ahead ["self", "crowd"] (p_Chart_ahead K T.c) := by
  refine T.F_Chart_ahead.ok sc_Chart_ahead (fun vs H Q E h => by obtain ⟨S, v2, self1, crowd4, rfl, _⟩ := h; rfl) (fun cdv A outer s H vs Q E hr h => ?_)
  obtain ⟨S, v2, self1, crowd4, rfl, gS, r3, h⟩ := h
  obtain ⟨A_, hA⟩ : ∃ A_, A_ = (fun r : Int => ∀ (S' H' : Hp), Grow [] S H S' H' → Q (.int r) H') := ⟨_, rfl⟩
  replace h : OP (m_Chart_ahead self1 crowd4) A_ := hA ▸ h
  rw [m_Chart_ahead] at h
  have hr1 : Room 1 _ := hr.mono (by decide)
  refine ⟨_, (pss_cons (ps_set (i := 2) sc_Chart_ahead.nd rfl (.inl rfl) pe_int)
      (pss_cons (ps_for PassesOwn.never rfl (pi_list (pe_call (ok_stands_of T) hr1 rfl T.m_stands_of T.F_stands_of.kp T.b_stands_of .nil pass0 (pa_cons (pe_var (i := 1) rfl (.inl rfl) rfl rfl) pa_nil))) (pg_name (i := 3) sc_Chart_ahead.nd rfl (.inl rfl)) (pss_cons (ps_aug (i := 2) sc_Chart_ahead.nd rfl (.inl rfl) (pe_ix (show IxR _ (rIxL K) from ix_list) (pe_fld (pe_var (i := 0) rfl (.inl rfl) rfl rfl) rfl) (pe_var (i := 3) rfl (.inl rfl) rfl rfl) (fun _ _ => rfl)) iop_or)
      pss_nil))
      (pss_cons (ps_ret (pe_var (i := 2) rfl (.inl rfl) rfl rfl))
      pss_nil))), ?_⟩
  refine z_start (σ := [some v2, some (.int crowd4), none, none]) rfl ?_
  have g : Grow [] S H S H := Grow.refl gS
  refine z_set (w := (.int 0)) (σ' := [some v2, some (.int crowd4), some (.int 0), none]) val_c rfl rfl ?_
  refine z_forLE ?_
  refine c_call ?_
  refine c_args (va_cons (val_var rfl) va_nil) ?_
  have gL15 : ∀ l ∈ [], H l = none ∨ l ∈ [] := LM0
  refine ⟨S, _, rfl, g.sh, (OP.of h).mono fun v5 h S_6 H_7 p9 ws10 gc8 np11 hp12 sp13 wf14 => ?_⟩
  have z16 := g.hnone np11
  replace r3 := Rep.mono _ gc8.ss r3
  have c_17 : Cel [] H S_6 H_7 p9 (.lst ws10) := ⟨hp12, sp13, .inl z16, rfl⟩
  replace g := g.call gc8 gL15
  obtain ⟨B21, h, hB22⟩ := OP.cut h
  obtain ⟨F23, hF24, h⟩ := OP.nameO h
  have q30e : ((.ref p9) : V) = (.ref p9) := rfl
  have q30p := wf14
  have q30h := SqL.of (K := K) c_17.h
  refine z_forL (v_eq val_c q30e) q30p (fun ys26 σ' H' => ∃ (found27 : Int) (u28 : Option V), σ' = [some v2, some (.int crowd4), some (.int found27), u28] ∧ H_7 = H' ∧ OP (forO F23 ys26 found27) B21) ⟨_, _, rfl, rfl, h⟩ (fun ys σ' H' p => by obtain ⟨found27, u28, rfl, rfl, h⟩ := p; exact q30h) (fun w_19 here18 ys26 σ' H_29 rw20 p N hN25 => ?_) ?_
  · obtain ⟨found27, u28, rfl, rfl, h⟩ := p
    replace h := OP.forO h
    replace h := OP.fcall2 hF24 h
    cases (show w_19 = (.int here18) from rw20)
    refine g_name (σ' := [some v2, some (.int crowd4), some (.int found27), some (.int here18)]) rfl ?_
    obtain ⟨w_31, hw_31, rw_31⟩ := vf_Chart_forth T g.sh r3
    obtain ⟨i32, ei32, h⟩ := OP.bind h
    obtain ⟨found33, efound33, h⟩ := OP.lt h
    refine z_augI (w := (.int found33)) (σ' := [some v2, some (.int crowd4), some (.int found33), some (.int here18)]) rfl (v_ixI (hw_31 (val_var rfl)) (val_var rfl) (qL_qQ (Rep.mono _ g.sh rw_31)) ei32) (congrArg V.int efound33) rfl ?_
    refine z_next ?_
    exact hN25 _ _ ⟨_, _, rfl, rfl, h⟩
  · intro σ' H_34 p
    obtain ⟨found27, u28, rfl, rfl, h⟩ := p
    replace h := hB22 _ (OP.forO_nil h)
    refine z_ret (val_var rfl) ?_
    have h := OP.fin hA h
    exact h _ _ g

@[irreducible] def m__law_onward (stand1 : Int) (changes2 : (List (Int × (O_Formula × Int)))) : Option Int :=
(forO (fun x5 there14 =>
grd (gPow 1 stand1) <|
grd (gDivW (shl 1 stand1)) <|
grd (gPow 1 x5.1) <|
grd (gDivW (shl 1 x5.1)) <|
grd (gPow 1 x5.1) <|
grd (gMul (((x5.2.2 / (shl 1 stand1)) % 2) - ((stand1 / (shl 1 x5.1)) % 2)) (shl 1 x5.1)) <|
lt (there14 + ((((x5.2.2 / (shl 1 stand1)) % 2) - ((stand1 / (shl 1 x5.1)) % 2)) * (shl 1 x5.1))) fun there30 =>
some there30) (changes2) stand1).bind (fun there14 =>
some there14)
abbrev s__law_onward : Stmt := top 34
abbrev sn__law_onward : List Str := ["_law_stand", "_law_changes", "_law_there", "_law_lamp", "_law_pair"]
theorem sc__law_onward : FnScope ["_law_stand", "_law_changes", "_law_there", "_law_lamp", "_law_pair"] ["_law_stand", "_law_changes"] (defScope (s__law_onward)) := ⟨rfl, rfl, rfl, by decide +kernel, rfl, by decide +kernel, by decide +kernel⟩
def p__law_onward (K : PySem.W.Frag) (c : Cl) : Sp := fun vs H Q E => ∃ (S : Hp) (stand1 : Int) (v3 : V) (changes2 : (List (Int × (O_Formula × Int)))), vs = [.int stand1, v3] ∧ Same S H ∧ RdL (qT2 (qI (K := K)) (qT2 (q_Formula (K := K) c) (qI (K := K)))) [] S H v3 changes2 ∧ OP (m__law_onward stand1 changes2) (fun r => ∀ (S' H' : Hp), Grow [] S H S' H' → Q (.int r) H')
theorem ok__law_onward (T : Tx K mg) : FnOk P w K mg base CX0 1 T.f__law_onward T.d__law_onward ["_law_stand", "_law_changes"] (p__law_onward K T.c) := by
  refine T.F__law_onward.ok sc__law_onward (fun vs H Q E h => by obtain ⟨S, stand1, v3, changes2, rfl, _⟩ := h; rfl) (fun cdv A outer s H vs Q E hr h => ?_)
  obtain ⟨S, stand1, v3, changes2, rfl, gS, r4, h⟩ := h
  obtain ⟨A_, hA⟩ : ∃ A_, A_ = (fun r : Int => ∀ (S' H' : Hp), Grow [] S H S' H' → Q (.int r) H') := ⟨_, rfl⟩
  replace h : OP (m__law_onward stand1 changes2) A_ := hA ▸ h
  rw [m__law_onward] at h
  refine ⟨_, (pss_cons (ps_set (i := 2) sc__law_onward.nd rfl (.inl rfl) (pe_var (i := 0) rfl (.inl rfl) rfl rfl))
      (pss_cons (ps_for PassesOwn.never rfl (pi_list (pe_var (i := 1) rfl (.inl rfl) rfl rfl)) (pg_tup rfl (pgs_cons (pg_name (i := 3) sc__law_onward.nd rfl (.inl rfl)) (pgs_cons (pg_name (i := 4) sc__law_onward.nd rfl (.inl rfl)) pgs_nil))) (pss_cons (ps_set (i := 2) sc__law_onward.nd rfl (.inl rfl) (pe_op op_add (pe_var (i := 2) rfl (.inl rfl) rfl rfl) (pe_op op_mul (pe_op op_sub (pe_op op_mod (pe_op op_fdivW (pe_ix (show IxR _ (rIxT K) from ix_tup) (pe_var (i := 4) rfl (.inl rfl) rfl rfl) pe_int (fun _ _ => rfl)) (pe_op op_shl pe_int (pe_var (i := 0) rfl (.inl rfl) rfl rfl))) pe_int) (pe_op op_mod (pe_op op_fdivW (pe_var (i := 0) rfl (.inl rfl) rfl rfl) (pe_op op_shl pe_int (pe_var (i := 3) rfl (.inl rfl) rfl rfl))) pe_int)) (pe_op op_shl pe_int (pe_var (i := 3) rfl (.inl rfl) rfl rfl)))))
      pss_nil))
      (pss_cons (ps_ret (pe_var (i := 2) rfl (.inl rfl) rfl rfl))
      pss_nil))), ?_⟩
  refine z_start (σ := [some (.int stand1), some v3, none, none, none]) rfl ?_
  have g : Grow [] S H S H := Grow.refl gS
  refine z_set (w := (.int stand1)) (σ' := [some (.int stand1), some v3, some (.int stand1), none, none]) (val_var rfl) rfl rfl ?_
  obtain ⟨B8, h, hB9⟩ := OP.cut h
  obtain ⟨F10, hF11, h⟩ := OP.nameO h
  obtain ⟨q18a, q18w, q18e, q18h, q18p⟩ := id r4
  have q18j := g.sq q18h
  refine z_forL (v_eq (val_var rfl) q18e) q18p (fun ys13 σ' H' => ∃ (there14 : Int) (u15 : Option V) (u16 : Option V), σ' = [some (.int stand1), some v3, some (.int there14), u15, u16] ∧ H = H' ∧ OP (forO F10 ys13 there14) B8) ⟨_, _, _, rfl, rfl, h⟩ (fun ys σ' H' p => by obtain ⟨there14, u15, u16, rfl, rfl, h⟩ := p; exact q18j) (fun w_6 x5 ys13 σ' H_17 rw7 p N hN12 => ?_) ?_
  · obtain ⟨there14, u15, u16, rfl, rfl, h⟩ := p
    replace h := OP.forO h
    replace h := OP.fcall2 hF11 h
    have rx19 := rw7
    refine g_tup2 rfl g.sh rx19 fun w_20 w_21 r22 r23 => ?_
    cases (show w_20 = (.int x5.1) from r22)
    refine g_name (σ' := [some (.int stand1), some v3, some (.int there14), some (.int x5.1), u16]) rfl ?_
    refine g_next ?_
    refine g_name (σ' := [some (.int stand1), some v3, some (.int there14), some (.int x5.1), some w_21]) rfl ?_
    refine g_end ?_
    obtain ⟨g24, h⟩ := OP.grd h
    obtain ⟨g25, h⟩ := OP.grd h
    obtain ⟨g26, h⟩ := OP.grd h
    obtain ⟨g27, h⟩ := OP.grd h
    obtain ⟨g28, h⟩ := OP.grd h
    obtain ⟨g29, h⟩ := OP.grd h
    obtain ⟨there30, ethere30, h⟩ := OP.lt h
    refine z_set (w := (.int there30)) (σ' := [some (.int stand1), some v3, some (.int there30), some (.int x5.1), some w_21]) (v_o2 (val_var rfl) (v_o2c (v_o2 (v_o2c (v_o2c (v_t21 (val_var rfl) val_c (Rep.mono _ g.sh r23)) (v_o2c val_c (val_var rfl) g24) (gDivW.ok g25)) val_c (show (0 : Int) < 2 by decide)) (v_o2c (v_o2c (val_var rfl) (v_o2c val_c (val_var rfl) g26) (gDivW.ok g27)) val_c (show (0 : Int) < 2 by decide))) (v_o2c val_c (val_var rfl) g28) g29)) (congrArg V.int ethere30) rfl ?_
    refine z_next ?_
    exact hN12 _ _ ⟨_, _, _, rfl, rfl, h⟩
  · intro σ' H_31 p
    obtain ⟨there14, u15, u16, rfl, rfl, h⟩ := p
    replace h := hB9 _ (OP.forO_nil h)
    refine z_ret (val_var rfl) ?_
    have h := OP.fin hA h
    exact h _ _ g

@[irreducible] def m__law_after (stand1 : Int) (moves_here2 : (List ((O_Formula × Int) × (List (Int × (O_Formula × Int)))))) : Option Int :=
(forO (fun x5 crowd14 =>
grd (gPow 1 stand1) <|
grd (gDivW (shl 1 stand1)) <|
ifo (decide (((x5.1.2 / (shl 1 stand1)) % 2) = 1)) (
(m__law_onward stand1 x5.2).bind fun v28 =>
grd (gPow 1 v28) <|
some (bor crowd14 (shl 1 v28))) (
some crowd14)) (moves_here2) 0).bind (fun crowd14 =>
some crowd14)
abbrev s__law_after : Stmt := top 35
abbrev sn__law_after : List Str := ["_law_stand", "_law_moves_here", "_law_crowd", "_law_guard", "_law_changes"]
theorem sc__law_after : FnScope ["_law_stand", "_law_moves_here", "_law_crowd", "_law_guard", "_law_changes"] ["_law_stand", "_law_moves_here"] (defScope (s__law_after)) := ⟨rfl, rfl, rfl, by decide +kernel, rfl, by decide +kernel, by decide +kernel⟩
def p__law_after (K : PySem.W.Frag) (c : Cl) : Sp := fun vs H Q E => ∃ (S : Hp) (stand1 : Int) (v3 : V) (moves_here2 : (List ((O_Formula × Int) × (List (Int × (O_Formula × Int)))))), vs = [.int stand1, v3] ∧ Same S H ∧ RdL (qT2 (qT2 (q_Formula (K := K) c) (qI (K := K))) (qL (qT2 (qI (K := K)) (qT2 (q_Formula (K := K) c) (qI (K := K)))))) [] S H v3 moves_here2 ∧ OP (m__law_after stand1 moves_here2) (fun r => ∀ (S' H' : Hp), Grow [] S H S' H' → Q (.int r) H')
theorem ok__law_after (T : Tx K mg) : FnOk P w K mg base CX0 2 T.f__law_after T.d__law_after ["_law_stand", "_law_moves_here"] (p__law_after K T.c) := by
  refine T.F__law_after.ok sc__law_after (fun vs H Q E h => by obtain ⟨S, stand1, v3, moves_here2, rfl, _⟩ := h; rfl) (fun cdv A outer s H vs Q E hr h => ?_)
  obtain ⟨S, stand1, v3, moves_here2, rfl, gS, r4, h⟩ := h
  obtain ⟨A_, hA⟩ : ∃ A_, A_ = (fun r : Int => ∀ (S' H' : Hp), Grow [] S H S' H' → Q (.int r) H') := ⟨_, rfl⟩
  replace h : OP (m__law_after stand1 moves_here2) A_ := hA ▸ h
  rw [m__law_after] at h
  have hr1 : Room 1 _ := hr.mono (by decide)
  refine ⟨_, (pss_cons (ps_set (i := 2) sc__law_after.nd rfl (.inl rfl) pe_int)
      (pss_cons (ps_for PassesOwn.never rfl (pi_list (pe_var (i := 1) rfl (.inl rfl) rfl rfl)) (pg_tup rfl (pgs_cons (pg_name (i := 3) sc__law_after.nd rfl (.inl rfl)) (pgs_cons (pg_name (i := 4) sc__law_after.nd rfl (.inl rfl)) pgs_nil))) (pss_cons (ps_if (pt_cmpR op_eq (pe_op op_mod (pe_op op_fdivW (pe_ix (show IxR _ (rIxT K) from ix_tup) (pe_var (i := 3) rfl (.inl rfl) rfl rfl) pe_int (fun _ _ => rfl)) (pe_op op_shl pe_int (pe_var (i := 0) rfl (.inl rfl) rfl rfl))) pe_int) pe_int (nomark _)) (pss_cons (ps_set (i := 2) sc__law_after.nd rfl (.inl rfl) (pe_op op_or (pe_var (i := 2) rfl (.inl rfl) rfl rfl) (pe_op op_shl pe_int (pe_call (ok__law_onward T) hr1 rfl T.m__law_onward T.F__law_onward.kp T.b__law_onward .nil pass0 (pa_cons (pe_var (i := 0) rfl (.inl rfl) rfl rfl) (pa_cons (pe_var (i := 4) rfl (.inl rfl) rfl rfl) pa_nil))))))
      pss_nil) pss_nil)
      pss_nil))
      (pss_cons (ps_ret (pe_var (i := 2) rfl (.inl rfl) rfl rfl))
      pss_nil))), ?_⟩
  refine z_start (σ := [some (.int stand1), some v3, none, none, none]) rfl ?_
  have g : Grow [] S H S H := Grow.refl gS
  refine z_set (w := (.int 0)) (σ' := [some (.int stand1), some v3, some (.int 0), none, none]) val_c rfl rfl ?_
  obtain ⟨B8, h, hB9⟩ := OP.cut h
  obtain ⟨F10, hF11, h⟩ := OP.nameO h
  obtain ⟨q20a, q20w, q20e, q20h, q20p⟩ := id r4
  refine z_forL (v_eq (val_var rfl) q20e) q20p (fun ys13 σ' H' => ∃ (crowd14 : Int) (u15 : Option V) (u16 : Option V) (S_17 : Hp), σ' = [some (.int stand1), some v3, some (.int crowd14), u15, u16] ∧ Grow [] S H S_17 H' ∧ Same S S_17 ∧ OP (forO F10 ys13 crowd14) B8) ⟨_, _, _, _, rfl, g, (Same.refl _), h⟩ (fun ys σ' H' p => by obtain ⟨crowd14, u15, u16, S_17, rfl, gN, eS19, h⟩ := p; exact gN.sq q20h) (fun w_6 x5 ys13 σ' H_18 rw7 p N hN12 => ?_) ?_
  · obtain ⟨crowd14, u15, u16, S_17, rfl, gN, eS19, h⟩ := p
    replace g := gN
    replace r4 := RdL.mono eS19 r4
    replace h := OP.forO h
    replace h := OP.fcall2 hF11 h
    have rx21 := Rep.mono _ eS19 rw7
    refine g_tup2 rfl g.sh rx21 fun w_22 w_23 r24 r25 => ?_
    refine g_name (σ' := [some (.int stand1), some v3, some (.int crowd14), some w_22, u16]) rfl ?_
    refine g_next ?_
    refine g_name (σ' := [some (.int stand1), some v3, some (.int crowd14), some w_22, some w_23]) rfl ?_
    refine g_end ?_
    obtain ⟨g26, h⟩ := OP.grd h
    obtain ⟨g27, h⟩ := OP.grd h
    refine z_if (v_test (v_eqI (v_o2c (v_o2c (v_t21 (val_var rfl) val_c (Rep.mono _ g.sh r24)) (v_o2c val_c (val_var rfl) g26) (gDivW.ok g27)) val_c (show (0 : Int) < 2 by decide)) val_c)) (fun hc => ?_) (fun hc => ?_)
    · replace h := OP.ite1 hc h
      refine z_setE ?_
      refine c_op ?_
      refine c_val (val_var rfl) ?_
      refine c_op ?_
      refine c_val val_c ?_
      refine c_call ?_
      refine c_args (va_cons (val_var rfl) (va_cons (val_var rfl) va_nil)) ?_
      have gL32 : ∀ l ∈ [], H l = none ∨ l ∈ [] := LM0
      refine ⟨S_17, _, _, _, rfl, g.sh, (RdL.ofL g.sh r25 LM0), (OP.of h).mono fun v28 h S_29 H_30 gc31 => ?_⟩
      replace r4 := RdL.mono gc31.ss r4
      replace r24 := Rep.mono _ gc31.ss r24
      replace r25 := Rep.mono _ gc31.ss r25
      replace eS19 := eS19.trans gc31.ss
      replace g := g.call gc31 gL32
      obtain ⟨g33, h⟩ := OP.grd h
      refine e_o2c g33 ?_
      refine e_o2 ?_
      refine g_name (σ' := [some (.int stand1), some v3, some (.int (bor crowd14 (shl 1 v28))), some w_22, some w_23]) rfl ?_
      refine z_nextR ?_
      refine z_next ?_
      exact hN12 _ _ ⟨_, _, _, _, rfl, g, eS19, h⟩
    · replace h := OP.ite0 hc h
      refine z_nextR ?_
      refine z_next ?_
      exact hN12 _ _ ⟨_, _, _, _, rfl, g, eS19, h⟩
  · intro σ' H_18 p
    obtain ⟨crowd14, u15, u16, S_17, rfl, gN, eS19, h⟩ := p
    replace g := gN
    replace r4 := RdL.mono eS19 r4
    replace h := hB9 _ (OP.forO_nil h)
    refine z_ret (val_var rfl) ?_
    have h := OP.fin hA h
    exact h _ _ g

@[irreducible] def m__law_any (pairs1 : (List (O_Formula × Int))) : Option Int :=
(forO (fun pair4 crowd13 =>
lt (bor crowd13 pair4.2) fun crowd18 =>
some crowd18) (pairs1) 0).bind (fun crowd13 =>
some crowd13)
abbrev s__law_any : Stmt := top 36
abbrev sn__law_any : List Str := ["_law_pairs", "_law_crowd", "_law_pair"]
theorem sc__law_any : FnScope ["_law_pairs", "_law_crowd", "_law_pair"] ["_law_pairs"] (defScope (s__law_any)) := ⟨rfl, rfl, rfl, by decide +kernel, rfl, by decide +kernel, by decide +kernel⟩
def p__law_any (K : PySem.W.Frag) (c : Cl) : Sp := fun vs H Q E => ∃ (v2 : V) (pairs1 : (List (O_Formula × Int))), vs = [v2] ∧ ((qQ (qT2 (q_Formula (K := K) c) (qI (K := K))))).R H v2 pairs1 ∧ OP (m__law_any pairs1) (fun r => Q (.int r) H)
theorem ok__law_any (T : Tx K mg) : FnOk P w K mg base CX0 1 T.f__law_any T.d__law_any ["_law_pairs"] (p__law_any K T.c) := by
  refine T.F__law_any.ok sc__law_any (fun vs H Q E h => by obtain ⟨v2, pairs1, rfl, _⟩ := h; rfl) (fun cdv A outer s H vs Q E hr h => ?_)
  obtain ⟨v2, pairs1, rfl, r3, h⟩ := h
  obtain ⟨A_, hA⟩ : ∃ A_, A_ = (fun r : Int => Q (.int r) H) := ⟨_, rfl⟩
  replace h : OP (m__law_any pairs1) A_ := hA ▸ h
  rw [m__law_any] at h
  refine ⟨_, (pss_cons (ps_set (i := 1) sc__law_any.nd rfl (.inl rfl) pe_int)
      (pss_cons (ps_for PassesOwn.never rfl (pi_list (pe_var (i := 0) rfl (.inl rfl) rfl rfl)) (pg_name (i := 2) sc__law_any.nd rfl (.inl rfl)) (pss_cons (ps_set (i := 1) sc__law_any.nd rfl (.inl rfl) (pe_op op_or (pe_var (i := 1) rfl (.inl rfl) rfl rfl) (pe_ix (show IxR _ (rIxT K) from ix_tup) (pe_var (i := 2) rfl (.inl rfl) rfl rfl) pe_int (fun _ _ => rfl))))
      pss_nil))
      (pss_cons (ps_ret (pe_var (i := 1) rfl (.inl rfl) rfl rfl))
      pss_nil))), ?_⟩
  refine z_start (σ := [some v2, none, none]) rfl ?_
  have g : Grow [] H H H H := Grow.refl (Same.refl _)
  refine z_set (w := (.int 0)) (σ' := [some v2, some (.int 0), none]) val_c rfl rfl ?_
  obtain ⟨B7, h, hB8⟩ := OP.cut h
  obtain ⟨F9, hF10, h⟩ := OP.nameO h
  obtain ⟨q16a, q16w, q16e, q16h, q16p⟩ := id r3
  replace q16h := g.sh.seq q16h
  refine z_forL (v_eq (val_var rfl) q16e) q16p (fun ys12 σ' H' => ∃ (crowd13 : Int) (u14 : Option V), σ' = [some v2, some (.int crowd13), u14] ∧ H = H' ∧ OP (forO F9 ys12 crowd13) B7) ⟨_, _, rfl, rfl, h⟩ (fun ys σ' H' p => by obtain ⟨crowd13, u14, rfl, rfl, h⟩ := p; exact q16h) (fun w_5 pair4 ys12 σ' H_15 rw6 p N hN11 => ?_) ?_
  · obtain ⟨crowd13, u14, rfl, rfl, h⟩ := p
    replace h := OP.forO h
    replace h := OP.fcall2 hF10 h
    have rx17 := rw6
    refine g_name (σ' := [some v2, some (.int crowd13), some w_5]) rfl ?_
    obtain ⟨crowd18, ecrowd18, h⟩ := OP.lt h
    refine z_set (w := (.int crowd18)) (σ' := [some v2, some (.int crowd18), some w_5]) (v_o2 (val_var rfl) (v_t21 (val_var rfl) val_c (Rep.mono _ g.sh rx17))) (congrArg V.int ecrowd18) rfl ?_
    refine z_next ?_
    exact hN11 _ _ ⟨_, _, rfl, rfl, h⟩
  · intro σ' H_19 p
    obtain ⟨crowd13, u14, rfl, rfl, h⟩ := p
    replace h := hB8 _ (OP.forO_nil h)
    refine z_ret (val_var rfl) ?_
    have h := OP.fin hA h
    exact h

@[irreducible] def m__law_number (found1 : Int) (due2 : Int) : Option Bool :=
some (true && ((!false) && (decide (found1 = due2))))
abbrev s__law_number : Stmt := top 37
abbrev sn__law_number : List Str := ["_law_found", "_law_due"]
theorem sc__law_number : FnScope ["_law_found", "_law_due"] ["_law_found", "_law_due"] (defScope (s__law_number)) := ⟨rfl, rfl, rfl, by decide +kernel, rfl, by decide +kernel, by decide +kernel⟩
def p__law_number (K : PySem.W.Frag) (c : Cl) : Sp := fun vs H Q E => ∃ (found1 : Int) (due2 : Int), vs = [.int found1, .int due2] ∧ OP (m__law_number found1 due2) (fun r => Q (.bl r) H)
theorem ok__law_number (T : Tx K mg) : FnOk P w K mg base CX0 1 T.f__law_number T.d__law_number ["_law_found", "_law_due"] (p__law_number K T.c) := by
  refine T.F__law_number.ok sc__law_number (fun vs H Q E h => by obtain ⟨found1, due2, rfl, _⟩ := h; rfl) (fun cdv A outer s H vs Q E hr h => ?_)
  obtain ⟨found1, due2, rfl, h⟩ := h
  obtain ⟨A_, hA⟩ : ∃ A_, A_ = (fun r : Bool => Q (.bl r) H) := ⟨_, rfl⟩
  replace h : OP (m__law_number found1 due2) A_ := hA ▸ h
  rw [m__law_number] at h
  refine ⟨_, (pss_cons (ps_ret (pe_and (pe_callB (show CallR _ (.builtin "isinstance") (rIsi K) from call_isi) rfl T.n_isinstance bt_isinstance (pa_cons (pe_var (i := 0) rfl (.inl rfl) rfl rfl) (pa_cons (pe_bltn (v := .ty "int") rfl T.n_int bt_int rfl) pa_nil))) (pe_and (pe_not (pe_callB (show CallR _ (.builtin "isinstance") (rIsi K) from call_isi) rfl T.n_isinstance bt_isinstance (pa_cons (pe_var (i := 0) rfl (.inl rfl) rfl rfl) (pa_cons (pe_bltn (v := .ty "bool") rfl T.n_bool bt_bool rfl) pa_nil)))) (pe_one (pe_cmpR op_eq (pe_var (i := 0) rfl (.inl rfl) rfl rfl) (pe_var (i := 1) rfl (.inl rfl) rfl rfl) (nomark _))))))
      pss_nil), ?_⟩
  refine z_start (σ := [some (.int found1), some (.int due2)]) rfl ?_
  have g : Grow [] H H H H := Grow.refl (Same.refl _)
  refine z_ret (v_and (v_isi (val_var rfl) ty_int (k := true) (by decide +kernel)) (v_and (v_not (v_isi (val_var rfl) ty_int (k := false) (by decide +kernel))) (v_eqI (val_var rfl) (val_var rfl)))) ?_
  have h := OP.fin hA h
  exact h

@[irreducible] def m__law_tells (chart1 : O_Chart) (many4 : Int) (starts5 : (List (O_Formula × Int))) (bads8 : (List (O_Formula × Int))) (moves_here11 : (List ((O_Formula × Int) × (List (Int × (O_Formula × Int)))))) : Option Bool :=
(ifo (!(is_Chart_Chart chart1)) (some true) ((m__law_number chart1.many many4).bind fun v14 =>
some (!v14))).bind fun c_15 =>
ifo c_15 (
some false) (
(m__law_any starts5).bind fun v16 =>
(m__law_number chart1.starts v16).bind fun v17 =>
(ifo (!v17) (some true) ((m__law_any bads8).bind fun v18 =>
(m__law_number chart1.bads v18).bind fun v19 =>
some (!v19))).bind fun c_20 =>
ifo c_20 (
some false) (
grd (gPow 1 many4) <|
grd (gR (shl 1 many4)) <|
brk (forR (fun stand23 _ =>
grd (gPow 1 stand23) <|
(m_Chart_ahead chart1 (shl 1 stand23)).bind fun v37 =>
(m__law_after stand23 moves_here11).bind fun v42 =>
(m__law_number v37 v42).bind fun v47 =>
ifo (!v47) (
some (.inr false)) (
some (.inl ()))) (rangeI 0 (Int.toNat (shl 1 many4))) ()) (fun _ =>
some true)))
abbrev s__law_tells : Stmt := top 38
abbrev sn__law_tells : List Str := ["_law_chart", "_law_many", "_law_starts", "_law_bads", "_law_moves_here", "_law_stand"]
theorem sc__law_tells : FnScope ["_law_chart", "_law_many", "_law_starts", "_law_bads", "_law_moves_here", "_law_stand"] ["_law_chart", "_law_many", "_law_starts", "_law_bads", "_law_moves_here"] (defScope (s__law_tells)) := ⟨rfl, rfl, rfl, by decide +kernel, rfl, by decide +kernel, by decide +kernel⟩
def p__law_tells (K : PySem.W.Frag) (c : Cl) : Sp := fun vs H Q E => ∃ (S : Hp) (v2 : V) (chart1 : O_Chart) (many4 : Int) (v6 : V) (starts5 : (List (O_Formula × Int))) (v9 : V) (bads8 : (List (O_Formula × Int))) (v12 : V) (moves_here11 : (List ((O_Formula × Int) × (List (Int × (O_Formula × Int)))))), vs = [v2, .int many4, v6, v9, v12] ∧ Same S H ∧ ((q_Chart (K := K) c)).R S v2 chart1 ∧ RdL (qT2 (q_Formula (K := K) c) (qI (K := K))) [] S H v6 starts5 ∧ RdL (qT2 (q_Formula (K := K) c) (qI (K := K))) [] S H v9 bads8 ∧ RdL (qT2 (qT2 (q_Formula (K := K) c) (qI (K := K))) (qL (qT2 (qI (K := K)) (qT2 (q_Formula (K := K) c) (qI (K := K)))))) [] S H v12 moves_here11 ∧ OP (m__law_tells chart1 many4 starts5 bads8 moves_here11) (fun r => ∀ (S' H' : Hp), Grow [] S H S' H' → Q (.bl r) H')
theorem ok__law_tells (T : Tx K mg) : FnOk P w K mg base CX0 3 T.f__law_tells T.d__law_tells ["_law_chart", "_law_many", "_law_starts", "_law_bads", "_law_moves_here"] (p__law_tells K T.c) := by
  refine T.F__law_tells.ok sc__law_tells (fun vs H Q E h => by obtain ⟨S, v2, chart1, many4, v6, starts5, v9, bads8, v12, moves_here11, rfl, _⟩ := h; rfl) (fun cdv A outer s H vs Q E hr h => ?_)
  obtain ⟨S, v2, chart1, many4, v6, starts5, v9, bads8, v12, moves_here11, rfl, gS, r3, r7, r10, r13, h⟩ := h
  obtain ⟨A_, hA⟩ : ∃ A_, A_ = (fun r : Bool => ∀ (S' H' : Hp), Grow [] S H S' H' → Q (.bl r) H') := ⟨_, rfl⟩
  replace h : OP (m__law_tells chart1 many4 starts5 bads8 moves_here11) A_ := hA ▸ h
  rw [m__law_tells] at h
  have hr1 : Room 1 _ := hr.mono (by decide)
  have hr2 : Room 2 _ := hr.mono (by decide)
  refine ⟨_, (pss_cons (ps_if (PW.pt (pw_or (pt_not (pt_val (pe_callB (show CallR _ (.builtin "isinstance") (rIsi K) from call_isi) rfl T.n_isinstance bt_isinstance (pa_cons (pe_var (i := 0) rfl (.inl rfl) rfl rfl) (pa_cons (pe_glob (v := .ref T.c.Chart) rfl T.m_Chart (show Value.ref T.c.Chart = _ from rfl)) pa_nil))))) (pw_or1 (pt_not (pt_val (pe_call (ok__law_number T) hr1 rfl T.m__law_number T.F__law_number.kp T.b__law_number .nil pass0 (pa_cons (pe_fld (pe_var (i := 0) rfl (.inl rfl) rfl rfl) rfl) (pa_cons (pe_var (i := 1) rfl (.inl rfl) rfl rfl) pa_nil)))))))) (pss_cons (ps_ret pe_bl)
      pss_nil) pss_nil)
      (pss_cons (ps_if (PW.pt (pw_or (pt_not (pt_val (pe_call (ok__law_number T) hr1 rfl T.m__law_number T.F__law_number.kp T.b__law_number .nil pass0 (pa_cons (pe_fld (pe_var (i := 0) rfl (.inl rfl) rfl rfl) rfl) (pa_cons (pe_call (ok__law_any T) hr1 rfl T.m__law_any T.F__law_any.kp T.b__law_any .nil pass0 (pa_cons (pe_var (i := 2) rfl (.inl rfl) rfl rfl) pa_nil)) pa_nil))))) (pw_or1 (pt_not (pt_val (pe_call (ok__law_number T) hr1 rfl T.m__law_number T.F__law_number.kp T.b__law_number .nil pass0 (pa_cons (pe_fld (pe_var (i := 0) rfl (.inl rfl) rfl rfl) rfl) (pa_cons (pe_call (ok__law_any T) hr1 rfl T.m__law_any T.F__law_any.kp T.b__law_any .nil pass0 (pa_cons (pe_var (i := 3) rfl (.inl rfl) rfl rfl) pa_nil)) pa_nil)))))))) (pss_cons (ps_ret pe_bl)
      pss_nil) pss_nil)
      (pss_cons (ps_for PassesOwn.never rfl (pi_range1 rfl T.n_range (pa_cons (pe_op op_shl pe_int (pe_var (i := 1) rfl (.inl rfl) rfl rfl)) pa_nil)) (pg_name (i := 5) sc__law_tells.nd rfl (.inl rfl)) (pss_cons (ps_if (pt_not (pt_val (pe_call (ok__law_number T) hr1 rfl T.m__law_number T.F__law_number.kp T.b__law_number .nil pass0 (pa_cons (pe_meth (pe_var (i := 0) rfl (.inl rfl) rfl rfl) T.l_Chart T.t_Chart_ahead (ok_Chart_ahead T) hr2 T.b_Chart_ahead .nil pass0 (pa_cons (pe_op op_shl pe_int (pe_var (i := 5) rfl (.inl rfl) rfl rfl)) pa_nil)) (pa_cons (pe_call (ok__law_after T) hr2 rfl T.m__law_after T.F__law_after.kp T.b__law_after .nil pass0 (pa_cons (pe_var (i := 5) rfl (.inl rfl) rfl rfl) (pa_cons (pe_var (i := 4) rfl (.inl rfl) rfl rfl) pa_nil))) pa_nil))))) (pss_cons (ps_ret pe_bl)
      pss_nil) pss_nil)
      pss_nil))
      (pss_cons (ps_ret pe_bl)
      pss_nil)))), ?_⟩
  refine z_start (σ := [some v2, some (.int many4), some v6, some v9, some v12, none]) rfl ?_
  have g : Grow [] S H S H := Grow.refl gS
  obtain ⟨c_15, ec_15, h⟩ := OP.bind h
  refine z_if (a_orP (a_not (v_B (v_is_Chart_Chart T (val_var rfl) (Rep.mono _ g.sh r3)))) ec_15 (fun hb hm => by
        obtain ⟨v14, ev14, hm⟩ := bind_some hm
        exact (a_eq (a_not (v_B (v_call (va_cons (vf_Chart_many T (val_var rfl) (Rep.mono _ g.sh r3)) (va_cons (val_var rfl) va_nil)) fun Q q => ⟨_, _, rfl, OP.mk ev14 q⟩))) (Option.some.inj hm)))) (fun hc => ?_) (fun hc => ?_)
  · replace h := OP.ite1 hc h
    refine z_ret val_c ?_
    have h := OP.fin hA h
    exact h _ _ g
  · replace h := OP.ite0 hc h
    refine z_nextR ?_
    obtain ⟨v16, ev16, h⟩ := OP.bind h
    obtain ⟨v17, ev17, h⟩ := OP.bind h
    obtain ⟨c_20, ec_20, h⟩ := OP.bind h
    refine z_if (a_orP (a_not (v_B (v_call (va_cons (vf_Chart_starts T (val_var rfl) (Rep.mono _ g.sh r3)) (va_cons (v_call (va_cons (val_var rfl) va_nil) fun Q q => ⟨_, _, rfl, (RdL.q g r7), OP.mk ev16 q⟩) va_nil)) fun Q q => ⟨_, _, rfl, OP.mk ev17 q⟩))) ec_20 (fun hb hm => by
          obtain ⟨v18, ev18, hm⟩ := bind_some hm
          obtain ⟨v19, ev19, hm⟩ := bind_some hm
          exact (a_eq (a_not (v_B (v_call (va_cons (vf_Chart_bads T (val_var rfl) (Rep.mono _ g.sh r3)) (va_cons (v_call (va_cons (val_var rfl) va_nil) fun Q q => ⟨_, _, rfl, (RdL.q g r10), OP.mk ev18 q⟩) va_nil)) fun Q q => ⟨_, _, rfl, OP.mk ev19 q⟩))) (Option.some.inj hm)))) (fun hc => ?_) (fun hc => ?_)
    · replace h := OP.ite1 hc h
      refine z_ret val_c ?_
      have h := OP.fin hA h
      exact h _ _ g
    · replace h := OP.ite0 hc h
      refine z_nextR ?_
      obtain ⟨g21, h⟩ := OP.grd h
      obtain ⟨g22, h⟩ := OP.grd h
      obtain ⟨B26, h, hB27⟩ := OP.brk h
      obtain ⟨F28, hF29, h⟩ := OP.nameR h
      refine z_for1 (j := (shl 1 many4)) (va_cons (v_o2c val_c (val_var rfl) g21) va_nil) g22 (fun ys31 σ' H' => ∃ (u32 : Option V) (S_33 : Hp), σ' = [some v2, some (.int many4), some v6, some v9, some v12, u32] ∧ Grow [] S H S_33 H' ∧ Same S S_33 ∧ OP (forR F28 ys31 ()) (SE B26 A_)) ⟨_, _, rfl, g, (Same.refl _), h⟩ (fun stand23 ys31 σ' H_34 p N hN30 => ?_) ?_
      · obtain ⟨u32, S_33, rfl, gN, eS35, h⟩ := p
        replace g := gN
        replace r3 := Rep.mono _ eS35 r3
        replace r7 := RdL.mono eS35 r7
        replace r10 := RdL.mono eS35 r10
        replace r13 := RdL.mono eS35 r13
        replace h := OP.forR h
        replace h := OP.fcall2 hF29 h
        refine g_name (σ' := [some v2, some (.int many4), some v6, some v9, some v12, some (.int stand23)]) rfl ?_
        refine z_ifE ?_
        refine c_not ?_
        refine c_B ?_
        refine c_call ?_
        refine c_cons ?_
        refine c_meth (val_var rfl) (in_Chart (Rep.mono _ g.sh r3)) (m := "ahead") (by decide) ?_
        obtain ⟨g36, h⟩ := OP.grd h
        refine c_args (va_cons (v_o2c val_c (val_var rfl) g36) va_nil) ?_
        have gL41 : ∀ l ∈ [], H l = none ∨ l ∈ [] := LM0
        refine ⟨S_33, _, _, _, rfl, g.sh, r3, (OP.of h).mono fun v37 h S_38 H_39 gc40 => ?_⟩
        replace r3 := Rep.mono _ gc40.ss r3
        replace r7 := RdL.mono gc40.ss r7
        replace r10 := RdL.mono gc40.ss r10
        replace r13 := RdL.mono gc40.ss r13
        replace eS35 := eS35.trans gc40.ss
        replace g := g.call gc40 gL41
        refine c_cons ?_
        refine c_call ?_
        refine c_args (va_cons (val_var rfl) (va_cons (val_var rfl) va_nil)) ?_
        have gL46 : ∀ l ∈ [], H l = none ∨ l ∈ [] := LM0
        refine ⟨S_38, _, _, _, rfl, g.sh, (RdL.to g r13 LM0), (OP.of h).mono fun v42 h S_43 H_44 gc45 => ?_⟩
        replace r3 := Rep.mono _ gc45.ss r3
        replace r7 := RdL.mono gc45.ss r7
        replace r10 := RdL.mono gc45.ss r10
        replace r13 := RdL.mono gc45.ss r13
        replace eS35 := eS35.trans gc45.ss
        replace g := g.call gc45 gL46
        refine c_nil ?_
        obtain ⟨v47, ev47, h⟩ := OP.bind h
        refine ⟨_, _, rfl, OP.mk ev47 ?_⟩
        refine ⟨_, rfl, ?_⟩
        refine ifb (fun hc => ?_) (fun hc => ?_)
        · replace h := OP.ite1 hc h
          refine z_ret val_c ?_
          have h := OP.fin hA h
          exact h _ _ g
        · replace h := OP.ite0 hc h
          refine z_nextR ?_
          refine z_next ?_
          exact hN30 _ _ ⟨_, _, rfl, g, eS35, h⟩
      · intro σ' H_34 p
        obtain ⟨u32, S_33, rfl, gN, eS35, h⟩ := p
        replace g := gN
        replace r3 := Rep.mono _ eS35 r3
        replace r7 := RdL.mono eS35 r7
        replace r10 := RdL.mono eS35 r10
        replace r13 := RdL.mono eS35 r13
        replace h := hB27 _ (OP.forR_nil h)
        refine z_ret val_c ?_
        have h := OP.fin hA h
        exact h _ _ g

@[irreducible] def m_law (script1 : (List Int)) : Option Bool :=
(m__law_cell_at script1 0).bind fun v4 =>
(m__law_cell_at script1 1).bind fun v5 =>
lt (1 + (v4 % 6)) fun many6 =>
(m__law_pile (cutI script1 (some 3) (some 63)) many6).bind fun v16 =>
(m__law_picked v16 ((v4 / 12) % 9) v5 7).bind fun v35 =>
(m__law_picked v16 ((v4 / 108) % 9) (v5 / 9) 3).bind fun v53 =>
(m__law_cell_at script1 2).bind fun v71 =>
(m__law_cell_at script1 2).bind fun v72 =>
(m__law_moves v16 many6 (v71 % 9) (v72 / 9)).bind fun v73 =>
(ifo (decide (((v4 / 6) % 2) = 1)) (
(m__law_any_picked v16 ([v5] : List Int)).bind fun v540 =>
(m__law_any_picked v16 v540.2).bind fun v562 =>
(m__law_cell_at script1 2).bind fun v585 =>
(m__law_any_moves v16 many6 ([v585] : List Int)).bind fun v595 =>
some (v540.1, v562.1, v595.1)) (
some (v35, v53, v73))).bind (fun s => un3 (fun starts94 bads97 moves_here100 =>
(compO (fun zx107 =>
some (some zx107.1)) (starts94)).bind fun ys113 =>
(compO (fun zx123 =>
some (some zx123.1)) (bads97)).bind fun ys129 =>
(forO (fun x161 s =>
un3 (fun handed173 handed177 handed181 =>
(forO (fun lamp224 acc210220 =>
grd (acc210220.length < 16777216) <|
lt (acc210220 ++ [(lamp224.1, lamp224.2.1)]) fun l241 =>
some l241) (x161.2) ([] : List (Int × O_Formula))).bind fun acc210220 =>
(m_Move___init__ x161.1.1 acc210220).bind fun v263 =>
grd (handed181.length < 16777216) <|
lt (handed181 ++ [v263]) fun l279 =>
some (handed173, handed177, l279)) s) (moves_here100) (ys113, ys129, ([] : List O_Move))).bind (fun s => un3 (fun handed173 handed177 handed181 =>
(m_Machine___init__ (cutI ([("a" : Str), ("b" : Str), ("c" : Str), ("d" : Str), ("e" : Str), ("f" : Str)] : List Str) none (some many6)) handed173 handed177 handed181).bind fun v331 =>
(m_Machine___init__ (cutI ([("a" : Str), ("b" : Str), ("c" : Str), ("d" : Str), ("e" : Str), ("f" : Str)] : List Str) none (some many6)) handed177 handed173 handed181.reverse).bind fun v397 =>
(ifo (!(decide (((cutI ([("a" : Str), ("b" : Str), ("c" : Str), ("d" : Str), ("e" : Str), ("f" : Str)] : List Str) none (some many6)).length : Int) = many6))) (
some true) (
(compO (fun zx425 => some (some zx425)) ([(handed173.length : Int), (handed177.length : Int), (handed181.length : Int)] : List Int)).bind fun ys426 =>
some (!(decide (ys426 = ([(starts94.length : Int), (bads97.length : Int), (moves_here100.length : Int)] : List Int)))))).bind fun b458 =>
ifo b458 (
some false) (
(m_Machine_chart v331).bind fun v459 =>
(m__law_tells v459 many6 starts94 bads97 moves_here100).bind fun v466 =>
ifo (!v466) (
some false) (
(m_Machine_chart v397).bind fun v471 =>
(m__law_tells v471 many6 bads97 starts94 moves_here100).bind fun v478 =>
ifo (!v478) (
some false) (
(m_Machine_chart v331).bind fun v518 =>
(m__law_tells v518 many6 starts94 bads97 moves_here100).bind fun v525 =>
some v525)))) s)) s)
abbrev s_law : Stmt := top 39
abbrev sn_law : List Str := ["_law_script", "_law_first", "_law_second", "_law_many", "_law_pile_here", "_law_starts", "_law_bads", "_law_moves_here", "_law_bag", "_law_handed", "_law_guard", "_law_changes", "_law_some", "_law_names", "_law_machine", "_law_other", "_law_row", "_law_lamp", "_law_pair"]
theorem sc_law : FnScope ["_law_script", "_law_first", "_law_second", "_law_many", "_law_pile_here", "_law_starts", "_law_bads", "_law_moves_here", "_law_bag", "_law_handed", "_law_guard", "_law_changes", "_law_some", "_law_names", "_law_machine", "_law_other", "_law_row", "_law_lamp", "_law_pair"] ["_law_script"] (defScope (s_law)) := ⟨rfl, rfl, rfl, by decide +kernel, rfl, by decide +kernel, by decide +kernel⟩
def p_law (K : PySem.W.Frag) (c : Cl) : Sp := fun vs H Q E => ∃ (S : Hp) (v2 : V) (script1 : (List Int)), vs = [v2] ∧ Same S H ∧ RdL (qI (K := K)) [] S H v2 script1 ∧ OP (m_law script1) (fun r => ∀ (S' H' : Hp), Grow [] S H S' H' → Q (.bl r) H')
theorem ok_law (T : Tx K mg) : FnOk P w K mg base CX0 105 T.f_law T.d_law ["_law_script"] (p_law K T.c) := by
  refine T.F_law.ok sc_law (fun vs H Q E h => by obtain ⟨S, v2, script1, rfl, _⟩ := h; rfl) (fun cdv A outer s H vs Q E hr h => ?_)
  obtain ⟨S, v2, script1, rfl, gS, r3, h⟩ := h
  obtain ⟨A_, hA⟩ : ∃ A_, A_ = (fun r : Bool => ∀ (S' H' : Hp), Grow [] S H S' H' → Q (.bl r) H') := ⟨_, rfl⟩
  replace h : OP (m_law script1) A_ := hA ▸ h
  rw [m_law] at h
  have hr1 : Room 1 _ := hr.mono (by decide)
  have hr2 : Room 2 _ := hr.mono (by decide)
  have hr3 : Room 3 _ := hr.mono (by decide)
  have hr4 : Room 4 _ := hr.mono (by decide)
  have hr104 : Room 104 _ := hr.mono (by decide)
  refine ⟨_, (pss_cons (ps_set (i := 1) sc_law.nd rfl (.inl rfl) (pe_call (ok__law_cell_at T) hr1 rfl T.m__law_cell_at T.F__law_cell_at.kp T.b__law_cell_at .nil pass0 (pa_cons (pe_var (i := 0) rfl (.inl rfl) rfl rfl) (pa_cons pe_int pa_nil))))
      (pss_cons (ps_set (i := 2) sc_law.nd rfl (.inl rfl) (pe_call (ok__law_cell_at T) hr1 rfl T.m__law_cell_at T.F__law_cell_at.kp T.b__law_cell_at .nil pass0 (pa_cons (pe_var (i := 0) rfl (.inl rfl) rfl rfl) (pa_cons pe_int pa_nil))))
      (pss_cons (ps_set (i := 3) sc_law.nd rfl (.inl rfl) (pe_op op_add pe_int (pe_op op_mod (pe_var (i := 1) rfl (.inl rfl) rfl rfl) pe_int)))
      (pss_cons (ps_set (i := 4) sc_law.nd rfl (.inl rfl) (pe_call (ok__law_pile T) hr4 rfl T.m__law_pile T.F__law_pile.kp T.b__law_pile .nil pass0 (pa_cons (pe_slice sl_list (pe_var (i := 0) rfl (.inl rfl) rfl rfl) (po_some pe_int) (po_some pe_int)) (pa_cons (pe_var (i := 3) rfl (.inl rfl) rfl rfl) pa_nil))))
      (pss_cons (ps_set (i := 5) sc_law.nd rfl (.inl rfl) (pe_call (ok__law_picked T) hr1 rfl T.m__law_picked T.F__law_picked.kp T.b__law_picked .nil pass0 (pa_cons (pe_var (i := 4) rfl (.inl rfl) rfl rfl) (pa_cons (pe_op op_mod (pe_op op_fdiv (pe_var (i := 1) rfl (.inl rfl) rfl rfl) pe_int) pe_int) (pa_cons (pe_var (i := 2) rfl (.inl rfl) rfl rfl) (pa_cons pe_int pa_nil))))))
      (pss_cons (ps_set (i := 6) sc_law.nd rfl (.inl rfl) (pe_call (ok__law_picked T) hr1 rfl T.m__law_picked T.F__law_picked.kp T.b__law_picked .nil pass0 (pa_cons (pe_var (i := 4) rfl (.inl rfl) rfl rfl) (pa_cons (pe_op op_mod (pe_op op_fdiv (pe_var (i := 1) rfl (.inl rfl) rfl rfl) pe_int) pe_int) (pa_cons (pe_op op_fdiv (pe_var (i := 2) rfl (.inl rfl) rfl rfl) pe_int) (pa_cons pe_int pa_nil))))))
      (pss_cons (ps_set (i := 7) sc_law.nd rfl (.inl rfl) (pe_call (ok__law_moves T) hr1 rfl T.m__law_moves T.F__law_moves.kp T.b__law_moves .nil pass0 (pa_cons (pe_var (i := 4) rfl (.inl rfl) rfl rfl) (pa_cons (pe_var (i := 3) rfl (.inl rfl) rfl rfl) (pa_cons (pe_op op_mod (pe_call (ok__law_cell_at T) hr1 rfl T.m__law_cell_at T.F__law_cell_at.kp T.b__law_cell_at .nil pass0 (pa_cons (pe_var (i := 0) rfl (.inl rfl) rfl rfl) (pa_cons pe_int pa_nil))) pe_int) (pa_cons (pe_op op_fdiv (pe_call (ok__law_cell_at T) hr1 rfl T.m__law_cell_at T.F__law_cell_at.kp T.b__law_cell_at .nil pass0 (pa_cons (pe_var (i := 0) rfl (.inl rfl) rfl rfl) (pa_cons pe_int pa_nil))) pe_int) pa_nil))))))
      (pss_cons (ps_if (pt_cmpR op_eq (pe_op op_mod (pe_op op_fdiv (pe_var (i := 1) rfl (.inl rfl) rfl rfl) pe_int) pe_int) pe_int (nomark _)) (pss_cons (ps_set (i := 8) sc_law.nd rfl (.inl rfl) (pe_lst (pa_cons (pe_var (i := 2) rfl (.inl rfl) rfl rfl) pa_nil)))
      (pss_cons (ps_set (i := 5) sc_law.nd rfl (.inl rfl) (pe_call (ok__law_any_picked T) hr2 rfl T.m__law_any_picked T.F__law_any_picked.kp T.b__law_any_picked .nil pass0 (pa_cons (pe_var (i := 4) rfl (.inl rfl) rfl rfl) (pa_cons (pe_var (i := 8) rfl (.inl rfl) rfl rfl) pa_nil))))
      (pss_cons (ps_set (i := 6) sc_law.nd rfl (.inl rfl) (pe_call (ok__law_any_picked T) hr2 rfl T.m__law_any_picked T.F__law_any_picked.kp T.b__law_any_picked .nil pass0 (pa_cons (pe_var (i := 4) rfl (.inl rfl) rfl rfl) (pa_cons (pe_var (i := 8) rfl (.inl rfl) rfl rfl) pa_nil))))
      (pss_cons (ps_set (i := 7) sc_law.nd rfl (.inl rfl) (pe_call (ok__law_any_moves T) hr2 rfl T.m__law_any_moves T.F__law_any_moves.kp T.b__law_any_moves .nil pass0 (pa_cons (pe_var (i := 4) rfl (.inl rfl) rfl rfl) (pa_cons (pe_var (i := 3) rfl (.inl rfl) rfl rfl) (pa_cons (pe_lst (pa_cons (pe_call (ok__law_cell_at T) hr1 rfl T.m__law_cell_at T.F__law_cell_at.kp T.b__law_cell_at .nil pass0 (pa_cons (pe_var (i := 0) rfl (.inl rfl) rfl rfl) (pa_cons pe_int pa_nil))) pa_nil)) pa_nil)))))
      pss_nil)))) pss_nil)
      (pss_cons (ps_set (i := 9) sc_law.nd rfl (.inl rfl) (pe_lst (pa_cons (pe_lc (own := [("_law_pair", 18)]) (g := gName 18) (tt := tYes) rfl sc_law.nd (pi_list (pe_var (i := 5) rfl (.inl rfl) rfl rfl)) (blkOk_by (N := sn_law) (sc := defScope s_law) (by decide +kernel)) (fun _ _ _ _ _ => pg_name (i := 18) sc_law.nd rfl (.inl rfl)) (fun _ _ _ _ _ => pts_nil) (fun _ _ _ _ _ => (pe_ix (show IxR _ (rIxT K) from ix_tup) (pe_var (i := 18) rfl (.inl rfl) rfl rfl) pe_int (fun _ _ => rfl)))) (pa_cons (pe_lc (own := [("_law_pair", 18)]) (g := gName 18) (tt := tYes) rfl sc_law.nd (pi_list (pe_var (i := 6) rfl (.inl rfl) rfl rfl)) (blkOk_by (N := sn_law) (sc := defScope s_law) (by decide +kernel)) (fun _ _ _ _ _ => pg_name (i := 18) sc_law.nd rfl (.inl rfl)) (fun _ _ _ _ _ => pts_nil) (fun _ _ _ _ _ => (pe_ix (show IxR _ (rIxT K) from ix_tup) (pe_var (i := 18) rfl (.inl rfl) rfl rfl) pe_int (fun _ _ => rfl)))) (pa_cons (pe_lst pa_nil) pa_nil)))))
      (pss_cons (ps_for PassesOwn.never rfl (pi_list (pe_var (i := 7) rfl (.inl rfl) rfl rfl)) (pg_tup rfl (pgs_cons (pg_name (i := 10) sc_law.nd rfl (.inl rfl)) (pgs_cons (pg_name (i := 11) sc_law.nd rfl (.inl rfl)) pgs_nil))) (pss_cons (ps_setLc (i := 12) (y := "_law_some") (own := [("_law_lamp", 17), ("_law_pair", 18)]) (g := gTup K 2 (gCons (gName 17) (gCons (gName 18) gNil))) (tt := tYes) rfl sc_law.nd rfl rfl (sw_true rfl rfl rfl (by decide +kernel)) (pi_list (pe_var (i := 11) rfl (.inl rfl) rfl rfl)) (blkOk_by (N := sn_law) (sc := defScope s_law) (by decide +kernel)) (fun _ _ _ _ _ => (show PG _ _ (gTup K 2 (gCons (gName 17) (gCons (gName 18) gNil))) from pg_tup rfl (pgs_cons (pg_name (i := 17) sc_law.nd rfl (.inl rfl)) (pgs_cons (pg_name (i := 18) sc_law.nd rfl (.inl rfl)) pgs_nil)))) (fun _ _ _ _ _ => pts_nil) (fun _ _ _ _ _ => (pe_tup (pa_cons (pe_var (i := 17) rfl (.inl rfl) rfl rfl) (pa_cons (pe_ix (show IxR _ (rIxT K) from ix_tup) (pe_var (i := 18) rfl (.inl rfl) rfl rfl) pe_int (fun _ _ => rfl)) pa_nil)))))
      (pss_cons (ps_expr (pe_bm PySem.F.plainAttrs_list PySem.F.slot_list_append PySem.F.type_list_append mt_append (pe_ix (show IxR _ (rIxL K) from ix_list) (pe_var (i := 9) rfl (.inl rfl) rfl rfl) pe_int (fun _ _ => rfl)) (pa_cons (pe_make T.k_Move (ok_Move___init__ T) hr2 rfl T.m_Move T.b_Move___init__ .nil pass0 (pa_cons (pe_ix (show IxR _ (rIxT K) from ix_tup) (pe_var (i := 10) rfl (.inl rfl) rfl rfl) pe_int (fun _ _ => rfl)) (pa_cons (pe_var (i := 12) rfl (.inl rfl) rfl rfl) pa_nil))) pa_nil)))
      (pss_cons (ps_expr (pe_bm0 PySem.F.plainAttrs_list PySem.F.slot_list_clear PySem.F.type_list_clear mt_clear (pe_var (i := 12) rfl (.inl rfl) rfl rfl)))
      pss_nil))))
      (pss_cons (ps_set (i := 13) sc_law.nd rfl (.inl rfl) (pe_slice sl_list (pe_lst (pa_cons pe_str (pa_cons pe_str (pa_cons pe_str (pa_cons pe_str (pa_cons pe_str (pa_cons pe_str pa_nil))))))) po_none (po_some (pe_var (i := 3) rfl (.inl rfl) rfl rfl))))
      (pss_cons (ps_set (i := 14) sc_law.nd rfl (.inl rfl) (pe_make T.k_Machine (ok_Machine___init__ T) hr2 rfl T.m_Machine T.b_Machine___init__ .nil pass0 (pa_cons (pe_var (i := 13) rfl (.inl rfl) rfl rfl) (pa_cons (pe_ix (show IxR _ (rIxL K) from ix_list) (pe_var (i := 9) rfl (.inl rfl) rfl rfl) pe_int (fun _ _ => rfl)) (pa_cons (pe_ix (show IxR _ (rIxL K) from ix_list) (pe_var (i := 9) rfl (.inl rfl) rfl rfl) pe_int (fun _ _ => rfl)) (pa_cons (pe_ix (show IxR _ (rIxL K) from ix_list) (pe_var (i := 9) rfl (.inl rfl) rfl rfl) pe_int (fun _ _ => rfl)) pa_nil))))))
      (pss_cons (ps_set (i := 15) sc_law.nd rfl (.inl rfl) (pe_make T.k_Machine (ok_Machine___init__ T) hr2 rfl T.m_Machine T.b_Machine___init__ .nil pass0 (pa_cons (pe_callTy call_list_of rfl T.n_list bt_list (pa_cons (pe_var (i := 13) rfl (.inl rfl) rfl rfl) pa_nil)) (pa_cons (pe_ix (show IxR _ (rIxL K) from ix_list) (pe_var (i := 9) rfl (.inl rfl) rfl rfl) pe_int (fun _ _ => rfl)) (pa_cons (pe_ix (show IxR _ (rIxL K) from ix_list) (pe_var (i := 9) rfl (.inl rfl) rfl rfl) pe_int (fun _ _ => rfl)) (pa_cons (show PE _ _ (tListRev K _) from pe_listRev rfl rfl T.n_list rfl T.n_reversed (pe_ix (show IxR _ (rIxL K) from ix_list) (pe_var (i := 9) rfl (.inl rfl) rfl rfl) pe_int (fun _ _ => rfl))) pa_nil))))))
      (pss_cons (ps_if (PW.pt (pw_or (pt_cmpR op_ne (pe_callB (show CallR _ (.builtin "len") (Z.rLenS K) from call_len_seq) rfl T.n_len bt_len (pa_cons (pe_var (i := 13) rfl (.inl rfl) rfl rfl) pa_nil)) (pe_var (i := 3) rfl (.inl rfl) rfl rfl) (nomark _)) (pw_or1 (pt_cmpR (show OpR _ _ (rNeD K) from op_neD hr.units) (pe_lc (own := [("_law_row", 16)]) (g := gName 16) (tt := tYes) rfl sc_law.nd (pi_list (pe_var (i := 9) rfl (.inl rfl) rfl rfl)) (blkOk_by (N := sn_law) (sc := defScope s_law) (by decide +kernel)) (fun _ _ _ _ _ => pg_name (i := 16) sc_law.nd rfl (.inl rfl)) (fun _ _ _ _ _ => pts_nil) (fun _ _ _ _ _ => (pe_callB (show CallR _ (.builtin "len") (Z.rLenS K) from call_len_seq) rfl T.n_len bt_len (pa_cons (pe_var (i := 16) rfl (.inl rfl) rfl rfl) pa_nil)))) (pe_lst (pa_cons (pe_callB (show CallR _ (.builtin "len") (Z.rLenS K) from call_len_seq) rfl T.n_len bt_len (pa_cons (pe_var (i := 5) rfl (.inl rfl) rfl rfl) pa_nil)) (pa_cons (pe_callB (show CallR _ (.builtin "len") (Z.rLenS K) from call_len_seq) rfl T.n_len bt_len (pa_cons (pe_var (i := 6) rfl (.inl rfl) rfl rfl) pa_nil)) (pa_cons (pe_callB (show CallR _ (.builtin "len") (Z.rLenS K) from call_len_seq) rfl T.n_len bt_len (pa_cons (pe_var (i := 7) rfl (.inl rfl) rfl rfl) pa_nil)) pa_nil)))) (nomark _))))) (pss_cons (ps_ret pe_bl)
      pss_nil) pss_nil)
      (pss_cons (ps_if (pt_not (pt_val (pe_call (ok__law_tells T) hr3 rfl T.m__law_tells T.F__law_tells.kp T.b__law_tells .nil pass0 (pa_cons (pe_meth0 (pe_var (i := 14) rfl (.inl rfl) rfl rfl) T.l_Machine T.t_Machine_chart (ok_Machine_chart T) hr104 T.b_Machine_chart .nil pass0) (pa_cons (pe_var (i := 3) rfl (.inl rfl) rfl rfl) (pa_cons (pe_var (i := 5) rfl (.inl rfl) rfl rfl) (pa_cons (pe_var (i := 6) rfl (.inl rfl) rfl rfl) (pa_cons (pe_var (i := 7) rfl (.inl rfl) rfl rfl) pa_nil)))))))) (pss_cons (ps_ret pe_bl)
      pss_nil) pss_nil)
      (pss_cons (ps_if (pt_not (pt_val (pe_call (ok__law_tells T) hr3 rfl T.m__law_tells T.F__law_tells.kp T.b__law_tells .nil pass0 (pa_cons (pe_meth0 (pe_var (i := 15) rfl (.inl rfl) rfl rfl) T.l_Machine T.t_Machine_chart (ok_Machine_chart T) hr104 T.b_Machine_chart .nil pass0) (pa_cons (pe_var (i := 3) rfl (.inl rfl) rfl rfl) (pa_cons (pe_var (i := 6) rfl (.inl rfl) rfl rfl) (pa_cons (pe_var (i := 5) rfl (.inl rfl) rfl rfl) (pa_cons (pe_var (i := 7) rfl (.inl rfl) rfl rfl) pa_nil)))))))) (pss_cons (ps_ret pe_bl)
      pss_nil) pss_nil)
      (pss_cons (ps_expr (pe_bm0 PySem.F.plainAttrs_list PySem.F.slot_list_clear PySem.F.type_list_clear mt_clear (pe_var (i := 13) rfl (.inl rfl) rfl rfl)))
      (pss_cons (ps_for PassesOwn.never rfl (pi_list (pe_var (i := 9) rfl (.inl rfl) rfl rfl)) (pg_name (i := 16) sc_law.nd rfl (.inl rfl)) (pss_cons (ps_expr (pe_bm0 PySem.F.plainAttrs_list PySem.F.slot_list_clear PySem.F.type_list_clear mt_clear (pe_var (i := 16) rfl (.inl rfl) rfl rfl)))
      pss_nil))
      (pss_cons (ps_ret (pe_call (ok__law_tells T) hr3 rfl T.m__law_tells T.F__law_tells.kp T.b__law_tells .nil pass0 (pa_cons (pe_meth0 (pe_var (i := 14) rfl (.inl rfl) rfl rfl) T.l_Machine T.t_Machine_chart (ok_Machine_chart T) hr104 T.b_Machine_chart .nil pass0) (pa_cons (pe_var (i := 3) rfl (.inl rfl) rfl rfl) (pa_cons (pe_var (i := 5) rfl (.inl rfl) rfl rfl) (pa_cons (pe_var (i := 6) rfl (.inl rfl) rfl rfl) (pa_cons (pe_var (i := 7) rfl (.inl rfl) rfl rfl) pa_nil)))))))
      pss_nil))))))))))))))))))), ?_⟩
  refine z_start (σ := [some v2, none, none, none, none, none, none, none, none, none, none, none, none, none, none, none, none, none, none]) rfl ?_
  have g : Grow [] S H S H := Grow.refl gS
  obtain ⟨v4, ev4, h⟩ := OP.bind h
  refine z_set (w := (.int v4)) (σ' := [some v2, some (.int v4), none, none, none, none, none, none, none, none, none, none, none, none, none, none, none, none, none]) (v_call (va_cons (val_var rfl) (va_cons val_c va_nil)) fun Q q => ⟨_, _, _, rfl, (RdL.q g r3), OP.mk ev4 q⟩) rfl rfl ?_
  obtain ⟨v5, ev5, h⟩ := OP.bind h
  refine z_set (w := (.int v5)) (σ' := [some v2, some (.int v4), some (.int v5), none, none, none, none, none, none, none, none, none, none, none, none, none, none, none, none]) (v_call (va_cons (val_var rfl) (va_cons val_c va_nil)) fun Q q => ⟨_, _, _, rfl, (RdL.q g r3), OP.mk ev5 q⟩) rfl rfl ?_
  obtain ⟨many6, emany6, h⟩ := OP.lt h
  refine z_set (w := (.int many6)) (σ' := [some v2, some (.int v4), some (.int v5), some (.int many6), none, none, none, none, none, none, none, none, none, none, none, none, none, none, none]) (v_o2 val_c (v_o2c (val_var rfl) val_c (show (0 : Int) < 6 by decide))) (congrArg V.int emany6) rfl ?_
  refine z_setE ?_
  refine c_call ?_
  refine c_cons ?_
  refine c_slice (val_var rfl) (po1 val_c) (po1 val_c) ?_
  refine (l_slice (LS.rd g r3) fun p7 ws8 H_9 e10 np11 ep12 rw13 => ?_)
  have z15 := g.hnone np11
  have c_14 : Cel [] H S H_9 p7 (.lst ws8) := Cel.own g e10 np11 ep12 rfl
  replace g := g.ext e10
  refine c_cons ?_
  refine c_val (val_var rfl) ?_
  refine c_nil ?_
  have gL26 : ∀ l ∈ [], H l = none ∨ l ∈ [] := LM0
  refine ⟨S, _, _, _, rfl, g.sh, (RdL.ofC c_14.h NM0 rw13), (OP.of h).mono fun v16 h S_17 H_18 p20 ws21 gc19 np22 hp23 sp24 wf25 => ?_⟩
  have ne27 := c_14.ne np22
  have z28 := g.hnone np22
  replace c_14 := c_14.call gc19 NM0
  replace r3 := RdL.mono gc19.ss r3
  replace rw13 := RL.mono gc19.ss rw13
  have c_29 : Cel [] H S_17 H_18 p20 (.lst ws21) := ⟨hp23, sp24, .inl z28, rfl⟩
  replace g := g.call gc19 gL26
  obtain ⟨S_30, g31, eS32, r33, ot34⟩ := c_freeze g c_29 z28 wf25
  replace r3 := RdL.mono eS32 r3
  replace g := g31
  refine g_name (σ' := [some v2, some (.int v4), some (.int v5), some (.int many6), some (.ref p20), none, none, none, none, none, none, none, none, none, none, none, none, none, none]) rfl ?_
  refine z_setE ?_
  refine c_call ?_
  refine c_args (va_cons (val_var rfl) (va_cons (v_o2c (v_o2c (val_var rfl) val_c ⟨by decide, by decide⟩) val_c (show (0 : Int) < 9 by decide)) (va_cons (val_var rfl) (va_cons val_c va_nil)))) ?_
  have gL45 : ∀ l ∈ [], H l = none ∨ l ∈ [] := LM0
  refine ⟨S_30, _, _, _, _, _, rfl, g.sh, (RdL.ofL g.sh r33 LM0), (OP.of h).mono fun v35 h S_36 H_37 p39 ws40 gc38 np41 hp42 sp43 wf44 => ?_⟩
  have z46 := g.hnone np41
  replace r3 := RdL.mono gc38.ss r3
  replace r33 := Rep.mono _ gc38.ss r33
  have c_47 : Cel [] H S_36 H_37 p39 (.lst ws40) := ⟨hp42, sp43, .inl z46, rfl⟩
  replace g := g.call gc38 gL45
  obtain ⟨S_48, g49, eS50, r51, ot52⟩ := c_freeze g c_47 z46 wf44
  replace r3 := RdL.mono eS50 r3
  replace r33 := Rep.mono _ eS50 r33
  replace g := g49
  refine g_name (σ' := [some v2, some (.int v4), some (.int v5), some (.int many6), some (.ref p20), some (.ref p39), none, none, none, none, none, none, none, none, none, none, none, none, none]) rfl ?_
  refine z_setE ?_
  refine c_call ?_
  refine c_args (va_cons (val_var rfl) (va_cons (v_o2c (v_o2c (val_var rfl) val_c ⟨by decide, by decide⟩) val_c (show (0 : Int) < 9 by decide)) (va_cons (v_o2c (val_var rfl) val_c ⟨by decide, by decide⟩) (va_cons val_c va_nil)))) ?_
  have gL63 : ∀ l ∈ [], H l = none ∨ l ∈ [] := LM0
  refine ⟨S_48, _, _, _, _, _, rfl, g.sh, (RdL.ofL g.sh r33 LM0), (OP.of h).mono fun v53 h S_54 H_55 p57 ws58 gc56 np59 hp60 sp61 wf62 => ?_⟩
  have z64 := g.hnone np59
  replace r3 := RdL.mono gc56.ss r3
  replace r33 := Rep.mono _ gc56.ss r33
  replace r51 := Rep.mono _ gc56.ss r51
  have c_65 : Cel [] H S_54 H_55 p57 (.lst ws58) := ⟨hp60, sp61, .inl z64, rfl⟩
  replace g := g.call gc56 gL63
  obtain ⟨S_66, g67, eS68, r69, ot70⟩ := c_freeze g c_65 z64 wf62
  replace r3 := RdL.mono eS68 r3
  replace r33 := Rep.mono _ eS68 r33
  replace r51 := Rep.mono _ eS68 r51
  replace g := g67
  refine g_name (σ' := [some v2, some (.int v4), some (.int v5), some (.int many6), some (.ref p20), some (.ref p39), some (.ref p57), none, none, none, none, none, none, none, none, none, none, none, none]) rfl ?_
  refine z_setE ?_
  refine c_call ?_
  obtain ⟨v71, ev71, h⟩ := OP.bind h
  obtain ⟨v72, ev72, h⟩ := OP.bind h
  refine c_args (va_cons (val_var rfl) (va_cons (val_var rfl) (va_cons (v_o2c (v_call (va_cons (val_var rfl) (va_cons val_c va_nil)) fun Q q => ⟨_, _, _, rfl, (RdL.q g r3), OP.mk ev71 q⟩) val_c (show (0 : Int) < 9 by decide)) (va_cons (v_o2c (v_call (va_cons (val_var rfl) (va_cons val_c va_nil)) fun Q q => ⟨_, _, _, rfl, (RdL.q g r3), OP.mk ev72 q⟩) val_c ⟨by decide, by decide⟩) va_nil)))) ?_
  have gL83 : ∀ l ∈ [], H l = none ∨ l ∈ [] := LM0
  refine ⟨S_66, _, _, _, _, _, rfl, g.sh, (RdL.ofL g.sh r33 LM0), (OP.of h).mono fun v73 h S_74 H_75 p77 ws78 gc76 np79 hp80 sp81 wf82 => ?_⟩
  have z84 := g.hnone np79
  replace r3 := RdL.mono gc76.ss r3
  replace r33 := Rep.mono _ gc76.ss r33
  replace r51 := Rep.mono _ gc76.ss r51
  replace r69 := Rep.mono _ gc76.ss r69
  have c_85 : Cel [] H S_74 H_75 p77 (.lst ws78) := ⟨hp80, sp81, .inl z84, rfl⟩
  replace g := g.call gc76 gL83
  obtain ⟨S_86, g87, eS88, r89, ot90⟩ := c_freeze g c_85 z84 wf82
  replace r3 := RdL.mono eS88 r3
  replace r33 := Rep.mono _ eS88 r33
  replace r51 := Rep.mono _ eS88 r51
  replace r69 := Rep.mono _ eS88 r69
  replace g := g87
  refine g_name (σ' := [some v2, some (.int v4), some (.int v5), some (.int many6), some (.ref p20), some (.ref p39), some (.ref p57), some (.ref p77), none, none, none, none, none, none, none, none, none, none, none]) rfl ?_
  obtain ⟨B91, h, hB92⟩ := OP.cut h
  refine z_ifj (fun σ' H' => ∃ (v93 : V) (starts94 : (List (O_Formula × Int))) (v96 : V) (bads97 : (List (O_Formula × Int))) (v99 : V) (moves_here100 : (List ((O_Formula × Int) × (List (Int × (O_Formula × Int)))))) (u102 : Option V) (S_103 : Hp), σ' = [some v2, some (.int v4), some (.int v5), some (.int many6), some (.ref p20), some v93, some v96, some v99, u102, none, none, none, none, none, none, none, none, none, none] ∧ Grow [] S H S_103 H' ∧ Same S_86 S_103 ∧ ((qL (qT2 (q_Formula (K := K) T.c) (qI (K := K))))).R S_103 v93 starts94 ∧ ((qL (qT2 (q_Formula (K := K) T.c) (qI (K := K))))).R S_103 v96 bads97 ∧ ((qL (qT2 (qT2 (q_Formula (K := K) T.c) (qI (K := K))) (qL (qT2 (qI (K := K)) (qT2 (q_Formula (K := K) T.c) (qI (K := K)))))))).R S_103 v99 moves_here100 ∧ B91 (starts94, bads97, moves_here100)) (v_test (v_eqI (v_o2c (v_o2c (val_var rfl) val_c ⟨by decide, by decide⟩) val_c (show (0 : Int) < 2 by decide)) val_c)) ?_ (fun hc N hN => ?_) (fun hc N hN => ?_)
  · intro σ' H_104 p
    obtain ⟨v93, starts94, v96, bads97, v99, moves_here100, u102, S_103, rfl, gN, eS105, r95N, r98N, r101N, h⟩ := p
    replace g := gN
    have r95 := r95N
    have r98 := r98N
    have r101 := r101N
    replace r3 := RdL.mono eS105 r3
    replace r33 := Rep.mono _ eS105 r33
    replace h := hB92 _ h
    replace h := OP.un3 h
    refine z_setE ?_
    refine c_lstE fun Q_106 hQ_106 => ?_
    refine c_cons ?_
    obtain ⟨q108a, q108w, q108e, q108h, q108p⟩ := (LS.ofL g.sh r95)
    obtain ⟨ys113, eys113, h⟩ := OP.bind h
    refine c_lcL (v_eq (val_var rfl) q108e) q108h q108p eys113 (τ := (q_Formula (K := K) T.c)) (S := S_103) (fun w zx107 H_109 rw_ e110 r_ hm => ?_) ?_
    · have g := g.ext e110
      have rx111 := rw_
      obtain ⟨w_112, hw_112, rw_112⟩ := v_p20 g.sh rx111
      exact ⟨true, a_yes rfl, fun _ => ⟨_, _, (Option.some.inj hm).symm, (hw_112 (val_var rfl) val_c), rw_112⟩, fun z => nomatch z⟩
    intro p114 ws115 H_116 e117 np118 ep119 rw120
    have z122 := g.hnone np118
    have c_121 : Cel [] H S_103 H_116 p114 (.lst ws115) := Cel.own g e117 np118 ep119 rfl
    replace g := g.ext e117
    refine c_cons ?_
    obtain ⟨q124a, q124w, q124e, q124h, q124p⟩ := (LS.ofL g.sh r98)
    obtain ⟨ys129, eys129, h⟩ := OP.bind h
    refine c_lcL (v_eq (val_var rfl) q124e) q124h q124p eys129 (τ := (q_Formula (K := K) T.c)) (S := S_103) (fun w zx123 H_125 rw_ e126 r_ hm => ?_) ?_
    · have c_121 := c_121.ext e126
      have g := g.ext e126
      have rx127 := rw_
      obtain ⟨w_128, hw_128, rw_128⟩ := v_p20 g.sh rx127
      exact ⟨true, a_yes rfl, fun _ => ⟨_, _, (Option.some.inj hm).symm, (hw_128 (val_var rfl) val_c), rw_128⟩, fun z => nomatch z⟩
    intro p130 ws131 H_132 e133 np134 ep135 rw136
    have ne139 := c_121.ne np134
    have z138 := g.hnone np134
    have c_137 : Cel [] H S_103 H_132 p130 (.lst ws131) := Cel.own g e133 np134 ep135 rfl
    replace c_121 := c_121.ext e133
    replace g := g.ext e133
    refine c_cons ?_
    refine c_lstE fun Q_140 hQ_140 => ?_
    refine c_args va_nil ?_
    refine c_newlst (Q := Q_140) (vs := []) (show 0 ≤ 1000 by decide) fun p141 H_142 e143 np144 ep145 => ?_
    refine q_eq hQ_140 ?_
    have w_146 : RL (q_Move (K := K) T.c) S_103 [] ([] : List O_Move) := .nil
    have ne149 := c_121.ne np144
    have ne150 := c_137.ne np144
    have z148 := g.hnone np144
    have c_147 : Cel [] H S_103 H_142 p141 (.lst []) := Cel.own g e143 np144 ep145 rfl
    replace c_121 := c_121.ext e143
    replace c_137 := c_137.ext e143
    replace g := g.ext e143
    refine c_nil ?_
    refine c_newlst (Q := Q_106) (vs := [(.ref p114), (.ref p130), (.ref p141)]) (show 3 ≤ 1000 by decide) fun p151 H_152 e153 np154 ep155 => ?_
    refine q_eq hQ_106 ?_
    have ne158 := c_121.ne np154
    have ne159 := c_137.ne np154
    have ne160 := c_147.ne np154
    have z157 := g.hnone np154
    have c_156 : Cel [] H S_103 H_152 p151 (.lst [(.ref p114), (.ref p130), (.ref p141)]) := Cel.own g e153 np154 ep155 rfl
    replace c_121 := c_121.ext e153
    replace c_137 := c_137.ext e153
    replace c_147 := c_147.ext e153
    replace g := g.ext e153
    refine g_name (σ' := [some v2, some (.int v4), some (.int v5), some (.int many6), some (.ref p20), some v93, some v96, some v99, u102, some (.ref p151), none, none, none, none, none, none, none, none, none]) rfl ?_
    obtain ⟨B164, h, hB165⟩ := OP.cut h
    obtain ⟨F166, hF167, h⟩ := OP.nameO h
    obtain ⟨q189a, q189w, q189e, q189h, q189p⟩ := id (qL_qQ r101)
    refine z_forL (v_eq (val_var rfl) q189e) q189p (fun ys169 σ' H' => ∃ (ws170 : List V) (handed173 : (List O_Formula)) (ws174 : List V) (handed177 : (List O_Formula)) (ws178 : List V) (handed181 : (List O_Move)) (u183 : Option V) (u184 : Option V) (u185 : Option V) (S_186 : Hp), σ' = [some v2, some (.int v4), some (.int v5), some (.int many6), some (.ref p20), some v93, some v96, some v99, u102, some (.ref p151), u183, u184, u185, none, none, none, none, none, none] ∧ Grow [] S H S_186 H' ∧ Same S_103 S_186 ∧ Cel [] H S_186 H' p114 (.lst ws170) ∧ RL (q_Formula (K := K) T.c) S_186 ws170 handed173 ∧ Cel [] H S_186 H' p130 (.lst ws174) ∧ RL (q_Formula (K := K) T.c) S_186 ws174 handed177 ∧ Cel [] H S_186 H' p141 (.lst ws178) ∧ RL (q_Move (K := K) T.c) S_186 ws178 handed181 ∧ Cel [] H S_186 H' p151 (.lst [(.ref p114), (.ref p130), (.ref p141)]) ∧ OP (forO F166 ys169 (handed173, handed177, handed181)) B164) ⟨_, _, _, _, _, _, _, _, _, _, rfl, g, (Same.refl _), c_121, rw120, c_137, rw136, c_147, w_146, c_156, h⟩ (fun ys σ' H' p => by obtain ⟨ws170, handed173, ws174, handed177, ws178, handed181, u183, u184, u185, S_186, rfl, gN, eS188, c_171N, r172N, c_175N, r176N, c_179N, r180N, c_182N, h⟩ := p; exact (eS188.trans gN.sh).seq q189h) (fun w_162 x161 ys169 σ' H_187 rw163 p N hN168 => ?_) ?_
    · obtain ⟨ws170, handed173, ws174, handed177, ws178, handed181, u183, u184, u185, S_186, rfl, gN, eS188, c_171N, r172N, c_175N, r176N, c_179N, r180N, c_182N, h⟩ := p
      replace g := gN
      have c_171 := c_171N
      have r172 := r172N
      have c_175 := c_175N
      have r176 := r176N
      have c_179 := c_179N
      have r180 := r180N
      have c_182 := c_182N
      replace r3 := RdL.mono eS188 r3
      replace r33 := Rep.mono _ eS188 r33
      replace r95 := Rep.mono _ eS188 r95
      replace r98 := Rep.mono _ eS188 r98
      replace r101 := Rep.mono _ eS188 r101
      replace h := OP.forO h
      replace h := OP.fcall2 hF167 h
      replace h := OP.un3 h
      have rx190 := Rep.mono _ eS188 rw163
      refine g_tup2 rfl g.sh rx190 fun w_191 w_192 r193 r194 => ?_
      refine g_name (σ' := [some v2, some (.int v4), some (.int v5), some (.int many6), some (.ref p20), some v93, some v96, some v99, u102, some (.ref p151), some w_191, u184, u185, none, none, none, none, none, none]) rfl ?_
      refine g_next ?_
      refine g_name (σ' := [some v2, some (.int v4), some (.int v5), some (.int many6), some (.ref p20), some v93, some v96, some v99, u102, some (.ref p151), some w_191, some w_192, u185, none, none, none, none, none, none]) rfl ?_
      refine g_end ?_
      refine z_setE ?_
      obtain ⟨q196a, q196w, q196e, q196h, q196p⟩ := id (qL_qQ r194)
      have q196h0 := g.sh.seq q196h
      refine c_lcGL (v_eq (val_var rfl) q196e) q196p q196h0 fun P_197 np198 => ?_
      obtain ⟨H_199, e200, eH201⟩ : ∃ H1, Same H_187 H1 ∧ upd H_187 P_197 (.lst []) = H1 := ⟨_, same_upd np198, rfl⟩
      have ep202 : H_199 P_197 = some (.lst []) := by rw [← eH201]; exact upd_same
      have rw203 : RL (qT2 (qI (K := K)) (q_Formula (K := K) T.c)) S_186 [] ([] : List (Int × O_Formula)) := .nil
      rw [eH201]
      have ne206 := c_182.ne np198
      have ne207 := c_171.ne np198
      have ne208 := c_175.ne np198
      have ne209 := c_179.ne np198
      have z205 := g.hnone np198
      have c_204 : Cel [] H S_186 H_199 P_197 (.lst []) := Cel.own g e200 np198 ep202 rfl
      replace c_182 := c_182.ext e200
      replace c_171 := c_171.ext e200
      replace c_175 := c_175.ext e200
      replace c_179 := c_179.ext e200
      replace g := g.ext e200
      obtain ⟨B211, h, hB212⟩ := OP.cut h
      obtain ⟨F213, hF214, h⟩ := OP.nameO h
      refine ⟨(fun ys216 H' => ∃ (ws217 : List V) (acc210220 : (List (Int × O_Formula))) (S_221 : Hp), Grow [] S H S_221 H' ∧ Same S_186 S_221 ∧ Cel [] H S_221 H' P_197 (.lst ws217) ∧ RL (qT2 (qI (K := K)) (q_Formula (K := K) T.c)) S_221 ws217 acc210220 ∧ Cel [] H S_221 H' p151 (.lst [(.ref p114), (.ref p130), (.ref p141)]) ∧ Cel [] H S_221 H' p114 (.lst ws170) ∧ Cel [] H S_221 H' p130 (.lst ws174) ∧ Cel [] H S_221 H' p141 (.lst ws178) ∧ OP (forO F213 ys216 acc210220) B211), ⟨_, _, _, g, (Same.refl _), c_204, rw203, c_182, c_171, c_175, c_179, h⟩, fun ys H' p => by obtain ⟨ws217, acc210220, S_221, gN, eS223, c_218N, r219N, c_182N, c_171N, c_175N, c_179N, h⟩ := p; exact (eS223.trans gN.sh).seq q196h, fun w_225 lamp224 ys216 H_222 rw226 p N hN215 => ?_, fun H_222 p => ?_⟩
      · obtain ⟨ws217, acc210220, S_221, gN, eS223, c_218N, r219N, c_182N, c_171N, c_175N, c_179N, h⟩ := p
        replace g := gN
        have c_218 := c_218N
        have r219 := r219N
        replace c_182 := c_182N
        replace c_171 := c_171N
        replace c_175 := c_175N
        replace c_179 := c_179N
        replace r3 := RdL.mono eS223 r3
        replace r33 := Rep.mono _ eS223 r33
        replace r95 := Rep.mono _ eS223 r95
        replace r98 := Rep.mono _ eS223 r98
        replace r101 := Rep.mono _ eS223 r101
        replace r172 := RL.mono eS223 r172
        replace r176 := RL.mono eS223 r176
        replace r180 := RL.mono eS223 r180
        replace r193 := Rep.mono _ eS223 r193
        replace r194 := Rep.mono _ eS223 r194
        replace eS188 := eS188.trans eS223
        replace h := OP.forO h
        replace h := OP.fcall2 hF214 h
        have rx227 := Rep.mono _ eS223 rw226
        refine g_tup2 rfl g.sh rx227 fun w_228 w_229 r230 r231 => ?_
        cases (show w_228 = (.int lamp224.1) from r230)
        refine g_name (σ' := [some v2, some (.int v4), some (.int v5), some (.int many6), some (.ref p20), some v93, some v96, some v99, u102, some (.ref p151), some w_191, some w_192, u185, none, none, none, none, some (.int lamp224.1), none]) rfl ?_
        refine g_next ?_
        refine g_name (σ' := [some v2, some (.int v4), some (.int v5), some (.int many6), some (.ref p20), some v93, some v96, some v99, u102, some (.ref p151), some w_191, some w_192, u185, none, none, none, none, some (.int lamp224.1), some w_229]) rfl ?_
        refine g_end ?_
        refine ⟨rfl, ?_⟩
        refine c_yes ?_
        refine ift ?_
        refine c_tupE fun Q_232 hQ_232 => ?_
        obtain ⟨w_233, hw_233, rw_233⟩ := v_p20 g.sh r231
        refine c_args (va_cons (val_var rfl) (va_cons (hw_233 (val_var rfl) val_c) va_nil)) ?_
        refine c_newtup (Q := Q_232) (vs := [(.int lamp224.1), w_233]) g.sh (show 2 ≤ 1000 by decide) fun p234 S_235 H_236 gs237 ep238 => ?_
        refine q_eq hQ_232 ?_
        replace r3 := RdL.mono gs237.ss r3
        replace r33 := Rep.mono _ gs237.ss r33
        replace r95 := Rep.mono _ gs237.ss r95
        replace r98 := Rep.mono _ gs237.ss r98
        replace r101 := Rep.mono _ gs237.ss r101
        replace r172 := RL.mono gs237.ss r172
        replace r176 := RL.mono gs237.ss r176
        replace r180 := RL.mono gs237.ss r180
        replace r193 := Rep.mono _ gs237.ss r193
        replace r194 := Rep.mono _ gs237.ss r194
        replace r231 := Rep.mono _ gs237.ss r231
        replace r219 := RL.mono gs237.ss r219
        replace rw_233 := Rep.mono _ gs237.ss rw_233
        replace eS188 := eS188.trans gs237.ss
        replace eS223 := eS223.trans gs237.ss
        replace c_182 := c_182.call0 gs237
        replace c_171 := c_171.call0 gs237
        replace c_175 := c_175.call0 gs237
        replace c_179 := c_179.call0 gs237
        replace c_218 := c_218.call0 gs237
        replace g := g.call0 gs237
        have r239 : ((qT2 (qI (K := K)) (q_Formula (K := K) T.c))).R S_235 (.ref p234) (lamp224.1, lamp224.2.1) := ⟨p234, _, _, rfl, ep238, rfl, rw_233⟩
        obtain ⟨g240, h⟩ := OP.grd h
        obtain ⟨l241, el241, h⟩ := OP.lt h
        refine c_acc g c_218 r219 r239 g240 el241 fun ws242 H_243 g244 c_245 w_246 ot247 => ?_
        replace c_182 := ot247 _ _ (by first | assumption | exact Ne.symm (by assumption)) c_182
        replace c_171 := ot247 _ _ (by first | assumption | exact Ne.symm (by assumption)) c_171
        replace c_175 := ot247 _ _ (by first | assumption | exact Ne.symm (by assumption)) c_175
        replace c_179 := ot247 _ _ (by first | assumption | exact Ne.symm (by assumption)) c_179
        replace g := g244
        exact hN215 _ ⟨_, _, _, g, eS223, c_245, w_246, c_182, c_171, c_175, c_179, h⟩
      obtain ⟨ws217, acc210220, S_221, gN, eS223, c_218N, r219N, c_182N, c_171N, c_175N, c_179N, h⟩ := p
      replace g := gN
      have c_218 := c_218N
      have r219 := r219N
      replace c_182 := c_182N
      replace c_171 := c_171N
      replace c_175 := c_175N
      replace c_179 := c_179N
      replace r3 := RdL.mono eS223 r3
      replace r33 := Rep.mono _ eS223 r33
      replace r95 := Rep.mono _ eS223 r95
      replace r98 := Rep.mono _ eS223 r98
      replace r101 := Rep.mono _ eS223 r101
      replace r172 := RL.mono eS223 r172
      replace r176 := RL.mono eS223 r176
      replace r180 := RL.mono eS223 r180
      replace r193 := Rep.mono _ eS223 r193
      replace r194 := Rep.mono _ eS223 r194
      replace eS188 := eS188.trans eS223
      replace h := hB212 _ (OP.forO_nil h)
      refine g_name (σ' := [some v2, some (.int v4), some (.int v5), some (.int many6), some (.ref p20), some v93, some v96, some v99, u102, some (.ref p151), some w_191, some w_192, some (.ref P_197), none, none, none, none, none, none]) rfl ?_
      refine z_dropE ?_
      refine c_bm (v_ixl c_182.h rfl (val_var rfl) val_c) (tyL c_179.h) ?_
      refine c_cons ?_
      refine c_make ?_
      obtain ⟨w_248, hw_248, rw_248⟩ := v_p20 g.sh r193
      refine c_args (va_cons (hw_248 (val_var rfl) val_c) (va_cons (val_var rfl) va_nil)) ?_
      refine make_in fun p249 dx250 H_251 e252 np253 ep254 => ?_
      have ne258 := c_182.ne np253
      have ne259 := c_171.ne np253
      have ne260 := c_175.ne np253
      have ne261 := c_179.ne np253
      have ne262 := c_218.ne np253
      have z257 := g.hnone np253
      have c_256 : Cel [] H S_221 H_251 p249 (.ins T.c.Move dx250 []) := Cel.own g e252 np253 ep254 rfl
      replace c_182 := c_182.ext e252
      replace c_171 := c_171.ext e252
      replace c_175 := c_175.ext e252
      replace c_179 := c_179.ext e252
      replace c_218 := c_218.ext e252
      replace g := g.ext e252
      have gL272 : ∀ l ∈ [p249], H l = none ∨ l ∈ [] := (LM1 c_256.z LM0)
      refine ⟨S_221, _, _, _, _, _, _, rfl, g.sh, c_256.h, c_256.s, rw_248, (RdL.ofC c_218.h (NM1 (by first | assumption | exact Ne.symm (by assumption)) NM0) r219), (OP.of h).mono fun v263 h S_264 H_265 w_267 w_269 gc266 hp271 r268 r270 => ?_⟩
      replace c_182 := c_182.call gc266 (NM1 (by first | assumption | exact Ne.symm (by assumption)) NM0)
      replace c_171 := c_171.call gc266 (NM1 (by first | assumption | exact Ne.symm (by assumption)) NM0)
      replace c_175 := c_175.call gc266 (NM1 (by first | assumption | exact Ne.symm (by assumption)) NM0)
      replace c_179 := c_179.call gc266 (NM1 (by first | assumption | exact Ne.symm (by assumption)) NM0)
      replace c_218 := c_218.call gc266 (NM1 (by first | assumption | exact Ne.symm (by assumption)) NM0)
      replace r3 := RdL.mono gc266.ss r3
      replace r33 := Rep.mono _ gc266.ss r33
      replace r95 := Rep.mono _ gc266.ss r95
      replace r98 := Rep.mono _ gc266.ss r98
      replace r101 := Rep.mono _ gc266.ss r101
      replace r172 := RL.mono gc266.ss r172
      replace r176 := RL.mono gc266.ss r176
      replace r180 := RL.mono gc266.ss r180
      replace r193 := Rep.mono _ gc266.ss r193
      replace r194 := Rep.mono _ gc266.ss r194
      replace r219 := RL.mono gc266.ss r219
      replace rw_248 := Rep.mono _ gc266.ss rw_248
      replace eS188 := eS188.trans gc266.ss
      replace c_256 := c_256.mut gc266 hp271 rfl
      replace g := g.call gc266 gL272
      refine ⟨rfl, ?_⟩
      obtain ⟨S_273, g274, eS275, r276, ot277⟩ := fz_Move (c := T.c) g c_256 z257 (x := v263) r268 r270
      replace c_182 := ot277 _ _ (by first | assumption | exact Ne.symm (by assumption)) c_182
      replace c_171 := ot277 _ _ (by first | assumption | exact Ne.symm (by assumption)) c_171
      replace c_175 := ot277 _ _ (by first | assumption | exact Ne.symm (by assumption)) c_175
      replace c_179 := ot277 _ _ (by first | assumption | exact Ne.symm (by assumption)) c_179
      replace c_218 := ot277 _ _ (by first | assumption | exact Ne.symm (by assumption)) c_218
      replace r3 := RdL.mono eS275 r3
      replace r33 := Rep.mono _ eS275 r33
      replace r95 := Rep.mono _ eS275 r95
      replace r98 := Rep.mono _ eS275 r98
      replace r101 := Rep.mono _ eS275 r101
      replace r172 := RL.mono eS275 r172
      replace r176 := RL.mono eS275 r176
      replace r180 := RL.mono eS275 r180
      replace r193 := Rep.mono _ eS275 r193
      replace r194 := Rep.mono _ eS275 r194
      replace r219 := RL.mono eS275 r219
      replace rw_248 := Rep.mono _ eS275 rw_248
      replace r268 := Rep.mono _ eS275 r268
      replace r270 := Rep.mono _ eS275 r270
      replace eS188 := eS188.trans eS275
      replace g := g274
      refine c_nil ?_
      obtain ⟨g278, h⟩ := OP.grd h
      obtain ⟨l279, el279, h⟩ := OP.lt h
      refine c_app g c_179 r180 r276 g278 el279 fun ws280 H_281 g282 c_283 w_284 ot285 => ?_
      replace c_182 := ot285 _ _ (by first | assumption | exact Ne.symm (by assumption)) c_182
      replace c_171 := ot285 _ _ (by first | assumption | exact Ne.symm (by assumption)) c_171
      replace c_175 := ot285 _ _ (by first | assumption | exact Ne.symm (by assumption)) c_175
      replace c_218 := ot285 _ _ (by first | assumption | exact Ne.symm (by assumption)) c_218
      replace g := g282
      refine z_dropE ?_
      refine c_bm0 (val_var rfl) (tyL c_218.h) ?_
      refine c_clear (τ := (qT2 (qI (K := K)) (q_Formula (K := K) T.c))) g c_218 fun H_286 g287 c_288 w_289 ot290 => ?_
      replace c_182 := ot290 _ _ (by first | assumption | exact Ne.symm (by assumption)) c_182
      replace c_171 := ot290 _ _ (by first | assumption | exact Ne.symm (by assumption)) c_171
      replace c_175 := ot290 _ _ (by first | assumption | exact Ne.symm (by assumption)) c_175
      replace c_283 := ot290 _ _ (by first | assumption | exact Ne.symm (by assumption)) c_283
      replace g := g287
      refine z_next ?_
      exact hN168 _ _ ⟨_, _, _, _, _, _, _, _, _, _, rfl, g, eS188, c_171, r172, c_175, r176, c_283, w_284, c_182, h⟩
    · intro σ' H_187 p
      obtain ⟨ws170, handed173, ws174, handed177, ws178, handed181, u183, u184, u185, S_186, rfl, gN, eS188, c_171N, r172N, c_175N, r176N, c_179N, r180N, c_182N, h⟩ := p
      replace g := gN
      have c_171 := c_171N
      have r172 := r172N
      have c_175 := c_175N
      have r176 := r176N
      have c_179 := c_179N
      have r180 := r180N
      have c_182 := c_182N
      replace r3 := RdL.mono eS188 r3
      replace r33 := Rep.mono _ eS188 r33
      replace r95 := Rep.mono _ eS188 r95
      replace r98 := Rep.mono _ eS188 r98
      replace r101 := Rep.mono _ eS188 r101
      replace h := hB165 _ (OP.forO_nil h)
      replace h := OP.un3 h
      refine z_setE ?_
      refine c_sliceE ?_
      refine c_lstE fun Q_291 hQ_291 => ?_
      refine c_args (va_cons val_c (va_cons val_c (va_cons val_c (va_cons val_c (va_cons val_c (va_cons val_c va_nil)))))) ?_
      refine c_newlst (Q := Q_291) (vs := [(.str "a"), (.str "b"), (.str "c"), (.str "d"), (.str "e"), (.str "f")]) (show 6 ≤ 1000 by decide) fun p292 H_293 e294 np295 ep296 => ?_
      refine q_eq hQ_291 ?_
      have w_297 : RL (qS (K := K)) S_186 [(.str "a"), (.str "b"), (.str "c"), (.str "d"), (.str "e"), (.str "f")] ([("a" : Str), ("b" : Str), ("c" : Str), ("d" : Str), ("e" : Str), ("f" : Str)] : List Str) := (.cons rfl (.cons rfl (.cons rfl (.cons rfl (.cons rfl (.cons rfl .nil))))))
      have ne300 := c_182.ne np295
      have ne301 := c_171.ne np295
      have ne302 := c_175.ne np295
      have ne303 := c_179.ne np295
      have z299 := g.hnone np295
      have c_298 : Cel [] H S_186 H_293 p292 (.lst [(.str "a"), (.str "b"), (.str "c"), (.str "d"), (.str "e"), (.str "f")]) := Cel.own g e294 np295 ep296 rfl
      replace c_182 := c_182.ext e294
      replace c_171 := c_171.ext e294
      replace c_175 := c_175.ext e294
      replace c_179 := c_179.ext e294
      replace g := g.ext e294
      refine c_slice2 po0 (po1 (val_var rfl)) ?_
      refine (l_slice (LS.cel c_298.h w_297) fun p304 ws305 H_306 e307 np308 ep309 rw310 => ?_)
      have ne313 := c_182.ne np308
      have ne314 := c_171.ne np308
      have ne315 := c_175.ne np308
      have ne316 := c_179.ne np308
      have z312 := g.hnone np308
      have c_311 : Cel [] H S_186 H_306 p304 (.lst ws305) := Cel.own g e307 np308 ep309 rfl
      replace c_182 := c_182.ext e307
      replace c_171 := c_171.ext e307
      replace c_175 := c_175.ext e307
      replace c_179 := c_179.ext e307
      replace g := g.ext e307
      refine g_name (σ' := [some v2, some (.int v4), some (.int v5), some (.int many6), some (.ref p20), some v93, some v96, some v99, u102, some (.ref p151), u183, u184, u185, some (.ref p304), none, none, none, none, none]) rfl ?_
      refine z_setE ?_
      refine c_make ?_
      refine c_args (va_cons (val_var rfl) (va_cons (v_ixl c_182.h rfl (val_var rfl) val_c) (va_cons (v_ixl c_182.h rfl (val_var rfl) val_c) (va_cons (v_ixl c_182.h rfl (val_var rfl) val_c) va_nil)))) ?_
      refine make_in fun p317 dx318 H_319 e320 np321 ep322 => ?_
      have ne326 := c_182.ne np321
      have ne327 := c_171.ne np321
      have ne328 := c_175.ne np321
      have ne329 := c_179.ne np321
      have ne330 := c_311.ne np321
      have z325 := g.hnone np321
      have c_324 : Cel [] H S_186 H_319 p317 (.ins T.c.Machine dx318 []) := Cel.own g e320 np321 ep322 rfl
      replace c_182 := c_182.ext e320
      replace c_171 := c_171.ext e320
      replace c_175 := c_175.ext e320
      replace c_179 := c_179.ext e320
      replace c_311 := c_311.ext e320
      replace g := g.ext e320
      have gL344 : ∀ l ∈ [p317], H l = none ∨ l ∈ [] := (LM1 c_324.z LM0)
      refine ⟨S_186, _, _, _, _, _, _, _, _, _, _, rfl, g.sh, c_324.h, c_324.s, (RdL.ofC c_311.h (NM1 (by first | assumption | exact Ne.symm (by assumption)) NM0) rw310), (RdL.ofC c_171.h (NM1 (by first | assumption | exact Ne.symm (by assumption)) NM0) r172), (RdL.ofC c_175.h (NM1 (by first | assumption | exact Ne.symm (by assumption)) NM0) r176), (RdL.ofC c_179.h (NM1 (by first | assumption | exact Ne.symm (by assumption)) NM0) r180), (OP.of h).mono fun v331 h S_332 H_333 w_335 w_337 w_339 w_341 gc334 hp343 r336 r338 r340 r342 => ?_⟩
      replace c_182 := c_182.call gc334 (NM1 (by first | assumption | exact Ne.symm (by assumption)) NM0)
      replace c_171 := c_171.call gc334 (NM1 (by first | assumption | exact Ne.symm (by assumption)) NM0)
      replace c_175 := c_175.call gc334 (NM1 (by first | assumption | exact Ne.symm (by assumption)) NM0)
      replace c_179 := c_179.call gc334 (NM1 (by first | assumption | exact Ne.symm (by assumption)) NM0)
      replace c_311 := c_311.call gc334 (NM1 (by first | assumption | exact Ne.symm (by assumption)) NM0)
      replace r3 := RdL.mono gc334.ss r3
      replace r33 := Rep.mono _ gc334.ss r33
      replace r95 := Rep.mono _ gc334.ss r95
      replace r98 := Rep.mono _ gc334.ss r98
      replace r101 := Rep.mono _ gc334.ss r101
      replace r172 := RL.mono gc334.ss r172
      replace r176 := RL.mono gc334.ss r176
      replace r180 := RL.mono gc334.ss r180
      replace rw310 := RL.mono gc334.ss rw310
      replace c_324 := c_324.mut gc334 hp343 rfl
      replace g := g.call gc334 gL344
      refine ⟨rfl, ?_⟩
      obtain ⟨S_345, g346, eS347, r348, ot349⟩ := fz_Machine (c := T.c) g c_324 z325 (x := v331) r336 r338 r340 r342
      replace c_182 := ot349 _ _ (by first | assumption | exact Ne.symm (by assumption)) c_182
      replace c_171 := ot349 _ _ (by first | assumption | exact Ne.symm (by assumption)) c_171
      replace c_175 := ot349 _ _ (by first | assumption | exact Ne.symm (by assumption)) c_175
      replace c_179 := ot349 _ _ (by first | assumption | exact Ne.symm (by assumption)) c_179
      replace c_311 := ot349 _ _ (by first | assumption | exact Ne.symm (by assumption)) c_311
      replace r3 := RdL.mono eS347 r3
      replace r33 := Rep.mono _ eS347 r33
      replace r95 := Rep.mono _ eS347 r95
      replace r98 := Rep.mono _ eS347 r98
      replace r101 := Rep.mono _ eS347 r101
      replace r172 := RL.mono eS347 r172
      replace r176 := RL.mono eS347 r176
      replace r180 := RL.mono eS347 r180
      replace rw310 := RL.mono eS347 rw310
      replace r336 := Rep.mono _ eS347 r336
      replace r338 := Rep.mono _ eS347 r338
      replace r340 := Rep.mono _ eS347 r340
      replace r342 := Rep.mono _ eS347 r342
      replace g := g346
      refine g_name (σ' := [some v2, some (.int v4), some (.int v5), some (.int many6), some (.ref p20), some v93, some v96, some v99, u102, some (.ref p151), u183, u184, u185, some (.ref p304), some (.ref p317), none, none, none, none]) rfl ?_
      refine z_setE ?_
      refine c_make ?_
      refine c_cons ?_
      refine c_cbE fun Q_350 hQ_350 => ?_
      refine c_args (va_cons (val_var rfl) va_nil) ?_
      refine (l_list (Q := Q_350) (LS.cel c_311.h rw310) fun p351 ws352 H_353 e354 np355 ep356 rw357 => ?_)
      refine q_eq hQ_350 ?_
      have ne360 := c_182.ne np355
      have ne361 := c_171.ne np355
      have ne362 := c_175.ne np355
      have ne363 := c_179.ne np355
      have ne364 := c_311.ne np355
      have z359 := g.hnone np355
      have c_358 : Cel [] H S_345 H_353 p351 (.lst ws352) := Cel.own g e354 np355 ep356 rfl
      replace c_182 := c_182.ext e354
      replace c_171 := c_171.ext e354
      replace c_175 := c_175.ext e354
      replace c_179 := c_179.ext e354
      replace c_311 := c_311.ext e354
      replace g := g.ext e354
      refine c_cons ?_
      refine c_val (v_ixl c_182.h rfl (val_var rfl) val_c) ?_
      refine c_cons ?_
      refine c_val (v_ixl c_182.h rfl (val_var rfl) val_c) ?_
      refine c_cons ?_
      refine c_lrE fun Q_365 hQ_365 => ?_
      refine c_val (v_ixl c_182.h rfl (val_var rfl) val_c) ?_
      refine (l_listRev (Q := Q_365) (LS.cel c_179.h r180) fun p366 ws367 H_368 e369 np370 ep371 rw372 => ?_)
      refine q_eq hQ_365 ?_
      have ne375 := c_182.ne np370
      have ne376 := c_171.ne np370
      have ne377 := c_175.ne np370
      have ne378 := c_179.ne np370
      have ne379 := c_311.ne np370
      have ne380 := c_358.ne np370
      have z374 := g.hnone np370
      have c_373 : Cel [] H S_345 H_368 p366 (.lst ws367) := Cel.own g e369 np370 ep371 rfl
      replace c_182 := c_182.ext e369
      replace c_171 := c_171.ext e369
      replace c_175 := c_175.ext e369
      replace c_179 := c_179.ext e369
      replace c_311 := c_311.ext e369
      replace c_358 := c_358.ext e369
      replace g := g.ext e369
      refine c_nil ?_
      refine make_in fun p381 dx382 H_383 e384 np385 ep386 => ?_
      have ne390 := c_182.ne np385
      have ne391 := c_171.ne np385
      have ne392 := c_175.ne np385
      have ne393 := c_179.ne np385
      have ne394 := c_311.ne np385
      have ne395 := c_358.ne np385
      have ne396 := c_373.ne np385
      have z389 := g.hnone np385
      have c_388 : Cel [] H S_345 H_383 p381 (.ins T.c.Machine dx382 []) := Cel.own g e384 np385 ep386 rfl
      replace c_182 := c_182.ext e384
      replace c_171 := c_171.ext e384
      replace c_175 := c_175.ext e384
      replace c_179 := c_179.ext e384
      replace c_311 := c_311.ext e384
      replace c_358 := c_358.ext e384
      replace c_373 := c_373.ext e384
      replace g := g.ext e384
      have gL410 : ∀ l ∈ [p381], H l = none ∨ l ∈ [] := (LM1 c_388.z LM0)
      refine ⟨S_345, _, _, _, _, _, _, _, _, _, _, rfl, g.sh, c_388.h, c_388.s, (RdL.ofC c_358.h (NM1 (by first | assumption | exact Ne.symm (by assumption)) NM0) rw357), (RdL.ofC c_175.h (NM1 (by first | assumption | exact Ne.symm (by assumption)) NM0) r176), (RdL.ofC c_171.h (NM1 (by first | assumption | exact Ne.symm (by assumption)) NM0) r172), (RdL.ofC c_373.h (NM1 (by first | assumption | exact Ne.symm (by assumption)) NM0) rw372), (OP.of h).mono fun v397 h S_398 H_399 w_401 w_403 w_405 w_407 gc400 hp409 r402 r404 r406 r408 => ?_⟩
      replace c_182 := c_182.call gc400 (NM1 (by first | assumption | exact Ne.symm (by assumption)) NM0)
      replace c_171 := c_171.call gc400 (NM1 (by first | assumption | exact Ne.symm (by assumption)) NM0)
      replace c_175 := c_175.call gc400 (NM1 (by first | assumption | exact Ne.symm (by assumption)) NM0)
      replace c_179 := c_179.call gc400 (NM1 (by first | assumption | exact Ne.symm (by assumption)) NM0)
      replace c_311 := c_311.call gc400 (NM1 (by first | assumption | exact Ne.symm (by assumption)) NM0)
      replace c_358 := c_358.call gc400 (NM1 (by first | assumption | exact Ne.symm (by assumption)) NM0)
      replace c_373 := c_373.call gc400 (NM1 (by first | assumption | exact Ne.symm (by assumption)) NM0)
      replace r3 := RdL.mono gc400.ss r3
      replace r33 := Rep.mono _ gc400.ss r33
      replace r95 := Rep.mono _ gc400.ss r95
      replace r98 := Rep.mono _ gc400.ss r98
      replace r101 := Rep.mono _ gc400.ss r101
      replace r172 := RL.mono gc400.ss r172
      replace r176 := RL.mono gc400.ss r176
      replace r180 := RL.mono gc400.ss r180
      replace rw310 := RL.mono gc400.ss rw310
      replace r348 := Rep.mono _ gc400.ss r348
      replace rw357 := RL.mono gc400.ss rw357
      replace rw372 := RL.mono gc400.ss rw372
      replace c_388 := c_388.mut gc400 hp409 rfl
      replace g := g.call gc400 gL410
      refine ⟨rfl, ?_⟩
      obtain ⟨S_411, g412, eS413, r414, ot415⟩ := fz_Machine (c := T.c) g c_388 z389 (x := v397) r402 r404 r406 r408
      replace c_182 := ot415 _ _ (by first | assumption | exact Ne.symm (by assumption)) c_182
      replace c_171 := ot415 _ _ (by first | assumption | exact Ne.symm (by assumption)) c_171
      replace c_175 := ot415 _ _ (by first | assumption | exact Ne.symm (by assumption)) c_175
      replace c_179 := ot415 _ _ (by first | assumption | exact Ne.symm (by assumption)) c_179
      replace c_311 := ot415 _ _ (by first | assumption | exact Ne.symm (by assumption)) c_311
      replace c_358 := ot415 _ _ (by first | assumption | exact Ne.symm (by assumption)) c_358
      replace c_373 := ot415 _ _ (by first | assumption | exact Ne.symm (by assumption)) c_373
      replace r3 := RdL.mono eS413 r3
      replace r33 := Rep.mono _ eS413 r33
      replace r95 := Rep.mono _ eS413 r95
      replace r98 := Rep.mono _ eS413 r98
      replace r101 := Rep.mono _ eS413 r101
      replace r172 := RL.mono eS413 r172
      replace r176 := RL.mono eS413 r176
      replace r180 := RL.mono eS413 r180
      replace rw310 := RL.mono eS413 rw310
      replace r348 := Rep.mono _ eS413 r348
      replace rw357 := RL.mono eS413 rw357
      replace rw372 := RL.mono eS413 rw372
      replace r402 := Rep.mono _ eS413 r402
      replace r404 := Rep.mono _ eS413 r404
      replace r406 := Rep.mono _ eS413 r406
      replace r408 := Rep.mono _ eS413 r408
      replace g := g412
      refine g_name (σ' := [some v2, some (.int v4), some (.int v5), some (.int many6), some (.ref p20), some v93, some v96, some v99, u102, some (.ref p151), u183, u184, u185, some (.ref p304), some (.ref p317), some (.ref p381), none, none, none]) rfl ?_
      refine z_ifE ?_
      obtain ⟨B416, h, hB417⟩ := OP.cut h
      refine c_cutT (fun b H' => ∃ (S_420 : Hp), Grow [] S H S_420 H' ∧ Same S_411 S_420 ∧ Cel [] H S_420 H' p151 (.lst [(.ref p114), (.ref p130), (.ref p141)]) ∧ Cel [] H S_420 H' p114 (.lst ws170) ∧ Cel [] H S_420 H' p130 (.lst ws174) ∧ Cel [] H S_420 H' p141 (.lst ws178) ∧ Cel [] H S_420 H' p304 (.lst ws305) ∧ B416 b) (fun q418 hq419 => ?_) ?_
      · have sn423 := Same.refl S_411
        refine c_or ?_
        refine c_ans (v_test (v_neI (v_len (val_var rfl) (qL_qQ (qL_of c_311.h (RL.mono g.sh rw310)))) (val_var rfl))) ?_
        refine ifb (fun hc => ?_) (fun hc => ?_)
        · replace h := OP.ite1 hc h
          exact hq419 _ _ ⟨_, g, sn423, c_182, c_171, c_175, c_179, c_311, h⟩
        · replace h := OP.ite0 hc h
          refine c_test ?_
          refine c_op ?_
          have q424h := SqL.of (K := K) c_182.h
          have q424p : Paired (fun (v_ : V) (n_ : Int) => ∃ (l_ : Addr) (ws_ : List V), v_ = .ref l_ ∧ H_399 l_ = some (.lst ws_) ∧ (ws_.length : Int) = n_) [(.ref p114), (.ref p130), (.ref p141)] ([(handed173.length : Int), (handed177.length : Int), (handed181.length : Int)] : List Int) := (.cons (lenRow c_171.h r172) (.cons (lenRow c_175.h r176) (.cons (lenRow c_179.h r180) .nil)))
          obtain ⟨ys426, eys426, h⟩ := OP.bind h
          refine c_lcL (val_var rfl) q424h q424p eys426 (τ := (qI (K := K))) (S := S_411) (fun w zx425 H_427 rw_ e428 r_ hm => ?_) ?_
          · obtain ⟨l_, ws_, ev_, hl_, hn_⟩ := rw_
            exact ⟨true, a_yes rfl, fun _ => ⟨_, _, (Option.some.inj hm).symm, v_lenRow (val_var rfl) ⟨l_, ws_, ev_, e428 _ _ hl_, hn_⟩, rfl⟩, fun z => nomatch z⟩
          intro p429 ws430 H_431 e432 np433 ep434 rw435
          have ne438 := c_182.ne np433
          have ne439 := c_171.ne np433
          have ne440 := c_175.ne np433
          have ne441 := c_179.ne np433
          have ne442 := c_311.ne np433
          have z437 := g.hnone np433
          have c_436 : Cel [] H S_411 H_431 p429 (.lst ws430) := Cel.own g e432 np433 ep434 rfl
          replace c_182 := c_182.ext e432
          replace c_171 := c_171.ext e432
          replace c_175 := c_175.ext e432
          replace c_179 := c_179.ext e432
          replace c_311 := c_311.ext e432
          replace g := g.ext e432
          refine c_lstE fun Q_443 hQ_443 => ?_
          refine c_args (va_cons (v_len (val_var rfl) (qL_qQ (Rep.mono _ g.sh r95))) (va_cons (v_len (val_var rfl) (qL_qQ (Rep.mono _ g.sh r98))) (va_cons (v_len (val_var rfl) (qL_qQ (Rep.mono _ g.sh r101))) va_nil))) ?_
          refine c_newlst (Q := Q_443) (vs := [(.int (starts94.length : Int)), (.int (bads97.length : Int)), (.int (moves_here100.length : Int))]) (show 3 ≤ 1000 by decide) fun p444 H_445 e446 np447 ep448 => ?_
          refine q_eq hQ_443 ?_
          have w_449 : RL (qI (K := K)) S_411 [(.int (starts94.length : Int)), (.int (bads97.length : Int)), (.int (moves_here100.length : Int))] ([(starts94.length : Int), (bads97.length : Int), (moves_here100.length : Int)] : List Int) := (.cons rfl (.cons rfl (.cons rfl .nil)))
          have ne452 := c_182.ne np447
          have ne453 := c_171.ne np447
          have ne454 := c_175.ne np447
          have ne455 := c_179.ne np447
          have ne456 := c_311.ne np447
          have ne457 := c_436.ne np447
          have z451 := g.hnone np447
          have c_450 : Cel [] H S_411 H_445 p444 (.lst [(.int (starts94.length : Int)), (.int (bads97.length : Int)), (.int (moves_here100.length : Int))]) := Cel.own g e446 np447 ep448 rfl
          replace c_182 := c_182.ext e446
          replace c_171 := c_171.ext e446
          replace c_175 := c_175.ext e446
          replace c_179 := c_179.ext e446
          replace c_311 := c_311.ext e446
          replace c_436 := c_436.ext e446
          replace g := g.ext e446
          refine e_neD (dL dI) (dL dI) rfl (Nat.le_of_ble_eq_true rfl) (qL_of c_436.h (RL.mono g.sh rw435)) (qL_of c_450.h (RL.mono g.sh w_449)) ?_
          refine ⟨_, rfl, ?_⟩
          exact hq419 _ _ ⟨_, g, sn423, c_182, c_171, c_175, c_179, c_311, h⟩
      intro b458 H_421 p
      obtain ⟨S_420, gN, eS422, c_182N, c_171N, c_175N, c_179N, c_311N, h⟩ := p
      replace g := gN
      replace c_182 := c_182N
      replace c_171 := c_171N
      replace c_175 := c_175N
      replace c_179 := c_179N
      replace c_311 := c_311N
      replace r3 := RdL.mono eS422 r3
      replace r33 := Rep.mono _ eS422 r33
      replace r95 := Rep.mono _ eS422 r95
      replace r98 := Rep.mono _ eS422 r98
      replace r101 := Rep.mono _ eS422 r101
      replace r172 := RL.mono eS422 r172
      replace r176 := RL.mono eS422 r176
      replace r180 := RL.mono eS422 r180
      replace rw310 := RL.mono eS422 rw310
      replace r348 := Rep.mono _ eS422 r348
      replace r414 := Rep.mono _ eS422 r414
      replace h := hB417 _ h
      refine ifb (fun hc => ?_) (fun hc => ?_)
      · replace h := OP.ite1 hc h
        refine z_ret val_c ?_
        have h := OP.fin hA h
        exact h _ _ g
      · replace h := OP.ite0 hc h
        refine z_nextR ?_
        refine z_ifE ?_
        refine c_not ?_
        refine c_B ?_
        refine c_call ?_
        refine c_cons ?_
        refine c_meth (val_var rfl) (in_Machine (Rep.mono _ g.sh r348)) (m := "chart") (by decide) ?_
        refine c_args va_nil ?_
        have gL465 : ∀ l ∈ [], H l = none ∨ l ∈ [] := LM0
        refine ⟨S_420, _, _, rfl, g.sh, r348, (OP.of h).mono fun v459 h S_460 H_461 v463 gc462 r464 => ?_⟩
        replace c_182 := c_182.call gc462 NM0
        replace c_171 := c_171.call gc462 NM0
        replace c_175 := c_175.call gc462 NM0
        replace c_179 := c_179.call gc462 NM0
        replace c_311 := c_311.call gc462 NM0
        replace r3 := RdL.mono gc462.ss r3
        replace r33 := Rep.mono _ gc462.ss r33
        replace r95 := Rep.mono _ gc462.ss r95
        replace r98 := Rep.mono _ gc462.ss r98
        replace r101 := Rep.mono _ gc462.ss r101
        replace r172 := RL.mono gc462.ss r172
        replace r176 := RL.mono gc462.ss r176
        replace r180 := RL.mono gc462.ss r180
        replace rw310 := RL.mono gc462.ss rw310
        replace r348 := Rep.mono _ gc462.ss r348
        replace r414 := Rep.mono _ gc462.ss r414
        replace g := g.call gc462 gL465
        refine c_cons ?_
        refine c_val (val_var rfl) ?_
        refine c_cons ?_
        refine c_val (val_var rfl) ?_
        refine c_cons ?_
        refine c_val (val_var rfl) ?_
        refine c_cons ?_
        refine c_val (val_var rfl) ?_
        refine c_nil ?_
        have gL470 : ∀ l ∈ [], H l = none ∨ l ∈ [] := LM0
        refine ⟨S_460, _, _, _, _, _, _, _, _, _, rfl, g.sh, r464, (RdL.ofL g.sh r95 LM0), (RdL.ofL g.sh r98 LM0), (RdL.ofL g.sh r101 LM0), (OP.of h).mono fun v466 h S_467 H_468 gc469 => ?_⟩
        replace c_182 := c_182.call gc469 NM0
        replace c_171 := c_171.call gc469 NM0
        replace c_175 := c_175.call gc469 NM0
        replace c_179 := c_179.call gc469 NM0
        replace c_311 := c_311.call gc469 NM0
        replace r3 := RdL.mono gc469.ss r3
        replace r33 := Rep.mono _ gc469.ss r33
        replace r95 := Rep.mono _ gc469.ss r95
        replace r98 := Rep.mono _ gc469.ss r98
        replace r101 := Rep.mono _ gc469.ss r101
        replace r172 := RL.mono gc469.ss r172
        replace r176 := RL.mono gc469.ss r176
        replace r180 := RL.mono gc469.ss r180
        replace rw310 := RL.mono gc469.ss rw310
        replace r348 := Rep.mono _ gc469.ss r348
        replace r414 := Rep.mono _ gc469.ss r414
        replace r464 := Rep.mono _ gc469.ss r464
        replace g := g.call gc469 gL470
        refine ⟨_, rfl, ?_⟩
        refine ifb (fun hc => ?_) (fun hc => ?_)
        · replace h := OP.ite1 hc h
          refine z_ret val_c ?_
          have h := OP.fin hA h
          exact h _ _ g
        · replace h := OP.ite0 hc h
          refine z_nextR ?_
          refine z_ifE ?_
          refine c_not ?_
          refine c_B ?_
          refine c_call ?_
          refine c_cons ?_
          refine c_meth (val_var rfl) (in_Machine (Rep.mono _ g.sh r414)) (m := "chart") (by decide) ?_
          refine c_args va_nil ?_
          have gL477 : ∀ l ∈ [], H l = none ∨ l ∈ [] := LM0
          refine ⟨S_467, _, _, rfl, g.sh, r414, (OP.of h).mono fun v471 h S_472 H_473 v475 gc474 r476 => ?_⟩
          replace c_182 := c_182.call gc474 NM0
          replace c_171 := c_171.call gc474 NM0
          replace c_175 := c_175.call gc474 NM0
          replace c_179 := c_179.call gc474 NM0
          replace c_311 := c_311.call gc474 NM0
          replace r3 := RdL.mono gc474.ss r3
          replace r33 := Rep.mono _ gc474.ss r33
          replace r95 := Rep.mono _ gc474.ss r95
          replace r98 := Rep.mono _ gc474.ss r98
          replace r101 := Rep.mono _ gc474.ss r101
          replace r172 := RL.mono gc474.ss r172
          replace r176 := RL.mono gc474.ss r176
          replace r180 := RL.mono gc474.ss r180
          replace rw310 := RL.mono gc474.ss rw310
          replace r348 := Rep.mono _ gc474.ss r348
          replace r414 := Rep.mono _ gc474.ss r414
          replace g := g.call gc474 gL477
          refine c_cons ?_
          refine c_val (val_var rfl) ?_
          refine c_cons ?_
          refine c_val (val_var rfl) ?_
          refine c_cons ?_
          refine c_val (val_var rfl) ?_
          refine c_cons ?_
          refine c_val (val_var rfl) ?_
          refine c_nil ?_
          have gL482 : ∀ l ∈ [], H l = none ∨ l ∈ [] := LM0
          refine ⟨S_472, _, _, _, _, _, _, _, _, _, rfl, g.sh, r476, (RdL.ofL g.sh r98 LM0), (RdL.ofL g.sh r95 LM0), (RdL.ofL g.sh r101 LM0), (OP.of h).mono fun v478 h S_479 H_480 gc481 => ?_⟩
          replace c_182 := c_182.call gc481 NM0
          replace c_171 := c_171.call gc481 NM0
          replace c_175 := c_175.call gc481 NM0
          replace c_179 := c_179.call gc481 NM0
          replace c_311 := c_311.call gc481 NM0
          replace r3 := RdL.mono gc481.ss r3
          replace r33 := Rep.mono _ gc481.ss r33
          replace r95 := Rep.mono _ gc481.ss r95
          replace r98 := Rep.mono _ gc481.ss r98
          replace r101 := Rep.mono _ gc481.ss r101
          replace r172 := RL.mono gc481.ss r172
          replace r176 := RL.mono gc481.ss r176
          replace r180 := RL.mono gc481.ss r180
          replace rw310 := RL.mono gc481.ss rw310
          replace r348 := Rep.mono _ gc481.ss r348
          replace r414 := Rep.mono _ gc481.ss r414
          replace r476 := Rep.mono _ gc481.ss r476
          replace g := g.call gc481 gL482
          refine ⟨_, rfl, ?_⟩
          refine ifb (fun hc => ?_) (fun hc => ?_)
          · replace h := OP.ite1 hc h
            refine z_ret val_c ?_
            have h := OP.fin hA h
            exact h _ _ g
          · replace h := OP.ite0 hc h
            refine z_nextR ?_
            refine z_dropE ?_
            refine c_bm0 (val_var rfl) (tyL c_311.h) ?_
            refine c_clear (τ := (qS (K := K))) g c_311 fun H_483 g484 c_485 w_486 ot487 => ?_
            replace c_182 := ot487 _ _ (by first | assumption | exact Ne.symm (by assumption)) c_182
            replace c_171 := ot487 _ _ (by first | assumption | exact Ne.symm (by assumption)) c_171
            replace c_175 := ot487 _ _ (by first | assumption | exact Ne.symm (by assumption)) c_175
            replace c_179 := ot487 _ _ (by first | assumption | exact Ne.symm (by assumption)) c_179
            replace g := g484
            have ho488 := c_182.h
            have h_489 := c_171.h
            obtain ⟨H_490, eH494⟩ : ∃ H1, H1 = upd H_483 p114 (.lst []) := ⟨_, rfl⟩
            have g491 : Grow [] S H S_479 H_490 := by rw [eH494]; exact g.wr c_171 rfl
            have c_492 : Cel [] H S_479 H_490 p114 (.lst []) := by rw [eH494]; exact c_171.wr rfl
            have w_493 : RL (q_Formula (K := K) T.c) S_479 [] ([] : List O_Formula) := .nil
            replace c_182 : Cel [] H S_479 H_490 p151 (.lst [(.ref p114), (.ref p130), (.ref p141)]) := by rw [eH494]; exact c_182.wrn (by first | assumption | exact Ne.symm (by assumption))
            replace c_175 : Cel [] H S_479 H_490 p130 (.lst ws174) := by rw [eH494]; exact c_175.wrn (by first | assumption | exact Ne.symm (by assumption))
            replace c_179 : Cel [] H S_479 H_490 p141 (.lst ws178) := by rw [eH494]; exact c_179.wrn (by first | assumption | exact Ne.symm (by assumption))
            replace c_485 : Cel [] H S_479 H_490 p304 (.lst []) := by rw [eH494]; exact c_485.wrn (by first | assumption | exact Ne.symm (by assumption))
            replace g := g491
            have ho496 := c_182.h
            have h_497 := c_175.h
            obtain ⟨H_498, eH502⟩ : ∃ H1, H1 = upd H_490 p130 (.lst []) := ⟨_, rfl⟩
            have g499 : Grow [] S H S_479 H_498 := by rw [eH502]; exact g.wr c_175 rfl
            have c_500 : Cel [] H S_479 H_498 p130 (.lst []) := by rw [eH502]; exact c_175.wr rfl
            have w_501 : RL (q_Formula (K := K) T.c) S_479 [] ([] : List O_Formula) := .nil
            replace c_182 : Cel [] H S_479 H_498 p151 (.lst [(.ref p114), (.ref p130), (.ref p141)]) := by rw [eH502]; exact c_182.wrn (by first | assumption | exact Ne.symm (by assumption))
            replace c_492 : Cel [] H S_479 H_498 p114 (.lst []) := by rw [eH502]; exact c_492.wrn (by first | assumption | exact Ne.symm (by assumption))
            replace c_179 : Cel [] H S_479 H_498 p141 (.lst ws178) := by rw [eH502]; exact c_179.wrn (by first | assumption | exact Ne.symm (by assumption))
            replace c_485 : Cel [] H S_479 H_498 p304 (.lst []) := by rw [eH502]; exact c_485.wrn (by first | assumption | exact Ne.symm (by assumption))
            replace g := g499
            have ho504 := c_182.h
            have h_505 := c_179.h
            obtain ⟨H_506, eH510⟩ : ∃ H1, H1 = upd H_498 p141 (.lst []) := ⟨_, rfl⟩
            have g507 : Grow [] S H S_479 H_506 := by rw [eH510]; exact g.wr c_179 rfl
            have c_508 : Cel [] H S_479 H_506 p141 (.lst []) := by rw [eH510]; exact c_179.wr rfl
            have w_509 : RL (q_Move (K := K) T.c) S_479 [] ([] : List O_Move) := .nil
            replace c_182 : Cel [] H S_479 H_506 p151 (.lst [(.ref p114), (.ref p130), (.ref p141)]) := by rw [eH510]; exact c_182.wrn (by first | assumption | exact Ne.symm (by assumption))
            replace c_492 : Cel [] H S_479 H_506 p114 (.lst []) := by rw [eH510]; exact c_492.wrn (by first | assumption | exact Ne.symm (by assumption))
            replace c_500 : Cel [] H S_479 H_506 p130 (.lst []) := by rw [eH510]; exact c_500.wrn (by first | assumption | exact Ne.symm (by assumption))
            replace c_485 : Cel [] H S_479 H_506 p304 (.lst []) := by rw [eH510]; exact c_485.wrn (by first | assumption | exact Ne.symm (by assumption))
            replace g := g507
            have ho512 := c_182.h
            refine z_forL (val_var rfl) (eqsL _) (fun (ys : List V) σ' H' => (ys = [(.ref p114), (.ref p130), (.ref p141)] ∧ σ' = [some v2, some (.int v4), some (.int v5), some (.int many6), some (.ref p20), some v93, some v96, some v99, u102, some (.ref p151), u183, u184, u185, some (.ref p304), some (.ref p317), some (.ref p381), none, none, none] ∧ H' = H_483) ∨ (ys = [(.ref p130), (.ref p141)] ∧ σ' = [some v2, some (.int v4), some (.int v5), some (.int many6), some (.ref p20), some v93, some v96, some v99, u102, some (.ref p151), u183, u184, u185, some (.ref p304), some (.ref p317), some (.ref p381), some (.ref p114), none, none] ∧ H' = H_490) ∨ (ys = [(.ref p141)] ∧ σ' = [some v2, some (.int v4), some (.int v5), some (.int many6), some (.ref p20), some v93, some v96, some v99, u102, some (.ref p151), u183, u184, u185, some (.ref p304), some (.ref p317), some (.ref p381), some (.ref p130), none, none] ∧ H' = H_498) ∨ (ys = [] ∧ σ' = [some v2, some (.int v4), some (.int v5), some (.int many6), some (.ref p20), some v93, some v96, some v99, u102, some (.ref p151), u183, u184, u185, some (.ref p304), some (.ref p317), some (.ref p381), some (.ref p141), none, none] ∧ H' = H_506)) (.inl ⟨rfl, rfl, rfl⟩) (fun ys σ' H' p => by
                  rcases p with ⟨_, _, rfl⟩ | ⟨_, _, rfl⟩ | ⟨_, _, rfl⟩ | ⟨_, _, rfl⟩
                  · exact SqL.of ho488
                  · exact SqL.of ho496
                  · exact SqL.of ho504
                  · exact SqL.of ho512
                ) (fun w_514 y515 ys σ' H_516 rw_ p N hN517 => ?_) ?_
            · rcases p with ⟨ey, rfl, rfl⟩ | ⟨ey, rfl, rfl⟩ | ⟨ey, rfl, rfl⟩ | ⟨ey, rfl, rfl⟩
              · cases ey; cases rw_
                refine g_name (σ' := [some v2, some (.int v4), some (.int v5), some (.int many6), some (.ref p20), some v93, some v96, some v99, u102, some (.ref p151), u183, u184, u185, some (.ref p304), some (.ref p317), some (.ref p381), some (.ref p114), none, none]) rfl ?_
                refine z_dropE ?_
                refine c_clearR (val_var rfl) h_489 ?_
                rw [← eH494]
                exact hN517 _ _ (.inr (.inl ⟨rfl, rfl, rfl⟩))
              · cases ey; cases rw_
                refine g_name (σ' := [some v2, some (.int v4), some (.int v5), some (.int many6), some (.ref p20), some v93, some v96, some v99, u102, some (.ref p151), u183, u184, u185, some (.ref p304), some (.ref p317), some (.ref p381), some (.ref p130), none, none]) rfl ?_
                refine z_dropE ?_
                refine c_clearR (val_var rfl) h_497 ?_
                rw [← eH502]
                exact hN517 _ _ (.inr (.inr (.inl ⟨rfl, rfl, rfl⟩)))
              · cases ey; cases rw_
                refine g_name (σ' := [some v2, some (.int v4), some (.int v5), some (.int many6), some (.ref p20), some v93, some v96, some v99, u102, some (.ref p151), u183, u184, u185, some (.ref p304), some (.ref p317), some (.ref p381), some (.ref p141), none, none]) rfl ?_
                refine z_dropE ?_
                refine c_clearR (val_var rfl) h_505 ?_
                rw [← eH510]
                exact hN517 _ _ (.inr (.inr (.inr ⟨rfl, rfl, rfl⟩)))
              · cases ey
            · rintro σ' H' (⟨ey, rfl, rfl⟩ | ⟨ey, rfl, rfl⟩ | ⟨ey, rfl, rfl⟩ | ⟨ey, rfl, rfl⟩)
              · cases ey
              · cases ey
              · cases ey
              · refine z_retE ?_
                refine c_call ?_
                refine c_cons ?_
                refine c_meth (val_var rfl) (in_Machine (Rep.mono _ g.sh r348)) (m := "chart") (by decide) ?_
                refine c_args va_nil ?_
                have gL524 : ∀ l ∈ [], H l = none ∨ l ∈ [] := LM0
                refine ⟨S_479, _, _, rfl, g.sh, r348, (OP.of h).mono fun v518 h S_519 H_520 v522 gc521 r523 => ?_⟩
                replace c_182 := c_182.call gc521 NM0
                replace c_492 := c_492.call gc521 NM0
                replace c_500 := c_500.call gc521 NM0
                replace c_508 := c_508.call gc521 NM0
                replace c_485 := c_485.call gc521 NM0
                replace r3 := RdL.mono gc521.ss r3
                replace r33 := Rep.mono _ gc521.ss r33
                replace r95 := Rep.mono _ gc521.ss r95
                replace r98 := Rep.mono _ gc521.ss r98
                replace r101 := Rep.mono _ gc521.ss r101
                replace w_493 := RL.mono gc521.ss w_493
                replace w_501 := RL.mono gc521.ss w_501
                replace w_509 := RL.mono gc521.ss w_509
                replace w_486 := RL.mono gc521.ss w_486
                replace r348 := Rep.mono _ gc521.ss r348
                replace r414 := Rep.mono _ gc521.ss r414
                replace g := g.call gc521 gL524
                refine c_cons ?_
                refine c_val (val_var rfl) ?_
                refine c_cons ?_
                refine c_val (val_var rfl) ?_
                refine c_cons ?_
                refine c_val (val_var rfl) ?_
                refine c_cons ?_
                refine c_val (val_var rfl) ?_
                refine c_nil ?_
                have gL529 : ∀ l ∈ [], H l = none ∨ l ∈ [] := LM0
                refine ⟨S_519, _, _, _, _, _, _, _, _, _, rfl, g.sh, r523, (RdL.ofL g.sh r95 LM0), (RdL.ofL g.sh r98 LM0), (RdL.ofL g.sh r101 LM0), (OP.of h).mono fun v525 h S_526 H_527 gc528 => ?_⟩
                replace c_182 := c_182.call gc528 NM0
                replace c_492 := c_492.call gc528 NM0
                replace c_500 := c_500.call gc528 NM0
                replace c_508 := c_508.call gc528 NM0
                replace c_485 := c_485.call gc528 NM0
                replace r3 := RdL.mono gc528.ss r3
                replace r33 := Rep.mono _ gc528.ss r33
                replace r95 := Rep.mono _ gc528.ss r95
                replace r98 := Rep.mono _ gc528.ss r98
                replace r101 := Rep.mono _ gc528.ss r101
                replace w_493 := RL.mono gc528.ss w_493
                replace w_501 := RL.mono gc528.ss w_501
                replace w_509 := RL.mono gc528.ss w_509
                replace w_486 := RL.mono gc528.ss w_486
                replace r348 := Rep.mono _ gc528.ss r348
                replace r414 := Rep.mono _ gc528.ss r414
                replace r523 := Rep.mono _ gc528.ss r523
                replace g := g.call gc528 gL529
                have h := OP.fin hA h
                exact h _ _ g
  · replace h := OP.ite1 hc h
    have sn530 := Same.refl S_86
    refine z_setE ?_
    refine c_lstE fun Q_531 hQ_531 => ?_
    refine c_args (va_cons (val_var rfl) va_nil) ?_
    refine c_newlst (Q := Q_531) (vs := [(.int v5)]) (show 1 ≤ 1000 by decide) fun p532 H_533 e534 np535 ep536 => ?_
    refine q_eq hQ_531 ?_
    have w_537 : RL (qI (K := K)) S_86 [(.int v5)] ([v5] : List Int) := (.cons rfl .nil)
    have z539 := g.hnone np535
    have c_538 : Cel [] H S_86 H_533 p532 (.lst [(.int v5)]) := Cel.own g e534 np535 ep536 rfl
    replace g := g.ext e534
    refine g_name (σ' := [some v2, some (.int v4), some (.int v5), some (.int many6), some (.ref p20), some (.ref p39), some (.ref p57), some (.ref p77), some (.ref p532), none, none, none, none, none, none, none, none, none, none]) rfl ?_
    refine z_setE ?_
    refine c_call ?_
    refine c_args (va_cons (val_var rfl) (va_cons (val_var rfl) va_nil)) ?_
    have gL553 : ∀ l ∈ [p532], H l = none ∨ l ∈ [] := (LM1 c_538.z LM0)
    refine ⟨S_86, _, _, _, _, _, rfl, g.sh, (RdL.ofL g.sh r33 (LM1 c_538.s LM0)), c_538.h, c_538.s, w_537, (OP.of h).mono fun v540 h S_541 H_542 p544 ws545 ws550 gc543 np546 hp547 sp548 wf549 hp551 wf552 => ?_⟩
    have ne554 := c_538.ne np546
    have z555 := g.hnone np546
    replace r3 := RdL.mono gc543.ss r3
    replace r33 := Rep.mono _ gc543.ss r33
    replace r51 := Rep.mono _ gc543.ss r51
    replace r69 := Rep.mono _ gc543.ss r69
    replace r89 := Rep.mono _ gc543.ss r89
    replace w_537 := RL.mono gc543.ss w_537
    replace sn530 := sn530.trans gc543.ss
    replace c_538 := c_538.mut gc543 hp551 rfl
    have c_556 : Cel [] H S_541 H_542 p544 (.lst ws545) := ⟨hp547, sp548, .inl z555, rfl⟩
    replace g := g.call gc543 gL553
    obtain ⟨S_557, g558, eS559, r560, ot561⟩ := c_freeze g c_556 z555 wf549
    replace c_538 := ot561 _ _ (by first | assumption | exact Ne.symm (by assumption)) c_538
    replace r3 := RdL.mono eS559 r3
    replace r33 := Rep.mono _ eS559 r33
    replace r51 := Rep.mono _ eS559 r51
    replace r69 := Rep.mono _ eS559 r69
    replace r89 := Rep.mono _ eS559 r89
    replace wf552 := RL.mono eS559 wf552
    replace sn530 := sn530.trans eS559
    replace g := g558
    refine g_name (σ' := [some v2, some (.int v4), some (.int v5), some (.int many6), some (.ref p20), some (.ref p544), some (.ref p57), some (.ref p77), some (.ref p532), none, none, none, none, none, none, none, none, none, none]) rfl ?_
    refine z_setE ?_
    refine c_call ?_
    refine c_args (va_cons (val_var rfl) (va_cons (val_var rfl) va_nil)) ?_
    have gL575 : ∀ l ∈ [p532], H l = none ∨ l ∈ [] := (LM1 c_538.z LM0)
    refine ⟨S_557, _, _, _, _, _, rfl, g.sh, (RdL.ofL g.sh r33 (LM1 c_538.s LM0)), c_538.h, c_538.s, wf552, (OP.of h).mono fun v562 h S_563 H_564 p566 ws567 ws572 gc565 np568 hp569 sp570 wf571 hp573 wf574 => ?_⟩
    have ne576 := c_538.ne np568
    have z577 := g.hnone np568
    replace r3 := RdL.mono gc565.ss r3
    replace r33 := Rep.mono _ gc565.ss r33
    replace r560 := Rep.mono _ gc565.ss r560
    replace r69 := Rep.mono _ gc565.ss r69
    replace r89 := Rep.mono _ gc565.ss r89
    replace wf552 := RL.mono gc565.ss wf552
    replace sn530 := sn530.trans gc565.ss
    replace c_538 := c_538.mut gc565 hp573 rfl
    have c_578 : Cel [] H S_563 H_564 p566 (.lst ws567) := ⟨hp569, sp570, .inl z577, rfl⟩
    replace g := g.call gc565 gL575
    obtain ⟨S_579, g580, eS581, r582, ot583⟩ := c_freeze g c_578 z577 wf571
    replace c_538 := ot583 _ _ (by first | assumption | exact Ne.symm (by assumption)) c_538
    replace r3 := RdL.mono eS581 r3
    replace r33 := Rep.mono _ eS581 r33
    replace r560 := Rep.mono _ eS581 r560
    replace r69 := Rep.mono _ eS581 r69
    replace r89 := Rep.mono _ eS581 r89
    replace wf574 := RL.mono eS581 wf574
    replace sn530 := sn530.trans eS581
    replace g := g580
    refine g_name (σ' := [some v2, some (.int v4), some (.int v5), some (.int many6), some (.ref p20), some (.ref p544), some (.ref p566), some (.ref p77), some (.ref p532), none, none, none, none, none, none, none, none, none, none]) rfl ?_
    refine z_setE ?_
    refine c_call ?_
    refine c_cons ?_
    refine c_val (val_var rfl) ?_
    refine c_cons ?_
    refine c_val (val_var rfl) ?_
    refine c_cons ?_
    refine c_lstE fun Q_584 hQ_584 => ?_
    obtain ⟨v585, ev585, h⟩ := OP.bind h
    refine c_args (va_cons (v_call (va_cons (val_var rfl) (va_cons val_c va_nil)) fun Q q => ⟨_, _, _, rfl, (RdL.q g r3), OP.mk ev585 q⟩) va_nil) ?_
    refine c_newlst (Q := Q_584) (vs := [(.int v585)]) (show 1 ≤ 1000 by decide) fun p586 H_587 e588 np589 ep590 => ?_
    refine q_eq hQ_584 ?_
    have w_591 : RL (qI (K := K)) S_579 [(.int v585)] ([v585] : List Int) := (.cons rfl .nil)
    have ne594 := c_538.ne np589
    have z593 := g.hnone np589
    have c_592 : Cel [] H S_579 H_587 p586 (.lst [(.int v585)]) := Cel.own g e588 np589 ep590 rfl
    replace c_538 := c_538.ext e588
    replace g := g.ext e588
    refine c_nil ?_
    have gL608 : ∀ l ∈ [p586], H l = none ∨ l ∈ [] := (LM1 c_592.z LM0)
    refine ⟨S_579, _, _, _, _, _, _, rfl, g.sh, (RdL.ofL g.sh r33 (LM1 c_592.s LM0)), c_592.h, c_592.s, w_591, (OP.of h).mono fun v595 h S_596 H_597 p599 ws600 ws605 gc598 np601 hp602 sp603 wf604 hp606 wf607 => ?_⟩
    have ne609 := c_538.ne np601
    have ne610 := c_592.ne np601
    have z611 := g.hnone np601
    replace c_538 := c_538.call gc598 (NM1 (by first | assumption | exact Ne.symm (by assumption)) NM0)
    replace r3 := RdL.mono gc598.ss r3
    replace r33 := Rep.mono _ gc598.ss r33
    replace r560 := Rep.mono _ gc598.ss r560
    replace r582 := Rep.mono _ gc598.ss r582
    replace r89 := Rep.mono _ gc598.ss r89
    replace wf574 := RL.mono gc598.ss wf574
    replace w_591 := RL.mono gc598.ss w_591
    replace sn530 := sn530.trans gc598.ss
    replace c_592 := c_592.mut gc598 hp606 rfl
    have c_612 : Cel [] H S_596 H_597 p599 (.lst ws600) := ⟨hp602, sp603, .inl z611, rfl⟩
    replace g := g.call gc598 gL608
    obtain ⟨S_613, g614, eS615, r616, ot617⟩ := c_freeze g c_612 z611 wf604
    replace c_538 := ot617 _ _ (by first | assumption | exact Ne.symm (by assumption)) c_538
    replace r3 := RdL.mono eS615 r3
    replace r33 := Rep.mono _ eS615 r33
    replace r560 := Rep.mono _ eS615 r560
    replace r582 := Rep.mono _ eS615 r582
    replace r89 := Rep.mono _ eS615 r89
    replace wf574 := RL.mono eS615 wf574
    replace sn530 := sn530.trans eS615
    replace g := g614
    refine g_name (σ' := [some v2, some (.int v4), some (.int v5), some (.int many6), some (.ref p20), some (.ref p544), some (.ref p566), some (.ref p599), some (.ref p532), none, none, none, none, none, none, none, none, none, none]) rfl ?_
    refine z_next ?_
    exact hN _ _ ⟨_, _, _, _, _, _, _, _, rfl, g, sn530, r560, r582, r616, h⟩
  · replace h := OP.ite0 hc h
    have sn618 := Same.refl S_86
    refine z_next ?_
    exact hN _ _ ⟨_, _, _, _, _, _, _, _, rfl, g, sn618, r51, r69, r89, h⟩
end
end E
namespace B
open PySem Z

/-! ### loops by an invariant -/
theorem forO_rng {σ : Type} {body : Int → σ → Option σ} (I : Nat → σ → Prop) : ∀ (n a : Nat) (s : σ), I a s → (∀ i s, a ≤ i → i < a + n → I i s → ∃ s', body (i : Int) s = some s' ∧ I (i + 1) s') → ∃ s', forO body (rangeI (a : Int) n) s = some s' ∧ I (a + n) s'
  | 0, a, s, h, _ => ⟨s, forO_nil, h⟩
  | n + 1, a, s, h, hs => by
    obtain ⟨s1, e1, h1⟩ := hs a s (Nat.le_refl _) (by omega) h
    obtain ⟨s2, e2, h2⟩ := forO_rng I n (a + 1) s1 h1 fun i s hi hj hI => hs i s (by omega) (by omega) hI
    refine ⟨s2, ?_, by rw [show a + (n + 1) = a + 1 + n by omega]; exact h2⟩
    rw [rangeI_succ, forO_cons, e1]
    show forO body (rangeI ((a : Int) + 1) n) s1 = some s2
    rw [show ((a : Int) + 1) = ((a + 1 : Nat) : Int) by omega]
    exact e2
theorem forR_rng {σ ρ : Type} {body : Int → σ → Option (σ ⊕ ρ)} (I : Nat → σ → Prop) : ∀ (n a : Nat) (s : σ), I a s → (∀ i s, a ≤ i → i < a + n → I i s → ∃ s', body (i : Int) s = some (.inl s') ∧ I (i + 1) s') → ∃ s', forR body (rangeI (a : Int) n) s = some (.inl s') ∧ I (a + n) s'
  | 0, a, s, h, _ => ⟨s, forR_nil, h⟩
  | n + 1, a, s, h, hs => by
    obtain ⟨s1, e1, h1⟩ := hs a s (Nat.le_refl _) (by omega) h
    obtain ⟨s2, e2, h2⟩ := forR_rng I n (a + 1) s1 h1 fun i s hi hj hI => hs i s (by omega) (by omega) hI
    refine ⟨s2, ?_, by rw [show a + (n + 1) = a + 1 + n by omega]; exact h2⟩
    rw [rangeI_succ, forR_cons, e1]
    show forR body (rangeI ((a : Int) + 1) n) s1 = some (.inl s2)
    rw [show ((a : Int) + 1) = ((a + 1 : Nat) : Int) by omega]
    exact e2
/-- over range(n) -/
theorem forO_r0 {σ : Type} {body : Int → σ → Option σ} (I : Nat → σ → Prop) {n : Nat} {s : σ} (h : I 0 s) (hs : ∀ i s, i < n → I i s → ∃ s', body (i : Int) s = some s' ∧ I (i + 1) s') : ∃ s', forO body (rangeI 0 n) s = some s' ∧ I n s' := by
  obtain ⟨s', e, i⟩ := forO_rng I n 0 s h fun i s _ hj hI => hs i s (by omega) hI
  rw [Nat.zero_add] at i
  exact ⟨s', e, i⟩
theorem forR_r0 {σ ρ : Type} {body : Int → σ → Option (σ ⊕ ρ)} (I : Nat → σ → Prop) {n : Nat} {s : σ} (h : I 0 s) (hs : ∀ i s, i < n → I i s → ∃ s', body (i : Int) s = some (.inl s') ∧ I (i + 1) s') : ∃ s', forR body (rangeI 0 n) s = some (.inl s') ∧ I n s' := by
  obtain ⟨s', e, i⟩ := forR_rng I n 0 s h fun i s _ hj hI => hs i s (by omega) hI
  rw [Nat.zero_add] at i
  exact ⟨s', e, i⟩
/-- a search: all turns pass, or the first that does not answers -/
theorem forR_all {ρ : Type} {body : Int → Unit → Option (Unit ⊕ ρ)} {v : ρ} (p : Nat → Bool) : ∀ (n a : Nat), (∀ i, a ≤ i → i < a + n → body (i : Int) () = some (if p i = true then .inl () else .inr v)) →
    forR body (rangeI (a : Int) n) () = some (if (List.range' a n).all p = true then .inl () else .inr v)
  | 0, a, _ => forR_nil
  | n + 1, a, h => by
    rw [rangeI_succ, forR_cons, h a (Nat.le_refl _) (by omega), List.range'_succ, List.all_cons]
    by_cases hp : p a = true
    · rw [if_pos hp, hp, Bool.true_and]
      show forR body (rangeI ((a : Int) + 1) n) () = _
      rw [show ((a : Int) + 1) = ((a + 1 : Nat) : Int) by omega]
      exact forR_all p n (a + 1) fun i h1 h2 => h i (by omega) (by omega)
    · rw [if_neg hp, if_neg]
      · rfl
      · rw [Bool.and_eq_true]; exact fun z => hp z.1
theorem forR_all0 {ρ : Type} {body : Int → Unit → Option (Unit ⊕ ρ)} {v : ρ} (p : Nat → Bool) {n : Nat} (h : ∀ i, i < n → body (i : Int) () = some (if p i = true then .inl () else .inr v)) :
    forR body (rangeI 0 n) () = some (if (List.range n).all p = true then .inl () else .inr v) := by
  have q := forR_all p n 0 fun i _ h2 => h i (by omega)
  rw [List.range_eq_range']
  exact q
theorem bind_eq {α β : Type} {m : Option α} {a : α} {k : α → Option β} (h : m = some a) : m.bind k = k a := by rw [h]; rfl
theorem brk_inl {σ ρ : Type} {m : Option (σ ⊕ ρ)} {s : σ} {k : σ → Option ρ} (h : m = some (.inl s)) : brk m k = k s := by rw [h]; rfl
theorem brk_inr {σ ρ : Type} {m : Option (σ ⊕ ρ)} {v : ρ} {k : σ → Option ρ} (h : m = some (.inr v)) : brk m k = some v := by rw [h]; rfl
theorem lt_eq {α β : Type} {e : α} {k : α → Option β} : lt e k = k e := rfl

/-! ### whole numbers that are no less than nought -/
theorem shl_nat (n k : Nat) : shl (n : Int) (k : Int) = ((n <<< k : Nat) : Int) := by
  show (n : Int) * 2 ^ (Int.toNat (k : Int)) = _
  rw [Int.toNat_natCast, Nat.shiftLeft_eq]
  push_cast
  rfl
theorem shl1_nat (k : Nat) : shl 1 (k : Int) = ((2 ^ k : Nat) : Int) := by
  have h := shl_nat 1 k
  rw [Nat.shiftLeft_eq, Nat.one_mul] at h
  exact h
theorem shr_nat (n k : Nat) : shr (n : Int) (k : Int) = ((n >>> k : Nat) : Int) := by
  show (n : Int) / 2 ^ (Int.toNat (k : Int)) = _
  rw [Int.toNat_natCast, Nat.shiftRight_eq_div_pow]
  push_cast
  rfl
theorem band_nat (a b : Nat) : band (a : Int) (b : Int) = ((a &&& b : Nat) : Int) := by
  show Builtin.bitAnd _ _ = _
  rw [PyProof.Rows.bitAnd_pp (by omega) (by omega)]
  rfl
theorem bor_nat (a b : Nat) : bor (a : Int) (b : Int) = ((a ||| b : Nat) : Int) := by
  show Builtin.bitOr _ _ = _
  rw [L2.bitOr_nn (by omega) (by omega)]
  rfl
theorem nat_xor_and (a b : Nat) : (a ^^^ b) + 2 * (a &&& b) = a + b := by
  have h1 := PyProof.Rows.nat_or_add_and a b
  have h2 := PyProof.Rows.nat_or_add_and (a ^^^ b) (a &&& b)
  have e1 : (a ^^^ b) ||| (a &&& b) = a ||| b := by
    apply Nat.eq_of_testBit_eq
    intro i
    simp only [Nat.testBit_or, Nat.testBit_xor, Nat.testBit_and]
    cases a.testBit i <;> cases b.testBit i <;> rfl
  have e2 : (a ^^^ b) &&& (a &&& b) = 0 := by
    apply Nat.eq_of_testBit_eq
    intro i
    simp only [Nat.testBit_xor, Nat.testBit_and, Nat.zero_testBit]
    cases a.testBit i <;> cases b.testBit i <;> rfl
  rw [e1, e2] at h2
  omega
theorem bxor_nat (a b : Nat) : bxor (a : Int) (b : Int) = ((a ^^^ b : Nat) : Int) := by
  show Builtin.bitXor _ _ = _
  rw [PyProof.Rows.bitXor_and]
  have h := nat_xor_and a b
  have q : Builtin.bitAnd (a : Int) (b : Int) = ((a &&& b : Nat) : Int) := band_nat a b
  rw [q]
  omega
/-- a without b -/
def andn (a b : Nat) : Nat := a ^^^ (a &&& b)
theorem testBit_andn (a b i : Nat) : (andn a b).testBit i = (a.testBit i && !b.testBit i) := by
  unfold andn
  simp only [Nat.testBit_xor, Nat.testBit_and]
  cases a.testBit i <;> cases b.testBit i <;> rfl
theorem bandn_nat (a b : Nat) : band (a : Int) (bnot (b : Int)) = ((andn a b : Nat) : Int) := by
  show Builtin.bitAnd (a : Int) (Builtin.bitNot (b : Int)) = _
  rw [PyProof.Rows.bitAnd_not]
  have q : Builtin.bitAnd (a : Int) (b : Int) = ((a &&& b : Nat) : Int) := band_nat a b
  rw [q]
  have h := nat_xor_and a (a &&& b)
  have e : a &&& (a &&& b) = a &&& b := by
    apply Nat.eq_of_testBit_eq
    intro i
    simp only [Nat.testBit_and]
    cases a.testBit i <;> cases b.testBit i <;> rfl
  rw [e] at h
  unfold andn
  omega
theorem gPow1 {k : Nat} (h : k ≤ 1000000) : gPow 1 (k : Int) := ⟨by omega, by omega, by decide⟩
theorem gPow_nat {n k : Nat} (h : k ≤ 1000000) (hn : n < 2 ^ 64) : gPow (n : Int) (k : Int) := ⟨by omega, by omega, by simpa using hn⟩
theorem gR_nat {n : Nat} (h : n < 2 ^ 62) : gR (n : Int) := ⟨by omega, by omega⟩
theorem gDiv_nat {n : Nat} (h0 : 0 < n) (h : n < 1073741824) : gDiv (n : Int) := ⟨by omega, by omega⟩

/-! ### a number by its bits -/
def mask : Nat → (Nat → Bool) → Nat
  | 0, _ => 0
  | n + 1, p => mask n p + if p n = true then 2 ^ n else 0
theorem mask_succ (n : Nat) (p : Nat → Bool) : mask (n + 1) p = mask n p + if p n = true then 2 ^ n else 0 := rfl
theorem mask_lt : ∀ (n : Nat) (p : Nat → Bool), mask n p < 2 ^ n
  | 0, _ => Nat.one_pos
  | n + 1, p => by
    have h := mask_lt n p
    unfold mask
    rw [Nat.pow_succ]
    split <;> omega
theorem testBit_mask : ∀ (n : Nat) (p : Nat → Bool) (i : Nat), (mask n p).testBit i = (decide (i < n) && p i)
  | 0, p, i => by simp [mask]
  | n + 1, p, i => by
    have h := testBit_mask n p i
    have hl := mask_lt n p
    unfold mask
    by_cases hp : p n = true
    · rw [if_pos hp, Nat.add_comm]
      have e := Nat.two_pow_add_eq_or_of_lt hl 1
      rw [Nat.mul_one] at e
      rw [e, Nat.testBit_or, h, Nat.testBit_two_pow]
      by_cases hi : i < n
      · simp [hi, Nat.lt_succ_of_lt hi, show ¬ n = i by omega]
      · by_cases he : n = i
        · subst he; simp [hp]
        · simp [hi, he, show ¬ i < n + 1 by omega]
    · rw [if_neg hp, Nat.add_zero, h]
      by_cases hi : i < n
      · simp [hi, Nat.lt_succ_of_lt hi]
      · by_cases he : n = i
        · subst he; simp [hp]
        · simp [hi, show ¬ i < n + 1 by omega]
theorem mask_ext {n : Nat} {p : Nat → Bool} {x : Nat} (hx : x < 2 ^ n) (h : ∀ i, i < n → x.testBit i = p i) : x = mask n p := by
  apply Nat.eq_of_testBit_eq
  intro i
  rw [testBit_mask]
  by_cases hi : i < n
  · simp [hi, h i hi]
  · simp only [hi, decide_false, Bool.false_and]
    exact Nat.testBit_lt_two_pow (Nat.lt_of_lt_of_le hx (Nat.pow_le_pow_right (by decide) (by omega)))
theorem mask_congr {n : Nat} {p q : Nat → Bool} (h : ∀ i, i < n → p i = q i) : mask n p = mask n q := mask_ext (mask_lt n p) fun i hi => by rw [testBit_mask, h i hi]; simp [hi]
end B
namespace B
open PySem Z
theorem forO_list {α σ : Type} {body : α → σ → Option σ} (g : σ → α → σ) (I : σ → Prop) : ∀ (xs : List α) (s : σ), I s → (∀ x ∈ xs, ∀ s, I s → body x s = some (g s x) ∧ I (g s x)) → forO body xs s = some (xs.foldl g s) ∧ I (xs.foldl g s)
  | [], s, h, _ => ⟨forO_nil, h⟩
  | x :: xs, s, h, hs => by
    obtain ⟨e, i⟩ := hs x List.mem_cons_self s h
    rw [forO_cons, e]
    exact forO_list g I xs (g s x) i fun y hy => hs y (List.mem_cons_of_mem _ hy)
theorem forR_list {α σ ρ : Type} {body : α → σ → Option (σ ⊕ ρ)} (g : σ → α → σ) (I : σ → Prop) : ∀ (xs : List α) (s : σ), I s → (∀ x ∈ xs, ∀ s, I s → body x s = some (.inl (g s x)) ∧ I (g s x)) → forR body xs s = some (.inl (xs.foldl g s)) ∧ I (xs.foldl g s)
  | [], s, h, _ => ⟨forR_nil, h⟩
  | x :: xs, s, h, hs => by
    obtain ⟨e, i⟩ := hs x List.mem_cons_self s h
    rw [forR_cons, e]
    exact forR_list g I xs (g s x) i fun y hy => hs y (List.mem_cons_of_mem _ hy)
/-- an invariant alone -/
theorem forO_inv {α σ : Type} {body : α → σ → Option σ} (I : σ → Prop) : ∀ (xs : List α) (s : σ), I s → (∀ x ∈ xs, ∀ s, I s → ∃ s', body x s = some s' ∧ I s') → ∃ s', forO body xs s = some s' ∧ I s'
  | [], s, h, _ => ⟨s, forO_nil, h⟩
  | x :: xs, s, h, hs => by
    obtain ⟨s1, e, i⟩ := hs x List.mem_cons_self s h
    rw [forO_cons, e]
    exact forO_inv I xs s1 i fun y hy => hs y (List.mem_cons_of_mem _ hy)
theorem forR_inv {α σ ρ : Type} {body : α → σ → Option (σ ⊕ ρ)} (I : σ → Prop) : ∀ (xs : List α) (s : σ), I s → (∀ x ∈ xs, ∀ s, I s → ∃ s', body x s = some (.inl s') ∧ I s') → ∃ s', forR body xs s = some (.inl s') ∧ I s'
  | [], s, h, _ => ⟨s, forR_nil, h⟩
  | x :: xs, s, h, hs => by
    obtain ⟨s1, e, i⟩ := hs x List.mem_cons_self s h
    rw [forR_cons, e]
    exact forR_inv I xs s1 i fun y hy => hs y (List.mem_cons_of_mem _ hy)
theorem mod_nat (v : Int) {n : Nat} (h : 0 < n) : ∃ k : Nat, k < n ∧ v % (n : Int) = (k : Int) := by
  refine ⟨(v % (n : Int)).toNat, ?_, ?_⟩
  · have h1 := Int.emod_lt_of_pos v (show (0 : Int) < (n : Int) by omega)
    have h0 := Int.emod_nonneg v (show (n : Int) ≠ 0 by omega)
    omega
  · have h0 := Int.emod_nonneg v (show (n : Int) ≠ 0 by omega)
    omega
theorem cutI_mem {α : Type} {xs : List α} {lo hi : Option Int} {x : α} (h : x ∈ cutI xs lo hi) : x ∈ xs := List.mem_of_mem_drop (List.mem_of_mem_take h)
theorem cutI_len {α : Type} {xs : List α} {lo hi : Option Int} : (cutI xs lo hi).length ≤ xs.length := by
  unfold cutI
  rw [List.length_take, List.length_drop]
  omega
theorem setI_nat {α : Type} {xs : List α} {k : Nat} {v : α} (h : k < xs.length) : setI xs (k : Int) v = some (xs.set k v) := by
  unfold setI L2.ixN
  rw [if_pos (by omega), if_pos (by omega), Int.toNat_natCast]
  rfl
theorem atI_nat' {α : Type} {xs : List α} {k : Nat} (h : k < xs.length) : L2.atI xs (k : Int) = some xs[k] := L2.atI_nat (List.getElem?_eq_getElem h)
end B
namespace B
open PySem Z
theorem un2_mk {α β γ : Type} {f : α → β → γ} {a : α} {b : β} : un2 f (a, b) = f a b := rfl
theorem un3_mk {α β γ δ : Type} {f : α → β → γ → δ} {a : α} {b : β} {c : γ} : un3 f (a, b, c) = f a b c := rfl
theorem un4_mk {α β γ δ ε : Type} {f : α → β → γ → δ → ε} {a : α} {b : β} {c : γ} {d : δ} : un4 f (a, b, c, d) = f a b c d := rfl
theorem nt : (!true) = false := rfl
theorem nf : (!false) = true := rfl
end B
namespace B
open PySem Z
/-- s lies in the bar -/
def inB (a l s : Nat) : Bool := s &&& a == l
def liesB (a l s : Nat) : Bool := (List.range 6).all fun k => !(a.testBit k) || (s.testBit k == l.testBit k)
theorem liesB_eq {a l s : Nat} (ha : a < 64) (hl : l < 64) (h : l &&& a = l) : liesB a l s = inB a l s := by
  unfold liesB inB
  by_cases e : s &&& a = l
  · rw [show (s &&& a == l) = true by simp [e]]
    rw [List.all_eq_true]
    intro k _
    have q := congrArg (fun x => x.testBit k) e
    simp only [Nat.testBit_and] at q
    cases ha : a.testBit k <;> simp_all
  · rw [show (s &&& a == l) = false by simp [e]]
    by_cases z : ((List.range 6).all fun k => !(a.testBit k) || (s.testBit k == l.testBit k)) = true
    · exfalso
      apply e
      rw [List.all_eq_true] at z
      apply Nat.eq_of_testBit_eq
      intro k
      rw [Nat.testBit_and]
      by_cases hk : k < 6
      · have q := z k (List.mem_range.mpr hk)
        have r := congrArg (fun x => x.testBit k) h
        simp only [Nat.testBit_and] at r
        cases ha : a.testBit k <;> simp_all
      · have h64 : (64 : Nat) ≤ 2 ^ k := Nat.pow_le_pow_right (n := 2) (by decide) (show 6 ≤ k by omega)
        rw [Nat.testBit_lt_two_pow (show a < 2 ^ k by omega), Nat.testBit_lt_two_pow (show l < 2 ^ k by omega), Bool.and_false]
    · simpa using z
theorem inB_of {a l s : Nat} : inB a l s = (s &&& a == l) := rfl
theorem and_full {m s : Nat} (hs : s < 2 ^ m) : s &&& (2 ^ m - 1) = s := by rw [Nat.and_two_pow_sub_one_eq_mod, Nat.mod_eq_of_lt hs]
/-- a loop over a list, its passes counted -/
theorem forO_cnt {α σ : Type} {body : α → σ → Option σ} (I : Nat → σ → Prop) : ∀ (xs : List α) (j : Nat) (s : σ), I j s → (∀ x ∈ xs, ∀ k s, k < j + xs.length → I k s → ∃ s', body x s = some s' ∧ I (k + 1) s') → ∃ s', forO body xs s = some s' ∧ I (j + xs.length) s'
  | [], _, s, h, _ => ⟨s, forO_nil, h⟩
  | x :: xs, j, s, h, hs => by
    have hl : (x :: xs).length = xs.length + 1 := rfl
    obtain ⟨s1, e, i⟩ := hs x List.mem_cons_self j s (by omega) h
    rw [forO_cons, e]
    obtain ⟨s2, e2, i2⟩ := forO_cnt I xs (j + 1) s1 i fun y hy k s hk hI => hs y (List.mem_cons_of_mem _ hy) k s (by omega) hI
    refine ⟨s2, e2, ?_⟩
    have : j + 1 + xs.length = j + (x :: xs).length := by omega
    rw [← this]; exact i2
theorem forR_cnt {α σ ρ : Type} {body : α → σ → Option (σ ⊕ ρ)} (I : Nat → σ → Prop) : ∀ (xs : List α) (j : Nat) (s : σ), I j s → (∀ x ∈ xs, ∀ k s, k < j + xs.length → I k s → ∃ s', body x s = some (.inl s') ∧ I (k + 1) s') → ∃ s', forR body xs s = some (.inl s') ∧ I (j + xs.length) s'
  | [], _, s, h, _ => ⟨s, forR_nil, h⟩
  | x :: xs, j, s, h, hs => by
    have hl : (x :: xs).length = xs.length + 1 := rfl
    obtain ⟨s1, e, i⟩ := hs x List.mem_cons_self j s (by omega) h
    rw [forR_cons, e]
    obtain ⟨s2, e2, i2⟩ := forR_cnt I xs (j + 1) s1 i fun y hy k s hk hI => hs y (List.mem_cons_of_mem _ hy) k s (by omega) hI
    refine ⟨s2, e2, ?_⟩
    have : j + 1 + xs.length = j + (x :: xs).length := by omega
    rw [← this]; exact i2
theorem ifo_nt {α : Type} {m n : Option α} : ifo (!true) m n = n := ifo_f rfl
theorem ifo_nf {α : Type} {m n : Option α} : ifo (!false) m n = m := ifo_t rfl
theorem ifo_tt {α : Type} {m n : Option α} : ifo true m n = m := ifo_t rfl
theorem ifo_ff {α : Type} {m n : Option α} : ifo false m n = n := ifo_f rfl
theorem sb {α β : Type} {a : α} {k : α → Option β} : (some a).bind k = k a := rfl
theorem one_and (n : Nat) : 1 &&& n = n % 2 := by rw [Nat.and_comm, Nat.and_one_is_mod]
end B

namespace B
open PySem Z L2
/-! ### the least bit -/
theorem neg_nat {c : Nat} (h : 0 < c) : (-(c : Int)) = bnot ((c - 1 : Nat) : Int) := by
  show _ = Builtin.bitNot _
  unfold Builtin.bitNot
  omega
theorem low_nat {c : Nat} (h : 0 < c) : band (c : Int) (-(c : Int)) = ((andn c (c - 1) : Nat) : Int) := by rw [neg_nat h, bandn_nat]
theorem tb_zero (c : Nat) : c.testBit 0 = decide (c % 2 = 1) := Nat.testBit_zero c
/-- there is a least bit -/
theorem least_bit : ∀ (c : Nat), 0 < c → ∃ k, c.testBit k = true ∧ (∀ i, i < k → c.testBit i = false) ∧ andn c (c - 1) = 2 ^ k := by
  intro c
  induction c using Nat.strongRecOn with
  | ind c ih =>
    intro h
    by_cases hp : c % 2 = 1
    · refine ⟨0, by rw [tb_zero, decide_eq_true hp], fun i hi => by omega, Nat.eq_of_testBit_eq fun i => ?_⟩
      rw [testBit_andn]
      cases i with
      | zero =>
        rw [tb_zero, tb_zero, decide_eq_true hp, decide_eq_false (by omega)]; rfl
      | succ i =>
        rw [Nat.testBit_succ, Nat.testBit_succ, show (c - 1) / 2 = c / 2 by omega, Nat.testBit_two_pow]
        rw [decide_eq_false (by omega)]
        cases (c / 2).testBit i <;> rfl
    · have h2 : 0 < c / 2 := by omega
      obtain ⟨k, k1, k2, k3⟩ := ih (c / 2) (by omega) h2
      refine ⟨k + 1, by rw [Nat.testBit_succ]; exact k1, fun i hi => ?_, Nat.eq_of_testBit_eq fun i => ?_⟩
      · cases i with
        | zero => rw [tb_zero, decide_eq_false hp]
        | succ i => rw [Nat.testBit_succ]; exact k2 i (by omega)
      · rw [testBit_andn]
        cases i with
        | zero =>
          rw [tb_zero, decide_eq_false hp, Nat.testBit_two_pow, decide_eq_false (by omega)]; rfl
        | succ i =>
          have e := congrArg (fun n => n.testBit i) k3
          simp only [testBit_andn, Nat.testBit_two_pow] at e
          rw [Nat.testBit_succ, Nat.testBit_succ, show (c - 1) / 2 = c / 2 - 1 by omega, e, Nat.testBit_two_pow]
          exact decide_eq_decide.mpr (by omega)
theorem blen_pow (k : Nat) : blen ((2 ^ k : Nat) : Int) = ((k + 1 : Nat) : Int) := by
  unfold blen Builtin.Int.intBits
  have h : ((((2 ^ k : Nat) : Int)) == 0) = false := by
    have := Nat.two_pow_pos k
    exact beq_eq_false_iff_ne.mpr (by omega)
  rw [h]
  show (((((2 ^ k : Nat) : Int).natAbs.log2 + 1 : Nat)) : Int) = _
  rw [Int.natAbs_natCast, Nat.log2_two_pow]
/-- the places of the bits, rising -/
def bitsL (n c : Nat) : List Nat := (List.range n).filter fun i => c.testBit i
theorem bitsL_zero (n : Nat) : bitsL n 0 = [] := by
  unfold bitsL
  rw [List.filter_eq_nil_iff]
  intro i _
  rw [Nat.zero_testBit]; exact Bool.false_ne_true
theorem mem_bitsL {n c i : Nat} : i ∈ bitsL n c ↔ i < n ∧ c.testBit i = true := by
  unfold bitsL
  rw [List.mem_filter, List.mem_range]
theorem bitsL_len (n c : Nat) : (bitsL n c).length ≤ n := by
  have := List.length_filter_le (fun i => c.testBit i) (List.range n)
  rwa [List.length_range] at this
theorem bitsL_cons {n c k : Nat} (hk : k < n) (h1 : c.testBit k = true) (h2 : ∀ i, i < k → c.testBit i = false) : bitsL n c = k :: bitsL n (c ^^^ 2 ^ k) := by
  have key : ∀ (p q : Nat → Bool) (m a : Nat), a ≤ k → k < a + m → p k = true → q k = false → (∀ i, i ≠ k → p i = q i) → (∀ i, i < k → p i = false) → (List.range' a m).filter p = k :: (List.range' a m).filter q := by
    intro p q m
    induction m with
    | zero => intro a h1 h2; omega
    | succ m ih =>
      intro a ha hm pk qk hpq hlo
      rw [List.range'_succ, List.filter_cons, List.filter_cons]
      by_cases e : a = k
      · subst e
        rw [if_pos pk, if_neg (by rw [qk]; exact Bool.false_ne_true)]
        congr 1
        apply List.filter_congr
        intro x hx
        rw [List.mem_range'_1] at hx
        exact hpq x (by omega)
      · have hlt : a < k := by omega
        rw [if_neg (by rw [hlo a hlt]; exact Bool.false_ne_true), if_neg (by rw [← hpq a e, hlo a hlt]; exact Bool.false_ne_true)]
        exact ih (a + 1) (by omega) (by omega) pk qk hpq hlo
  unfold bitsL
  rw [List.range_eq_range']
  refine key _ _ n 0 (by omega) (by omega) h1 ?_ (fun i hi => ?_) h2
  · rw [Nat.testBit_xor, Nat.testBit_two_pow, h1, decide_eq_true rfl]; rfl
  · rw [Nat.testBit_xor, Nat.testBit_two_pow, decide_eq_false (fun e => hi e.symm), Bool.xor_false]
theorem tb_lt {m a i : Nat} (h : a < 2 ^ m) (hi : a.testBit i = true) : i < m := by
  by_cases q : i < m
  · exact q
  · rw [Nat.testBit_lt_two_pow (Nat.lt_of_lt_of_le h (Nat.pow_le_pow_right (by decide) (by omega)))] at hi
    cases hi
theorem xor_lt {m a b : Nat} (ha : a < 2 ^ m) (hb : b < 2 ^ m) : a ^^^ b < 2 ^ m := Nat.xor_lt_two_pow ha hb
theorem bigN_eq' : bigN = 1000000 := Z.bigN_eq
/-! ### tables: lists told by a function -/
def zL (xs : List Nat) : List Int := xs.map fun (n : Nat) => (n : Int)
def tab (n : Nat) (f : Nat → Nat) : List Int := (List.range n).map fun i => ((f i : Nat) : Int)
theorem tab_len (n : Nat) (f : Nat → Nat) : (tab n f).length = n := by unfold tab; rw [List.length_map, List.length_range]
theorem tab_ext {n : Nat} {f g : Nat → Nat} (h : ∀ i, i < n → f i = g i) : tab n f = tab n g := by
  unfold tab
  apply List.map_congr_left
  intro i hi
  rw [h i (List.mem_range.mp hi)]
theorem tab_get {n : Nat} {f : Nat → Nat} {i : Nat} (h : i < n) : (tab n f)[i]? = some ((f i : Nat) : Int) := by
  unfold tab
  rw [List.getElem?_map, List.getElem?_range h]; rfl
theorem atI_tab {n : Nat} {f : Nat → Nat} {i : Nat} (h : i < n) : L2.atI (tab n f) (i : Int) = some ((f i : Nat) : Int) := L2.atI_nat (tab_get h)
def fup (f : Nat → Nat) (k v : Nat) : Nat → Nat := fun i => if i = k then v else f i
theorem tab_set {n : Nat} {f : Nat → Nat} {k v : Nat} : (tab n f).set k (v : Int) = tab n (fup f k v) := by
  apply List.ext_getElem?
  intro i
  rw [List.getElem?_set]
  by_cases hi : i < n
  · by_cases hk : k = i
    · subst hk
      rw [if_pos rfl, tab_len, if_pos hi, tab_get hi]
      unfold fup; rw [if_pos rfl]
    · rw [if_neg hk, tab_get hi, tab_get hi]
      unfold fup; rw [if_neg (fun e => hk e.symm)]
  · have e1 : (tab n f)[i]? = none := List.getElem?_eq_none (by rw [tab_len]; omega)
    have e2 : (tab n (fup f k v))[i]? = none := List.getElem?_eq_none (by rw [tab_len]; omega)
    rw [e1, e2]
    by_cases hk : k = i
    · subst hk; rw [if_pos rfl, tab_len, if_neg hi]
    · rw [if_neg hk]
theorem setI_tab {n : Nat} {f : Nat → Nat} {k v : Nat} (h : k < n) : setI (tab n f) (k : Int) (v : Int) = some (tab n (fup f k v)) := by
  rw [setI_nat (by rw [tab_len]; exact h), tab_set]
theorem mem_tab {n : Nat} {f : Nat → Nat} {x : Int} (h : x ∈ tab n f) : ∃ i, i < n ∧ x = ((f i : Nat) : Int) := by
  unfold tab at h
  rw [List.mem_map] at h
  obtain ⟨i, h1, h2⟩ := h
  exact ⟨i, List.mem_range.mp h1, h2.symm⟩
theorem mem_rangeI {n : Nat} {x : Int} : x ∈ rangeI 0 n → ∃ k : Nat, k < n ∧ x = (k : Int) := by
  intro h
  unfold rangeI at h
  rw [List.mem_map] at h
  obtain ⟨k, h1, h2⟩ := h
  exact ⟨k, List.mem_range.mp h1, by omega⟩
theorem rangeI_len {lo : Int} {n : Nat} : (rangeI lo n).length = n := by unfold rangeI; rw [List.length_map, List.length_range]
theorem rangeI_tab (n : Nat) : rangeI 0 n = tab n id := by
  unfold rangeI tab
  apply List.map_congr_left
  intro i _
  show (0 : Int) + (i : Int) = ((id i : Nat) : Int)
  rw [Int.zero_add]; rfl
theorem comp_const {α : Type} {xs : List α} {c : Int} (h : xs.length ≤ 16777216) : compO (fun _ => some (some c)) xs = some (xs.map fun _ => c) := by
  rw [compO_eq (g := fun _ => some c) h fun _ _ => rfl]
  congr 1
  clear h
  induction xs with
  | nil => rfl
  | cons x xs ih => rw [List.filterMap_cons, ih]; rfl
theorem map_zero_tab {α : Type} (xs : List α) {n : Nat} (h : xs.length = n) : (xs.map fun _ => (0 : Int)) = tab n fun _ => 0 := by
  subst h
  unfold tab
  induction xs with
  | nil => rfl
  | cons x xs ih =>
    rw [List.length_cons, List.range_succ_eq_map, List.map_cons, List.map_cons, List.map_map]
    rw [ih]
    rfl
theorem comp_zero {n : Nat} (h : n ≤ 16777216) : compO (fun _ => some (some 0)) (rangeI 0 n) = some (tab n fun _ => 0) := by
  rw [comp_const (by rw [rangeI_len]; exact h), map_zero_tab _ rangeI_len]
theorem comp_zeroL {xs : List Int} {n : Nat} (hl : xs.length = n) (h : n ≤ 16777216) : compO (fun _ => some (some 0)) xs = some (tab n fun _ => 0) := by
  rw [comp_const (by omega), map_zero_tab _ hl]
theorem tab_rev (n : Nat) (f : Nat → Nat) : (tab n f).reverse = tab n fun i => f (n - 1 - i) := by
  apply List.ext_getElem?
  intro i
  by_cases hi : i < n
  · rw [List.getElem?_reverse (by rw [tab_len]; exact hi), tab_len, tab_get (by omega), tab_get hi]
  · rw [List.getElem?_eq_none (by rw [List.length_reverse, tab_len]; omega), List.getElem?_eq_none (by rw [tab_len]; omega)]
theorem enumI_tab (n : Nat) (f : Nat → Nat) : enumI (tab n f) = (List.range n).map fun (i : Nat) => ((i : Int), ((f i : Nat) : Int)) := by
  apply List.ext_getElem?
  intro i
  unfold enumI
  by_cases hi : i < n
  · have := enumF_get (tab n f) 0 i _ (tab_get hi)
    rw [this, List.getElem?_map, List.getElem?_range hi, Nat.zero_add]; rfl
  · rw [List.getElem?_eq_none (by rw [enumF_len, tab_len]; omega), List.getElem?_eq_none (by rw [List.length_map, List.length_range]; omega)]
/-- a loop over the places below n, told as a list -/
theorem forO_map {α σ : Type} {body : α → σ → Option σ} {g : Nat → α} (I : Nat → σ → Prop) : ∀ (n : Nat) (s : σ), I 0 s → (∀ i s, i < n → I i s → ∃ s', body (g i) s = some s' ∧ I (i + 1) s') → ∃ s', forO body ((List.range n).map g) s = some s' ∧ I n s' := by
  have key : ∀ (n a : Nat) (s : σ), I a s → (∀ i s, a ≤ i → i < a + n → I i s → ∃ s', body (g i) s = some s' ∧ I (i + 1) s') → ∃ s', forO body ((List.range' a n).map g) s = some s' ∧ I (a + n) s' := by
    intro n
    induction n with
    | zero => intro a s h _; exact ⟨s, forO_nil, h⟩
    | succ n ih =>
      intro a s h hs
      obtain ⟨s1, e1, i1⟩ := hs a s (Nat.le_refl _) (by omega) h
      obtain ⟨s2, e2, i2⟩ := ih (a + 1) s1 i1 fun i s ha hi hI => hs i s (by omega) (by omega) hI
      refine ⟨s2, ?_, by rw [show a + (n + 1) = a + 1 + n by omega]; exact i2⟩
      rw [List.range'_succ, List.map_cons, forO_cons, e1]
      exact e2
  intro n s h hs
  obtain ⟨s', e, i⟩ := key n 0 s h fun i s _ hi hI => hs i s (by omega) hI
  rw [Nat.zero_add] at i
  exact ⟨s', by rw [List.range_eq_range']; exact e, i⟩
/-- a loop that asks the same of each, and passes -/
theorem forO_pass {α : Type} {body : α → Unit → Option Unit} : ∀ {xs : List α}, (∀ x ∈ xs, body x () = some ()) → forO body xs () = some ()
  | [], _ => forO_nil
  | x :: xs, h => by
    rw [forO_cons, h x List.mem_cons_self]
    exact forO_pass fun y hy => h y (List.mem_cons_of_mem _ hy)
theorem forR_pass {α ρ : Type} {body : α → Unit → Option (Unit ⊕ ρ)} : ∀ {xs : List α}, (∀ x ∈ xs, body x () = some (.inl ())) → forR body xs () = some (.inl ())
  | [], _ => forR_nil
  | x :: xs, h => by
    rw [forR_cons, h x List.mem_cons_self]
    exact forR_pass fun y hy => h y (List.mem_cons_of_mem _ hy)
theorem mask_or (i : Nat) (p : Nat → Bool) : mask i p ||| 2 ^ i = mask i p + 2 ^ i := by
  have h := mask_lt i p
  have e : mask i p + 2 ^ i = mask (i + 1) (fun j => if j = i then true else p j) := by
    rw [mask_succ, if_pos (by rw [if_pos rfl])]
    congr 1
    exact mask_congr fun j hj => by rw [if_neg (by omega)]
  rw [e]
  refine mask_ext (Nat.or_lt_two_pow (Nat.lt_of_lt_of_le h (Nat.pow_le_pow_right (by decide) (by omega))) (Nat.pow_lt_pow_right (by decide) (by omega))) fun j hj => ?_
  rw [Nat.testBit_or, testBit_mask, Nat.testBit_two_pow]
  by_cases e : j = i
  · subst e
    rw [if_pos rfl, decide_eq_true rfl, Bool.or_true]
  · rw [if_neg e, decide_eq_true (by omega), decide_eq_false (fun q => e q.symm), Bool.true_and, Bool.or_false]
/-- joined crowds -/
def orAll (f : Nat → Nat) : List Nat → Nat
  | [] => 0
  | x :: xs => f x ||| orAll f xs
theorem testBit_orAll (f : Nat → Nat) (i : Nat) : ∀ xs : List Nat, (orAll f xs).testBit i = xs.any fun x => (f x).testBit i
  | [] => by unfold orAll; rw [Nat.zero_testBit]; rfl
  | x :: xs => by
    unfold orAll
    rw [Nat.testBit_or, testBit_orAll f i xs, List.any_cons]
theorem orAll_lt {n : Nat} {f : Nat → Nat} : ∀ {xs : List Nat}, (∀ x ∈ xs, f x < 2 ^ n) → orAll f xs < 2 ^ n
  | [], _ => Nat.two_pow_pos n
  | x :: xs, h => Nat.or_lt_two_pow (h x List.mem_cons_self) (orAll_lt fun y hy => h y (List.mem_cons_of_mem _ hy))
theorem any_bitsL {n c : Nat} {p : Nat → Bool} : (bitsL n c).any p = (List.range n).any fun i => c.testBit i && p i := by
  unfold bitsL
  rw [List.any_filter]
theorem orAll_app (f : Nat → Nat) : ∀ xs ys : List Nat, orAll f (xs ++ ys) = orAll f xs ||| orAll f ys
  | [], ys => (Nat.zero_or _).symm
  | x :: xs, ys => by
    show f x ||| orAll f (xs ++ ys) = f x ||| orAll f xs ||| orAll f ys
    rw [orAll_app f xs ys, Nat.or_assoc]
theorem bitsL_succ (k c : Nat) : bitsL (k + 1) c = bitsL k c ++ if c.testBit k = true then [k] else [] := by
  unfold bitsL
  rw [List.range_succ, List.filter_append]
  congr 1
  rw [List.filter_cons]
  rfl
theorem and1_testBit (a k : Nat) : decide (((a >>> k &&& 1 : Nat) : Int) = 1) = a.testBit k := by
  rw [Nat.testBit, Nat.and_comm]
  have : (1 &&& a >>> k) = 0 ∨ (1 &&& a >>> k) = 1 := by
    rw [one_and]; omega
  rcases this with h | h <;> rw [h] <;> rfl
theorem asks1 (a k : Nat) : decide (band (shr (a : Int) (k : Int)) 1 = 1) = a.testBit k := by
  have o1 : ((1 : Nat) : Int) = 1 := rfl
  rw [shr_nat, ← o1, band_nat, o1, and1_testBit]
theorem pow_lt2 {k n : Nat} (h : k < n) : 2 ^ k < 2 ^ n := Nat.pow_lt_pow_right (by decide) h
theorem le64 {m : Nat} (hm : m ≤ 6) : 2 ^ m ≤ 64 := Nat.pow_le_pow_right (n := 2) (by decide) hm
/-! ### parts of lists -/
theorem cutI_from {α : Type} (xs : List α) (k : Nat) : cutI xs (some (k : Int)) none = xs.drop k := by
  unfold cutI
  rw [HT.sIx_nat, HT.sIx_none]
  by_cases h : k ≤ xs.length
  · rw [Nat.min_eq_left h, List.take_of_length_le (Nat.le_of_eq List.length_drop)]
  · rw [Nat.min_eq_right (by omega), List.drop_length, List.drop_eq_nil_of_le (i := k) (by omega), List.take_nil]
theorem cutI_to {α : Type} (xs : List α) (k : Nat) : cutI xs none (some (k : Int)) = xs.take k := by
  unfold cutI
  rw [HT.sIx_nat, HT.sIx_none, List.drop_zero, Nat.sub_zero]
  by_cases h : k ≤ xs.length
  · rw [Nat.min_eq_left h]
  · rw [Nat.min_eq_right (by omega), List.take_of_length_le (Nat.le_refl _), List.take_of_length_le (by omega)]
theorem cutI_init {α : Type} (xs : List α) : cutI xs none (some (-1)) = xs.dropLast := by
  unfold cutI
  rw [HT.sIx_none, List.drop_zero, Nat.sub_zero]
  have e : HT.sIx xs.length xs.length (some (-1)) = xs.length - 1 := by
    show (if (-1 : Int) < 0 then ((-1 : Int) + (xs.length : Int)).toNat else min (-1 : Int).toNat xs.length) = _
    rw [if_pos (by decide)]
    omega
  rw [e, List.dropLast_eq_take]
theorem atI_end {α : Type} {xs : List α} (h : xs ≠ []) : L2.atI xs (-1) = some (xs.getLast h) := by
  have e : xs = xs.dropLast ++ [xs.getLast h] := (List.dropLast_concat_getLast h).symm
  have := L2.atI_last xs.dropLast (xs.getLast h)
  rw [← e] at this
  exact this
theorem zL_len (xs : List Nat) : (zL xs).length = xs.length := by unfold zL; rw [List.length_map]
theorem atI_zL {xs : List Nat} {k : Nat} (h : k < xs.length) : L2.atI (zL xs) (k : Int) = some ((xs[k] : Nat) : Int) := by
  rw [atI_nat' (by rw [zL_len]; exact h)]
  unfold zL
  rw [List.getElem_map]
theorem atI_zLend {xs : List Nat} (h : xs ≠ []) : L2.atI (zL xs) (-1) = some ((xs.getLast h : Nat) : Int) := by
  have h' : zL xs ≠ [] := fun e => h (by unfold zL at e; exact List.map_eq_nil_iff.mp e)
  rw [atI_end h']
  exact congrArg some (List.getLast_map (f := fun (n : Nat) => (n : Int)) (l := xs) h')
theorem mem_zL {xs : List Nat} {x : Int} (h : x ∈ zL xs) : ∃ k, k ∈ xs ∧ x = (k : Int) := by
  unfold zL at h
  rw [List.mem_map] at h
  obtain ⟨k, h1, h2⟩ := h
  exact ⟨k, h1, h2.symm⟩
theorem zL_of {xs : List Int} {N : Nat} (h : ∀ x ∈ xs, ∃ k : Nat, k < N ∧ x = (k : Int)) : ∃ ws : List Nat, (∀ w ∈ ws, w < N) ∧ xs = zL ws := by
  induction xs with
  | nil => exact ⟨[], fun _ h => (by cases h), rfl⟩
  | cons x xs ih =>
    obtain ⟨k, hk, rfl⟩ := h x List.mem_cons_self
    obtain ⟨ws, h1, rfl⟩ := ih fun y hy => h y (List.mem_cons_of_mem _ hy)
    refine ⟨k :: ws, fun w hw => ?_, rfl⟩
    rcases List.mem_cons.mp hw with rfl | hw
    · exact hk
    · exact h1 w hw
/-! ### loops that ask -/
theorem forR_allL {α ρ : Type} {body : α → Unit → Option (Unit ⊕ ρ)} {v : ρ} (p : α → Bool) : ∀ {xs : List α}, (∀ x ∈ xs, body x () = some (if p x = true then .inl () else .inr v)) →
    forR body xs () = some (if xs.all p = true then .inl () else .inr v)
  | [], _ => by rw [forR_nil]; rfl
  | x :: xs, h => by
    rw [forR_cons, h x List.mem_cons_self, List.all_cons]
    cases p x with
    | false => rfl
    | true =>
      show forR body xs () = _
      rw [forR_allL p fun y hy => h y (List.mem_cons_of_mem _ hy)]
      rw [Bool.true_and]
theorem brk_if {ρ : Type} {b : Bool} {v : ρ} {k : Unit → Option ρ} : brk (some (if b = true then Sum.inl () else Sum.inr v)) k = if b = true then k () else some v := by
  cases b <;> rfl
theorem brk_eq {σ ρ : Type} {m n : Option (σ ⊕ ρ)} {k : σ → Option ρ} (h : m = n) : brk m k = brk n k := by rw [h]
theorem comp_map {α β : Type} {xs : List α} {f : α → Option (Option β)} {g : α → β} (hl : xs.length ≤ 16777216) (h : ∀ x ∈ xs, f x = some (some (g x))) : compO f xs = some (xs.map g) := by
  rw [compO_eq (g := fun x => some (g x)) hl h]
  congr 1
  clear h hl
  induction xs with
  | nil => rfl
  | cons x xs ih => rw [List.filterMap_cons, ih]; rfl
theorem tb_shr (a k : Nat) : decide (band (shr (a : Int) (k : Int)) 1 = 0) = !a.testBit k := by
  have h := asks1 a k
  have e : ∀ x : Nat, decide (((x &&& 1 : Nat) : Int) = 0) = !decide (((x &&& 1 : Nat) : Int) = 1) := fun x => by
    have : x &&& 1 = x % 2 := Nat.and_one_is_mod x
    rw [this, ← decide_not]
    exact decide_eq_decide.mpr (by omega)
  have o1 : ((1 : Nat) : Int) = 1 := rfl
  rw [shr_nat, ← o1, band_nat, o1] at h
  rw [shr_nat, ← o1, band_nat, e, h]
theorem tb_div (a k : Nat) : ((a : Int) / ((2 ^ k : Nat) : Int)) % 2 = if a.testBit k = true then 1 else 0 := by
  have e : ((a : Int) / ((2 ^ k : Nat) : Int)) % 2 = ((a / 2 ^ k % 2 : Nat) : Int) := by omega
  rw [e, Nat.testBit_eq_decide_div_mod_eq]
  by_cases h : a / 2 ^ k % 2 = 1
  · rw [h, if_pos (by rw [decide_eq_true rfl])]; rfl
  · rw [if_neg (by rw [decide_eq_false h]; exact Bool.false_ne_true)]; omega
theorem tb_div0 (a k : Nat) : decide (((a : Int) / ((2 ^ k : Nat) : Int)) % 2 = 0) = !a.testBit k := by rw [tb_div]; cases a.testBit k <;> rfl
theorem tb_div1 (a k : Nat) : decide (((a : Int) / ((2 ^ k : Nat) : Int)) % 2 = 1) = a.testBit k := by rw [tb_div]; cases a.testBit k <;> rfl
theorem pow_200 {k : Nat} (h : k < 200) : 2 ^ k < 2 ^ 200 := pow_lt2 h
theorem bitsL_pow {n k : Nat} (h : k < n) : bitsL n (2 ^ k) = [k] := by
  have := bitsL_cons (n := n) (c := 2 ^ k) h (by rw [Nat.testBit_two_pow, decide_eq_true rfl]) fun i hi => by rw [Nat.testBit_two_pow, decide_eq_false (by omega)]
  rw [this, Nat.xor_self, bitsL_zero]
theorem orAll_one (f : Nat → Nat) (k : Nat) : orAll f [k] = f k := Nat.or_zero _
theorem fup_lt {n N : Nat} {f : Nat → Nat} {k v : Nat} (hf : ∀ s, s < n → f s < N) (hv : v < N) : ∀ s, s < n → fup f k v s < N := fun s hs => by
  unfold fup
  by_cases e : s = k
  · rw [if_pos e]; exact hv
  · rw [if_neg e]; exact hf s hs
theorem andn_lt {m a b : Nat} (h : a < 2 ^ m) : andn a b < 2 ^ m := by
  unfold andn
  exact xor_lt h (Nat.lt_of_le_of_lt Nat.and_le_left h)
/-! ### how many bits -/
def cnt : Nat → Nat → Nat
  | 0, _ => 0
  | n + 1, c => cnt n c + if c.testBit n = true then 1 else 0
theorem cnt_le : ∀ (n c : Nat), cnt n c ≤ n
  | 0, _ => Nat.le_refl _
  | n + 1, c => by
    have := cnt_le n c
    unfold cnt
    split <;> omega
theorem cnt_mono {a b : Nat} (h : ∀ i, a.testBit i = true → b.testBit i = true) : ∀ n, cnt n a ≤ cnt n b
  | 0 => Nat.le_refl _
  | n + 1 => by
    have := cnt_mono h n
    unfold cnt
    by_cases q : a.testBit n = true
    · rw [if_pos q, if_pos (h n q)]; omega
    · rw [if_neg q]; split <;> omega
theorem cnt_lt {a b : Nat} (h : ∀ i, a.testBit i = true → b.testBit i = true) {k : Nat} (ka : a.testBit k = false) (kb : b.testBit k = true) : ∀ n, k < n → cnt n a < cnt n b
  | 0, hk => by omega
  | n + 1, hk => by
    unfold cnt
    by_cases e : k = n
    · subst e
      have := cnt_mono h k
      rw [if_neg (by rw [ka]; exact Bool.false_ne_true), if_pos kb]; omega
    · have := cnt_lt h ka kb n (by omega)
      by_cases q : a.testBit n = true
      · rw [if_pos q, if_pos (h n q)]; omega
      · rw [if_neg q]; split <;> omega
theorem cnt_grow {n a b : Nat} (hb : b < 2 ^ n) (h : ∀ i, a.testBit i = true → b.testBit i = true) (ne : b ≠ a) : cnt n a < cnt n b := by
  have : ∃ k, a.testBit k = false ∧ b.testBit k = true := Classical.byContradiction fun hn => ne (Nat.eq_of_testBit_eq fun i => by
    cases ea : a.testBit i with
    | true => exact h i ea
    | false =>
      cases eb : b.testBit i with
      | false => rfl
      | true => exact absurd ⟨i, ea, eb⟩ hn)
  obtain ⟨k, k1, k2⟩ := this
  exact cnt_lt h k1 k2 n (tb_lt hb k2)
/-! ### the flood, layer by layer -/
/-- a crowd and all to which a step leads from it -/
def nxt (n : Nat) (f : Nat → Nat) (c : Nat) : Nat := c ||| orAll f (bitsL n c)
theorem nxt_lt {n N : Nat} {f : Nat → Nat} (hf : ∀ s, s < n → f s < 2 ^ N) {c : Nat} (hc : c < 2 ^ N) : nxt n f c < 2 ^ N := Nat.or_lt_two_pow hc (orAll_lt fun x hx => hf x (mem_bitsL.mp hx).1)
theorem nxt_sub (n : Nat) (f : Nat → Nat) (c i : Nat) (h : c.testBit i = true) : (nxt n f c).testBit i = true := by
  unfold nxt
  rw [Nat.testBit_or, h]; rfl
def layF (n : Nat) (f : Nat → Nat) : Nat → Nat → List Nat
  | 0, c => [c]
  | k + 1, c => if nxt n f c = c then [c] else c :: layF n f k (nxt n f c)
/-- layers -/
def Lay (n : Nat) (f : Nat → Nat) : List Nat → Prop
  | [] => False
  | [c] => nxt n f c = c
  | c :: d :: l => d = nxt n f c ∧ d ≠ c ∧ Lay n f (d :: l)
theorem layF_head (n : Nat) (f : Nat → Nat) (k c : Nat) : ∃ l, layF n f k c = c :: l := by
  cases k with
  | zero => exact ⟨[], rfl⟩
  | succ k =>
    unfold layF
    split
    · exact ⟨[], rfl⟩
    · exact ⟨_, rfl⟩
theorem layF_lay {n : Nat} {f : Nat → Nat} (hf : ∀ s, s < n → f s < 2 ^ n) : ∀ (k c : Nat), c < 2 ^ n → n < cnt n c + k → Lay n f (layF n f k c)
  | 0, c, _, hk => by have := cnt_le n c; omega
  | k + 1, c, hc, hk => by
    unfold layF
    by_cases e : nxt n f c = c
    · rw [if_pos e]; exact e
    · rw [if_neg e]
      have hl := nxt_lt hf hc
      have g := cnt_grow hl (nxt_sub n f c) e
      obtain ⟨l, el⟩ := layF_head n f k (nxt n f c)
      have ih := layF_lay hf k (nxt n f c) hl (by omega)
      rw [el] at ih ⊢
      exact ⟨rfl, e, ih⟩
theorem layF_lt {n : Nat} {f : Nat → Nat} (hf : ∀ s, s < n → f s < 2 ^ n) : ∀ (k c : Nat), c < 2 ^ n → ∀ x ∈ layF n f k c, x < 2 ^ n
  | 0, c, hc, x, hx => by rw [List.mem_singleton.mp hx]; exact hc
  | k + 1, c, hc, x, hx => by
    unfold layF at hx
    split at hx
    · rw [List.mem_singleton.mp hx]; exact hc
    · rcases List.mem_cons.mp hx with rfl | hx
      · exact hc
      · exact layF_lt hf k _ (nxt_lt hf hc) x hx
theorem layF_len (n : Nat) (f : Nat → Nat) : ∀ (k c : Nat), (layF n f k c).length ≤ k + 1
  | 0, c => Nat.le_refl _
  | k + 1, c => by
    have := layF_len n f k (nxt n f c)
    unfold layF
    split
    · show 1 ≤ _; omega
    · rw [List.length_cons]; omega
theorem Lay.at {n : Nat} {f : Nat → Nat} : ∀ {L : List Nat}, Lay n f L → ∀ k, (h : k + 1 < L.length) → L[k + 1] = nxt n f L[k] ∧ L[k + 1] ≠ L[k]
  | [], h, _, _ => h.elim
  | [c], _, k, h => by simp at h
  | c :: d :: l, h, 0, _ => ⟨h.1, h.2.1⟩
  | c :: d :: l, h, k + 1, hk => Lay.at (L := d :: l) h.2.2 k (by simpa using hk)
theorem Lay.last {n : Nat} {f : Nat → Nat} : ∀ {L : List Nat}, Lay n f L → (hn : L ≠ []) → nxt n f (L.getLast hn) = L.getLast hn
  | [], h, _ => h.elim
  | [c], h, _ => h
  | c :: d :: l, h, _ => by
    rw [List.getLast_cons_cons]
    exact Lay.last (L := d :: l) h.2.2 _
theorem zL_tab (ws : List Nat) : zL ws = tab ws.length fun i => ws.getD i 0 := by
  apply List.ext_getElem?
  intro i
  by_cases hi : i < ws.length
  · have g : ws.getD i 0 = ws[i] := by rw [List.getD_eq_getElem?_getD, List.getElem?_eq_getElem hi]; rfl
    rw [tab_get hi, g]
    unfold zL
    rw [List.getElem?_map, List.getElem?_eq_getElem hi]; rfl
  · rw [List.getElem?_eq_none (by rw [zL_len]; omega), List.getElem?_eq_none (by rw [tab_len]; omega)]
theorem tab_of {xs : List Int} {n N : Nat} (hl : xs.length = n) (h : ∀ x ∈ xs, ∃ k : Nat, k < N ∧ x = (k : Int)) : ∃ f : Nat → Nat, (∀ s, s < n → f s < N) ∧ xs = tab n f := by
  obtain ⟨ws, h1, rfl⟩ := zL_of h
  rw [zL_len] at hl
  subst hl
  refine ⟨fun i => ws.getD i 0, fun s hs => ?_, zL_tab ws⟩
  show ws.getD s 0 < N
  rw [List.getD_eq_getElem?_getD, List.getElem?_eq_getElem hs]
  exact h1 _ (List.getElem_mem hs)
/-! ### ranges with a step -/
theorem rsize_le {i j c : Int} (h : 0 < c) : Builtin.Range.rangeSize i j c ≤ (if i < j then j - i else 0) := by
  unfold Builtin.Range.rangeSize
  rw [if_pos h]
  split
  · have : (j - i - 1) / c ≤ j - i - 1 := Int.ediv_le_self _ (by omega)
    omega
  · omega
theorem gR3_of {i j c : Int} (h1 : 0 ≤ i) (h2 : i ≤ 1000000) (h3 : 0 ≤ j) (h4 : j ≤ 1000000) (h5 : 0 < c) (h6 : c ≤ 1000000) : gR3 i j c := by
  refine ⟨h5, by omega, ?_⟩
  have a := rsize_nn (i := i) (j := j) h5
  have b := rsize_le (i := i) (j := j) h5
  unfold Builtin.Range.small
  obtain ⟨n, hn⟩ : ∃ n, n = Builtin.Range.rangeSize i j c := ⟨_, rfl⟩
  rw [← hn] at a b ⊢
  have hb : n ≤ 1000000 := by split at b <;> omega
  rw [if_pos (show c > 0 from h5)]
  simp only [Builtin.Range.rangeFitsLong, Bool.and_eq_true, Bool.or_eq_true, decide_eq_true_eq, beq_iff_eq]
  exact ⟨by omega, .inr (by omega)⟩
theorem mem_rangeS {i j c x : Int} (hc : 0 < c) (h : x ∈ rangeS i j c) : i ≤ x ∧ x < j := by
  unfold rangeS at h
  rw [List.mem_map] at h
  obtain ⟨k, hk, rfl⟩ := h
  rw [List.mem_range] at hk
  have h0 := Int.mul_nonneg (show (0 : Int) ≤ (k : Int) by omega) (show (0 : Int) ≤ c by omega)
  refine ⟨by omega, ?_⟩
  unfold Builtin.Range.rangeSize at hk
  rw [if_pos hc] at hk
  split at hk
  · have h1 : (k : Int) ≤ (j - i - 1) / c := by omega
    have h2 := (Int.le_ediv_iff_mul_le hc).mp h1
    omega
  · simp at hk
/-! ### floods by steps -/
theorem nodup_len : ∀ (n : Nat) (Q : List Nat), Q.Nodup → (∀ x ∈ Q, x < n) → Q.length ≤ n
  | 0, Q, _, h => by
    cases Q with
    | nil => exact Nat.le_refl _
    | cons x xs => exact absurd (h x List.mem_cons_self) (by omega)
  | n + 1, Q, hd, h => by
    have h2 := nodup_len n (Q.erase n) (hd.erase n) fun x hx => by
      have := (hd.mem_erase_iff).mp hx
      have := h x this.2
      omega
    have : Q.length ≤ (Q.erase n).length + 1 := by
      rw [List.length_erase]
      split <;> omega
    omega
def itN (n : Nat) (f : Nat → Nat) (st : Nat) : Nat → Nat
  | 0 => st
  | k + 1 => nxt n f (itN n f st k)
theorem itN_lt {n : Nat} {f : Nat → Nat} (hf : ∀ s, s < n → f s < 2 ^ n) {st : Nat} (h : st < 2 ^ n) : ∀ k, itN n f st k < 2 ^ n
  | 0 => h
  | k + 1 => nxt_lt hf (itN_lt hf h k)
theorem itN_sub {n : Nat} {f : Nat → Nat} {st : Nat} {t : Nat} : ∀ {j k : Nat}, j ≤ k → (itN n f st j).testBit t = true → (itN n f st k).testBit t = true := by
  intro j k h ht
  induction k with
  | zero => rw [show j = 0 by omega] at ht; exact ht
  | succ k ih =>
    by_cases e : j = k + 1
    · rw [← e]; exact ht
    · exact nxt_sub _ _ _ _ (ih (by omega))
theorem nxt_iff {n : Nat} {f : Nat → Nat} {c t : Nat} : (nxt n f c).testBit t = true ↔ c.testBit t = true ∨ ∃ u, u < n ∧ c.testBit u = true ∧ (f u).testBit t = true := by
  unfold nxt
  rw [Nat.testBit_or, testBit_orAll, Bool.or_eq_true, List.any_eq_true]
  constructor
  · intro h
    rcases h with h | ⟨u, h1, h2⟩
    · exact .inl h
    · obtain ⟨a, b⟩ := mem_bitsL.mp h1
      exact .inr ⟨u, a, b, h2⟩
  · intro h
    rcases h with h | ⟨u, h1, h2, h3⟩
    · exact .inl h
    · exact .inr ⟨u, mem_bitsL.mpr ⟨h1, h2⟩, h3⟩
theorem Lay.it {n : Nat} {f : Nat → Nat} {st : Nat} {L : List Nat} (h : Lay n f L) (h0 : ∃ l, L = st :: l) : ∀ i, (hi : i < L.length) → L[i] = itN n f st i
  | 0, hi => by obtain ⟨l, rfl⟩ := h0; rfl
  | i + 1, hi => by
    rw [(h.at i hi).1, Lay.it h h0 i (by omega)]; rfl
theorem Lay.end {n : Nat} {f : Nat → Nat} {st : Nat} {L : List Nat} (h : Lay n f L) (h0 : ∃ l, L = st :: l) (hne : L ≠ []) : ∀ k, L.length ≤ k + 1 → itN n f st k = L.getLast hne := by
  intro k
  induction k with
  | zero =>
    intro hk
    obtain ⟨l, rfl⟩ := h0
    have : l = [] := by
      cases l with
      | nil => rfl
      | cons a b => simp at hk
    subst this; rfl
  | succ k ih =>
    intro hk
    by_cases e : L.length ≤ k + 1
    · show nxt n f (itN n f st k) = _
      rw [ih e]; exact h.last hne
    · have e2 : L.length = k + 2 := by omega
      rw [List.getLast_eq_getElem, ← Lay.it h h0 (k + 1) (by omega)]
      congr 1
      omega
end B

namespace B
open PySem Z
/-! ### what an answer is wanted for, from the front -/
section
variable {α β σ ρ : Type} {A : β → Prop}
theorem W.bind {m : Option α} {k : α → Option β} {P : α → Prop} (h : OP m P) (hk : ∀ x, P x → OP (k x) A) : OP (m.bind k) A := by
  obtain ⟨x, rfl, hx⟩ := OP.get h
  exact hk x hx
theorem W.eq {m : Option α} {a : α} {k : α → Option β} (h : m = some a) (hk : OP (k a) A) : OP (m.bind k) A := by rw [h]; exact hk
theorem W.grd {c : Prop} {_ : Decidable c} {k : Option β} (h : c) (hk : OP k A) : OP (Z.grd c k) A := by rw [grd_of h]; exact hk
theorem W.lt {e : α} {k : α → Option β} (hk : OP (k e) A) : OP (Z.lt e k) A := hk
theorem W.ltx {e : α} {k : α → Option β} (hk : ∀ x, x = e → OP (k x) A) : OP (Z.lt e k) A := hk e rfl
theorem W.ite {c : Bool} {m n : Option β} (h1 : c = true → OP m A) (h2 : c = false → OP n A) : OP (ifo c m n) A := by
  cases c with
  | true => rw [ifo_t rfl]; exact h1 rfl
  | false => rw [ifo_f rfl]; exact h2 rfl
theorem W.t {c : Bool} {m n : Option β} (hc : c = true) (h : OP m A) : OP (ifo c m n) A := by rw [ifo_t hc]; exact h
theorem W.f {c : Bool} {m n : Option β} (hc : c = false) (h : OP n A) : OP (ifo c m n) A := by rw [ifo_f hc]; exact h
theorem W.ret {a : β} (h : A a) : OP (some a) A := h
theorem W.as {m : Option β} {P : β → Prop} (h : OP m P) (hk : ∀ x, P x → A x) : OP m A := h.mono hk
theorem W.got {m : Option β} {a : β} (h : OP m (· = a)) : m = some a := by
  obtain ⟨x, rfl, e⟩ := OP.get h
  rw [e]
theorem W.of {m : Option β} {a : β} (e : m = some a) (h : A a) : OP m A := OP.mk e h
theorem W.brk {m : Option (σ ⊕ β)} {k : σ → Option β} {P : σ → Prop} (h : OP m (SE P A)) (hk : ∀ s, P s → OP (k s) A) : OP (Z.brk m k) A := by
  obtain ⟨x, rfl, hx⟩ := OP.get h
  cases x with
  | inl s => exact hk s hx
  | inr v => exact hx
/-! loops -/
theorem W.for_inv {body : α → σ → Option σ} (I : σ → Prop) : ∀ {xs : List α} {s : σ}, I s → (∀ x ∈ xs, ∀ s, I s → OP (body x s) I) → OP (forO body xs s) I
  | [], s, h, _ => by rw [forO_nil]; exact h
  | x :: xs, s, h, hs => by
    rw [forO_cons]
    exact W.bind (hs x List.mem_cons_self s h) fun s' h' => W.for_inv I h' fun y hy => hs y (List.mem_cons_of_mem _ hy)
theorem W.for_pre {body : α → σ → Option σ} (I : List α → σ → Prop) {xs : List α} {s : σ} (h : I [] s) (hs : ∀ pre x suf s, xs = pre ++ x :: suf → I pre s → OP (body x s) (I (pre ++ [x]))) : OP (forO body xs s) (I xs) := by
  have key : ∀ (suf pre : List α) (s : σ), xs = pre ++ suf → I pre s → OP (forO body suf s) (I xs) := by
    intro suf
    induction suf with
    | nil => intro pre s e h; rw [forO_nil]; rw [e, List.append_nil]; exact h
    | cons x suf ih =>
      intro pre s e h
      rw [forO_cons]
      exact W.bind (hs pre x suf s e h) fun s' h' => ih (pre ++ [x]) s' (by rw [List.append_assoc]; exact e) h'
  exact key xs [] s rfl h
theorem W.for_rng {body : Int → σ → Option σ} (I : Nat → σ → Prop) : ∀ {n a : Nat} {s : σ}, I a s → (∀ i s, a ≤ i → i < a + n → I i s → OP (body (i : Int) s) (I (i + 1))) → OP (forO body (rangeI (a : Int) n) s) (I (a + n))
  | 0, a, s, h, _ => by rw [rangeI_zero, forO_nil]; exact h
  | n + 1, a, s, h, hs => by
    rw [rangeI_succ, forO_cons]
    refine W.bind (hs a s (Nat.le_refl _) (by omega) h) fun s' h' => ?_
    have := W.for_rng (body := body) I (n := n) (a := a + 1) h' fun i s h1 h2 => hs i s (by omega) (by omega)
    rw [show ((a : Int) + 1) = ((a + 1 : Nat) : Int) by omega, show a + (n + 1) = a + 1 + n by omega]
    exact this
theorem W.for_r {body : Int → σ → Option σ} (I : Nat → σ → Prop) {n : Nat} {s : σ} (h : I 0 s) (hs : ∀ i s, i < n → I i s → OP (body (i : Int) s) (I (i + 1))) : OP (forO body (rangeI 0 n) s) (I n) := by
  have := W.for_rng (body := body) I (n := n) (a := 0) h fun i s _ h2 => hs i s (by omega)
  rw [Nat.zero_add] at this
  exact this
theorem W.for_tab {body : Int → σ → Option σ} {f : Nat → Nat} (I : Nat → σ → Prop) {n : Nat} {s : σ} (h : I 0 s) (hs : ∀ i s, i < n → I i s → OP (body ((f i : Nat) : Int) s) (I (i + 1))) : OP (forO body (tab n f) s) (I n) := by
  obtain ⟨s', e, h'⟩ := forO_map (g := fun i => ((f i : Nat) : Int)) I n s h fun i s hi hI => by
    obtain ⟨x, e, hx⟩ := OP.get (hs i s hi hI)
    exact ⟨x, e, hx⟩
  exact OP.mk e h'
theorem W.for_map {body : α → σ → Option σ} {g : Nat → α} (I : Nat → σ → Prop) {n : Nat} {s : σ} (h : I 0 s) (hs : ∀ i s, i < n → I i s → OP (body (g i) s) (I (i + 1))) : OP (forO body ((List.range n).map g) s) (I n) := by
  obtain ⟨s', e, h'⟩ := forO_map (g := g) I n s h fun i s hi hI => by
    obtain ⟨x, e, hx⟩ := OP.get (hs i s hi hI)
    exact ⟨x, e, hx⟩
  exact OP.mk e h'
theorem W.forR_inv {body : α → σ → Option (σ ⊕ ρ)} (I : σ → Prop) (V : ρ → Prop) : ∀ {xs : List α} {s : σ}, I s → (∀ x ∈ xs, ∀ s, I s → OP (body x s) (SE I V)) → OP (forR body xs s) (SE I V)
  | [], s, h, _ => by rw [forR_nil]; exact h
  | x :: xs, s, h, hs => by
    rw [forR_cons]
    refine W.bind (hs x List.mem_cons_self s h) fun r hr => ?_
    cases r with
    | inl s' => exact W.forR_inv I V hr fun y hy => hs y (List.mem_cons_of_mem _ hy)
    | inr v => exact hr
theorem W.forR_pre {body : α → σ → Option (σ ⊕ ρ)} (I : List α → σ → Prop) (V : ρ → Prop) {xs : List α} {s : σ} (h : I [] s) (hs : ∀ pre x suf s, xs = pre ++ x :: suf → I pre s → OP (body x s) (SE (I (pre ++ [x])) V)) : OP (forR body xs s) (SE (I xs) V) := by
  have key : ∀ (suf pre : List α) (s : σ), xs = pre ++ suf → I pre s → OP (forR body suf s) (SE (I xs) V) := by
    intro suf
    induction suf with
    | nil => intro pre s e h; rw [forR_nil]; rw [e, List.append_nil]; exact h
    | cons x suf ih =>
      intro pre s e h
      rw [forR_cons]
      refine W.bind (hs pre x suf s e h) fun r hr => ?_
      cases r with
      | inl s' => exact ih (pre ++ [x]) s' (by rw [List.append_assoc]; exact e) hr
      | inr v => exact hr
  exact key xs [] s rfl h
theorem W.forR_rng {body : Int → σ → Option (σ ⊕ ρ)} (I : Nat → σ → Prop) (V : ρ → Prop) : ∀ {n a : Nat} {s : σ}, I a s → (∀ i s, a ≤ i → i < a + n → I i s → OP (body (i : Int) s) (SE (I (i + 1)) V)) → OP (forR body (rangeI (a : Int) n) s) (SE (I (a + n)) V)
  | 0, a, s, h, _ => by rw [rangeI_zero, forR_nil]; exact h
  | n + 1, a, s, h, hs => by
    rw [rangeI_succ, forR_cons]
    refine W.bind (hs a s (Nat.le_refl _) (by omega) h) fun r hr => ?_
    cases r with
    | inl s' =>
      have := W.forR_rng (body := body) I V (n := n) (a := a + 1) hr fun i s h1 h2 => hs i s (by omega) (by omega)
      rw [show ((a : Int) + 1) = ((a + 1 : Nat) : Int) by omega, show a + (n + 1) = a + 1 + n by omega]
      exact this
    | inr v => exact hr
theorem W.forR_r {body : Int → σ → Option (σ ⊕ ρ)} (I : Nat → σ → Prop) (V : ρ → Prop) {n : Nat} {s : σ} (h : I 0 s) (hs : ∀ i s, i < n → I i s → OP (body (i : Int) s) (SE (I (i + 1)) V)) : OP (forR body (rangeI 0 n) s) (SE (I n) V) := by
  have := W.forR_rng (body := body) I V (n := n) (a := 0) h fun i s _ h2 => hs i s (by omega)
  rw [Nat.zero_add] at this
  exact this
theorem W.forR_map {body : α → σ → Option (σ ⊕ ρ)} {g : Nat → α} (I : Nat → σ → Prop) (V : ρ → Prop) {n : Nat} {s : σ} (h : I 0 s) (hs : ∀ i s, i < n → I i s → OP (body (g i) s) (SE (I (i + 1)) V)) : OP (forR body ((List.range n).map g) s) (SE (I n) V) := by
  have key : ∀ (n a : Nat) (s : σ), I a s → (∀ i s, a ≤ i → i < a + n → I i s → OP (body (g i) s) (SE (I (i + 1)) V)) → OP (forR body ((List.range' a n).map g) s) (SE (I (a + n)) V) := by
    intro n
    induction n with
    | zero => intro a s h _; rw [List.range'_zero, List.map_nil, forR_nil]; exact h
    | succ n ih =>
      intro a s h hs
      rw [List.range'_succ, List.map_cons, forR_cons]
      refine W.bind (hs a s (Nat.le_refl _) (by omega) h) fun r hr => ?_
      cases r with
      | inl s' =>
        have := ih (a + 1) s' hr fun i s h1 h2 => hs i s (by omega) (by omega)
        rw [show a + (n + 1) = a + 1 + n by omega]
        exact this
      | inr v => exact hr
  have := key n 0 s h fun i s _ h2 => hs i s (by omega)
  rw [Nat.zero_add] at this
  rw [List.range_eq_range']
  exact this
/-- a while, by a measure -/
theorem W.while' {c : σ → Option Bool} {body : σ → Option σ} (I : σ → Prop) (μ : σ → Nat) (P : σ → Prop) : ∀ {fuel : Nat} {s : σ}, I s → μ s < fuel → (∀ s, I s → OP (c s) fun b => (b = true → OP (body s) fun s' => I s' ∧ μ s' < μ s) ∧ (b = false → P s)) → OP (whileO c body fuel s) P
  | 0, s, _, hm, _ => by omega
  | f + 1, s, h, hm, hs => by
    rw [whileO_succ]
    refine W.bind (hs s h) fun b hb => ?_
    cases b with
    | true =>
      rw [if_pos rfl]
      exact W.bind (hb.1 rfl) fun s' h' => W.while' I μ P h'.1 (by omega) hs
    | false =>
      rw [if_neg Bool.false_ne_true]
      exact hb.2 rfl
theorem W.whileR' {c : σ → Option Bool} {body : σ → Option (σ ⊕ ρ)} (I : σ → Prop) (μ : σ → Nat) (P : σ → Prop) (V : ρ → Prop) : ∀ {fuel : Nat} {s : σ}, I s → μ s < fuel → (∀ s, I s → OP (c s) fun b => (b = true → OP (body s) (SE (fun s' => I s' ∧ μ s' < μ s) V)) ∧ (b = false → P s)) → OP (whileR c body fuel s) (SE P V)
  | 0, s, _, hm, _ => by omega
  | f + 1, s, h, hm, hs => by
    rw [whileR_succ]
    refine W.bind (hs s h) fun b hb => ?_
    cases b with
    | true =>
      rw [if_pos rfl]
      refine W.bind (hb.1 rfl) fun r hr => ?_
      cases r with
      | inl s' => exact W.whileR' I μ P V hr.1 (by have := hr.2; omega) hs
      | inr v => exact hr
    | false =>
      rw [if_neg Bool.false_ne_true]
      exact hb.2 rfl
theorem W.while {c : σ → Option Bool} {body : σ → Option σ} (I : σ → Prop) (μ : σ → Nat) (P : σ → Prop) {s : σ} (h : I s) (hm : μ s < 1000000) (hs : ∀ s, I s → OP (c s) fun b => (b = true → OP (body s) fun s' => I s' ∧ μ s' < μ s) ∧ (b = false → P s)) : OP (whileO c body bigN s) P := W.while' I μ P h (by rw [bigN_eq']; exact hm) hs
theorem W.whileR {c : σ → Option Bool} {body : σ → Option (σ ⊕ ρ)} (I : σ → Prop) (μ : σ → Nat) (P : σ → Prop) (V : ρ → Prop) {s : σ} (h : I s) (hm : μ s < 1000000) (hs : ∀ s, I s → OP (c s) fun b => (b = true → OP (body s) (SE (fun s' => I s' ∧ μ s' < μ s) V)) ∧ (b = false → P s)) : OP (whileR c body bigN s) (SE P V) := W.whileR' I μ P V h (by rw [bigN_eq']; exact hm) hs
/-- a comprehension -/
theorem W.comp [Inhabited β] {f : α → Option (Option β)} {xs : List α} (P : α → β → Prop) (hl : xs.length ≤ 16777216) (h : ∀ x ∈ xs, OP (f x) fun r => ∃ y, r = some y ∧ P x y) : OP (compO f xs) fun ys => ∃ g : α → β, ys = xs.map g ∧ ∀ x ∈ xs, P x (g x) := by
  have : ∀ x : α, ∃ y : β, x ∈ xs → f x = some (some y) ∧ P x y := fun x => by
    by_cases hx : x ∈ xs
    · obtain ⟨r, e, y, rfl, hy⟩ := OP.get (h x hx)
      exact ⟨y, fun _ => ⟨e, hy⟩⟩
    · exact ⟨default, fun q => absurd q hx⟩
  obtain ⟨g, hg⟩ := Classical.axiomOfChoice this
  exact OP.mk (comp_map (g := g) hl fun x hx => (hg x hx).1) ⟨g, rfl, fun x hx => (hg x hx).2⟩
end
theorem comp_map2 {α β γ : Type} {xs : List γ} {h : γ → α} {f : α → Option (Option β)} {g : γ → β} (hl : xs.length ≤ 16777216) (hf : ∀ x ∈ xs, f (h x) = some (some (g x))) : compO f (xs.map h) = some (xs.map g) := by
  have key : ∀ ys : List γ, (∀ x ∈ ys, f (h x) = some (some (g x))) → compO' f (ys.map h) = some (ys.map g) := by
    intro ys
    induction ys with
    | nil => intro _; rfl
    | cons y ys ih =>
      intro hy
      rw [List.map_cons, List.map_cons]
      unfold compO'
      rw [hy y List.mem_cons_self, ih fun z hz => hy z (List.mem_cons_of_mem _ hz)]
      rfl
  unfold compO
  rw [if_pos (by rw [List.length_map]; exact hl)]
  exact key xs hf
theorem mask_eq' {n : Nat} {p : Nat → Bool} {x : Nat} (hx : x < 2 ^ n) (h : ∀ i, i < n → x.testBit i = p i) : mask n p = x := (mask_ext hx h).symm
/-! ### whole numbers within bounds -/
def In (x N : Int) : Prop := 0 ≤ x ∧ x < N
theorem In.nat {x : Int} {N : Nat} (h : In x (N : Int)) : ∃ k : Nat, k < N ∧ x = (k : Int) := ⟨x.toNat, by have := h.1; have := h.2; omega, by have := h.1; omega⟩
theorem In.of {k N : Nat} (h : k < N) : In (k : Int) (N : Int) := ⟨by omega, by omega⟩
theorem In.zero {N : Nat} (h : 0 < N) : In 0 (N : Int) := ⟨by omega, by omega⟩
theorem In.emod {v : Int} {N : Nat} (h : 0 < N) : In (v % (N : Int)) (N : Int) := ⟨Int.emod_nonneg v (by omega), Int.emod_lt_of_pos v (by omega)⟩
theorem In.emod' {v N : Int} (h : 0 < N) : In (v % N) N := ⟨Int.emod_nonneg v (by omega), Int.emod_lt_of_pos v (by omega)⟩
theorem In.shl1 {k : Int} {n : Nat} (h : In k (n : Int)) : In (shl 1 k) ((2 ^ n : Nat) : Int) := by
  obtain ⟨j, hj, rfl⟩ := h.nat
  rw [shl1_nat]
  exact In.of (pow_lt2 hj)
theorem In.bor {a b : Int} {n : Nat} (ha : In a ((2 ^ n : Nat) : Int)) (hb : In b ((2 ^ n : Nat) : Int)) : In (bor a b) ((2 ^ n : Nat) : Int) := by
  obtain ⟨j, hj, rfl⟩ := ha.nat
  obtain ⟨k, hk, rfl⟩ := hb.nat
  rw [bor_nat]
  exact In.of (Nat.or_lt_two_pow hj hk)
theorem In.bxor {a b : Int} {n : Nat} (ha : In a ((2 ^ n : Nat) : Int)) (hb : In b ((2 ^ n : Nat) : Int)) : In (bxor a b) ((2 ^ n : Nat) : Int) := by
  obtain ⟨j, hj, rfl⟩ := ha.nat
  obtain ⟨k, hk, rfl⟩ := hb.nat
  rw [bxor_nat]
  exact In.of (xor_lt hj hk)
theorem In.band {a b M N : Int} (ha : In a N) (hb : In b M) : In (band a b) N := by
  obtain ⟨j, rfl⟩ : ∃ j : Nat, a = (j : Int) := ⟨a.toNat, by have := ha.1; omega⟩
  obtain ⟨k, rfl⟩ : ∃ k : Nat, b = (k : Int) := ⟨b.toNat, by have := hb.1; omega⟩
  rw [band_nat]
  have : j &&& k ≤ j := Nat.and_le_left
  exact ⟨by omega, by have := ha.2; omega⟩
theorem In.bandn {a b M N : Int} (ha : In a N) (hb : In b M) : In (Z.band a (bnot b)) N := by
  obtain ⟨j, rfl⟩ : ∃ j : Nat, a = (j : Int) := ⟨a.toNat, by have := ha.1; omega⟩
  obtain ⟨k, rfl⟩ : ∃ k : Nat, b = (k : Int) := ⟨b.toNat, by have := hb.1; omega⟩
  rw [bandn_nat]
  have : andn j k ≤ j := by
    have h1 := nat_xor_and j (j &&& k)
    have h2 : j &&& (j &&& k) = j &&& k := by rw [← Nat.and_assoc, Nat.and_self]
    rw [h2] at h1
    have h3 : j &&& k ≤ j := Nat.and_le_left
    unfold andn
    omega
  exact ⟨by omega, by have := ha.2; omega⟩
theorem In.compl {a : Int} {n : Nat} (ha : In a ((2 ^ n : Nat) : Int)) : In (((2 ^ n : Nat) : Int) - 1 - a) ((2 ^ n : Nat) : Int) := ⟨by have := ha.2; omega, by have := ha.1; omega⟩
theorem In.full (n : Nat) : In (((2 ^ n : Nat) : Int) - 1) ((2 ^ n : Nat) : Int) := ⟨by have := Nat.two_pow_pos n; omega, by omega⟩
theorem In.tail {k : Int} {n : Nat} (h : In k (n : Int)) : In (((2 ^ n : Nat) : Int) - shl 1 k) ((2 ^ n : Nat) : Int) := by
  obtain ⟨j, hj, rfl⟩ := h.nat
  rw [shl1_nat]
  have := pow_lt2 hj
  have := Nat.two_pow_pos j
  exact ⟨by omega, by omega⟩
theorem In.le {x M N : Int} (h : In x M) (hl : M ≤ N) : In x N := ⟨h.1, by have := h.2; omega⟩
theorem gPow1I {x N : Int} (h : In x N) (hN : N ≤ 1000001) : gPow 1 x := ⟨h.1, by have := h.2; omega, by decide⟩
theorem gR_I {x N : Int} (h : In x N) (hN : N ≤ 2 ^ 62) : gR x := ⟨by have := h.1; omega, by have := h.2; omega⟩
end B

namespace B
open PySem Z
/-! ### tables of crowds, and steps that go by themselves -/
def Tb (m : Nat) (x : List Int) : Prop := ∃ f, x = tab (2 ^ m) f ∧ ∀ s, s < 2 ^ m → f s < 2 ^ 2 ^ m
theorem Tb.zero (m : Nat) : Tb m (tab (2 ^ m) fun _ => 0) := ⟨_, rfl, fun _ _ => Nat.two_pow_pos _⟩
theorem Tb.get {m : Nat} {x : List Int} {i : Int} (h : Tb m x) (hi : In i ((2 ^ m : Nat) : Int)) : ∃ v, L2.atI x i = some v ∧ In v ((2 ^ 2 ^ m : Nat) : Int) := by
  obtain ⟨f, rfl, hf⟩ := h
  obtain ⟨k, hk, rfl⟩ := hi.nat
  exact ⟨_, atI_tab hk, In.of (hf k hk)⟩
theorem Tb.set {m : Nat} {x : List Int} {i v : Int} (h : Tb m x) (hi : In i ((2 ^ m : Nat) : Int)) (hv : In v ((2 ^ 2 ^ m : Nat) : Int)) : ∃ y, setI x i v = some y ∧ Tb m y := by
  obtain ⟨f, rfl, hf⟩ := h
  obtain ⟨k, hk, rfl⟩ := hi.nat
  obtain ⟨c, hc, rfl⟩ := hv.nat
  exact ⟨_, setI_tab hk, _, rfl, fup_lt hf hc⟩
theorem Tb.len {m : Nat} {x : List Int} (h : Tb m x) : x.length = 2 ^ m := by obtain ⟨f, rfl, _⟩ := h; exact tab_len _ _
section
variable {β : Type} {A : β → Prop} {m : Nat} {x : List Int} {i v : Int}
theorem W.tget {k : Int → Option β} (h : Tb m x) (hi : In i ((2 ^ m : Nat) : Int)) (hk : ∀ v, In v ((2 ^ 2 ^ m : Nat) : Int) → OP (k v) A) : OP ((L2.atI x i).bind k) A := by
  obtain ⟨v, e, hv⟩ := h.get hi
  exact W.eq e (hk v hv)
theorem W.tset {k : List Int → Option β} (h : Tb m x) (hi : In i ((2 ^ m : Nat) : Int)) (hv : In v ((2 ^ 2 ^ m : Nat) : Int)) (hk : ∀ y, Tb m y → OP (k y) A) : OP ((setI x i v).bind k) A := by
  obtain ⟨y, e, hy⟩ := h.set hi hv
  exact W.eq e (hk y hy)
theorem W.some' {m : Option β} (h : OP m A) : OP (m.bind fun x => some x) A := W.bind h fun _ q => q
end
theorem gDivW2 {m : Nat} (hm : m ≤ 6) : gDivW ((2 ^ m : Nat) : Int) := gDivW_nat (Nat.two_pow_pos m) (by have := le64 hm; omega)
theorem pos2 (m : Nat) : (0 : Int) < ((2 ^ m : Nat) : Int) := by have := Nat.two_pow_pos m; omega
theorem gPow1_2 {m : Nat} (hm : m ≤ 6) : gPow 1 ((2 ^ m : Nat) : Int) := gPow1 (by have := le64 hm; omega)
theorem gR_2 {m : Nat} (hm : m ≤ 6) : gR ((2 ^ m : Nat) : Int) := gR_nat (by have := le64 hm; omega)
theorem In.band' {a b N : Int} (ha : In a N) (hb : 0 ≤ b) : In (Z.band a b) N := In.band (M := b + 1) ha ⟨hb, by omega⟩
theorem In.rest {a : Int} {m : Nat} {c : Nat} (h : In a ((2 ^ m : Nat) : Int)) (hc : c ≤ 64) (hm : 2 ^ m ≤ c) : In a (c : Int) := h.le (by omega)
theorem In.low {n : Nat} {v : Int} (h : 1 ≤ n) : In (v % 2) ((2 ^ n : Nat) : Int) := ⟨by omega, by have : 2 ^ 1 ≤ 2 ^ n := Nat.pow_le_pow_right (by decide) h; omega⟩
end B

local macro_rules
  | `(tactic| infer_instance) => `(tactic| first
    | assumption
    | exact B.In.zero (Nat.two_pow_pos _)
    | exact B.In.emod (Nat.two_pow_pos _)
    | exact B.In.emod' (B.pos2 _)
    | exact B.In.full _
    | (with_reducible apply B.In.of; assumption)
    | (with_reducible apply B.In.shl1; infer_instance)
    | (with_reducible apply B.In.bor <;> infer_instance)
    | (with_reducible apply B.In.bxor <;> infer_instance)
    | (with_reducible apply B.In.compl; infer_instance)
    | (with_reducible apply B.In.tail; infer_instance)
    | (with_reducible apply B.In.bandn <;> infer_instance)
    | (with_reducible apply B.In.band <;> infer_instance)
    | exact ⟨by omega, by omega⟩)
local macro_rules
  | `(tactic| contradiction) => `(tactic| first
    | with_reducible refine B.W.ite (fun _ => ?_) (fun _ => ?_)
    | with_reducible refine B.W.lt ?_
    | (with_reducible refine B.W.grd ?_ ?_
       · first
          | exact B.pos2 _
          | (with_reducible apply B.gDivW2; assumption)
          | (with_reducible apply B.gPow1_2; assumption)
          | (with_reducible apply B.gR_2; assumption)
          | (with_reducible apply B.gPow1I
             · infer_instance
             · omega)
          | (with_reducible apply B.gR_I
             · infer_instance
             · omega)
          | omega
          | exact ⟨by omega, by omega⟩)
    | (with_reducible apply B.W.tget
       · assumption
       · infer_instance
       intro _ _)
    | (with_reducible apply B.W.tset
       · assumption
       · infer_instance
       · infer_instance
       intro _ _)
    | (with_reducible refine B.W.ret ?_
       infer_instance))

namespace B
open PySem Z E L2
/-! ### formulas, in plain words -/
mutual
def dep : O_Formula → Nat
  | .Lamp _ => 0
  | .Sure _ => 0
  | .Not p => dep p + 1
  | .And ps => deps ps + 1
  | .Either ps => deps ps + 1
  | .Or ps => deps ps + 1
def deps : List O_Formula → Nat
  | [] => 0
  | p :: ps => max (dep p) (deps ps)
end
mutual
def ev : O_Formula → Nat → Bool
  | .Lamp a, s => s.testBit a.toNat
  | .Sure b, _ => b
  | .Not p, s => !ev p s
  | .And ps, s => evA ps s
  | .Either ps, s => evX ps s
  | .Or ps, s => evO ps s
def evA : List O_Formula → Nat → Bool
  | [], _ => true
  | p :: ps, s => ev p s && evA ps s
def evO : List O_Formula → Nat → Bool
  | [], _ => false
  | p :: ps, s => ev p s || evO ps s
def evX : List O_Formula → Nat → Bool
  | [], _ => false
  | p :: ps, s => xor (ev p s) (evX ps s)
end
mutual
/-- its lamps are below m -/
def okF (m : Nat) : O_Formula → Prop
  | .Lamp a => ∃ k : Nat, a = (k : Int) ∧ k < m
  | .Sure _ => True
  | .Not p => okF m p
  | .And ps => okFs m ps
  | .Either ps => okFs m ps
  | .Or ps => okFs m ps
def okFs (m : Nat) : List O_Formula → Prop
  | [] => True
  | p :: ps => okF m p ∧ okFs m ps
end
theorem evA_eq (s : Nat) : ∀ ps, evA ps s = ps.all fun p => ev p s
  | [] => by rw [evA]; rfl
  | p :: ps => by rw [evA, evA_eq s ps]; rfl
theorem evO_eq (s : Nat) : ∀ ps, evO ps s = ps.any fun p => ev p s
  | [] => by rw [evO]; rfl
  | p :: ps => by rw [evO, evO_eq s ps]; rfl
theorem okFs_iff {m : Nat} : ∀ {ps : List O_Formula}, okFs m ps ↔ ∀ p ∈ ps, okF m p
  | [] => by rw [okFs]; simp
  | p :: ps => by rw [okFs, okFs_iff]; simp
theorem deps_le {p : O_Formula} : ∀ {ps : List O_Formula}, p ∈ ps → dep p ≤ deps ps
  | [], h => by cases h
  | q :: ps, h => by
    rw [deps]
    rcases List.mem_cons.mp h with rfl | h
    · omega
    · have := deps_le h; omega
theorem deps_of {N : Nat} : ∀ {ps : List O_Formula}, (∀ p ∈ ps, dep p ≤ N) → deps ps ≤ N
  | [], _ => by rw [deps]; omega
  | q :: ps, h => by
    rw [deps]
    have h1 := h q List.mem_cons_self
    have h2 := deps_of fun p hp => h p (List.mem_cons_of_mem _ hp)
    omega
theorem okF.mono {m n : Nat} (h : m ≤ n) : ∀ {x : O_Formula}, okF m x → okF n x := by
  intro x
  have key : ∀ N x, dep x ≤ N → okF m x → okF n x := by
    intro N
    induction N with
    | zero =>
      intro x hd hx
      cases x with
      | Lamp a => rw [okF] at hx ⊢; obtain ⟨k, e, hk⟩ := hx; exact ⟨k, e, by omega⟩
      | Sure b => rw [okF]; trivial
      | Not p => rw [dep] at hd; omega
      | And ps => rw [dep] at hd; omega
      | Either ps => rw [dep] at hd; omega
      | Or ps => rw [dep] at hd; omega
    | succ N ih =>
      intro x hd hx
      cases x with
      | Lamp a => rw [okF] at hx ⊢; obtain ⟨k, e, hk⟩ := hx; exact ⟨k, e, by omega⟩
      | Sure b => rw [okF]; trivial
      | Not p => rw [dep] at hd; rw [okF] at hx ⊢; exact ih p (by omega) hx
      | And ps => rw [dep] at hd; rw [okF, okFs_iff] at hx ⊢; exact fun p hp => ih p (by have := deps_le hp; omega) (hx p hp)
      | Either ps => rw [dep] at hd; rw [okF, okFs_iff] at hx ⊢; exact fun p hp => ih p (by have := deps_le hp; omega) (hx p hp)
      | Or ps => rw [dep] at hd; rw [okF, okFs_iff] at hx ⊢; exact fun p hp => ih p (by have := deps_le hp; omega) (hx p hp)
  exact key (dep x) x (Nat.le_refl _)
end B

namespace B
open PySem Z E L2
def crF (m : Nat) (x : O_Formula) : Nat := mask (2 ^ m) (ev x)
theorem crF_lt (m : Nat) (x : O_Formula) : crF m x < 2 ^ 2 ^ m := mask_lt _ _
theorem all_stands_eq {m : Nat} (hm : m ≤ 6) : m_all_stands (m : Int) = some ((2 ^ 2 ^ m - 1 : Nat) : Int) := by
  have h64 := le64 hm
  have := Nat.two_pow_pos (2 ^ m)
  unfold m_all_stands
  rw [grd_of (gPow1 (by omega)), shl1_nat, grd_of (gPow1 (by omega)), shl1_nat]
  congr 1
  omega
def lcN (a : Nat) : Nat → Nat
  | 0 => 0
  | t + 1 => lcN a t ||| (((2 ^ 2 ^ a - 1) <<< 2 ^ a) <<< (t * 2 * 2 ^ a))
theorem lcAll : ((List.range 7).all fun m => (List.range m).all fun a => lcN a (2 ^ (m - a - 1)) == mask (2 ^ m) fun s => s.testBit a) = true := by decide +kernel
theorem lcB : ((List.range 6).all fun a => decide ((2 ^ 2 ^ a - 1) <<< 2 ^ a < 2 ^ 64)) = true := by decide +kernel
theorem lamp_crowd_eq {m a : Nat} (hm : m ≤ 6) (ha : a < m) : m_Lamp_crowd (.Lamp (a : Int)) (m : Int) = some ((crF m (.Lamp (a : Int)) : Nat) : Int) := by
  have h64 := le64 hm
  have q := lcAll
  simp only [List.all_eq_true, List.mem_range] at q
  have r := eq_of_beq (q m (by omega) a ha)
  have q2 := lcB
  simp only [List.all_eq_true, List.mem_range, decide_eq_true_eq] at q2
  have r2 := q2 a (by omega)
  have hA : 2 ^ a ≤ 2 ^ 5 := Nat.pow_le_pow_right (by decide) (by omega)
  have hAA : 2 ^ 2 ^ a ≤ 2 ^ 32 := Nat.pow_le_pow_right (by decide) (by omega)
  have hp := Nat.two_pow_pos (2 ^ a)
  have hT : 2 ^ (m - a - 1) ≤ 2 ^ 5 := Nat.pow_le_pow_right (by decide) (by omega)
  have e : gf_Formula_at (.Lamp (a : Int)) = some (a : Int) := rfl
  refine W.got ?_
  unfold m_Lamp_crowd
  rw [bind_eq e]
  refine W.grd (gPow1 (by omega)) ?_
  rw [shl1_nat]
  refine W.lt (W.grd (gPow1 (by omega)) ?_)
  rw [shl1_nat, show ((2 ^ 2 ^ a : Nat) : Int) - 1 = ((2 ^ 2 ^ a - 1 : Nat) : Int) by omega]
  refine W.grd (gPow_nat (by omega) (by omega)) (W.lt ?_)
  rw [bind_eq e, shl_nat, show (m : Int) - (a : Int) - 1 = ((m - a - 1 : Nat) : Int) by omega]
  refine W.grd (gPow1 (by omega)) ?_
  rw [shl1_nat]
  refine W.grd (gR_nat (by omega)) ?_
  rw [Int.toNat_natCast]
  refine W.some' (W.as (W.for_r (fun t s => s = ((lcN a t : Nat) : Int)) rfl ?_) ?_)
  · rintro t _ ht rfl
    have e2 : (t : Int) * 2 = ((t * 2 : Nat) : Int) := by omega
    rw [e2]
    refine W.grd (.inl ⟨by omega, by omega⟩) ?_
    have e3 : ((t * 2 : Nat) : Int) * ((2 ^ a : Nat) : Int) = ((t * 2 * 2 ^ a : Nat) : Int) := (Int.natCast_mul (t * 2) (2 ^ a)).symm
    rw [e3]
    have hb : t * 2 * 2 ^ a ≤ 64 * 2 ^ 5 := Nat.mul_le_mul (by omega) hA
    refine W.grd (gPow_nat (by omega) r2) (W.lt ?_)
    rw [shl_nat, bor_nat]
    exact rfl
  · rintro _ rfl
    rw [r]
    unfold crF
    have : (ev (.Lamp (a : Int))) = fun s => s.testBit a := by funext s; rw [ev, Int.toNat_natCast]
    rw [this]
theorem mask_not (n : Nat) (p : Nat → Bool) : (2 ^ n - 1) ^^^ mask n p = mask n fun s => !p s := by
  refine mask_ext (xor_lt (by have := Nat.two_pow_pos n; omega) (mask_lt _ _)) fun i hi => ?_
  rw [Nat.testBit_xor, testBit_mask, Nat.testBit_two_pow_sub_one, decide_eq_true hi, Bool.true_and, Bool.true_xor]
theorem mask_and (n : Nat) (p q : Nat → Bool) : mask n p &&& mask n q = mask n fun s => p s && q s := by
  refine mask_ext (Nat.lt_of_le_of_lt Nat.and_le_left (mask_lt _ _)) fun i hi => ?_
  rw [Nat.testBit_and, testBit_mask, testBit_mask, decide_eq_true hi, Bool.true_and, Bool.true_and]
theorem mask_or' (n : Nat) (p q : Nat → Bool) : mask n p ||| mask n q = mask n fun s => p s || q s := by
  refine mask_ext (Nat.or_lt_two_pow (mask_lt _ _) (mask_lt _ _)) fun i hi => ?_
  rw [Nat.testBit_or, testBit_mask, testBit_mask, decide_eq_true hi, Bool.true_and, Bool.true_and]
theorem mask_xor (n : Nat) (p q : Nat → Bool) : mask n p ^^^ mask n q = mask n fun s => xor (p s) (q s) := by
  refine mask_ext (xor_lt (mask_lt _ _) (mask_lt _ _)) fun i hi => ?_
  rw [Nat.testBit_xor, testBit_mask, testBit_mask, decide_eq_true hi, Bool.true_and, Bool.true_and]
theorem mask_full (n : Nat) : mask n (fun _ => true) = 2 ^ n - 1 := by
  refine mask_eq' ?_ fun i hi => ?_
  · have := Nat.two_pow_pos n; omega
  · rw [Nat.testBit_two_pow_sub_one, decide_eq_true hi]
theorem mask_none (n : Nat) : mask n (fun _ => false) = 0 := by
  refine mask_eq' (Nat.two_pow_pos n) fun i hi => ?_
  rw [Nat.zero_testBit]
theorem crowd_fuel {m : Nat} (hm : m ≤ 6) : ∀ (n : Nat) (x : O_Formula), dep x < n → okF m x → mf_D_Formula_crowd n x (m : Int) = some ((crF m x : Nat) : Int) := by
  intro n
  induction n with
  | zero => intro x h; omega
  | succ n ih =>
    intro x hd hx
    show mb_D_Formula_crowd (mf_D_Formula_crowd n) x (m : Int) = _
    cases x with
    | Lamp a =>
      rw [okF] at hx
      obtain ⟨k, rfl, hk⟩ := hx
      exact lamp_crowd_eq hm hk
    | Sure b =>
      show m_Sure_crowd (.Sure b) (m : Int) = _
      unfold m_Sure_crowd
      have e : gf_Formula_truth (.Sure b) = some b := rfl
      have e2 : ev (.Sure b) = fun _ => b := by funext s; rw [ev]
      rw [bind_eq e]
      unfold crF
      rw [e2]
      cases b with
      | true => rw [ifo_tt, bind_eq (all_stands_eq hm), mask_full]
      | false => rw [ifo_ff, mask_none]; rfl
    | Not p =>
      rw [dep] at hd
      rw [okF] at hx
      show mb_Not_crowd (mf_D_Formula_crowd n) (.Not p) (m : Int) = _
      unfold mb_Not_crowd
      have e : gf_Formula_part (.Not p) = some p := rfl
      have e2 : ev (.Not p) = fun s => !ev p s := by funext s; rw [ev]
      rw [bind_eq (all_stands_eq hm), bind_eq e, bind_eq (ih p (by omega) hx), bxor_nat]
      unfold crF
      rw [mask_not, e2]
    | And ps =>
      rw [dep] at hd
      rw [okF, okFs_iff] at hx
      show mb_And_crowd (mf_D_Formula_crowd n) (.And ps) (m : Int) = _
      unfold mb_And_crowd
      have e : gf_Formula_parts (.And ps) = some ps := rfl
      have e2 : ev (.And ps) = fun s => evA ps s := by funext s; rw [ev]
      rw [bind_eq (all_stands_eq hm), bind_eq e]
      have key : ∀ (qs : List O_Formula) (q : Nat → Bool), (∀ p ∈ qs, p ∈ ps) → forO (fun part8 found17 =>
          (mf_D_Formula_crowd n part8 (m : Int)).bind fun v22 =>
          lt (band found17 v22) fun found23 =>
          some found23) qs ((mask (2 ^ m) q : Nat) : Int) = some ((mask (2 ^ m) fun s => q s && evA qs s : Nat) : Int) := by
        intro qs
        induction qs with
        | nil =>
          intro q _
          rw [forO_nil]
          congr 3
          funext s
          rw [evA, Bool.and_true]
        | cons p qs ih2 =>
          intro q hq
          have hq1 := hq p List.mem_cons_self
          rw [forO_cons, bind_eq (ih p (by have := deps_le hq1; omega) (hx p hq1)), lt_eq, band_nat, sb]
          unfold crF
          rw [mask_and, ih2 _ fun y hy => hq y (List.mem_cons_of_mem _ hy)]
          congr 3
          funext s
          rw [evA, Bool.and_assoc]
      have k0 := key ps (fun _ => true) fun _ h => h
      rw [mask_full] at k0
      rw [bind_eq k0]
      unfold crF
      rw [e2]
      congr 3
    | Either ps =>
      rw [dep] at hd
      rw [okF, okFs_iff] at hx
      show mb_Either_crowd (mf_D_Formula_crowd n) (.Either ps) (m : Int) = _
      unfold mb_Either_crowd
      have e : gf_Formula_parts (.Either ps) = some ps := rfl
      have e2 : ev (.Either ps) = fun s => evX ps s := by funext s; rw [ev]
      rw [bind_eq e]
      have key : ∀ (qs : List O_Formula) (q : Nat → Bool), (∀ p ∈ qs, p ∈ ps) → forO (fun part7 found16 =>
          (mf_D_Formula_crowd n part7 (m : Int)).bind fun v21 =>
          lt (bxor found16 v21) fun found22 =>
          some found22) qs ((mask (2 ^ m) q : Nat) : Int) = some ((mask (2 ^ m) fun s => xor (q s) (evX qs s) : Nat) : Int) := by
        intro qs
        induction qs with
        | nil =>
          intro q _
          rw [forO_nil]
          congr 3
          funext s
          rw [evX, Bool.xor_false]
        | cons p qs ih2 =>
          intro q hq
          have hq1 := hq p List.mem_cons_self
          rw [forO_cons, bind_eq (ih p (by have := deps_le hq1; omega) (hx p hq1)), lt_eq, bxor_nat, sb]
          unfold crF
          rw [mask_xor, ih2 _ fun y hy => hq y (List.mem_cons_of_mem _ hy)]
          congr 3
          funext s
          rw [evX, Bool.xor_assoc]
      have k0 := key ps (fun _ => false) fun _ h => h
      rw [mask_none] at k0
      have k1 : (((0 : Nat)) : Int) = 0 := rfl
      rw [k1] at k0
      rw [bind_eq k0]
      unfold crF
      rw [e2]
      congr 3
      funext s
      rw [Bool.false_xor]
    | Or ps =>
      rw [dep] at hd
      rw [okF, okFs_iff] at hx
      show mb_Or_crowd (mf_D_Formula_crowd n) (.Or ps) (m : Int) = _
      unfold mb_Or_crowd
      have e : gf_Formula_parts (.Or ps) = some ps := rfl
      have e2 : ev (.Or ps) = fun s => evO ps s := by funext s; rw [ev]
      rw [bind_eq e]
      have key : ∀ (qs : List O_Formula) (q : Nat → Bool), (∀ p ∈ qs, p ∈ ps) → forO (fun part7 found16 =>
          (mf_D_Formula_crowd n part7 (m : Int)).bind fun v21 =>
          lt (bor found16 v21) fun found22 =>
          some found22) qs ((mask (2 ^ m) q : Nat) : Int) = some ((mask (2 ^ m) fun s => q s || evO qs s : Nat) : Int) := by
        intro qs
        induction qs with
        | nil =>
          intro q _
          rw [forO_nil]
          congr 3
          funext s
          rw [evO, Bool.or_false]
        | cons p qs ih2 =>
          intro q hq
          have hq1 := hq p List.mem_cons_self
          rw [forO_cons, bind_eq (ih p (by have := deps_le hq1; omega) (hx p hq1)), lt_eq, bor_nat, sb]
          unfold crF
          rw [mask_or', ih2 _ fun y hy => hq y (List.mem_cons_of_mem _ hy)]
          congr 3
          funext s
          rw [evO, Bool.or_assoc]
      have k0 := key ps (fun _ => false) fun _ h => h
      rw [mask_none] at k0
      have k1 : (((0 : Nat)) : Int) = 0 := rfl
      rw [k1] at k0
      rw [bind_eq k0]
      unfold crF
      rw [e2]
      congr 3
theorem crowdF_eq {m : Nat} {x : O_Formula} (hm : m ≤ 6) (hd : dep x < 100) (hx : okF m x) : m_D_Formula_crowd x (m : Int) = some ((crF m x : Nat) : Int) := by
  unfold m_D_Formula_crowd
  exact crowd_fuel hm 100 x hd hx
end B

namespace B
open PySem Z E L2
theorem cell_at_eq (ns : List Int) (k : Nat) : ∃ v, m__law_cell_at ns (k : Int) = some v := by
  unfold m__law_cell_at
  by_cases h : k < ns.length
  · rw [ifo_t (decide_eq_true (by omega))]
    rw [bind_eq (atI_nat' h)]
    first
      | exact ⟨_, rfl⟩
      | exact ⟨_, grd_of (by decide)⟩
  · rw [ifo_f (decide_eq_false (by omega))]
    exact ⟨0, rfl⟩
/-- the number of lamps -/
theorem many_of (v : Int) : ∃ m : Nat, 1 ≤ m ∧ m ≤ 6 ∧ (1 : Int) + v % 6 = (m : Int) := by
  obtain ⟨k, h1, h2⟩ := mod_nat v (n := 6) (by decide)
  have : v % ((6 : Nat) : Int) = v % 6 := rfl
  exact ⟨k + 1, by omega, by omega, by omega⟩
end B

namespace B
open PySem Z E L2
theorem whole_eq (x : Int) : m_is_whole x = some true := by unfold m_is_whole; rfl
theorem crowd_ok {m c : Nat} (hm : m ≤ 6) (hc : c < 2 ^ 2 ^ m) : m_is_crowd (m : Int) (c : Int) = some true := by
  have h64 : 2 ^ m ≤ 2 ^ 6 := Nat.pow_le_pow_right (by decide) hm
  unfold m_is_crowd
  rw [bind_eq (whole_eq _), ifo_nt, decide_eq_true (show (0 : Int) ≤ (c : Int) by omega), ifo_tt, grd_of (gPow1 (by omega)), shl1_nat, grd_of (gPow1 (by omega)), shl1_nat, decide_eq_true (show (c : Int) < ((2 ^ 2 ^ m : Nat) : Int) by omega), sb]
theorem stands_eq {n c : Nat} (hn : n ≤ 1000) (hc : c < 2 ^ n) : m_stands_of (c : Int) = some (zL (bitsL n c)) := by
  unfold m_stands_of
  have key : ∀ (m c : Nat) (acc : List Int) (fuel : Nat), (bitsL n c).length = m → c < 2 ^ n → acc.length + m ≤ 1000 → m < fuel → whileO (fun s => un2 (fun crowd19 found23 =>
      some (decide (0 < crowd19))) s) (fun s => un2 (fun crowd19 found23 =>
      lt (band crowd19 (-crowd19)) fun lowest31 =>
      grd (found23.length < 16777216) <|
      lt (found23 ++ [((blen lowest31) - 1)]) fun l33 =>
      lt (bxor crowd19 lowest31) fun crowd40 =>
      some (crowd40, l33)) s) fuel ((c : Int), acc) = some ((0 : Int), acc ++ zL (bitsL n c)) := by
    intro m
    induction m with
    | zero =>
      intro c acc fuel hl hc ha hf
      have h0 : c = 0 := by
        by_cases h : c = 0
        · exact h
        · obtain ⟨k, k1, _, _⟩ := least_bit c (by omega)
          have : k ∈ bitsL n c := mem_bitsL.mpr ⟨tb_lt hc k1, k1⟩
          rw [List.length_eq_zero_iff.mp hl] at this; cases this
      subst h0
      obtain ⟨f, rfl⟩ : ∃ f, fuel = f + 1 := ⟨fuel - 1, by omega⟩
      rw [whileO_succ, un2_mk, sb, bitsL_zero]
      show (if decide ((0 : Int) < 0) = true then _ else some ((0 : Int), acc)) = _
      rw [if_neg (by decide)]
      unfold zL
      rw [List.map_nil, List.append_nil]
    | succ m ih =>
      intro c acc fuel hl hc ha hf
      have hpos : 0 < c := by
        by_cases h : c = 0
        · subst h; rw [bitsL_zero] at hl; cases hl
        · omega
      obtain ⟨f, rfl⟩ : ∃ f, fuel = f + 1 := ⟨fuel - 1, by omega⟩
      obtain ⟨k, k1, k2, k3⟩ := least_bit c hpos
      have hk := tb_lt hc k1
      have hcons := bitsL_cons hk k1 k2
      rw [whileO_succ, un2_mk, sb, if_pos (decide_eq_true (show (0 : Int) < (c : Int) by omega)), un2_mk, low_nat hpos, k3, lt_eq, grd_of (by omega), blen_pow, lt_eq, bxor_nat, lt_eq, sb]
      have hlen : (bitsL n (c ^^^ 2 ^ k)).length = m := by
        have := congrArg List.length hcons
        rw [hl, List.length_cons] at this
        omega
      rw [show (((k + 1 : Nat) : Int) - 1) = (k : Int) by omega, ih _ _ f hlen (xor_lt hc (Nat.pow_lt_pow_right (by decide) hk)) (by rw [List.length_append]; show acc.length + 1 + m ≤ 1000; omega) (by omega), hcons, List.append_assoc]
      rfl
  have hl := bitsL_len n c
  rw [bind_eq (key _ c [] bigN rfl hc (by show 0 + _ ≤ 1000; omega) (by rw [bigN_eq']; omega)), un2_mk, List.nil_append]
/-- the crowds that lead in -/
def backF (n : Nat) (f : Nat → Nat) (t : Nat) : Nat := mask n fun s => (f s).testBit t
theorem leading_eq {n : Nat} {f : Nat → Nat} (hn : n ≤ 64) (hf : ∀ s, s < n → f s < 2 ^ n) : m_leading_back (tab n f) = some (tab n (backF n f)) := by
  unfold m_leading_back
  rw [bind_eq (comp_zeroL (tab_len n f) (by omega)), enumI_tab]
  obtain ⟨s, e, hs⟩ := forO_map (body := fun (x18 : Int × Int) (back30 : List Int) =>
    (m_stands_of x18.2).bind fun v42 =>
    (forO (fun there56 back68 =>
    (atI back68 there56).bind fun i74 =>
    grd (gPow 1 x18.1) <|
    (setI back68 there56 (bor i74 (shl 1 x18.1))).bind fun l76 =>
    some l76) (v42) back30).bind (fun back68 =>
    some back68)) (g := fun i => ((i : Int), ((f i : Nat) : Int))) (fun i s => s = tab n fun t => mask i fun s => (f s).testBit t) n (tab n fun _ => 0) (tab_ext fun _ _ => rfl) fun i s hi hI => by
      subst hI
      refine ⟨_, ?_, rfl⟩
      show (m_stands_of ((f i : Nat) : Int)).bind _ = _
      rw [bind_eq (stands_eq (by omega) (hf i hi)), shl1_nat]
      have inner : ∀ (ts : List Nat) (g : Nat → Nat), (∀ t ∈ ts, t < n) → forO (fun there56 back68 =>
          (L2.atI back68 there56).bind fun i74 =>
          grd (gPow 1 ((i : Nat) : Int)) <|
          (setI back68 there56 (bor i74 ((2 ^ i : Nat) : Int))).bind fun l76 =>
          some l76) (zL ts) (tab n g) = some (tab n fun t => if t ∈ ts then g t ||| 2 ^ i else g t) := by
        intro ts
        induction ts with
        | nil =>
          intro g _
          unfold zL
          rw [List.map_nil, forO_nil]
          congr 1
        | cons t ts ih =>
          intro g ht
          have h1 := ht t List.mem_cons_self
          show forO _ ((t : Int) :: zL ts) _ = _
          rw [forO_cons, bind_eq (atI_tab h1), grd_of (gPow1 (by omega)), bor_nat, bind_eq (setI_tab h1), sb, ih _ fun u hu => ht u (List.mem_cons_of_mem _ hu)]
          congr 1
          refine tab_ext fun u _ => ?_
          unfold fup
          by_cases e : u = t
          · subst e
            rw [if_pos rfl, if_pos List.mem_cons_self]
            by_cases e2 : u ∈ ts
            · rw [if_pos e2, Nat.or_assoc, Nat.or_self]
            · rw [if_neg e2]
          · rw [if_neg e]
            by_cases e2 : u ∈ ts
            · rw [if_pos e2, if_pos (List.mem_cons_of_mem _ e2)]
            · rw [if_neg e2, if_neg (fun q => by
                rcases List.mem_cons.mp q with q | q
                · exact e q
                · exact e2 q)]
      rw [bind_eq (inner _ _ fun t ht => (mem_bitsL.mp ht).1)]
      congr 1
      refine tab_ext fun t ht => ?_
      rw [mask_succ]
      have : (t ∈ bitsL n (f i)) ↔ (f i).testBit t = true := by rw [mem_bitsL]; exact ⟨fun h => h.2, fun h => ⟨ht, h⟩⟩
      by_cases e : (f i).testBit t = true
      · rw [if_pos (this.mpr e), if_pos e]
        exact mask_or _ _
      · rw [if_neg (fun q => e (this.mp q)), if_neg e, Nat.add_zero]
  rw [bind_eq e, hs]
  rfl
/-- a chart of m lamps -/
def okC (m : Nat) (st bd : Nat) (f : Nat → Nat) : Prop := 1 ≤ m ∧ m ≤ 6 ∧ st < 2 ^ 2 ^ m ∧ bd < 2 ^ 2 ^ m ∧ ∀ s, s < 2 ^ m → f s < 2 ^ 2 ^ m
def chN (m st bd : Nat) (f : Nat → Nat) : O_Chart := O_Chart.mk (m : Int) (st : Int) (bd : Int) (tab (2 ^ m) f) (tab (2 ^ m) (backF (2 ^ m) f))
theorem n64 {m : Nat} (hm : m ≤ 6) : 2 ^ m ≤ 64 := by
  have := Nat.pow_le_pow_right (n := 2) (by decide) hm
  exact this
theorem chart_eq {m st bd : Nat} {f : Nat → Nat} (h : okC m st bd f) : m_Chart___init__ (m : Int) (st : Int) (bd : Int) (tab (2 ^ m) f) = some (chN m st bd f) := by
  obtain ⟨h1, h2, h3, h4, h5⟩ := h
  have h64 := n64 h2
  unfold m_Chart___init__
  have c1 : (!true || (decide ((m : Int) < 1) || decide (6 < (m : Int)))) = false := by
    rw [decide_eq_false (by omega), decide_eq_false (by omega)]; rfl
  have c2 : (!decide (((tab (2 ^ m) f).length : Int) = shl 1 (m : Int))) = false := by
    rw [tab_len, shl1_nat, decide_eq_true rfl]; rfl
  rw [bind_eq (whole_eq _), ifo_f c1, bind_eq (crowd_ok h2 h3), ifo_nt, bind_eq (crowd_ok h2 h4), sb, ifo_nt, ifo_nt, grd_of (gPow1 (by omega)), sb, ifo_f c2]
  have c3 : forO (fun (crowd19 : Int) _ =>
      (m_is_crowd (m : Int) crowd19).bind fun v31 =>
      ifo (!v31) (
      none) (
      some ())) (tab (2 ^ m) f) () = some () := forO_pass fun x hx => by
    obtain ⟨i, hi, rfl⟩ := mem_tab hx
    show (m_is_crowd (m : Int) ((f i : Nat) : Int)).bind _ = _
    rw [bind_eq (crowd_ok h2 (h5 i hi)), ifo_nt]
  rw [bind_eq c3, bind_eq (leading_eq h64 h5)]
  rfl
theorem or_loop {n : Nat} {f : Nat → Nat} : ∀ (ts : List Nat) (a : Nat), (∀ t ∈ ts, t < n) → forO (fun here18 found27 =>
    (atI (tab n f) here18).bind fun i32 =>
    lt (bor found27 i32) fun found33 =>
    some found33) (zL ts) (a : Int) = some ((a ||| orAll f ts : Nat) : Int)
  | [], a, _ => by
    unfold zL orAll
    rw [List.map_nil, forO_nil, Nat.or_zero]
  | t :: ts, a, h => by
    show forO _ ((t : Int) :: zL ts) _ = _
    rw [forO_cons, bind_eq (atI_tab (h t List.mem_cons_self)), lt_eq, bor_nat, sb, or_loop ts _ fun u hu => h u (List.mem_cons_of_mem _ hu)]
    rw [Nat.or_assoc]
    rfl
end B

namespace B
open PySem Z E L2
theorem ahead_eq {m st bd c : Nat} {f : Nat → Nat} (hm : m ≤ 6) (hc : c < 2 ^ 2 ^ m) : m_Chart_ahead (chN m st bd f) (c : Int) = some ((orAll f (bitsL (2 ^ m) c) : Nat) : Int) := by
  have h64 := n64 hm
  unfold m_Chart_ahead
  rw [bind_eq (stands_eq (by omega) hc)]
  have e := or_loop (n := 2 ^ m) (f := f) (bitsL (2 ^ m) c) 0 fun t ht => (mem_bitsL.mp ht).1
  rw [Nat.zero_or] at e
  exact bind_eq (k := fun found27 => some found27) e
end B

namespace B
open PySem Z E L2
def crN (m : Nat) (x : O_Formula) : Nat := mask (2 ^ m) (ev x)
/-- a formula and its crowd -/
def zP (m : Nat) (x : O_Formula) : O_Formula × Int := (x, ((crN m x : Nat) : Int))
theorem mask_add (n : Nat) (p : Nat → Bool) : mask n p + mask n (fun s => !p s) = 2 ^ n - 1 := by
  induction n with
  | zero => rfl
  | succ n ih =>
    rw [mask_succ, mask_succ, Nat.pow_succ]
    have := Nat.two_pow_pos n
    cases h : p n with
    | true =>
      rw [if_pos rfl, if_neg (by simp [h])]
      omega
    | false =>
      rw [if_neg Bool.false_ne_true, if_pos (by simp [h])]
      omega
theorem mask_sub (n : Nat) (p : Nat → Bool) : ((2 ^ n : Nat) : Int) - 1 - ((mask n p : Nat) : Int) = ((mask n fun s => !p s : Nat) : Int) := by
  have h := mask_add n p
  have := Nat.two_pow_pos n
  omega
theorem sum_mask (p : Nat → Bool) : ∀ n, (((List.range n).filterMap fun (s : Nat) => if p s = true then some ((2 ^ s : Nat) : Int) else none) : List Int).sum = ((mask n p : Nat) : Int) := by
  intro n
  induction n with
  | zero => rfl
  | succ n ih =>
    rw [List.range_succ, List.filterMap_append, List.sum_append, ih, mask_succ]
    cases h : p n with
    | true => simp [h]
    | false => simp [h]
theorem lit_eq {m a : Nat} (hm : m ≤ 6) (ha : a < m) : m__law_lit (a : Int) (m : Int) = some ((mask (2 ^ m) fun s => s.testBit a : Nat) : Int) := by
  have h64 := le64 hm
  unfold m__law_lit
  rw [grd_of (gPow1 (by omega)), shl1_nat, grd_of (gR_2 hm), Int.toNat_natCast]
  have hg : gDivW ((2 ^ a : Nat) : Int) := gDivW2 (show a ≤ 6 by omega)
  have e := compO_eq (f := fun zx3 =>
      grd (gPow 1 (a : Int)) <|
      grd (gDivW (shl 1 (a : Int))) <|
      ifo (decide (((zx3 / (shl 1 (a : Int))) % 2) = 1)) (grd (gPow 1 zx3) <|
      some (some (shl 1 zx3))) (some none)) (g := fun x => if (x.toNat).testBit a = true then some (shl 1 x) else none) (xs := rangeI 0 (2 ^ m)) (by rw [rangeI_len]; omega) fun x hx => by
    obtain ⟨k, hk, rfl⟩ := mem_rangeI hx
    rw [grd_of (gPow1 (by omega)), shl1_nat, grd_of hg, tb_div1, Int.toNat_natCast]
    cases k.testBit a with
    | true => rw [ifo_tt, grd_of (gPow1 (by omega)), if_pos rfl]
    | false => rw [ifo_ff, if_neg Bool.false_ne_true]
  rw [bind_eq e, ← sum_mask, rangeI_tab]
  unfold tab
  have ef : ((fun x : Int => if x.toNat.testBit a = true then some (shl 1 x) else none) ∘ fun i : Nat => ((id i : Nat) : Int)) = fun (s : Nat) => if s.testBit a = true then some ((2 ^ s : Nat) : Int) else none := by
    funext s
    show (if (((id s : Nat) : Int)).toNat.testBit a = true then some (shl 1 ((id s : Nat) : Int)) else none) = _
    rw [Int.toNat_natCast, shl1_nat]
    rfl
  rw [List.filterMap_map, ef]
theorem leaf14 {m : Nat} (h1 : 1 ≤ m) (hm : m ≤ 6) (k v : Int) : ∃ x, okF m x ∧ dep x ≤ 1 ∧ m__law_leaf k v (m : Int) = some (zP m x) := by
  have h64 := le64 hm
  obtain ⟨a, ha, ea⟩ := mod_nat v (n := m) (by omega)
  have evL : (ev (.Lamp (a : Int))) = fun s => s.testBit a := by funext s; rw [ev, Int.toNat_natCast]
  have okL : okF m (.Lamp (a : Int)) := by rw [okF]; exact ⟨a, rfl, ha⟩
  unfold m__law_leaf m_Sure___init__ m_Lamp___init__ m_Not___init__
  rw [grd_of (gPow1 (by omega)), shl1_nat, grd_of (gPow1 (by omega)), shl1_nat, lt_eq, grd_of (by omega), ea, lt_eq]
  by_cases k5 : k = 5
  · rw [ifo_t (decide_eq_true k5), sb]
    refine ⟨.Sure (decide (v % 2 = 0)), by rw [okF]; trivial, by rw [dep]; omega, ?_⟩
    have e2 : ∀ b, ev (.Sure b) = fun _ => b := fun b => by funext s; rw [ev]
    unfold zP crN
    rw [e2]
    cases decide (v % 2 = 0) with
    | true =>
      rw [if_pos rfl, grd_of (.inr ⟨by omega, by omega⟩), Int.mul_one, mask_eq' (n := 2 ^ m) (p := fun _ => true) (x := 2 ^ 2 ^ m - 1) (by have := Nat.two_pow_pos (2 ^ m); omega) (fun i hi => by rw [Nat.testBit_two_pow_sub_one, decide_eq_true hi])]
      have := Nat.two_pow_pos (2 ^ m)
      congr 2
      omega
    | false =>
      rw [if_neg Bool.false_ne_true, grd_of (.inr ⟨by omega, by omega⟩), Int.mul_zero, mask_eq' (n := 2 ^ m) (p := fun _ => false) (x := 0) (Nat.two_pow_pos _) (fun i hi => Nat.zero_testBit i)]
      rfl
  · rw [ifo_f (decide_eq_false k5)]
    by_cases k11 : k = 11
    · rw [ifo_t (decide_eq_true k11), sb, sb, bind_eq (lit_eq hm ha)]
      refine ⟨.Not (.Lamp (a : Int)), by rw [okF]; exact okL, by rw [dep, dep]; omega, ?_⟩
      unfold zP crN
      have e2 : ev (.Not (.Lamp (a : Int))) = fun s => !s.testBit a := by funext s; rw [ev, ev, Int.toNat_natCast]
      rw [e2, mask_sub]
    · rw [ifo_f (decide_eq_false k11), sb, bind_eq (lit_eq hm ha)]
      refine ⟨.Lamp (a : Int), okL, by rw [dep]; omega, ?_⟩
      unfold zP crN
      rw [evL]
theorem zP_fst (m : Nat) (ps : List O_Formula) (hl : ps.length ≤ 1000) : compO (fun zx5 : O_Formula × Int => some (some zx5.1)) (ps.map (zP m)) = some ps := by
  exact (comp_map2 (h := zP m) (f := fun zx5 : O_Formula × Int => some (some zx5.1)) (g := fun x => x) (by omega) fun x _ => rfl).trans (by rw [List.map_id'])
theorem joined14 {m : Nat} {k : Int} {ps : List O_Formula} (hk : 8 ≤ k ∧ k ≤ 10) (hne : ps ≠ []) (hl : ps.length ≤ 1000) (hp : ∀ p ∈ ps, okF m p) : ∃ x, okF m x ∧ dep x = deps ps + 1 ∧ m__law_joined k (ps.map (zP m)) = some (zP m x) := by
  cases ps with
  | nil => exact absurd rfl hne
  | cons p ps =>
    have a0 : atI ((p :: ps).map (zP m)) 0 = some (zP m p) := L2.atI_nat (j := 0) rfl
    have cf : cutI ((p :: ps).map (zP m)) (some 1) none = ps.map (zP m) := cutI_from _ 1
    have p2 : (zP m p).2 = ((mask (2 ^ m) (ev p) : Nat) : Int) := rfl
    unfold m__law_joined m_Joined___init__
    rw [bind_eq (zP_fst m (p :: ps) hl), bind_eq a0, lt_eq, cf, p2]
    have hks : k = 8 ∨ k = 9 ∨ k = 10 := by omega
    rcases hks with rfl | rfl | rfl
    · have key : ∀ (qs : List O_Formula) (q : Nat → Bool), forO (fun (pair38 : O_Formula × Int) (due_here47 : Int) =>
          ifo (decide ((8 : Int) = 8)) (
          lt (band due_here47 pair38.2) fun due_here52 =>
          some due_here52) (
          ifo (decide ((8 : Int) = 9)) (
          lt (bxor due_here47 pair38.2) fun due_here53 =>
          some due_here53) (
          lt (bor due_here47 pair38.2) fun due_here54 =>
          some due_here54))) (qs.map (zP m)) ((mask (2 ^ m) q : Nat) : Int) = some ((mask (2 ^ m) fun s => q s && evA qs s : Nat) : Int) := by
        intro qs
        induction qs with
        | nil =>
          intro q
          rw [List.map_nil, forO_nil]
          congr 3
          funext s
          rw [evA, Bool.and_true]
        | cons x qs ih2 =>
          intro q
          have x2 : (zP m x).2 = ((mask (2 ^ m) (ev x) : Nat) : Int) := rfl
          have e3 : mask (2 ^ m) q &&& mask (2 ^ m) (ev x) = mask (2 ^ m) fun s => q s && ev x s := by
            refine mask_ext (Nat.lt_of_le_of_lt Nat.and_le_left (mask_lt _ _)) fun i hi => ?_
            rw [Nat.testBit_and, testBit_mask, testBit_mask, decide_eq_true hi, Bool.true_and, Bool.true_and]
          rw [List.map_cons, forO_cons, ifo_t (by decide), lt_eq, x2, band_nat, sb, e3, ih2]
          congr 3
          funext s
          rw [evA, Bool.and_assoc]
      rw [bind_eq (key ps (ev p)), ifo_t (by decide), sb]
      refine ⟨.And (p :: ps), by rw [okF]; exact okFs_iff.mpr hp, by rw [dep], ?_⟩
      unfold zP crN
      have : ev (.And (p :: ps)) = fun s => ev p s && evA ps s := by funext s; rw [ev, evA]
      rw [this]
    · have key : ∀ (qs : List O_Formula) (q : Nat → Bool), forO (fun (pair38 : O_Formula × Int) (due_here47 : Int) =>
          ifo (decide ((9 : Int) = 8)) (
          lt (band due_here47 pair38.2) fun due_here52 =>
          some due_here52) (
          ifo (decide ((9 : Int) = 9)) (
          lt (bxor due_here47 pair38.2) fun due_here53 =>
          some due_here53) (
          lt (bor due_here47 pair38.2) fun due_here54 =>
          some due_here54))) (qs.map (zP m)) ((mask (2 ^ m) q : Nat) : Int) = some ((mask (2 ^ m) fun s => xor (q s) (evX qs s) : Nat) : Int) := by
        intro qs
        induction qs with
        | nil =>
          intro q
          rw [List.map_nil, forO_nil]
          congr 3
          funext s
          rw [evX, Bool.xor_false]
        | cons x qs ih2 =>
          intro q
          have x2 : (zP m x).2 = ((mask (2 ^ m) (ev x) : Nat) : Int) := rfl
          have e3 : mask (2 ^ m) q ^^^ mask (2 ^ m) (ev x) = mask (2 ^ m) fun s => xor (q s) (ev x s) := by
            refine mask_ext (xor_lt (mask_lt _ _) (mask_lt _ _)) fun i hi => ?_
            rw [Nat.testBit_xor, testBit_mask, testBit_mask, decide_eq_true hi, Bool.true_and, Bool.true_and]
          rw [List.map_cons, forO_cons, ifo_f (by decide), ifo_t (by decide), lt_eq, x2, bxor_nat, sb, e3, ih2]
          congr 3
          funext s
          rw [evX, Bool.xor_assoc]
      rw [bind_eq (key ps (ev p)), ifo_f (by decide), ifo_t (by decide), sb]
      refine ⟨.Either (p :: ps), by rw [okF]; exact okFs_iff.mpr hp, by rw [dep], ?_⟩
      unfold zP crN
      have : ev (.Either (p :: ps)) = fun s => xor (ev p s) (evX ps s) := by funext s; rw [ev, evX]
      rw [this]
    · have key : ∀ (qs : List O_Formula) (q : Nat → Bool), forO (fun (pair38 : O_Formula × Int) (due_here47 : Int) =>
          ifo (decide ((10 : Int) = 8)) (
          lt (band due_here47 pair38.2) fun due_here52 =>
          some due_here52) (
          ifo (decide ((10 : Int) = 9)) (
          lt (bxor due_here47 pair38.2) fun due_here53 =>
          some due_here53) (
          lt (bor due_here47 pair38.2) fun due_here54 =>
          some due_here54))) (qs.map (zP m)) ((mask (2 ^ m) q : Nat) : Int) = some ((mask (2 ^ m) fun s => q s || evO qs s : Nat) : Int) := by
        intro qs
        induction qs with
        | nil =>
          intro q
          rw [List.map_nil, forO_nil]
          congr 3
          funext s
          rw [evO, Bool.or_false]
        | cons x qs ih2 =>
          intro q
          have x2 : (zP m x).2 = ((mask (2 ^ m) (ev x) : Nat) : Int) := rfl
          have e3 : mask (2 ^ m) q ||| mask (2 ^ m) (ev x) = mask (2 ^ m) fun s => q s || ev x s := by
            refine mask_ext (Nat.or_lt_two_pow (mask_lt _ _) (mask_lt _ _)) fun i hi => ?_
            rw [Nat.testBit_or, testBit_mask, testBit_mask, decide_eq_true hi, Bool.true_and, Bool.true_and]
          rw [List.map_cons, forO_cons, ifo_f (by decide), ifo_f (by decide), lt_eq, x2, bor_nat, sb, e3, ih2]
          congr 3
          funext s
          rw [evO, Bool.or_assoc]
      rw [bind_eq (key ps (ev p)), ifo_f (by decide), ifo_f (by decide), sb]
      refine ⟨.Or (p :: ps), by rw [okF]; exact okFs_iff.mpr hp, by rw [dep], ?_⟩
      unfold zP crN
      have : ev (.Or (p :: ps)) = fun s => ev p s || evO ps s := by funext s; rw [ev, evO]
      rw [this]
theorem pile_ok {m : Nat} (h1 : 1 ≤ m) (hm : m ≤ 6) {cs : List Int} (hl : cs.length ≤ 63) : ∃ ps : List O_Formula, m__law_pile cs (m : Int) = some (ps.map (zP m)) ∧ ps ≠ [] ∧ ps.length ≤ 64 ∧ ∀ p ∈ ps, okF m p ∧ dep p < 100 := by
  have h64 := le64 hm
  suffices h : OP (m__law_pile cs (m : Int)) fun s => ∃ ps : List O_Formula, s = ps.map (zP m) ∧ ps ≠ [] ∧ ps.length ≤ 64 ∧ ∀ p ∈ ps, okF m p ∧ dep p < 100 by
    obtain ⟨s, e, ps, rfl, h⟩ := OP.get h
    exact ⟨ps, e, h⟩
  unfold m__law_pile
  refine W.bind (W.for_pre (fun pre s => ∃ ps : List O_Formula, s = ps.map (zP m) ∧ ps.length ≤ pre.length ∧ ∀ p ∈ ps, okF m p ∧ dep p ≤ pre.length + 1) ⟨[], rfl, Nat.zero_le _, fun p hp => by cases hp⟩ ?_) ?_
  · rintro pre c suf _ ec ⟨ps, rfl, hlen, hps⟩
    have hpre : pre.length < 63 := by
      have h := congrArg List.length ec
      rw [List.length_append, List.length_cons] at h
      omega
    have hpl : (pre ++ [c]).length = pre.length + 1 := by rw [List.length_append]; rfl
    rw [hpl]
    refine W.lt (W.lt (W.ite (fun hc => ?_) (fun _ => W.ite (fun hc => ?_) (fun _ => ?_))))
    · rw [Bool.and_eq_true, Bool.and_eq_true, decide_eq_true_iff, decide_eq_true_iff, decide_eq_true_iff, List.length_map] at hc
      obtain ⟨l, el, hl⟩ : ∃ l : Nat, (if (((ps.map (zP m)).length : Int) - 2) - (c / 12 % 5 / 4) > 0 then (((ps.map (zP m)).length : Int) - 2) - (c / 12 % 5 / 4) else 0) = (l : Int) ∧ l + 2 ≤ ps.length := by
        rw [List.length_map]
        by_cases q : ((ps.length : Int) - 2) - (c / 12 % 5 / 4) > 0
        · exact ⟨(((ps.length : Int) - 2) - (c / 12 % 5 / 4)).toNat, by rw [if_pos q]; omega, by omega⟩
        · exact ⟨0, by rw [if_neg q]; rfl, by omega⟩
      rw [el]
      refine W.lt ?_
      have hdn : ps.drop l ≠ [] := fun e => by
        have := congrArg List.length e
        rw [List.length_drop] at this
        simp at this; omega
      rw [cutI_from, cutI_to, ← List.map_drop, ← List.map_take]
      obtain ⟨x, ox, dx, ex⟩ := joined14 (m := m) hc.1 hdn (by rw [List.length_drop]; omega) fun q hq => (hps q (List.mem_of_mem_drop hq)).1
      refine W.eq ex (W.grd (by rw [List.length_map, List.length_take]; simp; omega) ?_)
      refine ⟨ps.take l ++ [x], by rw [List.map_append]; rfl, by rw [List.length_append, List.length_take]; simp; omega, fun p hp => ?_⟩
      rcases List.mem_append.mp hp with hp | hp
      · obtain ⟨a, b⟩ := hps p (List.mem_of_mem_take hp)
        exact ⟨a, by omega⟩
      · rw [List.mem_singleton.mp hp, dx]
        refine ⟨ox, ?_⟩
        have := deps_of (N := pre.length + 1) fun q hq => (hps q (List.mem_of_mem_drop (i := l) hq)).2
        omega
    · rw [Bool.and_eq_true, decide_eq_true_iff, List.length_map] at hc
      have hne : ps ≠ [] := fun e => by rw [e] at hc; simp at hc
      have hlast := hps _ (List.getLast_mem hne)
      have hne2 : ps.map (zP m) ≠ [] := by simpa using hne
      have gl : (ps.map (zP m)).getLast hne2 = zP m (ps.getLast hne) := List.getLast_map hne2
      have a2 : atI (ps.map (zP m)) (-1) = some (zP m (ps.getLast hne)) := by rw [atI_end hne2, gl]
      have z1 : (zP m (ps.getLast hne)).1 = ps.getLast hne := rfl
      have z2 : (zP m (ps.getLast hne)).2 = ((mask (2 ^ m) (ev (ps.getLast hne)) : Nat) : Int) := rfl
      unfold m_Not___init__
      rw [bind_eq a2, z1, z2, sb, cutI_init]
      refine W.grd (gPow1 (by omega)) ?_
      rw [shl1_nat]
      refine W.grd (gPow1 (by omega)) (W.grd (by rw [List.length_dropLast, List.length_map]; simp; omega) ⟨ps.dropLast ++ [.Not (ps.getLast hne)], ?_, by rw [List.length_append, List.length_dropLast]; simp; omega, fun p hp => ?_⟩)
      · rw [shl1_nat, List.map_append, List.map_dropLast, mask_sub]
        have e2 : ev (.Not (ps.getLast hne)) = fun s => !ev (ps.getLast hne) s := by funext s; rw [ev]
        unfold zP crN
        rw [List.map_cons, List.map_nil, e2]
      · rcases List.mem_append.mp hp with hp | hp
        · obtain ⟨a, b⟩ := hps p (List.dropLast_subset ps hp)
          exact ⟨a, by omega⟩
        · rw [List.mem_singleton.mp hp]
          exact ⟨by rw [okF]; exact hlast.1, by rw [dep]; omega⟩
    · obtain ⟨x, o, d, l⟩ := leaf14 h1 hm (c % 12) (c / 12)
      refine W.eq l (W.grd (by rw [List.length_map]; omega) (W.lt ⟨ps ++ [x], by rw [List.map_append]; rfl, by rw [List.length_append]; simp; omega, fun p hp => ?_⟩))
      rcases List.mem_append.mp hp with hp | hp
      · obtain ⟨a, b⟩ := hps p hp
        exact ⟨a, by omega⟩
      · rw [List.mem_singleton.mp hp]
        exact ⟨o, by omega⟩
  · rintro _ ⟨ps, rfl, hlen, hps⟩
    refine W.some' (W.ite (fun hc => ?_) (fun hc => ?_))
    · obtain ⟨x, o, d, l⟩ := leaf14 h1 hm 0 (cs.length : Int)
      rw [decide_eq_true_iff, List.length_map] at hc
      have : ps = [] := List.eq_nil_of_length_eq_zero (by omega)
      subst this
      refine W.eq l (W.grd (by simp) (W.lt ⟨[x], rfl, by simp, by simp, fun p hp => ?_⟩))
      rw [List.mem_singleton.mp hp]
      exact ⟨o, by omega⟩
    · rw [decide_eq_false_iff_not, List.length_map] at hc
      refine ⟨ps, rfl, fun e => hc (by rw [e]; rfl), by omega, fun p hp => ?_⟩
      obtain ⟨a, b⟩ := hps p hp
      exact ⟨a, by omega⟩
end B

namespace B
open PySem Z E L2
/-! ### moves -/
abbrev Chg := Nat × O_Formula
abbrev Mv := O_Formula × List Chg
def zC (c : Chg) : Int × O_Formula := ((c.1 : Int), c.2)
def zD (m : Nat) (c : Chg) : Int × (O_Formula × Int) := ((c.1 : Int), zP m c.2)
def zM (m : Nat) (v : Mv) : (O_Formula × Int) × List (Int × (O_Formula × Int)) := (zP m v.1, v.2.map (zD m))
def oM (v : Mv) : O_Move := O_Move.mk v.1 (v.2.map zC)
structure okV (m : Nat) (v : Mv) : Prop where
  g : okF m v.1 ∧ dep v.1 < 100
  c : ∀ c ∈ v.2, c.1 < m ∧ okF m c.2 ∧ dep c.2 < 100
  n : (v.2.map (·.1)).Nodup
  l : v.2.length ≤ 6
def newbit (cs : List Chg) (s i : Nat) : Bool := cs.foldl (fun b c => if c.1 = i then ev c.2 s else b) (s.testBit i)
def onw (m : Nat) (cs : List Chg) (s : Nat) : Nat := mask m (newbit cs s)
theorem newbit_not {s i : Nat} : ∀ {cs : List Chg}, (∀ c ∈ cs, c.1 ≠ i) → newbit cs s i = s.testBit i := by
  intro cs h
  unfold newbit
  have : ∀ (cs : List Chg) (b : Bool), (∀ c ∈ cs, c.1 ≠ i) → cs.foldl (fun b c => if c.1 = i then ev c.2 s else b) b = b := by
    intro cs
    induction cs with
    | nil => intro b _; rfl
    | cons c cs ih =>
      intro b h
      rw [List.foldl_cons, if_neg (h c List.mem_cons_self)]
      exact ih b fun d hd => h d (List.mem_cons_of_mem _ hd)
  exact this cs _ h
theorem newbit_snoc (cs : List Chg) (c : Chg) (s i : Nat) : newbit (cs ++ [c]) s i = if c.1 = i then ev c.2 s else newbit cs s i := by
  unfold newbit
  rw [List.foldl_append]; rfl
theorem mask_upd {e : Bool} {p q : Nat → Bool} {c : Nat} : ∀ {m : Nat}, c < m → (∀ i, i < m → q i = if c = i then e else p i) → mask m q + (if p c = true then 2 ^ c else 0) = mask m p + if e = true then 2 ^ c else 0
  | 0, h, _ => absurd h (Nat.not_lt_zero c)
  | m + 1, h, hq => by
    rw [mask_succ, mask_succ]
    by_cases hc : c = m
    · subst hc
      have h1 : mask c q = mask c p := mask_congr fun i hi => by rw [hq i (by omega), if_neg (by omega)]
      have h2 : q c = e := by rw [hq c (by omega), if_pos rfl]
      rw [h1, h2]; omega
    · have ih := mask_upd (m := m) (by omega) fun i hi => hq i (by omega)
      have h2 : q m = p m := by rw [hq m (by omega), if_neg hc]
      rw [h2]; omega
/-- one change: the next step of both sums -/
theorem step_mask {m : Nat} {cs : List Chg} {c : Chg} {s : Nat} (h1 : c.1 < m) (hn : ∀ d ∈ cs, d.1 ≠ c.1) : mask m (newbit (cs ++ [c]) s) + (if s.testBit c.1 = true then 2 ^ c.1 else 0) = mask m (newbit cs s) + if ev c.2 s = true then 2 ^ c.1 else 0 := by
  have := mask_upd (e := ev c.2 s) (p := newbit cs s) (q := newbit (cs ++ [c]) s) h1 fun i _ => newbit_snoc cs c s i
  rw [newbit_not hn] at this
  exact this
theorem nodup_pre {cs p q : List Chg} {c : Chg} (hn : (cs.map (·.1)).Nodup) (e : cs = p ++ c :: q) : ∀ d ∈ p, d.1 ≠ c.1 := by
  intro d hd he
  rw [e, List.map_append, List.nodup_append] at hn
  exact hn.2.2 d.1 (List.mem_map_of_mem hd) c.1 (by rw [List.map_cons]; exact List.mem_cons_self) he
theorem mask_start {m s : Nat} (hs : s < 2 ^ m) : s = mask m (newbit [] s) := mask_ext hs fun i _ => rfl
theorem onward_law {m s : Nat} {v : Mv} (hm : m ≤ 6) (hs : s < 2 ^ m) (hv : okV m v) : m__law_onward (s : Int) (v.2.map (zD m)) = some ((onw m v.2 s : Nat) : Int) := by
  have h64 := le64 hm
  have hgs : gDivW ((2 ^ s : Nat) : Int) := gDivW_nat (Nat.two_pow_pos s) (pow_lt2 (by omega))
  refine W.got ?_
  unfold m__law_onward
  refine W.some' (W.as (W.for_pre (fun pre t => ∃ p q : List Chg, pre = p.map (zD m) ∧ v.2 = p ++ q ∧ t = ((mask m (newbit p s) : Nat) : Int)) ⟨[], v.2, rfl, rfl, congrArg _ (mask_start hs)⟩ ?_) ?_)
  · rintro pre x suf _ e ⟨p, q, rfl, eq, rfl⟩
    rw [eq, List.map_append] at e
    have e := List.append_cancel_left e
    cases q with
    | nil => cases e
    | cons c q =>
      rw [List.map_cons] at e
      injection e with e1 e2
      subst e1
      obtain ⟨h1, h2, h3⟩ := hv.c c (by rw [eq]; exact List.mem_append_right _ List.mem_cons_self)
      have hs2 := step_mask (s := s) h1 (nodup_pre hv.n eq)
      have hc6 : c.1 < 6 := by omega
      have hgc : gDivW ((2 ^ c.1 : Nat) : Int) := gDivW2 (show c.1 ≤ 6 by omega)
      have h2k : 2 ^ c.1 ≤ 2 ^ 6 := Nat.pow_le_pow_right (by decide) (by omega)
      have hp := Nat.two_pow_pos c.1
      have z1 : (zD m c).1 = (c.1 : Int) := rfl
      have z2 : (zD m c).2.2 = ((mask (2 ^ m) (ev c.2) : Nat) : Int) := rfl
      rw [z1, z2]
      refine W.grd (gPow1 (by omega)) ?_
      rw [shl1_nat]
      refine W.grd hgs (W.grd (gPow1 (by omega)) ?_)
      rw [shl1_nat]
      refine W.grd hgc (W.grd (gPow1 (by omega)) (W.grd (.inr ⟨by omega, by omega⟩) (W.lt ⟨p ++ [c], q, by rw [List.map_append]; rfl, by rw [eq, List.append_assoc]; rfl, ?_⟩)))
      rw [tb_div, tb_div, testBit_mask, decide_eq_true hs, Bool.true_and]
      cases he : ev c.2 s <;> cases hb : s.testBit c.1 <;> rw [he, hb] at hs2 <;> simp only [Bool.false_eq_true, if_true, if_false] at hs2 ⊢ <;> omega
  · rintro _ ⟨p, q, e, eq, rfl⟩
    have : p = v.2 := by
      have hl := congrArg List.length e
      rw [List.length_map, List.length_map, eq, List.length_append] at hl
      have : q = [] := List.eq_nil_of_length_eq_zero (by omega)
      rw [eq, this, List.append_nil]
    rw [this]; rfl
def litL (m : Nat) (cs : List Chg) : List (Int × Int) := cs.map fun c => ((c.1 : Int), ((crF m c.2 : Nat) : Int))
theorem from_all {m : Nat} {v : Mv} (hm : m ≤ 6) (hv : okV m v) : m_Move_onward_from_all (oM v) (m : Int) = some (tab (2 ^ m) (onw m v.2)) := by
  have h64 := le64 hm
  refine W.got ?_
  unfold m_Move_onward_from_all oM
  have key : ∀ (q p : List Chg), p.length + q.length ≤ 1000 → (∀ c ∈ q, okF m c.2 ∧ dep c.2 < 100) → forO (fun (x15 : Int × O_Formula) (lit27 : List (Int × Int)) =>
      (m_D_Formula_crowd x15.2 (m : Int)).bind fun v40 =>
      grd (lit27.length < 16777216) <|
      lt (lit27 ++ [(x15.1, v40)]) fun l48 =>
      some l48) (q.map zC) (litL m p) = some (litL m (p ++ q)) := by
    intro q
    induction q with
    | nil => intro p _ _; rw [List.map_nil, forO_nil, List.append_nil]
    | cons c q ih =>
      intro p hl hc
      rw [List.length_cons] at hl
      obtain ⟨a, b⟩ := hc c List.mem_cons_self
      have ec : m_D_Formula_crowd (zC c).2 (m : Int) = some ((crF m c.2 : Nat) : Int) := crowdF_eq hm b a
      have hll : (litL m p).length < 16777216 := by unfold litL; rw [List.length_map]; omega
      rw [List.map_cons, forO_cons, bind_eq ec, grd_of hll, lt_eq, sb]
      have e : litL m p ++ [((zC c).1, ((crF m c.2 : Nat) : Int))] = litL m (p ++ [c]) := by unfold litL; rw [List.map_append]; rfl
      rw [e, ih _ (by rw [List.length_append]; simp; omega) fun d hd => hc d (List.mem_cons_of_mem _ hd), List.append_assoc]
      rfl
  have k0 := key v.2 [] (by have := hv.l; simp; omega) fun c hc => (hv.c c hc).2
  rw [List.nil_append] at k0
  have k1 : forO (fun (x15 : Int × O_Formula) (lit27 : List (Int × Int)) =>
      (m_D_Formula_crowd x15.2 (m : Int)).bind fun v40 =>
      grd (lit27.length < 16777216) <|
      lt (lit27 ++ [(x15.1, v40)]) fun l48 =>
      some l48) (v.2.map zC) ([] : List (Int × Int)) = some (litL m v.2) := k0
  rw [bind_eq k1]
  refine W.grd (gPow1 (by omega)) ?_
  rw [shl1_nat]
  refine W.grd (gR_2 hm) ?_
  rw [Int.toNat_natCast]
  refine W.some' (W.as (W.for_r (fun k t => t = tab k (onw m v.2)) rfl ?_) fun t ht => ht)
  rintro s _ hs rfl
  refine W.bind (P := fun t => t = ((onw m v.2 s : Nat) : Int)) (W.as (W.for_pre (fun pre t => ∃ p q : List Chg, pre = litL m p ∧ v.2 = p ++ q ∧ t = ((mask m (newbit p s) : Nat) : Int)) ⟨[], v.2, rfl, rfl, congrArg _ (mask_start hs)⟩ ?_) ?_) ?_
  · rintro pre x suf _ e ⟨p, q, rfl, eq, rfl⟩
    rw [eq] at e
    unfold litL at e
    rw [List.map_append] at e
    have e := List.append_cancel_left e
    cases q with
    | nil => cases e
    | cons c q =>
      rw [List.map_cons] at e
      injection e with e1 e2
      subst e1
      obtain ⟨h1, h2, h3⟩ := hv.c c (by rw [eq]; exact List.mem_append_right _ List.mem_cons_self)
      have hs2 := step_mask (s := s) h1 (nodup_pre hv.n eq)
      have hp1 : 2 ^ c.1 < 2 ^ m := pow_lt2 h1
      show OP (Z.grd ((0 : Int) ≤ (c.1 : Int)) (Z.grd ((0 : Int) ≤ (s : Int)) (ifo (!(decide ((band (shr (s : Int) (c.1 : Int)) 1) = (band (shr ((crF m c.2 : Nat) : Int) (s : Int)) 1)))) (Z.grd (gPow 1 (c.1 : Int)) (Z.lt (bxor ((mask m (newbit p s) : Nat) : Int) (shl 1 (c.1 : Int))) fun there109 => some there109)) (some ((mask m (newbit p s) : Nat) : Int))))) _
      refine W.grd (by omega) (W.grd (by omega) ?_)
      have bit : ∀ a k : Nat, band (shr (a : Int) (k : Int)) 1 = if a.testBit k = true then 1 else 0 := fun a k => by
        have h := asks1 a k
        have h3 : band (((a >>> k : Nat)) : Int) 1 = ((a >>> k &&& 1 : Nat) : Int) := band_nat _ 1
        rw [shr_nat, h3] at h ⊢
        have h4 : a >>> k &&& 1 ≤ 1 := Nat.and_le_right
        cases hq : a.testBit k with
        | true => rw [hq] at h; rw [if_pos rfl]; exact of_decide_eq_true h
        | false => rw [hq] at h; rw [if_neg Bool.false_ne_true]; have := of_decide_eq_false h; omega
      have ecr : (crF m c.2).testBit s = ev c.2 s := by unfold crF; rw [testBit_mask, decide_eq_true hs, Bool.true_and]
      rw [bit, bit, ecr]
      have fin : ∀ t : Nat, t = mask m (newbit (p ++ [c]) s) → ∃ p_1 q_1 : List Chg, litL m p ++ [((c.1 : Int), ((crF m c.2 : Nat) : Int))] = litL m p_1 ∧ v.2 = p_1 ++ q_1 ∧ (t : Int) = ((mask m (newbit p_1 s) : Nat) : Int) := fun t ht =>
        ⟨p ++ [c], q, by unfold litL; rw [List.map_append]; rfl, by rw [eq, List.append_assoc]; rfl, by rw [ht]⟩
      have xorfin : ev c.2 s ≠ s.testBit c.1 → mask m (newbit p s) ^^^ 2 ^ c.1 = mask m (newbit (p ++ [c]) s) := fun hne => mask_ext (xor_lt (mask_lt _ _) hp1) fun i hi => by
        rw [newbit_snoc, Nat.testBit_xor, Nat.testBit_two_pow, testBit_mask, decide_eq_true hi, Bool.true_and]
        by_cases hi2 : c.1 = i
        · subst hi2
          rw [decide_eq_true rfl, if_pos rfl, newbit_not (nodup_pre hv.n eq)]
          revert hne
          cases ev c.2 s <;> cases s.testBit c.1 <;> simp
        · rw [decide_eq_false hi2, if_neg hi2, Bool.xor_false]
      have same : ev c.2 s = s.testBit c.1 → mask m (newbit p s) = mask m (newbit (p ++ [c]) s) := fun he => mask_congr fun i hi => by
        rw [newbit_snoc]
        by_cases hi2 : c.1 = i
        · subst hi2
          rw [if_pos rfl, newbit_not (nodup_pre hv.n eq), he]
        · rw [if_neg hi2]
      by_cases he : ev c.2 s = s.testBit c.1
      · rw [he, decide_eq_true rfl, ifo_nt]
        exact fin _ (same he)
      · have : (!decide ((if s.testBit c.1 = true then (1 : Int) else 0) = if ev c.2 s = true then 1 else 0)) = true := by
          revert he
          cases ev c.2 s <;> cases s.testBit c.1 <;> simp
        rw [ifo_t this]
        refine W.grd (gPow1 (by omega)) (W.lt ?_)
        show OP (some (bxor ((mask m (newbit p s) : Nat) : Int) (shl 1 (c.1 : Int)))) _
        rw [shl1_nat, bxor_nat]
        exact fin _ (xorfin he)
  · rintro _ ⟨p, q, e, eq, rfl⟩
    have : p = v.2 := by
      have hl := congrArg List.length e
      unfold litL at hl
      rw [List.length_map, List.length_map, eq, List.length_append] at hl
      have : q = [] := List.eq_nil_of_length_eq_zero (by omega)
      rw [eq, this, List.append_nil]
    rw [this]; rfl
  · rintro _ rfl
    refine W.grd (by rw [tab_len]; omega) (W.lt ?_)
    show _ = tab (s + 1) (onw m v.2)
    unfold tab
    rw [List.range_succ, List.map_append]; rfl
end B

namespace B
open PySem Z E L2
/-! ### the chart of a machine -/
def ledBy (m : Nat) (ms : List Mv) (s : Nat) : Nat := orAll (fun x => x) ((ms.filter fun v => ev v.1 s).map fun v => 2 ^ onw m v.2 s)
theorem ledBy_nil (m s : Nat) : ledBy m [] s = 0 := rfl
theorem ledBy_snoc (m : Nat) (ms : List Mv) (v : Mv) (s : Nat) : ledBy m (ms ++ [v]) s = if ev v.1 s = true then ledBy m ms s ||| 2 ^ onw m v.2 s else ledBy m ms s := by
  unfold ledBy
  rw [List.filter_append, List.map_append, orAll_app]
  cases h : ev v.1 s with
  | true => rw [List.filter_cons, h, if_pos rfl, if_pos rfl]; exact congrArg _ (Nat.or_zero _)
  | false => rw [List.filter_cons, h, if_neg Bool.false_ne_true, if_neg Bool.false_ne_true]; exact Nat.or_zero _
theorem onw_lt (m : Nat) (cs : List Chg) (s : Nat) : onw m cs s < 2 ^ m := mask_lt _ _
theorem ledBy_lt (m : Nat) (ms : List Mv) (s : Nat) : ledBy m ms s < 2 ^ 2 ^ m := by
  unfold ledBy
  refine orAll_lt fun x hx => ?_
  obtain ⟨v, _, rfl⟩ := List.mem_map.mp hx
  exact pow_lt2 (onw_lt m v.2 s)
theorem ledBy_rev (m : Nat) (ms : List Mv) (s : Nat) : ledBy m ms.reverse s = ledBy m ms s := by
  apply Nat.eq_of_testBit_eq
  intro i
  unfold ledBy
  rw [testBit_orAll, testBit_orAll, Bool.eq_iff_iff, List.any_eq_true, List.any_eq_true]
  constructor
  · rintro ⟨x, hx, h⟩
    obtain ⟨v, hv, rfl⟩ := List.mem_map.mp hx
    rw [List.mem_filter, List.mem_reverse] at hv
    exact ⟨_, List.mem_map.mpr ⟨v, List.mem_filter.mpr hv, rfl⟩, h⟩
  · rintro ⟨x, hx, h⟩
    obtain ⟨v, hv, rfl⟩ := List.mem_map.mp hx
    rw [List.mem_filter] at hv
    exact ⟨_, List.mem_map.mpr ⟨v, List.mem_filter.mpr ⟨List.mem_reverse.mpr hv.1, hv.2⟩, rfl⟩, h⟩
theorem after_law {m s : Nat} {ms : List Mv} (hm : m ≤ 6) (hs : s < 2 ^ m) (hv : ∀ v ∈ ms, okV m v) : m__law_after (s : Int) (ms.map (zM m)) = some ((ledBy m ms s : Nat) : Int) := by
  have h64 := le64 hm
  have hgs : gDivW ((2 ^ s : Nat) : Int) := gDivW_nat (Nat.two_pow_pos s) (pow_lt2 (by omega))
  refine W.got ?_
  unfold m__law_after
  have key : ∀ (q p : List Mv), (∀ v ∈ q, okV m v) → OP (forO (fun (x5 : (O_Formula × Int) × List (Int × (O_Formula × Int))) (crowd14 : Int) =>
      grd (gPow 1 (s : Int)) <|
      grd (gDivW (shl 1 (s : Int))) <|
      ifo (decide (((x5.1.2 / (shl 1 (s : Int))) % 2) = 1)) (
      (m__law_onward (s : Int) x5.2).bind fun v28 =>
      grd (gPow 1 v28) <|
      some (bor crowd14 (shl 1 v28))) (
      some crowd14)) (q.map (zM m)) ((ledBy m p s : Nat) : Int)) (· = ((ledBy m (p ++ q) s : Nat) : Int)) := by
    intro q
    induction q with
    | nil => intro p _; rw [List.map_nil, forO_nil, List.append_nil]; exact rfl
    | cons v q ih =>
      intro p hq
      have ov := hq v List.mem_cons_self
      rw [List.map_cons, forO_cons, grd_of (gPow1 (by omega)), shl1_nat, grd_of hgs]
      have z1 : (zM m v).1.2 = ((mask (2 ^ m) (ev v.1) : Nat) : Int) := rfl
      have z2 : (zM m v).2 = v.2.map (zD m) := rfl
      rw [z1, z2, tb_div1, testBit_mask, decide_eq_true hs, Bool.true_and]
      have hn := ledBy_snoc m p v s
      have fin := ih (p ++ [v]) fun w hw => hq w (List.mem_cons_of_mem _ hw)
      rw [List.append_assoc, shl1_nat] at fin
      have ho := onw_lt m v.2 s
      cases he : ev v.1 s with
      | true =>
        rw [he, if_pos rfl] at hn
        rw [ifo_tt, bind_eq (onward_law hm hs ov), grd_of (gPow1 (by omega)), shl1_nat, bor_nat, sb, ← hn]
        exact fin
      | false =>
        rw [he, if_neg Bool.false_ne_true] at hn
        rw [ifo_ff, sb, ← hn]
        exact fin
  have k0 := key ms [] hv
  rw [List.nil_append] at k0
  exact W.some' k0
def crowdOf (m : Nat) (xs : List O_Formula) : Nat := orAll (fun x => x) (xs.map (crF m))
theorem crowdOf_lt (m : Nat) (xs : List O_Formula) : crowdOf m xs < 2 ^ 2 ^ m := by
  unfold crowdOf
  refine orAll_lt fun x hx => ?_
  obtain ⟨v, _, rfl⟩ := List.mem_map.mp hx
  exact crF_lt m v
theorem any_law {m : Nat} (xs : List O_Formula) : m__law_any (xs.map (zP m)) = some ((crowdOf m xs : Nat) : Int) := by
  unfold m__law_any
  have key : ∀ (q : List O_Formula) (a : Nat), forO (fun (pair4 : O_Formula × Int) (crowd13 : Int) =>
      lt (bor crowd13 pair4.2) fun crowd18 =>
      some crowd18) (q.map (zP m)) (a : Int) = some ((a ||| crowdOf m q : Nat) : Int) := by
    intro q
    induction q with
    | nil => intro a; rw [List.map_nil, forO_nil]; exact congrArg (fun x : Nat => some (x : Int)) (Nat.or_zero a).symm
    | cons x q ih =>
      intro a
      have z : (zP m x).2 = ((crF m x : Nat) : Int) := rfl
      rw [List.map_cons, forO_cons, lt_eq, z, bor_nat, sb, ih]
      unfold crowdOf
      rw [List.map_cons, Nat.or_assoc]; rfl
  have k0 := key xs 0
  rw [Nat.zero_or] at k0
  have k1 : forO (fun (pair4 : O_Formula × Int) (crowd13 : Int) =>
      lt (bor crowd13 pair4.2) fun crowd18 =>
      some crowd18) (xs.map (zP m)) 0 = some ((crowdOf m xs : Nat) : Int) := k0
  rw [bind_eq k1]
theorem any_of_eq {m : Nat} (hm : m ≤ 6) {M : O_Machine} (hl : M.names.length = m) {xs : List O_Formula} (hx : ∀ x ∈ xs, okF m x ∧ dep x < 100) : m_Machine_any_of M xs = some ((crowdOf m xs : Nat) : Int) := by
  unfold m_Machine_any_of
  rw [hl]
  have key : ∀ (q : List O_Formula) (a : Nat), (∀ x ∈ q, okF m x ∧ dep x < 100) → forO (fun (formula7 : O_Formula) (found16 : Int) =>
      (m_D_Formula_crowd formula7 (m : Int)).bind fun v22 =>
      lt (bor found16 v22) fun found23 =>
      some found23) q (a : Int) = some ((a ||| crowdOf m q : Nat) : Int) := by
    intro q
    induction q with
    | nil => intro a _; rw [forO_nil]; exact congrArg (fun x : Nat => some (x : Int)) (Nat.or_zero a).symm
    | cons x q ih =>
      intro a h
      obtain ⟨o, d⟩ := h x List.mem_cons_self
      rw [forO_cons, bind_eq (crowdF_eq hm d o), lt_eq, bor_nat, sb, ih _ fun y hy => h y (List.mem_cons_of_mem _ hy)]
      unfold crowdOf
      rw [List.map_cons, Nat.or_assoc]; rfl
  have k0 := key xs 0 hx
  rw [Nat.zero_or] at k0
  have k1 : forO (fun (formula7 : O_Formula) (found16 : Int) =>
      (m_D_Formula_crowd formula7 (m : Int)).bind fun v22 =>
      lt (bor found16 v22) fun found23 =>
      some found23) xs 0 = some ((crowdOf m xs : Nat) : Int) := k0
  rw [bind_eq k1]
theorem machine_chart {m : Nat} (h1 : 1 ≤ m) (hm : m ≤ 6) {names : List Str} {sts bds : List O_Formula} {ms : List Mv} (hl : names.length = m) (hs : ∀ x ∈ sts, okF m x ∧ dep x < 100) (hb : ∀ x ∈ bds, okF m x ∧ dep x < 100) (hv : ∀ v ∈ ms, okV m v) :
    m_Machine_chart (O_Machine.mk names sts bds (ms.map oM)) = some (chN m (crowdOf m sts) (crowdOf m bds) (ledBy m ms)) := by
  have h64 := le64 hm
  refine W.got ?_
  unfold m_Machine_chart
  show OP (Z.lt (names.length : Int) fun many5 => _) _
  rw [hl]
  refine W.lt (W.grd (gPow1 (by omega)) ?_)
  rw [shl1_nat]
  refine W.grd (gR_2 hm) ?_
  rw [Int.toNat_natCast, bind_eq (comp_zero (by omega))]
  have key : ∀ (q p : List Mv), (∀ v ∈ q, okV m v) → OP (forO (fun (move22 : O_Move) (after34 : List Int) =>
      (m_D_Formula_crowd move22.guard (m : Int)).bind fun v46 =>
      (m_Move_onward_from_all move22 (m : Int)).bind fun v47 =>
      (forO (fun (x66 : Int × Int) (after78 : List Int) =>
      grd (0 ≤ x66.1) <|
      ifo (decide ((band (shr v46 x66.1) 1) = 1)) (
      (atI after78 x66.1).bind fun i90 =>
      grd (gPow 1 x66.2) <|
      (setI after78 x66.1 (bor i90 (shl 1 x66.2))).bind fun l92 =>
      some l92) (
      some after78)) (enumI v47) after34).bind (fun after78 =>
      some after78)) (q.map oM) (tab (2 ^ m) (ledBy m p))) (· = tab (2 ^ m) (ledBy m (p ++ q))) := by
    intro q
    induction q with
    | nil => intro p _; rw [List.map_nil, forO_nil, List.append_nil]; exact rfl
    | cons v q ih =>
      intro p hq
      have ov := hq v List.mem_cons_self
      have z : (oM v).guard = v.1 := rfl
      rw [List.map_cons, forO_cons, z]
      refine W.bind (P := fun t => t = tab (2 ^ m) (ledBy m (p ++ [v]))) ?_ ?_
      · rw [bind_eq (crowdF_eq hm ov.g.2 ov.g.1), bind_eq (from_all hm ov), enumI_tab]
        refine W.some' (W.as (W.for_map (fun i t => t = tab (2 ^ m) fun s => if s < i then ledBy m (p ++ [v]) s else ledBy m p s) ?_ ?_) ?_)
        · exact tab_ext fun i _ => by rw [if_neg (Nat.not_lt_zero i)]
        · rintro i _ hi rfl
          have ho := onw_lt m v.2 i
          have ecr : (crF m v.1).testBit i = ev v.1 i := by unfold crF; rw [testBit_mask, decide_eq_true hi, Bool.true_and]
          refine W.grd (by show (0 : Int) ≤ (i : Int); omega) ?_
          show OP (ifo (decide ((band (shr ((crF m v.1 : Nat) : Int) (i : Int)) 1) = 1)) _ _) _
          rw [asks1, ecr]
          have hn := ledBy_snoc m p v i
          cases he : ev v.1 i with
          | false =>
            rw [he, if_neg Bool.false_ne_true] at hn
            rw [ifo_ff]
            exact tab_ext fun s _ => by
              show (if s < i then ledBy m (p ++ [v]) s else ledBy m p s) = _
              by_cases q1 : s < i
              · rw [if_pos q1, if_pos (by omega)]
              · by_cases q2 : s = i
                · rw [if_neg q1, if_pos (by omega), q2, hn]
                · rw [if_neg q1, if_neg (by omega)]
          | true =>
            rw [he, if_pos rfl] at hn
            rw [ifo_tt]
            show OP ((atI (tab (2 ^ m) _) (i : Int)).bind fun i90 => Z.grd (gPow 1 ((onw m v.2 i : Nat) : Int)) ((setI (tab (2 ^ m) _) (i : Int) (bor i90 (shl 1 ((onw m v.2 i : Nat) : Int)))).bind fun l92 => some l92)) _
            rw [bind_eq (atI_tab hi), if_neg (Nat.lt_irrefl i), shl1_nat, bor_nat]
            refine W.grd (gPow1 (by omega)) (W.eq (setI_tab hi) ?_)
            exact tab_ext fun s _ => by
              show (if s = i then ledBy m p i ||| 2 ^ onw m v.2 i else if s < i then ledBy m (p ++ [v]) s else ledBy m p s) = _
              by_cases q2 : s = i
              · rw [if_pos q2, if_pos (by omega), q2, hn]
              · rw [if_neg q2]
                by_cases q1 : s < i
                · rw [if_pos q1, if_pos (by omega)]
                · rw [if_neg q1, if_neg (by omega)]
        · rintro _ rfl
          exact tab_ext fun s hs => by rw [if_pos hs]
      · rintro _ rfl
        have fin := ih (p ++ [v]) fun w hw => hq w (List.mem_cons_of_mem _ hw)
        rw [List.append_assoc] at fin
        exact fin
  have k0 := key ms [] hv
  rw [List.nil_append] at k0
  refine W.bind (W.as k0 fun t ht => ht) ?_
  rintro _ rfl
  rw [bind_eq (any_of_eq hm (M := O_Machine.mk names sts bds (ms.map oM)) hl hs), bind_eq (any_of_eq hm (M := O_Machine.mk names sts bds (ms.map oM)) hl hb), bind_eq (chart_eq ⟨h1, hm, crowdOf_lt m sts, crowdOf_lt m bds, fun s _ => ledBy_lt m ms s⟩)]
  exact rfl
theorem tells_eq {m : Nat} {f : Nat → Nat} {sts bds : List O_Formula} {ms : List Mv} (hm : m ≤ 6) (hv : ∀ v ∈ ms, okV m v) (hf : ∀ s, s < 2 ^ m → f s = ledBy m ms s) :
    m__law_tells (chN m (crowdOf m sts) (crowdOf m bds) f) (m : Int) (sts.map (zP m)) (bds.map (zP m)) (ms.map (zM m)) = some true := by
  have h64 := le64 hm
  have num : ∀ a : Int, m__law_number a a = some true := fun a => by unfold m__law_number; rw [decide_eq_true rfl]; rfl
  have z1 : (chN m (crowdOf m sts) (crowdOf m bds) f).many = (m : Int) := rfl
  have z2 : (chN m (crowdOf m sts) (crowdOf m bds) f).starts = ((crowdOf m sts : Nat) : Int) := rfl
  have z3 : (chN m (crowdOf m sts) (crowdOf m bds) f).bads = ((crowdOf m bds : Nat) : Int) := rfl
  have z4 : is_Chart_Chart (chN m (crowdOf m sts) (crowdOf m bds) f) = true := rfl
  refine W.got ?_
  unfold m__law_tells
  rw [z1, z2, z3, z4, ifo_nt, bind_eq (num _), nt, sb, ifo_ff, bind_eq (any_law sts), bind_eq (num _), nt, ifo_ff, bind_eq (any_law bds), bind_eq (num _), nt, sb, ifo_ff]
  refine W.grd (gPow1 (by omega)) ?_
  rw [shl1_nat]
  refine W.grd (gR_2 hm) ?_
  rw [Int.toNat_natCast]
  refine W.brk (W.forR_r (fun _ _ => True) _ trivial ?_) fun _ _ => rfl
  rintro s _ hs _
  refine W.grd (gPow1 (by omega)) ?_
  have e : orAll f (bitsL (2 ^ m) (2 ^ s)) = ledBy m ms s := by rw [bitsL_pow hs, orAll_one, hf s hs]
  rw [shl1_nat, bind_eq (ahead_eq hm (pow_lt2 hs)), e, bind_eq (after_law hm hs hv), bind_eq (num _), ifo_nt]
  exact trivial
end B

namespace B
open PySem Z E L2
/-! ### what is picked -/
instance : Inhabited O_Formula := ⟨.Sure true⟩
theorem pick_list {m : Nat} {ps : List O_Formula} : ∀ {ys : List (O_Formula × Int)}, (∀ y ∈ ys, ∃ q ∈ ps, y = zP m q) → ∃ qs : List O_Formula, ys = qs.map (zP m) ∧ ∀ q ∈ qs, q ∈ ps
  | [], _ => ⟨[], rfl, fun q h => by cases h⟩
  | y :: ys, h => by
    obtain ⟨q, hq, rfl⟩ := h y List.mem_cons_self
    obtain ⟨qs, rfl, hqs⟩ := pick_list fun z hz => h z (List.mem_cons_of_mem _ hz)
    exact ⟨q :: qs, rfl, fun z hz => by
      rcases List.mem_cons.mp hz with e | hz
      · rw [e]; exact hq
      · exact hqs z hz⟩
theorem at_pile {m : Nat} {ps : List O_Formula} (hne : ps ≠ []) (v : Int) : ∃ q ∈ ps, atI (ps.map (zP m)) (v % ((ps.map (zP m)).length : Int)) = some (zP m q) := by
  have hl0 : 0 < ps.length := List.length_pos_iff.mpr hne
  rw [List.length_map]
  obtain ⟨i, hi, ei⟩ := mod_nat v hl0
  exact ⟨ps[i], List.getElem_mem hi, by rw [ei, atI_nat' (by rw [List.length_map]; exact hi), List.getElem_map]⟩
theorem len_pile {m : Nat} {ps : List O_Formula} (hne : ps ≠ []) : (0 : Int) < ((ps.map (zP m)).length : Int) := by
  have hl0 : 0 < ps.length := List.length_pos_iff.mpr hne
  rw [List.length_map]; omega
theorem picked_ok {m n : Nat} {ps : List O_Formula} (hne : ps ≠ []) (hn : n ≤ 8) (v st : Int) (hst : 0 ≤ st ∧ st ≤ 10) : ∃ qs : List O_Formula, m__law_picked (ps.map (zP m)) (n : Int) v st = some (qs.map (zP m)) ∧ ∀ q ∈ qs, q ∈ ps := by
  suffices hs : OP (m__law_picked (ps.map (zP m)) (n : Int) v st) fun r => ∃ qs : List O_Formula, r = qs.map (zP m) ∧ ∀ q ∈ qs, q ∈ ps by
    obtain ⟨r, e, qs, rfl, h⟩ := OP.get hs
    exact ⟨qs, e, h⟩
  unfold m__law_picked
  refine W.grd (gR_nat (by omega)) ?_
  rw [Int.toNat_natCast]
  refine W.bind (W.comp (fun _ y => ∃ q ∈ ps, y = zP m q) (by rw [rangeI_len]; omega) ?_) ?_
  · intro x hx
    obtain ⟨k, hk, rfl⟩ := mem_rangeI hx
    obtain ⟨q, hq, e⟩ := at_pile (m := m) hne (v + st * (k : Int))
    refine W.grd (.inl ⟨by omega, by omega⟩) (W.grd (len_pile hne) ?_)
    rw [bind_eq e]
    exact ⟨_, rfl, q, hq, rfl⟩
  · rintro _ ⟨g, rfl, hg⟩
    refine pick_list fun y hy => ?_
    obtain ⟨x, hx, rfl⟩ := List.mem_map.mp hy
    exact hg x hx
/-- what is asked of the moves that are made -/
def okMs (m : Nat) (ms : List Mv) : Prop := (∀ v ∈ ms, okV m v) ∧ ms.length ≤ 8
theorem mod_inj {m i j : Nat} (a : Int) (hi : i < m) (hj : j < m) (h : (a + (i : Int)) % (m : Int) = (a + (j : Int)) % (m : Int)) : i = j := by
  have h2 : ((a + (i : Int)) - (a + (j : Int))) % (m : Int) = 0 := Int.emod_eq_emod_iff_emod_sub_eq_zero.mp h
  have h3 : (a + (i : Int)) - (a + (j : Int)) = (i : Int) - (j : Int) := by omega
  rw [h3] at h2
  obtain ⟨q, hq⟩ := Int.dvd_of_emod_eq_zero h2
  have hm : (0 : Int) < (m : Int) := by omega
  rcases Int.lt_trichotomy q 0 with hq0 | hq0 | hq0
  · have : (m : Int) * q ≤ (m : Int) * (-1) := Int.mul_le_mul_of_nonneg_left (by omega) (by omega)
    omega
  · rw [hq0] at hq; omega
  · have : (m : Int) * 1 ≤ (m : Int) * q := Int.mul_le_mul_of_nonneg_left (by omega) (by omega)
    omega
theorem moves_ok {m n : Nat} (h1 : 1 ≤ m) (hm : m ≤ 6) {ps : List O_Formula} (hne : ps ≠ []) (hps : ∀ p ∈ ps, okF m p ∧ dep p < 100) (hn : n ≤ 8) (v : Int) : ∃ ms : List Mv, m__law_moves (ps.map (zP m)) (m : Int) (n : Int) v = some (ms.map (zM m)) ∧ okMs m ms := by
  suffices hs : OP (m__law_moves (ps.map (zP m)) (m : Int) (n : Int) v) fun r => ∃ ms : List Mv, r = ms.map (zM m) ∧ okMs m ms by
    obtain ⟨r, e, qs, rfl, h⟩ := OP.get hs
    exact ⟨qs, e, h⟩
  have hm0 : (0 : Int) < (m : Int) := by omega
  unfold m__law_moves
  refine W.grd (gR_nat (by omega)) ?_
  rw [Int.toNat_natCast]
  refine W.some' (W.as (W.for_r (fun k s => ∃ ms : List Mv, s = ms.map (zM m) ∧ (∀ v ∈ ms, okV m v) ∧ ms.length = k) ⟨[], rfl, fun v h => (by cases h), rfl⟩ ?_) ?_)
  · rintro k _ hk ⟨ms, rfl, hv, hml⟩
    obtain ⟨d, hd, ed⟩ := mod_nat (v + 5 * (k : Int)) (n := m) (by omega)
    rw [ed]
    refine W.grd hm0 (W.grd ⟨by omega, by omega⟩ ?_)
    rw [show (1 : Int) + (d : Int) = ((d + 1 : Nat) : Int) by omega, Int.toNat_natCast]
    refine W.bind (W.for_r (fun j s => ∃ cs : List Chg, s = cs.map (zD m) ∧ cs.length = j ∧ (∀ c ∈ cs, c.1 < m ∧ okF m c.2 ∧ dep c.2 < 100) ∧ (cs.map (·.1)).Nodup ∧ ∀ c ∈ cs, ∃ i : Nat, i < j ∧ (c.1 : Int) = (v / 6 + (k : Int) + (i : Int)) % (m : Int)) ⟨[], rfl, rfl, fun c h => by (cases h), List.nodup_nil, fun c h => by (cases h)⟩ ?_) ?_
    · rintro j _ hj ⟨cs, rfl, hcl, hc, hnd, hix⟩
      obtain ⟨l, hl, el⟩ := mod_nat (v / 6 + (k : Int) + (j : Int)) (n := m) (by omega)
      obtain ⟨q, hq, eq⟩ := at_pile (m := m) hne (v / 36 + 3 * (k : Int) + 2 * (j : Int))
      refine W.grd hm0 (W.lt (W.grd (len_pile hne) ?_))
      rw [bind_eq eq, el]
      refine W.grd (by rw [List.length_map]; omega) (W.lt ⟨cs ++ [(l, q)], by rw [List.map_append]; rfl, by rw [List.length_append, hcl]; rfl, fun c h => ?_, ?_, fun c h => ?_⟩)
      · rcases List.mem_append.mp h with h | h
        · exact hc c h
        · rw [List.mem_singleton.mp h]; exact ⟨hl, hps q hq⟩
      · rw [List.map_append, List.nodup_append]
        refine ⟨hnd, by simp, ?_⟩
        intro a ha b hb2
        obtain ⟨c, hcm, rfl⟩ := List.mem_map.mp ha
        rw [List.map_cons, List.map_nil, List.mem_singleton] at hb2
        rw [hb2]
        intro he
        obtain ⟨i, hi, ei⟩ := hix c hcm
        have he2 : c.1 = l := he
        rw [he2, ← el] at ei
        have := mod_inj (m := m) (v / 6 + (k : Int)) (i := j) (j := i) (by omega) (by omega) ei
        omega
      · rcases List.mem_append.mp h with h | h
        · obtain ⟨i, hi, ei⟩ := hix c h
          exact ⟨i, by omega, ei⟩
        · rw [List.mem_singleton.mp h]; exact ⟨j, by omega, el.symm⟩
    · rintro _ ⟨cs, rfl, hcl, hc, hnd, _⟩
      obtain ⟨q, hq, eq⟩ := at_pile (m := m) hne (v / 216 + 5 * (k : Int))
      refine W.grd (len_pile hne) ?_
      rw [bind_eq eq]
      refine W.grd (by rw [List.length_map]; omega) (W.lt ⟨ms ++ [(q, cs)], by rw [List.map_append]; rfl, fun v h => ?_, by rw [List.length_append, hml]; rfl⟩)
      rcases List.mem_append.mp h with h | h
      · exact hv v h
      · rw [List.mem_singleton.mp h]
        exact ⟨hps q hq, hc, hnd, by show cs.length ≤ 6; omega⟩
  · rintro _ ⟨ms, rfl, hv, hml⟩
    exact ⟨ms, rfl, hv, by omega⟩
/-! ### digits of a bag -/
theorem digit_eq {n : Nat} (h0 : 0 < n) (hn : n < 1000000) (b : Int) : ∃ (k : Nat) (c : Int), k < n ∧ m__law_digit [b] (n : Int) = some ((k : Int), [c]) := by
  obtain ⟨k, hk, ek⟩ := mod_nat b h0
  have a0 : atI [b] 0 = some b := L2.atI_nat (j := 0) rfl
  have s0 : setI [b] 0 (b / (n : Int)) = some [b / (n : Int)] := setI_nat (k := 0) Nat.zero_lt_one
  refine ⟨k, b / (n : Int), hk, ?_⟩
  unfold m__law_digit
  rw [bind_eq a0, grd_of (by omega), lt_eq, ek, bind_eq a0, grd_of (gDivW_nat h0 (Nat.lt_of_lt_of_le hn (by decide))), bind_eq s0]
theorem any_picked_ok {m : Nat} {ps : List O_Formula} (hne : ps ≠ []) (hl : ps.length ≤ 1000) (b : Int) : ∃ (qs : List O_Formula) (c : Int), m__law_any_picked (ps.map (zP m)) [b] = some (qs.map (zP m), [c]) ∧ (∀ q ∈ qs, q ∈ ps) ∧ qs.length ≤ 1000 := by
  suffices hs : OP (m__law_any_picked (ps.map (zP m)) [b]) fun r => ∃ (qs : List O_Formula) (c : Int), r = (qs.map (zP m), [c]) ∧ (∀ q ∈ qs, q ∈ ps) ∧ qs.length ≤ 1000 by
    obtain ⟨r, e, qs, c, rfl, h⟩ := OP.get hs
    exact ⟨qs, c, e, h⟩
  have hl0 : 0 < ps.length := List.length_pos_iff.mpr hne
  obtain ⟨n, c0, hn, en⟩ := digit_eq (n := 9) (by decide) (by decide) b
  have en' : m__law_digit [b] 9 = some ((n : Int), [c0]) := en
  unfold m__law_any_picked
  rw [bind_eq en']
  refine W.grd (gR_nat (by omega)) ?_
  rw [Int.toNat_natCast]
  refine W.bind (W.for_r (fun k s => ∃ (qs : List O_Formula) (c : Int), s = (qs.map (zP m), [c]) ∧ qs.length = k ∧ ∀ q ∈ qs, q ∈ ps) ⟨[], c0, rfl, rfl, fun q h => by (cases h)⟩ ?_) ?_
  · rintro k _ hk ⟨qs, c, rfl, hql, hqs⟩
    obtain ⟨i, c2, hi, ei⟩ := digit_eq (n := ps.length) hl0 (by omega) c
    rw [un2_mk, List.length_map, bind_eq ei]
    have ai : atI (ps.map (zP m)) (i : Int) = some (zP m ps[i]) := by rw [atI_nat' (by rw [List.length_map]; exact hi), List.getElem_map]
    rw [bind_eq ai]
    refine W.grd (by rw [List.length_map]; omega) (W.lt ⟨qs ++ [ps[i]], c2, by rw [List.map_append]; rfl, by rw [List.length_append, hql]; rfl, fun q h => ?_⟩)
    rcases List.mem_append.mp h with h | h
    · exact hqs q h
    · rw [List.mem_singleton.mp h]; exact List.getElem_mem hi
  · rintro _ ⟨qs, c, rfl, hql, hqs⟩
    exact W.lt (W.lt ⟨qs, c, rfl, hqs, by omega⟩)
theorem er_map {α β : Type} (f : α → β) : ∀ (xs : List α) (k : Nat), (xs.map f).eraseIdx k = (xs.eraseIdx k).map f
  | [], _ => rfl
  | _ :: _, 0 => rfl
  | x :: xs, k + 1 => congrArg (f x :: ·) (er_map f xs k)
theorem pop_zL {xs : List Nat} {k : Nat} (h : k < xs.length) : popI (zL xs) (k : Int) = some ((xs[k] : Int), zL (xs.eraseIdx k)) := by
  unfold popI
  have e : seqIndex? (k : Int) (zL xs).length = some k := by
    unfold seqIndex?
    rw [zL_len]
    have h1 : ¬ ((k : Int) < 0) := by omega
    simp only [h1, if_false]
    rw [if_pos (by rw [Bool.and_eq_true, decide_eq_true_iff, decide_eq_true_iff]; omega), Int.toNat_natCast]
  have g : (zL xs)[k]? = some (xs[k] : Int) := by unfold zL; rw [List.getElem?_map, List.getElem?_eq_getElem h]; rfl
  rw [e]
  show ((zL xs)[k]?).map _ = _
  rw [g]
  show some (_, _) = some (_, _)
  unfold zL
  rw [er_map]
theorem not_mem_erase {xs : List Nat} (hn : xs.Nodup) {k : Nat} (h : k < xs.length) : xs[k] ∉ xs.eraseIdx k := by
  intro hm
  rw [List.eraseIdx_eq_take_drop_succ] at hm
  have e : xs = xs.take k ++ xs[k] :: xs.drop (k + 1) := by
    rw [← List.drop_eq_getElem_cons h, List.take_append_drop]
  have hn2 := hn
  rw [e, List.nodup_append] at hn2
  obtain ⟨_, h2, h3⟩ := hn2
  rw [List.nodup_cons] at h2
  rcases List.mem_append.mp hm with hm | hm
  · exact h3 _ hm _ List.mem_cons_self rfl
  · exact h2.1 hm
theorem any_moves_ok {m : Nat} (h1 : 1 ≤ m) (hm : m ≤ 6) {ps : List O_Formula} (hne : ps ≠ []) (hl : ps.length ≤ 1000) (hps : ∀ p ∈ ps, okF m p ∧ dep p < 100) (b : Int) : ∃ (ms : List Mv) (c : List Int), m__law_any_moves (ps.map (zP m)) (m : Int) [b] = some (ms.map (zM m), c) ∧ okMs m ms := by
  suffices hs : OP (m__law_any_moves (ps.map (zP m)) (m : Int) [b]) fun r => ∃ (ms : List Mv) (c : List Int), r = (ms.map (zM m), c) ∧ okMs m ms by
    obtain ⟨r, e, qs, c, rfl, h⟩ := OP.get hs
    exact ⟨qs, c, e, h⟩
  have hl0 : 0 < ps.length := List.length_pos_iff.mpr hne
  obtain ⟨n, c0, hn, en⟩ := digit_eq (n := 9) (by decide) (by decide) b
  have en' : m__law_digit [b] 9 = some ((n : Int), [c0]) := en
  have pick : ∀ c : Int, ∃ (q : O_Formula) (i : Nat) (c2 : Int), q ∈ ps ∧ m__law_digit [c] ((ps.map (zP m)).length : Int) = some ((i : Int), [c2]) ∧ atI (ps.map (zP m)) (i : Int) = some (zP m q) := fun c => by
    obtain ⟨i, c2, hi, ei⟩ := digit_eq (n := ps.length) hl0 (by omega) c
    exact ⟨ps[i], i, c2, List.getElem_mem hi, by rw [List.length_map]; exact ei, by rw [atI_nat' (by rw [List.length_map]; exact hi), List.getElem_map]⟩
  unfold m__law_any_moves
  rw [bind_eq en']
  refine W.grd (gR_nat (by omega)) ?_
  rw [Int.toNat_natCast]
  refine W.bind (W.for_r (fun k s => ∃ (ms : List Mv) (c : Int), s = ([c], ms.map (zM m)) ∧ (∀ v ∈ ms, okV m v) ∧ ms.length = k) ⟨[], c0, rfl, fun v h => by (cases h), rfl⟩ ?_) ?_
  · rintro k _ hk ⟨ms, c, rfl, hv, hml⟩
    obtain ⟨q, i, c2, hq, eq1, eq2⟩ := pick c
    obtain ⟨d, c3, hd, ed⟩ := digit_eq (n := m) (by omega) (by omega) c2
    rw [un2_mk, bind_eq eq1, bind_eq eq2]
    refine W.grd ⟨by omega, by omega⟩ ?_
    rw [bind_eq ed]
    refine W.grd ⟨by show -(2 ^ 62) ≤ 1 + (d : Int); omega, by show 1 + (d : Int) < 2 ^ 62; omega⟩ ?_
    show OP ((forO _ (rangeI 0 (Int.toNat (1 + (d : Int)))) _).bind _) _
    rw [show (1 : Int) + (d : Int) = ((d + 1 : Nat) : Int) by omega, Int.toNat_natCast]
    have erng : rangeI 0 m = zL (List.range m) := by rw [rangeI_tab]; rfl
    rw [erng]
    refine W.bind (W.for_r (fun j s => ∃ (cs : List Chg) (left : List Nat) (c : Int), s = ([c], zL left, cs.map (zD m)) ∧ cs.length = j ∧ left.length + j = m ∧ left.Nodup ∧ (∀ x ∈ left, x < m ∧ x ∉ cs.map (·.1)) ∧ (∀ c ∈ cs, c.1 < m ∧ okF m c.2 ∧ dep c.2 < 100) ∧ (cs.map (·.1)).Nodup)
      ⟨[], List.range m, c3, rfl, rfl, by simp, List.nodup_range, fun x hx => ⟨List.mem_range.mp hx, by simp⟩, fun c h => by (cases h), List.nodup_nil⟩ ?_) ?_
    · rintro j _ hj ⟨cs, left, c, rfl, hcl, hll, hnd, hlf, hc, hcn⟩
      obtain ⟨a, c4, ha, ea⟩ := digit_eq (n := left.length) (by omega) (by omega) c
      obtain ⟨q2, i2, c5, hq2, eq3, eq4⟩ := pick c4
      rw [un3_mk, zL_len, bind_eq ea]
      refine W.grd ⟨by show -(2 ^ 63) ≤ (a : Int); omega, by show (a : Int) < 2 ^ 63; omega⟩ ?_
      show OP ((popI (zL left) (a : Int)).bind _) _
      rw [bind_eq (pop_zL ha)]
      show OP ((m__law_digit [c4] ((ps.map (zP m)).length : Int)).bind _) _
      rw [bind_eq eq3]
      show OP ((atI (ps.map (zP m)) (i2 : Int)).bind _) _
      rw [bind_eq eq4]
      have hx := hlf left[a] (List.getElem_mem ha)
      refine W.grd (by rw [List.length_map]; omega) (W.lt ⟨cs ++ [(left[a], q2)], left.eraseIdx a, c5, by rw [List.map_append]; rfl, by rw [List.length_append, hcl]; rfl, ?_, ?_, ?_, ?_, ?_⟩)
      · rw [List.length_eraseIdx_of_lt ha]; omega
      · exact hnd.sublist (List.eraseIdx_sublist _ _)
      · intro x hx2
        have hxl := (List.eraseIdx_sublist left a).subset hx2
        refine ⟨(hlf x hxl).1, fun hin => ?_⟩
        rw [List.map_append] at hin
        rcases List.mem_append.mp hin with hin | hin
        · exact (hlf x hxl).2 hin
        · rw [List.map_cons, List.map_nil, List.mem_singleton] at hin
          rw [hin] at hx2
          exact not_mem_erase hnd ha hx2
      · intro c h
        rcases List.mem_append.mp h with h | h
        · exact hc c h
        · rw [List.mem_singleton.mp h]; exact ⟨hx.1, hps q2 hq2⟩
      · rw [List.map_append, List.nodup_append]
        refine ⟨hcn, by simp, ?_⟩
        intro y hy z hz
        rw [List.map_cons, List.map_nil, List.mem_singleton] at hz
        rw [hz]
        intro he
        rw [he] at hy
        exact hx.2 hy
    · rintro _ ⟨cs, left, c, rfl, hcl, hll, _, _, hc, hcn⟩
      rw [un3_mk]
      refine W.grd (by rw [List.length_map]; omega) (W.lt ⟨ms ++ [(q, cs)], c, by rw [List.map_append]; rfl, fun v h => ?_, by rw [List.length_append, hml]; rfl⟩)
      rcases List.mem_append.mp h with h | h
      · exact hv v h
      · rw [List.mem_singleton.mp h]
        exact ⟨hps q hq, hc, hcn, by show cs.length ≤ 6; omega⟩
  · rintro _ ⟨ms, c, rfl, hv, hml⟩
    exact ⟨ms, [c], rfl, hv, by omega⟩
end B

namespace B
open PySem Z E L2
theorem fst_list {m : Nat} {qs : List O_Formula} (hl : qs.length ≤ 1000) : compO (fun zx5 : O_Formula × Int => some (some zx5.1)) (qs.map (zP m)) = some qs := zP_fst m qs hl
theorem map_len {α β : Type} (f : α → β) (xs : List α) : (xs.map f).length = xs.length := by rw [List.length_map]
theorem changes_eq {m : Nat} {cs : List Chg} (hl : cs.length ≤ 6) : forO (fun (lamp224 : Int × (O_Formula × Int)) (acc210220 : List (Int × O_Formula)) =>
    grd (acc210220.length < 16777216) <|
    lt (acc210220 ++ [(lamp224.1, lamp224.2.1)]) fun l241 =>
    some l241) (cs.map (zD m)) ([] : List (Int × O_Formula)) = some (cs.map zC) := by
  have key : ∀ (q p : List Chg), p.length + q.length ≤ 1000 → forO (fun (lamp224 : Int × (O_Formula × Int)) (acc210220 : List (Int × O_Formula)) =>
      grd (acc210220.length < 16777216) <|
      lt (acc210220 ++ [(lamp224.1, lamp224.2.1)]) fun l241 =>
      some l241) (q.map (zD m)) (p.map zC) = some ((p ++ q).map zC) := by
    intro q
    induction q with
    | nil => intro p _; rw [List.map_nil, forO_nil, List.append_nil]
    | cons c q ih =>
      intro p hl
      rw [List.length_cons] at hl
      rw [List.map_cons, forO_cons, grd_of (by rw [List.length_map]; omega), lt_eq, sb]
      have e : p.map zC ++ [((zD m c).1, (zD m c).2.1)] = (p ++ [c]).map zC := by rw [List.map_append]; rfl
      rw [e, ih _ (by rw [List.length_append]; simp; omega), List.append_assoc]
      rfl
  exact key cs [] (by simp; omega)
theorem law_true (ns : List Int) (hn : ns.length ≤ 63) : m_law ns = some true := by
  obtain ⟨v0, e0⟩ := cell_at_eq ns 0
  obtain ⟨v1, e1⟩ := cell_at_eq ns 1
  obtain ⟨v2, e2⟩ := cell_at_eq ns 2
  have t0 : m__law_cell_at ns 0 = some v0 := e0
  have t1 : m__law_cell_at ns 1 = some v1 := e1
  have t2 : m__law_cell_at ns 2 = some v2 := e2
  obtain ⟨m, h1, h2, em⟩ := many_of v0
  have h64 := le64 h2
  obtain ⟨ps, ep, hne, hlen, hps⟩ := pile_ok h1 h2 (cs := cutI ns (some 3) (some 63)) (by have := cutI_len (xs := ns) (lo := some 3) (hi := some 63); omega)
  obtain ⟨n1, hn1, en1⟩ := mod_nat (v0 / 12) (n := 9) (by decide)
  have en1' : v0 / 12 % 9 = (n1 : Int) := en1
  obtain ⟨n2, hn2, en2⟩ := mod_nat (v0 / 108) (n := 9) (by decide)
  have en2' : v0 / 108 % 9 = (n2 : Int) := en2
  obtain ⟨n3, hn3, en3⟩ := mod_nat v2 (n := 9) (by decide)
  have en3' : v2 % 9 = (n3 : Int) := en3
  obtain ⟨q1, eq1, hq1⟩ := picked_ok (m := m) (n := n1) hne (by omega) v1 7 ⟨by decide, by decide⟩
  obtain ⟨q2, eq2, hq2⟩ := picked_ok (m := m) (n := n2) hne (by omega) (v1 / 9) 3 ⟨by decide, by decide⟩
  obtain ⟨ms, ems, hms⟩ := moves_ok h1 h2 hne hps (n := n3) (by omega) (v2 / 9)
  have lenOf : ∀ {n : Nat} {v st : Int} {qs : List O_Formula}, n ≤ 8 → m__law_picked (ps.map (zP m)) (n : Int) v st = some (qs.map (zP m)) → qs.length ≤ 1000 := by
    intro n v st qs hn h
    unfold m__law_picked at h
    rw [grd_of (gR_nat (by omega)), Int.toNat_natCast] at h
    obtain ⟨ys, e, h3⟩ := Option.bind_eq_some_iff.mp h
    obtain ⟨_, h4⟩ := compO_some e
    have : ∀ (f : Int → Option (Option (O_Formula × Int))) (xs : List Int) (ys : List (O_Formula × Int)), compO' f xs = some ys → ys.length ≤ xs.length := by
      intro f xs
      induction xs with
      | nil => intro ys h; unfold compO' at h; cases h; exact Nat.le_refl _
      | cons x xs ih =>
        intro ys h
        unfold compO' at h
        obtain ⟨r, hr, h7⟩ := Option.bind_eq_some_iff.mp h
        obtain ⟨zs, hz, h8⟩ := Option.bind_eq_some_iff.mp h7
        have := ih zs hz
        rw [← Option.some.inj h8]
        cases r with
        | none => show zs.length ≤ _; rw [List.length_cons]; omega
        | some r => show (r :: zs).length ≤ _; rw [List.length_cons, List.length_cons]; omega
    have h5 := this _ _ _ h4
    rw [rangeI_len] at h5
    have h6 := congrArg List.length (Option.some.inj h3)
    rw [List.length_map] at h6
    omega
  refine W.got ?_
  unfold m_law
  rw [bind_eq t0, bind_eq t1, lt_eq, em, bind_eq ep, en1', bind_eq eq1, en2', bind_eq eq2, bind_eq t2, bind_eq t2, en3', bind_eq ems]
  refine W.bind (P := fun s => ∃ (sts bds : List O_Formula) (ms : List Mv), s = (sts.map (zP m), bds.map (zP m), ms.map (zM m)) ∧ (∀ q ∈ sts, q ∈ ps) ∧ (∀ q ∈ bds, q ∈ ps) ∧ okMs m ms ∧ sts.length ≤ 1000 ∧ bds.length ≤ 1000) (W.ite (fun _ => ?_) (fun _ => ?_)) ?_
  · obtain ⟨s1, c1, es1, hs1, ls1⟩ := any_picked_ok (m := m) hne (by omega) v1
    obtain ⟨s2, c2, es2, hs2, ls2⟩ := any_picked_ok (m := m) hne (by omega) c1
    obtain ⟨ms2, c3, ems2, hms2⟩ := any_moves_ok h1 h2 hne (by omega) hps v2
    rw [bind_eq es1]
    show OP ((m__law_any_picked (ps.map (zP m)) [c1]).bind _) _
    rw [bind_eq es2, bind_eq t2, bind_eq ems2]
    exact ⟨s1, s2, ms2, rfl, hs1, hs2, hms2, ls1, ls2⟩
  · exact ⟨q1, q2, ms, rfl, hq1, hq2, hms, lenOf (by omega) eq1, lenOf (by omega) eq2⟩
  · rintro _ ⟨sts, bds, ms, rfl, hs, hb, ⟨hv, hml⟩, ls, lb⟩
    rw [un3_mk, bind_eq (fst_list ls), bind_eq (fst_list lb)]
    have hs' : ∀ x ∈ sts, okF m x ∧ dep x < 100 := fun x hx => hps x (hs x hx)
    have hb' : ∀ x ∈ bds, okF m x ∧ dep x < 100 := fun x hx => hps x (hb x hx)
    refine W.bind (P := fun s => s = (sts, bds, ms.map oM)) ?_ ?_
    · have key : ∀ (q p : List Mv), p.length + q.length ≤ 1000 → (∀ v ∈ q, okV m v) → OP (forO (fun (x161 : (O_Formula × Int) × List (Int × (O_Formula × Int))) s =>
          un3 (fun (handed173 : List O_Formula) (handed177 : List O_Formula) (handed181 : List O_Move) =>
          (forO (fun lamp224 acc210220 =>
          grd (acc210220.length < 16777216) <|
          lt (acc210220 ++ [(lamp224.1, lamp224.2.1)]) fun l241 =>
          some l241) (x161.2) ([] : List (Int × O_Formula))).bind fun acc210220 =>
          (m_Move___init__ x161.1.1 acc210220).bind fun v263 =>
          grd (handed181.length < 16777216) <|
          lt (handed181 ++ [v263]) fun l279 =>
          some (handed173, handed177, l279)) s) (q.map (zM m)) (sts, bds, p.map oM)) (· = (sts, bds, (p ++ q).map oM)) := by
        intro q
        induction q with
        | nil => intro p _ _; rw [List.map_nil, forO_nil, List.append_nil]; exact rfl
        | cons v q ih =>
          intro p hl hq
          rw [List.length_cons] at hl
          have ov := hq v List.mem_cons_self
          have z1 : (zM m v).2 = v.2.map (zD m) := rfl
          have z2 : (zM m v).1.1 = v.1 := rfl
          have em : m_Move___init__ v.1 (v.2.map zC) = some (oM v) := by unfold m_Move___init__; rfl
          rw [List.map_cons, forO_cons, un3_mk, z1, z2, bind_eq (changes_eq ov.l), bind_eq em, grd_of (by rw [List.length_map]; omega), lt_eq, sb]
          have e : p.map oM ++ [oM v] = (p ++ [v]).map oM := by rw [List.map_append]; rfl
          have fin := ih (p ++ [v]) (by rw [List.length_append]; simp; omega) fun w hw => hq w (List.mem_cons_of_mem _ hw)
          rw [List.append_assoc] at fin
          rw [e]
          exact fin
      have k0 := key ms [] (by simp; omega) hv
      rw [List.nil_append] at k0
      exact k0
    · rintro _ rfl
      have hnm : (cutI ([("a" : Str), ("b" : Str), ("c" : Str), ("d" : Str), ("e" : Str), ("f" : Str)] : List Str) none (some (m : Int))).length = m := by
        rw [cutI_to, List.length_take]
        show min m 6 = m
        omega
      generalize cutI ([("a" : Str), ("b" : Str), ("c" : Str), ("d" : Str), ("e" : Str), ("f" : Str)] : List Str) none (some (m : Int)) = names at hnm ⊢
      have i1 : ∀ (a b : List O_Formula) (c : List O_Move), m_Machine___init__ names a b c = some (O_Machine.mk names a b c) := fun a b c => by unfold m_Machine___init__; rfl
      have c1 := machine_chart h1 h2 hnm hs' hb' hv
      have c2 := machine_chart (names := names) (sts := bds) (bds := sts) (ms := ms.reverse) h1 h2 hnm hb' hs' fun v h => hv v (List.mem_reverse.mp h)
      have l1 : m__law_tells (chN m (crowdOf m sts) (crowdOf m bds) (ledBy m ms)) (m : Int) (sts.map (zP m)) (bds.map (zP m)) (ms.map (zM m)) = some true := tells_eq h2 hv fun _ _ => rfl
      have l2 : m__law_tells (chN m (crowdOf m bds) (crowdOf m sts) (ledBy m ms.reverse)) (m : Int) (bds.map (zP m)) (sts.map (zP m)) (ms.map (zM m)) = some true := tells_eq h2 hv fun s _ => ledBy_rev m ms s
      have c3 : compO (fun zx425 : Int => some (some zx425)) ([(sts.length : Int), (bds.length : Int), ((ms.map oM).length : Int)] : List Int) = some [(sts.length : Int), (bds.length : Int), ((ms.map oM).length : Int)] := by
        rw [comp_map (g := fun x => x) (by simp) fun x _ => rfl, List.map_id']
      rw [un3_mk, bind_eq (i1 _ _ _), ← List.map_reverse, bind_eq (i1 _ _ _), hnm, decide_eq_true rfl, ifo_nt, bind_eq c3, map_len, map_len, map_len, map_len, decide_eq_true rfl, nt, sb, ifo_ff, bind_eq c1, bind_eq l1, ifo_nt, bind_eq c2, bind_eq l2, ifo_nt, bind_eq c1, bind_eq l1]
      exact rfl
end B

namespace E
open PySem PySem.Spec PyProof.Rows L2 Z
def spLaw (K : PySem.W.Frag) : Sp := fun vs H Q _ => ∃ (a : Addr) (ns : List Int), vs = [.ref a] ∧ SqL K H a (ns.map V.int) ∧ ns.length ≤ 63 ∧ ∀ H', Q (.bl true) H'
theorem law_ok {P : Program} {w : World} {K : PySem.W.Frag} {mg : Str → Option Value} {base : Heap} (T : Tx K mg) : FnOk P w K mg base CX0 105 T.f_law T.d_law ["_law_script"] (spLaw K) :=
  (ok_law T).imp fun vs H Q E h => by
    obtain ⟨a, ns, rfl, hS, hl, k⟩ := h
    exact ⟨H, _, ns, rfl, Same.refl _, RdL.start hS (RL.map V.int (fun _ => rfl) ns), OP.mk (B.law_true ns hl) fun _ H' _ => k H'⟩
theorem all_mk {l : PySem.W.OpenLaw} {w : World} {K : PySem.W.Frag} {h : Heap} {mg : Str → Option Value} {fa : Addr} (X : K.In h) (G : h.Ns mainGlobals mg) (hfa : mg "law" = some (.ref fa))
    {f0 f1 f2 f3 f4 f5 f6 f7 f8 f9 f10 f11 f12 f13 f14 f15 f16 f17 f18 f19 f20 f21 f22 f23 f24 f25 f26 f27 f28 f29 f30 f31 f32 f33 f34 f35 f36 f37 C_Chart C_Move C_Machine C_Lamp C_Sure C_Not C_And C_Either C_Or C_NoChart : Addr}
    {od0 an0 : Option Addr} {sl0 : Array (Option Value)} {oc0 kV0 dc0 pm0 cd0 ct0 : Value}
    {od1 an1 : Option Addr} {sl1 : Array (Option Value)} {oc1 kV1 dc1 pm1 cd1 ct1 : Value}
    (a1 : PySem.W.nsIn K mainGlobals "is_whole" = some (some (.ref f1)))
    {od2 an2 : Option Addr} {sl2 : Array (Option Value)} {oc2 kV2 dc2 pm2 cd2 ct2 : Value}
    (a2 : PySem.W.nsIn K mainGlobals "is_crowd" = some (some (.ref f2)))
    {od3 an3 : Option Addr} {sl3 : Array (Option Value)} {oc3 kV3 dc3 pm3 cd3 ct3 : Value}
    (a3 : PySem.W.nsIn K mainGlobals "stands_of" = some (some (.ref f3)))
    {od4 an4 : Option Addr} {sl4 : Array (Option Value)} {oc4 kV4 dc4 pm4 cd4 ct4 : Value}
    (a4 : PySem.W.nsIn K mainGlobals "leading_back" = some (some (.ref f4)))
    {od5 an5 : Option Addr} {sl5 : Array (Option Value)} {oc5 kV5 dc5 pm5 cd5 ct5 : Value}
    {od6 an6 : Option Addr} {sl6 : Array (Option Value)} {oc6 kV6 dc6 pm6 cd6 ct6 : Value}
    (a6 : PySem.W.nsIn K mainGlobals "all_stands" = some (some (.ref f6)))
    {od7 an7 : Option Addr} {sl7 : Array (Option Value)} {oc7 kV7 dc7 pm7 cd7 ct7 : Value}
    {od8 an8 : Option Addr} {sl8 : Array (Option Value)} {oc8 kV8 dc8 pm8 cd8 ct8 : Value}
    {od9 an9 : Option Addr} {sl9 : Array (Option Value)} {oc9 kV9 dc9 pm9 cd9 ct9 : Value}
    {od10 an10 : Option Addr} {sl10 : Array (Option Value)} {oc10 kV10 dc10 pm10 cd10 ct10 : Value}
    {od11 an11 : Option Addr} {sl11 : Array (Option Value)} {oc11 kV11 dc11 pm11 cd11 ct11 : Value}
    {od12 an12 : Option Addr} {sl12 : Array (Option Value)} {oc12 kV12 dc12 pm12 cd12 ct12 : Value}
    {od13 an13 : Option Addr} {sl13 : Array (Option Value)} {oc13 kV13 dc13 pm13 cd13 ct13 : Value}
    {od14 an14 : Option Addr} {sl14 : Array (Option Value)} {oc14 kV14 dc14 pm14 cd14 ct14 : Value}
    {od15 an15 : Option Addr} {sl15 : Array (Option Value)} {oc15 kV15 dc15 pm15 cd15 ct15 : Value}
    {od16 an16 : Option Addr} {sl16 : Array (Option Value)} {oc16 kV16 dc16 pm16 cd16 ct16 : Value}
    {od17 an17 : Option Addr} {sl17 : Array (Option Value)} {oc17 kV17 dc17 pm17 cd17 ct17 : Value}
    (a17 : PySem.W.nsIn K mainGlobals "_law_digit" = some (some (.ref f17)))
    {od18 an18 : Option Addr} {sl18 : Array (Option Value)} {oc18 kV18 dc18 pm18 cd18 ct18 : Value}
    (a18 : PySem.W.nsIn K mainGlobals "_law_any_moves" = some (some (.ref f18)))
    {od19 an19 : Option Addr} {sl19 : Array (Option Value)} {oc19 kV19 dc19 pm19 cd19 ct19 : Value}
    (a19 : PySem.W.nsIn K mainGlobals "_law_any_picked" = some (some (.ref f19)))
    {od20 an20 : Option Addr} {sl20 : Array (Option Value)} {oc20 kV20 dc20 pm20 cd20 ct20 : Value}
    (a20 : PySem.W.nsIn K mainGlobals "_law_cell_at" = some (some (.ref f20)))
    {od21 an21 : Option Addr} {sl21 : Array (Option Value)} {oc21 kV21 dc21 pm21 cd21 ct21 : Value}
    (a21 : PySem.W.nsIn K mainGlobals "_law_moves" = some (some (.ref f21)))
    {od22 an22 : Option Addr} {sl22 : Array (Option Value)} {oc22 kV22 dc22 pm22 cd22 ct22 : Value}
    (a22 : PySem.W.nsIn K mainGlobals "_law_picked" = some (some (.ref f22)))
    {od23 an23 : Option Addr} {sl23 : Array (Option Value)} {oc23 kV23 dc23 pm23 cd23 ct23 : Value}
    {od24 an24 : Option Addr} {sl24 : Array (Option Value)} {oc24 kV24 dc24 pm24 cd24 ct24 : Value}
    {od25 an25 : Option Addr} {sl25 : Array (Option Value)} {oc25 kV25 dc25 pm25 cd25 ct25 : Value}
    (a25 : PySem.W.nsIn K mainGlobals "_law_joined" = some (some (.ref f25)))
    {od26 an26 : Option Addr} {sl26 : Array (Option Value)} {oc26 kV26 dc26 pm26 cd26 ct26 : Value}
    {od27 an27 : Option Addr} {sl27 : Array (Option Value)} {oc27 kV27 dc27 pm27 cd27 ct27 : Value}
    {od28 an28 : Option Addr} {sl28 : Array (Option Value)} {oc28 kV28 dc28 pm28 cd28 ct28 : Value}
    (a28 : PySem.W.nsIn K mainGlobals "_law_lit" = some (some (.ref f28)))
    {od29 an29 : Option Addr} {sl29 : Array (Option Value)} {oc29 kV29 dc29 pm29 cd29 ct29 : Value}
    (a29 : PySem.W.nsIn K mainGlobals "_law_leaf" = some (some (.ref f29)))
    {od30 an30 : Option Addr} {sl30 : Array (Option Value)} {oc30 kV30 dc30 pm30 cd30 ct30 : Value}
    (a30 : PySem.W.nsIn K mainGlobals "_law_pile" = some (some (.ref f30)))
    {od31 an31 : Option Addr} {sl31 : Array (Option Value)} {oc31 kV31 dc31 pm31 cd31 ct31 : Value}
    {od32 an32 : Option Addr} {sl32 : Array (Option Value)} {oc32 kV32 dc32 pm32 cd32 ct32 : Value}
    (a32 : PySem.W.nsIn K mainGlobals "_law_onward" = some (some (.ref f32)))
    {od33 an33 : Option Addr} {sl33 : Array (Option Value)} {oc33 kV33 dc33 pm33 cd33 ct33 : Value}
    (a33 : PySem.W.nsIn K mainGlobals "_law_after" = some (some (.ref f33)))
    {od34 an34 : Option Addr} {sl34 : Array (Option Value)} {oc34 kV34 dc34 pm34 cd34 ct34 : Value}
    (a34 : PySem.W.nsIn K mainGlobals "_law_any" = some (some (.ref f34)))
    {od35 an35 : Option Addr} {sl35 : Array (Option Value)} {oc35 kV35 dc35 pm35 cd35 ct35 : Value}
    (a35 : PySem.W.nsIn K mainGlobals "_law_number" = some (some (.ref f35)))
    {od36 an36 : Option Addr} {sl36 : Array (Option Value)} {oc36 kV36 dc36 pm36 cd36 ct36 : Value}
    (a36 : PySem.W.nsIn K mainGlobals "_law_tells" = some (some (.ref f36)))
    {od37 an37 : Option Addr} {sl37 : Array (Option Value)} {oc37 kV37 dc37 pm37 cd37 ct37 : Value}
    (a37 : PySem.W.nsIn K mainGlobals "law" = some (some (.ref f37)))
    (aC_Chart : PySem.W.nsIn K mainGlobals "Chart" = some (some (.ref C_Chart)))
    (a5 : PySem.W.findIn K (.ref C_Chart) "__init__" = some (some (.ref f5))) (i5 : PySem.W.isFn K (.ref f5) = true)
    (a31 : PySem.W.findIn K (.ref C_Chart) "ahead" = some (some (.ref f31))) (i31 : PySem.W.isFn K (.ref f31) = true)
    (aC_Move : PySem.W.nsIn K mainGlobals "Move" = some (some (.ref C_Move)))
    (a14 : PySem.W.findIn K (.ref C_Move) "onward_from_all" = some (some (.ref f14))) (i14 : PySem.W.isFn K (.ref f14) = true)
    (a16 : PySem.W.findIn K (.ref C_Move) "__init__" = some (some (.ref f16))) (i16 : PySem.W.isFn K (.ref f16) = true)
    (aC_Machine : PySem.W.nsIn K mainGlobals "Machine" = some (some (.ref C_Machine)))
    (a0 : PySem.W.findIn K (.ref C_Machine) "__init__" = some (some (.ref f0))) (i0 : PySem.W.isFn K (.ref f0) = true)
    (a13 : PySem.W.findIn K (.ref C_Machine) "any_of" = some (some (.ref f13))) (i13 : PySem.W.isFn K (.ref f13) = true)
    (a15 : PySem.W.findIn K (.ref C_Machine) "chart" = some (some (.ref f15))) (i15 : PySem.W.isFn K (.ref f15) = true)
    (aC_Lamp : PySem.W.nsIn K mainGlobals "Lamp" = some (some (.ref C_Lamp)))
    (a7 : PySem.W.findIn K (.ref C_Lamp) "crowd" = some (some (.ref f7))) (i7 : PySem.W.isFn K (.ref f7) = true)
    (a26 : PySem.W.findIn K (.ref C_Lamp) "__init__" = some (some (.ref f26))) (i26 : PySem.W.isFn K (.ref f26) = true)
    (aC_Sure : PySem.W.nsIn K mainGlobals "Sure" = some (some (.ref C_Sure)))
    (a8 : PySem.W.findIn K (.ref C_Sure) "crowd" = some (some (.ref f8))) (i8 : PySem.W.isFn K (.ref f8) = true)
    (a27 : PySem.W.findIn K (.ref C_Sure) "__init__" = some (some (.ref f27))) (i27 : PySem.W.isFn K (.ref f27) = true)
    (aC_Not : PySem.W.nsIn K mainGlobals "Not" = some (some (.ref C_Not)))
    (a11 : PySem.W.findIn K (.ref C_Not) "crowd" = some (some (.ref f11))) (i11 : PySem.W.isFn K (.ref f11) = true)
    (a23 : PySem.W.findIn K (.ref C_Not) "__init__" = some (some (.ref f23))) (i23 : PySem.W.isFn K (.ref f23) = true)
    (aC_And : PySem.W.nsIn K mainGlobals "And" = some (some (.ref C_And)))
    (a9 : PySem.W.findIn K (.ref C_And) "crowd" = some (some (.ref f9))) (i9 : PySem.W.isFn K (.ref f9) = true)
    (a24 : PySem.W.findIn K (.ref C_And) "__init__" = some (some (.ref f24))) (i24 : PySem.W.isFn K (.ref f24) = true)
    (aC_Either : PySem.W.nsIn K mainGlobals "Either" = some (some (.ref C_Either)))
    (a10 : PySem.W.findIn K (.ref C_Either) "crowd" = some (some (.ref f10))) (i10 : PySem.W.isFn K (.ref f10) = true)
    (aC_Or : PySem.W.nsIn K mainGlobals "Or" = some (some (.ref C_Or)))
    (a12 : PySem.W.findIn K (.ref C_Or) "crowd" = some (some (.ref f12))) (i12 : PySem.W.isFn K (.ref f12) = true)
    (l0 : K.lookup f0 = some ⟨oc0, od0, .func (PySem.W.fnOf "__init__" "Machine.__init__" (defArgs (inClass (top 12) 0)) (defBody (inClass (top 12) 0)) (defScope (inClass (top 12) 0)) .none kV0 dc0 pm0 an0 cd0 ct0), sl0⟩) (c0 : PySem.W.codeIn K cd0 "Machine.__init__" = true) (k0 : PySem.W.keepIn K (.ref f0) = true)
    (l1 : K.lookup f1 = some ⟨oc1, od1, .func (PySem.W.fnOf "is_whole" "is_whole" (defArgs (top 5)) (defBody (top 5)) (defScope (top 5)) .none kV1 dc1 pm1 an1 cd1 ct1), sl1⟩) (c1 : PySem.W.codeIn K cd1 "is_whole" = true) (k1 : PySem.W.keepIn K (.ref f1) = true)
    (l2 : K.lookup f2 = some ⟨oc2, od2, .func (PySem.W.fnOf "is_crowd" "is_crowd" (defArgs (top 6)) (defBody (top 6)) (defScope (top 6)) .none kV2 dc2 pm2 an2 cd2 ct2), sl2⟩) (c2 : PySem.W.codeIn K cd2 "is_crowd" = true) (k2 : PySem.W.keepIn K (.ref f2) = true)
    (l3 : K.lookup f3 = some ⟨oc3, od3, .func (PySem.W.fnOf "stands_of" "stands_of" (defArgs (top 7)) (defBody (top 7)) (defScope (top 7)) .none kV3 dc3 pm3 an3 cd3 ct3), sl3⟩) (c3 : PySem.W.codeIn K cd3 "stands_of" = true) (k3 : PySem.W.keepIn K (.ref f3) = true)
    (l4 : K.lookup f4 = some ⟨oc4, od4, .func (PySem.W.fnOf "leading_back" "leading_back" (defArgs (top 8)) (defBody (top 8)) (defScope (top 8)) .none kV4 dc4 pm4 an4 cd4 ct4), sl4⟩) (c4 : PySem.W.codeIn K cd4 "leading_back" = true) (k4 : PySem.W.keepIn K (.ref f4) = true)
    (l5 : K.lookup f5 = some ⟨oc5, od5, .func (PySem.W.fnOf "__init__" "Chart.__init__" (defArgs (inClass (top 9) 0)) (defBody (inClass (top 9) 0)) (defScope (inClass (top 9) 0)) .none kV5 dc5 pm5 an5 cd5 ct5), sl5⟩) (c5 : PySem.W.codeIn K cd5 "Chart.__init__" = true) (k5 : PySem.W.keepIn K (.ref f5) = true)
    (l6 : K.lookup f6 = some ⟨oc6, od6, .func (PySem.W.fnOf "all_stands" "all_stands" (defArgs (top 14)) (defBody (top 14)) (defScope (top 14)) .none kV6 dc6 pm6 an6 cd6 ct6), sl6⟩) (c6 : PySem.W.codeIn K cd6 "all_stands" = true) (k6 : PySem.W.keepIn K (.ref f6) = true)
    (l7 : K.lookup f7 = some ⟨oc7, od7, .func (PySem.W.fnOf "crowd" "Lamp.crowd" (defArgs (inClass (top 16) 2)) (defBody (inClass (top 16) 2)) (defScope (inClass (top 16) 2)) .none kV7 dc7 pm7 an7 cd7 ct7), sl7⟩) (c7 : PySem.W.codeIn K cd7 "Lamp.crowd" = true) (k7 : PySem.W.keepIn K (.ref f7) = true)
    (l8 : K.lookup f8 = some ⟨oc8, od8, .func (PySem.W.fnOf "crowd" "Sure.crowd" (defArgs (inClass (top 17) 2)) (defBody (inClass (top 17) 2)) (defScope (inClass (top 17) 2)) .none kV8 dc8 pm8 an8 cd8 ct8), sl8⟩) (c8 : PySem.W.codeIn K cd8 "Sure.crowd" = true) (k8 : PySem.W.keepIn K (.ref f8) = true)
    (l9 : K.lookup f9 = some ⟨oc9, od9, .func (PySem.W.fnOf "crowd" "And.crowd" (defArgs (inClass (top 20) 3)) (defBody (inClass (top 20) 3)) (defScope (inClass (top 20) 3)) .none kV9 dc9 pm9 an9 cd9 ct9), sl9⟩) (c9 : PySem.W.codeIn K cd9 "And.crowd" = true) (k9 : PySem.W.keepIn K (.ref f9) = true)
    (l10 : K.lookup f10 = some ⟨oc10, od10, .func (PySem.W.fnOf "crowd" "Either.crowd" (defArgs (inClass (top 21) 3)) (defBody (inClass (top 21) 3)) (defScope (inClass (top 21) 3)) .none kV10 dc10 pm10 an10 cd10 ct10), sl10⟩) (c10 : PySem.W.codeIn K cd10 "Either.crowd" = true) (k10 : PySem.W.keepIn K (.ref f10) = true)
    (l11 : K.lookup f11 = some ⟨oc11, od11, .func (PySem.W.fnOf "crowd" "Not.crowd" (defArgs (inClass (top 18) 2)) (defBody (inClass (top 18) 2)) (defScope (inClass (top 18) 2)) .none kV11 dc11 pm11 an11 cd11 ct11), sl11⟩) (c11 : PySem.W.codeIn K cd11 "Not.crowd" = true) (k11 : PySem.W.keepIn K (.ref f11) = true)
    (l12 : K.lookup f12 = some ⟨oc12, od12, .func (PySem.W.fnOf "crowd" "Or.crowd" (defArgs (inClass (top 22) 3)) (defBody (inClass (top 22) 3)) (defScope (inClass (top 22) 3)) .none kV12 dc12 pm12 an12 cd12 ct12), sl12⟩) (c12 : PySem.W.codeIn K cd12 "Or.crowd" = true) (k12 : PySem.W.keepIn K (.ref f12) = true)
    (l13 : K.lookup f13 = some ⟨oc13, od13, .func (PySem.W.fnOf "any_of" "Machine.any_of" (defArgs (inClass (top 12) 1)) (defBody (inClass (top 12) 1)) (defScope (inClass (top 12) 1)) .none kV13 dc13 pm13 an13 cd13 ct13), sl13⟩) (c13 : PySem.W.codeIn K cd13 "Machine.any_of" = true) (k13 : PySem.W.keepIn K (.ref f13) = true)
    (l14 : K.lookup f14 = some ⟨oc14, od14, .func (PySem.W.fnOf "onward_from_all" "Move.onward_from_all" (defArgs (inClass (top 11) 3)) (defBody (inClass (top 11) 3)) (defScope (inClass (top 11) 3)) .none kV14 dc14 pm14 an14 cd14 ct14), sl14⟩) (c14 : PySem.W.codeIn K cd14 "Move.onward_from_all" = true) (k14 : PySem.W.keepIn K (.ref f14) = true)
    (l15 : K.lookup f15 = some ⟨oc15, od15, .func (PySem.W.fnOf "chart" "Machine.chart" (defArgs (inClass (top 12) 2)) (defBody (inClass (top 12) 2)) (defScope (inClass (top 12) 2)) .none kV15 dc15 pm15 an15 cd15 ct15), sl15⟩) (c15 : PySem.W.codeIn K cd15 "Machine.chart" = true) (k15 : PySem.W.keepIn K (.ref f15) = true)
    (l16 : K.lookup f16 = some ⟨oc16, od16, .func (PySem.W.fnOf "__init__" "Move.__init__" (defArgs (inClass (top 11) 0)) (defBody (inClass (top 11) 0)) (defScope (inClass (top 11) 0)) .none kV16 dc16 pm16 an16 cd16 ct16), sl16⟩) (c16 : PySem.W.codeIn K cd16 "Move.__init__" = true) (k16 : PySem.W.keepIn K (.ref f16) = true)
    (l17 : K.lookup f17 = some ⟨oc17, od17, .func (PySem.W.fnOf "_law_digit" "_law_digit" (defArgs (top 31)) (defBody (top 31)) (defScope (top 31)) .none kV17 dc17 pm17 an17 cd17 ct17), sl17⟩) (c17 : PySem.W.codeIn K cd17 "_law_digit" = true) (k17 : PySem.W.keepIn K (.ref f17) = true)
    (l18 : K.lookup f18 = some ⟨oc18, od18, .func (PySem.W.fnOf "_law_any_moves" "_law_any_moves" (defArgs (top 32)) (defBody (top 32)) (defScope (top 32)) .none kV18 dc18 pm18 an18 cd18 ct18), sl18⟩) (c18 : PySem.W.codeIn K cd18 "_law_any_moves" = true) (k18 : PySem.W.keepIn K (.ref f18) = true)
    (l19 : K.lookup f19 = some ⟨oc19, od19, .func (PySem.W.fnOf "_law_any_picked" "_law_any_picked" (defArgs (top 33)) (defBody (top 33)) (defScope (top 33)) .none kV19 dc19 pm19 an19 cd19 ct19), sl19⟩) (c19 : PySem.W.codeIn K cd19 "_law_any_picked" = true) (k19 : PySem.W.keepIn K (.ref f19) = true)
    (l20 : K.lookup f20 = some ⟨oc20, od20, .func (PySem.W.fnOf "_law_cell_at" "_law_cell_at" (defArgs (top 24)) (defBody (top 24)) (defScope (top 24)) .none kV20 dc20 pm20 an20 cd20 ct20), sl20⟩) (c20 : PySem.W.codeIn K cd20 "_law_cell_at" = true) (k20 : PySem.W.keepIn K (.ref f20) = true)
    (l21 : K.lookup f21 = some ⟨oc21, od21, .func (PySem.W.fnOf "_law_moves" "_law_moves" (defArgs (top 30)) (defBody (top 30)) (defScope (top 30)) .none kV21 dc21 pm21 an21 cd21 ct21), sl21⟩) (c21 : PySem.W.codeIn K cd21 "_law_moves" = true) (k21 : PySem.W.keepIn K (.ref f21) = true)
    (l22 : K.lookup f22 = some ⟨oc22, od22, .func (PySem.W.fnOf "_law_picked" "_law_picked" (defArgs (top 29)) (defBody (top 29)) (defScope (top 29)) .none kV22 dc22 pm22 an22 cd22 ct22), sl22⟩) (c22 : PySem.W.codeIn K cd22 "_law_picked" = true) (k22 : PySem.W.keepIn K (.ref f22) = true)
    (l23 : K.lookup f23 = some ⟨oc23, od23, .func (PySem.W.fnOf "__init__" "Not.__init__" (defArgs (inClass (top 18) 0)) (defBody (inClass (top 18) 0)) (defScope (inClass (top 18) 0)) .none kV23 dc23 pm23 an23 cd23 ct23), sl23⟩) (c23 : PySem.W.codeIn K cd23 "Not.__init__" = true) (k23 : PySem.W.keepIn K (.ref f23) = true)
    (l24 : K.lookup f24 = some ⟨oc24, od24, .func (PySem.W.fnOf "__init__" "Joined.__init__" (defArgs (inClass (top 19) 0)) (defBody (inClass (top 19) 0)) (defScope (inClass (top 19) 0)) .none kV24 dc24 pm24 an24 cd24 ct24), sl24⟩) (c24 : PySem.W.codeIn K cd24 "Joined.__init__" = true) (k24 : PySem.W.keepIn K (.ref f24) = true)
    (l25 : K.lookup f25 = some ⟨oc25, od25, .func (PySem.W.fnOf "_law_joined" "_law_joined" (defArgs (top 27)) (defBody (top 27)) (defScope (top 27)) .none kV25 dc25 pm25 an25 cd25 ct25), sl25⟩) (c25 : PySem.W.codeIn K cd25 "_law_joined" = true) (k25 : PySem.W.keepIn K (.ref f25) = true)
    (l26 : K.lookup f26 = some ⟨oc26, od26, .func (PySem.W.fnOf "__init__" "Lamp.__init__" (defArgs (inClass (top 16) 0)) (defBody (inClass (top 16) 0)) (defScope (inClass (top 16) 0)) .none kV26 dc26 pm26 an26 cd26 ct26), sl26⟩) (c26 : PySem.W.codeIn K cd26 "Lamp.__init__" = true) (k26 : PySem.W.keepIn K (.ref f26) = true)
    (l27 : K.lookup f27 = some ⟨oc27, od27, .func (PySem.W.fnOf "__init__" "Sure.__init__" (defArgs (inClass (top 17) 0)) (defBody (inClass (top 17) 0)) (defScope (inClass (top 17) 0)) .none kV27 dc27 pm27 an27 cd27 ct27), sl27⟩) (c27 : PySem.W.codeIn K cd27 "Sure.__init__" = true) (k27 : PySem.W.keepIn K (.ref f27) = true)
    (l28 : K.lookup f28 = some ⟨oc28, od28, .func (PySem.W.fnOf "_law_lit" "_law_lit" (defArgs (top 25)) (defBody (top 25)) (defScope (top 25)) .none kV28 dc28 pm28 an28 cd28 ct28), sl28⟩) (c28 : PySem.W.codeIn K cd28 "_law_lit" = true) (k28 : PySem.W.keepIn K (.ref f28) = true)
    (l29 : K.lookup f29 = some ⟨oc29, od29, .func (PySem.W.fnOf "_law_leaf" "_law_leaf" (defArgs (top 26)) (defBody (top 26)) (defScope (top 26)) .none kV29 dc29 pm29 an29 cd29 ct29), sl29⟩) (c29 : PySem.W.codeIn K cd29 "_law_leaf" = true) (k29 : PySem.W.keepIn K (.ref f29) = true)
    (l30 : K.lookup f30 = some ⟨oc30, od30, .func (PySem.W.fnOf "_law_pile" "_law_pile" (defArgs (top 28)) (defBody (top 28)) (defScope (top 28)) .none kV30 dc30 pm30 an30 cd30 ct30), sl30⟩) (c30 : PySem.W.codeIn K cd30 "_law_pile" = true) (k30 : PySem.W.keepIn K (.ref f30) = true)
    (l31 : K.lookup f31 = some ⟨oc31, od31, .func (PySem.W.fnOf "ahead" "Chart.ahead" (defArgs (inClass (top 9) 1)) (defBody (inClass (top 9) 1)) (defScope (inClass (top 9) 1)) .none kV31 dc31 pm31 an31 cd31 ct31), sl31⟩) (c31 : PySem.W.codeIn K cd31 "Chart.ahead" = true) (k31 : PySem.W.keepIn K (.ref f31) = true)
    (l32 : K.lookup f32 = some ⟨oc32, od32, .func (PySem.W.fnOf "_law_onward" "_law_onward" (defArgs (top 34)) (defBody (top 34)) (defScope (top 34)) .none kV32 dc32 pm32 an32 cd32 ct32), sl32⟩) (c32 : PySem.W.codeIn K cd32 "_law_onward" = true) (k32 : PySem.W.keepIn K (.ref f32) = true)
    (l33 : K.lookup f33 = some ⟨oc33, od33, .func (PySem.W.fnOf "_law_after" "_law_after" (defArgs (top 35)) (defBody (top 35)) (defScope (top 35)) .none kV33 dc33 pm33 an33 cd33 ct33), sl33⟩) (c33 : PySem.W.codeIn K cd33 "_law_after" = true) (k33 : PySem.W.keepIn K (.ref f33) = true)
    (l34 : K.lookup f34 = some ⟨oc34, od34, .func (PySem.W.fnOf "_law_any" "_law_any" (defArgs (top 36)) (defBody (top 36)) (defScope (top 36)) .none kV34 dc34 pm34 an34 cd34 ct34), sl34⟩) (c34 : PySem.W.codeIn K cd34 "_law_any" = true) (k34 : PySem.W.keepIn K (.ref f34) = true)
    (l35 : K.lookup f35 = some ⟨oc35, od35, .func (PySem.W.fnOf "_law_number" "_law_number" (defArgs (top 37)) (defBody (top 37)) (defScope (top 37)) .none kV35 dc35 pm35 an35 cd35 ct35), sl35⟩) (c35 : PySem.W.codeIn K cd35 "_law_number" = true) (k35 : PySem.W.keepIn K (.ref f35) = true)
    (l36 : K.lookup f36 = some ⟨oc36, od36, .func (PySem.W.fnOf "_law_tells" "_law_tells" (defArgs (top 38)) (defBody (top 38)) (defScope (top 38)) .none kV36 dc36 pm36 an36 cd36 ct36), sl36⟩) (c36 : PySem.W.codeIn K cd36 "_law_tells" = true) (k36 : PySem.W.keepIn K (.ref f36) = true)
    (l37 : K.lookup f37 = some ⟨oc37, od37, .func (PySem.W.fnOf "law" "law" (defArgs (top 39)) (defBody (top 39)) (defScope (top 39)) .none kV37 dc37 pm37 an37 cd37 ct37), sl37⟩) (c37 : PySem.W.codeIn K cd37 "law" = true) (k37 : PySem.W.keepIn K (.ref f37) = true)
    (pg_Chart : PySem.W.plainGet K C_Chart Str.empty = true) (hd_Chart : PySem.W.hasDictIn K C_Chart = true) (po_Chart : PySem.W.plainOver K C_Chart = true) (sa_Chart : PySem.W.findIn K (.ref C_Chart) "__setattr__" = some (some (.builtin "object.__setattr__")))
    (ha_Chart : PySem.W.findIn K (.ref C_Chart) "__class__" = some (some (.builtin "object.__class__"))) (hn_Chart : PySem.W.specialIn K (.builtin "object.__class__") "__get__" = some (some (.builtin "getset_descriptor.__get__"))) (ht_Chart : PySem.W.takesIn K (.builtin "object.__class__") = some true) (hm_Chart : PySem.W.mroIn K C_Chart (.type "object") = some true)
    (mk_Chart : PySem.W.makesIn K C_Chart = true) (kc_Chart : PySem.W.keepIn K (.ref C_Chart) = true)
    (pg_Move : PySem.W.plainGet K C_Move Str.empty = true) (hd_Move : PySem.W.hasDictIn K C_Move = true) (po_Move : PySem.W.plainOver K C_Move = true) (sa_Move : PySem.W.findIn K (.ref C_Move) "__setattr__" = some (some (.builtin "object.__setattr__")))
    (mk_Move : PySem.W.makesIn K C_Move = true) (kc_Move : PySem.W.keepIn K (.ref C_Move) = true)
    (pg_Machine : PySem.W.plainGet K C_Machine Str.empty = true) (hd_Machine : PySem.W.hasDictIn K C_Machine = true) (po_Machine : PySem.W.plainOver K C_Machine = true) (sa_Machine : PySem.W.findIn K (.ref C_Machine) "__setattr__" = some (some (.builtin "object.__setattr__")))
    (mk_Machine : PySem.W.makesIn K C_Machine = true) (kc_Machine : PySem.W.keepIn K (.ref C_Machine) = true)
    (pg_Lamp : PySem.W.plainGet K C_Lamp Str.empty = true) (hd_Lamp : PySem.W.hasDictIn K C_Lamp = true) (po_Lamp : PySem.W.plainOver K C_Lamp = true) (sa_Lamp : PySem.W.findIn K (.ref C_Lamp) "__setattr__" = some (some (.builtin "object.__setattr__")))
    (mk_Lamp : PySem.W.makesIn K C_Lamp = true) (kc_Lamp : PySem.W.keepIn K (.ref C_Lamp) = true)
    (pg_Sure : PySem.W.plainGet K C_Sure Str.empty = true) (hd_Sure : PySem.W.hasDictIn K C_Sure = true) (po_Sure : PySem.W.plainOver K C_Sure = true) (sa_Sure : PySem.W.findIn K (.ref C_Sure) "__setattr__" = some (some (.builtin "object.__setattr__")))
    (mk_Sure : PySem.W.makesIn K C_Sure = true) (kc_Sure : PySem.W.keepIn K (.ref C_Sure) = true)
    (pg_Not : PySem.W.plainGet K C_Not Str.empty = true) (hd_Not : PySem.W.hasDictIn K C_Not = true) (po_Not : PySem.W.plainOver K C_Not = true) (sa_Not : PySem.W.findIn K (.ref C_Not) "__setattr__" = some (some (.builtin "object.__setattr__")))
    (mk_Not : PySem.W.makesIn K C_Not = true) (kc_Not : PySem.W.keepIn K (.ref C_Not) = true)
    (pg_And : PySem.W.plainGet K C_And Str.empty = true) (hd_And : PySem.W.hasDictIn K C_And = true) (po_And : PySem.W.plainOver K C_And = true) (sa_And : PySem.W.findIn K (.ref C_And) "__setattr__" = some (some (.builtin "object.__setattr__")))
    (mk_And : PySem.W.makesIn K C_And = true) (kc_And : PySem.W.keepIn K (.ref C_And) = true)
    (pg_Either : PySem.W.plainGet K C_Either Str.empty = true) (hd_Either : PySem.W.hasDictIn K C_Either = true) (po_Either : PySem.W.plainOver K C_Either = true) (sa_Either : PySem.W.findIn K (.ref C_Either) "__setattr__" = some (some (.builtin "object.__setattr__")))
    (mk_Either : PySem.W.makesIn K C_Either = true) (kc_Either : PySem.W.keepIn K (.ref C_Either) = true)
    (am_Either___init__ : PySem.W.findIn K (.ref C_Either) "__init__" = some (some (.ref f24)))
    (pg_Or : PySem.W.plainGet K C_Or Str.empty = true) (hd_Or : PySem.W.hasDictIn K C_Or = true) (po_Or : PySem.W.plainOver K C_Or = true) (sa_Or : PySem.W.findIn K (.ref C_Or) "__setattr__" = some (some (.builtin "object.__setattr__")))
    (mk_Or : PySem.W.makesIn K C_Or = true) (kc_Or : PySem.W.keepIn K (.ref C_Or) = true)
    (am_Or___init__ : PySem.W.findIn K (.ref C_Or) "__init__" = some (some (.ref f24)))
    (aC_NoChart : PySem.W.nsIn K mainGlobals "NoChart" = some (some (.ref C_NoChart)))
    (kc1_Chart : PySem.W.isClsIn K C_Chart = true) (kt_Chart : PySem.W.typeIn K (.ref C_Chart) = some (.type "type")) (ks_Chart : PySem.W.subIn K (.ref C_Chart) (.ref C_Chart) = some true)
    (ki_Chart_Chart : PySem.W.subIn K (.ref C_Chart) (.ref C_Chart) = some true)
    (nA_And_parts : PySem.W.findIn K (.ref C_And) "parts" = some none)
    (nA_Chart_back : PySem.W.findIn K (.ref C_Chart) "back" = some none)
    (nA_Chart_bads : PySem.W.findIn K (.ref C_Chart) "bads" = some none)
    (nA_Chart_forth : PySem.W.findIn K (.ref C_Chart) "forth" = some none)
    (nA_Chart_many : PySem.W.findIn K (.ref C_Chart) "many" = some none)
    (nA_Chart_starts : PySem.W.findIn K (.ref C_Chart) "starts" = some none)
    (nA_Either_parts : PySem.W.findIn K (.ref C_Either) "parts" = some none)
    (nA_Lamp_at : PySem.W.findIn K (.ref C_Lamp) "at" = some none)
    (nA_Machine_bads : PySem.W.findIn K (.ref C_Machine) "bads" = some none)
    (nA_Machine_moves : PySem.W.findIn K (.ref C_Machine) "moves" = some none)
    (nA_Machine_names : PySem.W.findIn K (.ref C_Machine) "names" = some none)
    (nA_Machine_starts : PySem.W.findIn K (.ref C_Machine) "starts" = some none)
    (nA_Move_changes : PySem.W.findIn K (.ref C_Move) "changes" = some none)
    (nA_Move_guard : PySem.W.findIn K (.ref C_Move) "guard" = some none)
    (nA_Not_part : PySem.W.findIn K (.ref C_Not) "part" = some none)
    (nA_Or_parts : PySem.W.findIn K (.ref C_Or) "parts" = some none)
    (nA_Sure_truth : PySem.W.findIn K (.ref C_Sure) "truth" = some none)
    (xx_NoChart : PySem.W.excIn K C_NoChart [.type "ValueError", .type "Exception", .type "BaseException", .type "object"] "ValueError.__new__" = true)
    (xk_NoChart : PySem.W.keepIn K (.ref C_NoChart) = true)
    (xb_NoChart : PySem.W.subIn K (.ref C_NoChart) (.type "BaseException") = some true)
    (xt_NoChart : PySem.W.typeIn K (.ref C_NoChart) = some (.type "type"))
    (z_bool : PySem.W.nsIn K mainGlobals "bool" = some none)
    (z_enumerate : PySem.W.nsIn K mainGlobals "enumerate" = some none)
    (z_int : PySem.W.nsIn K mainGlobals "int" = some none)
    (z_isinstance : PySem.W.nsIn K mainGlobals "isinstance" = some none)
    (z_len : PySem.W.nsIn K mainGlobals "len" = some none)
    (z_list : PySem.W.nsIn K mainGlobals "list" = some none)
    (z_max : PySem.W.nsIn K mainGlobals "max" = some none)
    (z_range : PySem.W.nsIn K mainGlobals "range" = some none)
    (z_reversed : PySem.W.nsIn K mainGlobals "reversed" = some none)
    (z_sum : PySem.W.nsIn K mainGlobals "sum" = some none) :
    ∃ fd : FuncData, (∀ (s : Shared) (v : Value), BindsTo s fd ⟨[v], []⟩ [("_law_script", v)]) ∧ ∀ base : Heap, K.In base → base.Ns mainGlobals mg → FnOk l.prog w K mg base CX0 105 fa fd ["_law_script"] (spLaw K) := by
  have e := hfa.symm.trans (PySem.W.mg_of X G a37)
  cases e
  exact ⟨_, fun s v => .of_eq rfl, fun base _ _ => law_ok (T := {
    c := (⟨C_Chart, C_Move, C_Machine, C_Lamp, C_Sure, C_Not, C_And, C_Either, C_Or, C_NoChart⟩),
    m_is_whole := (PySem.W.mg_of X G a1),
    m_is_crowd := (PySem.W.mg_of X G a2),
    m_stands_of := (PySem.W.mg_of X G a3),
    m_leading_back := (PySem.W.mg_of X G a4),
    m_all_stands := (PySem.W.mg_of X G a6),
    m__law_digit := (PySem.W.mg_of X G a17),
    m__law_any_moves := (PySem.W.mg_of X G a18),
    m__law_any_picked := (PySem.W.mg_of X G a19),
    m__law_cell_at := (PySem.W.mg_of X G a20),
    m__law_moves := (PySem.W.mg_of X G a21),
    m__law_picked := (PySem.W.mg_of X G a22),
    m__law_joined := (PySem.W.mg_of X G a25),
    m__law_lit := (PySem.W.mg_of X G a28),
    m__law_leaf := (PySem.W.mg_of X G a29),
    m__law_pile := (PySem.W.mg_of X G a30),
    m__law_onward := (PySem.W.mg_of X G a32),
    m__law_after := (PySem.W.mg_of X G a33),
    m__law_any := (PySem.W.mg_of X G a34),
    m__law_number := (PySem.W.mg_of X G a35),
    m__law_tells := (PySem.W.mg_of X G a36),
    m_law := (PySem.W.mg_of X G a37),
    m_Chart := (PySem.W.mg_of X G aC_Chart),
    m_Move := (PySem.W.mg_of X G aC_Move),
    m_Machine := (PySem.W.mg_of X G aC_Machine),
    m_Lamp := (PySem.W.mg_of X G aC_Lamp),
    m_Sure := (PySem.W.mg_of X G aC_Sure),
    m_Not := (PySem.W.mg_of X G aC_Not),
    m_And := (PySem.W.mg_of X G aC_And),
    m_Either := (PySem.W.mg_of X G aC_Either),
    m_Or := (PySem.W.mg_of X G aC_Or),
    f_Machine___init__ := (_),
    d_Machine___init__ := (_),
    F_Machine___init__ := (fun_mk (st := (inClass (top 12) 0)) l0 c0 k0),
    b_Machine___init__ := ((fun_mk (st := (inClass (top 12) 0)) l0 c0 k0).binds (ps := ["self", "names", "starts", "bads", "moves"]) fun _ _ _ _ _ _ us hl => match us, hl with | [_, _, _, _, _], _ => rfl),
    f_is_whole := (_),
    d_is_whole := (_),
    F_is_whole := (fun_mk (st := (top 5)) l1 c1 k1),
    b_is_whole := ((fun_mk (st := (top 5)) l1 c1 k1).binds (ps := ["thing"]) fun _ _ _ _ _ _ us hl => match us, hl with | [_], _ => rfl),
    f_is_crowd := (_),
    d_is_crowd := (_),
    F_is_crowd := (fun_mk (st := (top 6)) l2 c2 k2),
    b_is_crowd := ((fun_mk (st := (top 6)) l2 c2 k2).binds (ps := ["many", "thing"]) fun _ _ _ _ _ _ us hl => match us, hl with | [_, _], _ => rfl),
    f_stands_of := (_),
    d_stands_of := (_),
    F_stands_of := (fun_mk (st := (top 7)) l3 c3 k3),
    b_stands_of := ((fun_mk (st := (top 7)) l3 c3 k3).binds (ps := ["crowd"]) fun _ _ _ _ _ _ us hl => match us, hl with | [_], _ => rfl),
    f_leading_back := (_),
    d_leading_back := (_),
    F_leading_back := (fun_mk (st := (top 8)) l4 c4 k4),
    b_leading_back := ((fun_mk (st := (top 8)) l4 c4 k4).binds (ps := ["after"]) fun _ _ _ _ _ _ us hl => match us, hl with | [_], _ => rfl),
    f_Chart___init__ := (_),
    d_Chart___init__ := (_),
    F_Chart___init__ := (fun_mk (st := (inClass (top 9) 0)) l5 c5 k5),
    b_Chart___init__ := ((fun_mk (st := (inClass (top 9) 0)) l5 c5 k5).binds (ps := ["self", "many", "starts", "bads", "after"]) fun _ _ _ _ _ _ us hl => match us, hl with | [_, _, _, _, _], _ => rfl),
    f_all_stands := (_),
    d_all_stands := (_),
    F_all_stands := (fun_mk (st := (top 14)) l6 c6 k6),
    b_all_stands := ((fun_mk (st := (top 14)) l6 c6 k6).binds (ps := ["many"]) fun _ _ _ _ _ _ us hl => match us, hl with | [_], _ => rfl),
    f_Lamp_crowd := (_),
    d_Lamp_crowd := (_),
    F_Lamp_crowd := (fun_mk (st := (inClass (top 16) 2)) l7 c7 k7),
    b_Lamp_crowd := ((fun_mk (st := (inClass (top 16) 2)) l7 c7 k7).binds (ps := ["self", "many"]) fun _ _ _ _ _ _ us hl => match us, hl with | [_, _], _ => rfl),
    f_Sure_crowd := (_),
    d_Sure_crowd := (_),
    F_Sure_crowd := (fun_mk (st := (inClass (top 17) 2)) l8 c8 k8),
    b_Sure_crowd := ((fun_mk (st := (inClass (top 17) 2)) l8 c8 k8).binds (ps := ["self", "many"]) fun _ _ _ _ _ _ us hl => match us, hl with | [_, _], _ => rfl),
    f_And_crowd := (_),
    d_And_crowd := (_),
    F_And_crowd := (fun_mk (st := (inClass (top 20) 3)) l9 c9 k9),
    b_And_crowd := ((fun_mk (st := (inClass (top 20) 3)) l9 c9 k9).binds (ps := ["self", "many"]) fun _ _ _ _ _ _ us hl => match us, hl with | [_, _], _ => rfl),
    f_Either_crowd := (_),
    d_Either_crowd := (_),
    F_Either_crowd := (fun_mk (st := (inClass (top 21) 3)) l10 c10 k10),
    b_Either_crowd := ((fun_mk (st := (inClass (top 21) 3)) l10 c10 k10).binds (ps := ["self", "many"]) fun _ _ _ _ _ _ us hl => match us, hl with | [_, _], _ => rfl),
    f_Not_crowd := (_),
    d_Not_crowd := (_),
    F_Not_crowd := (fun_mk (st := (inClass (top 18) 2)) l11 c11 k11),
    b_Not_crowd := ((fun_mk (st := (inClass (top 18) 2)) l11 c11 k11).binds (ps := ["self", "many"]) fun _ _ _ _ _ _ us hl => match us, hl with | [_, _], _ => rfl),
    f_Or_crowd := (_),
    d_Or_crowd := (_),
    F_Or_crowd := (fun_mk (st := (inClass (top 22) 3)) l12 c12 k12),
    b_Or_crowd := ((fun_mk (st := (inClass (top 22) 3)) l12 c12 k12).binds (ps := ["self", "many"]) fun _ _ _ _ _ _ us hl => match us, hl with | [_, _], _ => rfl),
    f_Machine_any_of := (_),
    d_Machine_any_of := (_),
    F_Machine_any_of := (fun_mk (st := (inClass (top 12) 1)) l13 c13 k13),
    b_Machine_any_of := ((fun_mk (st := (inClass (top 12) 1)) l13 c13 k13).binds (ps := ["self", "formulas"]) fun _ _ _ _ _ _ us hl => match us, hl with | [_, _], _ => rfl),
    f_Move_onward_from_all := (_),
    d_Move_onward_from_all := (_),
    F_Move_onward_from_all := (fun_mk (st := (inClass (top 11) 3)) l14 c14 k14),
    b_Move_onward_from_all := ((fun_mk (st := (inClass (top 11) 3)) l14 c14 k14).binds (ps := ["self", "many"]) fun _ _ _ _ _ _ us hl => match us, hl with | [_, _], _ => rfl),
    f_Machine_chart := (_),
    d_Machine_chart := (_),
    F_Machine_chart := (fun_mk (st := (inClass (top 12) 2)) l15 c15 k15),
    b_Machine_chart := ((fun_mk (st := (inClass (top 12) 2)) l15 c15 k15).binds (ps := ["self"]) fun _ _ _ _ _ _ us hl => match us, hl with | [_], _ => rfl),
    f_Move___init__ := (_),
    d_Move___init__ := (_),
    F_Move___init__ := (fun_mk (st := (inClass (top 11) 0)) l16 c16 k16),
    b_Move___init__ := ((fun_mk (st := (inClass (top 11) 0)) l16 c16 k16).binds (ps := ["self", "guard", "changes"]) fun _ _ _ _ _ _ us hl => match us, hl with | [_, _, _], _ => rfl),
    f__law_digit := (_),
    d__law_digit := (_),
    F__law_digit := (fun_mk (st := (top 31)) l17 c17 k17),
    b__law_digit := ((fun_mk (st := (top 31)) l17 c17 k17).binds (ps := ["_law_bag", "_law_many"]) fun _ _ _ _ _ _ us hl => match us, hl with | [_, _], _ => rfl),
    f__law_any_moves := (_),
    d__law_any_moves := (_),
    F__law_any_moves := (fun_mk (st := (top 32)) l18 c18 k18),
    b__law_any_moves := ((fun_mk (st := (top 32)) l18 c18 k18).binds (ps := ["_law_pile_here", "_law_many", "_law_bag"]) fun _ _ _ _ _ _ us hl => match us, hl with | [_, _, _], _ => rfl),
    f__law_any_picked := (_),
    d__law_any_picked := (_),
    F__law_any_picked := (fun_mk (st := (top 33)) l19 c19 k19),
    b__law_any_picked := ((fun_mk (st := (top 33)) l19 c19 k19).binds (ps := ["_law_pile_here", "_law_bag"]) fun _ _ _ _ _ _ us hl => match us, hl with | [_, _], _ => rfl),
    f__law_cell_at := (_),
    d__law_cell_at := (_),
    F__law_cell_at := (fun_mk (st := (top 24)) l20 c20 k20),
    b__law_cell_at := ((fun_mk (st := (top 24)) l20 c20 k20).binds (ps := ["_law_script", "_law_k"]) fun _ _ _ _ _ _ us hl => match us, hl with | [_, _], _ => rfl),
    f__law_moves := (_),
    d__law_moves := (_),
    F__law_moves := (fun_mk (st := (top 30)) l21 c21 k21),
    b__law_moves := ((fun_mk (st := (top 30)) l21 c21 k21).binds (ps := ["_law_pile_here", "_law_many", "_law_count", "_law_cell"]) fun _ _ _ _ _ _ us hl => match us, hl with | [_, _, _, _], _ => rfl),
    f__law_picked := (_),
    d__law_picked := (_),
    F__law_picked := (fun_mk (st := (top 29)) l22 c22 k22),
    b__law_picked := ((fun_mk (st := (top 29)) l22 c22 k22).binds (ps := ["_law_pile_here", "_law_count", "_law_cell", "_law_step"]) fun _ _ _ _ _ _ us hl => match us, hl with | [_, _, _, _], _ => rfl),
    f_Not___init__ := (_),
    d_Not___init__ := (_),
    F_Not___init__ := (fun_mk (st := (inClass (top 18) 0)) l23 c23 k23),
    b_Not___init__ := ((fun_mk (st := (inClass (top 18) 0)) l23 c23 k23).binds (ps := ["self", "part"]) fun _ _ _ _ _ _ us hl => match us, hl with | [_, _], _ => rfl),
    f_Joined___init__ := (_),
    d_Joined___init__ := (_),
    F_Joined___init__ := (fun_mk (st := (inClass (top 19) 0)) l24 c24 k24),
    b_Joined___init__ := ((fun_mk (st := (inClass (top 19) 0)) l24 c24 k24).binds (ps := ["self", "parts"]) fun _ _ _ _ _ _ us hl => match us, hl with | [_, _], _ => rfl),
    f__law_joined := (_),
    d__law_joined := (_),
    F__law_joined := (fun_mk (st := (top 27)) l25 c25 k25),
    b__law_joined := ((fun_mk (st := (top 27)) l25 c25 k25).binds (ps := ["_law_kind", "_law_pairs"]) fun _ _ _ _ _ _ us hl => match us, hl with | [_, _], _ => rfl),
    f_Lamp___init__ := (_),
    d_Lamp___init__ := (_),
    F_Lamp___init__ := (fun_mk (st := (inClass (top 16) 0)) l26 c26 k26),
    b_Lamp___init__ := ((fun_mk (st := (inClass (top 16) 0)) l26 c26 k26).binds (ps := ["self", "at"]) fun _ _ _ _ _ _ us hl => match us, hl with | [_, _], _ => rfl),
    f_Sure___init__ := (_),
    d_Sure___init__ := (_),
    F_Sure___init__ := (fun_mk (st := (inClass (top 17) 0)) l27 c27 k27),
    b_Sure___init__ := ((fun_mk (st := (inClass (top 17) 0)) l27 c27 k27).binds (ps := ["self", "truth"]) fun _ _ _ _ _ _ us hl => match us, hl with | [_, _], _ => rfl),
    f__law_lit := (_),
    d__law_lit := (_),
    F__law_lit := (fun_mk (st := (top 25)) l28 c28 k28),
    b__law_lit := ((fun_mk (st := (top 25)) l28 c28 k28).binds (ps := ["_law_lamp", "_law_many"]) fun _ _ _ _ _ _ us hl => match us, hl with | [_, _], _ => rfl),
    f__law_leaf := (_),
    d__law_leaf := (_),
    F__law_leaf := (fun_mk (st := (top 26)) l29 c29 k29),
    b__law_leaf := ((fun_mk (st := (top 26)) l29 c29 k29).binds (ps := ["_law_kind", "_law_more", "_law_many"]) fun _ _ _ _ _ _ us hl => match us, hl with | [_, _, _], _ => rfl),
    f__law_pile := (_),
    d__law_pile := (_),
    F__law_pile := (fun_mk (st := (top 28)) l30 c30 k30),
    b__law_pile := ((fun_mk (st := (top 28)) l30 c30 k30).binds (ps := ["_law_cells", "_law_many"]) fun _ _ _ _ _ _ us hl => match us, hl with | [_, _], _ => rfl),
    f_Chart_ahead := (_),
    d_Chart_ahead := (_),
    F_Chart_ahead := (fun_mk (st := (inClass (top 9) 1)) l31 c31 k31),
    b_Chart_ahead := ((fun_mk (st := (inClass (top 9) 1)) l31 c31 k31).binds (ps := ["self", "crowd"]) fun _ _ _ _ _ _ us hl => match us, hl with | [_, _], _ => rfl),
    f__law_onward := (_),
    d__law_onward := (_),
    F__law_onward := (fun_mk (st := (top 34)) l32 c32 k32),
    b__law_onward := ((fun_mk (st := (top 34)) l32 c32 k32).binds (ps := ["_law_stand", "_law_changes"]) fun _ _ _ _ _ _ us hl => match us, hl with | [_, _], _ => rfl),
    f__law_after := (_),
    d__law_after := (_),
    F__law_after := (fun_mk (st := (top 35)) l33 c33 k33),
    b__law_after := ((fun_mk (st := (top 35)) l33 c33 k33).binds (ps := ["_law_stand", "_law_moves_here"]) fun _ _ _ _ _ _ us hl => match us, hl with | [_, _], _ => rfl),
    f__law_any := (_),
    d__law_any := (_),
    F__law_any := (fun_mk (st := (top 36)) l34 c34 k34),
    b__law_any := ((fun_mk (st := (top 36)) l34 c34 k34).binds (ps := ["_law_pairs"]) fun _ _ _ _ _ _ us hl => match us, hl with | [_], _ => rfl),
    f__law_number := (_),
    d__law_number := (_),
    F__law_number := (fun_mk (st := (top 37)) l35 c35 k35),
    b__law_number := ((fun_mk (st := (top 37)) l35 c35 k35).binds (ps := ["_law_found", "_law_due"]) fun _ _ _ _ _ _ us hl => match us, hl with | [_, _], _ => rfl),
    f__law_tells := (_),
    d__law_tells := (_),
    F__law_tells := (fun_mk (st := (top 38)) l36 c36 k36),
    b__law_tells := ((fun_mk (st := (top 38)) l36 c36 k36).binds (ps := ["_law_chart", "_law_many", "_law_starts", "_law_bads", "_law_moves_here"]) fun _ _ _ _ _ _ us hl => match us, hl with | [_, _, _, _, _], _ => rfl),
    f_law := (_),
    d_law := (_),
    F_law := (fun_mk (st := (top 39)) l37 c37 k37),
    b_law := ((fun_mk (st := (top 39)) l37 c37 k37).binds (ps := ["_law_script"]) fun _ _ _ _ _ _ us hl => match us, hl with | [_], _ => rfl),
    l_Chart := (⟨pg_Chart, hd_Chart, po_Chart, sa_Chart⟩),
    h_Chart := (⟨ha_Chart, hn_Chart, ht_Chart, hm_Chart⟩),
    k_Chart := (⟨mk_Chart, a5, i5, kc_Chart⟩),
    l_Move := (⟨pg_Move, hd_Move, po_Move, sa_Move⟩),
    k_Move := (⟨mk_Move, a16, i16, kc_Move⟩),
    l_Machine := (⟨pg_Machine, hd_Machine, po_Machine, sa_Machine⟩),
    k_Machine := (⟨mk_Machine, a0, i0, kc_Machine⟩),
    l_Lamp := (⟨pg_Lamp, hd_Lamp, po_Lamp, sa_Lamp⟩),
    k_Lamp := (⟨mk_Lamp, a26, i26, kc_Lamp⟩),
    l_Sure := (⟨pg_Sure, hd_Sure, po_Sure, sa_Sure⟩),
    k_Sure := (⟨mk_Sure, a27, i27, kc_Sure⟩),
    l_Not := (⟨pg_Not, hd_Not, po_Not, sa_Not⟩),
    k_Not := (⟨mk_Not, a23, i23, kc_Not⟩),
    l_And := (⟨pg_And, hd_And, po_And, sa_And⟩),
    k_And := (⟨mk_And, a24, i24, kc_And⟩),
    l_Either := (⟨pg_Either, hd_Either, po_Either, sa_Either⟩),
    k_Either := (⟨mk_Either, am_Either___init__, i24, kc_Either⟩),
    l_Or := (⟨pg_Or, hd_Or, po_Or, sa_Or⟩),
    k_Or := (⟨mk_Or, am_Or___init__, i24, kc_Or⟩),
    i_Chart_Chart := (kit_t kc1_Chart kt_Chart ki_Chart_Chart),
    a_And_parts := (nA_And_parts),
    a_Chart_back := (nA_Chart_back),
    a_Chart_bads := (nA_Chart_bads),
    a_Chart_forth := (nA_Chart_forth),
    a_Chart_many := (nA_Chart_many),
    a_Chart_starts := (nA_Chart_starts),
    a_Either_parts := (nA_Either_parts),
    a_Lamp_at := (nA_Lamp_at),
    a_Machine_bads := (nA_Machine_bads),
    a_Machine_moves := (nA_Machine_moves),
    a_Machine_names := (nA_Machine_names),
    a_Machine_starts := (nA_Machine_starts),
    a_Move_changes := (nA_Move_changes),
    a_Move_guard := (nA_Move_guard),
    a_Not_part := (nA_Not_part),
    a_Or_parts := (nA_Or_parts),
    a_Sure_truth := (nA_Sure_truth),
    t_And_crowd := (⟨a9, i9, k9⟩),
    t_Chart_ahead := (⟨a31, i31, k31⟩),
    t_Either_crowd := (⟨a10, i10, k10⟩),
    t_Lamp_crowd := (⟨a7, i7, k7⟩),
    t_Machine_any_of := (⟨a13, i13, k13⟩),
    t_Machine_chart := (⟨a15, i15, k15⟩),
    t_Move_onward_from_all := (⟨a14, i14, k14⟩),
    t_Not_crowd := (⟨a11, i11, k11⟩),
    t_Or_crowd := (⟨a12, i12, k12⟩),
    t_Sure_crowd := (⟨a8, i8, k8⟩),
    m_NoChart := (PySem.W.mg_of X G aC_NoChart),
    e_NoChart := (⟨xx_NoChart, xk_NoChart, xb_NoChart, xt_NoChart⟩),
    n_bool := (PySem.W.mg_none_of X G z_bool),
    n_enumerate := (PySem.W.mg_none_of X G z_enumerate),
    n_int := (PySem.W.mg_none_of X G z_int),
    n_isinstance := (PySem.W.mg_none_of X G z_isinstance),
    n_len := (PySem.W.mg_none_of X G z_len),
    n_list := (PySem.W.mg_none_of X G z_list),
    n_max := (PySem.W.mg_none_of X G z_max),
    n_range := (PySem.W.mg_none_of X G z_range),
    n_reversed := (PySem.W.mg_none_of X G z_reversed),
    n_sum := (PySem.W.mg_none_of X G z_sum) })⟩
end E
open PySem PySem.W PyProof.Rows
set_option maxRecDepth 100000 in
set_option maxHeartbeats 0 in
theorem PySem.Challenge.cw_evernever_k16_chart_of_a_machine_holds : PySem.Challenge.rw_evernever_k16_chart_of_a_machine.Holds := by
  w_on; o_law; k_head; (case hw => w_witness2)
  k_fill
  refine L2.walk_of (l := PySem.Challenge.rw_evernever_k16_chart_of_a_machine) (n := 63) (k := 105) (x := "_law_script") (CX := fun _ => L2.CX0) (sp := fun w => E.spLaw _) rfl (by decide) rfl ⟨rfl, by decide, by decide⟩ (fun w h Y => PySem.W.kIn_of Y) ?F (fun _ _ a ns hl _ hS => ⟨a, ns, rfl, hS, hl, fun _ => rfl⟩) (fun _ _ _ _ _ h => h)
  case F =>
    intro w mg fa h KX G hmg
    refine' E.all_mk KX G hmg ?a1 ?a2 ?a3 ?a4 ?a6 ?a17 ?a18 ?a19 ?a20 ?a21 ?a22 ?a25 ?a28 ?a29 ?a30 ?a32 ?a33 ?a34 ?a35 ?a36 ?a37 ?aC_Chart ?a5 ?i5 ?a31 ?i31 ?aC_Move ?a14 ?i14 ?a16 ?i16 ?aC_Machine ?a0 ?i0 ?a13 ?i13 ?a15 ?i15 ?aC_Lamp ?a7 ?i7 ?a26 ?i26 ?aC_Sure ?a8 ?i8 ?a27 ?i27 ?aC_Not ?a11 ?i11 ?a23 ?i23 ?aC_And ?a9 ?i9 ?a24 ?i24 ?aC_Either ?a10 ?i10 ?aC_Or ?a12 ?i12 ?l0 ?c0 ?k0 ?l1 ?c1 ?k1 ?l2 ?c2 ?k2 ?l3 ?c3 ?k3 ?l4 ?c4 ?k4 ?l5 ?c5 ?k5 ?l6 ?c6 ?k6 ?l7 ?c7 ?k7 ?l8 ?c8 ?k8 ?l9 ?c9 ?k9 ?l10 ?c10 ?k10 ?l11 ?c11 ?k11 ?l12 ?c12 ?k12 ?l13 ?c13 ?k13 ?l14 ?c14 ?k14 ?l15 ?c15 ?k15 ?l16 ?c16 ?k16 ?l17 ?c17 ?k17 ?l18 ?c18 ?k18 ?l19 ?c19 ?k19 ?l20 ?c20 ?k20 ?l21 ?c21 ?k21 ?l22 ?c22 ?k22 ?l23 ?c23 ?k23 ?l24 ?c24 ?k24 ?l25 ?c25 ?k25 ?l26 ?c26 ?k26 ?l27 ?c27 ?k27 ?l28 ?c28 ?k28 ?l29 ?c29 ?k29 ?l30 ?c30 ?k30 ?l31 ?c31 ?k31 ?l32 ?c32 ?k32 ?l33 ?c33 ?k33 ?l34 ?c34 ?k34 ?l35 ?c35 ?k35 ?l36 ?c36 ?k36 ?l37 ?c37 ?k37 ?pg_Chart ?hd_Chart ?po_Chart ?sa_Chart ?ha_Chart ?hn_Chart ?ht_Chart ?hm_Chart ?mk_Chart ?kc_Chart ?pg_Move ?hd_Move ?po_Move ?sa_Move ?mk_Move ?kc_Move ?pg_Machine ?hd_Machine ?po_Machine ?sa_Machine ?mk_Machine ?kc_Machine ?pg_Lamp ?hd_Lamp ?po_Lamp ?sa_Lamp ?mk_Lamp ?kc_Lamp ?pg_Sure ?hd_Sure ?po_Sure ?sa_Sure ?mk_Sure ?kc_Sure ?pg_Not ?hd_Not ?po_Not ?sa_Not ?mk_Not ?kc_Not ?pg_And ?hd_And ?po_And ?sa_And ?mk_And ?kc_And ?pg_Either ?hd_Either ?po_Either ?sa_Either ?mk_Either ?kc_Either ?am_Either___init__ ?pg_Or ?hd_Or ?po_Or ?sa_Or ?mk_Or ?kc_Or ?am_Or___init__ ?aC_NoChart ?kc1_Chart ?kt_Chart ?ks_Chart ?ki_Chart_Chart ?nA_And_parts ?nA_Chart_back ?nA_Chart_bads ?nA_Chart_forth ?nA_Chart_many ?nA_Chart_starts ?nA_Either_parts ?nA_Lamp_at ?nA_Machine_bads ?nA_Machine_moves ?nA_Machine_names ?nA_Machine_starts ?nA_Move_changes ?nA_Move_guard ?nA_Not_part ?nA_Or_parts ?nA_Sure_truth ?xx_NoChart ?xk_NoChart ?xb_NoChart ?xt_NoChart ?z_bool ?z_enumerate ?z_int ?z_isinstance ?z_len ?z_list ?z_max ?z_range ?z_reversed ?z_sum
    (case a1 => k_is)
    (case a2 => k_is)
    (case a3 => k_is)
    (case a4 => k_is)
    (case a6 => k_is)
    (case a17 => k_is)
    (case a18 => k_is)
    (case a19 => k_is)
    (case a20 => k_is)
    (case a21 => k_is)
    (case a22 => k_is)
    (case a25 => k_is)
    (case a28 => k_is)
    (case a29 => k_is)
    (case a30 => k_is)
    (case a32 => k_is)
    (case a33 => k_is)
    (case a34 => k_is)
    (case a35 => k_is)
    (case a36 => k_is)
    (case a37 => k_is)
    (case aC_Chart => k_is)
    (case a5 => k_is)
    (case i5 => k_is)
    (case a31 => k_is)
    (case i31 => k_is)
    (case aC_Move => k_is)
    (case a14 => k_is)
    (case i14 => k_is)
    (case a16 => k_is)
    (case i16 => k_is)
    (case aC_Machine => k_is)
    (case a0 => k_is)
    (case i0 => k_is)
    (case a13 => k_is)
    (case i13 => k_is)
    (case a15 => k_is)
    (case i15 => k_is)
    (case aC_Lamp => k_is)
    (case a7 => k_is)
    (case i7 => k_is)
    (case a26 => k_is)
    (case i26 => k_is)
    (case aC_Sure => k_is)
    (case a8 => k_is)
    (case i8 => k_is)
    (case a27 => k_is)
    (case i27 => k_is)
    (case aC_Not => k_is)
    (case a11 => k_is)
    (case i11 => k_is)
    (case a23 => k_is)
    (case i23 => k_is)
    (case aC_And => k_is)
    (case a9 => k_is)
    (case i9 => k_is)
    (case a24 => k_is)
    (case i24 => k_is)
    (case aC_Either => k_is)
    (case a10 => k_is)
    (case i10 => k_is)
    (case aC_Or => k_is)
    (case a12 => k_is)
    (case i12 => k_is)
    (case l0 => k_is)
    (case c0 => k_is)
    (case k0 => k_is)
    (case l1 => k_is)
    (case c1 => k_is)
    (case k1 => k_is)
    (case l2 => k_is)
    (case c2 => k_is)
    (case k2 => k_is)
    (case l3 => k_is)
    (case c3 => k_is)
    (case k3 => k_is)
    (case l4 => k_is)
    (case c4 => k_is)
    (case k4 => k_is)
    (case l5 => k_is)
    (case c5 => k_is)
    (case k5 => k_is)
    (case l6 => k_is)
    (case c6 => k_is)
    (case k6 => k_is)
    (case l7 => k_is)
    (case c7 => k_is)
    (case k7 => k_is)
    (case l8 => k_is)
    (case c8 => k_is)
    (case k8 => k_is)
    (case l9 => k_is)
    (case c9 => k_is)
    (case k9 => k_is)
    (case l10 => k_is)
    (case c10 => k_is)
    (case k10 => k_is)
    (case l11 => k_is)
    (case c11 => k_is)
    (case k11 => k_is)
    (case l12 => k_is)
    (case c12 => k_is)
    (case k12 => k_is)
    (case l13 => k_is)
    (case c13 => k_is)
    (case k13 => k_is)
    (case l14 => k_is)
    (case c14 => k_is)
    (case k14 => k_is)
    (case l15 => k_is)
    (case c15 => k_is)
    (case k15 => k_is)
    (case l16 => k_is)
    (case c16 => k_is)
    (case k16 => k_is)
    (case l17 => k_is)
    (case c17 => k_is)
    (case k17 => k_is)
    (case l18 => k_is)
    (case c18 => k_is)
    (case k18 => k_is)
    (case l19 => k_is)
    (case c19 => k_is)
    (case k19 => k_is)
    (case l20 => k_is)
    (case c20 => k_is)
    (case k20 => k_is)
    (case l21 => k_is)
    (case c21 => k_is)
    (case k21 => k_is)
    (case l22 => k_is)
    (case c22 => k_is)
    (case k22 => k_is)
    (case l23 => k_is)
    (case c23 => k_is)
    (case k23 => k_is)
    (case l24 => k_is)
    (case c24 => k_is)
    (case k24 => k_is)
    (case l25 => k_is)
    (case c25 => k_is)
    (case k25 => k_is)
    (case l26 => k_is)
    (case c26 => k_is)
    (case k26 => k_is)
    (case l27 => k_is)
    (case c27 => k_is)
    (case k27 => k_is)
    (case l28 => k_is)
    (case c28 => k_is)
    (case k28 => k_is)
    (case l29 => k_is)
    (case c29 => k_is)
    (case k29 => k_is)
    (case l30 => k_is)
    (case c30 => k_is)
    (case k30 => k_is)
    (case l31 => k_is)
    (case c31 => k_is)
    (case k31 => k_is)
    (case l32 => k_is)
    (case c32 => k_is)
    (case k32 => k_is)
    (case l33 => k_is)
    (case c33 => k_is)
    (case k33 => k_is)
    (case l34 => k_is)
    (case c34 => k_is)
    (case k34 => k_is)
    (case l35 => k_is)
    (case c35 => k_is)
    (case k35 => k_is)
    (case l36 => k_is)
    (case c36 => k_is)
    (case k36 => k_is)
    (case l37 => k_is)
    (case c37 => k_is)
    (case k37 => k_is)
    (case pg_Chart => k_is)
    (case hd_Chart => k_is)
    (case po_Chart => k_is)
    (case sa_Chart => k_is)
    (case ha_Chart => k_is)
    (case hn_Chart => k_is)
    (case ht_Chart => k_is)
    (case hm_Chart => k_is)
    (case mk_Chart => k_is)
    (case kc_Chart => k_is)
    (case pg_Move => k_is)
    (case hd_Move => k_is)
    (case po_Move => k_is)
    (case sa_Move => k_is)
    (case mk_Move => k_is)
    (case kc_Move => k_is)
    (case pg_Machine => k_is)
    (case hd_Machine => k_is)
    (case po_Machine => k_is)
    (case sa_Machine => k_is)
    (case mk_Machine => k_is)
    (case kc_Machine => k_is)
    (case pg_Lamp => k_is)
    (case hd_Lamp => k_is)
    (case po_Lamp => k_is)
    (case sa_Lamp => k_is)
    (case mk_Lamp => k_is)
    (case kc_Lamp => k_is)
    (case pg_Sure => k_is)
    (case hd_Sure => k_is)
    (case po_Sure => k_is)
    (case sa_Sure => k_is)
    (case mk_Sure => k_is)
    (case kc_Sure => k_is)
    (case pg_Not => k_is)
    (case hd_Not => k_is)
    (case po_Not => k_is)
    (case sa_Not => k_is)
    (case mk_Not => k_is)
    (case kc_Not => k_is)
    (case pg_And => k_is)
    (case hd_And => k_is)
    (case po_And => k_is)
    (case sa_And => k_is)
    (case mk_And => k_is)
    (case kc_And => k_is)
    (case pg_Either => k_is)
    (case hd_Either => k_is)
    (case po_Either => k_is)
    (case sa_Either => k_is)
    (case mk_Either => k_is)
    (case kc_Either => k_is)
    (case am_Either___init__ => k_is)
    (case pg_Or => k_is)
    (case hd_Or => k_is)
    (case po_Or => k_is)
    (case sa_Or => k_is)
    (case mk_Or => k_is)
    (case kc_Or => k_is)
    (case am_Or___init__ => k_is)
    (case aC_NoChart => k_is)
    (case kc1_Chart => k_is)
    (case kt_Chart => k_is)
    (case ks_Chart => k_is)
    (case ki_Chart_Chart => k_is)
    (case nA_And_parts => k_is)
    (case nA_Chart_back => k_is)
    (case nA_Chart_bads => k_is)
    (case nA_Chart_forth => k_is)
    (case nA_Chart_many => k_is)
    (case nA_Chart_starts => k_is)
    (case nA_Either_parts => k_is)
    (case nA_Lamp_at => k_is)
    (case nA_Machine_bads => k_is)
    (case nA_Machine_moves => k_is)
    (case nA_Machine_names => k_is)
    (case nA_Machine_starts => k_is)
    (case nA_Move_changes => k_is)
    (case nA_Move_guard => k_is)
    (case nA_Not_part => k_is)
    (case nA_Or_parts => k_is)
    (case nA_Sure_truth => k_is)
    (case xx_NoChart => k_exc)
    (case xk_NoChart => k_is)
    (case xb_NoChart => k_is)
    (case xt_NoChart => k_is)
    (case z_bool => k_is)
    (case z_enumerate => k_is)
    (case z_int => k_is)
    (case z_isinstance => k_is)
    (case z_len => k_is)
    (case z_list => k_is)
    (case z_max => k_is)
    (case z_range => k_is)
    (case z_reversed => k_is)
    (case z_sum => k_is)
#print axioms PySem.Challenge.cw_evernever_k16_chart_of_a_machine_holds
