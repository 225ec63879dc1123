import PyProof.Rows.All
import Wide.All
import OpenK.AllK
import Wide.FinOn
import HandS.ForMost
import HandS.IsInst
import HandS.WideBits
import HandS.Steps
import PySem.Challenge.RW_evernever_k22_lamps_of_a_bar
set_option Elab.async false
set_option linter.all false
set_option maxRecDepth 100000
set_option maxHeartbeats 8000000
namespace Z
open PySem PySem.Spec PyProof.Rows L2

/-! ### Option as the monad of a mirror: what an answer is wanted for -/
def OP {α : Type} (m : Option α) (A : α → Prop) : Prop := match m with
  | some a => A a
  | none => False
theorem OP.bind {α β : Type} {m : Option α} {k : α → Option β} {A : β → Prop} (h : OP (m.bind k) A) : ∃ x, m = some x ∧ OP (k x) A := by
  cases m with
  | none => exact h.elim
  | some x => exact ⟨x, rfl, h⟩
theorem OP.of {α β : Type} {m : Option α} {k : α → Option β} {A : β → Prop} (h : OP (m.bind k) A) : OP m (fun x => OP (k x) A) := by
  cases m with
  | none => exact h.elim
  | some x => exact h
theorem OP.some {α : Type} {a : α} {A : α → Prop} (h : OP (some a) A) : A a := h
theorem OP.get {α : Type} {m : Option α} {A : α → Prop} (h : OP m A) : ∃ a, m = .some a ∧ A a := by
  cases m with
  | none => exact h.elim
  | some x => exact ⟨x, rfl, h⟩
theorem OP.mk {α : Type} {m : Option α} {a : α} {A : α → Prop} (e : m = .some a) (h : A a) : OP m A := by subst e; exact h
theorem OP.mono {α : Type} {m : Option α} {A B : α → Prop} (h : OP m A) (f : ∀ a, A a → B a) : OP m B := by
  cases m with
  | none => exact h.elim
  | some x => exact f _ h
/-- a guard -/
@[irreducible] def grd {β : Type} (c : Prop) [Decidable c] (k : Option β) : Option β := if c then k else none
theorem OP.grd {β : Type} {c : Prop} {_ : Decidable c} {k : Option β} {A : β → Prop} (h : OP (Z.grd c k) A) : c ∧ OP k A := by
  unfold Z.grd at h
  by_cases hc : c
  · rw [if_pos hc] at h
    exact ⟨hc, h⟩
  · rw [if_neg hc] at h
    exact h.elim
theorem grd_some {β : Type} {c : Prop} {_ : Decidable c} {k : Option β} {r : β} (h : Z.grd c k = some r) : c ∧ k = some r := by
  unfold Z.grd at h
  by_cases hc : c
  · rw [if_pos hc] at h
    exact ⟨hc, h⟩
  · rw [if_neg hc] at h
    cases h
theorem grd_of {β : Type} {c : Prop} [Decidable c] {k : Option β} (h : c) : Z.grd c k = k := by
  unfold Z.grd
  rw [if_pos h]
theorem bind_some {α β : Type} {m : Option α} {k : α → Option β} {r : β} (h : m.bind k = some r) : ∃ x, m = some x ∧ k x = some r := by
  cases m with
  | none => cases h
  | some x => exact ⟨x, rfl, h⟩
/-- a mirror's test -/
@[irreducible] def ifo {α : Type} (c : Bool) (m n : Option α) : Option α := if c = true then m else n
theorem ifo_eq {α : Type} (c : Bool) (m n : Option α) : ifo c m n = if c = true then m else n := by unfold ifo; rfl
theorem ifo_t {α : Type} {c : Bool} {m n : Option α} (h : c = true) : ifo c m n = m := by rw [ifo_eq, if_pos h]
theorem ifo_f {α : Type} {c : Bool} {m n : Option α} (h : c = false) : ifo c m n = n := by rw [ifo_eq, if_neg (by rw [h]; exact Bool.false_ne_true)]
/-- a mirror's loops: without, with an early answer -/
def forO' {α σ : Type} (body : α → σ → Option σ) : List α → σ → Option σ
  | [], s => some s
  | x :: xs, s => (body x s).bind fun s' => forO' body xs s'
@[irreducible] def forO {α σ : Type} (body : α → σ → Option σ) (xs : List α) (s : σ) : Option σ := forO' body xs s
def forR' {α σ ρ : Type} (body : α → σ → Option (σ ⊕ ρ)) : List α → σ → Option (σ ⊕ ρ)
  | [], s => some (.inl s)
  | x :: xs, s => (body x s).bind fun r => match r with
    | .inl s' => forR' body xs s'
    | .inr v => some (.inr v)
@[irreducible] def forR {α σ ρ : Type} (body : α → σ → Option (σ ⊕ ρ)) (xs : List α) (s : σ) : Option (σ ⊕ ρ) := forR' body xs s
def whileO' {σ : Type} (c : σ → Option Bool) (body : σ → Option σ) : Nat → σ → Option σ
  | 0, _ => none
  | n + 1, s => (c s).bind fun b => if b = true then (body s).bind fun s' => whileO' c body n s' else some s
@[irreducible] def whileO {σ : Type} (c : σ → Option Bool) (body : σ → Option σ) (n : Nat) (s : σ) : Option σ := whileO' c body n s
def whileR' {σ ρ : Type} (c : σ → Option Bool) (body : σ → Option (σ ⊕ ρ)) : Nat → σ → Option (σ ⊕ ρ)
  | 0, _ => none
  | n + 1, s => (c s).bind fun b => if b = true then (body s).bind fun r => match r with
    | .inl s' => whileR' c body n s'
    | .inr v => some (.inr v) else some (.inl s)
@[irreducible] def whileR {σ ρ : Type} (c : σ → Option Bool) (body : σ → Option (σ ⊕ ρ)) (n : Nat) (s : σ) : Option (σ ⊕ ρ) := whileR' c body n s
theorem forO_nil {α σ : Type} {body : α → σ → Option σ} {s : σ} : forO body [] s = some s := by unfold forO; rfl
theorem forO_cons {α σ : Type} {body : α → σ → Option σ} {x : α} {xs : List α} {s : σ} : forO body (x :: xs) s = (body x s).bind fun s' => forO body xs s' := by unfold forO; rfl
theorem forR_nil {α σ ρ : Type} {body : α → σ → Option (σ ⊕ ρ)} {s : σ} : forR body [] s = some (.inl s) := by unfold forR; rfl
theorem forR_cons {α σ ρ : Type} {body : α → σ → Option (σ ⊕ ρ)} {x : α} {xs : List α} {s : σ} : forR body (x :: xs) s = (body x s).bind fun r => match r with
    | .inl s' => forR body xs s'
    | .inr v => some (.inr v) := by unfold forR; rfl
theorem whileO_zero {σ : Type} {c : σ → Option Bool} {body : σ → Option σ} {s : σ} : whileO c body 0 s = none := by unfold whileO; rfl
theorem whileO_succ {σ : Type} {c : σ → Option Bool} {body : σ → Option σ} {n : Nat} {s : σ} : whileO c body (n + 1) s = (c s).bind fun b => if b = true then (body s).bind fun s' => whileO c body n s' else some s := by unfold whileO; rfl
theorem whileR_zero {σ ρ : Type} {c : σ → Option Bool} {body : σ → Option (σ ⊕ ρ)} {s : σ} : whileR c body 0 s = none := by unfold whileR; rfl
theorem whileR_succ {σ ρ : Type} {c : σ → Option Bool} {body : σ → Option (σ ⊕ ρ)} {n : Nat} {s : σ} : whileR c body (n + 1) s = (c s).bind fun b => if b = true then (body s).bind fun r => match r with
    | .inl s' => whileR c body n s'
    | .inr v => some (.inr v) else some (.inl s) := by unfold whileR; rfl
def rangeI (lo : Int) (n : Nat) : List Int := (List.range n).map fun (i : Nat) => lo + (i : Int)

/-! ### a datum of Lean's at a value of the heap -/
structure Rep (K : PySem.W.Frag) (α : Type) where
  R : Hp → V → α → Prop
  mono : ∀ {H H' : Hp} {v : V} {x : α}, Same H H' → R H v x → R H' v x
abbrev RL {K : PySem.W.Frag} {α : Type} (τ : Rep K α) (H : Hp) (ws : List V) (xs : List α) : Prop := Paired (τ.R H) ws xs
theorem RL.mono {K : PySem.W.Frag} {α : Type} {τ : Rep K α} {H H' : Hp} (e : Same H H') : ∀ {ws : List V} {xs : List α}, RL τ H ws xs → RL τ H' ws xs
  | _, _, .nil => .nil
  | _, _, .cons a b => .cons (τ.mono e a) (RL.mono e b)
theorem RL.length {K : PySem.W.Frag} {α : Type} {τ : Rep K α} {H : Hp} {ws : List V} {xs : List α} (h : RL τ H ws xs) : ws.length = xs.length := Paired.length h
theorem RL.app {K : PySem.W.Frag} {α : Type} {τ : Rep K α} {H : Hp} : ∀ {ws ws' : List V} {xs xs' : List α}, RL τ H ws xs → RL τ H ws' xs' → RL τ H (ws ++ ws') (xs ++ xs')
  | _, _, _, _, .nil, s => s
  | _, _, _, _, .cons a b, s => .cons a (RL.app b s)
theorem RL.get {K : PySem.W.Frag} {α : Type} {τ : Rep K α} {H : Hp} : ∀ {ws : List V} {xs : List α} {i : Nat} {x : α}, RL τ H ws xs → xs[i]? = some x → ∃ w, ws[i]? = some w ∧ τ.R H w x
  | _, _, _, _, .nil, e => by simp at e
  | _, _, 0, _, .cons r _, e => by simp at e; subst e; exact ⟨_, rfl, r⟩
  | _, _, i + 1, x, .cons _ t, e => by
    obtain ⟨w, h1, h2⟩ := RL.get (i := i) (x := x) t (by simpa using e)
    exact ⟨w, by simpa using h1, h2⟩
theorem RL.set {K : PySem.W.Frag} {α : Type} {τ : Rep K α} {H : Hp} {v : V} {x : α} (r : τ.R H v x) : ∀ {ws : List V} {xs : List α} (i : Nat), RL τ H ws xs → RL τ H (ws.set i v) (xs.set i x)
  | _, _, _, .nil => .nil
  | _, _, 0, .cons _ t => .cons r t
  | _, _, i + 1, .cons q t => .cons q (RL.set r i t)
theorem RL.drop {K : PySem.W.Frag} {α : Type} {τ : Rep K α} {H : Hp} : ∀ {ws : List V} {xs : List α} (n : Nat), RL τ H ws xs → RL τ H (ws.drop n) (xs.drop n)
  | _, _, 0, r => r
  | _, _, _ + 1, .nil => .nil
  | _, _, n + 1, .cons _ t => RL.drop n t
theorem RL.take {K : PySem.W.Frag} {α : Type} {τ : Rep K α} {H : Hp} : ∀ {ws : List V} {xs : List α} (n : Nat), RL τ H ws xs → RL τ H (ws.take n) (xs.take n)
  | _, _, 0, _ => .nil
  | _, _, _ + 1, .nil => .nil
  | _, _, n + 1, .cons r t => .cons r (RL.take n t)
theorem RL.dropLast {K : PySem.W.Frag} {α : Type} {τ : Rep K α} {H : Hp} {ws : List V} {xs : List α} (h : RL τ H ws xs) : RL τ H ws.dropLast xs.dropLast := by
  rw [List.dropLast_eq_take, List.dropLast_eq_take, h.length]
  exact h.take _
theorem RL.reverse {K : PySem.W.Frag} {α : Type} {τ : Rep K α} {H : Hp} : ∀ {ws : List V} {xs : List α}, RL τ H ws xs → RL τ H ws.reverse xs.reverse
  | _, _, .nil => .nil
  | _, _, .cons r t => by
    rw [List.reverse_cons, List.reverse_cons]
    exact (RL.reverse t).app (.cons r .nil)
theorem RL.map {K : PySem.W.Frag} {α : Type} {τ : Rep K α} {H : Hp} (f : α → V) (hf : ∀ x, τ.R H (f x) x) : ∀ xs : List α, RL τ H (xs.map f) xs
  | [] => .nil
  | x :: xs => .cons (hf x) (RL.map f hf xs)
theorem RL.eqmap {K : PySem.W.Frag} {α : Type} {τ : Rep K α} {H : Hp} (f : α → V) (hf : ∀ v x, τ.R H v x → v = f x) : ∀ {ws : List V} {xs : List α}, RL τ H ws xs → ws = xs.map f
  | _, _, .nil => rfl
  | _, _, .cons r t => by
    rw [List.map_cons, hf _ _ r, RL.eqmap f hf t]

section
variable {K : PySem.W.Frag}
def qI : Rep K Int := ⟨fun _ v x => v = .int x, fun _ h => h⟩
def qB : Rep K Bool := ⟨fun _ v x => v = .bl x, fun _ h => h⟩
def qS : Rep K Str := ⟨fun _ v x => v = .str x, fun _ h => h⟩
def qU : Rep K Unit := ⟨fun _ v _ => v = .non, fun _ h => h⟩
def qOpt {α : Type} (τ : Rep K α) : Rep K (Option α) := ⟨fun H v x => match x with | none => v = .non | some y => v ≠ .non ∧ τ.R H v y, fun {H H' v x} e h => by
  cases x with
  | none => exact h
  | some y => exact ⟨h.1, τ.mono e h.2⟩⟩
def qT2 {α β : Type} (τ : Rep K α) (υ : Rep K β) : Rep K (α × β) := ⟨fun H v x => ∃ a w1 w2, v = .ref a ∧ H a = some (.tup [w1, w2]) ∧ τ.R H w1 x.1 ∧ υ.R H w2 x.2, fun {H H' v x} e h => by
  obtain ⟨a, w1, w2, h1, h2, h3, h4⟩ := h
  exact ⟨a, w1, w2, h1, e _ _ h2, τ.mono e h3, υ.mono e h4⟩⟩
def qT3 {α β γ : Type} (τ : Rep K α) (υ : Rep K β) (φ : Rep K γ) : Rep K (α × β × γ) := ⟨fun H v x => ∃ a w1 w2 w3, v = .ref a ∧ H a = some (.tup [w1, w2, w3]) ∧ τ.R H w1 x.1 ∧ υ.R H w2 x.2.1 ∧ φ.R H w3 x.2.2, fun {H H' v x} e h => by
  obtain ⟨a, w1, w2, w3, h1, h2, h3, h4, h5⟩ := h
  exact ⟨a, w1, w2, w3, h1, e _ _ h2, τ.mono e h3, υ.mono e h4, φ.mono e h5⟩⟩
/-- a list that is tracked -/
def qL {α : Type} (τ : Rep K α) : Rep K (List α) := ⟨fun H v x => ∃ a ws, v = .ref a ∧ H a = some (.lst ws) ∧ RL τ H ws x, fun {H H' v x} e h => by
  obtain ⟨a, ws, h1, h2, h3⟩ := h
  exact ⟨a, ws, h1, e _ _ h2, RL.mono e h3⟩⟩
/-- a list that is to be read (the script) -/
def qQ {α : Type} (τ : Rep K α) : Rep K (List α) := ⟨fun H v x => ∃ a ws, v = .ref a ∧ SqL K H a ws ∧ RL τ H ws x, fun {H H' v x} e h => by
  obtain ⟨a, ws, h1, h2, h3⟩ := h
  exact ⟨a, ws, h1, e.seq h2, RL.mono e h3⟩⟩
theorem qL_qQ {α : Type} {τ : Rep K α} {H : Hp} {v : V} {x : List α} (h : (qL τ).R H v x) : (qQ τ).R H v x := by
  obtain ⟨a, ws, h1, h2, h3⟩ := h
  exact ⟨a, ws, h1, SqL.of h2, h3⟩
end

/-! ### heaps: S what stands for good, H the whole; L the lists that a def may change -/
/-- what may change -/
def mo : HO → Bool
  | .tup _ => false
  | _ => true
structure Grow (L : List Addr) (S0 H0 S H : Hp) : Prop where
  ss : Same S0 S
  sh : Same S H
  hh : ∀ a o, a ∉ L → H0 a = some o → H a = some o
  fr : ∀ a o, S0 a = none → H0 a = some o → mo o = true → S a = none
  ne : ∀ a o, H0 a = some o → ∃ o', H a = some o' ∧ (mo o = true → mo o' = true)
/-- a cell: an object that may change -/
structure Cel (L : List Addr) (H0 S H : Hp) (l : Addr) (o : HO) : Prop where
  h : H l = some o
  s : S l = none
  z : H0 l = none ∨ l ∈ L
  m : mo o = true
section
variable {L L' : List Addr} {S0 H0 S H S' H' : Hp} {p l l' : Addr} {o o' : HO}
theorem sne {x : HO} {H : Hp} {a : Addr} (h : H a = some x) : H a ≠ none := by rw [h]; exact fun q => by cases q
theorem Grow.refl (h : Same S H) : Grow L S H S H := ⟨Same.refl _, h, fun _ _ _ e => e, fun _ _ e _ _ => e, fun _ o e => ⟨o, e, id⟩⟩
theorem Grow.ext (g : Grow L S0 H0 S H) (e : Same H H') : Grow L S0 H0 S H' :=
  ⟨g.ss, g.sh.trans e, fun a o hl ha => e _ _ (g.hh a o hl ha), g.fr, fun a o ha => by
    obtain ⟨o', h1, h2⟩ := g.ne a o ha
    exact ⟨o', e _ _ h1, h2⟩⟩
theorem Grow.snone (g : Grow L S0 H0 S H) (hp : H p = none) : S p = none := g.sh.free hp
theorem Grow.hnone (g : Grow L S0 H0 S H) (hp : H p = none) : H0 p = none := by
  cases z : H0 p with
  | none => rfl
  | some x =>
    obtain ⟨o', h1, _⟩ := g.ne p x z
    rw [hp] at h1; cases h1
theorem Grow.imm (g : Grow L S0 H0 S H) (hp : H p = none) : Grow L S0 H0 (upd S p o) (upd H p o) where
  ss := fun a x e => by rw [upd_ne (ne_of_none (g.ss a x e) (g.snone hp))]; exact g.ss a x e
  sh := fun a x e => by
    by_cases h : a = p
    · subst h
      rw [upd_same] at e ⊢
      exact e
    · rw [upd_ne h] at e ⊢
      exact g.sh a x e
  hh := fun a x hl e => by rw [upd_ne (ne_of_none (g.hh a x hl e) hp)]; exact g.hh a x hl e
  fr := fun a x e h m => by
    have n : a ≠ p := fun q => by subst q; rw [g.hnone hp] at h; cases h
    rw [upd_ne n]
    exact g.fr a x e h m
  ne := fun a x h => by
    have n : a ≠ p := fun q => by subst q; rw [g.hnone hp] at h; cases h
    rw [upd_ne n]; exact g.ne a x h
theorem Grow.cell (g : Grow L S0 H0 S H) (hp : H p = none) : Grow L S0 H0 S (upd H p o) := g.ext fun a x e => by rw [upd_ne (ne_of_none e hp)]; exact e
/-- a tuple that stands may be kept for good -/
theorem Grow.tup (g : Grow L S0 H0 S H) {ws : List V} (hp : H p = some (.tup ws)) : Grow L S0 H0 (upd S p (.tup ws)) H where
  ss := fun a x e => by
    by_cases h : a = p
    · subst h
      have q := g.sh _ _ (g.ss _ _ e)
      rw [hp] at q; cases q
      exact upd_same
    · rw [upd_ne h]; exact g.ss a x e
  sh := fun a x e => by
    by_cases h : a = p
    · subst h; rw [upd_same] at e; cases e; exact hp
    · rw [upd_ne h] at e; exact g.sh a x e
  hh := g.hh
  fr := fun a x e h m => by
    have n : a ≠ p := fun q => by
      subst q
      obtain ⟨o', h1, h2⟩ := g.ne _ _ h
      rw [hp] at h1; cases h1
      exact absurd (h2 m) Bool.false_ne_true
    rw [upd_ne n]; exact g.fr a x e h m
  ne := g.ne
theorem Grow.wr (g : Grow L S0 H0 S H) (c : Cel L H0 S H l o') (hm : mo o = true) : Grow L S0 H0 S (upd H l o) where
  ss := g.ss
  sh := fun a x e => by
    have n : a ≠ l := fun q => by subst q; rw [c.s] at e; cases e
    rw [upd_ne n]
    exact g.sh a x e
  hh := fun a x hl e => by
    have n : a ≠ l := fun q => by
      subst q
      rcases c.z with z | z
      · rw [z] at e; cases e
      · exact hl z
    rw [upd_ne n]
    exact g.hh a x hl e
  fr := g.fr
  ne := fun a x h => by
    by_cases q : a = l
    · subst q; exact ⟨o, upd_same, fun _ => hm⟩
    · rw [upd_ne q]; exact g.ne a x h
theorem Grow.call (g : Grow L S0 H0 S H) (c : Grow L' S H S' H') (hL : ∀ l ∈ L', H0 l = none ∨ l ∈ L) : Grow L S0 H0 S' H' where
  ss := g.ss.trans c.ss
  sh := c.sh
  hh := fun a x hl e => c.hh a x (fun q => by
    rcases hL a q with z | z
    · rw [z] at e; cases e
    · exact hl z) (g.hh a x hl e)
  fr := fun a x e h m => by
    obtain ⟨o', h1, h2⟩ := g.ne a x h
    exact c.fr a o' (g.fr a x e h m) h1 (h2 m)
  ne := fun a x h => by
    obtain ⟨o', h1, h2⟩ := g.ne a x h
    obtain ⟨o2, h3, h4⟩ := c.ne a o' h1
    exact ⟨o2, h3, fun m => h4 (h2 m)⟩
theorem Grow.call0 (g : Grow L S0 H0 S H) (c : Grow [] S H S' H') : Grow L S0 H0 S' H' := g.call c fun _ q => by cases q
theorem Grow.same0 (c : Grow [] S H S' H') : Same H H' := fun a o e => c.hh a o (fun q => by cases q) e
/-- a cell that is not to change any more -/
theorem Grow.freeze (g : Grow L S0 H0 S H) (c : Cel L H0 S H l o) (hl : H0 l = none) : Grow L S0 H0 (upd S l o) H where
  ss := fun a x e => by
    have q := g.ss a x e
    rw [upd_ne (ne_of_none q c.s)]; exact q
  sh := fun a x e => by
    by_cases h : a = l
    · subst h; rw [upd_same] at e; cases e; exact c.h
    · rw [upd_ne h] at e; exact g.sh a x e
  hh := g.hh
  fr := fun a x e h m => by
    have n : a ≠ l := fun q => by subst q; rw [hl] at h; cases h
    rw [upd_ne n]
    exact g.fr a x e h m
  ne := g.ne
theorem Cel.own (g : Grow L S0 H0 S H) (e : Same H H') (hp : H p = none) (hp' : H' p = some o) (hm : mo o = true) : Cel L H0 S H' p o := ⟨hp', g.snone hp, .inl (g.hnone hp), hm⟩
theorem Cel.ext (c : Cel L H0 S H l o) (e : Same H H') : Cel L H0 S H' l o := ⟨e _ _ c.h, c.s, c.z, c.m⟩
theorem Cel.wr (c : Cel L H0 S H l o) (hm : mo o' = true) : Cel L H0 S (upd H l o') l o' := ⟨upd_same, c.s, c.z, hm⟩
theorem Cel.wrn (c : Cel L H0 S H l o) (n : l ≠ l') : Cel L H0 S (upd H l' o') l o := ⟨by rw [upd_ne n]; exact c.h, c.s, c.z, c.m⟩
theorem Cel.call (c : Cel L H0 S H l o) (g : Grow L' S H S' H') (n : l ∉ L') : Cel L H0 S' H' l o := ⟨g.hh _ _ n c.h, g.fr _ _ c.s c.h c.m, c.z, c.m⟩
theorem Cel.call0 (c : Cel L H0 S H l o) (g : Grow [] S H S' H') : Cel L H0 S' H' l o := c.call g fun q => by cases q
theorem Cel.mut (c : Cel L H0 S H l o) (g : Grow L' S H S' H') (h : H' l = some o') (hm : mo o' = true) : Cel L H0 S' H' l o' := ⟨h, g.fr _ _ c.s c.h c.m, c.z, hm⟩
theorem Cel.freeze (c : Cel L H0 S H l o) (n : l ≠ l') : Cel L H0 (upd S l' o') H l o := ⟨c.h, by rw [upd_ne n]; exact c.s, c.z, c.m⟩
theorem Cel.ne (c : Cel L H0 S H l o) (hp : H p = none) : l ≠ p := ne_of_none c.h hp
theorem Cel.z0 (c : Cel [] H0 S H l o) : H0 l = none := c.z.elim id fun q => by cases q
theorem same_upd {H : Hp} {p : Addr} {o : HO} (h : H p = none) : Same H (upd H p o) := fun b x e => by
  rw [upd_ne (ne_of_none e h)]
  exact e
end
end Z

namespace Z
open PySem PySem.Spec PyProof.Rows L2

/-! ### the mirror's words -/
def lt {α β : Type} (e : α) (k : α → Option β) : Option β := k e
theorem OP.lt {α β : Type} {e : α} {k : α → Option β} {A : β → Prop} (h : OP (Z.lt e k) A) : ∃ x, e = x ∧ OP (k x) A := ⟨e, rfl, h⟩
theorem lt_some {α β : Type} {e : α} {k : α → Option β} {r : β} (h : Z.lt e k = some r) : ∃ x, e = x ∧ k x = some r := ⟨e, rfl, h⟩
theorem OP.cut {α β : Type} {m : Option α} {k : α → Option β} {A : β → Prop} (h : OP (m.bind k) A) : ∃ B : α → Prop, OP m B ∧ ∀ x, B x → OP (k x) A := ⟨_, OP.of h, fun _ z => z⟩
/-- an early answer, or what follows -/
def SE {σ ρ : Type} (B : σ → Prop) (A : ρ → Prop) : σ ⊕ ρ → Prop
  | .inl s => B s
  | .inr v => A v
def brk {σ ρ : Type} (m : Option (σ ⊕ ρ)) (k : σ → Option ρ) : Option ρ := m.bind fun r => match r with
  | .inl s => k s
  | .inr v => some v
theorem OP.brk {σ ρ : Type} {m : Option (σ ⊕ ρ)} {k : σ → Option ρ} {A : ρ → Prop} (h : OP (Z.brk m k) A) : ∃ B : σ → Prop, OP m (SE B A) ∧ ∀ x, B x → OP (k x) A := by
  refine ⟨fun x => OP (k x) A, ?_, fun _ z => z⟩
  cases m with
  | none => exact h.elim
  | some r => cases r with
    | inl s => exact h
    | inr v => exact h
def un2 {α β γ : Type} (f : α → β → γ) (s : α × β) : γ := f s.1 s.2
def un3 {α β γ δ : Type} (f : α → β → γ → δ) (s : α × β × γ) : δ := f s.1 s.2.1 s.2.2
def un4 {α β γ δ ε : Type} (f : α → β → γ → δ → ε) (s : α × β × γ × δ) : ε := f s.1 s.2.1 s.2.2.1 s.2.2.2
def un5 {α β γ δ ε ζ : Type} (f : α → β → γ → δ → ε → ζ) (s : α × β × γ × δ × ε) : ζ := f s.1 s.2.1 s.2.2.1 s.2.2.2.1 s.2.2.2.2
def un6 {α β γ δ ε ζ η : Type} (f : α → β → γ → δ → ε → ζ → η) (s : α × β × γ × δ × ε × ζ) : η := f s.1 s.2.1 s.2.2.1 s.2.2.2.1 s.2.2.2.2.1 s.2.2.2.2.2
def un0 {γ : Type} (f : γ) (_ : Unit) : γ := f
theorem OP.un0 {γ : Type} {f : Option γ} {u : Unit} {A : γ → Prop} (h : OP (Z.un0 f u) A) : OP f A := h
theorem OP.un2 {α β γ : Type} {f : α → β → Option γ} {a : α} {b : β} {A : γ → Prop} (h : OP (Z.un2 f (a, b)) A) : OP (f a b) A := h
theorem OP.un3 {α β γ δ : Type} {f : α → β → γ → Option δ} {a : α} {b : β} {c : γ} {A : δ → Prop} (h : OP (Z.un3 f (a, b, c)) A) : OP (f a b c) A := h
theorem OP.un4 {α β γ δ ε : Type} {f : α → β → γ → δ → Option ε} {a : α} {b : β} {c : γ} {d : δ} {A : ε → Prop} (h : OP (Z.un4 f (a, b, c, d)) A) : OP (f a b c d) A := h
theorem OP.un5 {α β γ δ ε ζ : Type} {f : α → β → γ → δ → ε → Option ζ} {a : α} {b : β} {c : γ} {d : δ} {e : ε} {A : ζ → Prop} (h : OP (Z.un5 f (a, b, c, d, e)) A) : OP (f a b c d e) A := h
theorem OP.un6 {α β γ δ ε ζ η : Type} {f : α → β → γ → δ → ε → ζ → Option η} {a : α} {b : β} {c : γ} {d : δ} {e : ε} {z : ζ} {A : η → Prop} (h : OP (Z.un6 f (a, b, c, d, e, z)) A) : OP (f a b c d e z) A := h
theorem OP.ite1 {α : Type} {c : Bool} {m n : Option α} {A : α → Prop} (hc : c = true) (h : OP (ifo c m n) A) : OP m A := by rw [ifo_t hc] at h; exact h
theorem OP.ite0 {α : Type} {c : Bool} {m n : Option α} {A : α → Prop} (hc : c = false) (h : OP (ifo c m n) A) : OP n A := by rw [ifo_f hc] at h; exact h
theorem OP.forO {α σ : Type} {body : α → σ → Option σ} {x : α} {xs : List α} {s : σ} {A : σ → Prop} (h : OP (Z.forO body (x :: xs) s) A) : OP (body x s) (fun s' => OP (Z.forO body xs s') A) := by
  rw [forO_cons] at h
  exact OP.of h
theorem OP.forO_nil {α σ : Type} {body : α → σ → Option σ} {s : σ} {A : σ → Prop} (h : OP (Z.forO body [] s) A) : A s := by
  rw [Z.forO_nil] at h
  exact h
theorem OP.forR {α σ ρ : Type} {body : α → σ → Option (σ ⊕ ρ)} {x : α} {xs : List α} {s : σ} {B : σ → Prop} {A : ρ → Prop} (h : OP (Z.forR body (x :: xs) s) (SE B A)) : OP (body x s) (SE (fun s' => OP (Z.forR body xs s') (SE B A)) A) := by
  rw [forR_cons] at h
  have q := OP.of h
  cases e : body x s with
  | none => rw [e] at q; exact q.elim
  | some r =>
    rw [e] at q
    cases r with
    | inl s' => exact q
    | inr v => exact q
theorem OP.forR_nil {α σ ρ : Type} {body : α → σ → Option (σ ⊕ ρ)} {s : σ} {B : σ → Prop} {A : ρ → Prop} (h : OP (Z.forR body [] s) (SE B A)) : B s := by
  rw [Z.forR_nil] at h
  exact h
theorem OP.whileO {σ : Type} {c : σ → Option Bool} {body : σ → Option σ} {n : Nat} {s : σ} {A : σ → Prop} (h : OP (Z.whileO c body n s) A) :
    ∃ n', n = n' + 1 ∧ OP (c s) (fun b => if b = true then OP (body s) (fun s' => OP (Z.whileO c body n' s') A) else A s) := by
  cases n with
  | zero => rw [whileO_zero] at h; exact h.elim
  | succ n' =>
    refine ⟨n', rfl, ?_⟩
    rw [whileO_succ] at h
    have q := OP.of h
    refine q.mono fun b z => ?_
    cases b with
    | true => exact OP.of z
    | false => exact z
theorem OP.whileR {σ ρ : Type} {c : σ → Option Bool} {body : σ → Option (σ ⊕ ρ)} {n : Nat} {s : σ} {B : σ → Prop} {A : ρ → Prop} (h : OP (Z.whileR c body n s) (SE B A)) :
    ∃ n', n = n' + 1 ∧ OP (c s) (fun b => if b = true then OP (body s) (SE (fun s' => OP (Z.whileR c body n' s') (SE B A)) A) else B s) := by
  cases n with
  | zero => rw [whileR_zero] at h; exact h.elim
  | succ n' =>
    refine ⟨n', rfl, ?_⟩
    rw [whileR_succ] at h
    have q := OP.of h
    refine q.mono fun b z => ?_
    cases b with
    | true =>
      have z' := OP.of z
      show OP (body s) _
      refine z'.mono fun r y => ?_
      cases r with
      | inl s' => exact y
      | inr v => exact y
    | false => exact z
@[irreducible] def bigN : Nat := 1000000
theorem bigN_eq : bigN = 1000000 := by unfold bigN; rfl

/-! ### ints -/
abbrev shl (i j : Int) : Int := i * 2 ^ j.toNat
abbrev shr (i j : Int) : Int := i / 2 ^ j.toNat
abbrev band (i j : Int) : Int := Builtin.bitAnd i j
abbrev bor (i j : Int) : Int := Builtin.bitOr i j
abbrev bxor (i j : Int) : Int := Builtin.bitXor i j
abbrev bnot (i : Int) : Int := Builtin.bitNot i
def blen (i : Int) : Int := ((Builtin.Int.intBits i : Nat) : Int)

/-! ### values of expressions that leave the heap as it is -/
section
variable {K : PySem.W.Frag} {σ σ' : L2.St} {H : Hp} {ta tb te : TE} {t u : TT} {x y z v : V} {i j : Int} {b c : Bool}
theorem v_eq {v w : V} (h : Val te σ H v) (e : v = w) : Val te σ H w := e ▸ h
theorem v_o2 {g : Int → Int → V} (ha : Val ta σ H (.int i)) (hb : Val tb σ H (.int j)) : Val (tOp (rI0 g) ta tb) σ H (g i j) := fun Q q => ha _ (hb _ ⟨i, j, rfl, rfl, q⟩)
theorem v_o2c {C : Int → Int → Prop} {g : Int → Int → V} (ha : Val ta σ H (.int i)) (hb : Val tb σ H (.int j)) (hc : C i j) : Val (tOp (rI C g) ta tb) σ H (g i j) := fun Q q => ha _ (hb _ ⟨i, j, rfl, rfl, hc, q⟩)
theorem v_u {g : Int → V} (ha : Val ta σ H (.int i)) : Val (tUn (rU g) ta) σ H (g i) := fun Q q => ha _ ⟨i, rfl, q⟩
theorem dec_int : decide (V.int i = V.int j) = decide (i = j) := decide_eq_decide.mpr ⟨V.int.inj, fun e => by rw [e]⟩
theorem dec_str {s t : Str} : decide (V.str s = V.str t) = decide (s = t) := decide_eq_decide.mpr ⟨V.str.inj, fun e => by rw [e]⟩
theorem dec_bl : decide (V.bl b = V.bl c) = decide (b = c) := decide_eq_decide.mpr ⟨V.bl.inj, fun e => by rw [e]⟩
theorem v_eqI (ha : Val ta σ H (.int i)) (hb : Val tb σ H (.int j)) : Val (tOp rEq ta tb) σ H (.bl (decide (i = j))) := fun Q q => ha _ (hb _ ⟨rfl, by rw [dec_int]; exact q⟩)
theorem v_neI (ha : Val ta σ H (.int i)) (hb : Val tb σ H (.int j)) : Val (tOp rNe ta tb) σ H (.bl (!decide (i = j))) := fun Q q => ha _ (hb _ ⟨rfl, by rw [dec_int]; exact q⟩)
theorem v_eqS {s t : Str} (ha : Val ta σ H (.str s)) (hb : Val tb σ H (.str t)) : Val (tOp rEq ta tb) σ H (.bl (decide (s = t))) := fun Q q => ha _ (hb _ ⟨rfl, by rw [dec_str]; exact q⟩)
theorem v_neS {s t : Str} (ha : Val ta σ H (.str s)) (hb : Val tb σ H (.str t)) : Val (tOp rNe ta tb) σ H (.bl (!decide (s = t))) := fun Q q => ha _ (hb _ ⟨rfl, by rw [dec_str]; exact q⟩)
theorem v_eqB (ha : Val ta σ H (.bl b)) (hb : Val tb σ H (.bl c)) : Val (tOp rEq ta tb) σ H (.bl (decide (b = c))) := fun Q q => ha _ (hb _ ⟨rfl, by rw [dec_bl]; exact q⟩)
theorem v_neB (ha : Val ta σ H (.bl b)) (hb : Val tb σ H (.bl c)) : Val (tOp rNe ta tb) σ H (.bl (!decide (b = c))) := fun Q q => ha _ (hb _ ⟨rfl, by rw [dec_bl]; exact q⟩)
theorem v_test (h : Val te σ H (.bl b)) : Ans (tTest te) σ H b := fun Q q => h _ ⟨b, rfl, q⟩
theorem v_B (h : Val te σ H (.bl b)) : Ans (tB te) σ H b := fun Q q => h _ ⟨b, rfl, q⟩
theorem a_eq (h : Ans t σ H b) (e : b = c) : Ans t σ H c := e ▸ h
theorem a_not (h : Ans t σ H b) : Ans (tNot t) σ H (!b) := fun Q q => h _ q
theorem a_and (h1 : Ans t σ H b) (h2 : Ans u σ H c) : Ans (tAnd t u) σ H (b && c) := fun Q q => h1 _ (by
  cases b with
  | true => exact (show (if true = true then u σ H Q else Q false H) from h2 _ q)
  | false => exact (show (if false = true then u σ H Q else Q false H) from q))
theorem a_or (h1 : Ans t σ H b) (h2 : Ans u σ H c) : Ans (tOr t u) σ H (b || c) := fun Q q => h1 _ (by
  cases b with
  | true => exact (show (if true = true then Q true H else u σ H Q) from q)
  | false => exact (show (if false = true then Q true H else u σ H Q) from h2 _ q))
theorem a_andP {m : Option Bool} (h1 : Ans t σ H b) (hm : ifo b m (some false) = some c) (h2 : b = true → m = some c → Ans u σ H c) : Ans (tAnd t u) σ H c := fun Q q => h1 _ (by
  cases b with
  | true => exact (show (if true = true then u σ H Q else Q false H) from h2 rfl (by first | (rw [ifo_t rfl] at hm; exact hm) | (rw [ifo_f rfl] at hm; exact hm)) _ q)
  | false =>
    have e : false = c := by rw [ifo_f rfl] at hm; exact Option.some.inj hm
    subst e
    exact (show (if false = true then u σ H Q else Q false H) from q))
theorem a_orP {m : Option Bool} (h1 : Ans t σ H b) (hm : ifo b (some true) m = some c) (h2 : b = false → m = some c → Ans u σ H c) : Ans (tOr t u) σ H c := fun Q q => h1 _ (by
  cases b with
  | true =>
    have e : true = c := by rw [ifo_t rfl] at hm; exact Option.some.inj hm
    subst e
    exact (show (if true = true then Q true H else u σ H Q) from q)
  | false => exact (show (if false = true then Q true H else u σ H Q) from h2 rfl (by first | (rw [ifo_t rfl] at hm; exact hm) | (rw [ifo_f rfl] at hm; exact hm)) _ q))
theorem v_and (h1 : Val ta σ H (.bl b)) (h2 : Val tb σ H (.bl c)) : Val (tAndV ta tb) σ H (.bl (b && c)) := fun Q q => h1 _ ⟨b, rfl, by
  cases b with
  | true => exact (show (if true = true then tb σ H Q else Q (.bl false) H) from h2 _ q)
  | false => exact (show (if false = true then tb σ H Q else Q (.bl false) H) from q)⟩
theorem v_or (h1 : Val ta σ H (.bl b)) (h2 : Val tb σ H (.bl c)) : Val (tOrV ta tb) σ H (.bl (b || c)) := fun Q q => h1 _ ⟨b, rfl, by
  cases b with
  | true => exact (show (if true = true then Q (.bl true) H else tb σ H Q) from q)
  | false => exact (show (if false = true then Q (.bl true) H else tb σ H Q) from h2 _ q)⟩
theorem v_not (h : Val ta σ H (.bl b)) : Val (tNotV ta) σ H (.bl (!b)) := fun Q q => h _ ⟨b, rfl, q⟩
theorem v_andP {m : Option Bool} (h1 : Val ta σ H (.bl b)) (hm : ifo b m (some false) = some c) (h2 : b = true → m = some c → Val tb σ H (.bl c)) : Val (tAndV ta tb) σ H (.bl c) := fun Q q => h1 _ ⟨b, rfl, by
  cases b with
  | true => exact (show (if true = true then tb σ H Q else Q (.bl false) H) from h2 rfl (by first | (rw [ifo_t rfl] at hm; exact hm) | (rw [ifo_f rfl] at hm; exact hm)) _ q)
  | false =>
    have e : false = c := by rw [ifo_f rfl] at hm; exact Option.some.inj hm
    subst e
    exact (show (if false = true then tb σ H Q else Q (.bl false) H) from q)⟩
theorem v_orP {m : Option Bool} (h1 : Val ta σ H (.bl b)) (hm : ifo b (some true) m = some c) (h2 : b = false → m = some c → Val tb σ H (.bl c)) : Val (tOrV ta tb) σ H (.bl c) := fun Q q => h1 _ ⟨b, rfl, by
  cases b with
  | true =>
    have e : true = c := by rw [ifo_t rfl] at hm; exact Option.some.inj hm
    subst e
    exact (show (if true = true then Q (.bl true) H else tb σ H Q) from q)
  | false => exact (show (if false = true then Q (.bl true) H else tb σ H Q) from h2 rfl (by first | (rw [ifo_t rfl] at hm; exact hm) | (rw [ifo_f rfl] at hm; exact hm)) _ q)⟩
/-- t[0], t[1] of a pair, xs[i] -/
theorem v_t20 {β : Type} {υ : Rep K β} {p : Int × β} (ha : Val ta σ H v) (hb : Val tb σ H (.int 0)) (hr : (qT2 qI υ).R H v p) : Val (tOp (rIxT K) ta tb) σ H (.int p.1) := by
  obtain ⟨a, w1, w2, rfl, h2, h3, _⟩ := hr
  cases (show w1 = .int p.1 from h3)
  exact fun Q q => ha _ (hb _ ⟨a, _, 0, _, rfl, rfl, SqT.of h2, rfl, q⟩)
theorem v_t21 {α : Type} {τ : Rep K α} {p : α × Int} (ha : Val ta σ H v) (hb : Val tb σ H (.int 1)) (hr : (qT2 τ qI).R H v p) : Val (tOp (rIxT K) ta tb) σ H (.int p.2) := by
  obtain ⟨a, w1, w2, rfl, h2, _, h3⟩ := hr
  cases (show w2 = .int p.2 from h3)
  exact fun Q q => ha _ (hb _ ⟨a, _, 1, _, rfl, rfl, SqT.of h2, rfl, q⟩)
theorem atI_get {α β : Type} {R : α → β → Prop} {ws : List α} {xs : List β} {k : Int} {x : β} (hl : ws.length = xs.length) (hg : ∀ (j : Nat), xs[j]? = some x → ∃ w, ws[j]? = some w ∧ R w x) (h : atI xs k = some x) : ∃ w, atI ws k = some w ∧ R w x := by
  unfold atI at h ⊢
  rw [hl]
  cases e : ixN xs.length k with
  | none => rw [e] at h; cases h
  | some j => rw [e] at h; exact hg j h
theorem RL.at {α : Type} {τ : Rep K α} {ws : List V} {xs : List α} {k : Int} {x : α} (r : RL τ H ws xs) (h : atI xs k = some x) : ∃ w, atI ws k = some w ∧ τ.R H w x := atI_get r.length (fun _ e => r.get e) h
theorem v_ixq {α : Type} {τ : Rep K α} {xs : List α} {q : α} (ha : Val ta σ H v) (hb : Val tb σ H (.int i)) (hr : (qQ τ).R H v xs) (hx : atI xs i = some q) : ∃ w, Val (tOp (rIxL K) ta tb) σ H w ∧ τ.R H w q := by
  obtain ⟨a, ws, rfl, h2, h3⟩ := hr
  obtain ⟨w, e, r⟩ := h3.at hx
  exact ⟨w, fun Q z => ha _ (hb _ ⟨a, ws, i, w, rfl, rfl, h2, e, z⟩), r⟩
theorem v_ixI {xs : List Int} {q : Int} (ha : Val ta σ H v) (hb : Val tb σ H (.int i)) (hr : (qQ (K := K) qI).R H v xs) (hx : atI xs i = some q) : Val (tOp (rIxL K) ta tb) σ H (.int q) := by
  obtain ⟨w, h, r⟩ := v_ixq ha hb hr hx
  cases (show w = .int q from r)
  exact h
theorem v_ixB {xs : List Bool} {q : Bool} (ha : Val ta σ H v) (hb : Val tb σ H (.int i)) (hr : (qQ (K := K) qB).R H v xs) (hx : atI xs i = some q) : Val (tOp (rIxL K) ta tb) σ H (.bl q) := by
  obtain ⟨w, h, r⟩ := v_ixq ha hb hr hx
  cases (show w = .bl q from r)
  exact h
theorem v_ixS {xs : List Str} {q : Str} (ha : Val ta σ H v) (hb : Val tb σ H (.int i)) (hr : (qQ (K := K) qS).R H v xs) (hx : atI xs i = some q) : Val (tOp (rIxL K) ta tb) σ H (.str q) := by
  obtain ⟨w, h, r⟩ := v_ixq ha hb hr hx
  cases (show w = .str q from r)
  exact h
/-- what a list's length, a tuple's length tells -/
def rLenS (K : PySem.W.Frag) : List V → Hp → VK → Prop := fun xs H Q => ∃ p ys, xs = [.ref p] ∧ (SqL K H p ys ∨ SqT K H p ys) ∧ Q (.int ys.length) H
theorem v_len {α : Type} {τ : Rep K α} {xs : List α} (ha : Val ta σ H v) (hr : (qQ τ).R H v xs) : Val (tCB (rLenS K) (tCons ta tNil)) σ H (.int (xs.length : Int)) := by
  obtain ⟨a, ws, rfl, h2, h3⟩ := hr
  rw [← h3.length]
  exact fun Q q => ha _ ⟨a, ws, rfl, .inl h2, q⟩
theorem v_lenT2 {α β : Type} {τ : Rep K α} {υ : Rep K β} {p : α × β} (ha : Val ta σ H v) (hr : (qT2 τ υ).R H v p) : Val (tCB (rLenS K) (tCons ta tNil)) σ H (.int 2) := by
  obtain ⟨a, w1, w2, rfl, h2, _⟩ := hr
  exact fun Q q => ha _ ⟨a, _, rfl, .inr (SqT.of h2), q⟩
theorem v_isi {T n : String} {k : Bool} (ha : Val ta σ H x) (ty : TyX K H x (.type T)) (hk : kitB T n = some k) : Val (tCB (rIsi K) (tCons ta (tCons (tC (.ty n)) tNil))) σ H (.bl k) := fun Q q => ha _ ⟨x, .ty n, _, _, k, rfl, .ty n, ty, kit_ty hk, q⟩
theorem ty_int : TyX K H (.int i) (.type "int") := .base (.int i)
theorem ty_bl : TyX K H (.bl b) (.type "bool") := .base (.bl b)
theorem ty_str {s : Str} : TyX K H (.str s) (.type "str") := .base (.str s)
theorem ty_non : TyX K H .non (.type "NoneType") := .base .non
theorem ty_t2 {α β : Type} {τ : Rep K α} {υ : Rep K β} {p : α × β} (hr : (qT2 τ υ).R H v p) : TyX K H v (.type "tuple") := by
  obtain ⟨a, w1, w2, rfl, h2, _⟩ := hr
  exact .base (.tup h2)
theorem ty_t3 {α β γ : Type} {τ : Rep K α} {υ : Rep K β} {φ : Rep K γ} {p : α × β × γ} (hr : (qT3 τ υ φ).R H v p) : TyX K H v (.type "tuple") := by
  obtain ⟨a, w1, w2, w3, rfl, h2, _⟩ := hr
  exact .base (.tup h2)
theorem ty_l {α : Type} {τ : Rep K α} {xs : List α} (hr : (qL τ).R H v xs) : TyX K H v (.type "list") := by
  obtain ⟨a, ws, rfl, h2, _⟩ := hr
  exact .base (.lst h2)
/-- arguments -/
def VA (ta : TA) (σ : L2.St) (H : Hp) (vs : List V) : Prop := ∀ Q : List V → Hp → Prop, Q vs H → ta σ H Q
theorem va_nil : VA tNil σ H [] := fun _ q => q
theorem va_cons {tr : TA} {vs : List V} (ha : Val ta σ H x) (hr : VA tr σ H vs) : VA (tCons ta tr) σ H (x :: vs) := fun _ q => ha _ (hr _ q)
theorem v_call {sp : Sp} {dvs vs : List V} {E : XK} {tr : TA} (ha : VA tr σ H vs) (hs : ∀ Q : VK, Q z H → sp (vs ++ dvs) H Q E) : Val (tCall sp dvs E tr) σ H z := fun Q q => ha _ (hs Q q)
theorem v_cb {r : List V → Hp → VK → Prop} {vs : List V} {tr : TA} (ha : VA tr σ H vs) (hs : ∀ Q : VK, Q z H → r vs H Q) : Val (tCB r tr) σ H z := fun Q q => ha _ (hs Q q)
theorem v_bits (ha : Val ta σ H (.int i)) : Val (tBits ta) σ H (.int (blen i)) := fun Q q => ha _ ⟨i, rfl, q⟩
theorem v_isN (ha : Val ta σ H x) (e : decide (x = .non) = b) : Val (tOp rIsN ta (tC .non)) σ H (.bl b) := fun Q q => ha _ ⟨rfl, by rw [e]; exact q⟩
theorem v_notN (ha : Val ta σ H x) (e : (!decide (x = .non)) = b) : Val (tOp rNotN ta (tC .non)) σ H (.bl b) := fun Q q => ha _ ⟨rfl, by rw [e]; exact q⟩
theorem opt_dec {α : Type} {τ : Rep K α} {o : Option α} (hr : (qOpt τ).R H v o) : decide (v = .non) = o.isNone := by
  cases o with
  | none => exact decide_eq_true hr
  | some y => exact decide_eq_false hr.1
theorem opt_decN {α : Type} {τ : Rep K α} {o : Option α} (hr : (qOpt τ).R H v o) : (!decide (v = .non)) = o.isSome := by
  rw [opt_dec hr]
  cases o <;> rfl
theorem opt_get {α : Type} {τ : Rep K α} {o : Option α} {y : α} (hr : (qOpt τ).R H v o) (e : o = some y) : τ.R H v y := by
  subst e
  exact hr.2

/-! ### statements -/
variable {D : Ends} {t1 t2 ts tu : TS} {w : V} {k n : Nat}
theorem z_next (q : D.nx σ H) : tNext D σ H := q
theorem z_set (hv : Val te σ H v) (he : v = w) (hs : σ.set k (some w) = σ') (q : tu D σ' H) : tSeq (tAsg te (gName k)) tu D σ H := hv _ (by
  subst he; subst hs
  exact q)
theorem z_aug {ti : TIp} (hx : σ[k]? = some (some x)) (hv : Val te σ H y) (hr : ∀ Q : VK, Q v H → ti x y H Q) (he : v = w) (hs : σ.set k (some w) = σ') (q : tu D σ' H) : tSeq (tAug k te ti) tu D σ H := by
  subst he; subst hs
  exact ⟨x, hx, hv _ (hr _ q)⟩
theorem z_augI {g : Int → Int → V} (hx : σ[k]? = some (some (.int i))) (hv : Val te σ H (.int j)) (he : g i j = w) (hs : σ.set k (some w) = σ') (q : tu D σ' H) : tSeq (tAug k te (rI0 g)) tu D σ H :=
  z_aug hx hv (fun _ q => ⟨i, j, rfl, rfl, q⟩) he hs q
theorem z_augC {C : Int → Int → Prop} {g : Int → Int → V} (hx : σ[k]? = some (some (.int i))) (hv : Val te σ H (.int j)) (hc : C i j) (he : g i j = w) (hs : σ.set k (some w) = σ') (q : tu D σ' H) : tSeq (tAug k te (rI C g)) tu D σ H :=
  z_aug hx hv (fun _ q => ⟨i, j, rfl, rfl, hc, q⟩) he hs q
theorem z_ret (hv : Val te σ H v) (q : D.rt v H) : tSeq (tRet te) tu D σ H := hv _ q
theorem z_if {c : Bool} {tc : TT} (hc : Ans tc σ H c) (h1 : c = true → t1 { D with nx := tu D } σ H) (h2 : c = false → t2 { D with nx := tu D } σ H) : tSeq (tIfS tc t1 t2) tu D σ H := hc _ (by
  cases c with
  | true => exact (show (if true = true then t1 { D with nx := tu D } σ H else t2 { D with nx := tu D } σ H) from h1 rfl)
  | false => exact (show (if false = true then t1 { D with nx := tu D } σ H else t2 { D with nx := tu D } σ H) from h2 rfl))
theorem z_ifj {c : Bool} {tc : TT} (P : L2.St → Hp → Prop) (hc : Ans tc σ H c) (hP : ∀ σ' H', P σ' H' → tu D σ' H')
    (h1 : c = true → ∀ N : L2.St → Hp → Prop, (∀ σ' H', P σ' H' → N σ' H') → t1 { D with nx := N } σ H) (h2 : c = false → ∀ N : L2.St → Hp → Prop, (∀ σ' H', P σ' H' → N σ' H') → t2 { D with nx := N } σ H) : tSeq (tIfS tc t1 t2) tu D σ H :=
  z_if hc (fun e => h1 e _ hP) (fun e => h2 e _ hP)
theorem rangeI_zero {lo : Int} : rangeI lo 0 = [] := rfl
theorem rangeI_succ {lo : Int} {n : Nat} : rangeI lo (n + 1) = lo :: rangeI (lo + 1) n := by
  unfold rangeI
  rw [List.range_succ_eq_map, List.map_cons, List.map_map]
  congr 1
  · exact Int.add_zero lo
  · refine List.map_congr_left fun a _ => ?_
    show lo + ((a + 1 : Nat) : Int) = lo + 1 + (a : Int)
    omega
/-- the turns over a range, by what is left -/
theorem turns_range {lo : Int} {n : Nat} {g : TG} {tb : TS} (Pv : List Int → L2.St → Hp → Prop) (h0 : Pv (rangeI lo n) σ H)
    (hs : ∀ x xs σ' H', Pv (x :: xs) σ' H' → ∀ N : L2.St → Hp → Prop, (∀ σ'' H'', Pv xs σ'' H'' → N σ'' H'') → g (.int x) σ' H' fun σ2 H2 => tb { D with nx := N, ct := N, bk := D.nx } σ2 H2) (hd : ∀ σ' H', Pv [] σ' H' → D.nx σ' H') :
    ∃ W : Nat → Nat → L2.St → Hp → Prop, (∃ m, W 0 m σ H) ∧ ∀ i m σ H, W i m σ H →
      ((Itr lo n).stop i H ∧ D.nx σ H) ∨ ((Itr lo n).go i H ∧ ∃ N : L2.St → Hp → Prop, (∀ σ' H', N σ' H' → ∃ m', m' < m ∧ W (i + 1) m' σ' H') ∧ ∀ x H', (Itr lo n).yld i H x H' → g x σ H' fun σ2 H2 => tb { D with nx := N, ct := N, bk := D.nx } σ2 H2) := by
  refine for_range (fun i σ H => i ≤ n ∧ Pv (rangeI (lo + (i : Int)) (n - i)) σ H) ⟨Nat.zero_le _, by
    rw [show lo + ((0 : Nat) : Int) = lo from Int.add_zero lo]; exact h0⟩ (fun i σ' H' hi p => ?_) (fun σ' H' p => hd _ _ (by
    have q := p.2
    rw [Nat.sub_self] at q
    exact q))
  have e : n - i = (n - (i + 1)) + 1 := by omega
  have q := p.2
  rw [e, rangeI_succ] at q
  refine hs _ _ σ' H' q _ fun σ'' H'' r => ⟨hi, ?_⟩
  rw [show lo + ((i + 1 : Nat) : Int) = lo + (i : Int) + 1 by omega]
  exact r
theorem z_for1 {ta : TA} {g : TG} {tb : TS} {j : Int} (ha : VA ta σ H [.int j]) (hj : -(2 ^ 62) ≤ j ∧ j < 2 ^ 62) (Pv : List Int → L2.St → Hp → Prop) (h0 : Pv (rangeI 0 j.toNat) σ H)
    (hs : ∀ x xs σ' H', Pv (x :: xs) σ' H' → ∀ N : L2.St → Hp → Prop, (∀ σ'' H'', Pv xs σ'' H'' → N σ'' H'') → g (.int x) σ' H' fun σ2 H2 => tb { D with nx := N, ct := N, bk := tu D } σ2 H2) (hd : ∀ σ' H', Pv [] σ' H' → tu D σ' H') :
    tSeq (tFor (iRng1 ta) g tb) tu D σ H := ha _ ⟨j, rfl, hj.1, hj.2, turns_range (D := { D with nx := tu D }) Pv h0 hs hd⟩
theorem z_for2 {ta : TA} {g : TG} {tb : TS} {i j : Int} (ha : VA ta σ H [.int i, .int j]) (hj : -(2 ^ 62) ≤ i ∧ i < 2 ^ 62 ∧ -(2 ^ 62) ≤ j ∧ j < 2 ^ 62) (Pv : List Int → L2.St → Hp → Prop) (h0 : Pv (rangeI i (j - i).toNat) σ H)
    (hs : ∀ x xs σ' H', Pv (x :: xs) σ' H' → ∀ N : L2.St → Hp → Prop, (∀ σ'' H'', Pv xs σ'' H'' → N σ'' H'') → g (.int x) σ' H' fun σ2 H2 => tb { D with nx := N, ct := N, bk := tu D } σ2 H2) (hd : ∀ σ' H', Pv [] σ' H' → tu D σ' H') :
    tSeq (tFor (iRng2 ta) g tb) tu D σ H := ha _ ⟨i, j, rfl, hj, turns_range (D := { D with nx := tu D }) Pv h0 hs hd⟩
/-- the turns over a list that stands, by what is left -/
theorem turns_list {α : Type} {R : V → α → Prop} {a : Addr} {ws : List V} {xs : List α} {g : TG} {tb : TS} (hp : Paired R ws xs) (Pv : List α → L2.St → Hp → Prop) (h0 : Pv xs σ H) (hl : ∀ ys σ' H', Pv ys σ' H' → SqL K H' a ws)
    (hs : ∀ w y ys σ' H', R w y → Pv (y :: ys) σ' H' → ∀ N : L2.St → Hp → Prop, (∀ σ'' H'', Pv ys σ'' H'' → N σ'' H'') → g w σ' H' fun σ2 H2 => tb { D with nx := N, ct := N, bk := D.nx } σ2 H2) (hd : ∀ σ' H', Pv [] σ' H' → D.nx σ' H') :
    ∃ W : Nat → Nat → L2.St → Hp → Prop, (∃ m, W 0 m σ H) ∧ ∀ i m σ H, W i m σ H →
      ((Itl K a).stop i H ∧ D.nx σ H) ∨ ((Itl K a).go i H ∧ ∃ N : L2.St → Hp → Prop, (∀ σ' H', N σ' H' → ∃ m', m' < m ∧ W (i + 1) m' σ' H') ∧ ∀ x H', (Itl K a).yld i H x H' → g x σ H' fun σ2 H2 => tb { D with nx := N, ct := N, bk := D.nx } σ2 H2) := by
  have hlen := Paired.length hp
  refine for_list (K := K) (a := a) (xs := ws) (fun i σ H => i ≤ ws.length ∧ ∃ ys, Paired R (ws.drop i) ys ∧ Pv ys σ H) ⟨Nat.zero_le _, xs, hp, h0⟩ (fun i σ' H' _ p => ?_) (fun i x σ' H' hx p => ?_) (fun σ' H' p => ?_)
  · obtain ⟨_, ys, _, q⟩ := p
    exact hl _ _ _ q
  · obtain ⟨_, ys, r, q⟩ := p
    have hi : i < ws.length := (List.getElem?_eq_some_iff.mp hx).1
    have e : ws.drop i = x :: ws.drop (i + 1) := by
      rw [List.drop_eq_getElem_cons hi]
      rw [(List.getElem?_eq_some_iff.mp hx).2]
    rw [e] at r
    cases r with
    | cons a b => exact hs _ _ _ σ' H' a q _ fun σ'' H'' z => ⟨hi, _, b, z⟩
  · obtain ⟨_, ys, r, q⟩ := p
    rw [List.drop_length] at r
    cases r
    exact hd _ _ q
theorem z_forL {α : Type} {R : V → α → Prop} {a : Addr} {ws : List V} {xs : List α} {tl : TE} {g : TG} {tb : TS} (ha : Val tl σ H (.ref a)) (hp : Paired R ws xs) (Pv : List α → L2.St → Hp → Prop) (h0 : Pv xs σ H) (hl : ∀ ys σ' H', Pv ys σ' H' → SqL K H' a ws)
    (hs : ∀ w y ys σ' H', R w y → Pv (y :: ys) σ' H' → ∀ N : L2.St → Hp → Prop, (∀ σ'' H'', Pv ys σ'' H'' → N σ'' H'') → g w σ' H' fun σ2 H2 => tb { D with nx := N, ct := N, bk := tu D } σ2 H2) (hd : ∀ σ' H', Pv [] σ' H' → tu D σ' H') :
    tSeq (tFor (iList K tl) g tb) tu D σ H := ha _ ⟨a, rfl, ⟨ws, hl _ _ _ h0⟩, turns_list (D := { D with nx := tu D }) hp Pv h0 hl hs hd⟩
theorem g_name {q : L2.St → Hp → Prop} (hs : σ.set k (some v) = σ') (h : q σ' H) : gName k v σ H q := by
  subst hs
  exact h
/-- a while with a test that leaves the heap as it is -/
theorem z_while {tc : TT} {tb : TS} {n0 : Nat} (Pv : Nat → L2.St → Hp → Prop) (h0 : Pv n0 σ H)
    (hs : ∀ n σ' H', Pv n σ' H' → ∃ b, Ans tc σ' H' b ∧ (b = true → ∃ n', n = n' + 1 ∧ ∀ N : L2.St → Hp → Prop, (∀ σ'' H'', Pv n' σ'' H'' → N σ'' H'') → tb { D with nx := N, ct := N, bk := tu D } σ' H') ∧ (b = false → tu D σ' H')) :
    tSeq (tWhile tc tb) tu D σ H := by
  refine ⟨Pv, ⟨n0, h0⟩, fun m σ' H' w => ?_⟩
  obtain ⟨b, hb, h1, h2⟩ := hs m σ' H' w
  refine hb _ ?_
  cases b with
  | true =>
    obtain ⟨n', e, h⟩ := h1 rfl
    exact (show (if true = true then _ else _) from ⟨Pv n', fun σ'' H'' p => ⟨n', by omega, p⟩, h _ fun _ _ z => z⟩)
  | false => exact (show (if false = true then _ else _) from h2 rfl)
end
/-! ### facts of the builtins' table -/
theorem bt_int : bootBuiltins "int" = some (.type "int") := by decide +kernel
theorem bt_bool : bootBuiltins "bool" = some (.type "bool") := by decide +kernel
theorem bt_str : bootBuiltins "str" = some (.type "str") := by decide +kernel
theorem bt_list : bootBuiltins "list" = some (.type "list") := by decide +kernel
theorem bt_tuple : bootBuiltins "tuple" = some (.type "tuple") := by decide +kernel
theorem bt_isinstance : bootBuiltins "isinstance" = some (.builtin "isinstance") := by decide +kernel
theorem bt_len : bootBuiltins "len" = some (.builtin "len") := by decide +kernel
end Z

namespace Z
open PySem PySem.Spec PyProof.Rows L2

theorem OP.nameO {α σ : Type} {f : α → σ → Option σ} {xs : List α} {s : σ} {A : σ → Prop} (h : OP (Z.forO f xs s) A) : ∃ F, F = f ∧ OP (Z.forO F xs s) A := ⟨f, rfl, h⟩
theorem OP.nameR {α σ ρ : Type} {f : α → σ → Option (σ ⊕ ρ)} {xs : List α} {s : σ} {A : σ ⊕ ρ → Prop} (h : OP (Z.forR f xs s) A) : ∃ F, F = f ∧ OP (Z.forR F xs s) A := ⟨f, rfl, h⟩
theorem OP.fcall2 {α σ τ : Type} {F f : α → σ → Option τ} {x : α} {s : σ} {A : τ → Prop} (e : F = f) (h : OP (F x s) A) : OP (f x s) A := e ▸ h
theorem OP.fcall1 {σ τ : Type} {F f : σ → Option τ} {s : σ} {A : τ → Prop} (e : F = f) (h : OP (F s) A) : OP (f s) A := e ▸ h
def gMul (i j : Int) : Prop := (-(2 ^ 64) < i ∧ i < 2 ^ 64) ∨ (-(2 ^ 64) < j ∧ j < 2 ^ 64)
def gDiv (j : Int) : Prop := 0 < j ∧ j < 1073741824
def gPow (i j : Int) : Prop := 0 ≤ j ∧ j ≤ 1000000 ∧ i.natAbs < 2 ^ 64
def gR (j : Int) : Prop := -(2 ^ 62) ≤ j ∧ j < 2 ^ 62
def gR2 (i j : Int) : Prop := -(2 ^ 62) ≤ i ∧ i < 2 ^ 62 ∧ -(2 ^ 62) ≤ j ∧ j < 2 ^ 62
instance (i j : Int) : Decidable (gMul i j) := by unfold gMul; infer_instance
instance (j : Int) : Decidable (gDiv j) := by unfold gDiv; infer_instance
instance (i j : Int) : Decidable (gPow i j) := by unfold gPow; infer_instance
instance (j : Int) : Decidable (gR j) := by unfold gR; infer_instance
instance (i j : Int) : Decidable (gR2 i j) := by unfold gR2; infer_instance
abbrev ipow (i j : Int) : Int := i ^ j.toNat
def setI {α : Type} (xs : List α) (i : Int) (v : α) : Option (List α) := (ixN xs.length i).bind fun j => some (xs.set j v)

/-! ### data that == compares -/
structure Dat {K : PySem.W.Frag} {α : Type} [DecidableEq α] (τ : Rep K α) where
  enc : α → PyData
  dp : ∀ {H : Hp} {v : V} {x : α}, τ.R H v x → Dp K H v (enc x)
  lay : ∀ x, (enc x).canLay0 = true
  n : Nat
  dep : ∀ x, (enc x).depth ≤ n
  eqv : ∀ x y, PyData.eqv (enc x) (enc y) = decide (x = y)
section
variable {K : PySem.W.Frag}
theorem Dat.shaped {α : Type} [DecidableEq α] {τ : Rep K α} (d : Dat τ) (hn : d.n ≤ 64) (x : α) : SeqAt.shaped (d.enc x) = true := by
  unfold SeqAt.shaped
  rw [d.lay x, decide_eq_true (Nat.le_trans (d.dep x) hn)]
  rfl
def dI : Dat (K := K) qI := ⟨.int, fun {H v x} h => by cases (show v = .int x from h); exact .int x, fun _ => rfl, 1, fun x => by show PyData.depth (.int x) ≤ 1; simp [PyData.depth], fun x y => by
  show (x == y) = decide (x = y)
  rw [Bool.beq_eq_decide_eq]⟩
def dB : Dat (K := K) qB := ⟨.bool, fun {H v x} h => by cases (show v = .bl x from h); exact .bl x, fun _ => rfl, 1, fun x => by show PyData.depth (.bool x) ≤ 1; simp [PyData.depth], fun x y => by
  show (x == y) = decide (x = y)
  rw [Bool.beq_eq_decide_eq]⟩
theorem eqvAll2 {a b c d : PyData} : PyData.eqv (.tuple [a, b]) (.tuple [c, d]) = (PyData.eqv a c && PyData.eqv b d) := by
  simp [PyData.eqv, PyData.eqvAll]
def dT2 {α β : Type} [DecidableEq α] [DecidableEq β] {τ : Rep K α} {υ : Rep K β} (a : Dat τ) (b : Dat υ) : Dat (qT2 τ υ) := ⟨fun x => .tuple [a.enc x.1, b.enc x.2], fun {H v x} h => by
    obtain ⟨p, w1, w2, rfl, h2, h3, h4⟩ := h
    exact .tup (SqT.of h2) (.cons (a.dp h3) (.cons (b.dp h4) .nil)), fun x => by
    show PyData.canLayAll0 [a.enc x.1, b.enc x.2] = true
    simp [PyData.canLayAll0, a.lay, b.lay], max a.n b.n + 1, fun x => by
    have h1 := a.dep x.1
    have h2 := b.dep x.2
    show PyData.depth (.tuple [a.enc x.1, b.enc x.2]) ≤ _
    simp only [PyData.depth, PyData.depthAll]
    omega, fun x y => by
    rw [eqvAll2, a.eqv, b.eqv, ← Bool.decide_and]
    exact decide_eq_decide.mpr ⟨fun h => Prod.ext h.1 h.2, fun h => by rw [h]; exact ⟨rfl, rfl⟩⟩⟩
theorem dpAll {α : Type} [DecidableEq α] {τ : Rep K α} (a : Dat τ) {H : Hp} : ∀ {ws : List V} {xs : List α}, RL τ H ws xs → DpAll K H ws (xs.map a.enc)
  | _, _, .nil => .nil
  | _, _, .cons r t => .cons (a.dp r) (dpAll a t)
theorem layAll {α : Type} [DecidableEq α] {τ : Rep K α} (a : Dat τ) : ∀ xs : List α, PyData.canLayAll0 (xs.map a.enc) = true
  | [] => rfl
  | x :: xs => by
    show (PyData.canLay0 (a.enc x) && PyData.canLayAll0 (xs.map a.enc)) = true
    rw [a.lay, layAll a xs]
    rfl
theorem depAll {α : Type} [DecidableEq α] {τ : Rep K α} (a : Dat τ) : ∀ xs : List α, PyData.depthAll (xs.map a.enc) ≤ a.n
  | [] => by simp [PyData.depthAll]
  | x :: xs => by
    rw [List.map_cons]
    simp only [PyData.depthAll]
    have h1 := a.dep x
    have h2 := depAll a xs
    omega
theorem eqvAllD {α : Type} [DecidableEq α] {τ : Rep K α} (a : Dat τ) : ∀ xs ys : List α, PyData.eqvAll (xs.map a.enc) (ys.map a.enc) = decide (xs = ys)
  | [], [] => rfl
  | [], y :: ys => by simp [PyData.eqvAll]
  | x :: xs, [] => by simp [PyData.eqvAll]
  | x :: xs, y :: ys => by
    rw [List.map_cons, List.map_cons]
    simp only [PyData.eqvAll]
    rw [a.eqv, eqvAllD a xs ys, ← Bool.decide_and]
    exact decide_eq_decide.mpr ⟨fun h => by rw [h.1, h.2], fun h => by injection h with h1 h2; exact ⟨h1, h2⟩⟩
def dQ {α : Type} [DecidableEq α] {τ : Rep K α} (a : Dat τ) : Dat (qQ τ) := ⟨fun xs => .list (xs.map a.enc), fun {H v x} h => by
    obtain ⟨p, ws, rfl, h2, h3⟩ := h
    exact .lst h2 (dpAll a h3), fun xs => layAll a xs, a.n + 1, fun xs => by
    have h := depAll a xs
    show PyData.depth (.list (xs.map a.enc)) ≤ _
    simp only [PyData.depth]
    omega, fun x y => by
    show PyData.eqvAll (x.map a.enc) (y.map a.enc) = _
    exact eqvAllD a x y⟩
def dL {α : Type} [DecidableEq α] {τ : Rep K α} (a : Dat τ) : Dat (qL τ) := ⟨(dQ a).enc, fun h => (dQ a).dp (qL_qQ h), (dQ a).lay, (dQ a).n, (dQ a).dep, (dQ a).eqv⟩
end

/-! ### values that move the heap: the goal goes from te σ H Q to Q v H' -/
section
variable {K : PySem.W.Frag} {σ σ' : L2.St} {S H S0 H0 : Hp} {L : List Addr} {ta tb te : TE} {t u tc : TT} {tr : TA} {x y z v : V} {i j : Int} {b c : Bool} {Q : VK} {D : Ends} {t1 t2 tu : TS} {g : TG} {vs ws : List V}
theorem c_val (h : Val te σ H v) (q : Q v H) : te σ H Q := h _ q
theorem c_op {r : R2} (h : ta σ H fun x H1 => tb σ H1 fun y H2 => r x y H2 Q) : tOp r ta tb σ H Q := h
theorem c_un {r : V → Hp → VK → Prop} (h : ta σ H fun x H1 => r x H1 Q) : tUn r ta σ H Q := h
theorem c_cons {q : List V → Hp → Prop} (h : ta σ H fun x H1 => tr σ H1 fun xs H2 => q (x :: xs) H2) : tCons ta tr σ H q := h
theorem c_nil {q : List V → Hp → Prop} (h : q [] H) : tNil σ H q := h
theorem c_args {q : List V → Hp → Prop} (ha : VA tr σ H vs) (h : q vs H) : tr σ H q := ha _ h
theorem c_tup (h : tr σ H fun xs H1 => xs.length ≤ sizeLine ∧ ∀ p, H1 p = none → Q (.ref p) (upd H1 p (.tup xs))) : tTup tr σ H Q := h
theorem c_lst (h : tr σ H fun xs H1 => xs.length ≤ sizeLine ∧ ∀ p, H1 p = none → Q (.ref p) (upd H1 p (.lst xs))) : tLst tr σ H Q := h
theorem c_tupE (h : ∀ Q' : VK, Q' = Q → tr σ H fun xs H1 => xs.length ≤ sizeLine ∧ ∀ p, H1 p = none → Q' (.ref p) (upd H1 p (.tup xs))) : tTup tr σ H Q := h _ rfl
theorem c_lstE (h : ∀ Q' : VK, Q' = Q → tr σ H fun xs H1 => xs.length ≤ sizeLine ∧ ∀ p, H1 p = none → Q' (.ref p) (upd H1 p (.lst xs))) : tLst tr σ H Q := h _ rfl
theorem c_cbE {r : List V → Hp → VK → Prop} (h : ∀ Q' : VK, Q' = Q → tr σ H fun vs H1 => r vs H1 Q') : tCB r tr σ H Q := h _ rfl
theorem q_eq {Q' : VK} (e : Q' = Q) (h : Q v H) : Q' v H := e ▸ h
theorem c_call {sp : Sp} {dvs : List V} {E : XK} (h : tr σ H fun vs H1 => sp (vs ++ dvs) H1 Q E) : tCall sp dvs E tr σ H Q := h
theorem c_cb {r : List V → Hp → VK → Prop} (h : tr σ H fun vs H1 => r vs H1 Q) : tCB r tr σ H Q := h
theorem c_newtup (e : Same S H) (hl : vs.length ≤ 1000) (k : ∀ p S' H', Grow [] S H S' H' → S' p = some (.tup vs) → Q (.ref p) H') : vs.length ≤ sizeLine ∧ ∀ p, H p = none → Q (.ref p) (upd H p (.tup vs)) :=
  ⟨Nat.le_trans hl (by decide), fun p hp => k p _ _ ((Grow.refl e).imm hp) upd_same⟩
theorem c_newlst (hl : vs.length ≤ 1000) (k : ∀ p H', Same H H' → H p = none → H' p = some (.lst vs) → Q (.ref p) H') : vs.length ≤ sizeLine ∧ ∀ p, H p = none → Q (.ref p) (upd H p (.lst vs)) :=
  ⟨Nat.le_trans hl (by decide), fun p hp => k p _ (same_upd hp) hp upd_same⟩
theorem c_not {q : Bool → Hp → Prop} (h : t σ H fun b H1 => q (!b) H1) : tNot t σ H q := h
theorem c_test {q : Bool → Hp → Prop} (h : te σ H fun x H' => ∃ k, x = .bl k ∧ q k H') : tTest te σ H q := h
theorem c_B {q : Bool → Hp → Prop} (h : te σ H fun x H' => ∃ k, x = .bl k ∧ q k H') : tB te σ H q := h
theorem c_ans {q : Bool → Hp → Prop} (h : Ans t σ H b) (k : q b H) : t σ H q := h _ k
theorem c_bl {q : Bool → Hp → Prop} (h : q b H) : ∃ k, V.bl b = .bl k ∧ q k H := ⟨b, rfl, h⟩
theorem c_and {q : Bool → Hp → Prop} (h : t σ H fun c H1 => if c = true then u σ H1 q else q false H1) : tAnd t u σ H q := h
theorem c_or {q : Bool → Hp → Prop} (h : t σ H fun c H1 => if c = true then q true H1 else u σ H1 q) : tOr t u σ H q := h
theorem c_andV (h : ta σ H fun x H1 => ∃ c, x = .bl c ∧ if c = true then tb σ H1 Q else Q (.bl false) H1) : tAndV ta tb σ H Q := h
theorem c_orV (h : ta σ H fun x H1 => ∃ c, x = .bl c ∧ if c = true then Q (.bl true) H1 else tb σ H1 Q) : tOrV ta tb σ H Q := h
theorem c_cutT {q : Bool → Hp → Prop} (P : Bool → Hp → Prop) (hc : ∀ q' : Bool → Hp → Prop, (∀ b H', P b H' → q' b H') → t σ H q') (hP : ∀ b H', P b H' → q b H') : t σ H q := hc _ hP
theorem c_cutV (P : Bool → Hp → Prop) (hc : ∀ q' : VK, (∀ b H', P b H' → q' (.bl b) H') → te σ H q') (hP : ∀ b H', P b H' → Q (.bl b) H') : te σ H Q := hc _ hP
theorem ifb {A B : Prop} (h1 : c = true → A) (h2 : c = false → B) : if c = true then A else B := by
  cases c with
  | true => exact (show (if true = true then A else B) from h1 rfl)
  | false => exact (show (if false = true then A else B) from h2 rfl)
/-- the ends of the operators -/
theorem e_o2 {g : Int → Int → V} (q : Q (g i j) H) : rI0 g (.int i) (.int j) H Q := ⟨i, j, rfl, rfl, q⟩
theorem e_o2c {C : Int → Int → Prop} {g : Int → Int → V} (hc : C i j) (q : Q (g i j) H) : rI C g (.int i) (.int j) H Q := ⟨i, j, rfl, rfl, hc, q⟩
theorem e_u {g : Int → V} (q : Q (g i) H) : rU g (.int i) H Q := ⟨i, rfl, q⟩
theorem e_eqI (q : Q (.bl (decide (i = j))) H) : rEq (.int i) (.int j) H Q := ⟨rfl, by rw [dec_int]; exact q⟩
theorem e_neI (q : Q (.bl (!decide (i = j))) H) : rNe (.int i) (.int j) H Q := ⟨rfl, by rw [dec_int]; exact q⟩
theorem e_eqS {s t : Str} (q : Q (.bl (decide (s = t))) H) : rEq (.str s) (.str t) H Q := ⟨rfl, by rw [dec_str]; exact q⟩
theorem e_neS {s t : Str} (q : Q (.bl (!decide (s = t))) H) : rNe (.str s) (.str t) H Q := ⟨rfl, by rw [dec_str]; exact q⟩
theorem e_eqB (q : Q (.bl (decide (b = c))) H) : rEq (.bl b) (.bl c) H Q := ⟨rfl, by rw [dec_bl]; exact q⟩
theorem e_neB (q : Q (.bl (!decide (b = c))) H) : rNe (.bl b) (.bl c) H Q := ⟨rfl, by rw [dec_bl]; exact q⟩
theorem e_eqD {α : Type} [DecidableEq α] {τ υ : Rep K α} (d : Dat τ) (d' : Dat υ) (he : d.enc = d'.enc) (hn : d.n ≤ 64) {p q : α} (h1 : τ.R H x p) (h2 : υ.R H y q) (k : Q (.bl (decide (p = q))) H) : rEqD K x y H Q :=
  ⟨d.enc p, d.enc q, d.dp h1, by rw [he]; exact d'.dp h2, d.shaped hn p, d.shaped hn q, by rw [d.eqv]; exact k⟩
theorem e_neD {α : Type} [DecidableEq α] {τ υ : Rep K α} (d : Dat τ) (d' : Dat υ) (he : d.enc = d'.enc) (hn : d.n ≤ 64) {p q : α} (h1 : τ.R H x p) (h2 : υ.R H y q) (k : Q (.bl (!decide (p = q))) H) : rNeD K x y H Q :=
  ⟨d.enc p, d.enc q, d.dp h1, by rw [he]; exact d'.dp h2, d.shaped hn p, d.shaped hn q, by rw [d.eqv]; exact k⟩
theorem v_eqD {α : Type} [DecidableEq α] {τ υ : Rep K α} (d : Dat τ) (d' : Dat υ) (he : d.enc = d'.enc) (hn : d.n ≤ 64) {p q : α} (ha : Val ta σ H x) (hb : Val tb σ H y) (h1 : τ.R H x p) (h2 : υ.R H y q) : Val (tOp (rEqD K) ta tb) σ H (.bl (decide (p = q))) :=
  fun Q k => ha _ (hb _ (e_eqD d d' he hn h1 h2 k))
theorem v_neD {α : Type} [DecidableEq α] {τ υ : Rep K α} (d : Dat τ) (d' : Dat υ) (he : d.enc = d'.enc) (hn : d.n ≤ 64) {p q : α} (ha : Val ta σ H x) (hb : Val tb σ H y) (h1 : τ.R H x p) (h2 : υ.R H y q) : Val (tOp (rNeD K) ta tb) σ H (.bl (!decide (p = q))) :=
  fun Q k => ha _ (hb _ (e_neD d d' he hn h1 h2 k))
/-- a shallow datum: tuples of scalars; it may be kept for good -/
def Shal {α : Type} (τ : Rep K α) : Prop := ∀ {S H : Hp} {v : V} {x : α}, Same S H → τ.R H v x → ∃ S', Grow [] S H S' H ∧ τ.R S' v x
theorem shI : Shal (K := K) qI := fun e h => ⟨_, Grow.refl e, h⟩
theorem shB : Shal (K := K) qB := fun e h => ⟨_, Grow.refl e, h⟩
theorem shS : Shal (K := K) qS := fun e h => ⟨_, Grow.refl e, h⟩
theorem shU : Shal (K := K) qU := fun e h => ⟨_, Grow.refl e, h⟩
theorem shOpt {α : Type} {τ : Rep K α} (a : Shal τ) : Shal (qOpt τ) := fun {S H v x} e h => by
  cases x with
  | none => exact ⟨_, Grow.refl e, h⟩
  | some y =>
    obtain ⟨S', g, r⟩ := a e h.2
    exact ⟨S', g, h.1, r⟩
theorem shT2 {α β : Type} {τ : Rep K α} {υ : Rep K β} (a : Shal τ) (b : Shal υ) : Shal (qT2 τ υ) := fun {S H v x} e h => by
  obtain ⟨p, w1, w2, rfl, h2, h3, h4⟩ := h
  obtain ⟨S1, g1, r1⟩ := a e h3
  obtain ⟨S2, g2, r2⟩ := b g1.sh h4
  have g3 := (g1.call0 g2).tup h2
  have e3 : Same S2 (upd S2 p (.tup [w1, w2])) := ((Grow.refl (L := []) g2.sh).tup h2).ss
  exact ⟨_, g3, p, w1, w2, rfl, upd_same, τ.mono (g2.ss.trans e3) r1, υ.mono e3 r2⟩
theorem shL {α : Type} {τ : Rep K α} (a : Shal τ) {S H : Hp} : ∀ {ws : List V} {xs : List α}, Same S H → RL τ H ws xs → ∃ S', Grow [] S H S' H ∧ RL τ S' ws xs
  | _, _, e, .nil => ⟨_, Grow.refl e, .nil⟩
  | _, _, e, .cons r t => by
    obtain ⟨S1, g1, r1⟩ := a e r
    obtain ⟨S2, g2, r2⟩ := shL a g1.sh t
    exact ⟨S2, g1.call0 g2, .cons (τ.mono g2.ss r1) r2⟩
theorem RL.sc {α : Type} {τ : Rep K α} {H H' : Hp} (f : α → V) (hf : ∀ {H v x}, τ.R H v x ↔ v = f x) : ∀ {ws : List V} {xs : List α}, RL τ H ws xs → RL τ H' ws xs
  | _, _, .nil => .nil
  | _, _, .cons r t => .cons (hf.mpr (hf.mp r)) (RL.sc f hf t)
theorem RL.scI {H H' : Hp} {ws : List V} {xs : List Int} (h : RL (K := K) qI H ws xs) : RL (K := K) qI H' ws xs := RL.sc V.int Iff.rfl h
theorem RL.scB {H H' : Hp} {ws : List V} {xs : List Bool} (h : RL (K := K) qB H ws xs) : RL (K := K) qB H' ws xs := RL.sc V.bl Iff.rfl h
theorem RL.scS {H H' : Hp} {ws : List V} {xs : List Str} (h : RL (K := K) qS H ws xs) : RL (K := K) qS H' ws xs := RL.sc V.str Iff.rfl h
/-- where a new list comes from -/
theorem e_listQ {α : Type} {τ : Rep K α} {xs : List α} (h : (qQ τ).R H v xs) (k : ∀ p ws H', Same H H' → H p = none → H' p = some (.lst ws) → RL τ H ws xs → Q (.ref p) H') :
    ∃ p ys, [v] = [.ref p] ∧ (SqL K H p ys ∨ SqT K H p ys) ∧ ∀ l, H l = none → Q (.ref l) (upd H l (.lst ys)) := by
  obtain ⟨a, ws, rfl, h2, h3⟩ := h
  exact ⟨a, ws, rfl, .inl h2, fun l hl => k l ws _ (same_upd hl) hl upd_same h3⟩
theorem RL.cut {α : Type} {τ : Rep K α} {ws : List V} {xs : List α} (h : RL τ H ws xs) (lo hi : Option Int) : RL τ H (cutV ws lo hi) ((xs.drop (HT.sIx xs.length 0 lo)).take (HT.sIx xs.length xs.length hi - HT.sIx xs.length 0 lo)) := by
  unfold cutV
  rw [h.length]
  exact (h.drop _).take _
def cutI {α : Type} (xs : List α) (lo hi : Option Int) : List α := (xs.drop (HT.sIx xs.length 0 lo)).take (HT.sIx xs.length xs.length hi - HT.sIx xs.length 0 lo)
theorem e_slice {α : Type} {τ : Rep K α} {xs : List α} {lo hi : Option Int} (h : (qQ τ).R H v xs) (k : ∀ p ws H', Same H H' → H p = none → H' p = some (.lst ws) → RL τ H ws (cutI xs lo hi) → Q (.ref p) H') : rSlL K v lo hi H Q := by
  obtain ⟨a, ws, rfl, h2, h3⟩ := h
  exact ⟨a, ws, rfl, h2, fun l hl => k l _ _ (same_upd hl) hl upd_same (h3.cut lo hi)⟩
theorem c_slice {r : V → Option Int → Option Int → Hp → VK → Prop} {tl th : TO} {lo hi : Option Int} (ha : Val te σ H v) (hl : ∀ q : Option Int → Hp → Prop, q lo H → tl σ H q) (hh : ∀ q : Option Int → Hp → Prop, q hi H → th σ H q) (k : r v lo hi H Q) : tSl r te tl th σ H Q := ha _ (hl _ (hh _ k))
theorem po0 : ∀ q : Option Int → Hp → Prop, q none H → tNoPart σ H q := fun _ z => z
theorem po1 (h : Val te σ H (.int i)) : ∀ q : Option Int → Hp → Prop, q (some i) H → tPart te σ H q := fun _ z => h _ ⟨i, rfl, z⟩
theorem e_cat {α : Type} {τ : Rep K α} {xs ys : List α} (h1 : (qL τ).R H x xs) (h2 : (qL τ).R H y ys) (hz : xs.length + ys.length ≤ 16777216) (k : ∀ p ws H', Same H H' → H p = none → H' p = some (.lst ws) → RL τ H ws (xs ++ ys) → Q (.ref p) H') : rCat x y H Q := by
  obtain ⟨a, ws, rfl, ha, ra⟩ := h1
  obtain ⟨b, us, rfl, hb, rb⟩ := h2
  exact ⟨a, b, ws, us, rfl, rfl, ha, hb, by rw [ra.length, rb.length]; exact hz, fun p hp => k p _ _ (same_upd hp) hp upd_same (ra.app rb)⟩

/-! ### statements -/
theorem z_start {N : List Str} {t : TS} (hs : start N vs = σ) (q : t D σ H) : t D (start N vs) H := hs ▸ q
theorem z_nextR (q : tu D σ H) : tNext { D with nx := tu D } σ H := q
theorem z_setE {k : Nat} (h : te σ H fun v H' => gName k v σ H' (tu D)) : tSeq (tAsg te (gName k)) tu D σ H := h
theorem z_asgE (h : te σ H fun v H' => g v σ H' (tu D)) : tSeq (tAsg te g) tu D σ H := h
theorem z_retE (h : te σ H D.rt) : tSeq (tRet te) tu D σ H := h
theorem z_retN (h : D.rt .non H) : tSeq tRetN tu D σ H := h
theorem z_pass (h : tu D σ H) : tSeq tNext tu D σ H := h
theorem z_cont (h : D.ct σ H) : tSeq tCont tu D σ H := h
theorem z_brk (h : D.bk σ H) : tSeq tBreak tu D σ H := h
theorem z_dropE (h : te σ H fun _ H' => tu D σ H') : tSeq (tDrop te) tu D σ H := h
theorem z_ifE (h : tc σ H fun b H1 => if b = true then t1 { D with nx := tu D } σ H1 else t2 { D with nx := tu D } σ H1) : tSeq (tIfS tc t1 t2) tu D σ H := h
theorem z_ifbj (P : L2.St → Hp → Prop) (hP : ∀ σ' H', P σ' H' → tu D σ' H')
    (h1 : c = true → ∀ N : L2.St → Hp → Prop, (∀ σ' H', P σ' H' → N σ' H') → t1 { D with nx := N } σ H) (h2 : c = false → ∀ N : L2.St → Hp → Prop, (∀ σ' H', P σ' H' → N σ' H') → t2 { D with nx := N } σ H) : if c = true then t1 { D with nx := tu D } σ H else t2 { D with nx := tu D } σ H :=
  ifb (fun e => h1 e _ hP) (fun e => h2 e _ hP)
/-- xs.append(v) -/
theorem c_app {α : Type} {τ : Rep K α} {l : Addr} {xs ys : List α} {q : α} (g : Grow L S0 H0 S H) (cl : Cel L H0 S H l (.lst ws)) (r : RL τ S ws xs) (rv : τ.R S v q) (hz : xs.length < 16777216) (he : xs ++ [q] = ys)
    (k : ∀ ws' H', Grow L S0 H0 S H' → Cel L H0 S H' l (.lst ws') → RL τ S ws' ys → (∀ l' o', l' ≠ l → Cel L H0 S H l' o' → Cel L H0 S H' l' o') → Q .non H') : rAppend (.ref l) [v] H Q := by
  subst he
  exact ⟨l, ws, v, rfl, rfl, cl.h, by rw [r.length]; exact hz, k _ _ (g.wr cl rfl) (cl.wr rfl) (r.app (.cons rv .nil)) fun l' o' n c => c.wrn n⟩
theorem c_bm {T : String} {r : V → List V → Hp → VK → Prop} {l : Addr} (ha : Val ta σ H (.ref l)) (h : tyV K T (.ref l) H) (k : tr σ H fun xs H2 => r (.ref l) xs H2 Q) : tBM K T r ta tr σ H Q := ha _ ⟨h, k⟩
theorem c_bm0 {T : String} {r : V → List V → Hp → VK → Prop} {l : Addr} (ha : Val ta σ H (.ref l)) (h : tyV K T (.ref l) H) (k : r (.ref l) [] H Q) : tBM0 K T r ta σ H Q := ha _ ⟨h, k⟩
theorem tyL {l : Addr} (h : H l = some (.lst ws)) : tyV K "list" (.ref l) H := .inl ⟨rfl, _, SqL.of h⟩
/-- xs[i] = v -/
theorem c_setL {α : Type} {τ : Rep K α} {l : Addr} {xs ys : List α} {q : α} (g : Grow L S0 H0 S H) (cl : Cel L H0 S H l (.lst ws)) (r : RL τ S ws xs) (rv : τ.R S v q) (ho : Val ta σ H (.ref l)) (hi : Val tb σ H (.int i)) (he : setI xs i q = some ys)
    (k : ∀ ws' H', Grow L S0 H0 S H' → Cel L H0 S H' l (.lst ws') → RL τ S ws' ys → (∀ l' o', l' ≠ l → Cel L H0 S H l' o' → Cel L H0 S H' l' o') → tu D σ H') : gSub ta tb rSetL v σ H (tu D) := by
  unfold setI at he
  cases e : ixN xs.length i with
  | none => rw [e] at he; cases he
  | some j =>
    rw [e] at he
    cases (Option.some.inj he)
    exact ho _ (hi _ ⟨l, ws, i, j, rfl, rfl, cl.h, by rw [r.length]; exact e, k _ _ (g.wr cl rfl) (cl.wr rfl) (r.set rv j) fun l' o' n c => c.wrn n⟩)
theorem c_clear {α : Type} {τ : Rep K α} {l : Addr} (g : Grow L S0 H0 S H) (cl : Cel L H0 S H l (.lst ws))
    (k : ∀ H', Grow L S0 H0 S H' → Cel L H0 S H' l (.lst []) → RL τ S [] ([] : List α) → (∀ l' o', l' ≠ l → Cel L H0 S H l' o' → Cel L H0 S H' l' o') → Q .non H') : rClear (.ref l) [] H Q :=
  ⟨l, ws, rfl, rfl, cl.h, k _ (g.wr cl rfl) (cl.wr rfl) .nil fun l' o' n c => c.wrn n⟩
theorem v_chain {g g' : Int → Int → V} {p q : Int → Int → Bool} {k l m : Int} (ha : Val ta σ H (.int k)) (hb : Val tb σ H (.int l)) (hc : Val te σ H (.int m)) (h1 : g k l = .bl b) (h2 : g' l m = .bl c) : Val (tChain (rI0 g) (rI0 g') ta tb te) σ H (.bl (b && c)) := fun Q z => ha _ (hb _ ⟨k, l, rfl, rfl, b, h1, by
  cases b with
  | true => exact (show (if true = true then _ else _) from hc _ ⟨l, m, rfl, rfl, by rw [h2]; exact z⟩)
  | false => exact (show (if false = true then _ else _) from z)⟩)
theorem Same.seqt {H H' : Hp} {a : Addr} {xs : List V} (e : Same H H') (h : SqT K H a xs) : SqT K H' a xs := by
  rcases h with (h | ⟨o, h⟩) | h
  · exact .inl (.inl (e _ _ h))
  · exact .inl (.inr ⟨o, e _ _ h⟩)
  · exact .inr h
theorem turns_tup {α : Type} {R : V → α → Prop} {a : Addr} {ws : List V} {xs : List α} {g : TG} {tb : TS} (hp : Paired R ws xs) (Pv : List α → L2.St → Hp → Prop) (h0 : Pv xs σ H) (hl : ∀ ys σ' H', Pv ys σ' H' → SqT K H' a ws)
    (hs : ∀ w y ys σ' H', R w y → Pv (y :: ys) σ' H' → ∀ N : L2.St → Hp → Prop, (∀ σ'' H'', Pv ys σ'' H'' → N σ'' H'') → g w σ' H' fun σ2 H2 => tb { D with nx := N, ct := N, bk := D.nx } σ2 H2) (hd : ∀ σ' H', Pv [] σ' H' → D.nx σ' H') :
    ∃ W : Nat → Nat → L2.St → Hp → Prop, (∃ m, W 0 m σ H) ∧ ∀ i m σ H, W i m σ H →
      ((Itt K a).stop i H ∧ D.nx σ H) ∨ ((Itt K a).go i H ∧ ∃ N : L2.St → Hp → Prop, (∀ σ' H', N σ' H' → ∃ m', m' < m ∧ W (i + 1) m' σ' H') ∧ ∀ x H', (Itt K a).yld i H x H' → g x σ H' fun σ2 H2 => tb { D with nx := N, ct := N, bk := D.nx } σ2 H2) := by
  refine for_tup (K := K) (a := a) (xs := ws) (fun i σ H => i ≤ ws.length ∧ ∃ ys, Paired R (ws.drop i) ys ∧ Pv ys σ H) ⟨Nat.zero_le _, xs, hp, h0⟩ (fun i σ' H' _ p => ?_) (fun i x σ' H' hx p => ?_) (fun σ' H' p => ?_)
  · obtain ⟨_, ys, _, q⟩ := p
    exact hl _ _ _ q
  · obtain ⟨_, ys, r, q⟩ := p
    have hi : i < ws.length := (List.getElem?_eq_some_iff.mp hx).1
    have e : ws.drop i = x :: ws.drop (i + 1) := by
      rw [List.drop_eq_getElem_cons hi]
      rw [(List.getElem?_eq_some_iff.mp hx).2]
    rw [e] at r
    cases r with
    | cons a b => exact hs _ _ _ σ' H' a q _ fun σ'' H'' z => ⟨hi, _, b, z⟩
  · obtain ⟨_, ys, r, q⟩ := p
    rw [List.drop_length] at r
    cases r
    exact hd _ _ q
theorem z_forT {α : Type} {R : V → α → Prop} {a : Addr} {ws : List V} {xs : List α} {tl : TE} {g : TG} {tb : TS} (ha : Val tl σ H (.ref a)) (hp : Paired R ws xs) (Pv : List α → L2.St → Hp → Prop) (h0 : Pv xs σ H) (hl : ∀ ys σ' H', Pv ys σ' H' → SqT K H' a ws)
    (hs : ∀ w y ys σ' H', R w y → Pv (y :: ys) σ' H' → ∀ N : L2.St → Hp → Prop, (∀ σ'' H'', Pv ys σ'' H'' → N σ'' H'') → g w σ' H' fun σ2 H2 => tb { D with nx := N, ct := N, bk := tu D } σ2 H2) (hd : ∀ σ' H', Pv [] σ' H' → tu D σ' H') :
    tSeq (tFor (iTup K tl) g tb) tu D σ H := ha _ ⟨a, rfl, ⟨ws, hl _ _ _ h0⟩, turns_tup (D := { D with nx := tu D }) hp Pv h0 hl hs hd⟩
end
theorem bt_min : bootBuiltins "min" = some (.builtin "min") := by decide +kernel
theorem bt_max : bootBuiltins "max" = some (.builtin "max") := by decide +kernel
end Z

namespace Z
open PySem PySem.Spec PyProof.Rows L2

/-! ### comprehensions -/
def consO {β : Type} (r : Option β) (ys : List β) : List β := match r with
  | some y => y :: ys
  | none => ys
def compO' {α β : Type} (f : α → Option (Option β)) : List α → Option (List β)
  | [] => some []
  | x :: xs => (f x).bind fun r => (compO' f xs).bind fun ys => some (consO r ys)
@[irreducible] def compO {α β : Type} (f : α → Option (Option β)) (xs : List α) : Option (List β) := if xs.length ≤ 16777216 then compO' f xs else none
theorem compO_some {α β : Type} {f : α → Option (Option β)} {xs : List α} {ys : List β} (h : compO f xs = some ys) : xs.length ≤ 16777216 ∧ compO' f xs = some ys := by
  unfold compO at h
  split at h
  · rename_i q; exact ⟨q, h⟩
  · cases h
theorem compO_eq {α β : Type} {f : α → Option (Option β)} {g : α → Option β} {xs : List α} (hl : xs.length ≤ 16777216) (h : ∀ x ∈ xs, f x = some (g x)) : compO f xs = some (xs.filterMap g) := by
  unfold compO
  rw [if_pos hl]
  clear hl
  induction xs with
  | nil => rfl
  | cons x xs ih =>
    unfold compO'
    rw [h x (List.mem_cons_self), ih fun y hy => h y (List.mem_cons_of_mem _ hy), List.filterMap_cons]
    cases g x <;> rfl
section
variable {K : PySem.W.Frag} {σ : L2.St} {S H : Hp} {ta tl te : TE} {tt : TT} {tr : TA} {v : V} {Q : VK} {D : Ends} {tu : TS}
theorem wipe_one (j : Nat) : wipe σ [j] = σ.set j none := rfl
theorem wipe_again (j : Nat) (v : V) : wipe ((wipe σ [j]).set j (some v)) [j] = wipe σ [j] := by
  rw [wipe_one, wipe_one, List.set_set, List.set_set]
theorem turnsC_range {lo : Int} {n : Nat} {g : TG} {vs : List Nat} {H1 : Hp} {P : Addr} {Qd : Hp → Prop} (Pv : List Int → Hp → Prop) (h0 : Pv (rangeI lo n) (upd H1 P (.lst [])))
    (hs : ∀ x xs H', Pv (x :: xs) H' → ∀ N : Hp → Prop, (∀ H'', Pv xs H'' → N H'') → g (.int x) (wipe σ vs) H' fun σ2 H2 => wipe σ2 vs = wipe σ vs ∧ tt σ2 H2 fun b H3 =>
      if b = true then te σ2 H3 fun y H4 => ∃ acc, H4 P = some (.lst acc) ∧ acc.length < sizeLine ∧ N (upd H4 P (.lst (acc ++ [y]))) else N H3) (hd : ∀ H', Pv [] H' → Qd H') :
    ∃ W : Nat → Nat → Hp → Prop, (∃ m, W 0 m (upd H1 P (.lst []))) ∧ ∀ i m H, W i m H →
      ((Itr lo n).stop i H ∧ Qd H) ∨ ((Itr lo n).go i H ∧ ∃ Nx : Hp → Prop, (∀ H', Nx H' → ∃ m', m' < m ∧ W (i + 1) m' H') ∧ ∀ x H', (Itr lo n).yld i H x H' → g x (wipe σ vs) H' fun σ2 H2 => wipe σ2 vs = wipe σ vs ∧ tt σ2 H2 fun b H3 =>
        if b = true then te σ2 H3 fun y H4 => ∃ acc, H4 P = some (.lst acc) ∧ acc.length < sizeLine ∧ Nx (upd H4 P (.lst (acc ++ [y]))) else Nx H3) := by
  refine lc_range (fun i H => i ≤ n ∧ Pv (rangeI (lo + (i : Int)) (n - i)) H) ⟨Nat.zero_le _, by
    rw [show lo + ((0 : Nat) : Int) = lo from Int.add_zero lo]; exact h0⟩ (fun i H' hi p => ?_) (fun H' p => hd _ (by
    have q := p.2
    rw [Nat.sub_self] at q
    exact q))
  have e : n - i = (n - (i + 1)) + 1 := by omega
  have q := p.2
  rw [e, rangeI_succ] at q
  refine hs _ _ H' q (fun H => i + 1 ≤ n ∧ Pv (rangeI (lo + ((i + 1 : Nat) : Int)) (n - (i + 1))) H) fun H'' z => ⟨hi, ?_⟩
  rw [show lo + ((i + 1 : Nat) : Int) = lo + (i : Int) + 1 by omega]
  exact z
theorem turnsC_list {α : Type} {R : V → α → Prop} {a : Addr} {ws : List V} {xs : List α} {g : TG} {vs : List Nat} {H1 : Hp} {P : Addr} {Qd : Hp → Prop} (hp : Paired R ws xs) (Pv : List α → Hp → Prop) (h0 : Pv xs (upd H1 P (.lst []))) (hl : ∀ ys H', Pv ys H' → SqL K H' a ws)
    (hs : ∀ w x xs H', R w x → Pv (x :: xs) H' → ∀ N : Hp → Prop, (∀ H'', Pv xs H'' → N H'') → g w (wipe σ vs) H' fun σ2 H2 => wipe σ2 vs = wipe σ vs ∧ tt σ2 H2 fun b H3 =>
      if b = true then te σ2 H3 fun y H4 => ∃ acc, H4 P = some (.lst acc) ∧ acc.length < sizeLine ∧ N (upd H4 P (.lst (acc ++ [y]))) else N H3) (hd : ∀ H', Pv [] H' → Qd H') :
    ∃ W : Nat → Nat → Hp → Prop, (∃ m, W 0 m (upd H1 P (.lst []))) ∧ ∀ i m H, W i m H →
      ((Itl K a).stop i H ∧ Qd H) ∨ ((Itl K a).go i H ∧ ∃ Nx : Hp → Prop, (∀ H', Nx H' → ∃ m', m' < m ∧ W (i + 1) m' H') ∧ ∀ x H', (Itl K a).yld i H x H' → g x (wipe σ vs) H' fun σ2 H2 => wipe σ2 vs = wipe σ vs ∧ tt σ2 H2 fun b H3 =>
        if b = true then te σ2 H3 fun y H4 => ∃ acc, H4 P = some (.lst acc) ∧ acc.length < sizeLine ∧ Nx (upd H4 P (.lst (acc ++ [y]))) else Nx H3) := by
  refine lc_list (K := K) (a := a) (xs := ws) (fun i H => i ≤ ws.length ∧ ∃ ys, Paired R (ws.drop i) ys ∧ Pv ys H) ⟨Nat.zero_le _, xs, hp, h0⟩ (fun i H' _ p => ?_) (fun i x H' hx p => ?_) (fun H' p => ?_)
  · obtain ⟨_, ys, _, q⟩ := p
    exact hl _ _ q
  · obtain ⟨_, ys, r, q⟩ := p
    have hi : i < ws.length := (List.getElem?_eq_some_iff.mp hx).1
    have e : ws.drop i = x :: ws.drop (i + 1) := by
      rw [List.drop_eq_getElem_cons hi]
      rw [(List.getElem?_eq_some_iff.mp hx).2]
    rw [e] at r
    cases r with
    | cons a b => exact hs _ _ _ H' a q (fun H => i + 1 ≤ ws.length ∧ ∃ ys, Paired R (ws.drop (i + 1)) ys ∧ Pv ys H) fun H'' z => ⟨hi, _, b, z⟩
  · obtain ⟨_, ys, r, q⟩ := p
    rw [List.drop_length] at r
    cases r
    exact hd _ q
/-- what holds between two turns of a comprehension whose parts leave the heap as it is: P the new list, zs what is left -/
def CPv {α β : Type} (τ : Rep K β) (S H : Hp) (P : Addr) (f : α → Option (Option β)) (ys : List β) (zs : List α) (H' : Hp) : Prop :=
  ∃ acc ys1 ys2, H' P = some (.lst acc) ∧ RL τ S acc ys1 ∧ Same H H' ∧ compO' f zs = some ys2 ∧ ys1 ++ ys2 = ys ∧ acc.length + zs.length ≤ 16777216
theorem CPv.start {α β : Type} {τ : Rep K β} {P : Addr} {f : α → Option (Option β)} {ys : List β} {zs : List α} (hP : H P = none) (h : compO f zs = some ys) : CPv τ S H P f ys zs (upd H P (.lst [])) := by
  obtain ⟨h1, h2⟩ := compO_some h
  exact ⟨[], [], ys, upd_same, .nil, same_upd hP, h2, rfl, by simpa using h1⟩
theorem CPv.turn {α β : Type} {τ : Rep K β} {P : Addr} {f : α → Option (Option β)} {ys : List β} {x : α} {zs : List α} {H' : Hp} {j : Nat} {w : V} {σx : L2.St} (hP : H P = none) (hσ : σ.set j (some w) = σx)
    (turn : ∀ H', Same H H' → ∀ r, f x = some r → ∃ b, Ans tt σx H' b ∧ (b = true → ∃ v y, r = some y ∧ Val te σx H' v ∧ τ.R S v y) ∧ (b = false → r = none))
    (p : CPv τ S H P f ys (x :: zs) H') (N : Hp → Prop) (hN : ∀ H'', CPv τ S H P f ys zs H'' → N H'') :
    gName j w (wipe σ [j]) H' fun σ2 H2 => wipe σ2 [j] = wipe σ [j] ∧ tt σ2 H2 fun b H3 =>
      if b = true then te σ2 H3 fun y H4 => ∃ acc, H4 P = some (.lst acc) ∧ acc.length < sizeLine ∧ N (upd H4 P (.lst (acc ++ [y]))) else N H3 := by
  obtain ⟨acc, ys1, ys2, h1, h2, h3, h4, h5, h6⟩ := p
  have e : (wipe σ [j]).set j (some w) = σx := by rw [wipe_one, List.set_set]; exact hσ
  have e2 : wipe σx [j] = wipe σ [j] := by rw [← e]; exact wipe_again j w
  unfold compO' at h4
  cases hf : f x with
  | none => rw [hf] at h4; cases h4
  | some r =>
    rw [hf] at h4
    cases hr : compO' f zs with
    | none => rw [hr] at h4; cases h4
    | some ys3 =>
      rw [hr] at h4
      have h4 : consO r ys3 = ys2 := Option.some.inj h4
      obtain ⟨b, ha, ht, hn⟩ := turn H' h3 r hf
      refine g_name e ?_
      refine ⟨e2, ha _ ?_⟩
      cases b with
      | true =>
        obtain ⟨v, y, rfl, hv, hR⟩ := ht rfl
        refine (show (if true = true then _ else _) from hv _ ⟨acc, h1, ?_, hN _ ⟨acc ++ [v], ys1 ++ [y], ys3, upd_same, h2.app (.cons hR .nil), fun a o q => ?_, hr, ?_, ?_⟩⟩)
        · rw [sizeLine_eq]; simp only [List.length_cons] at h6; omega
        · rw [upd_ne (ne_of_none q hP)]; exact h3 a o q
        · rw [← h5, ← h4, List.append_assoc]; rfl
        · rw [List.length_append]; simp only [List.length_cons, List.length_nil] at h6 ⊢; omega
      | false =>
        have hn := hn rfl
        subst hn
        refine (show (if false = true then _ else _) from hN _ ⟨acc, ys1, ys3, h1, h2, h3, hr, ?_, ?_⟩)
        · rw [← h5, ← h4]; rfl
        · simp only [List.length_cons] at h6; omega
theorem CPv.done {α β : Type} {τ : Rep K β} {P : Addr} {f : α → Option (Option β)} {ys : List β} {H' : Hp} (p : CPv τ S H P f ys [] H') : ∃ acc, H' P = some (.lst acc) ∧ RL τ S acc ys ∧ Same H H' := by
  obtain ⟨acc, ys1, ys2, h1, h2, h3, h4, h5, _⟩ := p
  have : ys2 = [] := (Option.some.inj h4).symm
  subst this
  rw [List.append_nil] at h5
  subst h5
  exact ⟨acc, h1, h2, h3⟩
theorem c_lcR1 {β : Type} {τ : Rep K β} {n : Int} {f : Int → Option (Option β)} {ys : List β} {j : Nat} (ha : VA tr σ H [.int n]) (hj : gR n) (h : compO f (rangeI 0 n.toNat) = some ys)
    (turn : ∀ x H', Same H H' → ∀ r, f x = some r → ∃ b, Ans tt (σ.set j (some (.int x))) H' b ∧ (b = true → ∃ v y, r = some y ∧ Val te (σ.set j (some (.int x))) H' v ∧ τ.R S v y) ∧ (b = false → r = none))
    (k : ∀ p ws H', Same H H' → H p = none → H' p = some (.lst ws) → RL τ S ws ys → Q (.ref p) H') : tLc (iRng1 tr) (gName j) tt te [j] σ H Q :=
  ha _ ⟨n, rfl, hj.1, hj.2, fun P hP => turnsC_range (CPv τ S H P f ys) (CPv.start hP h) (fun x xs H' p N hN => CPv.turn hP rfl (fun H' e r hr => turn x H' e r hr) p N hN) fun H' p => by
    obtain ⟨acc, h1, h2, h3⟩ := p.done
    exact k P acc H' h3 hP h1 h2⟩
theorem c_lcR2 {β : Type} {τ : Rep K β} {m n : Int} {f : Int → Option (Option β)} {ys : List β} {j : Nat} (ha : VA tr σ H [.int m, .int n]) (hj : gR2 m n) (h : compO f (rangeI m (n - m).toNat) = some ys)
    (turn : ∀ x H', Same H H' → ∀ r, f x = some r → ∃ b, Ans tt (σ.set j (some (.int x))) H' b ∧ (b = true → ∃ v y, r = some y ∧ Val te (σ.set j (some (.int x))) H' v ∧ τ.R S v y) ∧ (b = false → r = none))
    (k : ∀ p ws H', Same H H' → H p = none → H' p = some (.lst ws) → RL τ S ws ys → Q (.ref p) H') : tLc (iRng2 tr) (gName j) tt te [j] σ H Q :=
  ha _ ⟨m, n, rfl, hj, fun P hP => turnsC_range (CPv τ S H P f ys) (CPv.start hP h) (fun x xs H' p N hN => CPv.turn hP rfl (fun H' e r hr => turn x H' e r hr) p N hN) fun H' p => by
    obtain ⟨acc, h1, h2, h3⟩ := p.done
    exact k P acc H' h3 hP h1 h2⟩
theorem c_lcL {α β : Type} {τ : Rep K β} {R : V → α → Prop} {a : Addr} {us : List V} {xs : List α} {f : α → Option (Option β)} {ys : List β} {j : Nat} (ha : Val tl σ H (.ref a)) (hq : SqL K H a us) (hp : Paired R us xs) (h : compO f xs = some ys)
    (turn : ∀ w x H', R w x → Same H H' → ∀ r, f x = some r → ∃ b, Ans tt (σ.set j (some w)) H' b ∧ (b = true → ∃ v y, r = some y ∧ Val te (σ.set j (some w)) H' v ∧ τ.R S v y) ∧ (b = false → r = none))
    (k : ∀ p ws H', Same H H' → H p = none → H' p = some (.lst ws) → RL τ S ws ys → Q (.ref p) H') : tLc (iList K tl) (gName j) tt te [j] σ H Q :=
  ha _ ⟨a, rfl, ⟨us, hq⟩, fun P hP => turnsC_list hp (CPv τ S H P f ys) (CPv.start hP h) (fun zs H' p => by
    obtain ⟨_, _, _, _, _, e, _⟩ := p
    exact e.seq hq) (fun w x xs H' rw_ p N hN => CPv.turn hP rfl (fun H' e r hr => turn w x H' rw_ e r hr) p N hN) fun H' p => by
    obtain ⟨acc, h1, h2, h3⟩ := p.done
    exact k P acc H' h3 hP h1 h2⟩
theorem a_yes {b : Bool} (h : b = true) : Ans tYes σ H b := by subst h; exact fun _ q => q

/-! ### further forms of loops -/
theorem z_forLE {g : TG} {tb : TS} (h : tl σ H fun x H1 => tSeq (tFor (iList K (tC x)) g tb) tu D σ H1) : tSeq (tFor (iList K tl) g tb) tu D σ H := h
theorem c_lcLE {g : TG} {vs : List Nat} (h : tl σ H fun x H1 => tLc (iList K (tC x)) g tt te vs σ H1 Q) : tLc (iList K tl) g tt te vs σ H Q := h
theorem v_ixq2 {α : Type} {τ : Rep K α} {xs : List α} {q : α} {i : Int} (e : Same S H) (hr : (qQ τ).R S v xs) (hx : atI xs i = some q) : ∃ w, (∀ {σ : L2.St} {ta tb : TE}, Val ta σ H v → Val tb σ H (.int i) → Val (tOp (rIxL K) ta tb) σ H w) ∧ τ.R S w q := by
  obtain ⟨a, ws, rfl, h2, h3⟩ := hr
  obtain ⟨w, ew, r⟩ := h3.at hx
  exact ⟨w, fun ha hb Q z => ha _ (hb _ ⟨a, ws, i, w, rfl, rfl, e.seq h2, ew, z⟩), r⟩
theorem v_ixc {α : Type} {τ : Rep K α} {l : Addr} {ws : List V} {xs : List α} {q : α} {i : Int} (hl : H l = some (.lst ws)) (hr : RL τ S ws xs) (hx : atI xs i = some q) : ∃ w, (∀ {σ : L2.St} {ta tb : TE}, Val ta σ H (.ref l) → Val tb σ H (.int i) → Val (tOp (rIxL K) ta tb) σ H w) ∧ τ.R S w q := by
  obtain ⟨w, ew, r⟩ := hr.at hx
  exact ⟨w, fun ha hb Q z => ha _ (hb _ ⟨l, ws, i, w, rfl, rfl, SqL.of hl, ew, z⟩), r⟩
/-- a part of a tuple -/
theorem v_p20 {α β : Type} {τ : Rep K α} {υ : Rep K β} {p : α × β} (e : Same S H) (hr : (qT2 τ υ).R S v p) : ∃ w, (∀ {σ : L2.St} {ta tb : TE}, Val ta σ H v → Val tb σ H (.int 0) → Val (tOp (rIxT K) ta tb) σ H w) ∧ τ.R S w p.1 := by
  obtain ⟨a, w1, w2, rfl, h2, h3, _⟩ := hr
  exact ⟨w1, fun ha hb Q q => ha _ (hb _ ⟨a, _, 0, _, rfl, rfl, SqT.of (e _ _ h2), rfl, q⟩), h3⟩
theorem v_p21 {α β : Type} {τ : Rep K α} {υ : Rep K β} {p : α × β} (e : Same S H) (hr : (qT2 τ υ).R S v p) : ∃ w, (∀ {σ : L2.St} {ta tb : TE}, Val ta σ H v → Val tb σ H (.int 1) → Val (tOp (rIxT K) ta tb) σ H w) ∧ υ.R S w p.2 := by
  obtain ⟨a, w1, w2, rfl, h2, _, h3⟩ := hr
  exact ⟨w2, fun ha hb Q q => ha _ (hb _ ⟨a, _, 1, _, rfl, rfl, SqT.of (e _ _ h2), rfl, q⟩), h3⟩
theorem eun2 {α β γ : Type} {f : α → β → γ} {a : α} {b : β} {r : γ} (h : un2 f (a, b) = r) : f a b = r := h
theorem eun3 {α β γ δ : Type} {f : α → β → γ → δ} {a : α} {b : β} {c : γ} {r : δ} (h : un3 f (a, b, c) = r) : f a b c = r := h
theorem eun4 {α β γ δ ε : Type} {f : α → β → γ → δ → ε} {a : α} {b : β} {c : γ} {d : δ} {r : ε} (h : un4 f (a, b, c, d) = r) : f a b c d = r := h
theorem eun5 {α β γ δ ε ζ : Type} {f : α → β → γ → δ → ε → ζ} {a : α} {b : β} {c : γ} {d : δ} {e : ε} {r : ζ} (h : un5 f (a, b, c, d, e) = r) : f a b c d e = r := h
theorem OP.nameW {σ : Type} {c : σ → Option Bool} {f : σ → Option σ} {n : Nat} {s : σ} {A : σ → Prop} (h : OP (Z.whileO c f n s) A) : ∃ C F, C = c ∧ F = f ∧ OP (Z.whileO C F n s) A := ⟨c, f, rfl, rfl, h⟩
theorem OP.nameX {σ ρ : Type} {c : σ → Option Bool} {f : σ → Option (σ ⊕ ρ)} {n : Nat} {s : σ} {A : σ ⊕ ρ → Prop} (h : OP (Z.whileR c f n s) A) : ∃ C F, C = c ∧ F = f ∧ OP (Z.whileR C F n s) A := ⟨c, f, rfl, rfl, h⟩
theorem fcall {σ τ : Type} {F f : σ → Option τ} {s : σ} {r : τ} (e : F = f) (h : F s = some r) : f s = some r := e ▸ h
end
end Z

namespace E
open PySem PySem.Spec PyProof.Rows L2 Z
def top (i : Nat) : Stmt := PySem.Challenge.pw_evernever_k22_lamps_of_a_bar.main.body.getD i (.Pass ⟨0, 0, 0, 0⟩)
section
variable {P : Program} {w : World} {K : PySem.W.Frag} {mg : Str → Option Value} {base : Heap}
structure Tx (K : PySem.W.Frag) (mg : Str → Option Value) : Type where
  f__law_bar_of : Addr
  d__law_bar_of : FuncData
  F__law_bar_of : Fun K "_law_bar_of" "_law_bar_of" (top 6) f__law_bar_of d__law_bar_of
  m__law_bar_of : mg "_law_bar_of" = some (.ref f__law_bar_of)
  b__law_bar_of : Binds K d__law_bar_of ["_law_ways"] []
  f__law_bar_told : Addr
  d__law_bar_told : FuncData
  F__law_bar_told : Fun K "_law_bar_told" "_law_bar_told" (top 8) f__law_bar_told d__law_bar_told
  m__law_bar_told : mg "_law_bar_told" = some (.ref f__law_bar_told)
  b__law_bar_told : Binds K d__law_bar_told ["_law_found", "_law_due"] []
  f__law_cell_at : Addr
  d__law_cell_at : FuncData
  F__law_cell_at : Fun K "_law_cell_at" "_law_cell_at" (top 5) f__law_cell_at d__law_cell_at
  m__law_cell_at : mg "_law_cell_at" = some (.ref f__law_cell_at)
  b__law_cell_at : Binds K d__law_cell_at ["_law_script", "_law_k"] []
  f_asks_for : Addr
  d_asks_for : FuncData
  F_asks_for : Fun K "asks_for" "asks_for" (top 1) f_asks_for d_asks_for
  m_asks_for : mg "asks_for" = some (.ref f_asks_for)
  b_asks_for : Binds K d_asks_for ["bar", "lamp"] []
  f_asked_by : Addr
  d_asked_by : FuncData
  F_asked_by : Fun K "asked_by" "asked_by" (top 2) f_asked_by d_asked_by
  m_asked_by : mg "asked_by" = some (.ref f_asked_by)
  b_asked_by : Binds K d_asked_by ["bar"] []
  f__law_numbers_told : Addr
  d__law_numbers_told : FuncData
  F__law_numbers_told : Fun K "_law_numbers_told" "_law_numbers_told" (top 7) f__law_numbers_told d__law_numbers_told
  m__law_numbers_told : mg "_law_numbers_told" = some (.ref f__law_numbers_told)
  b__law_numbers_told : Binds K d__law_numbers_told ["_law_bar", "_law_ways"] []
  f_without : Addr
  d_without : FuncData
  F_without : Fun K "without" "without" (top 3) f_without d_without
  m_without : mg "without" = some (.ref f_without)
  b_without : Binds K d_without ["bar", "lamp"] []
  f_law : Addr
  d_law : FuncData
  F_law : Fun K "law" "law" (top 9) f_law d_law
  m_law : mg "law" = some (.ref f_law)
  b_law : Binds K d_law ["_law_script"] []
  n_bool : mg "bool" = none
  n_int : mg "int" = none
  n_isinstance : mg "isinstance" = none
  n_len : mg "len" = none
  n_list : mg "list" = none
  n_range : mg "range" = none
  n_tuple : mg "tuple" = none

@[irreducible] def m__law_bar_of (ways1 : (List Int)) : Option (Int × Int) :=
(forO (fun way4 s =>
un3 (fun asked12 lit13 worth14 =>
(ifo (decide (0 < way4)) (
lt (asked12 + worth14) fun asked24 =>
some asked24) (
some asked12)).bind (fun asked18 =>
(ifo (decide (way4 = 2)) (
lt (lit13 + worth14) fun lit23 =>
some lit23) (
some lit13)).bind (fun lit20 =>
lt (worth14 * 2) fun worth22 =>
some (asked18, lit20, worth22)))) s) (ways1) (0, 0, 1)).bind (fun s => un3 (fun asked12 lit13 worth14 =>
some (asked12, lit13)) s)
abbrev s__law_bar_of : Stmt := top 6
abbrev sn__law_bar_of : List Str := ["_law_ways", "_law_asked", "_law_lit", "_law_worth", "_law_way"]
theorem sc__law_bar_of : FnScope ["_law_ways", "_law_asked", "_law_lit", "_law_worth", "_law_way"] ["_law_ways"] (defScope s__law_bar_of) := ⟨rfl, rfl, rfl, by decide +kernel, rfl, by decide +kernel, by decide +kernel⟩
def p__law_bar_of (K : PySem.W.Frag) : Sp := fun vs H Q _ => ∃ (v2 : V) (ways1 : (List Int)), vs = [v2] ∧ ((qL (qI (K := K)))).R H v2 ways1 ∧ OP (m__law_bar_of ways1) (fun r => ∀ v H', Same H H' → ((qT2 (qI (K := K)) (qI (K := K)))).R H' v r → Q v H')
theorem ok__law_bar_of (T : Tx K mg) : FnOk P w K mg base CX0 1 T.f__law_bar_of T.d__law_bar_of ["_law_ways"] (p__law_bar_of K) := by
  refine T.F__law_bar_of.ok sc__law_bar_of (fun vs H Q E h => by obtain ⟨v2, ways1, rfl, _⟩ := h; rfl) (fun cdv A outer s H vs Q E hr h => ?_)
  obtain ⟨v2, ways1, rfl, r3, h⟩ := h
  rw [m__law_bar_of] at h
  refine ⟨_, (pss_cons (ps_set (i := 1) sc__law_bar_of.nd rfl (.inl rfl) pe_int)
      (pss_cons (ps_set (i := 2) sc__law_bar_of.nd rfl (.inl rfl) pe_int)
      (pss_cons (ps_set (i := 3) sc__law_bar_of.nd rfl (.inl rfl) pe_int)
      (pss_cons (ps_for PassesOwn.never rfl (pi_list (pe_var (i := 0) rfl (.inl rfl) rfl rfl)) (pg_name (i := 4) sc__law_bar_of.nd rfl (.inl rfl)) (pss_cons (ps_if (pt_cmpR op_gt (pe_var (i := 4) rfl (.inl rfl) rfl rfl) pe_int (nomark _)) (pss_cons (ps_set (i := 1) sc__law_bar_of.nd rfl (.inl rfl) (pe_op op_add (pe_var (i := 1) rfl (.inl rfl) rfl rfl) (pe_var (i := 3) rfl (.inl rfl) rfl rfl)))
      pss_nil) pss_nil)
      (pss_cons (ps_if (pt_cmpR op_eq (pe_var (i := 4) rfl (.inl rfl) rfl rfl) pe_int (nomark _)) (pss_cons (ps_set (i := 2) sc__law_bar_of.nd rfl (.inl rfl) (pe_op op_add (pe_var (i := 2) rfl (.inl rfl) rfl rfl) (pe_var (i := 3) rfl (.inl rfl) rfl rfl)))
      pss_nil) pss_nil)
      (pss_cons (ps_set (i := 3) sc__law_bar_of.nd rfl (.inl rfl) (pe_op op_mul (pe_var (i := 3) rfl (.inl rfl) rfl rfl) pe_int))
      pss_nil))))
      (pss_cons (ps_ret (pe_tup (pa_cons (pe_var (i := 1) rfl (.inl rfl) rfl rfl) (pa_cons (pe_var (i := 2) rfl (.inl rfl) rfl rfl) pa_nil))))
      pss_nil))))), ?_⟩
  refine z_start (σ := [some v2, none, none, none, none]) rfl ?_
  have g : Grow [] H H H H := Grow.refl (Same.refl _)
  refine z_set (w := (.int 0)) (σ' := [some v2, some (.int 0), none, none, none]) val_c rfl rfl ?_
  refine z_set (w := (.int 0)) (σ' := [some v2, some (.int 0), some (.int 0), none, none]) val_c rfl rfl ?_
  refine z_set (w := (.int 1)) (σ' := [some v2, some (.int 0), some (.int 0), some (.int 1), none]) val_c rfl rfl ?_
  obtain ⟨B7, h, hB8⟩ := OP.cut h
  obtain ⟨F9, hF10, h⟩ := OP.nameO h
  obtain ⟨q17a, q17w, q17e, q17h, q17p⟩ := id ((qL_qQ (Rep.mono _ g.sh r3)))
  refine z_forL (v_eq (val_var rfl) q17e) q17p (fun ys σ' H' => ∃ (asked12 : Int) (lit13 : Int) (worth14 : Int) (u15 : Option V), σ' = [some v2, some (.int asked12), some (.int lit13), some (.int worth14), u15] ∧ H = H' ∧ OP (forO F9 ys (asked12, lit13, worth14)) B7) ⟨_, _, _, _, rfl, rfl, h⟩ (fun ys σ' H' p => by obtain ⟨asked12, lit13, worth14, u15, rfl, rfl, h⟩ := p; exact q17h) (fun w5 way4 ys σ' H16 rw6 p N hN11 => ?_) ?_
  · obtain ⟨asked12, lit13, worth14, u15, rfl, rfl, h⟩ := p
    replace h := OP.forO h
    replace h := OP.fcall2 hF10 h
    replace h := OP.un3 h
    cases (show w5 = (.int way4) from rw6)
    refine g_name (σ' := [some v2, some (.int asked12), some (.int lit13), some (.int worth14), some (.int way4)]) rfl ?_
    obtain ⟨B, h, hB⟩ := OP.cut h
    refine z_ifj (fun σ' H' => ∃ (asked18 : Int), σ' = [some v2, some (.int asked18), some (.int lit13), some (.int worth14), some (.int way4)] ∧ H = H' ∧ B asked18) ((v_test ((v_o2 (val_var rfl) val_c)))) ?_ (fun hc N hN => ?_) (fun hc N hN => ?_)
    · intro σ' H19 p
      obtain ⟨asked18, rfl, rfl, h⟩ := p
      replace h := hB _ h
      obtain ⟨B, h, hB⟩ := OP.cut h
      refine z_ifj (fun σ' H' => ∃ (lit20 : Int), σ' = [some v2, some (.int asked18), some (.int lit20), some (.int worth14), some (.int way4)] ∧ H = H' ∧ B lit20) ((v_test ((v_eqI (val_var rfl) val_c)))) ?_ (fun hc N hN => ?_) (fun hc N hN => ?_)
      · intro σ' H21 p
        obtain ⟨lit20, rfl, rfl, h⟩ := p
        replace h := hB _ h
        obtain ⟨worth22, eworth22, h⟩ := OP.lt h
        refine z_set (w := (.int worth22)) (σ' := [some v2, some (.int asked18), some (.int lit20), some (.int worth22), some (.int way4)]) ((v_o2c (val_var rfl) val_c (.inr ⟨by decide, by decide⟩))) (congrArg V.int eworth22) rfl ?_
        refine z_next ?_
        exact hN11 _ _ ⟨_, _, _, _, rfl, rfl, h⟩
      · replace h := OP.ite1 hc h
        obtain ⟨lit23, elit23, h⟩ := OP.lt h
        refine z_set (w := (.int lit23)) (σ' := [some v2, some (.int asked18), some (.int lit23), some (.int worth14), some (.int way4)]) ((v_o2 (val_var rfl) (val_var rfl))) (congrArg V.int elit23) rfl ?_
        refine z_next ?_
        exact hN _ _ ⟨_, rfl, rfl, h⟩
      · replace h := OP.ite0 hc h
        refine z_next ?_
        exact hN _ _ ⟨_, rfl, rfl, h⟩
    · replace h := OP.ite1 hc h
      obtain ⟨asked24, easked24, h⟩ := OP.lt h
      refine z_set (w := (.int asked24)) (σ' := [some v2, some (.int asked24), some (.int lit13), some (.int worth14), some (.int way4)]) ((v_o2 (val_var rfl) (val_var rfl))) (congrArg V.int easked24) rfl ?_
      refine z_next ?_
      exact hN _ _ ⟨_, rfl, rfl, h⟩
    · replace h := OP.ite0 hc h
      refine z_next ?_
      exact hN _ _ ⟨_, rfl, rfl, h⟩
  · intro σ' H25 p
    obtain ⟨asked12, lit13, worth14, u15, rfl, rfl, h⟩ := p
    replace h := hB8 _ (OP.forO_nil h)
    replace h := OP.un3 h
    refine z_retE ?_
    refine c_tupE fun Q26 hQ26 => ?_
    refine c_args (va_cons (val_var rfl) (va_cons (val_var rfl) va_nil)) ?_
    refine c_newtup (Q := Q26) (vs := [(.int asked12), (.int lit13)]) g.sh (show 2 ≤ 1000 by decide) fun p27 S28 H29 gs30 ep31 => ?_
    refine q_eq hQ26 ?_
    replace r3 := Rep.mono _ gs30.ss r3
    replace g := g.call0 gs30
    have r32 : ((qT2 (qI (K := K)) (qI (K := K)))).R S28 (.ref p27) (asked12, lit13) := ⟨p27, _, _, rfl, ep31, rfl, rfl⟩
    exact h _ _ g.same0 (Rep.mono _ g.sh r32)

@[irreducible] def m__law_bar_told (found1 : (Int × Int)) (due4 : (Int × Int)) : Option Bool :=
ifo ((!true) || (!(decide (2 = 2)))) (
some false) (
brk (forR (fun number7 _ =>
ifo ((!true) || false) (
some (.inr false)) (
some (.inl ()))) ([found1.1, found1.2]) ()) (fun _ =>
some ((decide (found1 = due4)))))
abbrev s__law_bar_told : Stmt := top 8
abbrev sn__law_bar_told : List Str := ["_law_found", "_law_due", "_law_number"]
theorem sc__law_bar_told : FnScope ["_law_found", "_law_due", "_law_number"] ["_law_found", "_law_due"] (defScope s__law_bar_told) := ⟨rfl, rfl, rfl, by decide +kernel, rfl, by decide +kernel, by decide +kernel⟩
def p__law_bar_told (K : PySem.W.Frag) : Sp := fun vs H Q _ => ∃ (v2 : V) (found1 : (Int × Int)) (v5 : V) (due4 : (Int × Int)), vs = [v2, v5] ∧ ((qT2 (qI (K := K)) (qI (K := K)))).R H v2 found1 ∧ ((qT2 (qI (K := K)) (qI (K := K)))).R H v5 due4 ∧ OP (m__law_bar_told found1 due4) (fun r => Q (.bl r) H)
theorem ok__law_bar_told (T : Tx K mg) : FnOk P w K mg base CX0 1 T.f__law_bar_told T.d__law_bar_told ["_law_found", "_law_due"] (p__law_bar_told K) := by
  refine T.F__law_bar_told.ok sc__law_bar_told (fun vs H Q E h => by obtain ⟨v2, found1, v5, due4, rfl, _⟩ := h; rfl) (fun cdv A outer s H vs Q E hr h => ?_)
  obtain ⟨v2, found1, v5, due4, rfl, r3, r6, h⟩ := h
  rw [m__law_bar_told] at h
  refine ⟨_, (pss_cons (ps_if (PW.pt (pw_or (pt_not (pt_val (pe_callB (show CallR _ (.builtin "isinstance") (rIsi K) from call_isi) rfl T.n_isinstance bt_isinstance (pa_cons (pe_var (i := 0) rfl (.inl rfl) rfl rfl) (pa_cons (pe_bltn (v := .ty "tuple") rfl T.n_tuple bt_tuple rfl) pa_nil))))) (pw_or1 (pt_cmpR op_ne (pe_callB (show CallR _ (.builtin "len") (Z.rLenS K) from call_len_seq) rfl T.n_len bt_len (pa_cons (pe_var (i := 0) rfl (.inl rfl) rfl rfl) pa_nil)) pe_int (nomark _))))) (pss_cons (ps_ret pe_bl)
      pss_nil) pss_nil)
      (pss_cons (ps_for PassesOwn.never rfl (pi_tup (pe_var (i := 0) rfl (.inl rfl) rfl rfl)) (pg_name (i := 2) sc__law_bar_told.nd rfl (.inl rfl)) (pss_cons (ps_if (PW.pt (pw_or (pt_not (pt_val (pe_callB (show CallR _ (.builtin "isinstance") (rIsi K) from call_isi) rfl T.n_isinstance bt_isinstance (pa_cons (pe_var (i := 2) rfl (.inl rfl) rfl rfl) (pa_cons (pe_bltn (v := .ty "int") rfl T.n_int bt_int rfl) pa_nil))))) (pw_or1 (pt_val (pe_callB (show CallR _ (.builtin "isinstance") (rIsi K) from call_isi) rfl T.n_isinstance bt_isinstance (pa_cons (pe_var (i := 2) rfl (.inl rfl) rfl rfl) (pa_cons (pe_bltn (v := .ty "bool") rfl T.n_bool bt_bool rfl) pa_nil))))))) (pss_cons (ps_ret pe_bl)
      pss_nil) pss_nil)
      pss_nil))
      (pss_cons (ps_ret (pe_cmpR (op_eqD hr.units) (pe_var (i := 0) rfl (.inl rfl) rfl rfl) (pe_var (i := 1) rfl (.inl rfl) rfl rfl) (nomark _)))
      pss_nil))), ?_⟩
  refine z_start (σ := [some v2, some v5, none]) rfl ?_
  refine z_if ((a_or ((a_not ((v_B ((v_isi (val_var rfl) (ty_t2 r3) (k := true) (by decide +kernel))))))) ((v_test ((v_neI ((v_lenT2 (val_var rfl) r3)) val_c)))))) (fun hc => ?_) (fun hc => ?_)
  · replace h := OP.ite1 hc h
    refine z_ret val_c ?_
    exact h
  · replace h := OP.ite0 hc h
    refine z_nextR ?_
    obtain ⟨B10, h, hB11⟩ := OP.brk h
    obtain ⟨F12, hF13, h⟩ := OP.nameR h
    obtain ⟨q17a, q17w0, q17w1, q17e, q17t, q17r0, q17r1⟩ := id r3
    have q17p : Paired ((qI (K := K)).R H) [q17w0, q17w1] ([found1.1, found1.2]) := (.cons q17r0 (.cons q17r1 .nil))
    have q17h := SqT.of (K := K) q17t
    refine z_forT (v_eq (val_var rfl) q17e) q17p (fun ys σ' H' => ∃ (u15 : Option V), σ' = [some v2, some v5, u15] ∧ H = H' ∧ OP (forR F12 ys ()) (SE B10 (fun r => Q (.bl r) H))) ⟨_, rfl, rfl, h⟩ (fun ys σ' H' p => by obtain ⟨u15, rfl, rfl, h⟩ := p; exact q17h) (fun w8 number7 ys σ' H16 rw9 p N hN14 => ?_) ?_
    · obtain ⟨u15, rfl, rfl, h⟩ := p
      replace h := OP.forR h
      replace h := OP.fcall2 hF13 h
      cases (show w8 = (.int number7) from rw9)
      refine g_name (σ' := [some v2, some v5, some (.int number7)]) rfl ?_
      refine z_if ((a_or ((a_not ((v_B ((v_isi (val_var rfl) ty_int (k := true) (by decide +kernel))))))) ((v_B ((v_isi (val_var rfl) ty_int (k := false) (by decide +kernel))))))) (fun hc => ?_) (fun hc => ?_)
      · replace h := OP.ite1 hc h
        refine z_ret val_c ?_
        exact h
      · replace h := OP.ite0 hc h
        refine z_nextR ?_
        refine z_next ?_
        exact hN14 _ _ ⟨_, rfl, rfl, h⟩
    · intro σ' H18 p
      obtain ⟨u15, rfl, rfl, h⟩ := p
      replace h := hB11 _ (OP.forR_nil h)
      refine z_ret ((v_eqD (dT2 dI dI) (dT2 dI dI) rfl (Nat.le_of_ble_eq_true rfl) (val_var rfl) (val_var rfl) r3 r6)) ?_
      exact h

@[irreducible] def m__law_cell_at (script1 : (List Int)) (k4 : Int) : Option Int :=
ifo (decide (k4 < (script1.length : Int))) (
(atI script1 k4).bind fun i5 =>
some i5) (
some 0)
abbrev s__law_cell_at : Stmt := top 5
abbrev sn__law_cell_at : List Str := ["_law_script", "_law_k"]
theorem sc__law_cell_at : FnScope ["_law_script", "_law_k"] ["_law_script", "_law_k"] (defScope s__law_cell_at) := ⟨rfl, rfl, rfl, by decide +kernel, rfl, by decide +kernel, by decide +kernel⟩
def p__law_cell_at (K : PySem.W.Frag) : Sp := fun vs H Q _ => ∃ (v2 : V) (script1 : (List Int)) (k4 : Int), vs = [v2, .int k4] ∧ ((qQ (qI (K := K)))).R H v2 script1 ∧ OP (m__law_cell_at script1 k4) (fun r => Q (.int r) H)
theorem ok__law_cell_at (T : Tx K mg) : FnOk P w K mg base CX0 1 T.f__law_cell_at T.d__law_cell_at ["_law_script", "_law_k"] (p__law_cell_at K) := by
  refine T.F__law_cell_at.ok sc__law_cell_at (fun vs H Q E h => by obtain ⟨v2, script1, k4, rfl, _⟩ := h; rfl) (fun cdv A outer s H vs Q E hr h => ?_)
  obtain ⟨v2, script1, k4, rfl, r3, h⟩ := h
  rw [m__law_cell_at] at h
  refine ⟨_, (pss_cons (ps_if (pt_cmpR op_lt (pe_var (i := 1) rfl (.inl rfl) rfl rfl) (pe_callB (show CallR _ (.builtin "len") (Z.rLenS K) from call_len_seq) rfl T.n_len bt_len (pa_cons (pe_var (i := 0) rfl (.inl rfl) rfl rfl) pa_nil)) (nomark _)) (pss_cons (ps_ret (pe_ix (show IxR _ (rIxL K) from ix_list) (pe_var (i := 0) rfl (.inl rfl) rfl rfl) (pe_var (i := 1) rfl (.inl rfl) rfl rfl) (fun _ _ => rfl)))
      pss_nil) pss_nil)
      (pss_cons (ps_ret pe_int)
      pss_nil)), ?_⟩
  refine z_start (σ := [some v2, some (.int k4)]) rfl ?_
  refine z_if ((v_test ((v_o2 (val_var rfl) ((v_len (val_var rfl) r3)))))) (fun hc => ?_) (fun hc => ?_)
  · replace h := OP.ite1 hc h
    obtain ⟨i5, ei5, h⟩ := OP.bind h
    refine z_ret ((v_ixI (val_var rfl) (val_var rfl) r3 ei5)) ?_
    exact h
  · replace h := OP.ite0 hc h
    refine z_nextR ?_
    refine z_ret val_c ?_
    exact h

@[irreducible] def m_asks_for (bar1 : (Int × Int)) (lamp4 : Int) : Option Bool :=
grd (0 ≤ lamp4) <|
some ((decide ((band (shr bar1.1 lamp4) 1) = 1)))
abbrev s_asks_for : Stmt := top 1
abbrev sn_asks_for : List Str := ["bar", "lamp"]
theorem sc_asks_for : FnScope ["bar", "lamp"] ["bar", "lamp"] (defScope s_asks_for) := ⟨rfl, rfl, rfl, by decide +kernel, rfl, by decide +kernel, by decide +kernel⟩
def p_asks_for (K : PySem.W.Frag) : Sp := fun vs H Q _ => ∃ (v2 : V) (bar1 : (Int × Int)) (lamp4 : Int), vs = [v2, .int lamp4] ∧ ((qT2 (qI (K := K)) (qI (K := K)))).R H v2 bar1 ∧ OP (m_asks_for bar1 lamp4) (fun r => Q (.bl r) H)
theorem ok_asks_for (T : Tx K mg) : FnOk P w K mg base CX0 1 T.f_asks_for T.d_asks_for ["bar", "lamp"] (p_asks_for K) := by
  refine T.F_asks_for.ok sc_asks_for (fun vs H Q E h => by obtain ⟨v2, bar1, lamp4, rfl, _⟩ := h; rfl) (fun cdv A outer s H vs Q E hr h => ?_)
  obtain ⟨v2, bar1, lamp4, rfl, r3, h⟩ := h
  rw [m_asks_for] at h
  refine ⟨_, (pss_cons (ps_ret (pe_cmpR op_eq (pe_op op_and (pe_op op_shr (pe_ix (show IxR _ (rIxT K) from ix_tup) (pe_var (i := 0) rfl (.inl rfl) rfl rfl) pe_int (fun _ _ => rfl)) (pe_var (i := 1) rfl (.inl rfl) rfl rfl)) pe_int) pe_int (nomark _)))
      pss_nil), ?_⟩
  refine z_start (σ := [some v2, some (.int lamp4)]) rfl ?_
  obtain ⟨g5, h⟩ := OP.grd h
  refine z_ret ((v_eqI ((v_o2 ((v_o2c ((v_t20 (val_var rfl) val_c r3)) (val_var rfl) g5)) val_c)) val_c)) ?_
  exact h

@[irreducible] def m_asked_by (bar1 : (Int × Int)) : Option (List Int) :=
grd (gR (blen bar1.1)) <|
(compO (fun zx4 =>
(m_asks_for bar1 zx4).bind fun v8 =>
ifo v8 (some (some zx4)) (some none)) (rangeI 0 (Int.toNat (blen bar1.1)))).bind fun ys9 =>
some ys9
abbrev s_asked_by : Stmt := top 2
abbrev sn_asked_by : List Str := ["bar", "lamp"]
theorem sc_asked_by : FnScope ["bar", "lamp"] ["bar"] (defScope s_asked_by) := ⟨rfl, rfl, rfl, by decide +kernel, rfl, by decide +kernel, by decide +kernel⟩
def p_asked_by (K : PySem.W.Frag) : Sp := fun vs H Q _ => ∃ (v2 : V) (bar1 : (Int × Int)), vs = [v2] ∧ ((qT2 (qI (K := K)) (qI (K := K)))).R H v2 bar1 ∧ OP (m_asked_by bar1) (fun r => ∀ p ws H', Same H H' → H p = none → H' p = some (.lst ws) → RL (qI (K := K)) H' ws r → Q (.ref p) H')
theorem ok_asked_by (T : Tx K mg) : FnOk P w K mg base CX0 2 T.f_asked_by T.d_asked_by ["bar"] (p_asked_by K) := by
  refine T.F_asked_by.ok sc_asked_by (fun vs H Q E h => by obtain ⟨v2, bar1, rfl, _⟩ := h; rfl) (fun cdv A outer s H vs Q E hr h => ?_)
  obtain ⟨v2, bar1, rfl, r3, h⟩ := h
  rw [m_asked_by] at h
  have hr1 : Room 1 _ := hr.mono (by decide)
  refine ⟨_, (pss_cons (ps_ret (pe_lc (own := [("lamp", 1)]) (g := gName 1) rfl sc_asked_by.nd (pi_range1 rfl T.n_range (pa_cons (pe_bits (pe_ix (show IxR _ (rIxT K) from ix_tup) (pe_var (i := 0) rfl (.inr (.inl rfl)) rfl rfl) pe_int (fun _ _ => rfl))) pa_nil)) (blkOk_by (N := sn_asked_by) (sc := defScope s_asked_by) (by decide +kernel)) (fun _ _ _ _ _ => pg_name (i := 1) sc_asked_by.nd rfl (.inl rfl)) (fun _ _ _ _ _ => (pts_one (pt_val (pe_call (ok_asks_for T) hr1 rfl T.m_asks_for T.F_asks_for.kp T.b_asks_for .nil pass0 (pa_cons (pe_var (i := 0) rfl (by first | exact .inr (.inr rfl) | exact .inr (.inl rfl)) rfl rfl) (pa_cons (pe_var (i := 1) rfl (.inl rfl) rfl rfl) pa_nil)))))) (fun _ _ _ _ _ => (pe_var (i := 1) rfl (.inl rfl) rfl rfl))))
      pss_nil), ?_⟩
  refine z_start (σ := [some v2, none]) rfl ?_
  have g : Grow [] H H H H := Grow.refl (Same.refl _)
  refine z_retE ?_
  obtain ⟨g5, h⟩ := OP.grd h
  obtain ⟨ys9, eys9, h⟩ := OP.bind h
  refine c_lcR1 (n := (blen bar1.1)) (va_cons ((v_bits ((v_t20 (val_var rfl) val_c (Rep.mono _ g.sh r3))))) va_nil) g5 eys9 (τ := (qI (K := K))) (S := H) (fun zx4 H6 e7 r_ hm => ?_) ?_
  · have g := g.ext e7
    obtain ⟨v8, ev8, hm⟩ := bind_some hm
    refine ⟨_, (v_B ((v_call (va_cons (val_var rfl) (va_cons (val_var rfl) va_nil)) fun Q q => ⟨_, _, _, rfl, (Rep.mono _ g.sh r3), OP.mk ev8 q⟩))), fun hb => ?_, fun hb => ?_⟩
    · rw [ifo_t hb] at hm
      exact ⟨_, _, (Option.some.inj hm).symm, val_var rfl, rfl⟩
    · rw [ifo_f hb] at hm
      exact (Option.some.inj hm).symm
  intro p10 ws11 H12 e13 np14 ep15 rw16
  have c17 : Cel [] H H H12 p10 (.lst ws11) := Cel.own g e13 np14 ep15 rfl
  replace g := g.ext e13
  have w18 := rw16
  exact h _ _ _ g.same0 c17.z0 c17.h (RL.mono g.sh w18)

@[irreducible] def m__law_numbers_told (bar1 : (Int × Int)) (ways4 : (List Int)) : Option Bool :=
(compO (fun zx7 =>
(atI ways4 zx7).bind fun i10 =>
ifo (decide (0 < i10)) (some (some zx7)) (some none)) (rangeI 0 (Int.toNat 6))).bind fun ys11 =>
(m_asked_by bar1).bind fun v21 =>
ifo ((!true) || (!(decide ((v21.length : Int) = (ys11.length : Int))))) (
some false) (
grd (gR (ys11.length : Int)) <|
brk (forR (fun k33 _ =>
(atI v21 k33).bind fun i43 =>
(ifo (!true) (some true) ((atI v21 k33).bind fun i44 =>
(ifo false (some true) ((atI v21 k33).bind fun i45 =>
(atI ys11 k33).bind fun i46 =>
some ((!(decide (i45 = i46)))))).bind fun c47 =>
some c47)).bind fun c48 =>
ifo c48 (
some (.inr false)) (
some (.inl ()))) (rangeI 0 (Int.toNat (ys11.length : Int))) ()) (fun _ =>
grd (v21.length < 16777216) <|
lt (v21 ++ [0]) fun found51 =>
some true))
abbrev s__law_numbers_told : Stmt := top 7
abbrev sn__law_numbers_told : List Str := ["_law_bar", "_law_ways", "_law_due", "_law_found", "_law_k"]
theorem sc__law_numbers_told : FnScope ["_law_bar", "_law_ways", "_law_due", "_law_found", "_law_k"] ["_law_bar", "_law_ways"] (defScope s__law_numbers_told) := ⟨rfl, rfl, rfl, by decide +kernel, rfl, by decide +kernel, by decide +kernel⟩
def p__law_numbers_told (K : PySem.W.Frag) : Sp := fun vs H Q _ => ∃ (v2 : V) (bar1 : (Int × Int)) (v5 : V) (ways4 : (List Int)), vs = [v2, v5] ∧ ((qT2 (qI (K := K)) (qI (K := K)))).R H v2 bar1 ∧ ((qL (qI (K := K)))).R H v5 ways4 ∧ OP (m__law_numbers_told bar1 ways4) (fun r => ∀ H', Same H H' → Q (.bl r) H')
theorem ok__law_numbers_told (T : Tx K mg) : FnOk P w K mg base CX0 3 T.f__law_numbers_told T.d__law_numbers_told ["_law_bar", "_law_ways"] (p__law_numbers_told K) := by
  refine T.F__law_numbers_told.ok sc__law_numbers_told (fun vs H Q E h => by obtain ⟨v2, bar1, v5, ways4, rfl, _⟩ := h; rfl) (fun cdv A outer s H vs Q E hr h => ?_)
  obtain ⟨v2, bar1, v5, ways4, rfl, r3, r6, h⟩ := h
  rw [m__law_numbers_told] at h
  have hr2 : Room 2 _ := hr.mono (by decide)
  refine ⟨_, (pss_cons (ps_setLc (i := 2) (y := "_law_due") (own := [("_law_k", 4)]) (g := gName 4) rfl sc__law_numbers_told.nd rfl rfl (sw_true rfl rfl rfl (by decide +kernel)) (pi_range1 rfl T.n_range (pa_cons pe_int pa_nil)) (blkOk_by (N := sn__law_numbers_told) (sc := defScope s__law_numbers_told) (by decide +kernel)) (fun _ _ _ _ _ => pg_name (i := 4) sc__law_numbers_told.nd rfl (.inl rfl)) (fun _ _ _ _ _ => (pts_one (pt_cmpR op_gt (pe_ix (show IxR _ (rIxL K) from ix_list) (pe_var (i := 1) rfl (by first | exact .inr (.inr rfl) | exact .inr (.inl rfl)) rfl rfl) (pe_var (i := 4) rfl (.inl rfl) rfl rfl) (fun _ _ => rfl)) pe_int (nomark _)))) (fun _ _ _ _ _ => (pe_var (i := 4) rfl (.inl rfl) rfl rfl)))
      (pss_cons (ps_set (i := 3) sc__law_numbers_told.nd rfl (.inl rfl) (pe_call (ok_asked_by T) hr2 rfl T.m_asked_by T.F_asked_by.kp T.b_asked_by .nil pass0 (pa_cons (pe_var (i := 0) rfl (.inl rfl) rfl rfl) pa_nil)))
      (pss_cons (ps_if (PW.pt (pw_or (pt_not (pt_val (pe_callB (show CallR _ (.builtin "isinstance") (rIsi K) from call_isi) rfl T.n_isinstance bt_isinstance (pa_cons (pe_var (i := 3) rfl (.inl rfl) rfl rfl) (pa_cons (pe_bltn (v := .ty "list") rfl T.n_list bt_list rfl) pa_nil))))) (pw_or1 (pt_cmpR op_ne (pe_callB (show CallR _ (.builtin "len") (Z.rLenS K) from call_len_seq) rfl T.n_len bt_len (pa_cons (pe_var (i := 3) rfl (.inl rfl) rfl rfl) pa_nil)) (pe_callB (show CallR _ (.builtin "len") (Z.rLenS K) from call_len_seq) rfl T.n_len bt_len (pa_cons (pe_var (i := 2) rfl (.inl rfl) rfl rfl) pa_nil)) (nomark _))))) (pss_cons (ps_ret pe_bl)
      pss_nil) pss_nil)
      (pss_cons (ps_for PassesOwn.never rfl (pi_range1 rfl T.n_range (pa_cons (pe_callB (show CallR _ (.builtin "len") (Z.rLenS K) from call_len_seq) rfl T.n_len bt_len (pa_cons (pe_var (i := 2) rfl (.inl rfl) rfl rfl) pa_nil)) pa_nil)) (pg_name (i := 4) sc__law_numbers_told.nd rfl (.inl rfl)) (pss_cons (ps_if (PW.pt (pw_or (pt_not (pt_val (pe_callB (show CallR _ (.builtin "isinstance") (rIsi K) from call_isi) rfl T.n_isinstance bt_isinstance (pa_cons (pe_ix (show IxR _ (rIxL K) from ix_list) (pe_var (i := 3) rfl (.inl rfl) rfl rfl) (pe_var (i := 4) rfl (.inl rfl) rfl rfl) (fun _ _ => rfl)) (pa_cons (pe_bltn (v := .ty "int") rfl T.n_int bt_int rfl) pa_nil))))) (pw_or (pt_val (pe_callB (show CallR _ (.builtin "isinstance") (rIsi K) from call_isi) rfl T.n_isinstance bt_isinstance (pa_cons (pe_ix (show IxR _ (rIxL K) from ix_list) (pe_var (i := 3) rfl (.inl rfl) rfl rfl) (pe_var (i := 4) rfl (.inl rfl) rfl rfl) (fun _ _ => rfl)) (pa_cons (pe_bltn (v := .ty "bool") rfl T.n_bool bt_bool rfl) pa_nil)))) (pw_or1 (pt_cmpR op_ne (pe_ix (show IxR _ (rIxL K) from ix_list) (pe_var (i := 3) rfl (.inl rfl) rfl rfl) (pe_var (i := 4) rfl (.inl rfl) rfl rfl) (fun _ _ => rfl)) (pe_ix (show IxR _ (rIxL K) from ix_list) (pe_var (i := 2) rfl (.inl rfl) rfl rfl) (pe_var (i := 4) rfl (.inl rfl) rfl rfl) (fun _ _ => rfl)) (nomark _)))))) (pss_cons (ps_ret pe_bl)
      pss_nil) pss_nil)
      pss_nil))
      (pss_cons (ps_expr (pe_bm PySem.F.plainAttrs_list PySem.F.slot_list_append PySem.F.type_list_append mt_append (pe_var (i := 3) rfl (.inl rfl) rfl rfl) (pa_cons pe_int pa_nil)))
      (pss_cons (ps_ret pe_bl)
      pss_nil)))))), ?_⟩
  refine z_start (σ := [some v2, some v5, none, none, none]) rfl ?_
  have g : Grow [] H H H H := Grow.refl (Same.refl _)
  refine z_setE ?_
  obtain ⟨ys11, eys11, h⟩ := OP.bind h
  refine c_lcR1 (n := 6) (va_cons val_c va_nil) ⟨by decide, by decide⟩ eys11 (τ := (qI (K := K))) (S := H) (fun zx7 H8 e9 r_ hm => ?_) ?_
  · have g := g.ext e9
    obtain ⟨i10, ei10, hm⟩ := bind_some hm
    refine ⟨_, (v_test ((v_o2 ((v_ixI (val_var rfl) (val_var rfl) (qL_qQ (Rep.mono _ g.sh r6)) ei10)) val_c))), fun hb => ?_, fun hb => ?_⟩
    · rw [ifo_t hb] at hm
      exact ⟨_, _, (Option.some.inj hm).symm, val_var rfl, rfl⟩
    · rw [ifo_f hb] at hm
      exact (Option.some.inj hm).symm
  intro p12 ws13 H14 e15 np16 ep17 rw18
  have c19 : Cel [] H H H14 p12 (.lst ws13) := Cel.own g e15 np16 ep17 rfl
  replace g := g.ext e15
  have w20 := rw18
  refine g_name (σ' := [some v2, some v5, some (.ref p12), none, none]) rfl ?_
  refine z_setE ?_
  refine c_call ?_
  refine c_args (va_cons (val_var rfl) va_nil) ?_
  refine ⟨_, _, rfl, (Rep.mono _ g.sh r3), (OP.of h).mono fun v21 h p22 ws23 H24 e25 np26 ep27 rw28 => ?_⟩
  have ne31 := c19.ne np26
  have c29 : Cel [] H H H24 p22 (.lst ws23) := Cel.own g e25 np26 ep27 rfl
  replace c19 := c19.ext e25
  replace g := g.ext e25
  have w30 : RL (qI (K := K)) H ws23 v21 := RL.scI rw28
  refine g_name (σ' := [some v2, some v5, some (.ref p12), some (.ref p22), none]) rfl ?_
  refine z_if ((a_or ((a_not ((v_B ((v_isi (val_var rfl) (ty_l ⟨_, _, rfl, c29.h, (RL.mono g.sh w30)⟩) (k := true) (by decide +kernel))))))) ((v_test ((v_neI ((v_len (val_var rfl) (qL_qQ ⟨_, _, rfl, c29.h, (RL.mono g.sh w30)⟩))) ((v_len (val_var rfl) (qL_qQ ⟨_, _, rfl, c19.h, (RL.mono g.sh w20)⟩))))))))) (fun hc => ?_) (fun hc => ?_)
  · replace h := OP.ite1 hc h
    refine z_ret val_c ?_
    exact h _ g.same0
  · replace h := OP.ite0 hc h
    refine z_nextR ?_
    obtain ⟨g32, h⟩ := OP.grd h
    obtain ⟨B36, h, hB37⟩ := OP.brk h
    obtain ⟨F38, hF39, h⟩ := OP.nameR h
    refine z_for1 (j := (ys11.length : Int)) (va_cons ((v_len (val_var rfl) (qL_qQ ⟨_, _, rfl, c19.h, (RL.mono g.sh w20)⟩))) va_nil) g32 (fun ys σ' H' => ∃ (u41 : Option V), σ' = [some v2, some v5, some (.ref p12), some (.ref p22), u41] ∧ H24 = H' ∧ OP (forR F38 ys ()) (SE B36 (fun r => ∀ H', Same H H' → Q (.bl r) H'))) ⟨_, rfl, rfl, h⟩ (fun k33 ys σ' H42 p N hN40 => ?_) ?_
    · obtain ⟨u41, rfl, rfl, h⟩ := p
      replace h := OP.forR h
      replace h := OP.fcall2 hF39 h
      refine g_name (σ' := [some v2, some v5, some (.ref p12), some (.ref p22), some (.int k33)]) rfl ?_
      obtain ⟨i43, ei43, h⟩ := OP.bind h
      obtain ⟨c48, ec48, h⟩ := OP.bind h
      refine z_if ((a_orP ((a_not ((v_B ((v_isi ((v_ixI (val_var rfl) (val_var rfl) (qL_qQ ⟨_, _, rfl, c29.h, (RL.mono g.sh w30)⟩) ei43)) ty_int (k := true) (by decide +kernel))))))) ec48 (fun hb hm => by
            obtain ⟨i44, ei44, hm⟩ := bind_some hm
            obtain ⟨c47, ec47, hm⟩ := bind_some hm
            exact (a_eq ((a_orP ((v_B ((v_isi ((v_ixI (val_var rfl) (val_var rfl) (qL_qQ ⟨_, _, rfl, c29.h, (RL.mono g.sh w30)⟩) ei44)) ty_int (k := false) (by decide +kernel))))) ec47 (fun hb hm => by
      obtain ⟨i45, ei45, hm⟩ := bind_some hm
      obtain ⟨i46, ei46, hm⟩ := bind_some hm
      exact (a_eq ((v_test ((v_neI ((v_ixI (val_var rfl) (val_var rfl) (qL_qQ ⟨_, _, rfl, c29.h, (RL.mono g.sh w30)⟩) ei45)) ((v_ixI (val_var rfl) (val_var rfl) (qL_qQ ⟨_, _, rfl, c19.h, (RL.mono g.sh w20)⟩) ei46)))))) (Option.some.inj hm))))) (Option.some.inj hm))))) (fun hc => ?_) (fun hc => ?_)
      · replace h := OP.ite1 hc h
        refine z_ret val_c ?_
        exact h _ g.same0
      · replace h := OP.ite0 hc h
        refine z_nextR ?_
        refine z_next ?_
        exact hN40 _ _ ⟨_, rfl, rfl, h⟩
    · intro σ' H49 p
      obtain ⟨u41, rfl, rfl, h⟩ := p
      replace h := hB37 _ (OP.forR_nil h)
      refine z_dropE ?_
      refine c_bm (val_var rfl) (tyL c29.h) ?_
      refine c_args (va_cons val_c va_nil) ?_
      obtain ⟨g50, h⟩ := OP.grd h
      obtain ⟨found51, efound51, h⟩ := OP.lt h
      refine c_app g c29 w30 rfl g50 efound51 fun ws52 H53 g54 c55 w56 ot57 => ?_
      replace c19 := ot57 _ _ (by first | assumption | exact Ne.symm (by assumption)) c19
      replace g := g54
      refine z_ret val_c ?_
      exact h _ g.same0

@[irreducible] def m_without (bar1 : (Int × Int)) (lamp4 : Int) : Option (Int × Int) :=
grd (gPow 1 lamp4) <|
lt (bnot (shl 1 lamp4)) fun rest_6 =>
some (((band bar1.1 rest_6), (band bar1.2 rest_6)))
abbrev s_without : Stmt := top 3
abbrev sn_without : List Str := ["bar", "lamp", "rest"]
theorem sc_without : FnScope ["bar", "lamp", "rest"] ["bar", "lamp"] (defScope s_without) := ⟨rfl, rfl, rfl, by decide +kernel, rfl, by decide +kernel, by decide +kernel⟩
def p_without (K : PySem.W.Frag) : Sp := fun vs H Q _ => ∃ (v2 : V) (bar1 : (Int × Int)) (lamp4 : Int), vs = [v2, .int lamp4] ∧ ((qT2 (qI (K := K)) (qI (K := K)))).R H v2 bar1 ∧ OP (m_without bar1 lamp4) (fun r => ∀ v H', Same H H' → ((qT2 (qI (K := K)) (qI (K := K)))).R H' v r → Q v H')
theorem ok_without (T : Tx K mg) : FnOk P w K mg base CX0 1 T.f_without T.d_without ["bar", "lamp"] (p_without K) := by
  refine T.F_without.ok sc_without (fun vs H Q E h => by obtain ⟨v2, bar1, lamp4, rfl, _⟩ := h; rfl) (fun cdv A outer s H vs Q E hr h => ?_)
  obtain ⟨v2, bar1, lamp4, rfl, r3, h⟩ := h
  rw [m_without] at h
  refine ⟨_, (pss_cons (ps_set (i := 2) sc_without.nd rfl (.inl rfl) (pe_un un_inv (pe_op op_shl pe_int (pe_var (i := 1) rfl (.inl rfl) rfl rfl))))
      (pss_cons (ps_ret (pe_tup (pa_cons (pe_op op_and (pe_ix (show IxR _ (rIxT K) from ix_tup) (pe_var (i := 0) rfl (.inl rfl) rfl rfl) pe_int (fun _ _ => rfl)) (pe_var (i := 2) rfl (.inl rfl) rfl rfl)) (pa_cons (pe_op op_and (pe_ix (show IxR _ (rIxT K) from ix_tup) (pe_var (i := 0) rfl (.inl rfl) rfl rfl) pe_int (fun _ _ => rfl)) (pe_var (i := 2) rfl (.inl rfl) rfl rfl)) pa_nil))))
      pss_nil)), ?_⟩
  refine z_start (σ := [some v2, some (.int lamp4), none]) rfl ?_
  have g : Grow [] H H H H := Grow.refl (Same.refl _)
  obtain ⟨g5, h⟩ := OP.grd h
  obtain ⟨rest_6, erest_6, h⟩ := OP.lt h
  refine z_set (w := (.int rest_6)) (σ' := [some v2, some (.int lamp4), some (.int rest_6)]) ((v_u ((v_o2c val_c (val_var rfl) g5)))) (congrArg V.int erest_6) rfl ?_
  refine z_retE ?_
  refine c_tupE fun Q7 hQ7 => ?_
  refine c_args (va_cons ((v_o2 ((v_t20 (val_var rfl) val_c (Rep.mono _ g.sh r3))) (val_var rfl))) (va_cons ((v_o2 ((v_t21 (val_var rfl) val_c (Rep.mono _ g.sh r3))) (val_var rfl))) va_nil)) ?_
  refine c_newtup (Q := Q7) (vs := [(.int (band bar1.1 rest_6)), (.int (band bar1.2 rest_6))]) g.sh (show 2 ≤ 1000 by decide) fun p8 S9 H10 gs11 ep12 => ?_
  refine q_eq hQ7 ?_
  replace r3 := Rep.mono _ gs11.ss r3
  replace g := g.call0 gs11
  have r13 : ((qT2 (qI (K := K)) (qI (K := K)))).R S9 (.ref p8) ((band bar1.1 rest_6), (band bar1.2 rest_6)) := ⟨p8, _, _, rfl, ep12, rfl, rfl⟩
  exact h _ _ g.same0 (Rep.mono _ g.sh r13)

@[irreducible] def m_law (script1 : (List Int)) : Option Bool :=
(m__law_cell_at script1 0).bind fun v4 =>
lt (v4 % 729) fun rest_5 =>
(forO (fun k15 s =>
un2 (fun rest_23 ways24 =>
grd (ways24.length < 16777216) <|
lt (ways24 ++ [(rest_23 % 3)]) fun ways33 =>
lt (rest_23 / 3) fun rest_40 =>
some (rest_40, ways33)) s) (rangeI 0 (Int.toNat 6)) (rest_5, ([] : List Int))).bind (fun s => un2 (fun rest_23 ways24 =>
(m__law_bar_of ways24).bind fun v41 =>
(m__law_numbers_told v41 ways24).bind fun v49 =>
ifo (!v49) (
some false) (
brk (forR (fun cell62 s =>
un2 (fun ways70 bar74 =>
lt (cell62 % 6) fun lamp85 =>
(setI ways70 lamp85 0).bind fun ways86 =>
(m__law_bar_of ways86).bind fun v93 =>
(m_without bar74 lamp85).bind fun v101 =>
((m__law_bar_told v101 v93).bind fun v117 =>
ifo (!v117) (
some true) (
(m__law_numbers_told v93 ways86).bind fun v118 =>
some (!v118))).bind fun b121 =>
ifo b121 (
some (.inr false)) (
(m_without v101 lamp85).bind fun v122 =>
(m__law_bar_told v122 v93).bind fun v130 =>
ifo (!v130) (
some (.inr false)) (
(ifo (decide (((cell62 / 6) % 4) = 3)) (
(setI ways86 lamp85 2).bind fun ways147 =>
some ways147) (
some ways86)).bind (fun ways131 =>
(m__law_bar_of ways131).bind fun v138 =>
some (.inl (ways131, v138)))))) s) ((cutI script1 (some 1) (some 41))) (ways24, v41)) (fun s => un2 (fun ways70 bar74 =>
(m__law_numbers_told bar74 ways70).bind fun v155 =>
some v155) s))) s)
abbrev s_law : Stmt := top 9
abbrev sn_law : List Str := ["_law_script", "_law_rest", "_law_ways", "_law_k", "_law_bar", "_law_cell", "_law_lamp", "_law_due", "_law_found"]
theorem sc_law : FnScope ["_law_script", "_law_rest", "_law_ways", "_law_k", "_law_bar", "_law_cell", "_law_lamp", "_law_due", "_law_found"] ["_law_script"] (defScope s_law) := ⟨rfl, rfl, rfl, by decide +kernel, rfl, by decide +kernel, by decide +kernel⟩
def p_law (K : PySem.W.Frag) : Sp := fun vs H Q _ => ∃ (v2 : V) (script1 : (List Int)), vs = [v2] ∧ ((qQ (qI (K := K)))).R H v2 script1 ∧ OP (m_law script1) (fun r => ∀ H', Same H H' → Q (.bl r) H')
theorem ok_law (T : Tx K mg) : FnOk P w K mg base CX0 4 T.f_law T.d_law ["_law_script"] (p_law K) := by
  refine T.F_law.ok sc_law (fun vs H Q E h => by obtain ⟨v2, script1, rfl, _⟩ := h; rfl) (fun cdv A outer s H vs Q E hr h => ?_)
  obtain ⟨v2, script1, rfl, r3, h⟩ := h
  rw [m_law] at h
  have hr1 : Room 1 _ := hr.mono (by decide)
  have hr3 : Room 3 _ := hr.mono (by decide)
  refine ⟨_, (pss_cons (ps_set (i := 1) sc_law.nd rfl (.inl rfl) (pe_op op_mod (pe_call (ok__law_cell_at T) hr1 rfl T.m__law_cell_at T.F__law_cell_at.kp T.b__law_cell_at .nil pass0 (pa_cons (pe_var (i := 0) rfl (.inl rfl) rfl rfl) (pa_cons pe_int pa_nil))) pe_int))
      (pss_cons (ps_set (i := 2) sc_law.nd rfl (.inl rfl) (pe_lst pa_nil))
      (pss_cons (ps_for PassesOwn.never rfl (pi_range1 rfl T.n_range (pa_cons pe_int pa_nil)) (pg_name (i := 3) sc_law.nd rfl (.inl rfl)) (pss_cons (ps_expr (pe_bm PySem.F.plainAttrs_list PySem.F.slot_list_append PySem.F.type_list_append mt_append (pe_var (i := 2) rfl (.inl rfl) rfl rfl) (pa_cons (pe_op op_mod (pe_var (i := 1) rfl (.inl rfl) rfl rfl) pe_int) pa_nil)))
      (pss_cons (ps_set (i := 1) sc_law.nd rfl (.inl rfl) (pe_op op_fdiv (pe_var (i := 1) rfl (.inl rfl) rfl rfl) pe_int))
      pss_nil)))
      (pss_cons (ps_set (i := 4) sc_law.nd rfl (.inl rfl) (pe_call (ok__law_bar_of T) hr1 rfl T.m__law_bar_of T.F__law_bar_of.kp T.b__law_bar_of .nil pass0 (pa_cons (pe_var (i := 2) rfl (.inl rfl) rfl rfl) pa_nil)))
      (pss_cons (ps_if (pt_not (pt_val (pe_call (ok__law_numbers_told T) hr3 rfl T.m__law_numbers_told T.F__law_numbers_told.kp T.b__law_numbers_told .nil pass0 (pa_cons (pe_var (i := 4) rfl (.inl rfl) rfl rfl) (pa_cons (pe_var (i := 2) rfl (.inl rfl) rfl rfl) pa_nil))))) (pss_cons (ps_ret pe_bl)
      pss_nil) pss_nil)
      (pss_cons (ps_for PassesOwn.never rfl (pi_list (pe_slice sl_list (pe_var (i := 0) rfl (.inl rfl) rfl rfl) (po_some pe_int) (po_some pe_int))) (pg_name (i := 5) sc_law.nd rfl (.inl rfl)) (pss_cons (ps_set (i := 6) sc_law.nd rfl (.inl rfl) (pe_op op_mod (pe_var (i := 5) rfl (.inl rfl) rfl rfl) pe_int))
      (pss_cons (ps_asg pe_int (pg_sub (pe_var (i := 2) rfl (.inl rfl) rfl rfl) (pe_var (i := 6) rfl (.inl rfl) rfl rfl) set_list))
      (pss_cons (ps_set (i := 7) sc_law.nd rfl (.inl rfl) (pe_call (ok__law_bar_of T) hr1 rfl T.m__law_bar_of T.F__law_bar_of.kp T.b__law_bar_of .nil pass0 (pa_cons (pe_var (i := 2) rfl (.inl rfl) rfl rfl) pa_nil)))
      (pss_cons (ps_set (i := 8) sc_law.nd rfl (.inl rfl) (pe_call (ok_without T) hr1 rfl T.m_without T.F_without.kp T.b_without .nil pass0 (pa_cons (pe_var (i := 4) rfl (.inl rfl) rfl rfl) (pa_cons (pe_var (i := 6) rfl (.inl rfl) rfl rfl) pa_nil))))
      (pss_cons (ps_if (PW.pt (pw_or (pt_not (pt_val (pe_call (ok__law_bar_told T) hr1 rfl T.m__law_bar_told T.F__law_bar_told.kp T.b__law_bar_told .nil pass0 (pa_cons (pe_var (i := 8) rfl (.inl rfl) rfl rfl) (pa_cons (pe_var (i := 7) rfl (.inl rfl) rfl rfl) pa_nil))))) (pw_or1 (pt_not (pt_val (pe_call (ok__law_numbers_told T) hr3 rfl T.m__law_numbers_told T.F__law_numbers_told.kp T.b__law_numbers_told .nil pass0 (pa_cons (pe_var (i := 7) rfl (.inl rfl) rfl rfl) (pa_cons (pe_var (i := 2) rfl (.inl rfl) rfl rfl) pa_nil)))))))) (pss_cons (ps_ret pe_bl)
      pss_nil) pss_nil)
      (pss_cons (ps_if (pt_not (pt_val (pe_call (ok__law_bar_told T) hr1 rfl T.m__law_bar_told T.F__law_bar_told.kp T.b__law_bar_told .nil pass0 (pa_cons (pe_call (ok_without T) hr1 rfl T.m_without T.F_without.kp T.b_without .nil pass0 (pa_cons (pe_var (i := 8) rfl (.inl rfl) rfl rfl) (pa_cons (pe_var (i := 6) rfl (.inl rfl) rfl rfl) pa_nil))) (pa_cons (pe_var (i := 7) rfl (.inl rfl) rfl rfl) pa_nil))))) (pss_cons (ps_ret pe_bl)
      pss_nil) pss_nil)
      (pss_cons (ps_if (pt_cmpR op_eq (pe_op op_mod (pe_op op_fdiv (pe_var (i := 5) rfl (.inl rfl) rfl rfl) pe_int) pe_int) pe_int (nomark _)) (pss_cons (ps_asg pe_int (pg_sub (pe_var (i := 2) rfl (.inl rfl) rfl rfl) (pe_var (i := 6) rfl (.inl rfl) rfl rfl) set_list))
      pss_nil) pss_nil)
      (pss_cons (ps_set (i := 4) sc_law.nd rfl (.inl rfl) (pe_call (ok__law_bar_of T) hr1 rfl T.m__law_bar_of T.F__law_bar_of.kp T.b__law_bar_of .nil pass0 (pa_cons (pe_var (i := 2) rfl (.inl rfl) rfl rfl) pa_nil)))
      pss_nil)))))))))
      (pss_cons (ps_ret (pe_call (ok__law_numbers_told T) hr3 rfl T.m__law_numbers_told T.F__law_numbers_told.kp T.b__law_numbers_told .nil pass0 (pa_cons (pe_var (i := 4) rfl (.inl rfl) rfl rfl) (pa_cons (pe_var (i := 2) rfl (.inl rfl) rfl rfl) pa_nil))))
      pss_nil))))))), ?_⟩
  refine z_start (σ := [some v2, none, none, none, none, none, none, none, none]) rfl ?_
  have g : Grow [] H H H H := Grow.refl (Same.refl _)
  obtain ⟨v4, ev4, h⟩ := OP.bind h
  obtain ⟨rest_5, erest_5, h⟩ := OP.lt h
  refine z_set (w := (.int rest_5)) (σ' := [some v2, some (.int rest_5), none, none, none, none, none, none, none]) ((v_o2c ((v_call (va_cons (val_var rfl) (va_cons val_c va_nil)) fun Q q => ⟨_, _, _, rfl, (Rep.mono _ g.sh r3), OP.mk ev4 q⟩)) val_c (show (0 : Int) < 729 by decide))) (congrArg V.int erest_5) rfl ?_
  refine z_setE ?_
  refine c_lstE fun Q6 hQ6 => ?_
  refine c_args va_nil ?_
  refine c_newlst (Q := Q6) (vs := []) (show 0 ≤ 1000 by decide) fun p7 H8 e9 np10 ep11 => ?_
  refine q_eq hQ6 ?_
  have c14 : Cel [] H H H8 p7 (.lst []) := Cel.own g e9 np10 ep11 rfl
  have w13 : RL (qI (K := K)) H [] ([] : List Int) := .nil
  replace g := g.ext e9
  refine g_name (σ' := [some v2, some (.int rest_5), some (.ref p7), none, none, none, none, none, none]) rfl ?_
  obtain ⟨B18, h, hB19⟩ := OP.cut h
  obtain ⟨F20, hF21, h⟩ := OP.nameO h
  refine z_for1 (j := 6) (va_cons val_c va_nil) ⟨by decide, by decide⟩ (fun ys σ' H' => ∃ (rest_23 : Int) (ws25 : List V) (ways24 : (List Int)) (u28 : Option V) (S29 : Hp), σ' = [some v2, some (.int rest_23), some (.ref p7), u28, none, none, none, none, none] ∧ Grow [] H H S29 H' ∧ Same H S29 ∧ Cel [] H S29 H' p7 (.lst ws25) ∧ RL (qI (K := K)) S29 ws25 ways24 ∧ OP (forO F20 ys (rest_23, ways24)) B18) ⟨_, _, _, _, _, rfl, g, (Same.refl _), c14, w13, h⟩ (fun k15 ys σ' H30 p N hN22 => ?_) ?_
  · obtain ⟨rest_23, ws25, ways24, u28, S29, rfl, gN, eS31, c26N, r27N, h⟩ := p
    replace g := gN
    have c26 := c26N
    have r27 := r27N
    replace r3 := Rep.mono _ eS31 r3
    replace h := OP.forO h
    replace h := OP.fcall2 hF21 h
    replace h := OP.un2 h
    refine g_name (σ' := [some v2, some (.int rest_23), some (.ref p7), some (.int k15), none, none, none, none, none]) rfl ?_
    refine z_dropE ?_
    refine c_bm (val_var rfl) (tyL c26.h) ?_
    refine c_args (va_cons ((v_o2c (val_var rfl) val_c (show (0 : Int) < 3 by decide))) va_nil) ?_
    obtain ⟨g32, h⟩ := OP.grd h
    obtain ⟨ways33, eways33, h⟩ := OP.lt h
    refine c_app g c26 r27 rfl g32 eways33 fun ws34 H35 g36 c37 w38 ot39 => ?_
    replace g := g36
    obtain ⟨rest_40, erest_40, h⟩ := OP.lt h
    refine z_set (w := (.int rest_40)) (σ' := [some v2, some (.int rest_40), some (.ref p7), some (.int k15), none, none, none, none, none]) ((v_o2c (val_var rfl) val_c ⟨by decide, by decide⟩)) (congrArg V.int erest_40) rfl ?_
    refine z_next ?_
    exact hN22 _ _ ⟨_, _, _, _, _, rfl, g, eS31, c37, w38, h⟩
  · intro σ' H30 p
    obtain ⟨rest_23, ws25, ways24, u28, S29, rfl, gN, eS31, c26N, r27N, h⟩ := p
    replace g := gN
    have c26 := c26N
    have r27 := r27N
    replace r3 := Rep.mono _ eS31 r3
    replace h := hB19 _ (OP.forO_nil h)
    replace h := OP.un2 h
    refine z_setE ?_
    refine c_call ?_
    refine c_args (va_cons (val_var rfl) va_nil) ?_
    refine ⟨_, _, rfl, ⟨_, _, rfl, c26.h, (RL.mono g.sh r27)⟩, (OP.of h).mono fun v41 h v42 H43 e44 rv45 => ?_⟩
    replace c26 := c26.ext e44
    replace g := g.ext e44
    obtain ⟨S46, gs47, r48⟩ := (shT2 shI shI) g.sh rv45
    replace r3 := Rep.mono _ gs47.ss r3
    replace c26 := c26.call0 gs47
    replace r27 := RL.mono gs47.ss r27
    replace g := g.call0 gs47
    refine g_name (σ' := [some v2, some (.int rest_23), some (.ref p7), u28, some v42, none, none, none, none]) rfl ?_
    refine z_ifE ?_
    refine c_not ?_
    refine c_B ?_
    refine c_call ?_
    refine c_args (va_cons (val_var rfl) (va_cons (val_var rfl) va_nil)) ?_
    refine ⟨_, _, _, _, rfl, (Rep.mono _ g.sh r48), ⟨_, _, rfl, c26.h, (RL.mono g.sh r27)⟩, (OP.of h).mono fun v49 h H50 e51 => ?_⟩
    replace c26 := c26.ext e51
    replace g := g.ext e51
    refine ⟨_, rfl, ?_⟩
    refine ifb (fun hc => ?_) (fun hc => ?_)
    · replace h := OP.ite1 hc h
      refine z_ret val_c ?_
      exact h _ g.same0
    · replace h := OP.ite0 hc h
      refine z_nextR ?_
      refine z_forLE ?_
      refine c_slice (val_var rfl) (po1 val_c) (po1 val_c) ?_
      refine (e_slice (Rep.mono _ g.sh r3) fun p52 ws53 H54 e55 np56 ep57 rw58 => ?_)
      have ne61 := c26.ne np56
      have c59 : Cel [] H S46 H54 p52 (.lst ws53) := Cel.own g e55 np56 ep57 rfl
      replace c26 := c26.ext e55
      replace g := g.ext e55
      have w60 : RL (qI (K := K)) S46 ws53 ((cutI script1 (some 1) (some 41))) := RL.scI rw58
      obtain ⟨B65, h, hB66⟩ := OP.brk h
      obtain ⟨F67, hF68, h⟩ := OP.nameR h
      have q84e : ((.ref p52) : V) = (.ref p52) := rfl
      have q84p := w60
      refine z_forL (v_eq val_c q84e) q84p (fun ys σ' H' => ∃ (ws71 : List V) (ways70 : (List Int)) (v75 : V) (bar74 : (Int × Int)) (u77 : Option V) (u78 : Option V) (u79 : Option V) (u80 : Option V) (S81 : Hp), σ' = [some v2, some (.int rest_23), some (.ref p7), u28, some v75, u77, u78, u79, u80] ∧ Grow [] H H S81 H' ∧ Same S46 S81 ∧ Cel [] H S81 H' p7 (.lst ws71) ∧ RL (qI (K := K)) S81 ws71 ways70 ∧ ((qT2 (qI (K := K)) (qI (K := K)))).R S81 v75 bar74 ∧ Cel [] H S81 H' p52 (.lst ws53) ∧ OP (forR F67 ys (ways70, bar74)) (SE B65 (fun r => ∀ H', Same H H' → Q (.bl r) H'))) ⟨_, _, _, _, _, _, _, _, _, rfl, g, (Same.refl _), c26, r27, r48, c59, h⟩ (fun ys σ' H' p => by obtain ⟨ws71, ways70, v75, bar74, u77, u78, u79, u80, S81, rfl, gN, eS83, c72N, r73N, r76N, c59N, h⟩ := p; exact SqL.of c59N.h) (fun w63 cell62 ys σ' H82 rw64 p N hN69 => ?_) ?_
      · obtain ⟨ws71, ways70, v75, bar74, u77, u78, u79, u80, S81, rfl, gN, eS83, c72N, r73N, r76N, c59N, h⟩ := p
        replace g := gN
        have c72 := c72N
        have r73 := r73N
        have r76 := r76N
        replace c59 := c59N
        replace r3 := Rep.mono _ eS83 r3
        replace w60 := RL.mono eS83 w60
        replace h := OP.forR h
        replace h := OP.fcall2 hF68 h
        replace h := OP.un2 h
        cases (show w63 = (.int cell62) from rw64)
        refine g_name (σ' := [some v2, some (.int rest_23), some (.ref p7), u28, some v75, some (.int cell62), u78, u79, u80]) rfl ?_
        obtain ⟨lamp85, elamp85, h⟩ := OP.lt h
        refine z_set (w := (.int lamp85)) (σ' := [some v2, some (.int rest_23), some (.ref p7), u28, some v75, some (.int cell62), some (.int lamp85), u79, u80]) ((v_o2c (val_var rfl) val_c (show (0 : Int) < 6 by decide))) (congrArg V.int elamp85) rfl ?_
        refine z_asgE ?_
        refine c_val val_c ?_
        obtain ⟨ways86, eways86, h⟩ := OP.bind h
        refine c_setL g c72 r73 rfl (val_var rfl) (val_var rfl) eways86 fun ws87 H88 g89 c90 w91 ot92 => ?_
        replace c59 := ot92 _ _ (by first | assumption | exact Ne.symm (by assumption)) c59
        replace g := g89
        refine z_setE ?_
        refine c_call ?_
        refine c_args (va_cons (val_var rfl) va_nil) ?_
        refine ⟨_, _, rfl, ⟨_, _, rfl, c90.h, (RL.mono g.sh w91)⟩, (OP.of h).mono fun v93 h v94 H95 e96 rv97 => ?_⟩
        replace c90 := c90.ext e96
        replace c59 := c59.ext e96
        replace g := g.ext e96
        obtain ⟨S98, gs99, r100⟩ := (shT2 shI shI) g.sh rv97
        replace r3 := Rep.mono _ gs99.ss r3
        replace r76 := Rep.mono _ gs99.ss r76
        replace c90 := c90.call0 gs99
        replace w91 := RL.mono gs99.ss w91
        replace c59 := c59.call0 gs99
        replace w60 := RL.mono gs99.ss w60
        replace g := g.call0 gs99
        replace eS83 := eS83.trans gs99.ss
        refine g_name (σ' := [some v2, some (.int rest_23), some (.ref p7), u28, some v75, some (.int cell62), some (.int lamp85), some v94, u80]) rfl ?_
        refine z_setE ?_
        refine c_call ?_
        refine c_args (va_cons (val_var rfl) (va_cons (val_var rfl) va_nil)) ?_
        refine ⟨_, _, _, rfl, (Rep.mono _ g.sh r76), (OP.of h).mono fun v101 h v102 H103 e104 rv105 => ?_⟩
        replace c90 := c90.ext e104
        replace c59 := c59.ext e104
        replace g := g.ext e104
        obtain ⟨S106, gs107, r108⟩ := (shT2 shI shI) g.sh rv105
        replace r3 := Rep.mono _ gs107.ss r3
        replace r76 := Rep.mono _ gs107.ss r76
        replace r100 := Rep.mono _ gs107.ss r100
        replace c90 := c90.call0 gs107
        replace w91 := RL.mono gs107.ss w91
        replace c59 := c59.call0 gs107
        replace w60 := RL.mono gs107.ss w60
        replace g := g.call0 gs107
        replace eS83 := eS83.trans gs107.ss
        refine g_name (σ' := [some v2, some (.int rest_23), some (.ref p7), u28, some v75, some (.int cell62), some (.int lamp85), some v94, some v102]) rfl ?_
        refine z_ifE ?_
        obtain ⟨B109, h, hB110⟩ := OP.cut h
        refine c_cutT (fun b H' => ∃ (S113 : Hp), Grow [] H H S113 H' ∧ Same S106 S113 ∧ Cel [] H S113 H' p7 (.lst ws87) ∧ Cel [] H S113 H' p52 (.lst ws53) ∧ B109 b) (fun q111 hq112 => ?_) ?_
        · have sn116 := Same.refl S106
          refine c_or ?_
          obtain ⟨v117, ev117, h⟩ := OP.bind h
          refine c_ans ((a_not ((v_B ((v_call (va_cons (val_var rfl) (va_cons (val_var rfl) va_nil)) fun Q q => ⟨_, _, _, _, rfl, (Rep.mono _ g.sh r108), (Rep.mono _ g.sh r100), OP.mk ev117 q⟩)))))) ?_
          refine ifb (fun hc => ?_) (fun hc => ?_)
          · replace h := OP.ite1 hc h
            exact hq112 _ _ ⟨_, g, sn116, c90, c59, h⟩
          · replace h := OP.ite0 hc h
            refine c_not ?_
            refine c_B ?_
            refine c_call ?_
            refine c_args (va_cons (val_var rfl) (va_cons (val_var rfl) va_nil)) ?_
            refine ⟨_, _, _, _, rfl, (Rep.mono _ g.sh r100), ⟨_, _, rfl, c90.h, (RL.mono g.sh w91)⟩, (OP.of h).mono fun v118 h H119 e120 => ?_⟩
            replace c90 := c90.ext e120
            replace c59 := c59.ext e120
            replace g := g.ext e120
            refine ⟨_, rfl, ?_⟩
            exact hq112 _ _ ⟨_, g, sn116, c90, c59, h⟩
        intro b121 H114 p
        obtain ⟨S113, gN, eS115, c90N, c59N, h⟩ := p
        replace g := gN
        replace c90 := c90N
        replace c59 := c59N
        replace r3 := Rep.mono _ eS115 r3
        replace r76 := Rep.mono _ eS115 r76
        replace r100 := Rep.mono _ eS115 r100
        replace r108 := Rep.mono _ eS115 r108
        replace eS83 := eS83.trans eS115
        replace w91 := RL.mono eS115 w91
        replace w60 := RL.mono eS115 w60
        replace h := hB110 _ h
        refine ifb (fun hc => ?_) (fun hc => ?_)
        · replace h := OP.ite1 hc h
          refine z_ret val_c ?_
          exact h _ g.same0
        · replace h := OP.ite0 hc h
          refine z_nextR ?_
          refine z_ifE ?_
          refine c_not ?_
          refine c_B ?_
          refine c_call ?_
          refine c_cons ?_
          refine c_call ?_
          refine c_args (va_cons (val_var rfl) (va_cons (val_var rfl) va_nil)) ?_
          refine ⟨_, _, _, rfl, (Rep.mono _ g.sh r108), (OP.of h).mono fun v122 h v123 H124 e125 rv126 => ?_⟩
          replace c90 := c90.ext e125
          replace c59 := c59.ext e125
          replace g := g.ext e125
          obtain ⟨S127, gs128, r129⟩ := (shT2 shI shI) g.sh rv126
          replace r3 := Rep.mono _ gs128.ss r3
          replace r76 := Rep.mono _ gs128.ss r76
          replace r100 := Rep.mono _ gs128.ss r100
          replace r108 := Rep.mono _ gs128.ss r108
          replace c90 := c90.call0 gs128
          replace w91 := RL.mono gs128.ss w91
          replace c59 := c59.call0 gs128
          replace w60 := RL.mono gs128.ss w60
          replace g := g.call0 gs128
          replace eS83 := eS83.trans gs128.ss
          refine c_cons ?_
          refine c_val (val_var rfl) ?_
          refine c_nil ?_
          obtain ⟨v130, ev130, h⟩ := OP.bind h
          refine ⟨_, _, _, _, rfl, (Rep.mono _ g.sh r129), (Rep.mono _ g.sh r100), OP.mk ev130 ?_⟩
          refine ⟨_, rfl, ?_⟩
          refine ifb (fun hc => ?_) (fun hc => ?_)
          · replace h := OP.ite1 hc h
            refine z_ret val_c ?_
            exact h _ g.same0
          · replace h := OP.ite0 hc h
            refine z_nextR ?_
            obtain ⟨B, h, hB⟩ := OP.cut h
            refine z_ifj (fun σ' H' => ∃ (ws132 : List V) (ways131 : (List Int)) (S135 : Hp), σ' = [some v2, some (.int rest_23), some (.ref p7), u28, some v75, some (.int cell62), some (.int lamp85), some v94, some v102] ∧ Grow [] H H S135 H' ∧ Same S127 S135 ∧ Cel [] H S135 H' p7 (.lst ws132) ∧ RL (qI (K := K)) S135 ws132 ways131 ∧ Cel [] H S135 H' p52 (.lst ws53) ∧ B ways131) ((v_test ((v_eqI ((v_o2c ((v_o2c (val_var rfl) val_c ⟨by decide, by decide⟩)) val_c (show (0 : Int) < 4 by decide))) val_c)))) ?_ (fun hc N hN => ?_) (fun hc N hN => ?_)
            · intro σ' H136 p
              obtain ⟨ws132, ways131, S135, rfl, gN, eS137, c133N, r134N, c59N, h⟩ := p
              replace g := gN
              have c133 := c133N
              have r134 := r134N
              replace c59 := c59N
              replace r3 := Rep.mono _ eS137 r3
              replace r76 := Rep.mono _ eS137 r76
              replace r100 := Rep.mono _ eS137 r100
              replace r108 := Rep.mono _ eS137 r108
              replace eS83 := eS83.trans eS137
              replace w60 := RL.mono eS137 w60
              replace h := hB _ h
              refine z_setE ?_
              refine c_call ?_
              refine c_args (va_cons (val_var rfl) va_nil) ?_
              refine ⟨_, _, rfl, ⟨_, _, rfl, c133.h, (RL.mono g.sh r134)⟩, (OP.of h).mono fun v138 h v139 H140 e141 rv142 => ?_⟩
              replace c133 := c133.ext e141
              replace c59 := c59.ext e141
              replace g := g.ext e141
              obtain ⟨S143, gs144, r145⟩ := (shT2 shI shI) g.sh rv142
              replace r3 := Rep.mono _ gs144.ss r3
              replace r76 := Rep.mono _ gs144.ss r76
              replace r100 := Rep.mono _ gs144.ss r100
              replace r108 := Rep.mono _ gs144.ss r108
              replace c133 := c133.call0 gs144
              replace r134 := RL.mono gs144.ss r134
              replace c59 := c59.call0 gs144
              replace w60 := RL.mono gs144.ss w60
              replace g := g.call0 gs144
              replace eS83 := eS83.trans gs144.ss
              refine g_name (σ' := [some v2, some (.int rest_23), some (.ref p7), u28, some v139, some (.int cell62), some (.int lamp85), some v94, some v102]) rfl ?_
              refine z_next ?_
              exact hN69 _ _ ⟨_, _, _, _, _, _, _, _, _, rfl, g, eS83, c133, r134, r145, c59, h⟩
            · replace h := OP.ite1 hc h
              have sn146 := Same.refl S127
              refine z_asgE ?_
              refine c_val val_c ?_
              obtain ⟨ways147, eways147, h⟩ := OP.bind h
              refine c_setL g c90 w91 rfl (val_var rfl) (val_var rfl) eways147 fun ws148 H149 g150 c151 w152 ot153 => ?_
              replace c59 := ot153 _ _ (by first | assumption | exact Ne.symm (by assumption)) c59
              replace g := g150
              refine z_next ?_
              exact hN _ _ ⟨_, _, _, rfl, g, sn146, c151, w152, c59, h⟩
            · replace h := OP.ite0 hc h
              have sn154 := Same.refl S127
              refine z_next ?_
              exact hN _ _ ⟨_, _, _, rfl, g, sn154, c90, w91, c59, h⟩
      · intro σ' H82 p
        obtain ⟨ws71, ways70, v75, bar74, u77, u78, u79, u80, S81, rfl, gN, eS83, c72N, r73N, r76N, c59N, h⟩ := p
        replace g := gN
        have c72 := c72N
        have r73 := r73N
        have r76 := r76N
        replace c59 := c59N
        replace r3 := Rep.mono _ eS83 r3
        replace w60 := RL.mono eS83 w60
        replace h := hB66 _ (OP.forR_nil h)
        replace h := OP.un2 h
        refine z_retE ?_
        refine c_call ?_
        refine c_args (va_cons (val_var rfl) (va_cons (val_var rfl) va_nil)) ?_
        refine ⟨_, _, _, _, rfl, (Rep.mono _ g.sh r76), ⟨_, _, rfl, c72.h, (RL.mono g.sh r73)⟩, (OP.of h).mono fun v155 h H156 e157 => ?_⟩
        replace c72 := c72.ext e157
        replace c59 := c59.ext e157
        replace g := g.ext e157
        exact h _ g.same0
end
end E
namespace B
open PySem Z

/-! ### loops by an invariant -/
theorem forO_rng {σ : Type} {body : Int → σ → Option σ} (I : Nat → σ → Prop) : ∀ (n a : Nat) (s : σ), I a s → (∀ i s, a ≤ i → i < a + n → I i s → ∃ s', body (i : Int) s = some s' ∧ I (i + 1) s') → ∃ s', forO body (rangeI (a : Int) n) s = some s' ∧ I (a + n) s'
  | 0, a, s, h, _ => ⟨s, forO_nil, h⟩
  | n + 1, a, s, h, hs => by
    obtain ⟨s1, e1, h1⟩ := hs a s (Nat.le_refl _) (by omega) h
    obtain ⟨s2, e2, h2⟩ := forO_rng I n (a + 1) s1 h1 fun i s hi hj hI => hs i s (by omega) (by omega) hI
    refine ⟨s2, ?_, by rw [show a + (n + 1) = a + 1 + n by omega]; exact h2⟩
    rw [rangeI_succ, forO_cons, e1]
    show forO body (rangeI ((a : Int) + 1) n) s1 = some s2
    rw [show ((a : Int) + 1) = ((a + 1 : Nat) : Int) by omega]
    exact e2
theorem forR_rng {σ ρ : Type} {body : Int → σ → Option (σ ⊕ ρ)} (I : Nat → σ → Prop) : ∀ (n a : Nat) (s : σ), I a s → (∀ i s, a ≤ i → i < a + n → I i s → ∃ s', body (i : Int) s = some (.inl s') ∧ I (i + 1) s') → ∃ s', forR body (rangeI (a : Int) n) s = some (.inl s') ∧ I (a + n) s'
  | 0, a, s, h, _ => ⟨s, forR_nil, h⟩
  | n + 1, a, s, h, hs => by
    obtain ⟨s1, e1, h1⟩ := hs a s (Nat.le_refl _) (by omega) h
    obtain ⟨s2, e2, h2⟩ := forR_rng I n (a + 1) s1 h1 fun i s hi hj hI => hs i s (by omega) (by omega) hI
    refine ⟨s2, ?_, by rw [show a + (n + 1) = a + 1 + n by omega]; exact h2⟩
    rw [rangeI_succ, forR_cons, e1]
    show forR body (rangeI ((a : Int) + 1) n) s1 = some (.inl s2)
    rw [show ((a : Int) + 1) = ((a + 1 : Nat) : Int) by omega]
    exact e2
/-- over range(n) -/
theorem forO_r0 {σ : Type} {body : Int → σ → Option σ} (I : Nat → σ → Prop) {n : Nat} {s : σ} (h : I 0 s) (hs : ∀ i s, i < n → I i s → ∃ s', body (i : Int) s = some s' ∧ I (i + 1) s') : ∃ s', forO body (rangeI 0 n) s = some s' ∧ I n s' := by
  obtain ⟨s', e, i⟩ := forO_rng I n 0 s h fun i s _ hj hI => hs i s (by omega) hI
  rw [Nat.zero_add] at i
  exact ⟨s', e, i⟩
theorem forR_r0 {σ ρ : Type} {body : Int → σ → Option (σ ⊕ ρ)} (I : Nat → σ → Prop) {n : Nat} {s : σ} (h : I 0 s) (hs : ∀ i s, i < n → I i s → ∃ s', body (i : Int) s = some (.inl s') ∧ I (i + 1) s') : ∃ s', forR body (rangeI 0 n) s = some (.inl s') ∧ I n s' := by
  obtain ⟨s', e, i⟩ := forR_rng I n 0 s h fun i s _ hj hI => hs i s (by omega) hI
  rw [Nat.zero_add] at i
  exact ⟨s', e, i⟩
/-- a search: all turns pass, or the first that does not answers -/
theorem forR_all {ρ : Type} {body : Int → Unit → Option (Unit ⊕ ρ)} {v : ρ} (p : Nat → Bool) : ∀ (n a : Nat), (∀ i, a ≤ i → i < a + n → body (i : Int) () = some (if p i = true then .inl () else .inr v)) →
    forR body (rangeI (a : Int) n) () = some (if (List.range' a n).all p = true then .inl () else .inr v)
  | 0, a, _ => forR_nil
  | n + 1, a, h => by
    rw [rangeI_succ, forR_cons, h a (Nat.le_refl _) (by omega), List.range'_succ, List.all_cons]
    by_cases hp : p a = true
    · rw [if_pos hp, hp, Bool.true_and]
      show forR body (rangeI ((a : Int) + 1) n) () = _
      rw [show ((a : Int) + 1) = ((a + 1 : Nat) : Int) by omega]
      exact forR_all p n (a + 1) fun i h1 h2 => h i (by omega) (by omega)
    · rw [if_neg hp, if_neg]
      · rfl
      · rw [Bool.and_eq_true]; exact fun z => hp z.1
theorem forR_all0 {ρ : Type} {body : Int → Unit → Option (Unit ⊕ ρ)} {v : ρ} (p : Nat → Bool) {n : Nat} (h : ∀ i, i < n → body (i : Int) () = some (if p i = true then .inl () else .inr v)) :
    forR body (rangeI 0 n) () = some (if (List.range n).all p = true then .inl () else .inr v) := by
  have q := forR_all p n 0 fun i _ h2 => h i (by omega)
  rw [List.range_eq_range']
  exact q
theorem bind_eq {α β : Type} {m : Option α} {a : α} {k : α → Option β} (h : m = some a) : m.bind k = k a := by rw [h]; rfl
theorem brk_inl {σ ρ : Type} {m : Option (σ ⊕ ρ)} {s : σ} {k : σ → Option ρ} (h : m = some (.inl s)) : brk m k = k s := by rw [h]; rfl
theorem brk_inr {σ ρ : Type} {m : Option (σ ⊕ ρ)} {v : ρ} {k : σ → Option ρ} (h : m = some (.inr v)) : brk m k = some v := by rw [h]; rfl
theorem lt_eq {α β : Type} {e : α} {k : α → Option β} : lt e k = k e := rfl

/-! ### whole numbers that are no less than nought -/
theorem shl_nat (n k : Nat) : shl (n : Int) (k : Int) = ((n <<< k : Nat) : Int) := by
  show (n : Int) * 2 ^ (Int.toNat (k : Int)) = _
  rw [Int.toNat_natCast, Nat.shiftLeft_eq]
  push_cast
  rfl
theorem shl1_nat (k : Nat) : shl 1 (k : Int) = ((2 ^ k : Nat) : Int) := by
  have h := shl_nat 1 k
  rw [Nat.shiftLeft_eq, Nat.one_mul] at h
  exact h
theorem shr_nat (n k : Nat) : shr (n : Int) (k : Int) = ((n >>> k : Nat) : Int) := by
  show (n : Int) / 2 ^ (Int.toNat (k : Int)) = _
  rw [Int.toNat_natCast, Nat.shiftRight_eq_div_pow]
  push_cast
  rfl
theorem band_nat (a b : Nat) : band (a : Int) (b : Int) = ((a &&& b : Nat) : Int) := by
  show Builtin.bitAnd _ _ = _
  rw [PyProof.Rows.bitAnd_pp (by omega) (by omega)]
  rfl
theorem bor_nat (a b : Nat) : bor (a : Int) (b : Int) = ((a ||| b : Nat) : Int) := by
  show Builtin.bitOr _ _ = _
  rw [L2.bitOr_nn (by omega) (by omega)]
  rfl
theorem nat_xor_and (a b : Nat) : (a ^^^ b) + 2 * (a &&& b) = a + b := by
  have h1 := PyProof.Rows.nat_or_add_and a b
  have h2 := PyProof.Rows.nat_or_add_and (a ^^^ b) (a &&& b)
  have e1 : (a ^^^ b) ||| (a &&& b) = a ||| b := by
    apply Nat.eq_of_testBit_eq
    intro i
    simp only [Nat.testBit_or, Nat.testBit_xor, Nat.testBit_and]
    cases a.testBit i <;> cases b.testBit i <;> rfl
  have e2 : (a ^^^ b) &&& (a &&& b) = 0 := by
    apply Nat.eq_of_testBit_eq
    intro i
    simp only [Nat.testBit_xor, Nat.testBit_and, Nat.zero_testBit]
    cases a.testBit i <;> cases b.testBit i <;> rfl
  rw [e1, e2] at h2
  omega
theorem bxor_nat (a b : Nat) : bxor (a : Int) (b : Int) = ((a ^^^ b : Nat) : Int) := by
  show Builtin.bitXor _ _ = _
  rw [PyProof.Rows.bitXor_and]
  have h := nat_xor_and a b
  have q : Builtin.bitAnd (a : Int) (b : Int) = ((a &&& b : Nat) : Int) := band_nat a b
  rw [q]
  omega
/-- a without b -/
def andn (a b : Nat) : Nat := a ^^^ (a &&& b)
theorem testBit_andn (a b i : Nat) : (andn a b).testBit i = (a.testBit i && !b.testBit i) := by
  unfold andn
  simp only [Nat.testBit_xor, Nat.testBit_and]
  cases a.testBit i <;> cases b.testBit i <;> rfl
theorem bandn_nat (a b : Nat) : band (a : Int) (bnot (b : Int)) = ((andn a b : Nat) : Int) := by
  show Builtin.bitAnd (a : Int) (Builtin.bitNot (b : Int)) = _
  rw [PyProof.Rows.bitAnd_not]
  have q : Builtin.bitAnd (a : Int) (b : Int) = ((a &&& b : Nat) : Int) := band_nat a b
  rw [q]
  have h := nat_xor_and a (a &&& b)
  have e : a &&& (a &&& b) = a &&& b := by
    apply Nat.eq_of_testBit_eq
    intro i
    simp only [Nat.testBit_and]
    cases a.testBit i <;> cases b.testBit i <;> rfl
  rw [e] at h
  unfold andn
  omega
theorem gPow1 {k : Nat} (h : k ≤ 1000000) : gPow 1 (k : Int) := ⟨by omega, by omega, by decide⟩
theorem gPow_nat {n k : Nat} (h : k ≤ 1000000) (hn : n < 2 ^ 64) : gPow (n : Int) (k : Int) := ⟨by omega, by omega, by simpa using hn⟩
theorem gR_nat {n : Nat} (h : n < 2 ^ 62) : gR (n : Int) := ⟨by omega, by omega⟩
theorem gDiv_nat {n : Nat} (h0 : 0 < n) (h : n < 1073741824) : gDiv (n : Int) := ⟨by omega, by omega⟩

/-! ### a number by its bits -/
def mask : Nat → (Nat → Bool) → Nat
  | 0, _ => 0
  | n + 1, p => mask n p + if p n = true then 2 ^ n else 0
theorem mask_succ (n : Nat) (p : Nat → Bool) : mask (n + 1) p = mask n p + if p n = true then 2 ^ n else 0 := rfl
theorem mask_lt : ∀ (n : Nat) (p : Nat → Bool), mask n p < 2 ^ n
  | 0, _ => Nat.one_pos
  | n + 1, p => by
    have h := mask_lt n p
    unfold mask
    rw [Nat.pow_succ]
    split <;> omega
theorem testBit_mask : ∀ (n : Nat) (p : Nat → Bool) (i : Nat), (mask n p).testBit i = (decide (i < n) && p i)
  | 0, p, i => by simp [mask]
  | n + 1, p, i => by
    have h := testBit_mask n p i
    have hl := mask_lt n p
    unfold mask
    by_cases hp : p n = true
    · rw [if_pos hp, Nat.add_comm]
      have e := Nat.two_pow_add_eq_or_of_lt hl 1
      rw [Nat.mul_one] at e
      rw [e, Nat.testBit_or, h, Nat.testBit_two_pow]
      by_cases hi : i < n
      · simp [hi, Nat.lt_succ_of_lt hi, show ¬ n = i by omega]
      · by_cases he : n = i
        · subst he; simp [hp]
        · simp [hi, he, show ¬ i < n + 1 by omega]
    · rw [if_neg hp, Nat.add_zero, h]
      by_cases hi : i < n
      · simp [hi, Nat.lt_succ_of_lt hi]
      · by_cases he : n = i
        · subst he; simp [hp]
        · simp [hi, show ¬ i < n + 1 by omega]
theorem mask_ext {n : Nat} {p : Nat → Bool} {x : Nat} (hx : x < 2 ^ n) (h : ∀ i, i < n → x.testBit i = p i) : x = mask n p := by
  apply Nat.eq_of_testBit_eq
  intro i
  rw [testBit_mask]
  by_cases hi : i < n
  · simp [hi, h i hi]
  · simp only [hi, decide_false, Bool.false_and]
    exact Nat.testBit_lt_two_pow (Nat.lt_of_lt_of_le hx (Nat.pow_le_pow_right (by decide) (by omega)))
theorem mask_congr {n : Nat} {p q : Nat → Bool} (h : ∀ i, i < n → p i = q i) : mask n p = mask n q := mask_ext (mask_lt n p) fun i hi => by rw [testBit_mask, h i hi]; simp [hi]
end B
namespace B
open PySem Z
theorem forO_list {α σ : Type} {body : α → σ → Option σ} (g : σ → α → σ) (I : σ → Prop) : ∀ (xs : List α) (s : σ), I s → (∀ x ∈ xs, ∀ s, I s → body x s = some (g s x) ∧ I (g s x)) → forO body xs s = some (xs.foldl g s) ∧ I (xs.foldl g s)
  | [], s, h, _ => ⟨forO_nil, h⟩
  | x :: xs, s, h, hs => by
    obtain ⟨e, i⟩ := hs x List.mem_cons_self s h
    rw [forO_cons, e]
    exact forO_list g I xs (g s x) i fun y hy => hs y (List.mem_cons_of_mem _ hy)
theorem forR_list {α σ ρ : Type} {body : α → σ → Option (σ ⊕ ρ)} (g : σ → α → σ) (I : σ → Prop) : ∀ (xs : List α) (s : σ), I s → (∀ x ∈ xs, ∀ s, I s → body x s = some (.inl (g s x)) ∧ I (g s x)) → forR body xs s = some (.inl (xs.foldl g s)) ∧ I (xs.foldl g s)
  | [], s, h, _ => ⟨forR_nil, h⟩
  | x :: xs, s, h, hs => by
    obtain ⟨e, i⟩ := hs x List.mem_cons_self s h
    rw [forR_cons, e]
    exact forR_list g I xs (g s x) i fun y hy => hs y (List.mem_cons_of_mem _ hy)
/-- an invariant alone -/
theorem forO_inv {α σ : Type} {body : α → σ → Option σ} (I : σ → Prop) : ∀ (xs : List α) (s : σ), I s → (∀ x ∈ xs, ∀ s, I s → ∃ s', body x s = some s' ∧ I s') → ∃ s', forO body xs s = some s' ∧ I s'
  | [], s, h, _ => ⟨s, forO_nil, h⟩
  | x :: xs, s, h, hs => by
    obtain ⟨s1, e, i⟩ := hs x List.mem_cons_self s h
    rw [forO_cons, e]
    exact forO_inv I xs s1 i fun y hy => hs y (List.mem_cons_of_mem _ hy)
theorem forR_inv {α σ ρ : Type} {body : α → σ → Option (σ ⊕ ρ)} (I : σ → Prop) : ∀ (xs : List α) (s : σ), I s → (∀ x ∈ xs, ∀ s, I s → ∃ s', body x s = some (.inl s') ∧ I s') → ∃ s', forR body xs s = some (.inl s') ∧ I s'
  | [], s, h, _ => ⟨s, forR_nil, h⟩
  | x :: xs, s, h, hs => by
    obtain ⟨s1, e, i⟩ := hs x List.mem_cons_self s h
    rw [forR_cons, e]
    exact forR_inv I xs s1 i fun y hy => hs y (List.mem_cons_of_mem _ hy)
theorem mod_nat (v : Int) {n : Nat} (h : 0 < n) : ∃ k : Nat, k < n ∧ v % (n : Int) = (k : Int) := by
  refine ⟨(v % (n : Int)).toNat, ?_, ?_⟩
  · have h1 := Int.emod_lt_of_pos v (show (0 : Int) < (n : Int) by omega)
    have h0 := Int.emod_nonneg v (show (n : Int) ≠ 0 by omega)
    omega
  · have h0 := Int.emod_nonneg v (show (n : Int) ≠ 0 by omega)
    omega
theorem cutI_mem {α : Type} {xs : List α} {lo hi : Option Int} {x : α} (h : x ∈ cutI xs lo hi) : x ∈ xs := List.mem_of_mem_drop (List.mem_of_mem_take h)
theorem cutI_len {α : Type} {xs : List α} {lo hi : Option Int} : (cutI xs lo hi).length ≤ xs.length := by
  unfold cutI
  rw [List.length_take, List.length_drop]
  omega
theorem setI_nat {α : Type} {xs : List α} {k : Nat} {v : α} (h : k < xs.length) : setI xs (k : Int) v = some (xs.set k v) := by
  unfold setI L2.ixN
  rw [if_pos (by omega), if_pos (by omega), Int.toNat_natCast]
  rfl
theorem atI_nat' {α : Type} {xs : List α} {k : Nat} (h : k < xs.length) : L2.atI xs (k : Int) = some xs[k] := L2.atI_nat (List.getElem?_eq_getElem h)
end B
namespace B
open PySem Z
theorem un2_mk {α β γ : Type} {f : α → β → γ} {a : α} {b : β} : un2 f (a, b) = f a b := rfl
theorem un3_mk {α β γ δ : Type} {f : α → β → γ → δ} {a : α} {b : β} {c : γ} : un3 f (a, b, c) = f a b c := rfl
theorem un4_mk {α β γ δ ε : Type} {f : α → β → γ → δ → ε} {a : α} {b : β} {c : γ} {d : δ} : un4 f (a, b, c, d) = f a b c d := rfl
theorem nt : (!true) = false := rfl
theorem nf : (!false) = true := rfl
end B

namespace B
open PySem Z E
def digs (n : Nat) : List Int := [((n % 3 : Nat) : Int), ((n / 3 % 3 : Nat) : Int), ((n / 9 % 3 : Nat) : Int), ((n / 27 % 3 : Nat) : Int), ((n / 81 % 3 : Nat) : Int), ((n / 243 % 3 : Nat) : Int)]
def barOf (w : List Int) : Int × Int := (m__law_bar_of w).getD (0, 0)
def zer (n k : Nat) : Nat := n - n / 3 ^ k % 3 * 3 ^ k
theorem chk1 : ((List.range 729).all fun n => (m__law_bar_of (digs n) == some (barOf (digs n))) && (m__law_numbers_told (barOf (digs n)) (digs n) == some true)) = true := by decide +kernel
theorem chk2 : ((List.range 729).all fun n => (List.range 6).all fun k => decide (zer n k < 729) && ((digs n).set k 0 == digs (zer n k)) && decide (zer n k + 2 * 3 ^ k < 729) && ((digs (zer n k)).set k 2 == digs (zer n k + 2 * 3 ^ k)) &&
   (zer (zer n k) k == zer n k) && (m_without (barOf (digs n)) (k : Int) == some (barOf (digs (zer n k))))) = true := by decide +kernel
end B

namespace B
open PySem Z E
theorem bar_of_d {n : Nat} (h : n < 729) : m__law_bar_of (digs n) = some (barOf (digs n)) := by
  have q := chk1
  simp only [List.all_eq_true, List.mem_range] at q
  have r := q n h
  rw [Bool.and_eq_true] at r
  exact eq_of_beq r.1
theorem told_d {n : Nat} (h : n < 729) : m__law_numbers_told (barOf (digs n)) (digs n) = some true := by
  have q := chk1
  simp only [List.all_eq_true, List.mem_range] at q
  have r := q n h
  rw [Bool.and_eq_true] at r
  exact eq_of_beq r.2
theorem step_d {n k : Nat} (h : n < 729) (hk : k < 6) : zer n k < 729 ∧ (digs n).set k 0 = digs (zer n k) ∧ zer n k + 2 * 3 ^ k < 729 ∧ (digs (zer n k)).set k 2 = digs (zer n k + 2 * 3 ^ k) ∧ zer (zer n k) k = zer n k ∧ m_without (barOf (digs n)) (k : Int) = some (barOf (digs (zer n k))) := by
  have q := chk2
  simp only [List.all_eq_true, List.mem_range, Bool.and_eq_true, decide_eq_true_eq, beq_iff_eq] at q
  obtain ⟨⟨⟨⟨⟨a, b⟩, c⟩, d⟩, e⟩, f⟩ := q n h k hk
  exact ⟨a, b, c, d, e, f⟩
theorem bar_told (p : Int × Int) : m__law_bar_told p p = some true := by
  unfold m__law_bar_told
  rw [ifo_f (by decide)]
  have hr : forR (σ := Unit) (ρ := Bool) (fun (x : Int) (_ : Unit) => ifo ((!true) || false) (some (.inr false)) (some (.inl ()))) [p.1, p.2] () = some (.inl ()) := by
    rw [forR_cons, ifo_f (show ((!true) || false) = false from rfl)]
    show forR _ [_] () = _
    rw [forR_cons]
    exact forR_nil
  rw [brk_inl hr, decide_eq_true rfl]
theorem cell_at_eq (ns : List Int) (k : Nat) : ∃ v, m__law_cell_at ns (k : Int) = some v := by
  unfold m__law_cell_at
  by_cases h : k < ns.length
  · rw [ifo_t (decide_eq_true (by omega))]
    exact ⟨ns[k], by rw [bind_eq (atI_nat' h)]⟩
  · rw [ifo_f (decide_eq_false (by omega))]
    exact ⟨0, rfl⟩
theorem law_true (ns : List Int) (hn : ns.length ≤ 63) : m_law ns = some true := by
  obtain ⟨v0, e0⟩ := cell_at_eq ns 0
  have t0 : m__law_cell_at ns 0 = some v0 := e0
  obtain ⟨n, hn7, en⟩ := mod_nat v0 (n := 729) (by decide)
  have en' : v0 % 729 = (n : Int) := en
  unfold m_law
  rw [bind_eq t0, lt_eq, en']
  -- the digits
  obtain ⟨s, f1, f2⟩ := forO_r0 (n := 6) (s := ((n : Int), ([] : List Int))) (body := fun k15 s =>
    un2 (fun rest_23 ways24 => grd (ways24.length < 16777216) <| lt (ways24 ++ [(rest_23 % 3)]) fun ways33 => lt (rest_23 / 3) fun rest_40 => some (rest_40, ways33)) s)
    (fun k s => s = (((n / 3 ^ k : Nat) : Int), (digs n).take k)) (by rw [Nat.pow_zero, Nat.div_one]; rfl) fun k s hk hs => by
      subst hs
      refine ⟨_, ?_, rfl⟩
      show grd (((digs n).take k).length < 16777216) _ = _
      rw [grd_of (by rw [List.length_take]; show min k 6 < _; omega), lt_eq, lt_eq]
      congr 1
      have hd : (((n / 3 ^ k : Nat) : Int)) / 3 = ((n / 3 ^ (k + 1) : Nat) : Int) := by
        rw [Nat.pow_succ, ← Nat.div_div_eq_div_mul]; omega
      refine Prod.ext hd ?_
      have hm : (((n / 3 ^ k : Nat) : Int)) % 3 = ((n / 3 ^ k % 3 : Nat) : Int) := by omega
      show (digs n).take k ++ [((n / 3 ^ k : Nat) : Int) % 3] = (digs n).take (k + 1)
      rw [hm]
      match k, hk with
      | 0, _ => simp [digs]
      | 1, _ => simp [digs]
      | 2, _ => simp [digs]
      | 3, _ => simp [digs]
      | 4, _ => simp [digs]
      | 5, _ => simp [digs]
  have f3 : s = (((n / 3 ^ 6 : Nat) : Int), digs n) := f2
  rw [show Int.toNat 6 = 6 from rfl, bind_eq f1, f3]
  show (m__law_bar_of (digs n)).bind _ = _
  rw [bind_eq (bar_of_d hn7), bind_eq (told_d hn7), ifo_f (show (!true) = false from rfl)]
  -- the walk over the cells
  obtain ⟨s, g1, m, hm, g2⟩ := forR_inv (ρ := Bool) (body := (fun (cell62 : Int) (s : List Int × (Int × Int)) =>
    un2 (fun ways70 bar74 =>
    lt (cell62 % 6) fun lamp85 =>
    (setI ways70 lamp85 0).bind fun ways86 =>
    (m__law_bar_of ways86).bind fun v93 =>
    (m_without bar74 lamp85).bind fun v101 =>
    ((m__law_bar_told v101 v93).bind fun v117 =>
    ifo (!v117) (
    some true) (
    (m__law_numbers_told v93 ways86).bind fun v118 =>
    some (!v118))).bind fun b121 =>
    ifo b121 (
    some (.inr false)) (
    (m_without v101 lamp85).bind fun v122 =>
    (m__law_bar_told v122 v93).bind fun v130 =>
    ifo (!v130) (
    some (.inr false)) (
    (ifo (decide (((cell62 / 6) % 4) = 3)) (
    (setI ways86 lamp85 2).bind fun ways147 =>
    some ways147) (
    some ways86)).bind (fun ways131 =>
    (m__law_bar_of ways131).bind fun v138 =>
    some (.inl (ways131, v138)))))) s)) (fun s => ∃ m, m < 729 ∧ s = (digs m, barOf (digs m))) (cutI ns (some 1) (some 41)) (digs n, barOf (digs n)) ⟨n, hn7, rfl⟩ (fun c _ s hs => by
      obtain ⟨m, hm, rfl⟩ := hs
      obtain ⟨k, hk, ek⟩ := mod_nat c (n := 6) (by decide)
      have ek' : c % 6 = (k : Int) := ek
      obtain ⟨z1, z2, z3, z4, z5, z6⟩ := step_d hm hk
      obtain ⟨_, _, _, _, _, y6⟩ := step_d z1 hk
      have hl : k < (digs m).length := hk
      have hl2 : k < (digs (zer m k)).length := hk
      cases hd : decide (c / 6 % 4 = 3) with
      | true =>
        refine ⟨(digs (zer m k + 2 * 3 ^ k), barOf (digs (zer m k + 2 * 3 ^ k))), ?_, _, z3, rfl⟩
        rw [un2_mk, lt_eq, ek', bind_eq (setI_nat hl), z2, bind_eq (bar_of_d z1), bind_eq z6, bind_eq (bar_told _), ifo_f (show (!true) = false from rfl), bind_eq (told_d z1)]
        show ifo (!true) _ _ = _
        rw [ifo_f (show (!true) = false from rfl), bind_eq y6, z5, bind_eq (bar_told _), ifo_f (show (!true) = false from rfl), ifo_t rfl, bind_eq (setI_nat hl2), z4]
        show (m__law_bar_of _).bind _ = _
        rw [bind_eq (bar_of_d z3)]
      | false =>
        refine ⟨(digs (zer m k), barOf (digs (zer m k))), ?_, _, z1, rfl⟩
        rw [un2_mk, lt_eq, ek', bind_eq (setI_nat hl), z2, bind_eq (bar_of_d z1), bind_eq z6, bind_eq (bar_told _), ifo_f (show (!true) = false from rfl), bind_eq (told_d z1)]
        show ifo (!true) _ _ = _
        rw [ifo_f (show (!true) = false from rfl), bind_eq y6, z5, bind_eq (bar_told _), ifo_f (show (!true) = false from rfl), ifo_f rfl]
        show (m__law_bar_of _).bind _ = _
        rw [bind_eq (bar_of_d z1)])
  rw [brk_inl g1, g2]
  show (m__law_numbers_told _ _).bind _ = _
  rw [bind_eq (told_d hm)]
end B

namespace E
open PySem PySem.Spec PyProof.Rows L2 Z
def spLaw (K : PySem.W.Frag) : Sp := fun vs H Q _ => ∃ (a : Addr) (ns : List Int), vs = [.ref a] ∧ SqL K H a (ns.map V.int) ∧ ns.length ≤ 63 ∧ ∀ H', Q (.bl true) H'
theorem law_ok {P : Program} {w : World} {K : PySem.W.Frag} {mg : Str → Option Value} {base : Heap} (T : Tx K mg) : FnOk P w K mg base CX0 4 T.f_law T.d_law ["_law_script"] (spLaw K) :=
  (ok_law T).imp fun vs H Q E h => by
    obtain ⟨a, ns, rfl, hS, hl, k⟩ := h
    exact ⟨_, ns, rfl, ⟨a, _, rfl, hS, RL.map V.int (fun _ => rfl) ns⟩, OP.mk (B.law_true ns hl) fun H' _ => k H'⟩
theorem all_mk {l : PySem.W.OpenLaw} {w : World} {K : PySem.W.Frag} {h : Heap} {mg : Str → Option Value} {fa : Addr} (X : K.In h) (G : h.Ns mainGlobals mg) (hfa : mg "law" = some (.ref fa))
    {od0 an0 : Option Addr} {sl0 : Array (Option Value)} {oc0 kV0 dc0 pm0 cd0 ct0 : Value} {f0 : Addr}
    (a0 : PySem.W.nsIn K mainGlobals "_law_bar_of" = some (some (.ref f0))) (l0 : K.lookup f0 = some ⟨oc0, od0, .func (PySem.W.fnOf "_law_bar_of" "_law_bar_of" (defArgs (top 6)) (defBody (top 6)) (defScope (top 6)) .none kV0 dc0 pm0 an0 cd0 ct0), sl0⟩) (c0 : PySem.W.codeIn K cd0 "_law_bar_of" = true) (k0 : PySem.W.keepIn K (.ref f0) = true)
    {od1 an1 : Option Addr} {sl1 : Array (Option Value)} {oc1 kV1 dc1 pm1 cd1 ct1 : Value} {f1 : Addr}
    (a1 : PySem.W.nsIn K mainGlobals "_law_bar_told" = some (some (.ref f1))) (l1 : K.lookup f1 = some ⟨oc1, od1, .func (PySem.W.fnOf "_law_bar_told" "_law_bar_told" (defArgs (top 8)) (defBody (top 8)) (defScope (top 8)) .none kV1 dc1 pm1 an1 cd1 ct1), sl1⟩) (c1 : PySem.W.codeIn K cd1 "_law_bar_told" = true) (k1 : PySem.W.keepIn K (.ref f1) = true)
    {od2 an2 : Option Addr} {sl2 : Array (Option Value)} {oc2 kV2 dc2 pm2 cd2 ct2 : Value} {f2 : Addr}
    (a2 : PySem.W.nsIn K mainGlobals "_law_cell_at" = some (some (.ref f2))) (l2 : K.lookup f2 = some ⟨oc2, od2, .func (PySem.W.fnOf "_law_cell_at" "_law_cell_at" (defArgs (top 5)) (defBody (top 5)) (defScope (top 5)) .none kV2 dc2 pm2 an2 cd2 ct2), sl2⟩) (c2 : PySem.W.codeIn K cd2 "_law_cell_at" = true) (k2 : PySem.W.keepIn K (.ref f2) = true)
    {od3 an3 : Option Addr} {sl3 : Array (Option Value)} {oc3 kV3 dc3 pm3 cd3 ct3 : Value} {f3 : Addr}
    (a3 : PySem.W.nsIn K mainGlobals "asks_for" = some (some (.ref f3))) (l3 : K.lookup f3 = some ⟨oc3, od3, .func (PySem.W.fnOf "asks_for" "asks_for" (defArgs (top 1)) (defBody (top 1)) (defScope (top 1)) .none kV3 dc3 pm3 an3 cd3 ct3), sl3⟩) (c3 : PySem.W.codeIn K cd3 "asks_for" = true) (k3 : PySem.W.keepIn K (.ref f3) = true)
    {od4 an4 : Option Addr} {sl4 : Array (Option Value)} {oc4 kV4 dc4 pm4 cd4 ct4 : Value} {f4 : Addr}
    (a4 : PySem.W.nsIn K mainGlobals "asked_by" = some (some (.ref f4))) (l4 : K.lookup f4 = some ⟨oc4, od4, .func (PySem.W.fnOf "asked_by" "asked_by" (defArgs (top 2)) (defBody (top 2)) (defScope (top 2)) .none kV4 dc4 pm4 an4 cd4 ct4), sl4⟩) (c4 : PySem.W.codeIn K cd4 "asked_by" = true) (k4 : PySem.W.keepIn K (.ref f4) = true)
    {od5 an5 : Option Addr} {sl5 : Array (Option Value)} {oc5 kV5 dc5 pm5 cd5 ct5 : Value} {f5 : Addr}
    (a5 : PySem.W.nsIn K mainGlobals "_law_numbers_told" = some (some (.ref f5))) (l5 : K.lookup f5 = some ⟨oc5, od5, .func (PySem.W.fnOf "_law_numbers_told" "_law_numbers_told" (defArgs (top 7)) (defBody (top 7)) (defScope (top 7)) .none kV5 dc5 pm5 an5 cd5 ct5), sl5⟩) (c5 : PySem.W.codeIn K cd5 "_law_numbers_told" = true) (k5 : PySem.W.keepIn K (.ref f5) = true)
    {od6 an6 : Option Addr} {sl6 : Array (Option Value)} {oc6 kV6 dc6 pm6 cd6 ct6 : Value} {f6 : Addr}
    (a6 : PySem.W.nsIn K mainGlobals "without" = some (some (.ref f6))) (l6 : K.lookup f6 = some ⟨oc6, od6, .func (PySem.W.fnOf "without" "without" (defArgs (top 3)) (defBody (top 3)) (defScope (top 3)) .none kV6 dc6 pm6 an6 cd6 ct6), sl6⟩) (c6 : PySem.W.codeIn K cd6 "without" = true) (k6 : PySem.W.keepIn K (.ref f6) = true)
    {od7 an7 : Option Addr} {sl7 : Array (Option Value)} {oc7 kV7 dc7 pm7 cd7 ct7 : Value} {f7 : Addr}
    (a7 : PySem.W.nsIn K mainGlobals "law" = some (some (.ref f7))) (l7 : K.lookup f7 = some ⟨oc7, od7, .func (PySem.W.fnOf "law" "law" (defArgs (top 9)) (defBody (top 9)) (defScope (top 9)) .none kV7 dc7 pm7 an7 cd7 ct7), sl7⟩) (c7 : PySem.W.codeIn K cd7 "law" = true) (k7 : PySem.W.keepIn K (.ref f7) = true)
    (z_bool : PySem.W.nsIn K mainGlobals "bool" = some none)
    (z_int : PySem.W.nsIn K mainGlobals "int" = some none)
    (z_isinstance : PySem.W.nsIn K mainGlobals "isinstance" = some none)
    (z_len : PySem.W.nsIn K mainGlobals "len" = some none)
    (z_list : PySem.W.nsIn K mainGlobals "list" = some none)
    (z_range : PySem.W.nsIn K mainGlobals "range" = some none)
    (z_tuple : PySem.W.nsIn K mainGlobals "tuple" = some none) :
    ∃ fd : FuncData, (∀ (s : Shared) (v : Value), BindsTo s fd ⟨[v], []⟩ [("_law_script", v)]) ∧ ∀ base : Heap, K.In base → base.Ns mainGlobals mg → FnOk l.prog w K mg base CX0 4 fa fd ["_law_script"] (spLaw K) := by
  have e := hfa.symm.trans (PySem.W.mg_of X G a7)
  cases e
  exact ⟨_, fun s v => .of_eq rfl, fun base _ _ => law_ok (T := ⟨_, _, fun_mk (st := (top 6)) l0 c0 k0, PySem.W.mg_of X G a0, (fun_mk (st := (top 6)) l0 c0 k0).binds (ps := ["_law_ways"]) fun _ _ _ _ _ _ us hl => match us, hl with | [_], _ => rfl,
    _, _, fun_mk (st := (top 8)) l1 c1 k1, PySem.W.mg_of X G a1, (fun_mk (st := (top 8)) l1 c1 k1).binds (ps := ["_law_found", "_law_due"]) fun _ _ _ _ _ _ us hl => match us, hl with | [_, _], _ => rfl,
    _, _, fun_mk (st := (top 5)) l2 c2 k2, PySem.W.mg_of X G a2, (fun_mk (st := (top 5)) l2 c2 k2).binds (ps := ["_law_script", "_law_k"]) fun _ _ _ _ _ _ us hl => match us, hl with | [_, _], _ => rfl,
    _, _, fun_mk (st := (top 1)) l3 c3 k3, PySem.W.mg_of X G a3, (fun_mk (st := (top 1)) l3 c3 k3).binds (ps := ["bar", "lamp"]) fun _ _ _ _ _ _ us hl => match us, hl with | [_, _], _ => rfl,
    _, _, fun_mk (st := (top 2)) l4 c4 k4, PySem.W.mg_of X G a4, (fun_mk (st := (top 2)) l4 c4 k4).binds (ps := ["bar"]) fun _ _ _ _ _ _ us hl => match us, hl with | [_], _ => rfl,
    _, _, fun_mk (st := (top 7)) l5 c5 k5, PySem.W.mg_of X G a5, (fun_mk (st := (top 7)) l5 c5 k5).binds (ps := ["_law_bar", "_law_ways"]) fun _ _ _ _ _ _ us hl => match us, hl with | [_, _], _ => rfl,
    _, _, fun_mk (st := (top 3)) l6 c6 k6, PySem.W.mg_of X G a6, (fun_mk (st := (top 3)) l6 c6 k6).binds (ps := ["bar", "lamp"]) fun _ _ _ _ _ _ us hl => match us, hl with | [_, _], _ => rfl,
    _, _, fun_mk (st := (top 9)) l7 c7 k7, PySem.W.mg_of X G a7, (fun_mk (st := (top 9)) l7 c7 k7).binds (ps := ["_law_script"]) fun _ _ _ _ _ _ us hl => match us, hl with | [_], _ => rfl,
    PySem.W.mg_none_of X G z_bool,
    PySem.W.mg_none_of X G z_int,
    PySem.W.mg_none_of X G z_isinstance,
    PySem.W.mg_none_of X G z_len,
    PySem.W.mg_none_of X G z_list,
    PySem.W.mg_none_of X G z_range,
    PySem.W.mg_none_of X G z_tuple⟩)⟩
end E
open PySem PySem.W PyProof.Rows
set_option maxRecDepth 100000 in
set_option maxHeartbeats 0 in
theorem PySem.Challenge.cw_evernever_k22_lamps_of_a_bar_holds : PySem.Challenge.rw_evernever_k22_lamps_of_a_bar.Holds := by
  w_on; o_law; k_head; (case hw => w_witness2)
  k_fill
  refine L2.walk_of (l := PySem.Challenge.rw_evernever_k22_lamps_of_a_bar) (n := 63) (k := 4) (x := "_law_script") (CX := fun _ => L2.CX0) (sp := fun w => E.spLaw _) rfl (by decide) rfl ⟨rfl, by decide, by decide⟩ (fun w h Y => PySem.W.kIn_of Y) ?F (fun _ _ a ns hl _ hS => ⟨a, ns, rfl, hS, hl, fun _ => rfl⟩) (fun _ _ _ _ _ h => h)
  case F =>
    intro w mg fa h KX G hmg
    refine' E.all_mk KX G hmg ?a0 ?l0 ?c0 ?k0 ?a1 ?l1 ?c1 ?k1 ?a2 ?l2 ?c2 ?k2 ?a3 ?l3 ?c3 ?k3 ?a4 ?l4 ?c4 ?k4 ?a5 ?l5 ?c5 ?k5 ?a6 ?l6 ?c6 ?k6 ?a7 ?l7 ?c7 ?k7 ?z_bool ?z_int ?z_isinstance ?z_len ?z_list ?z_range ?z_tuple
    (case a0 => k_is)
    (case l0 => k_is)
    (case c0 => k_is)
    (case k0 => k_is)
    (case a1 => k_is)
    (case l1 => k_is)
    (case c1 => k_is)
    (case k1 => k_is)
    (case a2 => k_is)
    (case l2 => k_is)
    (case c2 => k_is)
    (case k2 => k_is)
    (case a3 => k_is)
    (case l3 => k_is)
    (case c3 => k_is)
    (case k3 => k_is)
    (case a4 => k_is)
    (case l4 => k_is)
    (case c4 => k_is)
    (case k4 => k_is)
    (case a5 => k_is)
    (case l5 => k_is)
    (case c5 => k_is)
    (case k5 => k_is)
    (case a6 => k_is)
    (case l6 => k_is)
    (case c6 => k_is)
    (case k6 => k_is)
    (case a7 => k_is)
    (case l7 => k_is)
    (case c7 => k_is)
    (case k7 => k_is)
    (case z_bool => k_is)
    (case z_int => k_is)
    (case z_isinstance => k_is)
    (case z_len => k_is)
    (case z_list => k_is)
    (case z_range => k_is)
    (case z_tuple => k_is)
#print axioms PySem.Challenge.cw_evernever_k22_lamps_of_a_bar_holds
