import PyProof.Rows.All
import Wide.All
import OpenK.AllK
import Wide.FinOn
import HandS.ForMost
import HandS.ForExc
import HandS.ExcIs
import HandS.Small
import HandS.Text
import HandS.Conv
import HandS.HotCalls
import PyProof.Draws
import KE.KDictSum
import HandS.IsInst
import HandS.WideBits
import HandS.Wide
import HandS.WideMore
import HandS.Steps
import HandS.SortRule
import HandS.SortInts
import HandS.TupLe
import HandS.RevTup
import HandS.Rev
import HandS.Iter
import KE.KDictList
import PySem.Challenge.RW_evernever_k15_which_and_walked
set_option Elab.async false
set_option linter.all false
set_option maxRecDepth 100000
set_option maxHeartbeats 8000000
namespace Z
open PySem PySem.Spec PyProof.Rows L2

/-! ### Option as the monad of a mirror: what an answer is wanted for -/
def OP {α : Type} (m : Option α) (A : α → Prop) : Prop := match m with
  | some a => A a
  | none => False
theorem OP.bind {α β : Type} {m : Option α} {k : α → Option β} {A : β → Prop} (h : OP (m.bind k) A) : ∃ x, m = some x ∧ OP (k x) A := by
  cases m with
  | none => exact h.elim
  | some x => exact ⟨x, rfl, h⟩
theorem OP.of {α β : Type} {m : Option α} {k : α → Option β} {A : β → Prop} (h : OP (m.bind k) A) : OP m (fun x => OP (k x) A) := by
  cases m with
  | none => exact h.elim
  | some x => exact h
theorem OP.some {α : Type} {a : α} {A : α → Prop} (h : OP (some a) A) : A a := h
theorem OP.get {α : Type} {m : Option α} {A : α → Prop} (h : OP m A) : ∃ a, m = .some a ∧ A a := by
  cases m with
  | none => exact h.elim
  | some x => exact ⟨x, rfl, h⟩
theorem OP.mk {α : Type} {m : Option α} {a : α} {A : α → Prop} (e : m = .some a) (h : A a) : OP m A := by subst e; exact h
theorem OP.mono {α : Type} {m : Option α} {A B : α → Prop} (h : OP m A) (f : ∀ a, A a → B a) : OP m B := by
  cases m with
  | none => exact h.elim
  | some x => exact f _ h
/-- a guard -/
@[irreducible] def grd {β : Type} (c : Prop) [Decidable c] (k : Option β) : Option β := if c then k else none
theorem OP.grd {β : Type} {c : Prop} {_ : Decidable c} {k : Option β} {A : β → Prop} (h : OP (Z.grd c k) A) : c ∧ OP k A := by
  unfold Z.grd at h
  by_cases hc : c
  · rw [if_pos hc] at h
    exact ⟨hc, h⟩
  · rw [if_neg hc] at h
    exact h.elim
theorem grd_some {β : Type} {c : Prop} {_ : Decidable c} {k : Option β} {r : β} (h : Z.grd c k = some r) : c ∧ k = some r := by
  unfold Z.grd at h
  by_cases hc : c
  · rw [if_pos hc] at h
    exact ⟨hc, h⟩
  · rw [if_neg hc] at h
    cases h
theorem grd_of {β : Type} {c : Prop} [Decidable c] {k : Option β} (h : c) : Z.grd c k = k := by
  unfold Z.grd
  rw [if_pos h]
theorem bind_some {α β : Type} {m : Option α} {k : α → Option β} {r : β} (h : m.bind k = some r) : ∃ x, m = some x ∧ k x = some r := by
  cases m with
  | none => cases h
  | some x => exact ⟨x, rfl, h⟩
/-- a mirror's test -/
@[irreducible] def ifo {α : Type} (c : Bool) (m n : Option α) : Option α := if c = true then m else n
theorem ifo_eq {α : Type} (c : Bool) (m n : Option α) : ifo c m n = if c = true then m else n := by unfold ifo; rfl
theorem ifo_t {α : Type} {c : Bool} {m n : Option α} (h : c = true) : ifo c m n = m := by rw [ifo_eq, if_pos h]
theorem ifo_f {α : Type} {c : Bool} {m n : Option α} (h : c = false) : ifo c m n = n := by rw [ifo_eq, if_neg (by rw [h]; exact Bool.false_ne_true)]
/-- a mirror's loops: without, with an early answer -/
def forO' {α σ : Type} (body : α → σ → Option σ) : List α → σ → Option σ
  | [], s => some s
  | x :: xs, s => (body x s).bind fun s' => forO' body xs s'
@[irreducible] def forO {α σ : Type} (body : α → σ → Option σ) (xs : List α) (s : σ) : Option σ := forO' body xs s
def forR' {α σ ρ : Type} (body : α → σ → Option (σ ⊕ ρ)) : List α → σ → Option (σ ⊕ ρ)
  | [], s => some (.inl s)
  | x :: xs, s => (body x s).bind fun r => match r with
    | .inl s' => forR' body xs s'
    | .inr v => some (.inr v)
@[irreducible] def forR {α σ ρ : Type} (body : α → σ → Option (σ ⊕ ρ)) (xs : List α) (s : σ) : Option (σ ⊕ ρ) := forR' body xs s
def whileO' {σ : Type} (c : σ → Option Bool) (body : σ → Option σ) : Nat → σ → Option σ
  | 0, _ => none
  | n + 1, s => (c s).bind fun b => if b = true then (body s).bind fun s' => whileO' c body n s' else some s
@[irreducible] def whileO {σ : Type} (c : σ → Option Bool) (body : σ → Option σ) (n : Nat) (s : σ) : Option σ := whileO' c body n s
def whileR' {σ ρ : Type} (c : σ → Option Bool) (body : σ → Option (σ ⊕ ρ)) : Nat → σ → Option (σ ⊕ ρ)
  | 0, _ => none
  | n + 1, s => (c s).bind fun b => if b = true then (body s).bind fun r => match r with
    | .inl s' => whileR' c body n s'
    | .inr v => some (.inr v) else some (.inl s)
@[irreducible] def whileR {σ ρ : Type} (c : σ → Option Bool) (body : σ → Option (σ ⊕ ρ)) (n : Nat) (s : σ) : Option (σ ⊕ ρ) := whileR' c body n s
theorem forO_nil {α σ : Type} {body : α → σ → Option σ} {s : σ} : forO body [] s = some s := by unfold forO; rfl
theorem forO_cons {α σ : Type} {body : α → σ → Option σ} {x : α} {xs : List α} {s : σ} : forO body (x :: xs) s = (body x s).bind fun s' => forO body xs s' := by unfold forO; rfl
theorem forR_nil {α σ ρ : Type} {body : α → σ → Option (σ ⊕ ρ)} {s : σ} : forR body [] s = some (.inl s) := by unfold forR; rfl
theorem forR_cons {α σ ρ : Type} {body : α → σ → Option (σ ⊕ ρ)} {x : α} {xs : List α} {s : σ} : forR body (x :: xs) s = (body x s).bind fun r => match r with
    | .inl s' => forR body xs s'
    | .inr v => some (.inr v) := by unfold forR; rfl
theorem whileO_zero {σ : Type} {c : σ → Option Bool} {body : σ → Option σ} {s : σ} : whileO c body 0 s = none := by unfold whileO; rfl
theorem whileO_succ {σ : Type} {c : σ → Option Bool} {body : σ → Option σ} {n : Nat} {s : σ} : whileO c body (n + 1) s = (c s).bind fun b => if b = true then (body s).bind fun s' => whileO c body n s' else some s := by unfold whileO; rfl
theorem whileR_zero {σ ρ : Type} {c : σ → Option Bool} {body : σ → Option (σ ⊕ ρ)} {s : σ} : whileR c body 0 s = none := by unfold whileR; rfl
theorem whileR_succ {σ ρ : Type} {c : σ → Option Bool} {body : σ → Option (σ ⊕ ρ)} {n : Nat} {s : σ} : whileR c body (n + 1) s = (c s).bind fun b => if b = true then (body s).bind fun r => match r with
    | .inl s' => whileR c body n s'
    | .inr v => some (.inr v) else some (.inl s) := by unfold whileR; rfl
def rangeI (lo : Int) (n : Nat) : List Int := (List.range n).map fun (i : Nat) => lo + (i : Int)

/-! ### a datum of Lean's at a value of the heap -/
structure Rep (K : PySem.W.Frag) (α : Type) where
  R : Hp → V → α → Prop
  mono : ∀ {H H' : Hp} {v : V} {x : α}, Same H H' → R H v x → R H' v x
abbrev RL {K : PySem.W.Frag} {α : Type} (τ : Rep K α) (H : Hp) (ws : List V) (xs : List α) : Prop := Paired (τ.R H) ws xs
theorem RL.mono {K : PySem.W.Frag} {α : Type} {τ : Rep K α} {H H' : Hp} (e : Same H H') : ∀ {ws : List V} {xs : List α}, RL τ H ws xs → RL τ H' ws xs
  | _, _, .nil => .nil
  | _, _, .cons a b => .cons (τ.mono e a) (RL.mono e b)
theorem RL.length {K : PySem.W.Frag} {α : Type} {τ : Rep K α} {H : Hp} {ws : List V} {xs : List α} (h : RL τ H ws xs) : ws.length = xs.length := Paired.length h
theorem RL.app {K : PySem.W.Frag} {α : Type} {τ : Rep K α} {H : Hp} : ∀ {ws ws' : List V} {xs xs' : List α}, RL τ H ws xs → RL τ H ws' xs' → RL τ H (ws ++ ws') (xs ++ xs')
  | _, _, _, _, .nil, s => s
  | _, _, _, _, .cons a b, s => .cons a (RL.app b s)
theorem RL.get {K : PySem.W.Frag} {α : Type} {τ : Rep K α} {H : Hp} : ∀ {ws : List V} {xs : List α} {i : Nat} {x : α}, RL τ H ws xs → xs[i]? = some x → ∃ w, ws[i]? = some w ∧ τ.R H w x
  | _, _, _, _, .nil, e => by simp at e
  | _, _, 0, _, .cons r _, e => by simp at e; subst e; exact ⟨_, rfl, r⟩
  | _, _, i + 1, x, .cons _ t, e => by
    obtain ⟨w, h1, h2⟩ := RL.get (i := i) (x := x) t (by simpa using e)
    exact ⟨w, by simpa using h1, h2⟩
theorem RL.set {K : PySem.W.Frag} {α : Type} {τ : Rep K α} {H : Hp} {v : V} {x : α} (r : τ.R H v x) : ∀ {ws : List V} {xs : List α} (i : Nat), RL τ H ws xs → RL τ H (ws.set i v) (xs.set i x)
  | _, _, _, .nil => .nil
  | _, _, 0, .cons _ t => .cons r t
  | _, _, i + 1, .cons q t => .cons q (RL.set r i t)
theorem RL.drop {K : PySem.W.Frag} {α : Type} {τ : Rep K α} {H : Hp} : ∀ {ws : List V} {xs : List α} (n : Nat), RL τ H ws xs → RL τ H (ws.drop n) (xs.drop n)
  | _, _, 0, r => r
  | _, _, _ + 1, .nil => .nil
  | _, _, n + 1, .cons _ t => RL.drop n t
theorem RL.take {K : PySem.W.Frag} {α : Type} {τ : Rep K α} {H : Hp} : ∀ {ws : List V} {xs : List α} (n : Nat), RL τ H ws xs → RL τ H (ws.take n) (xs.take n)
  | _, _, 0, _ => .nil
  | _, _, _ + 1, .nil => .nil
  | _, _, n + 1, .cons r t => .cons r (RL.take n t)
theorem RL.dropLast {K : PySem.W.Frag} {α : Type} {τ : Rep K α} {H : Hp} {ws : List V} {xs : List α} (h : RL τ H ws xs) : RL τ H ws.dropLast xs.dropLast := by
  rw [List.dropLast_eq_take, List.dropLast_eq_take, h.length]
  exact h.take _
theorem RL.reverse {K : PySem.W.Frag} {α : Type} {τ : Rep K α} {H : Hp} : ∀ {ws : List V} {xs : List α}, RL τ H ws xs → RL τ H ws.reverse xs.reverse
  | _, _, .nil => .nil
  | _, _, .cons r t => by
    rw [List.reverse_cons, List.reverse_cons]
    exact (RL.reverse t).app (.cons r .nil)
theorem RL.map {K : PySem.W.Frag} {α : Type} {τ : Rep K α} {H : Hp} (f : α → V) (hf : ∀ x, τ.R H (f x) x) : ∀ xs : List α, RL τ H (xs.map f) xs
  | [] => .nil
  | x :: xs => .cons (hf x) (RL.map f hf xs)
theorem RL.eqmap {K : PySem.W.Frag} {α : Type} {τ : Rep K α} {H : Hp} (f : α → V) (hf : ∀ v x, τ.R H v x → v = f x) : ∀ {ws : List V} {xs : List α}, RL τ H ws xs → ws = xs.map f
  | _, _, .nil => rfl
  | _, _, .cons r t => by
    rw [List.map_cons, hf _ _ r, RL.eqmap f hf t]

section
variable {K : PySem.W.Frag}
def qI : Rep K Int := ⟨fun _ v x => v = .int x, fun _ h => h⟩
def qB : Rep K Bool := ⟨fun _ v x => v = .bl x, fun _ h => h⟩
def qS : Rep K Str := ⟨fun _ v x => v = .str x, fun _ h => h⟩
def qU : Rep K Unit := ⟨fun _ v _ => v = .non, fun _ h => h⟩
def qOpt {α : Type} (τ : Rep K α) : Rep K (Option α) := ⟨fun H v x => match x with | none => v = .non | some y => v ≠ .non ∧ τ.R H v y, fun {H H' v x} e h => by
  cases x with
  | none => exact h
  | some y => exact ⟨h.1, τ.mono e h.2⟩⟩
def qT2 {α β : Type} (τ : Rep K α) (υ : Rep K β) : Rep K (α × β) := ⟨fun H v x => ∃ a w1 w2, v = .ref a ∧ H a = some (.tup [w1, w2]) ∧ τ.R H w1 x.1 ∧ υ.R H w2 x.2, fun {H H' v x} e h => by
  obtain ⟨a, w1, w2, h1, h2, h3, h4⟩ := h
  exact ⟨a, w1, w2, h1, e _ _ h2, τ.mono e h3, υ.mono e h4⟩⟩
def qT3 {α β γ : Type} (τ : Rep K α) (υ : Rep K β) (φ : Rep K γ) : Rep K (α × β × γ) := ⟨fun H v x => ∃ a w1 w2 w3, v = .ref a ∧ H a = some (.tup [w1, w2, w3]) ∧ τ.R H w1 x.1 ∧ υ.R H w2 x.2.1 ∧ φ.R H w3 x.2.2, fun {H H' v x} e h => by
  obtain ⟨a, w1, w2, w3, h1, h2, h3, h4, h5⟩ := h
  exact ⟨a, w1, w2, w3, h1, e _ _ h2, τ.mono e h3, υ.mono e h4, φ.mono e h5⟩⟩
/-- a list that is tracked -/
def qL {α : Type} (τ : Rep K α) : Rep K (List α) := ⟨fun H v x => ∃ a ws, v = .ref a ∧ H a = some (.lst ws) ∧ RL τ H ws x, fun {H H' v x} e h => by
  obtain ⟨a, ws, h1, h2, h3⟩ := h
  exact ⟨a, ws, h1, e _ _ h2, RL.mono e h3⟩⟩
/-- a list that is to be read (the script) -/
def qQ {α : Type} (τ : Rep K α) : Rep K (List α) := ⟨fun H v x => ∃ a ws, v = .ref a ∧ SqL K H a ws ∧ RL τ H ws x, fun {H H' v x} e h => by
  obtain ⟨a, ws, h1, h2, h3⟩ := h
  exact ⟨a, ws, h1, e.seq h2, RL.mono e h3⟩⟩
theorem qL_qQ {α : Type} {τ : Rep K α} {H : Hp} {v : V} {x : List α} (h : (qL τ).R H v x) : (qQ τ).R H v x := by
  obtain ⟨a, ws, h1, h2, h3⟩ := h
  exact ⟨a, ws, h1, SqL.of h2, h3⟩
end

/-! ### heaps: S what stands for good, H the whole; L the lists that a def may change -/
/-- what may change -/
def mo : HO → Bool
  | .tup _ => false
  | _ => true
structure Grow (L : List Addr) (S0 H0 S H : Hp) : Prop where
  ss : Same S0 S
  sh : Same S H
  hh : ∀ a o, a ∉ L → H0 a = some o → H a = some o
  fr : ∀ a o, S0 a = none → H0 a = some o → mo o = true → S a = none
  ne : ∀ a o, H0 a = some o → ∃ o', H a = some o' ∧ (mo o = true → mo o' = true)
/-- a cell: an object that may change -/
structure Cel (L : List Addr) (H0 S H : Hp) (l : Addr) (o : HO) : Prop where
  h : H l = some o
  s : S l = none
  z : H0 l = none ∨ l ∈ L
  m : mo o = true
section
variable {L L' : List Addr} {S0 H0 S H S' H' : Hp} {p l l' : Addr} {o o' : HO}
theorem sne {x : HO} {H : Hp} {a : Addr} (h : H a = some x) : H a ≠ none := by rw [h]; exact fun q => by cases q
theorem Grow.refl (h : Same S H) : Grow L S H S H := ⟨Same.refl _, h, fun _ _ _ e => e, fun _ _ e _ _ => e, fun _ o e => ⟨o, e, id⟩⟩
theorem Grow.ext (g : Grow L S0 H0 S H) (e : Same H H') : Grow L S0 H0 S H' :=
  ⟨g.ss, g.sh.trans e, fun a o hl ha => e _ _ (g.hh a o hl ha), g.fr, fun a o ha => by
    obtain ⟨o', h1, h2⟩ := g.ne a o ha
    exact ⟨o', e _ _ h1, h2⟩⟩
theorem Grow.snone (g : Grow L S0 H0 S H) (hp : H p = none) : S p = none := g.sh.free hp
theorem Grow.hnone (g : Grow L S0 H0 S H) (hp : H p = none) : H0 p = none := by
  cases z : H0 p with
  | none => rfl
  | some x =>
    obtain ⟨o', h1, _⟩ := g.ne p x z
    rw [hp] at h1; cases h1
theorem Grow.imm (g : Grow L S0 H0 S H) (hp : H p = none) : Grow L S0 H0 (upd S p o) (upd H p o) where
  ss := fun a x e => by rw [upd_ne (ne_of_none (g.ss a x e) (g.snone hp))]; exact g.ss a x e
  sh := fun a x e => by
    by_cases h : a = p
    · subst h
      rw [upd_same] at e ⊢
      exact e
    · rw [upd_ne h] at e ⊢
      exact g.sh a x e
  hh := fun a x hl e => by rw [upd_ne (ne_of_none (g.hh a x hl e) hp)]; exact g.hh a x hl e
  fr := fun a x e h m => by
    have n : a ≠ p := fun q => by subst q; rw [g.hnone hp] at h; cases h
    rw [upd_ne n]
    exact g.fr a x e h m
  ne := fun a x h => by
    have n : a ≠ p := fun q => by subst q; rw [g.hnone hp] at h; cases h
    rw [upd_ne n]; exact g.ne a x h
theorem Grow.cell (g : Grow L S0 H0 S H) (hp : H p = none) : Grow L S0 H0 S (upd H p o) := g.ext fun a x e => by rw [upd_ne (ne_of_none e hp)]; exact e
/-- a tuple that stands may be kept for good -/
theorem Grow.tup (g : Grow L S0 H0 S H) {ws : List V} (hp : H p = some (.tup ws)) : Grow L S0 H0 (upd S p (.tup ws)) H where
  ss := fun a x e => by
    by_cases h : a = p
    · subst h
      have q := g.sh _ _ (g.ss _ _ e)
      rw [hp] at q; cases q
      exact upd_same
    · rw [upd_ne h]; exact g.ss a x e
  sh := fun a x e => by
    by_cases h : a = p
    · subst h; rw [upd_same] at e; cases e; exact hp
    · rw [upd_ne h] at e; exact g.sh a x e
  hh := g.hh
  fr := fun a x e h m => by
    have n : a ≠ p := fun q => by
      subst q
      obtain ⟨o', h1, h2⟩ := g.ne _ _ h
      rw [hp] at h1; cases h1
      exact absurd (h2 m) Bool.false_ne_true
    rw [upd_ne n]; exact g.fr a x e h m
  ne := g.ne
theorem Grow.wr (g : Grow L S0 H0 S H) (c : Cel L H0 S H l o') (hm : mo o = true) : Grow L S0 H0 S (upd H l o) where
  ss := g.ss
  sh := fun a x e => by
    have n : a ≠ l := fun q => by subst q; rw [c.s] at e; cases e
    rw [upd_ne n]
    exact g.sh a x e
  hh := fun a x hl e => by
    have n : a ≠ l := fun q => by
      subst q
      rcases c.z with z | z
      · rw [z] at e; cases e
      · exact hl z
    rw [upd_ne n]
    exact g.hh a x hl e
  fr := g.fr
  ne := fun a x h => by
    by_cases q : a = l
    · subst q; exact ⟨o, upd_same, fun _ => hm⟩
    · rw [upd_ne q]; exact g.ne a x h
theorem Grow.call (g : Grow L S0 H0 S H) (c : Grow L' S H S' H') (hL : ∀ l ∈ L', H0 l = none ∨ l ∈ L) : Grow L S0 H0 S' H' where
  ss := g.ss.trans c.ss
  sh := c.sh
  hh := fun a x hl e => c.hh a x (fun q => by
    rcases hL a q with z | z
    · rw [z] at e; cases e
    · exact hl z) (g.hh a x hl e)
  fr := fun a x e h m => by
    obtain ⟨o', h1, h2⟩ := g.ne a x h
    exact c.fr a o' (g.fr a x e h m) h1 (h2 m)
  ne := fun a x h => by
    obtain ⟨o', h1, h2⟩ := g.ne a x h
    obtain ⟨o2, h3, h4⟩ := c.ne a o' h1
    exact ⟨o2, h3, fun m => h4 (h2 m)⟩
theorem Grow.call0 (g : Grow L S0 H0 S H) (c : Grow [] S H S' H') : Grow L S0 H0 S' H' := g.call c fun _ q => by cases q
theorem Grow.same0 (c : Grow [] S H S' H') : Same H H' := fun a o e => c.hh a o (fun q => by cases q) e
/-- a cell that is not to change any more -/
theorem Grow.freeze (g : Grow L S0 H0 S H) (c : Cel L H0 S H l o) (hl : H0 l = none) : Grow L S0 H0 (upd S l o) H where
  ss := fun a x e => by
    have q := g.ss a x e
    rw [upd_ne (ne_of_none q c.s)]; exact q
  sh := fun a x e => by
    by_cases h : a = l
    · subst h; rw [upd_same] at e; cases e; exact c.h
    · rw [upd_ne h] at e; exact g.sh a x e
  hh := g.hh
  fr := fun a x e h m => by
    have n : a ≠ l := fun q => by subst q; rw [hl] at h; cases h
    rw [upd_ne n]
    exact g.fr a x e h m
  ne := g.ne
theorem Cel.own (g : Grow L S0 H0 S H) (e : Same H H') (hp : H p = none) (hp' : H' p = some o) (hm : mo o = true) : Cel L H0 S H' p o := ⟨hp', g.snone hp, .inl (g.hnone hp), hm⟩
theorem Cel.ext (c : Cel L H0 S H l o) (e : Same H H') : Cel L H0 S H' l o := ⟨e _ _ c.h, c.s, c.z, c.m⟩
theorem Cel.wr (c : Cel L H0 S H l o) (hm : mo o' = true) : Cel L H0 S (upd H l o') l o' := ⟨upd_same, c.s, c.z, hm⟩
theorem Cel.wrn (c : Cel L H0 S H l o) (n : l ≠ l') : Cel L H0 S (upd H l' o') l o := ⟨by rw [upd_ne n]; exact c.h, c.s, c.z, c.m⟩
theorem Cel.call (c : Cel L H0 S H l o) (g : Grow L' S H S' H') (n : l ∉ L') : Cel L H0 S' H' l o := ⟨g.hh _ _ n c.h, g.fr _ _ c.s c.h c.m, c.z, c.m⟩
theorem Cel.call0 (c : Cel L H0 S H l o) (g : Grow [] S H S' H') : Cel L H0 S' H' l o := c.call g fun q => by cases q
theorem Cel.mut (c : Cel L H0 S H l o) (g : Grow L' S H S' H') (h : H' l = some o') (hm : mo o' = true) : Cel L H0 S' H' l o' := ⟨h, g.fr _ _ c.s c.h c.m, c.z, hm⟩
theorem Cel.freeze (c : Cel L H0 S H l o) (n : l ≠ l') : Cel L H0 (upd S l' o') H l o := ⟨c.h, by rw [upd_ne n]; exact c.s, c.z, c.m⟩
theorem Cel.ne (c : Cel L H0 S H l o) (hp : H p = none) : l ≠ p := ne_of_none c.h hp
theorem Cel.z0 (c : Cel [] H0 S H l o) : H0 l = none := c.z.elim id fun q => by cases q
theorem same_upd {H : Hp} {p : Addr} {o : HO} (h : H p = none) : Same H (upd H p o) := fun b x e => by
  rw [upd_ne (ne_of_none e h)]
  exact e
end
end Z

namespace Z
open PySem PySem.Spec PyProof.Rows L2

/-! ### the mirror's words -/
def lt {α β : Type} (e : α) (k : α → Option β) : Option β := k e
theorem OP.lt {α β : Type} {e : α} {k : α → Option β} {A : β → Prop} (h : OP (Z.lt e k) A) : ∃ x, e = x ∧ OP (k x) A := ⟨e, rfl, h⟩
theorem lt_some {α β : Type} {e : α} {k : α → Option β} {r : β} (h : Z.lt e k = some r) : ∃ x, e = x ∧ k x = some r := ⟨e, rfl, h⟩
theorem OP.cut {α β : Type} {m : Option α} {k : α → Option β} {A : β → Prop} (h : OP (m.bind k) A) : ∃ B : α → Prop, OP m B ∧ ∀ x, B x → OP (k x) A := ⟨_, OP.of h, fun _ z => z⟩
/-- an early answer, or what follows -/
def SE {σ ρ : Type} (B : σ → Prop) (A : ρ → Prop) : σ ⊕ ρ → Prop
  | .inl s => B s
  | .inr v => A v
def brk {σ ρ : Type} (m : Option (σ ⊕ ρ)) (k : σ → Option ρ) : Option ρ := m.bind fun r => match r with
  | .inl s => k s
  | .inr v => some v
theorem OP.brk {σ ρ : Type} {m : Option (σ ⊕ ρ)} {k : σ → Option ρ} {A : ρ → Prop} (h : OP (Z.brk m k) A) : ∃ B : σ → Prop, OP m (SE B A) ∧ ∀ x, B x → OP (k x) A := by
  refine ⟨fun x => OP (k x) A, ?_, fun _ z => z⟩
  cases m with
  | none => exact h.elim
  | some r => cases r with
    | inl s => exact h
    | inr v => exact h
def un2 {α β γ : Type} (f : α → β → γ) (s : α × β) : γ := f s.1 s.2
def un3 {α β γ δ : Type} (f : α → β → γ → δ) (s : α × β × γ) : δ := f s.1 s.2.1 s.2.2
def un4 {α β γ δ ε : Type} (f : α → β → γ → δ → ε) (s : α × β × γ × δ) : ε := f s.1 s.2.1 s.2.2.1 s.2.2.2
def un5 {α β γ δ ε ζ : Type} (f : α → β → γ → δ → ε → ζ) (s : α × β × γ × δ × ε) : ζ := f s.1 s.2.1 s.2.2.1 s.2.2.2.1 s.2.2.2.2
def un6 {α β γ δ ε ζ η : Type} (f : α → β → γ → δ → ε → ζ → η) (s : α × β × γ × δ × ε × ζ) : η := f s.1 s.2.1 s.2.2.1 s.2.2.2.1 s.2.2.2.2.1 s.2.2.2.2.2
def un0 {γ : Type} (f : γ) (_ : Unit) : γ := f
theorem OP.un0 {γ : Type} {f : Option γ} {u : Unit} {A : γ → Prop} (h : OP (Z.un0 f u) A) : OP f A := h
theorem OP.un2 {α β γ : Type} {f : α → β → Option γ} {a : α} {b : β} {A : γ → Prop} (h : OP (Z.un2 f (a, b)) A) : OP (f a b) A := h
theorem OP.un3 {α β γ δ : Type} {f : α → β → γ → Option δ} {a : α} {b : β} {c : γ} {A : δ → Prop} (h : OP (Z.un3 f (a, b, c)) A) : OP (f a b c) A := h
theorem OP.un4 {α β γ δ ε : Type} {f : α → β → γ → δ → Option ε} {a : α} {b : β} {c : γ} {d : δ} {A : ε → Prop} (h : OP (Z.un4 f (a, b, c, d)) A) : OP (f a b c d) A := h
theorem OP.un5 {α β γ δ ε ζ : Type} {f : α → β → γ → δ → ε → Option ζ} {a : α} {b : β} {c : γ} {d : δ} {e : ε} {A : ζ → Prop} (h : OP (Z.un5 f (a, b, c, d, e)) A) : OP (f a b c d e) A := h
theorem OP.un6 {α β γ δ ε ζ η : Type} {f : α → β → γ → δ → ε → ζ → Option η} {a : α} {b : β} {c : γ} {d : δ} {e : ε} {z : ζ} {A : η → Prop} (h : OP (Z.un6 f (a, b, c, d, e, z)) A) : OP (f a b c d e z) A := h
theorem OP.ite1 {α : Type} {c : Bool} {m n : Option α} {A : α → Prop} (hc : c = true) (h : OP (ifo c m n) A) : OP m A := by rw [ifo_t hc] at h; exact h
theorem OP.ite0 {α : Type} {c : Bool} {m n : Option α} {A : α → Prop} (hc : c = false) (h : OP (ifo c m n) A) : OP n A := by rw [ifo_f hc] at h; exact h
theorem OP.forO {α σ : Type} {body : α → σ → Option σ} {x : α} {xs : List α} {s : σ} {A : σ → Prop} (h : OP (Z.forO body (x :: xs) s) A) : OP (body x s) (fun s' => OP (Z.forO body xs s') A) := by
  rw [forO_cons] at h
  exact OP.of h
theorem OP.forO_nil {α σ : Type} {body : α → σ → Option σ} {s : σ} {A : σ → Prop} (h : OP (Z.forO body [] s) A) : A s := by
  rw [Z.forO_nil] at h
  exact h
theorem OP.forR {α σ ρ : Type} {body : α → σ → Option (σ ⊕ ρ)} {x : α} {xs : List α} {s : σ} {B : σ → Prop} {A : ρ → Prop} (h : OP (Z.forR body (x :: xs) s) (SE B A)) : OP (body x s) (SE (fun s' => OP (Z.forR body xs s') (SE B A)) A) := by
  rw [forR_cons] at h
  have q := OP.of h
  cases e : body x s with
  | none => rw [e] at q; exact q.elim
  | some r =>
    rw [e] at q
    cases r with
    | inl s' => exact q
    | inr v => exact q
theorem OP.forR_nil {α σ ρ : Type} {body : α → σ → Option (σ ⊕ ρ)} {s : σ} {B : σ → Prop} {A : ρ → Prop} (h : OP (Z.forR body [] s) (SE B A)) : B s := by
  rw [Z.forR_nil] at h
  exact h
theorem OP.whileO {σ : Type} {c : σ → Option Bool} {body : σ → Option σ} {n : Nat} {s : σ} {A : σ → Prop} (h : OP (Z.whileO c body n s) A) :
    ∃ n', n = n' + 1 ∧ OP (c s) (fun b => if b = true then OP (body s) (fun s' => OP (Z.whileO c body n' s') A) else A s) := by
  cases n with
  | zero => rw [whileO_zero] at h; exact h.elim
  | succ n' =>
    refine ⟨n', rfl, ?_⟩
    rw [whileO_succ] at h
    have q := OP.of h
    refine q.mono fun b z => ?_
    cases b with
    | true => exact OP.of z
    | false => exact z
theorem OP.whileR {σ ρ : Type} {c : σ → Option Bool} {body : σ → Option (σ ⊕ ρ)} {n : Nat} {s : σ} {B : σ → Prop} {A : ρ → Prop} (h : OP (Z.whileR c body n s) (SE B A)) :
    ∃ n', n = n' + 1 ∧ OP (c s) (fun b => if b = true then OP (body s) (SE (fun s' => OP (Z.whileR c body n' s') (SE B A)) A) else B s) := by
  cases n with
  | zero => rw [whileR_zero] at h; exact h.elim
  | succ n' =>
    refine ⟨n', rfl, ?_⟩
    rw [whileR_succ] at h
    have q := OP.of h
    refine q.mono fun b z => ?_
    cases b with
    | true =>
      have z' := OP.of z
      show OP (body s) _
      refine z'.mono fun r y => ?_
      cases r with
      | inl s' => exact y
      | inr v => exact y
    | false => exact z
@[irreducible] def bigN : Nat := 1000000
theorem bigN_eq : bigN = 1000000 := by unfold bigN; rfl

/-! ### ints -/
abbrev shl (i j : Int) : Int := i * 2 ^ j.toNat
abbrev shr (i j : Int) : Int := i / 2 ^ j.toNat
abbrev band (i j : Int) : Int := Builtin.bitAnd i j
abbrev bor (i j : Int) : Int := Builtin.bitOr i j
abbrev bxor (i j : Int) : Int := Builtin.bitXor i j
abbrev bnot (i : Int) : Int := Builtin.bitNot i
def blen (i : Int) : Int := ((Builtin.Int.intBits i : Nat) : Int)

/-! ### values of expressions that leave the heap as it is -/
section
variable {K : PySem.W.Frag} {σ σ' : L2.St} {H : Hp} {ta tb te : TE} {t u : TT} {x y z v : V} {i j : Int} {b c : Bool}
theorem v_eq {v w : V} (h : Val te σ H v) (e : v = w) : Val te σ H w := e ▸ h
theorem v_o2 {g : Int → Int → V} (ha : Val ta σ H (.int i)) (hb : Val tb σ H (.int j)) : Val (tOp (rI0 g) ta tb) σ H (g i j) := fun Q q => ha _ (hb _ ⟨i, j, rfl, rfl, q⟩)
theorem v_o2c {C : Int → Int → Prop} {g : Int → Int → V} (ha : Val ta σ H (.int i)) (hb : Val tb σ H (.int j)) (hc : C i j) : Val (tOp (rI C g) ta tb) σ H (g i j) := fun Q q => ha _ (hb _ ⟨i, j, rfl, rfl, hc, q⟩)
theorem v_u {g : Int → V} (ha : Val ta σ H (.int i)) : Val (tUn (rU g) ta) σ H (g i) := fun Q q => ha _ ⟨i, rfl, q⟩
theorem dec_int : decide (V.int i = V.int j) = decide (i = j) := decide_eq_decide.mpr ⟨V.int.inj, fun e => by rw [e]⟩
theorem dec_str {s t : Str} : decide (V.str s = V.str t) = decide (s = t) := decide_eq_decide.mpr ⟨V.str.inj, fun e => by rw [e]⟩
theorem dec_bl : decide (V.bl b = V.bl c) = decide (b = c) := decide_eq_decide.mpr ⟨V.bl.inj, fun e => by rw [e]⟩
theorem v_eqI (ha : Val ta σ H (.int i)) (hb : Val tb σ H (.int j)) : Val (tOp rEq ta tb) σ H (.bl (decide (i = j))) := fun Q q => ha _ (hb _ ⟨rfl, by rw [dec_int]; exact q⟩)
theorem v_neI (ha : Val ta σ H (.int i)) (hb : Val tb σ H (.int j)) : Val (tOp rNe ta tb) σ H (.bl (!decide (i = j))) := fun Q q => ha _ (hb _ ⟨rfl, by rw [dec_int]; exact q⟩)
theorem v_eqS {s t : Str} (ha : Val ta σ H (.str s)) (hb : Val tb σ H (.str t)) : Val (tOp rEq ta tb) σ H (.bl (decide (s = t))) := fun Q q => ha _ (hb _ ⟨rfl, by rw [dec_str]; exact q⟩)
theorem v_neS {s t : Str} (ha : Val ta σ H (.str s)) (hb : Val tb σ H (.str t)) : Val (tOp rNe ta tb) σ H (.bl (!decide (s = t))) := fun Q q => ha _ (hb _ ⟨rfl, by rw [dec_str]; exact q⟩)
theorem v_eqB (ha : Val ta σ H (.bl b)) (hb : Val tb σ H (.bl c)) : Val (tOp rEq ta tb) σ H (.bl (decide (b = c))) := fun Q q => ha _ (hb _ ⟨rfl, by rw [dec_bl]; exact q⟩)
theorem v_neB (ha : Val ta σ H (.bl b)) (hb : Val tb σ H (.bl c)) : Val (tOp rNe ta tb) σ H (.bl (!decide (b = c))) := fun Q q => ha _ (hb _ ⟨rfl, by rw [dec_bl]; exact q⟩)
theorem v_test (h : Val te σ H (.bl b)) : Ans (tTest te) σ H b := fun Q q => h _ ⟨b, rfl, q⟩
theorem v_B (h : Val te σ H (.bl b)) : Ans (tB te) σ H b := fun Q q => h _ ⟨b, rfl, q⟩
theorem a_eq (h : Ans t σ H b) (e : b = c) : Ans t σ H c := e ▸ h
theorem a_not (h : Ans t σ H b) : Ans (tNot t) σ H (!b) := fun Q q => h _ q
theorem a_and (h1 : Ans t σ H b) (h2 : Ans u σ H c) : Ans (tAnd t u) σ H (b && c) := fun Q q => h1 _ (by
  cases b with
  | true => exact (show (if true = true then u σ H Q else Q false H) from h2 _ q)
  | false => exact (show (if false = true then u σ H Q else Q false H) from q))
theorem a_or (h1 : Ans t σ H b) (h2 : Ans u σ H c) : Ans (tOr t u) σ H (b || c) := fun Q q => h1 _ (by
  cases b with
  | true => exact (show (if true = true then Q true H else u σ H Q) from q)
  | false => exact (show (if false = true then Q true H else u σ H Q) from h2 _ q))
theorem a_andP {m : Option Bool} (h1 : Ans t σ H b) (hm : ifo b m (some false) = some c) (h2 : b = true → m = some c → Ans u σ H c) : Ans (tAnd t u) σ H c := fun Q q => h1 _ (by
  cases b with
  | true => exact (show (if true = true then u σ H Q else Q false H) from h2 rfl (by first | (rw [ifo_t rfl] at hm; exact hm) | (rw [ifo_f rfl] at hm; exact hm)) _ q)
  | false =>
    have e : false = c := by rw [ifo_f rfl] at hm; exact Option.some.inj hm
    subst e
    exact (show (if false = true then u σ H Q else Q false H) from q))
theorem a_orP {m : Option Bool} (h1 : Ans t σ H b) (hm : ifo b (some true) m = some c) (h2 : b = false → m = some c → Ans u σ H c) : Ans (tOr t u) σ H c := fun Q q => h1 _ (by
  cases b with
  | true =>
    have e : true = c := by rw [ifo_t rfl] at hm; exact Option.some.inj hm
    subst e
    exact (show (if true = true then Q true H else u σ H Q) from q)
  | false => exact (show (if false = true then Q true H else u σ H Q) from h2 rfl (by first | (rw [ifo_t rfl] at hm; exact hm) | (rw [ifo_f rfl] at hm; exact hm)) _ q))
theorem v_and (h1 : Val ta σ H (.bl b)) (h2 : Val tb σ H (.bl c)) : Val (tAndV ta tb) σ H (.bl (b && c)) := fun Q q => h1 _ ⟨b, rfl, by
  cases b with
  | true => exact (show (if true = true then tb σ H Q else Q (.bl false) H) from h2 _ q)
  | false => exact (show (if false = true then tb σ H Q else Q (.bl false) H) from q)⟩
theorem v_or (h1 : Val ta σ H (.bl b)) (h2 : Val tb σ H (.bl c)) : Val (tOrV ta tb) σ H (.bl (b || c)) := fun Q q => h1 _ ⟨b, rfl, by
  cases b with
  | true => exact (show (if true = true then Q (.bl true) H else tb σ H Q) from q)
  | false => exact (show (if false = true then Q (.bl true) H else tb σ H Q) from h2 _ q)⟩
theorem v_not (h : Val ta σ H (.bl b)) : Val (tNotV ta) σ H (.bl (!b)) := fun Q q => h _ ⟨b, rfl, q⟩
theorem v_andP {m : Option Bool} (h1 : Val ta σ H (.bl b)) (hm : ifo b m (some false) = some c) (h2 : b = true → m = some c → Val tb σ H (.bl c)) : Val (tAndV ta tb) σ H (.bl c) := fun Q q => h1 _ ⟨b, rfl, by
  cases b with
  | true => exact (show (if true = true then tb σ H Q else Q (.bl false) H) from h2 rfl (by first | (rw [ifo_t rfl] at hm; exact hm) | (rw [ifo_f rfl] at hm; exact hm)) _ q)
  | false =>
    have e : false = c := by rw [ifo_f rfl] at hm; exact Option.some.inj hm
    subst e
    exact (show (if false = true then tb σ H Q else Q (.bl false) H) from q)⟩
theorem v_orP {m : Option Bool} (h1 : Val ta σ H (.bl b)) (hm : ifo b (some true) m = some c) (h2 : b = false → m = some c → Val tb σ H (.bl c)) : Val (tOrV ta tb) σ H (.bl c) := fun Q q => h1 _ ⟨b, rfl, by
  cases b with
  | true =>
    have e : true = c := by rw [ifo_t rfl] at hm; exact Option.some.inj hm
    subst e
    exact (show (if true = true then Q (.bl true) H else tb σ H Q) from q)
  | false => exact (show (if false = true then Q (.bl true) H else tb σ H Q) from h2 rfl (by first | (rw [ifo_t rfl] at hm; exact hm) | (rw [ifo_f rfl] at hm; exact hm)) _ q)⟩
/-- t[0], t[1] of a pair, xs[i] -/
theorem v_t20 {β : Type} {υ : Rep K β} {p : Int × β} (ha : Val ta σ H v) (hb : Val tb σ H (.int 0)) (hr : (qT2 qI υ).R H v p) : Val (tOp (rIxT K) ta tb) σ H (.int p.1) := by
  obtain ⟨a, w1, w2, rfl, h2, h3, _⟩ := hr
  cases (show w1 = .int p.1 from h3)
  exact fun Q q => ha _ (hb _ ⟨a, _, 0, _, rfl, rfl, SqT.of h2, rfl, q⟩)
theorem v_t21 {α : Type} {τ : Rep K α} {p : α × Int} (ha : Val ta σ H v) (hb : Val tb σ H (.int 1)) (hr : (qT2 τ qI).R H v p) : Val (tOp (rIxT K) ta tb) σ H (.int p.2) := by
  obtain ⟨a, w1, w2, rfl, h2, _, h3⟩ := hr
  cases (show w2 = .int p.2 from h3)
  exact fun Q q => ha _ (hb _ ⟨a, _, 1, _, rfl, rfl, SqT.of h2, rfl, q⟩)
theorem atI_get {α β : Type} {R : α → β → Prop} {ws : List α} {xs : List β} {k : Int} {x : β} (hl : ws.length = xs.length) (hg : ∀ (j : Nat), xs[j]? = some x → ∃ w, ws[j]? = some w ∧ R w x) (h : atI xs k = some x) : ∃ w, atI ws k = some w ∧ R w x := by
  unfold atI at h ⊢
  rw [hl]
  cases e : ixN xs.length k with
  | none => rw [e] at h; cases h
  | some j => rw [e] at h; exact hg j h
theorem RL.at {α : Type} {τ : Rep K α} {ws : List V} {xs : List α} {k : Int} {x : α} (r : RL τ H ws xs) (h : atI xs k = some x) : ∃ w, atI ws k = some w ∧ τ.R H w x := atI_get r.length (fun _ e => r.get e) h
theorem v_ixq {α : Type} {τ : Rep K α} {xs : List α} {q : α} (ha : Val ta σ H v) (hb : Val tb σ H (.int i)) (hr : (qQ τ).R H v xs) (hx : atI xs i = some q) : ∃ w, Val (tOp (rIxL K) ta tb) σ H w ∧ τ.R H w q := by
  obtain ⟨a, ws, rfl, h2, h3⟩ := hr
  obtain ⟨w, e, r⟩ := h3.at hx
  exact ⟨w, fun Q z => ha _ (hb _ ⟨a, ws, i, w, rfl, rfl, h2, e, z⟩), r⟩
theorem v_ixI {xs : List Int} {q : Int} (ha : Val ta σ H v) (hb : Val tb σ H (.int i)) (hr : (qQ (K := K) qI).R H v xs) (hx : atI xs i = some q) : Val (tOp (rIxL K) ta tb) σ H (.int q) := by
  obtain ⟨w, h, r⟩ := v_ixq ha hb hr hx
  cases (show w = .int q from r)
  exact h
theorem v_ixB {xs : List Bool} {q : Bool} (ha : Val ta σ H v) (hb : Val tb σ H (.int i)) (hr : (qQ (K := K) qB).R H v xs) (hx : atI xs i = some q) : Val (tOp (rIxL K) ta tb) σ H (.bl q) := by
  obtain ⟨w, h, r⟩ := v_ixq ha hb hr hx
  cases (show w = .bl q from r)
  exact h
theorem v_ixS {xs : List Str} {q : Str} (ha : Val ta σ H v) (hb : Val tb σ H (.int i)) (hr : (qQ (K := K) qS).R H v xs) (hx : atI xs i = some q) : Val (tOp (rIxL K) ta tb) σ H (.str q) := by
  obtain ⟨w, h, r⟩ := v_ixq ha hb hr hx
  cases (show w = .str q from r)
  exact h
/-- what a list's length, a tuple's length tells -/
def rLenS (K : PySem.W.Frag) : List V → Hp → VK → Prop := fun xs H Q => ∃ p ys, xs = [.ref p] ∧ (SqL K H p ys ∨ SqT K H p ys) ∧ Q (.int ys.length) H
theorem v_len {α : Type} {τ : Rep K α} {xs : List α} (ha : Val ta σ H v) (hr : (qQ τ).R H v xs) : Val (tCB (rLenS K) (tCons ta tNil)) σ H (.int (xs.length : Int)) := by
  obtain ⟨a, ws, rfl, h2, h3⟩ := hr
  rw [← h3.length]
  exact fun Q q => ha _ ⟨a, ws, rfl, .inl h2, q⟩
theorem v_lenT2 {α β : Type} {τ : Rep K α} {υ : Rep K β} {p : α × β} (ha : Val ta σ H v) (hr : (qT2 τ υ).R H v p) : Val (tCB (rLenS K) (tCons ta tNil)) σ H (.int 2) := by
  obtain ⟨a, w1, w2, rfl, h2, _⟩ := hr
  exact fun Q q => ha _ ⟨a, _, rfl, .inr (SqT.of h2), q⟩
theorem v_isi {T n : String} {k : Bool} (ha : Val ta σ H x) (ty : TyX K H x (.type T)) (hk : kitB T n = some k) : Val (tCB (rIsi K) (tCons ta (tCons (tC (.ty n)) tNil))) σ H (.bl k) := fun Q q => ha _ ⟨x, .ty n, _, _, k, rfl, .ty n, ty, kit_ty hk, q⟩
theorem ty_int : TyX K H (.int i) (.type "int") := .base (.int i)
theorem ty_bl : TyX K H (.bl b) (.type "bool") := .base (.bl b)
theorem ty_str {s : Str} : TyX K H (.str s) (.type "str") := .base (.str s)
theorem ty_non : TyX K H .non (.type "NoneType") := .base .non
theorem ty_t2 {α β : Type} {τ : Rep K α} {υ : Rep K β} {p : α × β} (hr : (qT2 τ υ).R H v p) : TyX K H v (.type "tuple") := by
  obtain ⟨a, w1, w2, rfl, h2, _⟩ := hr
  exact .base (.tup h2)
theorem ty_t3 {α β γ : Type} {τ : Rep K α} {υ : Rep K β} {φ : Rep K γ} {p : α × β × γ} (hr : (qT3 τ υ φ).R H v p) : TyX K H v (.type "tuple") := by
  obtain ⟨a, w1, w2, w3, rfl, h2, _⟩ := hr
  exact .base (.tup h2)
theorem ty_l {α : Type} {τ : Rep K α} {xs : List α} (hr : (qL τ).R H v xs) : TyX K H v (.type "list") := by
  obtain ⟨a, ws, rfl, h2, _⟩ := hr
  exact .base (.lst h2)
/-- arguments -/
def VA (ta : TA) (σ : L2.St) (H : Hp) (vs : List V) : Prop := ∀ Q : List V → Hp → Prop, Q vs H → ta σ H Q
theorem va_nil : VA tNil σ H [] := fun _ q => q
theorem va_cons {tr : TA} {vs : List V} (ha : Val ta σ H x) (hr : VA tr σ H vs) : VA (tCons ta tr) σ H (x :: vs) := fun _ q => ha _ (hr _ q)
theorem v_call {sp : Sp} {dvs vs : List V} {E : XK} {tr : TA} (ha : VA tr σ H vs) (hs : ∀ Q : VK, Q z H → sp (vs ++ dvs) H Q E) : Val (tCall sp dvs E tr) σ H z := fun Q q => ha _ (hs Q q)
theorem v_cb {r : List V → Hp → VK → Prop} {vs : List V} {tr : TA} (ha : VA tr σ H vs) (hs : ∀ Q : VK, Q z H → r vs H Q) : Val (tCB r tr) σ H z := fun Q q => ha _ (hs Q q)
theorem v_bits (ha : Val ta σ H (.int i)) : Val (tBits ta) σ H (.int (blen i)) := fun Q q => ha _ ⟨i, rfl, q⟩
theorem v_isN (ha : Val ta σ H x) (e : decide (x = .non) = b) : Val (tOp rIsN ta (tC .non)) σ H (.bl b) := fun Q q => ha _ ⟨rfl, by rw [e]; exact q⟩
theorem v_notN (ha : Val ta σ H x) (e : (!decide (x = .non)) = b) : Val (tOp rNotN ta (tC .non)) σ H (.bl b) := fun Q q => ha _ ⟨rfl, by rw [e]; exact q⟩
theorem opt_dec {α : Type} {τ : Rep K α} {o : Option α} (hr : (qOpt τ).R H v o) : decide (v = .non) = o.isNone := by
  cases o with
  | none => exact decide_eq_true hr
  | some y => exact decide_eq_false hr.1
theorem opt_decN {α : Type} {τ : Rep K α} {o : Option α} (hr : (qOpt τ).R H v o) : (!decide (v = .non)) = o.isSome := by
  rw [opt_dec hr]
  cases o <;> rfl
theorem opt_get {α : Type} {τ : Rep K α} {o : Option α} {y : α} (hr : (qOpt τ).R H v o) (e : o = some y) : τ.R H v y := by
  subst e
  exact hr.2

/-! ### statements -/
variable {D : Ends} {t1 t2 ts tu : TS} {w : V} {k n : Nat}
theorem z_next (q : D.nx σ H) : tNext D σ H := q
theorem z_set (hv : Val te σ H v) (he : v = w) (hs : σ.set k (some w) = σ') (q : tu D σ' H) : tSeq (tAsg te (gName k)) tu D σ H := hv _ (by
  subst he; subst hs
  exact q)
theorem z_aug {ti : TIp} (hx : σ[k]? = some (some x)) (hv : Val te σ H y) (hr : ∀ Q : VK, Q v H → ti x y H Q) (he : v = w) (hs : σ.set k (some w) = σ') (q : tu D σ' H) : tSeq (tAug k te ti) tu D σ H := by
  subst he; subst hs
  exact ⟨x, hx, hv _ (hr _ q)⟩
theorem z_augI {g : Int → Int → V} (hx : σ[k]? = some (some (.int i))) (hv : Val te σ H (.int j)) (he : g i j = w) (hs : σ.set k (some w) = σ') (q : tu D σ' H) : tSeq (tAug k te (rI0 g)) tu D σ H :=
  z_aug hx hv (fun _ q => ⟨i, j, rfl, rfl, q⟩) he hs q
theorem z_augC {C : Int → Int → Prop} {g : Int → Int → V} (hx : σ[k]? = some (some (.int i))) (hv : Val te σ H (.int j)) (hc : C i j) (he : g i j = w) (hs : σ.set k (some w) = σ') (q : tu D σ' H) : tSeq (tAug k te (rI C g)) tu D σ H :=
  z_aug hx hv (fun _ q => ⟨i, j, rfl, rfl, hc, q⟩) he hs q
theorem z_ret (hv : Val te σ H v) (q : D.rt v H) : tSeq (tRet te) tu D σ H := hv _ q
theorem z_if {c : Bool} {tc : TT} (hc : Ans tc σ H c) (h1 : c = true → t1 { D with nx := tu D } σ H) (h2 : c = false → t2 { D with nx := tu D } σ H) : tSeq (tIfS tc t1 t2) tu D σ H := hc _ (by
  cases c with
  | true => exact (show (if true = true then t1 { D with nx := tu D } σ H else t2 { D with nx := tu D } σ H) from h1 rfl)
  | false => exact (show (if false = true then t1 { D with nx := tu D } σ H else t2 { D with nx := tu D } σ H) from h2 rfl))
theorem z_ifj {c : Bool} {tc : TT} (P : L2.St → Hp → Prop) (hc : Ans tc σ H c) (hP : ∀ σ' H', P σ' H' → tu D σ' H')
    (h1 : c = true → ∀ N : L2.St → Hp → Prop, (∀ σ' H', P σ' H' → N σ' H') → t1 { D with nx := N } σ H) (h2 : c = false → ∀ N : L2.St → Hp → Prop, (∀ σ' H', P σ' H' → N σ' H') → t2 { D with nx := N } σ H) : tSeq (tIfS tc t1 t2) tu D σ H :=
  z_if hc (fun e => h1 e _ hP) (fun e => h2 e _ hP)
theorem rangeI_zero {lo : Int} : rangeI lo 0 = [] := rfl
theorem rangeI_succ {lo : Int} {n : Nat} : rangeI lo (n + 1) = lo :: rangeI (lo + 1) n := by
  unfold rangeI
  rw [List.range_succ_eq_map, List.map_cons, List.map_map]
  congr 1
  · exact Int.add_zero lo
  · refine List.map_congr_left fun a _ => ?_
    show lo + ((a + 1 : Nat) : Int) = lo + 1 + (a : Int)
    omega
/-- the turns over a range, by what is left -/
theorem turns_range {lo : Int} {n : Nat} {g : TG} {tb : TS} (Pv : List Int → L2.St → Hp → Prop) (h0 : Pv (rangeI lo n) σ H)
    (hs : ∀ x xs σ' H', Pv (x :: xs) σ' H' → ∀ N : L2.St → Hp → Prop, (∀ σ'' H'', Pv xs σ'' H'' → N σ'' H'') → g (.int x) σ' H' fun σ2 H2 => tb { D with nx := N, ct := N, bk := D.nx } σ2 H2) (hd : ∀ σ' H', Pv [] σ' H' → D.nx σ' H') :
    ∃ W : Nat → Nat → L2.St → Hp → Prop, (∃ m, W 0 m σ H) ∧ ∀ i m σ H, W i m σ H →
      ((Itr lo n).stop i H ∧ D.nx σ H) ∨ ((Itr lo n).go i H ∧ ∃ N : L2.St → Hp → Prop, (∀ σ' H', N σ' H' → ∃ m', m' < m ∧ W (i + 1) m' σ' H') ∧ ∀ x H', (Itr lo n).yld i H x H' → g x σ H' fun σ2 H2 => tb { D with nx := N, ct := N, bk := D.nx } σ2 H2) := by
  refine for_range (fun i σ H => i ≤ n ∧ Pv (rangeI (lo + (i : Int)) (n - i)) σ H) ⟨Nat.zero_le _, by
    rw [show lo + ((0 : Nat) : Int) = lo from Int.add_zero lo]; exact h0⟩ (fun i σ' H' hi p => ?_) (fun σ' H' p => hd _ _ (by
    have q := p.2
    rw [Nat.sub_self] at q
    exact q))
  have e : n - i = (n - (i + 1)) + 1 := by omega
  have q := p.2
  rw [e, rangeI_succ] at q
  refine hs _ _ σ' H' q _ fun σ'' H'' r => ⟨hi, ?_⟩
  rw [show lo + ((i + 1 : Nat) : Int) = lo + (i : Int) + 1 by omega]
  exact r
theorem z_for1 {ta : TA} {g : TG} {tb : TS} {j : Int} (ha : VA ta σ H [.int j]) (hj : -(2 ^ 62) ≤ j ∧ j < 2 ^ 62) (Pv : List Int → L2.St → Hp → Prop) (h0 : Pv (rangeI 0 j.toNat) σ H)
    (hs : ∀ x xs σ' H', Pv (x :: xs) σ' H' → ∀ N : L2.St → Hp → Prop, (∀ σ'' H'', Pv xs σ'' H'' → N σ'' H'') → g (.int x) σ' H' fun σ2 H2 => tb { D with nx := N, ct := N, bk := tu D } σ2 H2) (hd : ∀ σ' H', Pv [] σ' H' → tu D σ' H') :
    tSeq (tFor (iRng1 ta) g tb) tu D σ H := ha _ ⟨j, rfl, hj.1, hj.2, turns_range (D := { D with nx := tu D }) Pv h0 hs hd⟩
theorem z_for2 {ta : TA} {g : TG} {tb : TS} {i j : Int} (ha : VA ta σ H [.int i, .int j]) (hj : -(2 ^ 62) ≤ i ∧ i < 2 ^ 62 ∧ -(2 ^ 62) ≤ j ∧ j < 2 ^ 62) (Pv : List Int → L2.St → Hp → Prop) (h0 : Pv (rangeI i (j - i).toNat) σ H)
    (hs : ∀ x xs σ' H', Pv (x :: xs) σ' H' → ∀ N : L2.St → Hp → Prop, (∀ σ'' H'', Pv xs σ'' H'' → N σ'' H'') → g (.int x) σ' H' fun σ2 H2 => tb { D with nx := N, ct := N, bk := tu D } σ2 H2) (hd : ∀ σ' H', Pv [] σ' H' → tu D σ' H') :
    tSeq (tFor (iRng2 ta) g tb) tu D σ H := ha _ ⟨i, j, rfl, hj, turns_range (D := { D with nx := tu D }) Pv h0 hs hd⟩
/-- the turns over a list that stands, by what is left -/
theorem turns_list {α : Type} {R : V → α → Prop} {a : Addr} {ws : List V} {xs : List α} {g : TG} {tb : TS} (hp : Paired R ws xs) (Pv : List α → L2.St → Hp → Prop) (h0 : Pv xs σ H) (hl : ∀ ys σ' H', Pv ys σ' H' → SqL K H' a ws)
    (hs : ∀ w y ys σ' H', R w y → Pv (y :: ys) σ' H' → ∀ N : L2.St → Hp → Prop, (∀ σ'' H'', Pv ys σ'' H'' → N σ'' H'') → g w σ' H' fun σ2 H2 => tb { D with nx := N, ct := N, bk := D.nx } σ2 H2) (hd : ∀ σ' H', Pv [] σ' H' → D.nx σ' H') :
    ∃ W : Nat → Nat → L2.St → Hp → Prop, (∃ m, W 0 m σ H) ∧ ∀ i m σ H, W i m σ H →
      ((Itl K a).stop i H ∧ D.nx σ H) ∨ ((Itl K a).go i H ∧ ∃ N : L2.St → Hp → Prop, (∀ σ' H', N σ' H' → ∃ m', m' < m ∧ W (i + 1) m' σ' H') ∧ ∀ x H', (Itl K a).yld i H x H' → g x σ H' fun σ2 H2 => tb { D with nx := N, ct := N, bk := D.nx } σ2 H2) := by
  have hlen := Paired.length hp
  refine for_list (K := K) (a := a) (xs := ws) (fun i σ H => i ≤ ws.length ∧ ∃ ys, Paired R (ws.drop i) ys ∧ Pv ys σ H) ⟨Nat.zero_le _, xs, hp, h0⟩ (fun i σ' H' _ p => ?_) (fun i x σ' H' hx p => ?_) (fun σ' H' p => ?_)
  · obtain ⟨_, ys, _, q⟩ := p
    exact hl _ _ _ q
  · obtain ⟨_, ys, r, q⟩ := p
    have hi : i < ws.length := (List.getElem?_eq_some_iff.mp hx).1
    have e : ws.drop i = x :: ws.drop (i + 1) := by
      rw [List.drop_eq_getElem_cons hi]
      rw [(List.getElem?_eq_some_iff.mp hx).2]
    rw [e] at r
    cases r with
    | cons a b => exact hs _ _ _ σ' H' a q _ fun σ'' H'' z => ⟨hi, _, b, z⟩
  · obtain ⟨_, ys, r, q⟩ := p
    rw [List.drop_length] at r
    cases r
    exact hd _ _ q
theorem z_forL {α : Type} {R : V → α → Prop} {a : Addr} {ws : List V} {xs : List α} {tl : TE} {g : TG} {tb : TS} (ha : Val tl σ H (.ref a)) (hp : Paired R ws xs) (Pv : List α → L2.St → Hp → Prop) (h0 : Pv xs σ H) (hl : ∀ ys σ' H', Pv ys σ' H' → SqL K H' a ws)
    (hs : ∀ w y ys σ' H', R w y → Pv (y :: ys) σ' H' → ∀ N : L2.St → Hp → Prop, (∀ σ'' H'', Pv ys σ'' H'' → N σ'' H'') → g w σ' H' fun σ2 H2 => tb { D with nx := N, ct := N, bk := tu D } σ2 H2) (hd : ∀ σ' H', Pv [] σ' H' → tu D σ' H') :
    tSeq (tFor (iList K tl) g tb) tu D σ H := ha _ ⟨a, rfl, ⟨ws, hl _ _ _ h0⟩, turns_list (D := { D with nx := tu D }) hp Pv h0 hl hs hd⟩
theorem g_name {q : L2.St → Hp → Prop} (hs : σ.set k (some v) = σ') (h : q σ' H) : gName k v σ H q := by
  subst hs
  exact h
/-- a while with a test that leaves the heap as it is -/
theorem z_while {tc : TT} {tb : TS} {n0 : Nat} (Pv : Nat → L2.St → Hp → Prop) (h0 : Pv n0 σ H)
    (hs : ∀ n σ' H', Pv n σ' H' → ∃ b, Ans tc σ' H' b ∧ (b = true → ∃ n', n = n' + 1 ∧ ∀ N : L2.St → Hp → Prop, (∀ σ'' H'', Pv n' σ'' H'' → N σ'' H'') → tb { D with nx := N, ct := N, bk := tu D } σ' H') ∧ (b = false → tu D σ' H')) :
    tSeq (tWhile tc tb) tu D σ H := by
  refine ⟨Pv, ⟨n0, h0⟩, fun m σ' H' w => ?_⟩
  obtain ⟨b, hb, h1, h2⟩ := hs m σ' H' w
  refine hb _ ?_
  cases b with
  | true =>
    obtain ⟨n', e, h⟩ := h1 rfl
    exact (show (if true = true then _ else _) from ⟨Pv n', fun σ'' H'' p => ⟨n', by omega, p⟩, h _ fun _ _ z => z⟩)
  | false => exact (show (if false = true then _ else _) from h2 rfl)
end
/-! ### facts of the builtins' table -/
theorem bt_int : bootBuiltins "int" = some (.type "int") := by decide +kernel
theorem bt_bool : bootBuiltins "bool" = some (.type "bool") := by decide +kernel
theorem bt_str : bootBuiltins "str" = some (.type "str") := by decide +kernel
theorem bt_list : bootBuiltins "list" = some (.type "list") := by decide +kernel
theorem bt_tuple : bootBuiltins "tuple" = some (.type "tuple") := by decide +kernel
theorem bt_isinstance : bootBuiltins "isinstance" = some (.builtin "isinstance") := by decide +kernel
theorem bt_len : bootBuiltins "len" = some (.builtin "len") := by decide +kernel
end Z

namespace Z
open PySem PySem.Spec PyProof.Rows L2

theorem OP.nameO {α σ : Type} {f : α → σ → Option σ} {xs : List α} {s : σ} {A : σ → Prop} (h : OP (Z.forO f xs s) A) : ∃ F, F = f ∧ OP (Z.forO F xs s) A := ⟨f, rfl, h⟩
theorem OP.nameR {α σ ρ : Type} {f : α → σ → Option (σ ⊕ ρ)} {xs : List α} {s : σ} {A : σ ⊕ ρ → Prop} (h : OP (Z.forR f xs s) A) : ∃ F, F = f ∧ OP (Z.forR F xs s) A := ⟨f, rfl, h⟩
theorem OP.fcall2 {α σ τ : Type} {F f : α → σ → Option τ} {x : α} {s : σ} {A : τ → Prop} (e : F = f) (h : OP (F x s) A) : OP (f x s) A := e ▸ h
theorem OP.fcall1 {σ τ : Type} {F f : σ → Option τ} {s : σ} {A : τ → Prop} (e : F = f) (h : OP (F s) A) : OP (f s) A := e ▸ h
def gMul (i j : Int) : Prop := (-(2 ^ 64) < i ∧ i < 2 ^ 64) ∨ (-(2 ^ 64) < j ∧ j < 2 ^ 64)
def gDiv (j : Int) : Prop := 0 < j ∧ j < 1073741824
def gPow (i j : Int) : Prop := 0 ≤ j ∧ j ≤ 1000000 ∧ i.natAbs < 2 ^ 64
def gR (j : Int) : Prop := -(2 ^ 62) ≤ j ∧ j < 2 ^ 62
def gR2 (i j : Int) : Prop := -(2 ^ 62) ≤ i ∧ i < 2 ^ 62 ∧ -(2 ^ 62) ≤ j ∧ j < 2 ^ 62
instance (i j : Int) : Decidable (gMul i j) := by unfold gMul; infer_instance
instance (j : Int) : Decidable (gDiv j) := by unfold gDiv; infer_instance
instance (i j : Int) : Decidable (gPow i j) := by unfold gPow; infer_instance
instance (j : Int) : Decidable (gR j) := by unfold gR; infer_instance
instance (i j : Int) : Decidable (gR2 i j) := by unfold gR2; infer_instance
abbrev ipow (i j : Int) : Int := i ^ j.toNat
def setI {α : Type} (xs : List α) (i : Int) (v : α) : Option (List α) := (ixN xs.length i).bind fun j => some (xs.set j v)

/-! ### data that == compares -/
structure Dat {K : PySem.W.Frag} {α : Type} [DecidableEq α] (τ : Rep K α) where
  enc : α → PyData
  dp : ∀ {H : Hp} {v : V} {x : α}, τ.R H v x → Dp K H v (enc x)
  lay : ∀ x, (enc x).canLay0 = true
  n : Nat
  dep : ∀ x, (enc x).depth ≤ n
  eqv : ∀ x y, PyData.eqv (enc x) (enc y) = decide (x = y)
section
variable {K : PySem.W.Frag}
theorem Dat.shaped {α : Type} [DecidableEq α] {τ : Rep K α} (d : Dat τ) (hn : d.n ≤ 64) (x : α) : SeqAt.shaped (d.enc x) = true := by
  unfold SeqAt.shaped
  rw [d.lay x, decide_eq_true (Nat.le_trans (d.dep x) hn)]
  rfl
def dI : Dat (K := K) qI := ⟨.int, fun {H v x} h => by cases (show v = .int x from h); exact .int x, fun _ => rfl, 1, fun x => by show PyData.depth (.int x) ≤ 1; simp [PyData.depth], fun x y => by
  show (x == y) = decide (x = y)
  rw [Bool.beq_eq_decide_eq]⟩
def dB : Dat (K := K) qB := ⟨.bool, fun {H v x} h => by cases (show v = .bl x from h); exact .bl x, fun _ => rfl, 1, fun x => by show PyData.depth (.bool x) ≤ 1; simp [PyData.depth], fun x y => by
  show (x == y) = decide (x = y)
  rw [Bool.beq_eq_decide_eq]⟩
theorem eqvAll2 {a b c d : PyData} : PyData.eqv (.tuple [a, b]) (.tuple [c, d]) = (PyData.eqv a c && PyData.eqv b d) := by
  simp [PyData.eqv, PyData.eqvAll]
def dT2 {α β : Type} [DecidableEq α] [DecidableEq β] {τ : Rep K α} {υ : Rep K β} (a : Dat τ) (b : Dat υ) : Dat (qT2 τ υ) := ⟨fun x => .tuple [a.enc x.1, b.enc x.2], fun {H v x} h => by
    obtain ⟨p, w1, w2, rfl, h2, h3, h4⟩ := h
    exact .tup (SqT.of h2) (.cons (a.dp h3) (.cons (b.dp h4) .nil)), fun x => by
    show PyData.canLayAll0 [a.enc x.1, b.enc x.2] = true
    simp [PyData.canLayAll0, a.lay, b.lay], max a.n b.n + 1, fun x => by
    have h1 := a.dep x.1
    have h2 := b.dep x.2
    show PyData.depth (.tuple [a.enc x.1, b.enc x.2]) ≤ _
    simp only [PyData.depth, PyData.depthAll]
    omega, fun x y => by
    rw [eqvAll2, a.eqv, b.eqv, ← Bool.decide_and]
    exact decide_eq_decide.mpr ⟨fun h => Prod.ext h.1 h.2, fun h => by rw [h]; exact ⟨rfl, rfl⟩⟩⟩
theorem dpAll {α : Type} [DecidableEq α] {τ : Rep K α} (a : Dat τ) {H : Hp} : ∀ {ws : List V} {xs : List α}, RL τ H ws xs → DpAll K H ws (xs.map a.enc)
  | _, _, .nil => .nil
  | _, _, .cons r t => .cons (a.dp r) (dpAll a t)
theorem layAll {α : Type} [DecidableEq α] {τ : Rep K α} (a : Dat τ) : ∀ xs : List α, PyData.canLayAll0 (xs.map a.enc) = true
  | [] => rfl
  | x :: xs => by
    show (PyData.canLay0 (a.enc x) && PyData.canLayAll0 (xs.map a.enc)) = true
    rw [a.lay, layAll a xs]
    rfl
theorem depAll {α : Type} [DecidableEq α] {τ : Rep K α} (a : Dat τ) : ∀ xs : List α, PyData.depthAll (xs.map a.enc) ≤ a.n
  | [] => by simp [PyData.depthAll]
  | x :: xs => by
    rw [List.map_cons]
    simp only [PyData.depthAll]
    have h1 := a.dep x
    have h2 := depAll a xs
    omega
theorem eqvAllD {α : Type} [DecidableEq α] {τ : Rep K α} (a : Dat τ) : ∀ xs ys : List α, PyData.eqvAll (xs.map a.enc) (ys.map a.enc) = decide (xs = ys)
  | [], [] => rfl
  | [], y :: ys => by simp [PyData.eqvAll]
  | x :: xs, [] => by simp [PyData.eqvAll]
  | x :: xs, y :: ys => by
    rw [List.map_cons, List.map_cons]
    simp only [PyData.eqvAll]
    rw [a.eqv, eqvAllD a xs ys, ← Bool.decide_and]
    exact decide_eq_decide.mpr ⟨fun h => by rw [h.1, h.2], fun h => by injection h with h1 h2; exact ⟨h1, h2⟩⟩
def dQ {α : Type} [DecidableEq α] {τ : Rep K α} (a : Dat τ) : Dat (qQ τ) := ⟨fun xs => .list (xs.map a.enc), fun {H v x} h => by
    obtain ⟨p, ws, rfl, h2, h3⟩ := h
    exact .lst h2 (dpAll a h3), fun xs => layAll a xs, a.n + 1, fun xs => by
    have h := depAll a xs
    show PyData.depth (.list (xs.map a.enc)) ≤ _
    simp only [PyData.depth]
    omega, fun x y => by
    show PyData.eqvAll (x.map a.enc) (y.map a.enc) = _
    exact eqvAllD a x y⟩
def dL {α : Type} [DecidableEq α] {τ : Rep K α} (a : Dat τ) : Dat (qL τ) := ⟨(dQ a).enc, fun h => (dQ a).dp (qL_qQ h), (dQ a).lay, (dQ a).n, (dQ a).dep, (dQ a).eqv⟩
end

/-! ### values that move the heap: the goal goes from te σ H Q to Q v H' -/
section
variable {K : PySem.W.Frag} {σ σ' : L2.St} {S H S0 H0 : Hp} {L : List Addr} {ta tb te : TE} {t u tc : TT} {tr : TA} {x y z v : V} {i j : Int} {b c : Bool} {Q : VK} {D : Ends} {t1 t2 tu : TS} {g : TG} {vs ws : List V}
theorem c_val (h : Val te σ H v) (q : Q v H) : te σ H Q := h _ q
theorem c_op {r : R2} (h : ta σ H fun x H1 => tb σ H1 fun y H2 => r x y H2 Q) : tOp r ta tb σ H Q := h
theorem c_un {r : V → Hp → VK → Prop} (h : ta σ H fun x H1 => r x H1 Q) : tUn r ta σ H Q := h
theorem c_cons {q : List V → Hp → Prop} (h : ta σ H fun x H1 => tr σ H1 fun xs H2 => q (x :: xs) H2) : tCons ta tr σ H q := h
theorem c_nil {q : List V → Hp → Prop} (h : q [] H) : tNil σ H q := h
theorem c_args {q : List V → Hp → Prop} (ha : VA tr σ H vs) (h : q vs H) : tr σ H q := ha _ h
theorem c_tup (h : tr σ H fun xs H1 => xs.length ≤ sizeLine ∧ ∀ p, H1 p = none → Q (.ref p) (upd H1 p (.tup xs))) : tTup tr σ H Q := h
theorem c_lst (h : tr σ H fun xs H1 => xs.length ≤ sizeLine ∧ ∀ p, H1 p = none → Q (.ref p) (upd H1 p (.lst xs))) : tLst tr σ H Q := h
theorem c_tupE (h : ∀ Q' : VK, Q' = Q → tr σ H fun xs H1 => xs.length ≤ sizeLine ∧ ∀ p, H1 p = none → Q' (.ref p) (upd H1 p (.tup xs))) : tTup tr σ H Q := h _ rfl
theorem c_lstE (h : ∀ Q' : VK, Q' = Q → tr σ H fun xs H1 => xs.length ≤ sizeLine ∧ ∀ p, H1 p = none → Q' (.ref p) (upd H1 p (.lst xs))) : tLst tr σ H Q := h _ rfl
theorem c_cbE {r : List V → Hp → VK → Prop} (h : ∀ Q' : VK, Q' = Q → tr σ H fun vs H1 => r vs H1 Q') : tCB r tr σ H Q := h _ rfl
theorem q_eq {Q' : VK} (e : Q' = Q) (h : Q v H) : Q' v H := e ▸ h
theorem c_call {sp : Sp} {dvs : List V} {E : XK} (h : tr σ H fun vs H1 => sp (vs ++ dvs) H1 Q E) : tCall sp dvs E tr σ H Q := h
theorem c_cb {r : List V → Hp → VK → Prop} (h : tr σ H fun vs H1 => r vs H1 Q) : tCB r tr σ H Q := h
theorem c_newtup (e : Same S H) (hl : vs.length ≤ 1000) (k : ∀ p S' H', Grow [] S H S' H' → S' p = some (.tup vs) → Q (.ref p) H') : vs.length ≤ sizeLine ∧ ∀ p, H p = none → Q (.ref p) (upd H p (.tup vs)) :=
  ⟨Nat.le_trans hl (by decide), fun p hp => k p _ _ ((Grow.refl e).imm hp) upd_same⟩
theorem c_newlst (hl : vs.length ≤ 1000) (k : ∀ p H', Same H H' → H p = none → H' p = some (.lst vs) → Q (.ref p) H') : vs.length ≤ sizeLine ∧ ∀ p, H p = none → Q (.ref p) (upd H p (.lst vs)) :=
  ⟨Nat.le_trans hl (by decide), fun p hp => k p _ (same_upd hp) hp upd_same⟩
theorem c_not {q : Bool → Hp → Prop} (h : t σ H fun b H1 => q (!b) H1) : tNot t σ H q := h
theorem c_test {q : Bool → Hp → Prop} (h : te σ H fun x H' => ∃ k, x = .bl k ∧ q k H') : tTest te σ H q := h
theorem c_B {q : Bool → Hp → Prop} (h : te σ H fun x H' => ∃ k, x = .bl k ∧ q k H') : tB te σ H q := h
theorem c_ans {q : Bool → Hp → Prop} (h : Ans t σ H b) (k : q b H) : t σ H q := h _ k
theorem c_bl {q : Bool → Hp → Prop} (h : q b H) : ∃ k, V.bl b = .bl k ∧ q k H := ⟨b, rfl, h⟩
theorem c_and {q : Bool → Hp → Prop} (h : t σ H fun c H1 => if c = true then u σ H1 q else q false H1) : tAnd t u σ H q := h
theorem c_or {q : Bool → Hp → Prop} (h : t σ H fun c H1 => if c = true then q true H1 else u σ H1 q) : tOr t u σ H q := h
theorem c_andV (h : ta σ H fun x H1 => ∃ c, x = .bl c ∧ if c = true then tb σ H1 Q else Q (.bl false) H1) : tAndV ta tb σ H Q := h
theorem c_orV (h : ta σ H fun x H1 => ∃ c, x = .bl c ∧ if c = true then Q (.bl true) H1 else tb σ H1 Q) : tOrV ta tb σ H Q := h
theorem c_cutT {q : Bool → Hp → Prop} (P : Bool → Hp → Prop) (hc : ∀ q' : Bool → Hp → Prop, (∀ b H', P b H' → q' b H') → t σ H q') (hP : ∀ b H', P b H' → q b H') : t σ H q := hc _ hP
theorem c_cutV (P : Bool → Hp → Prop) (hc : ∀ q' : VK, (∀ b H', P b H' → q' (.bl b) H') → te σ H q') (hP : ∀ b H', P b H' → Q (.bl b) H') : te σ H Q := hc _ hP
theorem ifb {A B : Prop} (h1 : c = true → A) (h2 : c = false → B) : if c = true then A else B := by
  cases c with
  | true => exact (show (if true = true then A else B) from h1 rfl)
  | false => exact (show (if false = true then A else B) from h2 rfl)
/-- the ends of the operators -/
theorem e_o2 {g : Int → Int → V} (q : Q (g i j) H) : rI0 g (.int i) (.int j) H Q := ⟨i, j, rfl, rfl, q⟩
theorem e_o2c {C : Int → Int → Prop} {g : Int → Int → V} (hc : C i j) (q : Q (g i j) H) : rI C g (.int i) (.int j) H Q := ⟨i, j, rfl, rfl, hc, q⟩
theorem e_u {g : Int → V} (q : Q (g i) H) : rU g (.int i) H Q := ⟨i, rfl, q⟩
theorem e_eqI (q : Q (.bl (decide (i = j))) H) : rEq (.int i) (.int j) H Q := ⟨rfl, by rw [dec_int]; exact q⟩
theorem e_neI (q : Q (.bl (!decide (i = j))) H) : rNe (.int i) (.int j) H Q := ⟨rfl, by rw [dec_int]; exact q⟩
theorem e_eqS {s t : Str} (q : Q (.bl (decide (s = t))) H) : rEq (.str s) (.str t) H Q := ⟨rfl, by rw [dec_str]; exact q⟩
theorem e_neS {s t : Str} (q : Q (.bl (!decide (s = t))) H) : rNe (.str s) (.str t) H Q := ⟨rfl, by rw [dec_str]; exact q⟩
theorem e_eqB (q : Q (.bl (decide (b = c))) H) : rEq (.bl b) (.bl c) H Q := ⟨rfl, by rw [dec_bl]; exact q⟩
theorem e_neB (q : Q (.bl (!decide (b = c))) H) : rNe (.bl b) (.bl c) H Q := ⟨rfl, by rw [dec_bl]; exact q⟩
theorem e_eqD {α : Type} [DecidableEq α] {τ υ : Rep K α} (d : Dat τ) (d' : Dat υ) (he : d.enc = d'.enc) (hn : d.n ≤ 64) {p q : α} (h1 : τ.R H x p) (h2 : υ.R H y q) (k : Q (.bl (decide (p = q))) H) : rEqD K x y H Q :=
  ⟨d.enc p, d.enc q, d.dp h1, by rw [he]; exact d'.dp h2, d.shaped hn p, d.shaped hn q, by rw [d.eqv]; exact k⟩
theorem e_neD {α : Type} [DecidableEq α] {τ υ : Rep K α} (d : Dat τ) (d' : Dat υ) (he : d.enc = d'.enc) (hn : d.n ≤ 64) {p q : α} (h1 : τ.R H x p) (h2 : υ.R H y q) (k : Q (.bl (!decide (p = q))) H) : rNeD K x y H Q :=
  ⟨d.enc p, d.enc q, d.dp h1, by rw [he]; exact d'.dp h2, d.shaped hn p, d.shaped hn q, by rw [d.eqv]; exact k⟩
theorem v_eqD {α : Type} [DecidableEq α] {τ υ : Rep K α} (d : Dat τ) (d' : Dat υ) (he : d.enc = d'.enc) (hn : d.n ≤ 64) {p q : α} (ha : Val ta σ H x) (hb : Val tb σ H y) (h1 : τ.R H x p) (h2 : υ.R H y q) : Val (tOp (rEqD K) ta tb) σ H (.bl (decide (p = q))) :=
  fun Q k => ha _ (hb _ (e_eqD d d' he hn h1 h2 k))
theorem v_neD {α : Type} [DecidableEq α] {τ υ : Rep K α} (d : Dat τ) (d' : Dat υ) (he : d.enc = d'.enc) (hn : d.n ≤ 64) {p q : α} (ha : Val ta σ H x) (hb : Val tb σ H y) (h1 : τ.R H x p) (h2 : υ.R H y q) : Val (tOp (rNeD K) ta tb) σ H (.bl (!decide (p = q))) :=
  fun Q k => ha _ (hb _ (e_neD d d' he hn h1 h2 k))
/-- a shallow datum: tuples of scalars; it may be kept for good -/
def Shal {α : Type} (τ : Rep K α) : Prop := ∀ {S H : Hp} {v : V} {x : α}, Same S H → τ.R H v x → ∃ S', Grow [] S H S' H ∧ τ.R S' v x
theorem shI : Shal (K := K) qI := fun e h => ⟨_, Grow.refl e, h⟩
theorem shB : Shal (K := K) qB := fun e h => ⟨_, Grow.refl e, h⟩
theorem shS : Shal (K := K) qS := fun e h => ⟨_, Grow.refl e, h⟩
theorem shU : Shal (K := K) qU := fun e h => ⟨_, Grow.refl e, h⟩
theorem shOpt {α : Type} {τ : Rep K α} (a : Shal τ) : Shal (qOpt τ) := fun {S H v x} e h => by
  cases x with
  | none => exact ⟨_, Grow.refl e, h⟩
  | some y =>
    obtain ⟨S', g, r⟩ := a e h.2
    exact ⟨S', g, h.1, r⟩
theorem shT2 {α β : Type} {τ : Rep K α} {υ : Rep K β} (a : Shal τ) (b : Shal υ) : Shal (qT2 τ υ) := fun {S H v x} e h => by
  obtain ⟨p, w1, w2, rfl, h2, h3, h4⟩ := h
  obtain ⟨S1, g1, r1⟩ := a e h3
  obtain ⟨S2, g2, r2⟩ := b g1.sh h4
  have g3 := (g1.call0 g2).tup h2
  have e3 : Same S2 (upd S2 p (.tup [w1, w2])) := ((Grow.refl (L := []) g2.sh).tup h2).ss
  exact ⟨_, g3, p, w1, w2, rfl, upd_same, τ.mono (g2.ss.trans e3) r1, υ.mono e3 r2⟩
theorem shL {α : Type} {τ : Rep K α} (a : Shal τ) {S H : Hp} : ∀ {ws : List V} {xs : List α}, Same S H → RL τ H ws xs → ∃ S', Grow [] S H S' H ∧ RL τ S' ws xs
  | _, _, e, .nil => ⟨_, Grow.refl e, .nil⟩
  | _, _, e, .cons r t => by
    obtain ⟨S1, g1, r1⟩ := a e r
    obtain ⟨S2, g2, r2⟩ := shL a g1.sh t
    exact ⟨S2, g1.call0 g2, .cons (τ.mono g2.ss r1) r2⟩
theorem RL.sc {α : Type} {τ : Rep K α} {H H' : Hp} (f : α → V) (hf : ∀ {H v x}, τ.R H v x ↔ v = f x) : ∀ {ws : List V} {xs : List α}, RL τ H ws xs → RL τ H' ws xs
  | _, _, .nil => .nil
  | _, _, .cons r t => .cons (hf.mpr (hf.mp r)) (RL.sc f hf t)
theorem RL.scI {H H' : Hp} {ws : List V} {xs : List Int} (h : RL (K := K) qI H ws xs) : RL (K := K) qI H' ws xs := RL.sc V.int Iff.rfl h
theorem RL.scB {H H' : Hp} {ws : List V} {xs : List Bool} (h : RL (K := K) qB H ws xs) : RL (K := K) qB H' ws xs := RL.sc V.bl Iff.rfl h
theorem RL.scS {H H' : Hp} {ws : List V} {xs : List Str} (h : RL (K := K) qS H ws xs) : RL (K := K) qS H' ws xs := RL.sc V.str Iff.rfl h
/-- where a new list comes from -/
theorem e_listQ {α : Type} {τ : Rep K α} {xs : List α} (h : (qQ τ).R H v xs) (k : ∀ p ws H', Same H H' → H p = none → H' p = some (.lst ws) → RL τ H ws xs → Q (.ref p) H') :
    ∃ p ys, [v] = [.ref p] ∧ (SqL K H p ys ∨ SqT K H p ys) ∧ ∀ l, H l = none → Q (.ref l) (upd H l (.lst ys)) := by
  obtain ⟨a, ws, rfl, h2, h3⟩ := h
  exact ⟨a, ws, rfl, .inl h2, fun l hl => k l ws _ (same_upd hl) hl upd_same h3⟩
theorem RL.cut {α : Type} {τ : Rep K α} {ws : List V} {xs : List α} (h : RL τ H ws xs) (lo hi : Option Int) : RL τ H (cutV ws lo hi) ((xs.drop (HT.sIx xs.length 0 lo)).take (HT.sIx xs.length xs.length hi - HT.sIx xs.length 0 lo)) := by
  unfold cutV
  rw [h.length]
  exact (h.drop _).take _
def cutI {α : Type} (xs : List α) (lo hi : Option Int) : List α := (xs.drop (HT.sIx xs.length 0 lo)).take (HT.sIx xs.length xs.length hi - HT.sIx xs.length 0 lo)
theorem e_slice {α : Type} {τ : Rep K α} {xs : List α} {lo hi : Option Int} (h : (qQ τ).R H v xs) (k : ∀ p ws H', Same H H' → H p = none → H' p = some (.lst ws) → RL τ H ws (cutI xs lo hi) → Q (.ref p) H') : rSlL K v lo hi H Q := by
  obtain ⟨a, ws, rfl, h2, h3⟩ := h
  exact ⟨a, ws, rfl, h2, fun l hl => k l _ _ (same_upd hl) hl upd_same (h3.cut lo hi)⟩
theorem c_slice {r : V → Option Int → Option Int → Hp → VK → Prop} {tl th : TO} {lo hi : Option Int} (ha : Val te σ H v) (hl : ∀ q : Option Int → Hp → Prop, q lo H → tl σ H q) (hh : ∀ q : Option Int → Hp → Prop, q hi H → th σ H q) (k : r v lo hi H Q) : tSl r te tl th σ H Q := ha _ (hl _ (hh _ k))
theorem po0 : ∀ q : Option Int → Hp → Prop, q none H → tNoPart σ H q := fun _ z => z
theorem po1 (h : Val te σ H (.int i)) : ∀ q : Option Int → Hp → Prop, q (some i) H → tPart te σ H q := fun _ z => h _ ⟨i, rfl, z⟩
theorem e_cat {α : Type} {τ : Rep K α} {xs ys : List α} (h1 : (qL τ).R H x xs) (h2 : (qL τ).R H y ys) (hz : xs.length + ys.length ≤ 16777216) (k : ∀ p ws H', Same H H' → H p = none → H' p = some (.lst ws) → RL τ H ws (xs ++ ys) → Q (.ref p) H') : rCat x y H Q := by
  obtain ⟨a, ws, rfl, ha, ra⟩ := h1
  obtain ⟨b, us, rfl, hb, rb⟩ := h2
  exact ⟨a, b, ws, us, rfl, rfl, ha, hb, by rw [ra.length, rb.length]; exact hz, fun p hp => k p _ _ (same_upd hp) hp upd_same (ra.app rb)⟩

/-! ### statements -/
theorem z_start {N : List Str} {t : TS} (hs : start N vs = σ) (q : t D σ H) : t D (start N vs) H := hs ▸ q
theorem z_nextR (q : tu D σ H) : tNext { D with nx := tu D } σ H := q
theorem z_setE {k : Nat} (h : te σ H fun v H' => gName k v σ H' (tu D)) : tSeq (tAsg te (gName k)) tu D σ H := h
theorem z_asgE (h : te σ H fun v H' => g v σ H' (tu D)) : tSeq (tAsg te g) tu D σ H := h
theorem z_retE (h : te σ H D.rt) : tSeq (tRet te) tu D σ H := h
theorem z_retN (h : D.rt .non H) : tSeq tRetN tu D σ H := h
theorem z_pass (h : tu D σ H) : tSeq tNext tu D σ H := h
theorem z_cont (h : D.ct σ H) : tSeq tCont tu D σ H := h
theorem z_brk (h : D.bk σ H) : tSeq tBreak tu D σ H := h
theorem z_dropE (h : te σ H fun _ H' => tu D σ H') : tSeq (tDrop te) tu D σ H := h
theorem z_ifE (h : tc σ H fun b H1 => if b = true then t1 { D with nx := tu D } σ H1 else t2 { D with nx := tu D } σ H1) : tSeq (tIfS tc t1 t2) tu D σ H := h
theorem z_ifbj (P : L2.St → Hp → Prop) (hP : ∀ σ' H', P σ' H' → tu D σ' H')
    (h1 : c = true → ∀ N : L2.St → Hp → Prop, (∀ σ' H', P σ' H' → N σ' H') → t1 { D with nx := N } σ H) (h2 : c = false → ∀ N : L2.St → Hp → Prop, (∀ σ' H', P σ' H' → N σ' H') → t2 { D with nx := N } σ H) : if c = true then t1 { D with nx := tu D } σ H else t2 { D with nx := tu D } σ H :=
  ifb (fun e => h1 e _ hP) (fun e => h2 e _ hP)
/-- xs.append(v) -/
theorem c_app {α : Type} {τ : Rep K α} {l : Addr} {xs ys : List α} {q : α} (g : Grow L S0 H0 S H) (cl : Cel L H0 S H l (.lst ws)) (r : RL τ S ws xs) (rv : τ.R S v q) (hz : xs.length < 16777216) (he : xs ++ [q] = ys)
    (k : ∀ ws' H', Grow L S0 H0 S H' → Cel L H0 S H' l (.lst ws') → RL τ S ws' ys → (∀ l' o', l' ≠ l → Cel L H0 S H l' o' → Cel L H0 S H' l' o') → Q .non H') : rAppend (.ref l) [v] H Q := by
  subst he
  exact ⟨l, ws, v, rfl, rfl, cl.h, by rw [r.length]; exact hz, k _ _ (g.wr cl rfl) (cl.wr rfl) (r.app (.cons rv .nil)) fun l' o' n c => c.wrn n⟩
theorem c_bm {T : String} {r : V → List V → Hp → VK → Prop} {l : Addr} (ha : Val ta σ H (.ref l)) (h : tyV K T (.ref l) H) (k : tr σ H fun xs H2 => r (.ref l) xs H2 Q) : tBM K T r ta tr σ H Q := ha _ ⟨h, k⟩
theorem c_bm0 {T : String} {r : V → List V → Hp → VK → Prop} {l : Addr} (ha : Val ta σ H (.ref l)) (h : tyV K T (.ref l) H) (k : r (.ref l) [] H Q) : tBM0 K T r ta σ H Q := ha _ ⟨h, k⟩
theorem tyL {l : Addr} (h : H l = some (.lst ws)) : tyV K "list" (.ref l) H := .inl ⟨rfl, _, SqL.of h⟩
/-- xs[i] = v -/
theorem c_setL {α : Type} {τ : Rep K α} {l : Addr} {xs ys : List α} {q : α} (g : Grow L S0 H0 S H) (cl : Cel L H0 S H l (.lst ws)) (r : RL τ S ws xs) (rv : τ.R S v q) (ho : Val ta σ H (.ref l)) (hi : Val tb σ H (.int i)) (he : setI xs i q = some ys)
    (k : ∀ ws' H', Grow L S0 H0 S H' → Cel L H0 S H' l (.lst ws') → RL τ S ws' ys → (∀ l' o', l' ≠ l → Cel L H0 S H l' o' → Cel L H0 S H' l' o') → tu D σ H') : gSub ta tb rSetL v σ H (tu D) := by
  unfold setI at he
  cases e : ixN xs.length i with
  | none => rw [e] at he; cases he
  | some j =>
    rw [e] at he
    cases (Option.some.inj he)
    exact ho _ (hi _ ⟨l, ws, i, j, rfl, rfl, cl.h, by rw [r.length]; exact e, k _ _ (g.wr cl rfl) (cl.wr rfl) (r.set rv j) fun l' o' n c => c.wrn n⟩)
theorem c_clear {α : Type} {τ : Rep K α} {l : Addr} (g : Grow L S0 H0 S H) (cl : Cel L H0 S H l (.lst ws))
    (k : ∀ H', Grow L S0 H0 S H' → Cel L H0 S H' l (.lst []) → RL τ S [] ([] : List α) → (∀ l' o', l' ≠ l → Cel L H0 S H l' o' → Cel L H0 S H' l' o') → Q .non H') : rClear (.ref l) [] H Q :=
  ⟨l, ws, rfl, rfl, cl.h, k _ (g.wr cl rfl) (cl.wr rfl) .nil fun l' o' n c => c.wrn n⟩
theorem v_chain {g g' : Int → Int → V} {p q : Int → Int → Bool} {k l m : Int} (ha : Val ta σ H (.int k)) (hb : Val tb σ H (.int l)) (hc : Val te σ H (.int m)) (h1 : g k l = .bl b) (h2 : g' l m = .bl c) : Val (tChain (rI0 g) (rI0 g') ta tb te) σ H (.bl (b && c)) := fun Q z => ha _ (hb _ ⟨k, l, rfl, rfl, b, h1, by
  cases b with
  | true => exact (show (if true = true then _ else _) from hc _ ⟨l, m, rfl, rfl, by rw [h2]; exact z⟩)
  | false => exact (show (if false = true then _ else _) from z)⟩)
theorem Same.seqt {H H' : Hp} {a : Addr} {xs : List V} (e : Same H H') (h : SqT K H a xs) : SqT K H' a xs := by
  rcases h with (h | ⟨o, h⟩) | h
  · exact .inl (.inl (e _ _ h))
  · exact .inl (.inr ⟨o, e _ _ h⟩)
  · exact .inr h
theorem turns_tup {α : Type} {R : V → α → Prop} {a : Addr} {ws : List V} {xs : List α} {g : TG} {tb : TS} (hp : Paired R ws xs) (Pv : List α → L2.St → Hp → Prop) (h0 : Pv xs σ H) (hl : ∀ ys σ' H', Pv ys σ' H' → SqT K H' a ws)
    (hs : ∀ w y ys σ' H', R w y → Pv (y :: ys) σ' H' → ∀ N : L2.St → Hp → Prop, (∀ σ'' H'', Pv ys σ'' H'' → N σ'' H'') → g w σ' H' fun σ2 H2 => tb { D with nx := N, ct := N, bk := D.nx } σ2 H2) (hd : ∀ σ' H', Pv [] σ' H' → D.nx σ' H') :
    ∃ W : Nat → Nat → L2.St → Hp → Prop, (∃ m, W 0 m σ H) ∧ ∀ i m σ H, W i m σ H →
      ((Itt K a).stop i H ∧ D.nx σ H) ∨ ((Itt K a).go i H ∧ ∃ N : L2.St → Hp → Prop, (∀ σ' H', N σ' H' → ∃ m', m' < m ∧ W (i + 1) m' σ' H') ∧ ∀ x H', (Itt K a).yld i H x H' → g x σ H' fun σ2 H2 => tb { D with nx := N, ct := N, bk := D.nx } σ2 H2) := by
  refine for_tup (K := K) (a := a) (xs := ws) (fun i σ H => i ≤ ws.length ∧ ∃ ys, Paired R (ws.drop i) ys ∧ Pv ys σ H) ⟨Nat.zero_le _, xs, hp, h0⟩ (fun i σ' H' _ p => ?_) (fun i x σ' H' hx p => ?_) (fun σ' H' p => ?_)
  · obtain ⟨_, ys, _, q⟩ := p
    exact hl _ _ _ q
  · obtain ⟨_, ys, r, q⟩ := p
    have hi : i < ws.length := (List.getElem?_eq_some_iff.mp hx).1
    have e : ws.drop i = x :: ws.drop (i + 1) := by
      rw [List.drop_eq_getElem_cons hi]
      rw [(List.getElem?_eq_some_iff.mp hx).2]
    rw [e] at r
    cases r with
    | cons a b => exact hs _ _ _ σ' H' a q _ fun σ'' H'' z => ⟨hi, _, b, z⟩
  · obtain ⟨_, ys, r, q⟩ := p
    rw [List.drop_length] at r
    cases r
    exact hd _ _ q
theorem z_forT {α : Type} {R : V → α → Prop} {a : Addr} {ws : List V} {xs : List α} {tl : TE} {g : TG} {tb : TS} (ha : Val tl σ H (.ref a)) (hp : Paired R ws xs) (Pv : List α → L2.St → Hp → Prop) (h0 : Pv xs σ H) (hl : ∀ ys σ' H', Pv ys σ' H' → SqT K H' a ws)
    (hs : ∀ w y ys σ' H', R w y → Pv (y :: ys) σ' H' → ∀ N : L2.St → Hp → Prop, (∀ σ'' H'', Pv ys σ'' H'' → N σ'' H'') → g w σ' H' fun σ2 H2 => tb { D with nx := N, ct := N, bk := tu D } σ2 H2) (hd : ∀ σ' H', Pv [] σ' H' → tu D σ' H') :
    tSeq (tFor (iTup K tl) g tb) tu D σ H := ha _ ⟨a, rfl, ⟨ws, hl _ _ _ h0⟩, turns_tup (D := { D with nx := tu D }) hp Pv h0 hl hs hd⟩
end
theorem bt_min : bootBuiltins "min" = some (.builtin "min") := by decide +kernel
theorem bt_max : bootBuiltins "max" = some (.builtin "max") := by decide +kernel
end Z

namespace Z
open PySem PySem.Spec PyProof.Rows L2

/-! ### comprehensions -/
def consO {β : Type} (r : Option β) (ys : List β) : List β := match r with
  | some y => y :: ys
  | none => ys
def compO' {α β : Type} (f : α → Option (Option β)) : List α → Option (List β)
  | [] => some []
  | x :: xs => (f x).bind fun r => (compO' f xs).bind fun ys => some (consO r ys)
@[irreducible] def compO {α β : Type} (f : α → Option (Option β)) (xs : List α) : Option (List β) := if xs.length ≤ 16777216 then compO' f xs else none
theorem compO_some {α β : Type} {f : α → Option (Option β)} {xs : List α} {ys : List β} (h : compO f xs = some ys) : xs.length ≤ 16777216 ∧ compO' f xs = some ys := by
  unfold compO at h
  split at h
  · rename_i q; exact ⟨q, h⟩
  · cases h
theorem compO_eq {α β : Type} {f : α → Option (Option β)} {g : α → Option β} {xs : List α} (hl : xs.length ≤ 16777216) (h : ∀ x ∈ xs, f x = some (g x)) : compO f xs = some (xs.filterMap g) := by
  unfold compO
  rw [if_pos hl]
  clear hl
  induction xs with
  | nil => rfl
  | cons x xs ih =>
    unfold compO'
    rw [h x (List.mem_cons_self), ih fun y hy => h y (List.mem_cons_of_mem _ hy), List.filterMap_cons]
    cases g x <;> rfl
section
variable {K : PySem.W.Frag} {σ : L2.St} {S H : Hp} {ta tl te : TE} {tt : TT} {tr : TA} {v : V} {Q : VK} {D : Ends} {tu : TS}
theorem wipe_one (j : Nat) : wipe σ [j] = σ.set j none := rfl
theorem wipe_again (j : Nat) (v : V) : wipe ((wipe σ [j]).set j (some v)) [j] = wipe σ [j] := by
  rw [wipe_one, wipe_one, List.set_set, List.set_set]
theorem turnsC_range {lo : Int} {n : Nat} {g : TG} {vs : List Nat} {H1 : Hp} {P : Addr} {Qd : Hp → Prop} (Pv : List Int → Hp → Prop) (h0 : Pv (rangeI lo n) (upd H1 P (.lst [])))
    (hs : ∀ x xs H', Pv (x :: xs) H' → ∀ N : Hp → Prop, (∀ H'', Pv xs H'' → N H'') → g (.int x) (wipe σ vs) H' fun σ2 H2 => wipe σ2 vs = wipe σ vs ∧ tt σ2 H2 fun b H3 =>
      if b = true then te σ2 H3 fun y H4 => ∃ acc, H4 P = some (.lst acc) ∧ acc.length < sizeLine ∧ N (upd H4 P (.lst (acc ++ [y]))) else N H3) (hd : ∀ H', Pv [] H' → Qd H') :
    ∃ W : Nat → Nat → Hp → Prop, (∃ m, W 0 m (upd H1 P (.lst []))) ∧ ∀ i m H, W i m H →
      ((Itr lo n).stop i H ∧ Qd H) ∨ ((Itr lo n).go i H ∧ ∃ Nx : Hp → Prop, (∀ H', Nx H' → ∃ m', m' < m ∧ W (i + 1) m' H') ∧ ∀ x H', (Itr lo n).yld i H x H' → g x (wipe σ vs) H' fun σ2 H2 => wipe σ2 vs = wipe σ vs ∧ tt σ2 H2 fun b H3 =>
        if b = true then te σ2 H3 fun y H4 => ∃ acc, H4 P = some (.lst acc) ∧ acc.length < sizeLine ∧ Nx (upd H4 P (.lst (acc ++ [y]))) else Nx H3) := by
  refine lc_range (fun i H => i ≤ n ∧ Pv (rangeI (lo + (i : Int)) (n - i)) H) ⟨Nat.zero_le _, by
    rw [show lo + ((0 : Nat) : Int) = lo from Int.add_zero lo]; exact h0⟩ (fun i H' hi p => ?_) (fun H' p => hd _ (by
    have q := p.2
    rw [Nat.sub_self] at q
    exact q))
  have e : n - i = (n - (i + 1)) + 1 := by omega
  have q := p.2
  rw [e, rangeI_succ] at q
  refine hs _ _ H' q (fun H => i + 1 ≤ n ∧ Pv (rangeI (lo + ((i + 1 : Nat) : Int)) (n - (i + 1))) H) fun H'' z => ⟨hi, ?_⟩
  rw [show lo + ((i + 1 : Nat) : Int) = lo + (i : Int) + 1 by omega]
  exact z
theorem turnsC_list {α : Type} {R : V → α → Prop} {a : Addr} {ws : List V} {xs : List α} {g : TG} {vs : List Nat} {H1 : Hp} {P : Addr} {Qd : Hp → Prop} (hp : Paired R ws xs) (Pv : List α → Hp → Prop) (h0 : Pv xs (upd H1 P (.lst []))) (hl : ∀ ys H', Pv ys H' → SqL K H' a ws)
    (hs : ∀ w x xs H', R w x → Pv (x :: xs) H' → ∀ N : Hp → Prop, (∀ H'', Pv xs H'' → N H'') → g w (wipe σ vs) H' fun σ2 H2 => wipe σ2 vs = wipe σ vs ∧ tt σ2 H2 fun b H3 =>
      if b = true then te σ2 H3 fun y H4 => ∃ acc, H4 P = some (.lst acc) ∧ acc.length < sizeLine ∧ N (upd H4 P (.lst (acc ++ [y]))) else N H3) (hd : ∀ H', Pv [] H' → Qd H') :
    ∃ W : Nat → Nat → Hp → Prop, (∃ m, W 0 m (upd H1 P (.lst []))) ∧ ∀ i m H, W i m H →
      ((Itl K a).stop i H ∧ Qd H) ∨ ((Itl K a).go i H ∧ ∃ Nx : Hp → Prop, (∀ H', Nx H' → ∃ m', m' < m ∧ W (i + 1) m' H') ∧ ∀ x H', (Itl K a).yld i H x H' → g x (wipe σ vs) H' fun σ2 H2 => wipe σ2 vs = wipe σ vs ∧ tt σ2 H2 fun b H3 =>
        if b = true then te σ2 H3 fun y H4 => ∃ acc, H4 P = some (.lst acc) ∧ acc.length < sizeLine ∧ Nx (upd H4 P (.lst (acc ++ [y]))) else Nx H3) := by
  refine lc_list (K := K) (a := a) (xs := ws) (fun i H => i ≤ ws.length ∧ ∃ ys, Paired R (ws.drop i) ys ∧ Pv ys H) ⟨Nat.zero_le _, xs, hp, h0⟩ (fun i H' _ p => ?_) (fun i x H' hx p => ?_) (fun H' p => ?_)
  · obtain ⟨_, ys, _, q⟩ := p
    exact hl _ _ q
  · obtain ⟨_, ys, r, q⟩ := p
    have hi : i < ws.length := (List.getElem?_eq_some_iff.mp hx).1
    have e : ws.drop i = x :: ws.drop (i + 1) := by
      rw [List.drop_eq_getElem_cons hi]
      rw [(List.getElem?_eq_some_iff.mp hx).2]
    rw [e] at r
    cases r with
    | cons a b => exact hs _ _ _ H' a q (fun H => i + 1 ≤ ws.length ∧ ∃ ys, Paired R (ws.drop (i + 1)) ys ∧ Pv ys H) fun H'' z => ⟨hi, _, b, z⟩
  · obtain ⟨_, ys, r, q⟩ := p
    rw [List.drop_length] at r
    cases r
    exact hd _ q
/-- what holds between two turns of a comprehension whose parts leave the heap as it is: P the new list, zs what is left -/
def CPv {α β : Type} (τ : Rep K β) (S H : Hp) (P : Addr) (f : α → Option (Option β)) (ys : List β) (zs : List α) (H' : Hp) : Prop :=
  ∃ acc ys1 ys2, H' P = some (.lst acc) ∧ RL τ S acc ys1 ∧ Same H H' ∧ compO' f zs = some ys2 ∧ ys1 ++ ys2 = ys ∧ acc.length + zs.length ≤ 16777216
theorem CPv.start {α β : Type} {τ : Rep K β} {P : Addr} {f : α → Option (Option β)} {ys : List β} {zs : List α} (hP : H P = none) (h : compO f zs = some ys) : CPv τ S H P f ys zs (upd H P (.lst [])) := by
  obtain ⟨h1, h2⟩ := compO_some h
  exact ⟨[], [], ys, upd_same, .nil, same_upd hP, h2, rfl, by simpa using h1⟩
theorem CPv.turn {α β : Type} {τ : Rep K β} {P : Addr} {f : α → Option (Option β)} {ys : List β} {x : α} {zs : List α} {H' : Hp} {j : Nat} {w : V} {σx : L2.St} (hP : H P = none) (hσ : σ.set j (some w) = σx)
    (turn : ∀ H', Same H H' → ∀ r, f x = some r → ∃ b, Ans tt σx H' b ∧ (b = true → ∃ v y, r = some y ∧ Val te σx H' v ∧ τ.R S v y) ∧ (b = false → r = none))
    (p : CPv τ S H P f ys (x :: zs) H') (N : Hp → Prop) (hN : ∀ H'', CPv τ S H P f ys zs H'' → N H'') :
    gName j w (wipe σ [j]) H' fun σ2 H2 => wipe σ2 [j] = wipe σ [j] ∧ tt σ2 H2 fun b H3 =>
      if b = true then te σ2 H3 fun y H4 => ∃ acc, H4 P = some (.lst acc) ∧ acc.length < sizeLine ∧ N (upd H4 P (.lst (acc ++ [y]))) else N H3 := by
  obtain ⟨acc, ys1, ys2, h1, h2, h3, h4, h5, h6⟩ := p
  have e : (wipe σ [j]).set j (some w) = σx := by rw [wipe_one, List.set_set]; exact hσ
  have e2 : wipe σx [j] = wipe σ [j] := by rw [← e]; exact wipe_again j w
  unfold compO' at h4
  cases hf : f x with
  | none => rw [hf] at h4; cases h4
  | some r =>
    rw [hf] at h4
    cases hr : compO' f zs with
    | none => rw [hr] at h4; cases h4
    | some ys3 =>
      rw [hr] at h4
      have h4 : consO r ys3 = ys2 := Option.some.inj h4
      obtain ⟨b, ha, ht, hn⟩ := turn H' h3 r hf
      refine g_name e ?_
      refine ⟨e2, ha _ ?_⟩
      cases b with
      | true =>
        obtain ⟨v, y, rfl, hv, hR⟩ := ht rfl
        refine (show (if true = true then _ else _) from hv _ ⟨acc, h1, ?_, hN _ ⟨acc ++ [v], ys1 ++ [y], ys3, upd_same, h2.app (.cons hR .nil), fun a o q => ?_, hr, ?_, ?_⟩⟩)
        · rw [sizeLine_eq]; simp only [List.length_cons] at h6; omega
        · rw [upd_ne (ne_of_none q hP)]; exact h3 a o q
        · rw [← h5, ← h4, List.append_assoc]; rfl
        · rw [List.length_append]; simp only [List.length_cons, List.length_nil] at h6 ⊢; omega
      | false =>
        have hn := hn rfl
        subst hn
        refine (show (if false = true then _ else _) from hN _ ⟨acc, ys1, ys3, h1, h2, h3, hr, ?_, ?_⟩)
        · rw [← h5, ← h4]; rfl
        · simp only [List.length_cons] at h6; omega
theorem CPv.done {α β : Type} {τ : Rep K β} {P : Addr} {f : α → Option (Option β)} {ys : List β} {H' : Hp} (p : CPv τ S H P f ys [] H') : ∃ acc, H' P = some (.lst acc) ∧ RL τ S acc ys ∧ Same H H' := by
  obtain ⟨acc, ys1, ys2, h1, h2, h3, h4, h5, _⟩ := p
  have : ys2 = [] := (Option.some.inj h4).symm
  subst this
  rw [List.append_nil] at h5
  subst h5
  exact ⟨acc, h1, h2, h3⟩
theorem c_lcR1 {β : Type} {τ : Rep K β} {n : Int} {f : Int → Option (Option β)} {ys : List β} {j : Nat} (ha : VA tr σ H [.int n]) (hj : gR n) (h : compO f (rangeI 0 n.toNat) = some ys)
    (turn : ∀ x H', Same H H' → ∀ r, f x = some r → ∃ b, Ans tt (σ.set j (some (.int x))) H' b ∧ (b = true → ∃ v y, r = some y ∧ Val te (σ.set j (some (.int x))) H' v ∧ τ.R S v y) ∧ (b = false → r = none))
    (k : ∀ p ws H', Same H H' → H p = none → H' p = some (.lst ws) → RL τ S ws ys → Q (.ref p) H') : tLc (iRng1 tr) (gName j) tt te [j] σ H Q :=
  ha _ ⟨n, rfl, hj.1, hj.2, fun P hP => turnsC_range (CPv τ S H P f ys) (CPv.start hP h) (fun x xs H' p N hN => CPv.turn hP rfl (fun H' e r hr => turn x H' e r hr) p N hN) fun H' p => by
    obtain ⟨acc, h1, h2, h3⟩ := p.done
    exact k P acc H' h3 hP h1 h2⟩
theorem c_lcR2 {β : Type} {τ : Rep K β} {m n : Int} {f : Int → Option (Option β)} {ys : List β} {j : Nat} (ha : VA tr σ H [.int m, .int n]) (hj : gR2 m n) (h : compO f (rangeI m (n - m).toNat) = some ys)
    (turn : ∀ x H', Same H H' → ∀ r, f x = some r → ∃ b, Ans tt (σ.set j (some (.int x))) H' b ∧ (b = true → ∃ v y, r = some y ∧ Val te (σ.set j (some (.int x))) H' v ∧ τ.R S v y) ∧ (b = false → r = none))
    (k : ∀ p ws H', Same H H' → H p = none → H' p = some (.lst ws) → RL τ S ws ys → Q (.ref p) H') : tLc (iRng2 tr) (gName j) tt te [j] σ H Q :=
  ha _ ⟨m, n, rfl, hj, fun P hP => turnsC_range (CPv τ S H P f ys) (CPv.start hP h) (fun x xs H' p N hN => CPv.turn hP rfl (fun H' e r hr => turn x H' e r hr) p N hN) fun H' p => by
    obtain ⟨acc, h1, h2, h3⟩ := p.done
    exact k P acc H' h3 hP h1 h2⟩
theorem c_lcL {α β : Type} {τ : Rep K β} {R : V → α → Prop} {a : Addr} {us : List V} {xs : List α} {f : α → Option (Option β)} {ys : List β} {j : Nat} (ha : Val tl σ H (.ref a)) (hq : SqL K H a us) (hp : Paired R us xs) (h : compO f xs = some ys)
    (turn : ∀ w x H', R w x → Same H H' → ∀ r, f x = some r → ∃ b, Ans tt (σ.set j (some w)) H' b ∧ (b = true → ∃ v y, r = some y ∧ Val te (σ.set j (some w)) H' v ∧ τ.R S v y) ∧ (b = false → r = none))
    (k : ∀ p ws H', Same H H' → H p = none → H' p = some (.lst ws) → RL τ S ws ys → Q (.ref p) H') : tLc (iList K tl) (gName j) tt te [j] σ H Q :=
  ha _ ⟨a, rfl, ⟨us, hq⟩, fun P hP => turnsC_list hp (CPv τ S H P f ys) (CPv.start hP h) (fun zs H' p => by
    obtain ⟨_, _, _, _, _, e, _⟩ := p
    exact e.seq hq) (fun w x xs H' rw_ p N hN => CPv.turn hP rfl (fun H' e r hr => turn w x H' rw_ e r hr) p N hN) fun H' p => by
    obtain ⟨acc, h1, h2, h3⟩ := p.done
    exact k P acc H' h3 hP h1 h2⟩
theorem a_yes {b : Bool} (h : b = true) : Ans tYes σ H b := by subst h; exact fun _ q => q

/-! ### further forms of loops -/
theorem z_forLE {g : TG} {tb : TS} (h : tl σ H fun x H1 => tSeq (tFor (iList K (tC x)) g tb) tu D σ H1) : tSeq (tFor (iList K tl) g tb) tu D σ H := h
theorem c_lcLE {g : TG} {vs : List Nat} (h : tl σ H fun x H1 => tLc (iList K (tC x)) g tt te vs σ H1 Q) : tLc (iList K tl) g tt te vs σ H Q := h
theorem v_ixq2 {α : Type} {τ : Rep K α} {xs : List α} {q : α} {i : Int} (e : Same S H) (hr : (qQ τ).R S v xs) (hx : atI xs i = some q) : ∃ w, (∀ {σ : L2.St} {ta tb : TE}, Val ta σ H v → Val tb σ H (.int i) → Val (tOp (rIxL K) ta tb) σ H w) ∧ τ.R S w q := by
  obtain ⟨a, ws, rfl, h2, h3⟩ := hr
  obtain ⟨w, ew, r⟩ := h3.at hx
  exact ⟨w, fun ha hb Q z => ha _ (hb _ ⟨a, ws, i, w, rfl, rfl, e.seq h2, ew, z⟩), r⟩
theorem v_ixc {α : Type} {τ : Rep K α} {l : Addr} {ws : List V} {xs : List α} {q : α} {i : Int} (hl : H l = some (.lst ws)) (hr : RL τ S ws xs) (hx : atI xs i = some q) : ∃ w, (∀ {σ : L2.St} {ta tb : TE}, Val ta σ H (.ref l) → Val tb σ H (.int i) → Val (tOp (rIxL K) ta tb) σ H w) ∧ τ.R S w q := by
  obtain ⟨w, ew, r⟩ := hr.at hx
  exact ⟨w, fun ha hb Q z => ha _ (hb _ ⟨l, ws, i, w, rfl, rfl, SqL.of hl, ew, z⟩), r⟩
/-- a part of a tuple -/
theorem v_p20 {α β : Type} {τ : Rep K α} {υ : Rep K β} {p : α × β} (e : Same S H) (hr : (qT2 τ υ).R S v p) : ∃ w, (∀ {σ : L2.St} {ta tb : TE}, Val ta σ H v → Val tb σ H (.int 0) → Val (tOp (rIxT K) ta tb) σ H w) ∧ τ.R S w p.1 := by
  obtain ⟨a, w1, w2, rfl, h2, h3, _⟩ := hr
  exact ⟨w1, fun ha hb Q q => ha _ (hb _ ⟨a, _, 0, _, rfl, rfl, SqT.of (e _ _ h2), rfl, q⟩), h3⟩
theorem v_p21 {α β : Type} {τ : Rep K α} {υ : Rep K β} {p : α × β} (e : Same S H) (hr : (qT2 τ υ).R S v p) : ∃ w, (∀ {σ : L2.St} {ta tb : TE}, Val ta σ H v → Val tb σ H (.int 1) → Val (tOp (rIxT K) ta tb) σ H w) ∧ υ.R S w p.2 := by
  obtain ⟨a, w1, w2, rfl, h2, _, h3⟩ := hr
  exact ⟨w2, fun ha hb Q q => ha _ (hb _ ⟨a, _, 1, _, rfl, rfl, SqT.of (e _ _ h2), rfl, q⟩), h3⟩
theorem eun2 {α β γ : Type} {f : α → β → γ} {a : α} {b : β} {r : γ} (h : un2 f (a, b) = r) : f a b = r := h
theorem eun3 {α β γ δ : Type} {f : α → β → γ → δ} {a : α} {b : β} {c : γ} {r : δ} (h : un3 f (a, b, c) = r) : f a b c = r := h
theorem eun4 {α β γ δ ε : Type} {f : α → β → γ → δ → ε} {a : α} {b : β} {c : γ} {d : δ} {r : ε} (h : un4 f (a, b, c, d) = r) : f a b c d = r := h
theorem eun5 {α β γ δ ε ζ : Type} {f : α → β → γ → δ → ε → ζ} {a : α} {b : β} {c : γ} {d : δ} {e : ε} {r : ζ} (h : un5 f (a, b, c, d, e) = r) : f a b c d e = r := h
theorem OP.nameW {σ : Type} {c : σ → Option Bool} {f : σ → Option σ} {n : Nat} {s : σ} {A : σ → Prop} (h : OP (Z.whileO c f n s) A) : ∃ C F, C = c ∧ F = f ∧ OP (Z.whileO C F n s) A := ⟨c, f, rfl, rfl, h⟩
theorem OP.nameX {σ ρ : Type} {c : σ → Option Bool} {f : σ → Option (σ ⊕ ρ)} {n : Nat} {s : σ} {A : σ ⊕ ρ → Prop} (h : OP (Z.whileR c f n s) A) : ∃ C F, C = c ∧ F = f ∧ OP (Z.whileR C F n s) A := ⟨c, f, rfl, rfl, h⟩
theorem fcall {σ τ : Type} {F f : σ → Option τ} {s : σ} {r : τ} (e : F = f) (h : F s = some r) : f s = some r := e ▸ h
theorem nn_t2 {α β : Type} {τ : Rep K α} {υ : Rep K β} {p : α × β} (hr : (qT2 τ υ).R H v p) : v ≠ .non := by
  obtain ⟨a, w1, w2, rfl, _⟩ := hr
  exact fun z => nomatch z
theorem nn_l {α : Type} {τ : Rep K α} {xs : List α} (hr : (qL τ).R H v xs) : v ≠ .non := by
  obtain ⟨a, ws, rfl, _⟩ := hr
  exact fun z => nomatch z
theorem v_isiO {T n : String} {α : Type} {τ : Rep K α} {o : Option α} (ha : Val ta σ H v) (hr : (qOpt τ).R H v o) (ty : ∀ {y : α}, τ.R H v y → TyX K H v (.type T)) (hk : kitB T n = some true) (hn : kitB "NoneType" n = some false) : Val (tCB (rIsi K) (tCons ta (tCons (tC (.ty n)) tNil))) σ H (.bl o.isSome) := by
  cases o with
  | none =>
    cases (show v = .non from hr)
    exact v_isi ha ty_non hn
  | some y => exact v_isi ha (ty hr.2) hk
theorem v_isiN {T n : String} {α : Type} {τ : Rep K α} {o : Option α} (ha : Val ta σ H v) (hr : (qOpt τ).R H v o) (ty : ∀ {y : α}, τ.R H v y → TyX K H v (.type T)) (hk : kitB T n = some false) (hn : kitB "NoneType" n = some false) : Val (tCB (rIsi K) (tCons ta (tCons (tC (.ty n)) tNil))) σ H (.bl false) := by
  cases o with
  | none =>
    cases (show v = .non from hr)
    exact v_isi ha ty_non hn
  | some y => exact v_isi ha (ty hr.2) hk
end
end Z

namespace Z
open PySem PySem.Spec PyProof.Rows L2

/-! ### answers -/
theorem OP.fin {α : Type} {A F : α → Prop} {x : α} (hA : A = F) (h : OP (Option.some x) A) : F x := hA ▸ h
def EXP {α : Type} (r : Except Nat α) (P : α → Prop) (N : Nat → Prop) : Prop := match r with
  | .ok x => P x
  | .error c => N c
theorem EXP.ok {α : Type} {x : α} {P : α → Prop} {N : Nat → Prop} (h : EXP (.ok x) P N) : P x := h
theorem EXP.er {α : Type} {c : Nat} {P : α → Prop} {N : Nat → Prop} (h : EXP (.error c) P N) : N c := h
theorem LM0 {P : Addr → Prop} : ∀ l ∈ ([] : List Addr), P l := fun _ h => nomatch h
theorem LM1 {P : Addr → Prop} {a : Addr} {as : List Addr} (h : P a) (t : ∀ l ∈ as, P l) : ∀ l ∈ a :: as, P l := fun l q => by
  cases q with
  | head => exact h
  | tail _ q => exact t l q
theorem NM0 {a : Addr} : a ∉ ([] : List Addr) := fun h => nomatch h
theorem NM1 {a b : Addr} {bs : List Addr} (h : a ≠ b) (t : a ∉ bs) : a ∉ b :: bs := fun q => by
  cases q with
  | head => exact h rfl
  | tail _ q => exact t q

section
variable {K : PySem.W.Frag} {σ σ' : L2.St} {S S1 H S0 H0 : Hp} {L L' : List Addr} {ta tb te tl : TE} {t u tc : TT} {tr : TA} {x y z v : V} {i j : Int} {b c : Bool} {Q : VK} {D : Ends} {t1 t2 tu : TS} {g : TG} {vs ws : List V}

/-! ### lists that are only read -/
/-- a list written by the top -/
def Wr (K : PySem.W.Frag) (a : Addr) (xs : List V) : Prop := ∃ (o : Obj) (its : Array Value) (n : Nat), K.lookup a = some o ∧ o.cls = .type "list" ∧ o.dict = none ∧ o.data = .seq its n ∧ its.size ≤ sizeLine ∧ Vals xs its.toList
def StL (K : PySem.W.Frag) (L : List Addr) (H0 : Hp) (a : Addr) (ws : List V) : Prop := ((H0 a = some (.lst ws) ∨ ∃ o, H0 a = some (.frz o (.lst ws))) ∧ a ∉ L) ∨ Wr K a ws
theorem StL.sq {a : Addr} (h : StL K L H0 a ws) : SqL K H0 a ws := by
  rcases h with ⟨h | ⟨o, h⟩, _⟩ | h
  · exact .inl (.inl h)
  · exact .inl (.inr ⟨o, h⟩)
  · exact .inr h
theorem Grow.st {a : Addr} (g : Grow L S0 H0 S H) (h : StL K L H0 a ws) : StL K L H a ws := by
  rcases h with ⟨h | ⟨o, h⟩, n⟩ | h
  · exact .inl ⟨.inl (g.hh _ _ n h), n⟩
  · exact .inl ⟨.inr ⟨o, g.hh _ _ n h⟩, n⟩
  · exact .inr h
theorem Grow.sq {a : Addr} (g : Grow L S0 H0 S H) (h : StL K L H0 a ws) : SqL K H a ws := (g.st h).sq
theorem StL.to {a : Addr} (h : StL K L H0 a ws) (g : Grow L S0 H0 S H) (hL : ∀ l ∈ L', H0 l = none ∨ l ∈ L) : StL K L' H a ws := by
  rcases h with ⟨q, n⟩ | q
  · rcases g.st (.inl ⟨q, n⟩ : StL K L H0 a ws) with ⟨q', _⟩ | q'
    · refine .inl ⟨q', fun m => ?_⟩
      rcases hL a m with z | z
      · rcases q with q | ⟨o, q⟩
        · rw [z] at q; cases q
        · rw [z] at q; cases q
      · exact n z
    · exact .inr q'
  · exact .inr q
def RdL {α : Type} (τ : Rep K α) (L : List Addr) (S H0 : Hp) (v : V) (x : List α) : Prop := ∃ a ws, v = .ref a ∧ StL K L H0 a ws ∧ RL τ S ws x
/-- what a loop, a slice .. reads -/
def LS {α : Type} (τ : Rep K α) (S H : Hp) (v : V) (x : List α) : Prop := ∃ a ws, v = .ref a ∧ SqL K H a ws ∧ RL τ S ws x
def LP {α : Type} (τ : Rep K α) (S H : Hp) (v : V) (x : List α) : Prop := ∃ a ws, v = .ref a ∧ H a = some (.lst ws) ∧ RL τ S ws x
section
variable {α : Type} {τ : Rep K α} {xs ys : List α} {l : Addr} {o o' : HO}
theorem RdL.mono (e : Same S S1) (h : RdL τ L S H0 v xs) : RdL τ L S1 H0 v xs := by
  obtain ⟨a, ws, rfl, h1, h2⟩ := h
  exact ⟨a, ws, rfl, h1, RL.mono e h2⟩
theorem RdL.q (g : Grow L S0 H0 S H) (h : RdL τ L S H0 v xs) : (qQ τ).R H v xs := by
  obtain ⟨a, ws, rfl, h1, h2⟩ := h
  exact ⟨a, ws, rfl, g.sq h1, RL.mono g.sh h2⟩
theorem RdL.to (g : Grow L S0 H0 S H) (h : RdL τ L S H0 v xs) (hL : ∀ l ∈ L', H0 l = none ∨ l ∈ L) : RdL τ L' S H v xs := by
  obtain ⟨a, ws, rfl, h1, h2⟩ := h
  exact ⟨a, ws, rfl, h1.to g hL, h2⟩
theorem RdL.ofL (e : Same S H) (h : (qL τ).R S v xs) (hL : ∀ l ∈ L', S l = none) : RdL τ L' S H v xs := by
  obtain ⟨a, ws, rfl, h1, h2⟩ := h
  exact ⟨a, ws, rfl, .inl ⟨.inl (e _ _ h1), fun m => by rw [hL a m] at h1; cases h1⟩, h2⟩
theorem RdL.ofC (h : H l = some (.lst ws)) (n : l ∉ L') (r : RL τ S ws xs) : RdL τ L' S H (.ref l) xs := ⟨l, ws, rfl, .inl ⟨.inl h, n⟩, r⟩
theorem RdL.start {a : Addr} (h : SqL K H a ws) (r : RL τ S ws xs) : RdL τ [] S H (.ref a) xs := by
  refine ⟨a, ws, rfl, ?_, r⟩
  rcases h with (h | ⟨o, h⟩) | h
  · exact .inl ⟨.inl h, NM0⟩
  · exact .inl ⟨.inr ⟨o, h⟩, NM0⟩
  · exact .inr h
theorem RdL.ofQ (e : Same S H) (h : (qQ τ).R S v xs) (_ : ∀ l ∈ ([] : List Addr), S l = none) : RdL τ [] S H v xs := by
  obtain ⟨a, ws, rfl, h1, h2⟩ := h
  exact RdL.start (e.seq h1) h2
theorem qL_of (h : H l = some (.lst ws)) (r : RL τ H ws xs) : (qL τ).R H (.ref l) xs := ⟨l, ws, rfl, h, r⟩
theorem LS.ofL (e : Same S H) (h : (qL τ).R S v xs) : LS τ S H v xs := by
  obtain ⟨a, ws, rfl, h1, h2⟩ := h
  exact ⟨a, ws, rfl, SqL.of (e _ _ h1), h2⟩
theorem LS.ofQ (e : Same S H) (h : (qQ τ).R S v xs) : LS τ S H v xs := by
  obtain ⟨a, ws, rfl, h1, h2⟩ := h
  exact ⟨a, ws, rfl, e.seq h1, h2⟩
theorem LS.rd (g : Grow L S0 H0 S H) (h : RdL τ L S H0 v xs) : LS τ S H v xs := by
  obtain ⟨a, ws, rfl, h1, h2⟩ := h
  exact ⟨a, ws, rfl, g.sq h1, h2⟩
theorem LS.cel (h : H l = some (.lst ws)) (r : RL τ S ws xs) : LS τ S H (.ref l) xs := ⟨l, ws, rfl, SqL.of h, r⟩
theorem LP.ofL (e : Same S H) (h : (qL τ).R S v xs) : LP τ S H v xs := by
  obtain ⟨a, ws, rfl, h1, h2⟩ := h
  exact ⟨a, ws, rfl, e _ _ h1, h2⟩
theorem LP.cel (h : H l = some (.lst ws)) (r : RL τ S ws xs) : LP τ S H (.ref l) xs := ⟨l, ws, rfl, h, r⟩
theorem c_freeze (g : Grow L S0 H0 S H) (c : Cel L H0 S H l (.lst ws)) (z : H0 l = none) (r : RL τ S ws xs) :
    ∃ S1, Grow L S0 H0 S1 H ∧ Same S S1 ∧ (qL τ).R S1 (.ref l) xs ∧ ∀ l' o', l' ≠ l → Cel L H0 S H l' o' → Cel L H0 S1 H l' o' :=
  ⟨_, g.freeze c z, same_upd c.s, ⟨l, ws, rfl, upd_same, RL.mono (same_upd c.s) r⟩, fun _ _ n c' => c'.freeze n⟩
theorem look_none {ns : List Str} {fs : List (Str × V)} {m : Str} (e : fs.map (·.1) = ns) (h : m ∉ ns) : fs.lookup m = none := by
  subst e
  induction fs with
  | nil => rfl
  | cons p fs ih =>
    obtain ⟨k, w⟩ := p
    rw [List.map_cons, List.mem_cons, not_or] at h
    rw [List.lookup_cons]
    have : (m == k) = false := beq_eq_false_iff_ne.mpr h.1
    rw [this]
    exact ih h.2

/-! ### values -/
theorem nn_q (h : (qQ τ).R H v xs) : v ≠ .non := by
  obtain ⟨a, ws, rfl, _⟩ := h
  exact fun z => nomatch z
theorem ty_q (h : (qQ τ).R H v xs) : TyX K H v (.type "list") := by
  obtain ⟨a, ws, rfl, h, _⟩ := h
  rcases h with (h | ⟨o, h⟩) | ⟨o, its, n, h, c, _⟩
  · exact .base (.lst h)
  · exact .base (.frz h)
  · exact .kList h c
theorem dec_nn (h : v ≠ .non) : decide (v = .non) = false := decide_eq_false h
theorem dec_nnN (h : v ≠ .non) : (!decide (v = .non)) = true := by rw [decide_eq_false h]; rfl
theorem ty_scI (h : (qI (K := K)).R H v i) : TyX K H v (.type "int") := by cases h; exact ty_int
theorem ty_scB (h : (qB (K := K)).R H v b) : TyX K H v (.type "bool") := by cases h; exact ty_bl
theorem ty_scS {s : Str} (h : (qS (K := K)).R H v s) : TyX K H v (.type "str") := by cases h; exact ty_str
theorem v_catS {s t : Str} (ha : Val ta σ H (.str s)) (hb : Val tb σ H (.str t)) (hz : s.length + t.length ≤ 16777216) : Val (tOp (fun x y H Q => ∃ i j, x = .str i ∧ y = .str j ∧ i.length + j.length ≤ sizeLine ∧ Q (.str (i ++ j)) H) ta tb) σ H (.str (s ++ t)) := fun Q q => ha _ (hb _ ⟨s, t, rfl, rfl, hz, q⟩)
theorem e_catS {s t : Str} (hz : s.length + t.length ≤ 16777216) (q : Q (.str (s ++ t)) H) : (fun (x y : V) (H : Hp) (Q : VK) => ∃ i j, x = .str i ∧ y = .str j ∧ i.length + j.length ≤ sizeLine ∧ Q (.str (i ++ j)) H) (.str s) (.str t) H Q := ⟨s, t, rfl, rfl, hz, q⟩
theorem v_lenS {s : Str} (hz : s.length ≤ 16777216) (ha : Val ta σ H (.str s)) : Val (tCB (fun xs H Q => ∃ z, xs = [.str z] ∧ z.length ≤ sizeLine ∧ Q (.int z.length) H) (tCons ta tNil)) σ H (.int (s.length : Int)) := fun Q q => ha _ ⟨s, rfl, hz, q⟩
theorem e_len (h : (qQ τ).R H v xs) (q : Q (.int (xs.length : Int)) H) : rLenS K [v] H Q := by
  obtain ⟨a, ws, rfl, h2, h3⟩ := h
  exact ⟨a, ws, rfl, .inl h2, by rw [h3.length]; exact q⟩
theorem ints_of {xs : List Int} : ∀ {ws : List V}, RL (K := K) qI H ws xs → ws = xs.map V.int := fun h => RL.eqmap V.int (fun _ _ q => q) h
theorem e_sum {xs : List Int} (h : (qQ (K := K) qI).R H v xs) (q : Q (.int xs.sum) H) : rSum K [v] H Q := by
  obtain ⟨a, ws, rfl, h2, h3⟩ := h
  exact ⟨a, xs, rfl, by rw [← ints_of h3]; exact h2, q⟩
theorem v_sum {xs : List Int} (ha : Val ta σ H v) (h : (qQ (K := K) qI).R H v xs) : Val (tCB (rSum K) (tCons ta tNil)) σ H (.int xs.sum) := fun Q q => ha _ (e_sum h q)
theorem e_isN (e : decide (x = .non) = b) (q : Q (.bl b) H) : rIsN x .non H Q := ⟨rfl, by rw [e]; exact q⟩
theorem e_notN (e : (!decide (x = .non)) = b) (q : Q (.bl b) H) : rNotN x .non H Q := ⟨rfl, by rw [e]; exact q⟩
/-- pairs of whole numbers in order -/
def ltP2 (p q : Int × Int) : Bool := SrtO.lexB p q
theorem lex2 (p q : Int × Int) : HT.lexLt [p.1, p.2] [q.1, q.2] = ltP2 p q := by
  unfold ltP2 SrtO.lexB
  rw [HT.lexLt_cons, HT.lexLt_cons, HT.lexLt_nil_nil]
  by_cases h1 : p.1 = q.1
  · rw [if_pos h1, if_pos h1]
    by_cases h2 : p.2 = q.2
    · rw [if_pos h2, h2]; simp
    · rw [if_neg h2]
  · rw [if_neg h1, if_neg h1]
def rPair (f : Int × Int → Int × Int → Bool) (K : PySem.W.Frag) : R2 := fun x y H Q => ∃ (a b : Addr) (p q : Int × Int), x = .ref a ∧ y = .ref b ∧ SqT K H a [.int p.1, .int p.2] ∧ SqT K H b [.int q.1, .int q.2] ∧ Q (.bl (f p q)) H
theorem op_ltP {X : Cx} (hu : X.A.units < cLine) : OpR X (compareOp .Lt) (rPair ltP2 X.K) := fun pins s σ H x y v u Q I rx ry h => by
  obtain ⟨a, b, p, q, rfl, rfl, ha, hb, k⟩ := h
  exact op_ltT hu pins s σ H _ _ v u Q I rx ry ⟨a, b, [p.1, p.2], [q.1, q.2], rfl, rfl, ha, hb, by rw [lex2]; exact k⟩
theorem op_geP {X : Cx} (hu : X.A.units < cLine) : OpR X (compareOp .GtE) (rPair (fun p q => !ltP2 p q) X.K) := by
  intro pins s σ H x y v u Q I rx ry h
  obtain ⟨a, b, p, q, rfl, rfl, ha, hb, k⟩ := h
  cases rx
  cases ry
  obtain ⟨its, r1, p1, _⟩ := I.tuple ha
  obtain ⟨its2, r2, p2, _⟩ := I.tuple hb
  obtain ⟨ns, ens⟩ : ∃ ns, ns = [p.1, p.2] := ⟨_, rfl⟩
  obtain ⟨ms, ems⟩ : ∃ ms, ms = [q.1, q.2] := ⟨_, rfl⟩
  have i1 : IntsAre its ns := by rw [ens]; exact Vals.ints (ns := [p.1, p.2]) r1
  have i2 : IntsAre its2 ms := by rw [ems]; exact Vals.ints (ns := [q.1, q.2]) r2
  have e1 : its.toArray.size = ns.length := by rw [List.size_toArray]; exact i1.length
  have e2 : its2.toArray.size = ms.length := by rw [List.size_toArray]; exact i2.length
  have at1 : ∀ j (h1 : j < its.toArray.size), ∃ t, its.toArray[j] = .int (ns.getD j 0) t := fun j h1 => PyProof.Rows.IntsAre.int_at i1 _ _ (by simp at h1; simp [h1])
  have at2 : ∀ j (h1 : j < its2.toArray.size), ∃ t, its2.toArray[j] = .int (ms.getD j 0) t := fun j h1 => PyProof.Rows.IntsAre.int_at i2 _ _ (by simp at h1; simp [h1])
  have R := Ob.RcOp.tuples_ge (A := X.A) (s := s) (e := fun j => decide (ns.getD j 0 = ms.getD j 0)) (r := fun j => decide (ms.getD j 0 ≤ ns.getD j 0)) p1 p2 hu (fun j h1 h2 => by
    obtain ⟨t, et⟩ := at1 j h1
    obtain ⟨t', et'⟩ := at2 j h2
    rw [et, et']
    have z : (ns.getD j 0 == ms.getD j 0) = decide (ns.getD j 0 = ms.getD j 0) := by
      by_cases q : ns.getD j 0 = ms.getD j 0
      · rw [decide_eq_true q]; exact beq_iff_eq.mpr q
      · rw [decide_eq_false q]; exact beq_eq_false_iff_ne.mpr q
    rw [← z]
    exact SeqAt.EqAt.int_int _ _ _ _) (fun j h1 h2 _ => by
    obtain ⟨t, et⟩ := at1 j h1
    obtain ⟨t', et'⟩ := at2 j h2
    rw [et, et']
    exact Ob.RcOp.ge_int _ _ _ _)
  rw [e1, e2] at R
  have key : Ob.lexAt (fun j => decide (ns.getD j 0 = ms.getD j 0)) (fun j => decide (ms.getD j 0 ≤ ns.getD j 0)) (decide (ns.length ≥ ms.length)) 0 (min ns.length ms.length) = !ltP2 p q := by
    subst ens; subst ems
    show Ob.lexAt _ _ _ 0 2 = _
    rw [Ob.lexAt_succ, Ob.lexAt_succ, Ob.lexAt_zero]
    unfold ltP2 SrtO.lexB
    simp only [List.getD_cons_zero, List.getD_cons_succ, decide_eq_true_iff]
    by_cases h1 : p.1 = q.1
    · rw [if_pos h1, if_pos h1]
      by_cases h2 : p.2 = q.2
      · rw [if_pos h2, h2]; simp
      · rw [if_neg h2]
        have : decide (q.2 ≤ p.2) = !decide (p.2 < q.2) := by rw [← decide_not]; exact decide_eq_decide.mpr (by omega)
        rw [this]
    · rw [if_neg h1, if_neg h1]
      have : decide (q.1 ≤ p.1) = !decide (p.1 < q.1) := by rw [← decide_not]; exact decide_eq_decide.mpr (by omega)
      rw [this]
  rw [key] at R
  have z : wpAny (model X.prog X.w) X.A (compareOp .GtE (.ref a) (.ref b)) (EP X pins σ Q) X.xe s := R X.prog X.w X.xe (EP X pins σ Q) ⟨.bl _, H, I, rfl, k⟩
  exact z
theorem e_P2 {f : Int × Int → Int × Int → Bool} {p q : Int × Int} (h1 : (qT2 (K := K) qI qI).R H x p) (h2 : (qT2 (K := K) qI qI).R H y q) (k : Q (.bl (f p q)) H) : rPair f K x y H Q := by
  obtain ⟨a, w1, w2, rfl, ha, rfl, rfl⟩ := h1
  obtain ⟨b, u1, u2, rfl, hb, rfl, rfl⟩ := h2
  exact ⟨a, b, p, q, rfl, rfl, SqT.of ha, SqT.of hb, k⟩
theorem v_P2 {f : Int × Int → Int × Int → Bool} {p q : Int × Int} (ha : Val ta σ H x) (hb : Val tb σ H y) (h1 : (qT2 (K := K) qI qI).R H x p) (h2 : (qT2 (K := K) qI qI).R H y q) : Val (tOp (rPair f K) ta tb) σ H (.bl (f p q)) := fun Q k => ha _ (hb _ (e_P2 h1 h2 k))

/-! ### new lists -/
theorem l_slice {lo hi : Option Int} (h : LS τ S H v xs) (k : ∀ p ws H', Same H H' → H p = none → H' p = some (.lst ws) → RL τ S ws (cutI xs lo hi) → Q (.ref p) H') : rSlL K v lo hi H Q := by
  obtain ⟨a, ws, rfl, h2, h3⟩ := h
  exact ⟨a, ws, rfl, h2, fun l hl => k l _ _ (same_upd hl) hl upd_same (h3.cut lo hi)⟩
theorem l_list (h : LS τ S H v xs) (k : ∀ p ws H', Same H H' → H p = none → H' p = some (.lst ws) → RL τ S ws xs → Q (.ref p) H') :
    ∃ p ys, [v] = [.ref p] ∧ (SqL K H p ys ∨ SqT K H p ys) ∧ ∀ l, H l = none → Q (.ref l) (upd H l (.lst ys)) := by
  obtain ⟨a, ws, rfl, h2, h3⟩ := h
  exact ⟨a, ws, rfl, .inl h2, fun l hl => k l ws _ (same_upd hl) hl upd_same h3⟩
theorem l_cat (h1 : LP τ S H x xs) (h2 : LP τ S H y ys) (hz : xs.length + ys.length ≤ 16777216) (k : ∀ p ws H', Same H H' → H p = none → H' p = some (.lst ws) → RL τ S ws (xs ++ ys) → Q (.ref p) H') : rCat x y H Q := by
  obtain ⟨a, ws, rfl, ha, ra⟩ := h1
  obtain ⟨b, us, rfl, hb, rb⟩ := h2
  exact ⟨a, b, ws, us, rfl, rfl, ha, hb, by rw [ra.length, rb.length]; exact hz, fun p hp => k p _ _ (same_upd hp) hp upd_same (ra.app rb)⟩
/-- rising, by insertion -/
def insB {β : Type} (lt : β → β → Bool) (x : β) : List β → List β
  | [] => [x]
  | y :: ys => if lt y x = true then y :: insB lt x ys else x :: y :: ys
def sortB {β : Type} (lt : β → β → Bool) : List β → List β
  | [] => []
  | x :: xs => insB lt x (sortB lt xs)
theorem insB_perm {β : Type} {lt : β → β → Bool} {x : β} : ∀ ys : List β, (insB lt x ys).Perm (x :: ys)
  | [] => .refl _
  | y :: ys => by
    unfold insB
    split
    · exact ((insB_perm ys).cons y).trans (.swap x y ys)
    · exact .refl _
theorem sortB_perm {β : Type} {lt : β → β → Bool} : ∀ xs : List β, (sortB lt xs).Perm xs
  | [] => .refl _
  | x :: xs => (insB_perm _).trans ((sortB_perm xs).cons x)
theorem insB_srt {β : Type} {lt : β → β → Bool} (asy : ∀ a b, lt a b = true → lt b a = false) (tr : ∀ a b c, lt b a = false → lt c b = false → lt c a = false) {x : β} : ∀ {ys : List β}, SrtO.Srtd lt ys → SrtO.Srtd lt (insB lt x ys)
  | [], _ => List.pairwise_singleton _ _
  | y :: ys, h => by
    unfold insB
    obtain ⟨h1, h2⟩ := List.pairwise_cons.mp h
    split
    · rename_i q
      refine List.pairwise_cons.mpr ⟨fun z hz => ?_, insB_srt asy tr h2⟩
      rcases List.mem_cons.mp ((insB_perm ys).mem_iff.mp hz) with rfl | hz
      · exact asy _ _ q
      · exact h1 z hz
    · rename_i q
      have q : lt y x = false := by cases e : lt y x <;> simp_all
      refine List.pairwise_cons.mpr ⟨fun z hz => ?_, h⟩
      rcases List.mem_cons.mp hz with rfl | hz
      · exact q
      · exact tr _ _ _ q (h1 z hz)
theorem sortB_srt {β : Type} {lt : β → β → Bool} (asy : ∀ a b, lt a b = true → lt b a = false) (tr : ∀ a b c, lt b a = false → lt c b = false → lt c a = false) : ∀ xs : List β, SrtO.Srtd lt (sortB lt xs)
  | [] => List.Pairwise.nil
  | x :: xs => insB_srt asy tr (sortB_srt asy tr xs)
/-- two rising lists of the same things are one, where neither-below is equal -/
theorem srt_uniq {β : Type} {lt : β → β → Bool} (tot : ∀ a b, lt a b = false → lt b a = false → a = b) : ∀ {xs ys : List β}, xs.Perm ys → SrtO.Srtd lt xs → SrtO.Srtd lt ys → xs = ys
  | [], ys, p, _, _ => (List.Perm.nil_eq p)
  | x :: xs, [], p, _, _ => absurd p.length_eq (by simp)
  | x :: xs, y :: ys, p, h1, h2 => by
    obtain ⟨a1, a2⟩ := List.pairwise_cons.mp h1
    obtain ⟨b1, b2⟩ := List.pairwise_cons.mp h2
    have e : x = y := by
      rcases List.mem_cons.mp (p.mem_iff.mp List.mem_cons_self) with e | hx
      · exact e
      · rcases List.mem_cons.mp (p.mem_iff.mpr List.mem_cons_self) with e | hy
        · exact e.symm
        · exact tot x y (b1 x hx) (a1 y hy)
    subst e
    rw [srt_uniq tot (p.cons_inv) a2 b2]
abbrev sortP (xs : List (Int × Int)) : List (Int × Int) := sortB ltP2 xs
abbrev ltI (a b : Int) : Bool := decide (a < b)
abbrev sortI (xs : List Int) : List Int := sortB ltI xs
theorem ltP2_iff {p q : Int × Int} : ltP2 p q = true ↔ p.1 < q.1 ∨ (p.1 = q.1 ∧ p.2 < q.2) := SrtO.lexB_iff
theorem ltP2_no {p q : Int × Int} : ltP2 p q = false ↔ ¬ (p.1 < q.1 ∨ (p.1 = q.1 ∧ p.2 < q.2)) := SrtO.lexB_no
theorem ltP2_tot (a b : Int × Int) (h1 : ltP2 a b = false) (h2 : ltP2 b a = false) : a = b := by
  rw [ltP2_no] at h1 h2
  exact Prod.ext (by omega) (by omega)
theorem ltP2_asy (a b : Int × Int) (h : ltP2 a b = true) : ltP2 b a = false := by
  rw [ltP2_iff] at h
  rw [ltP2_no]; omega
theorem ltP2_tr (a b c : Int × Int) (h1 : ltP2 b a = false) (h2 : ltP2 c b = false) : ltP2 c a = false := by
  rw [ltP2_no] at h1 h2 ⊢; omega
theorem ltI_tot (a b : Int) (h1 : ltI a b = false) (h2 : ltI b a = false) : a = b := by
  have := of_decide_eq_false h1
  have := of_decide_eq_false h2
  omega
theorem ltI_asy (a b : Int) (h : ltI a b = true) : ltI b a = false := by
  have := of_decide_eq_true h
  exact decide_eq_false (by omega)
theorem ltI_tr (a b c : Int) (h1 : ltI b a = false) (h2 : ltI c b = false) : ltI c a = false := by
  have := of_decide_eq_false h1
  have := of_decide_eq_false h2
  exact decide_eq_false (by omega)
theorem RL.perm : ∀ {ws : List V} {xs : List α} {ws' : List V}, RL τ H ws xs → ws'.Perm ws → ∃ xs', xs'.Perm xs ∧ RL τ H ws' xs' := by
  intro ws xs ws' r p
  induction p generalizing xs with
  | nil => exact ⟨xs, .refl _, r⟩
  | cons x p ih =>
    cases r with
    | cons a b =>
      obtain ⟨ys, q, s⟩ := ih b
      exact ⟨_ :: ys, q.cons _, .cons a s⟩
  | swap x y l =>
    cases r with
    | cons a b =>
      cases b with
      | cons b c => exact ⟨_, .swap _ _ _, .cons b (.cons a c)⟩
  | trans p q ih1 ih2 =>
    obtain ⟨ys, q1, s1⟩ := ih2 r
    obtain ⟨zs, q2, s2⟩ := ih1 s1
    exact ⟨zs, q2.trans q1, s2⟩
/-- the pair that stands at a value -/
def pairAt (H : Hp) (v : V) : Int × Int := match v with
  | .ref a => match H a with
    | some (.tup [.int i, .int j]) => (i, j)
    | _ => (0, 0)
  | _ => (0, 0)
theorem pairAt_of {p : Int × Int} (h : (qT2 (K := K) qI qI).R H v p) : pairAt H v = p := by
  obtain ⟨a, w1, w2, rfl, h2, rfl, rfl⟩ := h
  simp only [pairAt, h2]
theorem l_sortP {xs : List (Int × Int)} (e : Same S H) (h : LS (qT2 (K := K) qI qI) S H v xs) (k : ∀ p ws H', Same H H' → H p = none → H' p = some (.lst ws) → RL (qT2 (K := K) qI qI) S ws (sortP xs) → Q (.ref p) H') : rSortedPO K [v] H Q := by
  obtain ⟨a, ws, rfl, h2, h3⟩ := h
  have all : ∀ {us : List V} {ys : List (Int × Int)}, RL (qT2 (K := K) qI qI) S us ys → us.map (pairAt H) = ys := by
    intro us ys r
    induction r with
    | nil => rfl
    | cons a _ ih => rw [List.map_cons, ih, pairAt_of (Rep.mono _ e a)]
  refine ⟨a, ws, pairAt H, rfl, h2, fun x hx => ?_, fun ys p h4 h5 hp => ?_⟩
  · clear all k h2
    revert hx
    induction h3 with
    | nil => intro hx; cases hx
    | cons a _ ih =>
      intro hx
      rcases List.mem_cons.mp hx with rfl | hx
      · have r := Rep.mono _ e a
        have z := pairAt_of r
        obtain ⟨t, w1, w2, rfl, ht, rfl, rfl⟩ := r
        exact ⟨t, rfl, by rw [z]; exact ht⟩
      · exact ih hx
  · obtain ⟨zs, q, r⟩ := RL.perm h3 h5.perm
    have ez : zs = ys.map (pairAt H) := (all r).symm
    have s1 : SrtO.Srtd ltP2 zs := by
      rw [ez]
      exact List.pairwise_map.mpr h4
    have : zs = sortP xs := srt_uniq ltP2_tot (q.trans (sortB_perm xs).symm) s1 (sortB_srt ltP2_asy ltP2_tr xs)
    exact k p ys _ (same_upd hp) hp upd_same (this ▸ r)
theorem l_sortI {xs : List Int} (e : Same S H) (h : LS (K := K) qI S H v xs) (k : ∀ p ws H', Same H H' → H p = none → H' p = some (.lst ws) → RL (K := K) qI S ws (sortI xs) → Q (.ref p) H') : rSortedI K [v] H Q := by
  obtain ⟨a, ws, rfl, h2, h3⟩ := h
  refine ⟨a, xs, rfl, by rw [← ints_of h3]; exact h2, fun ns p q h4 hp => ?_⟩
  have s1 : SrtO.Srtd ltI ns := h4.imp fun h => decide_eq_false (by omega)
  have : ns = sortI xs := srt_uniq ltI_tot (q.trans (sortB_perm xs).symm) s1 (sortB_srt ltI_asy ltI_tr xs)
  subst this
  exact k p _ _ (same_upd hp) hp upd_same (RL.map V.int (fun _ => rfl) _)
theorem c_sliceE {r : V → Option Int → Option Int → Hp → VK → Prop} {tl th : TO} (h : te σ H fun x H1 => tSl r (tC x) tl th σ H1 Q) : tSl r te tl th σ H Q := h
theorem c_slice2 {r : V → Option Int → Option Int → Hp → VK → Prop} {tl th : TO} {lo hi : Option Int} (hl : ∀ q : Option Int → Hp → Prop, q lo H → tl σ H q) (hh : ∀ q : Option Int → Hp → Prop, q hi H → th σ H q) (k : r v lo hi H Q) : tSl r (tC v) tl th σ H Q := hl _ (hh _ k)
/-! ### parts -/
theorem e_ix {q : α} (h : LS τ S H v xs) (hx : atI xs i = some q) (k : ∀ w, τ.R S w q → Q w H) : rIxL K v (.int i) H Q := by
  obtain ⟨a, ws, rfl, h2, h3⟩ := h
  obtain ⟨w, ew, r⟩ := h3.at hx
  exact ⟨a, ws, i, w, rfl, rfl, h2, ew, k w r⟩
theorem v_ixr {q : α} (g : Grow L S0 H0 S H) (h : RdL τ L S H0 v xs) (hx : atI xs i = some q) : ∃ w, (∀ {σ : L2.St} {ta tb : TE}, Val ta σ H v → Val tb σ H (.int i) → Val (tOp (rIxL K) ta tb) σ H w) ∧ τ.R S w q := by
  obtain ⟨a, ws, rfl, h2, h3⟩ := LS.rd g h
  obtain ⟨w, ew, r⟩ := h3.at hx
  exact ⟨w, fun ha hb Q z => ha _ (hb _ ⟨a, ws, i, w, rfl, rfl, h2, ew, z⟩), r⟩
end
section
variable {α β γ : Type} {τ : Rep K α} {υ : Rep K β} {φ : Rep K γ}
theorem e_p20 {p : α × β} (e : Same S H) (h : (qT2 τ υ).R S v p) (k : ∀ w, τ.R S w p.1 → Q w H) : rIxT K v (.int 0) H Q := by
  obtain ⟨a, w1, w2, rfl, h2, h3, h4⟩ := h
  exact ⟨a, _, 0, _, rfl, rfl, SqT.of (e _ _ h2), rfl, k w1 h3⟩
theorem e_p21 {p : α × β} (e : Same S H) (h : (qT2 τ υ).R S v p) (k : ∀ w, υ.R S w p.2 → Q w H) : rIxT K v (.int 1) H Q := by
  obtain ⟨a, w1, w2, rfl, h2, h3, h4⟩ := h
  exact ⟨a, _, 1, _, rfl, rfl, SqT.of (e _ _ h2), rfl, k w2 h4⟩
theorem g_tup2 {n : Nat} {p : α × β} {t1 t2 : TG} {q : L2.St → Hp → Prop} (hn : 2 = n) (e : Same S H) (h : (qT2 τ υ).R S v p) (k : ∀ w1 w2, τ.R S w1 p.1 → υ.R S w2 p.2 → t1 w1 σ H fun σ1 H1 => gCons t2 gNil [w2] σ1 H1 q) : gTup K n (gCons t1 (gCons t2 gNil)) v σ H q := by
  subst hn
  obtain ⟨a, w1, w2, rfl, h2, h3, h4⟩ := h
  exact ⟨a, _, rfl, SqT.of (e _ _ h2), rfl, w1, _, rfl, k w1 w2 h3 h4⟩
theorem g_tup3 {n : Nat} {p : α × β × γ} {t1 t2 t3 : TG} {q : L2.St → Hp → Prop} (hn : 3 = n) (e : Same S H) (h : (qT3 τ υ φ).R S v p) (k : ∀ w1 w2 w3, τ.R S w1 p.1 → υ.R S w2 p.2.1 → φ.R S w3 p.2.2 → t1 w1 σ H fun σ1 H1 => gCons t2 (gCons t3 gNil) [w2, w3] σ1 H1 q) : gTup K n (gCons t1 (gCons t2 (gCons t3 gNil))) v σ H q := by
  subst hn
  obtain ⟨a, w1, w2, w3, rfl, h2, h3, h4, h5⟩ := h
  exact ⟨a, _, rfl, SqT.of (e _ _ h2), rfl, w1, _, rfl, k w1 w2 w3 h3 h4 h5⟩
end
theorem g_next {t : TG} {u : TGs} {q : L2.St → Hp → Prop} (k : t v σ H fun σ' H' => u vs σ' H' q) : gCons t u (v :: vs) σ H q := ⟨v, vs, rfl, k⟩
theorem g_end {q : L2.St → Hp → Prop} (k : q σ H) : gNil [] σ H q := ⟨rfl, k⟩
/-- a new pair that is put apart at once -/
theorem g_pair {n : Nat} {p : Addr} {H2 : Hp} {t1 t2 : TG} {w1 w2 : V} {q : L2.St → Hp → Prop} (e : H2 = upd H p (.tup [w1, w2])) (h : H2 p = some (.tup [w1, w2])) (hn : 2 = n) (k : t1 w1 σ H2 fun σ1 H1 => gCons t2 gNil [w2] σ1 H1 q) : gTup K n (gCons t1 (gCons t2 gNil)) (.ref p) σ (upd H p (.tup [w1, w2])) q := by
  subst e; subst hn
  exact ⟨p, _, rfl, SqT.of h, rfl, w1, _, rfl, k⟩

/-! ### loops -/
section
variable {α β : Type} {R : V → α → Prop} {R2 : V → β → Prop} {a : Addr} {us : List V} {xs : List α} {ys : List β}
theorem paired_get {R : V → α → Prop} : ∀ {ws : List V} {xs : List α}, Paired R ws xs → ∀ {i : Nat} {w : V}, ws[i]? = some w → ∃ x, xs[i]? = some x ∧ R w x
  | _, _, .nil, i, w, h => by cases h
  | _, _, .cons r t, 0, w, h => by
    cases h
    exact ⟨_, rfl, r⟩
  | _, _, .cons r t, i + 1, w, h => paired_get t (i := i) h
/-- for x in reversed(xs) -/
theorem z_forV {ws : List V} {tl : TE} {g : TG} {tb : TS} (ha : Val tl σ H (.ref a)) (hp : Paired R ws xs) (Pv : List α → L2.St → Hp → Prop) (h0 : Pv xs.reverse σ H) (hl : ∀ ys σ' H', Pv ys σ' H' → SqL K H' a ws)
    (hs : ∀ w y ys σ' H', R w y → Pv (y :: ys) σ' H' → ∀ N : L2.St → Hp → Prop, (∀ σ'' H'', Pv ys σ'' H'' → N σ'' H'') → g w σ' H' fun σ2 H2 => tb { D with nx := N, ct := N, bk := tu D } σ2 H2) (hd : ∀ σ' H', Pv [] σ' H' → tu D σ' H') :
    tSeq (tFor (iRev K (tCons tl tNil)) g tb) tu D σ H := ha _ ⟨a, ws, rfl, hl _ _ _ h0, by
  have hlen := Paired.length hp
  refine ⟨fun i m σ H => m = ws.length - i ∧ i ≤ ws.length ∧ Pv (xs.reverse.drop i) σ H, ⟨_, rfl, Nat.zero_le _, h0⟩, ?_⟩
  rintro i m σ' H' ⟨rfl, hi, p⟩
  by_cases hlt : i < ws.length
  · have hj : ws.length - 1 - i < ws.length := by omega
    have hx : ws[ws.length - 1 - i]? = some ws[ws.length - 1 - i] := List.getElem?_eq_getElem hj
    refine .inr ⟨⟨hlt, ws, _, hl _ _ _ p, hx⟩, fun σ'' H'' => Pv (xs.reverse.drop (i + 1)) σ'' H'', fun σ'' H'' p' => ⟨ws.length - (i + 1), by omega, rfl, hlt, p'⟩, fun x H'' y => ?_⟩
    obtain ⟨rfl, f1⟩ := y
    have e1 := f1 ws (hl _ _ _ p)
    obtain ⟨q, hq, r⟩ := paired_get hp e1
    have e2 : xs.reverse[i]? = some q := by rw [List.getElem?_reverse (by omega), ← hlen]; exact hq
    have e3 : xs.reverse.drop i = q :: xs.reverse.drop (i + 1) := by
      have hi2 := (List.getElem?_eq_some_iff.mp e2)
      obtain ⟨h1, h2⟩ := hi2
      rw [List.drop_eq_getElem_cons h1, h2]
    rw [e3] at p
    exact hs x q _ σ' H'' r p _ fun _ _ z => z
  · refine .inl ⟨by show ws.length ≤ i; omega, hd σ' H' ?_⟩
    have : xs.reverse.drop i = [] := List.drop_eq_nil_of_le (by rw [List.length_reverse]; omega)
    rw [this] at p
    exact p⟩
def enumF {α : Type} : Nat → List α → List (Int × α)
  | _, [] => []
  | k, x :: xs => ((k : Nat), x) :: enumF (k + 1) xs
def enumI {α : Type} (xs : List α) : List (Int × α) := enumF 0 xs
theorem enumF_len : ∀ (xs : List α) (k : Nat), (enumF k xs).length = xs.length
  | [], _ => rfl
  | _ :: xs, k => congrArg (· + 1) (enumF_len xs (k + 1))
theorem enumF_get : ∀ (xs : List α) (k i : Nat) (x : α), xs[i]? = some x → (enumF k xs)[i]? = some (((k + i : Nat) : Int), x)
  | [], _, i, x, h => by cases h
  | y :: ys, k, 0, x, h => by cases h; rfl
  | y :: ys, k, i + 1, x, h => by
    have := enumF_get ys (k + 1) i x h
    rw [show k + (i + 1) = k + 1 + i by omega]
    exact this
/-- for i, x in enumerate(xs) -/
theorem z_forN {ws : List V} {tl : TE} {g : TG} {tb : TS} (ha : Val tl σ H (.ref a)) (hp : Paired R ws xs) (Pv : List (Int × α) → L2.St → Hp → Prop) (h0 : Pv (enumI xs) σ H) (hl : ∀ ys σ' H', Pv ys σ' H' → SqL K H' a ws)
    (hs : ∀ w (y : Int × α) ys σ' H', R w y.2 → Pv (y :: ys) σ' H' → ∀ N : L2.St → Hp → Prop, (∀ σ'' H'', Pv ys σ'' H'' → N σ'' H'') → ∀ t, H' t = none → g (.ref t) σ' (upd H' t (.tup [.int y.1, w])) fun σ2 H2 => tb { D with nx := N, ct := N, bk := tu D } σ2 H2) (hd : ∀ σ' H', Pv [] σ' H' → tu D σ' H') :
    tSeq (tFor (iEnum K (tCons tl tNil)) g tb) tu D σ H := ha _ ⟨a, ws, rfl, hl _ _ _ h0, by
  have hlen := Paired.length hp
  refine ⟨fun i m σ H => m = ws.length - i ∧ i ≤ ws.length ∧ Pv ((enumI xs).drop i) σ H, ⟨_, rfl, Nat.zero_le _, h0⟩, ?_⟩
  rintro i m σ' H' ⟨rfl, hi, p⟩
  by_cases hlt : i < ws.length
  · have hx : ws[i]? = some ws[i] := List.getElem?_eq_getElem hlt
    refine .inr ⟨⟨ws, _, hl _ _ _ p, hx⟩, fun σ'' H'' => Pv ((enumI xs).drop (i + 1)) σ'' H'', fun σ'' H'' p' => ⟨ws.length - (i + 1), by omega, rfl, hlt, p'⟩, fun x H'' y => ?_⟩
    obtain ⟨t, w, rfl, ht, rfl, f1⟩ := y
    have e1 := f1 ws (hl _ _ _ p)
    obtain ⟨q, hq, r⟩ := paired_get hp e1
    have e2 : (enumI xs)[i]? = some ((i : Int), q) := by
      have := enumF_get xs 0 i q hq
      rw [Nat.zero_add] at this
      exact this
    have e3 : (enumI xs).drop i = ((i : Int), q) :: (enumI xs).drop (i + 1) := by
      obtain ⟨h1, h2⟩ := List.getElem?_eq_some_iff.mp e2
      rw [List.drop_eq_getElem_cons h1, h2]
    rw [e3] at p
    exact hs w _ _ σ' H' r p _ (fun _ _ z => z) t ht
  · refine .inl ⟨⟨ws, hl _ _ _ p, by omega⟩, hd σ' H' ?_⟩
    have : (enumI xs).drop i = [] := List.drop_eq_nil_of_le (by unfold enumI; rw [enumF_len]; omega)
    rw [this] at p
    exact p⟩
/-- for x, y in zip(xs, ys) -/
theorem z_forZ {b : Addr} {ws vs : List V} {tl tl2 : TE} {g : TG} {tb : TS} (ha : Val tl σ H (.ref a)) (hb : Val tl2 σ H (.ref b)) (hp : Paired R ws xs) (hp2 : Paired R2 vs ys) (Pv : List (α × β) → L2.St → Hp → Prop) (h0 : Pv (List.zip xs ys) σ H) (hl : ∀ zs σ' H', Pv zs σ' H' → SqL K H' a ws ∧ SqL K H' b vs)
    (hs : ∀ w w2 (y : α × β) zs σ' H', R w y.1 → R2 w2 y.2 → Pv (y :: zs) σ' H' → ∀ N : L2.St → Hp → Prop, (∀ σ'' H'', Pv zs σ'' H'' → N σ'' H'') → ∀ t, H' t = none → g (.ref t) σ' (upd H' t (.tup [w, w2])) fun σ2 H2 => tb { D with nx := N, ct := N, bk := tu D } σ2 H2) (hd : ∀ σ' H', Pv [] σ' H' → tu D σ' H') :
    tSeq (tFor (iZip K (tCons tl (tCons tl2 tNil))) g tb) tu D σ H := ha _ (hb _ ⟨a, b, ws, vs, rfl, (hl _ _ _ h0).1, (hl _ _ _ h0).2, by
  have hlen := Paired.length hp
  have hlen2 := Paired.length hp2
  refine ⟨fun i m σ H => m = ws.length - i ∧ Pv ((List.zip xs ys).drop i) σ H, ⟨_, rfl, h0⟩, ?_⟩
  rintro i m σ' H' ⟨rfl, p⟩
  obtain ⟨qx, qy⟩ := hl _ _ _ p
  by_cases hlt : i < ws.length ∧ i < vs.length
  · obtain ⟨l1, l2⟩ := hlt
    refine .inr ⟨⟨ws, vs, _, _, qx, qy, List.getElem?_eq_getElem l1, List.getElem?_eq_getElem l2⟩, fun σ'' H'' => Pv ((List.zip xs ys).drop (i + 1)) σ'' H'', fun σ'' H'' p' => ⟨ws.length - (i + 1), by omega, rfl, p'⟩, fun x H'' y => ?_⟩
    obtain ⟨t, w, w2, rfl, ht, rfl, f1, f2⟩ := y
    obtain ⟨q, hq, r⟩ := paired_get hp (f1 ws qx)
    obtain ⟨q2, hq2, r2⟩ := paired_get hp2 (f2 vs qy)
    have e2 : (List.zip xs ys)[i]? = some (q, q2) := by rw [List.getElem?_zip_eq_some]; exact ⟨hq, hq2⟩
    have e3 : (List.zip xs ys).drop i = (q, q2) :: (List.zip xs ys).drop (i + 1) := by
      obtain ⟨h1, h2⟩ := List.getElem?_eq_some_iff.mp e2
      rw [List.drop_eq_getElem_cons h1, h2]
    rw [e3] at p
    exact hs w w2 _ _ σ' H' r r2 p _ (fun _ _ z => z) t ht
  · refine .inl ⟨⟨ws, vs, qx, qy, by omega⟩, hd σ' H' ?_⟩
    have : (List.zip xs ys).drop i = [] := List.drop_eq_nil_of_le (by rw [List.length_zip]; omega)
    rw [this] at p
    exact p⟩)
theorem z_forreversedE {g : TG} {tb : TS} (h : tl σ H fun x H1 => tSeq (tFor (iRev K (tCons (tC x) tNil)) g tb) tu D σ H1) : tSeq (tFor (iRev K (tCons tl tNil)) g tb) tu D σ H := h
theorem z_forenumerateE {g : TG} {tb : TS} (h : tl σ H fun x H1 => tSeq (tFor (iEnum K (tCons (tC x) tNil)) g tb) tu D σ H1) : tSeq (tFor (iEnum K (tCons tl tNil)) g tb) tu D σ H := h
theorem z_forzipE {tl2 : TE} {g : TG} {tb : TS} (h : tl σ H fun x H1 => tl2 σ H1 fun y H2 => tSeq (tFor (iZip K (tCons (tC x) (tCons (tC y) tNil))) g tb) tu D σ H2) : tSeq (tFor (iZip K (tCons tl (tCons tl2 tNil))) g tb) tu D σ H := h
end

/-! ### objects, calls -/
theorem v_fld {l C dx : Addr} {fs : List (Str × V)} {f : Str} {w : V} (ha : Val ta σ H (.ref l)) (h : H l = some (.ins C dx fs)) (c : Cls K C) (n : NoAttr K C f) (hf : fs.lookup f = some w) : Val (tFld K ta f) σ H w := fun Q q => ha _ ⟨l, C, dx, fs, w, rfl, h, c, n, hf, q⟩
theorem c_methO {l C dx : Addr} {fs : List (Str × V)} {m : Str} {sp : Sp} {dvs : List V} {E : XK} {t : TA} (ha : Val ta σ H (.ref l)) (h : H l = some (.ins C dx fs)) (hm : fs.lookup m = none) (k : t σ H fun vs H2 => sp (.ref l :: (vs ++ dvs)) H2 Q E) : tMeth C m sp dvs E ta t σ H Q := ha _ ⟨l, dx, fs, rfl, h, hm, k⟩
theorem c_meth {C : Addr} {ns : List Str} {m : Str} {sp : Sp} {dvs : List V} {E : XK} {t : TA} (ha : Val ta σ H v) (h : ∃ (l dx : Addr) (fs : List (Str × V)), v = .ref l ∧ H l = some (.ins C dx fs) ∧ ∀ m : Str, m ∉ ns → fs.lookup m = none) (hm : m ∉ ns) (k : t σ H fun vs H2 => sp (v :: (vs ++ dvs)) H2 Q E) : tMeth C m sp dvs E ta t σ H Q := by
  obtain ⟨l, dx, fs, rfl, h1, h2⟩ := h
  exact ha _ ⟨l, dx, fs, rfl, h1, h2 m hm, k⟩
theorem v_methO {l C dx : Addr} {fs : List (Str × V)} {m : Str} {sp : Sp} {dvs : List V} {E : XK} {t : TA} {vs : List V} (ha : Val ta σ H (.ref l)) (h : H l = some (.ins C dx fs)) (hm : fs.lookup m = none) (ht : VA t σ H vs) (hs : ∀ Q : VK, Q z H → sp (.ref l :: (vs ++ dvs)) H Q E) : Val (tMeth C m sp dvs E ta t) σ H z := fun Q q => c_methO ha h hm (ht _ (hs Q q))
theorem v_meth {C : Addr} {ns : List Str} {m : Str} {sp : Sp} {dvs : List V} {E : XK} {t : TA} {vs : List V} (ha : Val ta σ H v) (h : ∃ (l dx : Addr) (fs : List (Str × V)), v = .ref l ∧ H l = some (.ins C dx fs) ∧ ∀ m : Str, m ∉ ns → fs.lookup m = none) (hm : m ∉ ns) (ht : VA t σ H vs) (hs : ∀ Q : VK, Q z H → sp (v :: (vs ++ dvs)) H Q E) : Val (tMeth C m sp dvs E ta t) σ H z := fun Q q => c_meth ha h hm (ht _ (hs Q q))
theorem c_make {C : Addr} {sp : Sp} {dvs : List V} {E : XK} {t : TA} (h : t σ H fun vs H1 => ∀ x dx, H1 x = none → H1 dx = none → dx ≠ x →
    sp (.ref x :: (vs ++ dvs)) (upd (upd H1 dx (.own x)) x (.ins C dx [])) (fun v H2 => v = .non ∧ Q (.ref x) H2) E) : tMake C sp dvs E t σ H Q := h
theorem make_in {C : Addr} {vs : List V} {sp : Sp} {Qf : Addr → VK} {E : XK} (h : ∀ x dx H', Same H H' → H x = none → H' x = some (.ins C dx []) → sp (.ref x :: vs) H' (Qf x) E) : ∀ x dx, H x = none → H dx = none → dx ≠ x → sp (.ref x :: vs) (upd (upd H dx (.own x)) x (.ins C dx [])) (Qf x) E :=
  fun x dx hx hdx n => h x dx _ ((same_upd hdx).trans (same_upd (by rw [upd_ne n.symm]; exact hx))) hx upd_same
theorem v_chn {g g' : Int → Int → V} {k l m : Int} (ha : Val ta σ H (.int k)) (hb : Val tb σ H (.int l)) (hc : Val te σ H (.int m)) (h1 : g k l = .bl b) (h2 : g' l m = .bl c) : Val (tChain (rI0 g) (rI0 g') ta tb te) σ H (.bl (b && c)) := v_chain (p := fun _ _ => b) (q := fun _ _ => c) ha hb hc h1 h2
theorem z_fldE {f : Str} (h : te σ H fun y H1 => ta σ H1 fun x H2 => ∃ a C dx fs, x = .ref a ∧ H2 a = some (.ins C dx fs) ∧ Cls K C ∧ NoAttr K C f ∧ fs.length < 1000 ∧ tu D σ (upd H2 a (.ins C dx (putF f y fs)))) : tSeq (sFld K ta te f) tu D σ H := h
theorem c_setF {l C dx : Addr} {fs fs' : List (Str × V)} {f : Str} (g : Grow L S0 H0 S H) (cl : Cel L H0 S H l (.ins C dx fs)) (ho : Val ta σ H (.ref l)) (c : Cls K C) (n : NoAttr K C f) (hn : fs.length < 1000) (he : putF f y fs = fs')
    (k : ∀ H', Grow L S0 H0 S H' → Cel L H0 S H' l (.ins C dx fs') → (∀ l' o', l' ≠ l → Cel L H0 S H l' o' → Cel L H0 S H' l' o') → tu D σ H') :
    ta σ H fun x H2 => ∃ a C dx fs, x = .ref a ∧ H2 a = some (.ins C dx fs) ∧ Cls K C ∧ NoAttr K C f ∧ fs.length < 1000 ∧ tu D σ (upd H2 a (.ins C dx (putF f y fs))) := by
  subst he
  exact ho _ ⟨l, C, dx, fs, rfl, cl.h, c, n, hn, k _ (g.wr cl rfl) (cl.wr rfl) fun l' o' n c => c.wrn n⟩

def gDivW (j : Int) : Prop := 0 < j ∧ j < 2 ^ 200
instance (j : Int) : Decidable (gDivW j) := by unfold gDivW; infer_instance
theorem gDivW.ok {i j : Int} (h : gDivW j) : CDivW i j := wide_div (b := 200) h.1 (by
  have h1 := h.1
  have h2 := h.2
  omega) (by decide) (by decide)
theorem gDivW_nat {n : Nat} (h0 : 0 < n) (h : n < 2 ^ 200) : gDivW (n : Int) := ⟨by omega, by omega⟩
/-! ### more of lists -/
section
variable {α : Type} {τ : Rep K α} {l : Addr} {xs ys : List α}
theorem c_rev (g : Grow L S0 H0 S H) (cl : Cel L H0 S H l (.lst ws)) (r : RL τ S ws xs)
    (k : ∀ H', Grow L S0 H0 S H' → Cel L H0 S H' l (.lst ws.reverse) → RL τ S ws.reverse xs.reverse → (∀ l' o', l' ≠ l → Cel L H0 S H l' o' → Cel L H0 S H' l' o') → Q .non H') : rReverse (.ref l) [] H Q :=
  ⟨l, ws, rfl, rfl, cl.h, k _ (g.wr cl rfl) (cl.wr rfl) r.reverse fun l' o' n c => c.wrn n⟩
theorem c_pop {q : α} (g : Grow L S0 H0 S H) (cl : Cel L H0 S H l (.lst ws)) (r : RL τ S ws xs) (he : xs.getLast? = some q)
    (k : ∀ w, τ.R S w q → ∀ ws' H', Grow L S0 H0 S H' → Cel L H0 S H' l (.lst ws') → RL τ S ws' xs.dropLast → (∀ l' o', l' ≠ l → Cel L H0 S H l' o' → Cel L H0 S H' l' o') → Q w H') : rPop (.ref l) [] H Q := by
  rw [List.getLast?_eq_getElem?] at he
  obtain ⟨w, ew, rw_⟩ := r.get he
  exact ⟨l, ws, w, rfl, rfl, cl.h, by rw [r.length]; exact ew, k w rw_ _ _ (g.wr cl rfl) (cl.wr rfl) r.dropLast fun l' o' n c => c.wrn n⟩
theorem c_setL2 {q : α} {P : Hp → Prop} (g : Grow L S0 H0 S H) (cl : Cel L H0 S H l (.lst ws)) (r : RL τ S ws xs) (rv : τ.R S v q) (he : setI xs i q = some ys)
    (k : ∀ ws' H', Grow L S0 H0 S H' → Cel L H0 S H' l (.lst ws') → RL τ S ws' ys → (∀ l' o', l' ≠ l → Cel L H0 S H l' o' → Cel L H0 S H' l' o') → P H') : rSetL (.ref l) (.int i) v H P := by
  unfold setI at he
  cases e : ixN xs.length i with
  | none => rw [e] at he; cases he
  | some j =>
    rw [e] at he
    cases (Option.some.inj he)
    exact ⟨l, ws, i, j, rfl, rfl, cl.h, by rw [r.length]; exact e, k _ _ (g.wr cl rfl) (cl.wr rfl) (r.set rv j) fun l' o' n c => c.wrn n⟩
end
/-- xs[i] op= e -/
def sXAug (td ty tv : TE) (ri : R2) (rd : TIp) (t : TSet) : TS := fun D σ H => td σ H fun x H1 => ty σ H1 fun y H2 => ri x y H2 fun v H3 => tv σ H3 fun y2 H4 => rd v y2 H4 fun z H5 => t x y z H5 fun H6 => D.nx σ H6
theorem get_list {X : Cx} {pins : List (Addr × Obj)} {s : Shared} {u w : Value} (I : Inv X pins σ H s) (rx : RelV x u) (ry : RelV y w) (h : rIxL X.K x y H Q) : wpAny (model X.prog X.w) X.A (getItem u w) (EP X pins σ Q) X.xe s := by
  obtain ⟨p, xs, i, z, rfl, rfl, hq, he, q⟩ := h
  cases rx
  obtain ⟨t, rfl⟩ := ry
  obtain ⟨its, r, pl, hz⟩ := I.list hq
  obtain ⟨j, h1, h2, h3, h4, h5⟩ := L2.atI_get he
  obtain ⟨w, ew, rw'⟩ := r.get h2
  have hl := r.length
  have hn := line63
  have fin : EP X pins σ Q w s := ⟨z, H, I, rw', q⟩
  by_cases h0 : 0 ≤ i
  · have hj : i.toNat = j := by
      rw [seqIndex_of h0 h5] at h1
      exact Option.some.inj h1
    exact wpAny_getItem_list pl.isList h0 (by omega) (by rw [hj]; simpa using ew) fin
  · have hj : (i + (its.toArray.size : Int)).toNat = j := by
      rw [seqIndex_neg (by omega) h4] at h1
      rw [List.size_toArray, ← hl]
      exact Option.some.inj h1
    exact wpAny_getItem_list_neg pl.isList (by omega) (by rw [List.size_toArray] <;> omega) (by omega) (by rw [hj]; simpa using ew) fin
theorem ps_xaug {X : Cx} {o i value : Expr} {tpos pos : Pos} {op : Operator} {td ty tv : TE} {rd : TIp} (ho : PE X o td) (hi : PE X i ty) (hv : PE X value tv) (hop : PIp X op rd)
    (ha : ∀ ov iv new, augStore i ov iv new = (do holding [new, ov, iv] (setItem ov iv new); release [new, ov, iv] []; pure .next)) : PS X (.AugAssign (.Subscript o i tpos) op value pos) (sXAug td ty tv (rIxL X.K) rd rSetL) := by
  refine ⟨fun pins s σ H D I h => ?_⟩
  refine wpAny_AugAssign_SubscriptAny (thn (ho.run pins s σ H _ I h) fun u s1 ⟨x, H1, I1, rx, q1⟩ => thn (hi.run pins s1 σ H1 _ I1 q1) fun iv s2 ⟨y, H2, I2, ry, q2⟩ => ?_) ha
  refine thn (get_list I2 rx ry q2) fun w' s3 ⟨v, H3, I3, rw', q3⟩ => thn (hv.run pins s3 σ H3 _ I3 q3) fun w2 s4 ⟨y2, H4, I4, ry2, q4⟩ => thn (hop pins s4 σ H4 v y2 w' w2 _ I4 rw' ry2 q4) fun w3 s5 ⟨z, H5, I5, rz, q5⟩ => ?_
  exact thn (set_list pins s5 σ H5 x y z u iv w3 _ I5 rx ry rz q5) fun _ s6 ⟨H6, I6, q6⟩ => ⟨σ, H6, I6, q6⟩
theorem z_xaug {α : Type} {τ : Rep K α} {l : Addr} {xs : List α} {q : α} {rd : TIp} {t : TSet} {f : α → V} (ho : Val ta σ H (.ref l)) (hi : Val tb σ H (.int i)) (h : H l = some (.lst ws)) (r : RL τ S ws xs) (hx : atI xs i = some q)
    (k : ∀ w, τ.R S w q → te σ H fun y2 H4 => rd w y2 H4 fun z H5 => t (.ref l) (.int i) z H5 fun H6 => tu D σ H6) : tSeq (sXAug ta tb te (rIxL K) rd t) tu D σ H := by
  obtain ⟨w, ew, rw_⟩ := r.at hx
  exact ho _ (hi _ ⟨l, ws, i, w, rfl, rfl, SqL.of h, ew, k w rw_⟩)
theorem z_xaugI {l : Addr} {xs : List Int} {q : Int} {rd : TIp} {t : TSet} (ho : Val ta σ H (.ref l)) (hi : Val tb σ H (.int i)) (h : H l = some (.lst ws)) (r : RL (K := K) qI S ws xs) (hx : atI xs i = some q)
    (k : te σ H fun y2 H4 => rd (.int q) y2 H4 fun z H5 => t (.ref l) (.int i) z H5 fun H6 => tu D σ H6) : tSeq (sXAug ta tb te (rIxL K) rd t) tu D σ H :=
  z_xaug (τ := qI) (f := V.int) ho hi h r hx fun w e => by cases e; exact k
theorem z_augE {k : Nat} {ti : TIp} (hx : σ[k]? = some (some x)) (h : te σ H fun y H1 => ti x y H1 fun v H2 => tu D (σ.set k (some v)) H2) : tSeq (tAug k te ti) tu D σ H := ⟨x, hx, h⟩
theorem q_set {k : Nat} {w : V} (e : v = w) (hs : σ.set k (some w) = σ') (q : tu D σ' H) : tu D (σ.set k (some v)) H := by subst e; subst hs; exact q
theorem z_augS {k : Nat} {w : V} {s r : Str} (hx : σ[k]? = some (some (.str s))) (hv : Val te σ H (.str r)) (hz : s.length + r.length ≤ 16777216) (he : V.str (s ++ r) = w) (hs : σ.set k (some w) = σ') (q : tu D σ' H) :
    tSeq (tAug k te (fun x y H Q => ∃ i j, x = .str i ∧ y = .str j ∧ i.length + j.length ≤ sizeLine ∧ Q (.str (i ++ j)) H)) tu D σ H :=
  z_aug hx hv (fun _ q => ⟨s, r, rfl, rfl, hz, q⟩) he hs q
theorem c_bits (h : te σ H fun x H1 => ∃ i, x = .int i ∧ Q (.int (Builtin.Int.intBits i : Nat)) H1) : tBits te σ H Q := h
theorem c_notV (h : ta σ H fun x H1 => ∃ c, x = .bl c ∧ Q (.bl (!c)) H1) : tNotV ta σ H Q := h
theorem c_chain {r r' : R2} (h : ta σ H fun x H1 => tb σ H1 fun y H2 => r x y H2 fun z H3 => ∃ k, z = .bl k ∧ if k = true then te σ H3 fun w' H4 => r' y w' H4 Q else Q (.bl false) H3) : tChain r r' ta tb te σ H Q := h
theorem e_chain {g g' : Int → Int → V} {k l m : Int} (hc : Val te σ H (.int m)) (h1 : g k l = .bl b) (h2 : g' l m = .bl c) (q : Q (.bl (b && c)) H) : rI0 g (.int k) (.int l) H fun z H3 => ∃ k, z = .bl k ∧ if k = true then te σ H3 fun w' H4 => rI0 g' (.int l) w' H4 Q else Q (.bl false) H3 := ⟨k, l, rfl, rfl, b, h1, by
  cases b with
  | true => exact (show (if true = true then _ else _) from hc _ ⟨l, m, rfl, rfl, by rw [h2]; exact q⟩)
  | false => exact (show (if false = true then _ else _) from q)⟩
end
/-! ### classes of errors -/
structure ExF (K : PySem.W.Frag) (C : Addr) : Prop where
  x : PySem.W.excIn K C [.type "ValueError", .type "Exception", .type "BaseException", .type "object"] "ValueError.__new__" = true
  k : PySem.W.keepIn K (.ref C) = true
  b : PySem.W.subIn K (.ref C) (.type "BaseException") = some true
  t : PySem.W.typeIn K (.ref C) = some (.type "type")
theorem bt_sorted : bootBuiltins "sorted" = some (.builtin "sorted") := by decide +kernel
theorem bt_sum : bootBuiltins "sum" = some (.builtin "sum") := by decide +kernel
end Z

namespace Z
open PySem PySem.Spec PyProof.Rows L2 RT
/-! ### list(reversed(xs)) -/
section
variable {prog : Program} {w : World} {A : Around} {E : Value → Shared → Prop} {s : Shared} {it l : Addr} {items : Array Value}
abbrev RvOf (items : Array Value) : Nat → Value → Prop := fun i v => items[items.size - 1 - i]? = some v
theorem rl_extend {R : Result → Shared → Prop} (hh : A.handled = none) (hit : s.heap.IsRevIter it l ((items.size : Int) - 1)) (hl : s.heap.IsList l items) (hne : l ≠ it) (hn : items.size ≤ sizeLine)
    (S : Addr) (hSi : S ≠ it) (hSl : S ≠ l) (res : Value) (c₀ : Nat) (hS : s.heap.get? S = some { cls := .type "list", data := .seq #[] c₀ })
    (hR : ∀ h' tk acc' c', (∀ b o, b ≠ S → b ≠ it → s.heap.get? b = some o → h'.get? b = some o) → h'.get? S = some { cls := .type "list", dict := none, data := .seq acc' c', slots := #[] } → ItemsOf (RvOf items) acc' items.size → R (.ok (.ret res)) { s with heap := h', toks := tk }) :
    wpAny (model prog w) A.in1 (Builtin.List.listExtendWith (.ref S) (.ref it) res)
      (fun fin s' => match fin with | .done f => R (.ok f) s' | .again c' => c'.quiet = true ∧ codeAny (model prog w) A c' R s') (fun e s' => R (.error e) s') s := by
  have W := (Walks.listRev (prog := prog) (w := w) (A := A.in1) hh it l hne items).toS
  have hSf : S ∉ [it, l] := by simp only [List.mem_cons, List.not_mem_nil, or_false, not_or]; exact ⟨hSi, hSl⟩
  have hT : s.TypeIs (.ref it) "list_reverseiterator" := Heap.IsRevIter.typeIs (s := s) hit
  have h1 : Builtin.List.listSameRef (.ref S) (.ref it) = false := by simp [Builtin.List.listSameRef, hSi]
  unfold Builtin.List.listExtendWith
  refine wpAny_bind (wpAny_typeOf hT ?_)
  rw [if_neg (by rw [h1]; decide)]
  refine wpAny_bind (wpAny_pyIter_revIter hit ?_)
  refine wpAny_bind (wpAny_holding ?_)
  unfold Builtin.List.listLengthHint
  refine wpAny_bind (wpAny_specialOf hT nolen_lri ?_)
  show wpAny _ A.in1 (specialOf (Value.ref it) (Str.ofString "__length_hint__") >>= _) _ _ _
  refine wpAny_bind (wpAny_specialOf hT hint_lri ?_)
  generalize hid : ("list_reverseiterator.__length_hint__" : String) = id0
  wp_delta
  rw [show splitId id0 = some ("list_reverseiterator", "__length_hint__") from by subst hid; decide +kernel]
  subst hid
  refine wpAny_bind (wpAny_isInstance (b := true) hT (by rw [isSubtype_type]; kernel_rfl) ?_)
  refine wpAny_pure ?_
  rw [if_neg (by decide)]
  have e0 : ((items.size : Nat) : Int) - 1 - ((0 : Nat) : Int) = (items.size : Int) - 1 := by omega
  refine wpAny_pure ⟨plainId_quiet PySem.F.plain_extend_loop _, codeAny_extend_loopS W hn _ hSf _ items.size 0 _ _ _ rfl (Nat.zero_le _) ⟨Nat.zero_le _, by rw [e0]; exact hit, hl⟩ hS (ItemsOf.nil _) fun s' acc' c' hm hS' hacc => ?_⟩
  rw [Moved.eq_with hm]
  refine hR s'.heap s'.toks acc' c' (fun b o hb hb2 e => hm.heap b o (fun hmem => ?_) e) hS' hacc
  rcases List.mem_cons.mp hmem with e' | hmem
  · exact hb e'
  · exact hb2 (List.mem_singleton.mp hmem)
theorem rl_init {R : Result → Shared → Prop} (hh : A.handled = none) (hit : s.heap.IsRevIter it l ((items.size : Int) - 1)) (hl : s.heap.IsList l items) (hne : l ≠ it) (hn : items.size ≤ sizeLine)
    (S : Addr) (hSi : S ≠ it) (hSl : S ≠ l) (hS : s.heap.get? S = some { cls := .type "list", data := .seq #[] })
    (hR : ∀ h' tk acc' c', (∀ b o, b ≠ S → b ≠ it → s.heap.get? b = some o → h'.get? b = some o) → h'.get? S = some { cls := .type "list", dict := none, data := .seq acc' c', slots := #[] } → ItemsOf (RvOf items) acc' items.size → R (.ok (.ret .none)) { s with heap := h', toks := tk }) :
    wpAny (model prog w) A.in1 (Builtin.«list.__init__» ⟨[.ref S, .ref it], []⟩)
      (fun fin s' => match fin with | .done f => R (.ok f) s' | .again c' => c'.quiet = true ∧ codeAny (model prog w) A c' R s') (fun e s' => R (.error e) s') s := by
  show wpAny _ _ (do let old ← Builtin.List.listItems (.ref S); Builtin.List.listUpdate (.ref S) (fun _ => #[]); letGo old.toList.reverse; Builtin.List.listExtendWith (.ref S) (.ref it) .none) _ _ s
  refine wpAny_bind ?_
  unfold Builtin.List.listItems
  refine wpAny_bind (wpAny_seqItems hS rfl (wpAny_pure ?_))
  show wpAny _ _ (updateSeq S (fun _ => #[]) >>= fun _ => letGo (#[] : Array Value).toList.reverse >>= fun _ => Builtin.List.listExtendWith (.ref S) (.ref it) .none) _ _ s
  refine wpAny_bind (wpAny_updateSeq hS rfl ?_)
  have hS₂ := Heap.get?_update_self (Obj.mapSeq (fun _ => (#[] : Array Value))) hS rfl
  have oth : ∀ b o, b ≠ S → s.heap.get? b = some o → (s.heap.update S (Obj.mapSeq (fun _ => (#[] : Array Value)))).get? b = some o :=
    fun b o hb e => (Heap.get?_update_other _ _ (Ne.symm hb)).trans e
  refine wpAny_bind (wpAny_letGo ?_)
  refine rl_extend (s := { s with heap := s.heap.update S (Obj.mapSeq (fun _ => (#[] : Array Value))) }) hh (hit.at fun o e => oth it o hSi.symm e) (hl.at fun o e => oth l o hSl.symm e) hne hn S hSi hSl .none _ hS₂ (fun h' tk acc' c' hk hS' hacc => ?_)
  exact hR h' tk acc' c' (fun b o hb hb2 e => hk b o hb hb2 (oth b o hb e)) hS' hacc
theorem call_list_rev {Q : Value → Shared → Prop} (hh : A.handled = none) (hit : s.heap.IsRevIter it l ((items.size : Int) - 1)) (hl : s.heap.IsList l items) (hne : l ≠ it) (hn : items.size ≤ sizeLine)
    (hQ : ∀ h' tk acc' c', (∀ b o, b ≠ it → s.heap.get? b = some o → h'.get? b = some o) → h'.get? s.heap.objs.size = some { cls := .type "list", dict := none, data := .seq acc' c', slots := #[] } → ItemsOf (RvOf items) acc' items.size → Q (.ref s.heap.objs.size) { s with heap := h', toks := tk }) :
    wpAny (model prog w) A (call (.type "list") [.ref it]) Q E s := by
  refine callType_codes (Q₁ := fun obj s₁ => obj = .ref s.heap.objs.size ∧ s₁ = { s with heap := s.heap.push { cls := .type "list", data := .seq #[] } }) PySem.F.called_list (PySem.F.typeCall_list_1 _) PySem.F.entry_list_init
    (code_list_new _ ⟨rfl, rfl⟩) fun obj s₁ h₁ => ?_
  obtain ⟨rfl, rfl⟩ := h₁
  have hS : (s.heap.push { cls := .type "list", data := .seq #[] }).get? s.heap.objs.size = some { cls := .type "list", data := .seq #[] } := Heap.get?_push_size _ rfl
  obtain ⟨oi, hoi, _⟩ := id hit
  obtain ⟨ol, hol, _⟩ := id hl
  refine ⟨⟨_, hS, rfl⟩, PySem.F.args_list_init_2 _ _, rl_init (A := A.in1) (s := { s with heap := s.heap.push { cls := .type "list", data := .seq #[] } }) hh (hit.at fun o e => Heap.get?_push_of_some _ e) (hl.push _) hne hn _ (Nat.ne_of_gt (Heap.lt_size hoi)) (Nat.ne_of_gt (Heap.lt_size hol)) hS (fun h' tk acc' c' hk hS' hacc => ?_)⟩
  exact ⟨rfl, hQ h' tk acc' c' (fun b o hb e => hk b o (Nat.ne_of_lt (Heap.lt_size e)) hb (Heap.get?_push_of_some _ e)) hS' hacc⟩
end
def rListRev (K : PySem.W.Frag) (v : V) (H : Hp) (Q : VK) : Prop := ∃ (a : Addr) (xs : List V), v = .ref a ∧ SqL K H a xs ∧ ∀ q, H q = none → Q (.ref q) (upd H q (.lst xs.reverse))
def tListRev (K : PySem.W.Frag) (te : TE) : TE := fun σ H Q => te σ H fun v H1 => rListRev K v H1 Q
theorem pe_listRev {X : Cx} {e : Expr} {te : TE} {p p2 pos pos2 : Pos} (hc : X.calm = true) (hg : Gl X "list") (hm : X.mg "list" = none) (hg2 : Gl X "reversed") (hm2 : X.mg "reversed" = none) (he : PE X e te)
    (hs : starEach [e] X.env = (false, eval e X.env) :: starEach [] X.env := by rfl)
    (hs2 : starEach [.Call (.Name "reversed" p2) [e] [] pos2] X.env = (false, eval (.Call (.Name "reversed" p2) [e] [] pos2) X.env) :: starEach [] X.env := by rfl) :
    PE X (.Call (.Name "list" p) [.Call (.Name "reversed" p2) [e] [] pos2] [] pos) (tListRev X.K te) := by
  refine ⟨fun pins s σ H Q I h => ?_⟩
  refine Call_ (ld_blt I hg hm bt_list (PyProof.Rows.callWith_type1 (args_cons (Call_ (ld_blt I hg2 hm2 PyProof.Rows.boot_reversed (PyProof.Rows.callWith_type1 (args_cons (thn (he.run pins s σ H _ I h) fun u s1 ⟨v, H1, I1, r1, q1⟩ => args_nil ?_) hs) hs rfl))) hs2) hs2 rfl))
  obtain ⟨a, xs, ev, hq, q⟩ := q1
  subst ev
  obtain rfl : u = Value.ref a := r1
  obtain ⟨its, rv, p', hz⟩ := I1.list hq
  refine call_reversed_list p'.isList (args_nil ?_)
  have k0 : ∀ b o, s1.heap.get? b = some o → (s1.heap.push (revObj a ((its.toArray.size : Int) - 1))).get? b = some o := fun b o e => Heap.get?_push_of_some _ e
  have I2 : Inv X pins σ H1 { s1 with heap := s1.heap.push (revObj a ((its.toArray.size : Int) - 1)) } := I1.kept (t' := s1.toks) k0
  obtain ⟨f0, f1, f2, f3, f4, f5⟩ := I1.fpOk (H' := H1) (b := s1.heap.objs.size) (Nat.le_refl _) (I1.hok.fresh (Nat.le_refl _))
  have hl := p'.isList
  obtain ⟨ol, hol, _⟩ := id hl
  have hne : a ≠ s1.heap.objs.size := Nat.ne_of_lt (Heap.lt_size hol)
  have hn : its.toArray.size ≤ sizeLine := by rw [List.size_toArray, ← rv.length]; exact hz
  refine call_list_rev (s := { s1 with heap := s1.heap.push (revObj a ((its.toArray.size : Int) - 1)) }) (I1.ok.hd hc) ⟨_, Heap.get?_push_size _ rfl, rfl, rfl⟩ (hl.push _) hne hn fun h' tk acc c' hk hS hi => ?_
  refine ⟨.ref _, upd H1 _ (.lst xs.reverse), I2.turnedNew (t' := tk) (ch := [s1.heap.objs.size]) (fun b o hb e => hk b o (fun z => hb (by rw [z]; exact List.mem_singleton.mpr rfl)) e) (fun b hb => by cases List.mem_singleton.mp hb; exact ⟨f0, f1, f2, f3, f4, f5⟩) (Nat.le_refl _) (show ObjOk X.prog X.w _ h' _ (.lst xs.reverse) from ⟨by rw [List.length_reverse]; exact hz, acc.toList, c', vals_rev rv hi, by rw [Array.toArray_toList]; exact hS⟩), rfl, q _ (I2.hok.fresh (Nat.le_refl _))⟩
section
variable {K : PySem.W.Frag} {σ : L2.St} {S H : Hp} {te : TE} {v : V} {Q : VK} {α : Type} {τ : Rep K α} {xs : List α}
theorem c_lrE (h : ∀ Q' : VK, Q' = Q → te σ H fun v H1 => rListRev K v H1 Q') : tListRev K te σ H Q := h _ rfl
theorem l_listRev (h : LS τ S H v xs) (k : ∀ p ws H', Same H H' → H p = none → H' p = some (.lst ws) → RL τ S ws xs.reverse → Q (.ref p) H') : rListRev K v H Q := by
  obtain ⟨a, ws, rfl, h2, h3⟩ := h
  exact ⟨a, ws, rfl, h2, fun l hl => k l _ _ (same_upd hl) hl upd_same h3.reverse⟩
end
end Z

namespace Z
open PySem PySem.Spec PyProof.Rows L2
section
variable {K : PySem.W.Frag}
theorem enc_lay_none : (PyData.none).canLay0 = true := rfl
/-- what is never None -/
def NN {α : Type} [DecidableEq α] {τ : Rep K α} (d : Dat τ) : Prop := ∀ x, PyData.eqv .none (d.enc x) = false ∧ PyData.eqv (d.enc x) .none = false
def dOpt {α : Type} [DecidableEq α] {τ : Rep K α} (d : Dat τ) (hn : NN d) : Dat (qOpt τ) := ⟨fun o => match o with
    | none => .none
    | some x => d.enc x, fun {H v o} h => by
    cases o with
    | none => cases (show v = .non from h); exact .non
    | some x => exact d.dp h.2, fun o => by
    cases o with
    | none => rfl
    | some x => exact d.lay x, max d.n 1, fun o => by
    cases o with
    | none => show PyData.depth .none ≤ _; simp [PyData.depth]
    | some x => exact Nat.le_trans (d.dep x) (Nat.le_max_left _ _), fun a b => by
    cases a with
    | none =>
      cases b with
      | none => rfl
      | some y => exact (hn y).1.trans (decide_eq_false (fun e => nomatch e)).symm
    | some x =>
      cases b with
      | none => exact (hn x).2.trans (decide_eq_false (fun e => nomatch e)).symm
      | some y =>
        show PyData.eqv (d.enc x) (d.enc y) = _
        rw [d.eqv]
        exact decide_eq_decide.mpr ⟨fun e => by rw [e], fun e => Option.some.inj e⟩⟩
theorem nnI : NN (K := K) dI := fun _ => ⟨rfl, rfl⟩
theorem nnB : NN (K := K) dB := fun _ => ⟨rfl, rfl⟩
theorem nnL {α : Type} [DecidableEq α] {τ : Rep K α} (d : Dat τ) : NN (dL d) := fun _ => ⟨rfl, rfl⟩
theorem nnQ {α : Type} [DecidableEq α] {τ : Rep K α} (d : Dat τ) : NN (dQ d) := fun _ => ⟨rfl, rfl⟩
theorem nnT2 {α β : Type} [DecidableEq α] [DecidableEq β] {τ : Rep K α} {υ : Rep K β} (a : Dat τ) (b : Dat υ) : NN (dT2 a b) := fun _ => ⟨rfl, rfl⟩
theorem eqvAll3 {a b c a' b' c' : PyData} : PyData.eqv (.tuple [a, b, c]) (.tuple [a', b', c']) = (PyData.eqv a a' && (PyData.eqv b b' && PyData.eqv c c')) := by
  simp [PyData.eqv, PyData.eqvAll]
def dT3 {α β γ : Type} [DecidableEq α] [DecidableEq β] [DecidableEq γ] {τ : Rep K α} {υ : Rep K β} {φ : Rep K γ} (a : Dat τ) (b : Dat υ) (c : Dat φ) : Dat (qT3 τ υ φ) := ⟨fun x => .tuple [a.enc x.1, b.enc x.2.1, c.enc x.2.2], fun {H v x} h => by
    obtain ⟨p, w1, w2, w3, rfl, h2, h3, h4, h5⟩ := h
    exact .tup (SqT.of h2) (.cons (a.dp h3) (.cons (b.dp h4) (.cons (c.dp h5) .nil))), fun x => by
    show PyData.canLayAll0 [a.enc x.1, b.enc x.2.1, c.enc x.2.2] = true
    simp [PyData.canLayAll0, a.lay, b.lay, c.lay], max a.n (max b.n c.n) + 1, fun x => by
    have h1 := a.dep x.1
    have h2 := b.dep x.2.1
    have h3 := c.dep x.2.2
    show PyData.depth (.tuple [a.enc x.1, b.enc x.2.1, c.enc x.2.2]) ≤ _
    simp only [PyData.depth, PyData.depthAll]
    omega, fun x y => by
    rw [eqvAll3, a.eqv, b.eqv, c.eqv, ← Bool.decide_and, ← Bool.decide_and]
    exact decide_eq_decide.mpr ⟨fun h => Prod.ext h.1 (Prod.ext h.2.1 h.2.2), fun h => by rw [h]; exact ⟨rfl, rfl, rfl⟩⟩⟩
theorem nnT3 {α β γ : Type} [DecidableEq α] [DecidableEq β] [DecidableEq γ] {τ : Rep K α} {υ : Rep K β} {φ : Rep K γ} (a : Dat τ) (b : Dat υ) (c : Dat φ) : NN (dT3 a b c) := fun _ => ⟨rfl, rfl⟩
end
end Z
namespace Z
open PySem PySem.Spec PyProof.Rows L2
/-! ### range with a step -/
def gR3 (i j c : Int) : Prop := 0 < c ∧ c < 1073741824 ∧ Builtin.Range.small i j c = true
instance (i j c : Int) : Decidable (gR3 i j c) := by unfold gR3; infer_instance
def rangeS (i j c : Int) : List Int := (List.range (Builtin.Range.rangeSize i j c).toNat).map fun (k : Nat) => i + (k : Int) * c
theorem rsize_nn {i j c : Int} (h : 0 < c) : 0 ≤ Builtin.Range.rangeSize i j c := by
  unfold Builtin.Range.rangeSize
  rw [if_pos h]
  split
  · have := Int.ediv_nonneg (show 0 ≤ j - i - 1 by omega) (show 0 ≤ c by omega)
    omega
  · omega
section
variable {K : PySem.W.Frag} {σ : L2.St} {H : Hp} {ta : TA} {D : Ends} {tu : TS}
theorem z_for3 {g : TG} {tb : TS} {i j c : Int} (ha : VA ta σ H [.int i, .int j, .int c]) (hj : gR3 i j c) (Pv : List Int → L2.St → Hp → Prop) (h0 : Pv (rangeS i j c) σ H)
    (hs : ∀ x xs σ' H', Pv (x :: xs) σ' H' → ∀ N : L2.St → Hp → Prop, (∀ σ'' H'', Pv xs σ'' H'' → N σ'' H'') → g (.int x) σ' H' fun σ2 H2 => tb { D with nx := N, ct := N, bk := tu D } σ2 H2) (hd : ∀ σ' H', Pv [] σ' H' → tu D σ' H') :
    tSeq (tFor (iRng3 ta) g tb) tu D σ H := ha _ ⟨i, j, c, (Builtin.Range.rangeSize i j c).toNat, rfl, ⟨by have := hj.1; omega, by have h1 := hj.1; have h2 := hj.2.1; omega, hj.2.2, by have := rsize_nn (i := i) (j := j) hj.1; omega⟩, by
  obtain ⟨n, hn⟩ : ∃ n, n = (Builtin.Range.rangeSize i j c).toNat := ⟨_, rfl⟩
  have h0' : Pv ((List.range n).map fun (k : Nat) => i + (k : Int) * c) σ H := by rw [hn]; exact h0
  rw [← hn]
  have hlen : ((List.range n).map fun (k : Nat) => i + (k : Int) * c).length = n := by rw [List.length_map, List.length_range]
  refine for_rangeC (D := { D with nx := tu D }) (fun k σ H => k ≤ n ∧ Pv (((List.range n).map fun (k : Nat) => i + (k : Int) * c).drop k) σ H) ⟨Nat.zero_le _, h0'⟩ (fun k σ' H' hk p => ?_) (fun σ' H' p => hd _ _ (by
    have q := p.2
    rw [List.drop_eq_nil_of_le (by omega)] at q
    exact q))
  have e : ((List.range n).map fun (k : Nat) => i + (k : Int) * c).drop k = (i + (k : Int) * c) :: ((List.range n).map fun (k : Nat) => i + (k : Int) * c).drop (k + 1) := by
    rw [List.drop_eq_getElem_cons (by omega), List.getElem_map, List.getElem_range]
  have q := p.2
  rw [e] at q
  exact hs _ _ σ' H' q _ fun σ'' H'' r => ⟨hk, r⟩⟩
end
/-! ### a list of one's own, or None -/
def optC {α β : Type} (o : Option α) (n : Option β) (s : α → Option β) : Option β := match o with
  | none => n
  | some x => s x
section
variable {K : PySem.W.Frag} {α : Type} {τ : Rep K α}
/-- what a call hands back then: H ahead of it, S' H' behind it -/
def OwnR (τ : Rep K α) (H S' H' : Hp) (v : V) (r : Option (List α)) : Prop := match r with
  | none => v = .non
  | some x => ∃ p ws, v = .ref p ∧ H p = none ∧ H' p = some (.lst ws) ∧ S' p = none ∧ RL τ S' ws x
theorem OwnR.frz {L : List Addr} {S0 H0 S H Sp Hp : L2.Hp} {v : V} {r : Option (List α)} (g : Grow L S0 H0 S H) (gp : Grow L S0 H0 Sp Hp) (h : OwnR τ Hp S H v r) :
    ∃ S1, Grow L S0 H0 S1 H ∧ Same S S1 ∧ (qOpt (qL τ)).R S1 v r ∧ ∀ l' o', Hp l' ≠ none → Cel L H0 S H l' o' → Cel L H0 S1 H l' o' := by
  cases r with
  | none => exact ⟨S, g, Same.refl _, h, fun _ _ _ c => c⟩
  | some x =>
    obtain ⟨p, ws, rfl, h1, h2, h3, h4⟩ := h
    have c : Cel L H0 S H p (.lst ws) := ⟨h2, h3, .inl (gp.hnone h1), rfl⟩
    obtain ⟨S1, a, b, d, e⟩ := c_freeze g c (gp.hnone h1) h4
    exact ⟨S1, a, b, ⟨(fun z => nomatch z), d⟩, fun l' o' n c' => e l' o' (fun q => n (q ▸ h1)) c'⟩
theorem OP.optN {β : Type} {n : Option β} {s : α → Option β} {A : β → Prop} (h : OP (optC none n s) A) : OP n A := h
theorem OP.optS {β : Type} {x : α} {n : Option β} {s : α → Option β} {A : β → Prop} (h : OP (optC (Option.some x) n s) A) : OP (s x) A := h
end
end Z

namespace Z
open PySem PySem.Spec PyProof.Rows L2
/-! ### one of several readings -/
def tAlt (t u : TE) : TE := fun σ H Q => t σ H Q ∨ u σ H Q
theorem pe_alt {X : Cx} {e : Expr} {t u : TE} (h : PE X e t) (g : PE X e u) : PE X e (tAlt t u) := ⟨fun pins s σ H Q I q => by
  rcases q with q | q
  · exact h.run pins s σ H Q I q
  · exact g.run pins s σ H Q I q⟩
theorem fn_none {P : Program} {w : World} {K : PySem.W.Frag} {mg : Str → Option Value} {base : Heap} {CX : CXT} {k : Nat} {f : Addr} {fd : FuncData} {ps : List Str} {sp : Sp} (h : ∀ vs H Q E, ¬ sp vs H Q E) : FnOk P w K mg base CX k f fd ps sp :=
  ⟨fun vs H Q E q => absurd q (h vs H Q E), fun A outer s H args us vs Q E _ _ _ _ q => absurd q (h vs H Q E)⟩
/-- what isinstance asks of an own class -/
structure InsH (K : PySem.W.Frag) (C : Addr) : Prop where
  ha : PySem.W.findIn K (.ref C) "__class__" = some (some (.builtin "object.__class__"))
  hn : PySem.W.specialIn K (.builtin "object.__class__") "__get__" = some (some (.builtin "getset_descriptor.__get__"))
  htk : PySem.W.takesIn K (.builtin "object.__class__") = some true
  hm : PySem.W.mroIn K C (.type "object") = some true
theorem v_isO {K : PySem.W.Frag} {σ : L2.St} {H : Hp} {ta : TE} {l C D dx : Addr} {fs : List (Str × V)} {b : Bool} (ha : Val ta σ H (.ref l)) (hp : H l = some (.ins C dx fs)) (cl : Cls K C) (i : InsH K C) (e : PySem.W.kitOne K (.ref C) (.ref D) = some b) : Val (tCB (rIsi K) (tCons ta (tCons (tC (.ref D)) tNil))) σ H (.bl b) :=
  fun Q q => ha _ ⟨_, .ref D, _, _, _, rfl, .own D, .base (TyOf.ins hp cl i.ha i.hn i.htk i.hm), e, q⟩
theorem kit_t {K : PySem.W.Frag} {C D : Addr} (i : PySem.W.isClsIn K D = true) (t : PySem.W.typeIn K (.ref D) = some (.type "type")) (s : PySem.W.subIn K (.ref C) (.ref D) = some true) : PySem.W.kitOne K (.ref C) (.ref D) = some true := by
  unfold PySem.W.kitOne
  split
  · rfl
  · unfold PySem.W.kitCls
    show (if ((PySem.W.clsIn K D).isSome && PySem.W.typeIn K (.ref D) == some (.type "type")) = true then PySem.W.subIn K (.ref C) (.ref D) else none) = _
    have i' : (PySem.W.clsIn K D).isSome = true := i
    rw [i', t, if_pos, s]
    simp
theorem kit_f {K : PySem.W.Frag} {C D : Addr} (i : PySem.W.isClsIn K D = true) (t : PySem.W.typeIn K (.ref D) = some (.type "type")) (s : PySem.W.subIn K (.ref C) (.ref D) = some false) (sd : PySem.W.subIn K (.ref D) (.ref D) = some true) : PySem.W.kitOne K (.ref C) (.ref D) = some false := by
  unfold PySem.W.kitOne
  split
  · rename_i h
    have : (Value.ref C) = .ref D := beq_iff_eq.mp h
    rw [this] at s
    rw [s] at sd
    cases sd
  · unfold PySem.W.kitCls
    show (if ((PySem.W.clsIn K D).isSome && PySem.W.typeIn K (.ref D) == some (.type "type")) = true then PySem.W.subIn K (.ref C) (.ref D) else none) = _
    have i' : (PySem.W.clsIn K D).isSome = true := i
    rw [i', t, if_pos, s]
    simp

/-! ### comprehensions whose parts change the heap -/
section
variable {K : PySem.W.Frag} {σ : L2.St} {S H S0 H0 : Hp} {L : List Addr} {ta tl te : TE} {tt : TT} {tr : TA} {v : V} {Q : VK} {g : TG} {vs : List Nat}
theorem c_lcGL {α : Type} {R : V → α → Prop} {a : Addr} {us : List V} {xs : List α} (ha : Val tl σ H (.ref a)) (hp : Paired R us xs) (hq : SqL K H a us)
    (k : ∀ P, H P = none → ∃ Pv : List α → Hp → Prop, Pv xs (upd H P (.lst [])) ∧ (∀ ys H', Pv ys H' → SqL K H' a us) ∧ (∀ w x xs H', R w x → Pv (x :: xs) H' → ∀ N : Hp → Prop, (∀ H'', Pv xs H'' → N H'') → g w (wipe σ vs) H' fun σ2 H2 => wipe σ2 vs = wipe σ vs ∧ tt σ2 H2 fun b H3 =>
      if b = true then te σ2 H3 fun y H4 => ∃ acc, H4 P = some (.lst acc) ∧ acc.length < sizeLine ∧ N (upd H4 P (.lst (acc ++ [y]))) else N H3) ∧ ∀ H', Pv [] H' → Q (.ref P) H') : tLc (iList K tl) g tt te vs σ H Q :=
  ha _ ⟨a, rfl, ⟨us, hq⟩, fun P hP => by
    obtain ⟨Pv, h0, hl, hs, hd⟩ := k P hP
    exact turnsC_list hp Pv h0 hl hs hd⟩
theorem c_lcGR1 {n : Int} (ha : VA tr σ H [.int n]) (hj : gR n)
    (k : ∀ P, H P = none → ∃ Pv : List Int → Hp → Prop, Pv (rangeI 0 n.toNat) (upd H P (.lst [])) ∧ (∀ x xs H', Pv (x :: xs) H' → ∀ N : Hp → Prop, (∀ H'', Pv xs H'' → N H'') → g (.int x) (wipe σ vs) H' fun σ2 H2 => wipe σ2 vs = wipe σ vs ∧ tt σ2 H2 fun b H3 =>
      if b = true then te σ2 H3 fun y H4 => ∃ acc, H4 P = some (.lst acc) ∧ acc.length < sizeLine ∧ N (upd H4 P (.lst (acc ++ [y]))) else N H3) ∧ ∀ H', Pv [] H' → Q (.ref P) H') : tLc (iRng1 tr) g tt te vs σ H Q :=
  ha _ ⟨n, rfl, hj.1, hj.2, fun P hP => by
    obtain ⟨Pv, h0, hs, hd⟩ := k P hP
    exact turnsC_range Pv h0 hs hd⟩
theorem c_lcGR2 {m n : Int} (ha : VA tr σ H [.int m, .int n]) (hj : gR2 m n)
    (k : ∀ P, H P = none → ∃ Pv : List Int → Hp → Prop, Pv (rangeI m (n - m).toNat) (upd H P (.lst [])) ∧ (∀ x xs H', Pv (x :: xs) H' → ∀ N : Hp → Prop, (∀ H'', Pv xs H'' → N H'') → g (.int x) (wipe σ vs) H' fun σ2 H2 => wipe σ2 vs = wipe σ vs ∧ tt σ2 H2 fun b H3 =>
      if b = true then te σ2 H3 fun y H4 => ∃ acc, H4 P = some (.lst acc) ∧ acc.length < sizeLine ∧ N (upd H4 P (.lst (acc ++ [y]))) else N H3) ∧ ∀ H', Pv [] H' → Q (.ref P) H') : tLc (iRng2 tr) g tt te vs σ H Q :=
  ha _ ⟨m, n, rfl, hj, fun P hP => by
    obtain ⟨Pv, h0, hs, hd⟩ := k P hP
    exact turnsC_range Pv h0 hs hd⟩
theorem c_yes {q : Bool → Hp → Prop} (h : q true H) : tYes σ H q := h
theorem c_yesE {Z Z' : Prop} {q : Bool → Hp → Prop} (e : q true H = if true = true then Z else Z') (h : Z) : tYes σ H q := by
  show q true H
  rw [e, if_pos rfl]
  exact h
theorem ift {A B : Prop} (h : A) : if true = true then A else B := by rw [if_pos rfl]; exact h
theorem c_acc {α : Type} {τ : Rep K α} {l : Addr} {ws : List V} {xs ys : List α} {q : α} {N : Hp → Prop} (g : Grow L S0 H0 S H) (cl : Cel L H0 S H l (.lst ws)) (r : RL τ S ws xs) (rv : τ.R S v q) (hz : xs.length < 16777216) (he : xs ++ [q] = ys)
    (k : ∀ ws' H', Grow L S0 H0 S H' → Cel L H0 S H' l (.lst ws') → RL τ S ws' ys → (∀ l' o', l' ≠ l → Cel L H0 S H l' o' → Cel L H0 S H' l' o') → N H') : ∃ acc, H l = some (.lst acc) ∧ acc.length < sizeLine ∧ N (upd H l (.lst (acc ++ [v]))) := by
  subst he
  exact ⟨ws, cl.h, by rw [r.length, sizeLine_eq]; exact hz, k _ _ (g.wr cl rfl) (cl.wr rfl) (r.app (.cons rv .nil)) fun l' o' n c => c.wrn n⟩
end
end Z

namespace Z
open PySem PySem.Spec PyProof.Rows L2
/-! ### a fault: a text of three, and numbers -/
inductive Tag | start | step | bad deriving DecidableEq
def Tag.s : Tag → Str
  | .start => "start"
  | .step => "step"
  | .bad => "bad"
structure VT where
  t : Tag
  ns : List Int
deriving DecidableEq
theorem Tag.inj {a b : Tag} (h : a.s = b.s) : a = b := by
  cases a <;> cases b <;> first | rfl | (exact absurd h (by decide))
theorem Tag.ok (a : Tag) : PyData.strOk a.s = true := by cases a <;> decide +kernel
section
variable {K : PySem.W.Frag} {σ : L2.St} {S H : Hp} {v : V} {ta tb tc : TE}
def qV : Rep K VT := ⟨fun H v x => ∃ a, v = .ref a ∧ H a = some (.tup (.str x.t.s :: x.ns.map .int)), fun {H H' v x} e h => by
  obtain ⟨a, h1, h2⟩ := h
  exact ⟨a, h1, e _ _ h2⟩⟩
def qN : Rep K (List Int) := ⟨fun H v x => ∃ a, v = .ref a ∧ H a = some (.tup (x.map .int)), fun {H H' v x} e h => by
  obtain ⟨a, h1, h2⟩ := h
  exact ⟨a, h1, e _ _ h2⟩⟩
theorem qV1 {t : Tag} {s : Str} {i : Int} (h : (qT2 (K := K) qS qI).R S v (s, i)) (e : s = t.s) : (qV (K := K)).R S v ⟨t, [i]⟩ := by
  obtain ⟨a, w1, w2, rfl, h2, h3, h4⟩ := h
  cases (show w1 = .str s from h3)
  cases (show w2 = .int i from h4)
  exact ⟨a, rfl, by rw [h2, e]; rfl⟩
theorem qV2 {t : Tag} {s : Str} {i j : Int} (h : (qT3 (K := K) qS qI qI).R S v (s, i, j)) (e : s = t.s) : (qV (K := K)).R S v ⟨t, [i, j]⟩ := by
  obtain ⟨a, w1, w2, w3, rfl, h2, h3, h4, h5⟩ := h
  cases (show w1 = .str s from h3)
  cases (show w2 = .int i from h4)
  cases (show w3 = .int j from h5)
  exact ⟨a, rfl, by rw [h2, e]; rfl⟩
theorem nn_v {x : VT} (h : (qV (K := K)).R H v x) : v ≠ .non := by
  obtain ⟨a, rfl, _⟩ := h
  exact fun z => nomatch z
theorem ty_v {x : VT} (h : (qV (K := K)).R H v x) : TyX K H v (.type "tuple") := by
  obtain ⟨a, rfl, h2⟩ := h
  exact .base (.tup h2)
theorem v_lenV {x : VT} (ha : Val ta σ H v) (h : (qV (K := K)).R H v x) : Val (tCB (rLenS K) (tCons ta tNil)) σ H (.int ((x.ns.length : Int) + 1)) := by
  obtain ⟨a, rfl, h2⟩ := h
  refine fun Q q => ha _ ⟨a, _, rfl, .inr (SqT.of h2), ?_⟩
  rw [List.length_cons, List.length_map]
  exact q
theorem v_V0 {x : VT} (ha : Val ta σ H v) (hb : Val tb σ H (.int 0)) (h : (qV (K := K)).R H v x) : Val (tOp (rIxT K) ta tb) σ H (.str x.t.s) := by
  obtain ⟨a, rfl, h2⟩ := h
  exact fun Q q => ha _ (hb _ ⟨a, _, 0, _, rfl, rfl, SqT.of h2, L2.atI_nat (j := 0) rfl, q⟩)
theorem dpInts {H : Hp} : ∀ xs : List Int, DpAll K H (xs.map .int) (xs.map .int)
  | [] => .nil
  | x :: xs => .cons (.int x) (dpInts xs)
def dV : Dat (K := K) qV := ⟨fun x => .tuple (.str x.t.s :: x.ns.map .int), fun {H v x} h => by
    obtain ⟨a, rfl, h2⟩ := h
    exact .tup (SqT.of h2) (.cons (.str _) (dpInts _)), fun x => by
    show PyData.canLayAll0 (.str x.t.s :: x.ns.map .int) = true
    have h : ∀ xs : List Int, PyData.canLayAll0 (xs.map .int) = true := fun xs => layAll (K := K) dI xs
    show (PyData.canLay0 (.str x.t.s) && PyData.canLayAll0 (x.ns.map .int)) = true
    rw [h, Bool.and_true]
    exact x.t.ok, 2, fun x => by
    have h : PyData.depthAll (x.ns.map .int) ≤ 1 := depAll (K := K) dI x.ns
    show PyData.depth (.tuple (.str x.t.s :: x.ns.map .int)) ≤ _
    simp only [PyData.depth, PyData.depthAll]
    omega, fun x y => by
    have h : PyData.eqvAll (x.ns.map .int) (y.ns.map .int) = decide (x.ns = y.ns) := eqvAllD (K := K) dI x.ns y.ns
    show PyData.eqvAll (.str x.t.s :: x.ns.map .int) (.str y.t.s :: y.ns.map .int) = _
    simp only [PyData.eqvAll]
    rw [h]
    have e : PyData.eqv (.str x.t.s) (.str y.t.s) = decide (x.t.s = y.t.s) := by
      show (x.t.s == y.t.s) = _
      rw [Bool.beq_eq_decide_eq]
    rw [e, ← Bool.decide_and]
    exact decide_eq_decide.mpr ⟨fun h => by
      cases x; cases y
      rw [VT.mk.injEq]
      exact ⟨Tag.inj h.1, h.2⟩, fun h => by rw [h]; exact ⟨rfl, rfl⟩⟩⟩
theorem nnV : NN (K := K) dV := fun _ => ⟨rfl, rfl⟩
/-- x[1:] of a fault -/
theorem e_tailV {x : VT} {Q : VK} (h : (qV (K := K)).R H v x) (k : ∀ p H', Same H H' → H p = none → H' p = some (.tup (x.ns.map .int)) → Q (.ref p) H') : rSlT K v (some 1) none H Q := by
  obtain ⟨a, rfl, h2⟩ := h
  have e : HT.sIx (V.str x.t.s :: x.ns.map .int).length 0 (some 1) = 1 := by
    rw [List.length_cons]
    show HT.sIx _ 0 (some ((1 : Nat) : Int)) = 1
    rw [HT.sIx_nat]
    omega
  refine ⟨a, _, rfl, SqT.of h2, fun z => ?_, fun p hp => ?_⟩
  · rw [e] at z
    exact absurd z.1 (by decide)
  · refine k p _ (same_upd hp) hp ?_
    rw [show cutV (V.str x.t.s :: x.ns.map .int) (some 1) none = x.ns.map .int from ?_]
    · exact upd_same
    · unfold cutV
      rw [e]
      show (List.drop 1 _).take ((V.str x.t.s :: x.ns.map .int).length - 1) = _
      rw [List.drop_one, List.tail_cons, List.length_cons, Nat.add_sub_cancel, List.take_length]
theorem z_forTE {D : Ends} {g : TG} {tb : TS} {tl : TE} {tu : TS} (h : tl σ H fun x H1 => tSeq (tFor (iTup K (tC x)) g tb) tu D σ H1) : tSeq (tFor (iTup K tl) g tb) tu D σ H := h
end
end Z

namespace Z
open PySem PySem.Spec PyProof.Rows L2
/-! ### errors told -/
def exE {α β : Type} (r : Except Nat α) (er : Nat → Option β) (ok : α → Option β) : Option β := match r with
  | .ok x => ok x
  | .error c => er c
theorem OP.exO {α β : Type} {x : α} {er : Nat → Option β} {ok : α → Option β} {A : β → Prop} (h : OP (exE (.ok x) er ok) A) : OP (ok x) A := h
theorem OP.exR {α β : Type} {c : Nat} {er : Nat → Option β} {ok : α → Option β} {A : β → Prop} (h : OP (exE (.error c) er ok) A) : OP (er c) A := h
theorem takesN {X : Cx} : Takes X (fun _ _ _ _ => False) := fun _ _ ⟨_, _, _, _, _, _, _, _, _, _, _, _, _, _, _, _, z⟩ => z.elim
theorem passL {X : Cx} : Passes (L2.CX X.prog X.w) X (fun _ _ _ => False) := passes_call takesN (fun _ _ _ _ h => h)
theorem z_cutj {σ : L2.St} {H : Hp} {D : Ends} {t tu : TS} (P : L2.St → Hp → Prop) (hP : ∀ σ' H', P σ' H' → tu D σ' H') (h : ∀ N : L2.St → Hp → Prop, (∀ σ' H', P σ' H' → N σ' H') → t { D with nx := N } σ H) : tSeq t tu D σ H := h _ hP
/-- the first clause, with a name, takes what the body raises -/
def wA1 (K : PySem.W.Frag) (c : Value) (i : Nat) (ts : Addr → Value → Option Addr → TS) (D : Ends) : WX := fun cls d σ H =>
  PySem.W.exmOne K cls c = some true ∧ ∀ a, H a = none → ts a cls d { nx := fun σ1 H1 => D.nx (σ1.set i none) H1, rt := D.rt, bk := fun σ1 H1 => D.bk (σ1.set i none) H1, ct := fun σ1 H1 => D.ct (σ1.set i none) H1 } (σ.set i (some (.ref a))) H
section
variable {X : Cx} {x n : Str} {c : Value} {i : Nat} {bd su : List Stmt} {st0 : Stmt} {hds : List ExceptHandler} {q1 q2 q3 : Pos} {tb : WX → TS} {ts : Addr → Value → Option Addr → TS}
theorem ps_tryA (eS : X.stack = X.env :: X.outer) (eF : X.env.frame = some X.env.locals) (nd : X.N.Nodup) (gi : X.N[i]? = some n) (lc : X.env.kindOf n = some .local) (nm : Names X x c)
    (hbd : ∀ (W : WX) (pn : List (Addr × Obj)) (xe : Value → Shared → Prop), Takes (X.tr pn xe) W → PassesOwn (model X.prog X.w) X.A X.env xe → PSs (X.tr pn xe) bd (tb W))
    (hs : ∀ (a : Addr) (oe : Obj) (cls : Value) (d : Option Addr) (pn : List (Addr × Obj)), Zc cls d oe → (∃ vs, oe.data = .fields vs) → PSs (X.suite a ((a, oe) :: pn)) (st0 :: su) (ts a cls d)) :
    PS X (.Try bd (.ExceptHandler (some (.Name x q1)) (some n) (st0 :: su) q2 :: hds) [] [] q3) (fun D σ H => tb (wA1 X.K c i ts D) D σ H) := ⟨fun pins s σ H D I h => by
  have okI := I.ok
  have frm : X.A.frames = some (X.env :: X.outer) := okI.frames.trans (congrArg some eS)
  refine wpAny_Try_except (wpAny_mono ((hbd (wA1 X.K c i ts D) (X.pn ++ pins) (fun e s₁ => wpAny (model X.prog X.w) X.A (noteFrame e X.env) (fun _ s₂ => wpAny (model X.prog X.w) X.A (setFlight e none) (fun _ s₃ => wpAny (model X.prog X.w) X.A (handleBy e X.env (.ExceptHandler (some (.Name x q1)) (some n) (st0 :: su) q2 :: hds)) (SP X pins D) X.xe s₃) X.xe s₂) X.xe s₁) (fun u t1 air => ?_) PassesOwn.looking).run [] s σ H D (I.toTry _) h) (fun fl t1 sp => ?_) fun e t1 z => z)
  · obtain ⟨ea, Bd, sB, pinsB, σB, HB, cls, dd, rfl, IB', nbB, upB, sky0, naB, osB, agB, em, wsh⟩ := air
    have IB : Inv X pins σB HB sB := Inv.ofTry IB' okI
    have sky1 : Sky Bd (X.env :: X.outer) ea (Zc cls dd) X.env.locals t1.heap := eS ▸ sky0
    show wpAny (model X.prog X.w) X.A (noteFrame (Value.ref ea) X.env) _ _ _
    refine Sky.land Zc.steady frm eF sky1 fun hA flA upA => ?_
    have IA : Inv X pins σB HB { t1 with heap := hA } := Inv.landed IB nbB flA.1 (upB.trans upA) osB agB
    obtain ⟨oA, vA, getA, zA, datA⟩ := flA.there
    have noF : ea ∉ frs (X.env :: X.outer) := fun hm => by
      obtain ⟨_, o', e', hnf⟩ := (flA.2.2.1).mem hm
      rw [getA] at e'; cases e'
      exact hnf _ datA
    have n1 : ea ≠ X.env.locals := fun z => noF (List.mem_filterMap.mpr ⟨X.env, List.mem_cons_self, by rw [eF, z]⟩)
    have n2 : ea ∉ X.fs := fun hm => by
      obtain ⟨e, he, q⟩ := List.mem_filterMap.mp hm
      exact noF (List.mem_filterMap.mpr ⟨e, List.mem_cons_of_mem _ he, q⟩)
    have SA := Inv.suite IA getA datA naB n1 n2
    refine wpAny_handleBy_cons (codeAny_handlers_test ?_) (fun q => by cases q)
    have lookT : PySem.W.Looks (model X.prog X.w) hA (typeOf (.ref ea)) cls := fun A Q E s k q => wpAny_typeOf_ref (k _ _ getA) (by rw [zA.1]; exact q)
    have lookM := PySem.W.exm_one (M := model X.prog X.w) IA.kIn lookT em
    have tst : ∀ {Q E : Value → Shared → Prop}, Q c { t1 with heap := hA } → wpAny (model X.prog X.w) (X.A.mark (some (.ref ea))) (eval (.Name x q1) X.env) Q E { t1 with heap := hA } := fun {Q E} q => by
      rcases nm with ⟨hg, hdbg, hm | ⟨hm, hv, hnn⟩⟩
      · exact ld_glob (X := X.suite ea ((ea, oA) :: (X.pn ++ pins))) SA hg hm q hdbg
      · exact ld_blt (X := X.suite ea ((ea, oA) :: (X.pn ++ pins))) SA hg hm hv q hnn hdbg
    refine tst (lookM.here (codeAny_handlers_suite_as (HandSPX.lands_againZ flA fun hC flC upC => ?_)))
    have IC : Inv X pins σB HB { t1 with heap := hC } := Inv.landed IB nbB flC.1 ((upB.trans upA).trans upC) osB agB
    obtain ⟨oC, vC, getC, zC, datC⟩ := flC.there
    refine store_ok (X := X.suite ea ((ea, oC) :: (X.pn ++ pins))) (v := .ref ea) (Inv.suite IC getC datC naB n1 n2) nd gi (.inl lc) rfl (fun s5 S5 => ?_) (.inr lc)
    refine wpAny_mono ((hs ea oC cls dd (X.pn ++ pins) zC ⟨_, datC⟩).run [] s5 _ HB _ S5 (wsh ea naB)) (fun fl s6 sp => ?_) fun _ _ z => z.elim
    have gone : ∀ {σ6 : L2.St} {H6 : Hp} {Q : Shared → Prop}, Inv (X.suite ea ((ea, oC) :: (X.pn ++ pins))) [] σ6 H6 s6 → (∀ s7, Inv X pins (σ6.set i none) H6 s7 → Q s7) →
        wpAny (model X.prog X.w) X.A (do bindName X.env n .none; unbindBehindTheSuite X.env n q2) (fun _ s7 => Q s7) X.xe s6 := fun {σ6 H6 Q} S6 hq => gone_ok (S6.unsuite okI) nd gi lc hq
    cases fl with
    | next =>
      obtain ⟨σ6, H6, S6, k6⟩ := sp
      exact gone S6 fun s7 J7 => ⟨_, _, J7, k6⟩
    | brk =>
      obtain ⟨σ6, H6, S6, k6⟩ := sp
      exact gone S6 fun s7 J7 => ⟨_, _, J7, k6⟩
    | cont =>
      obtain ⟨σ6, H6, S6, k6⟩ := sp
      exact gone S6 fun s7 J7 => ⟨_, _, J7, k6⟩
    | ret u =>
      obtain ⟨v6, σ6, H6, S6, r6, k6⟩ := sp
      exact gone S6 fun s7 J7 => ⟨_, _, _, J7, r6, k6⟩
  · cases fl with
    | next =>
      obtain ⟨σ1, H1, J1, k⟩ := sp
      exact wpAny_execs_nil ⟨σ1, H1, J1.ofTry okI, k⟩
    | brk =>
      obtain ⟨σ1, H1, J1, k⟩ := sp
      exact ⟨σ1, H1, J1.ofTry okI, k⟩
    | cont =>
      obtain ⟨σ1, H1, J1, k⟩ := sp
      exact ⟨σ1, H1, J1.ofTry okI, k⟩
    | ret u =>
      obtain ⟨v, σ1, H1, J1, r, k⟩ := sp
      exact ⟨v, σ1, H1, J1.ofTry okI, r, k⟩⟩
end
theorem EXP.sp {α β : Type} {x : Except Nat α} {P : α → Prop} {N : Nat → Prop} {er : Nat → Option β} {ok : α → Option β} {A : β → Prop} (h : OP (exE x er ok) A) (hr : ∀ c, x = .error c → OP (er c) A → N c) (ho : ∀ v, x = .ok v → OP (ok v) A → P v) : EXP x P N := by
  cases x with
  | ok v => exact ho v rfl h
  | error c => exact hr c rfl h
theorem z_seqE {σ : L2.St} {H : Hp} {D : Ends} {t tu : TS} (h : t { D with nx := tu D } σ H) : tSeq t tu D σ H := h
theorem z_sl {σ σ' : L2.St} {H : Hp} {D : Ends} {tu : TS} (e : σ = σ') (h : tu D σ' H) : tu D σ H := e ▸ h
/-- isinstance(e, c), isinstance(e, (c1, c2, ..)), e the exception that the suite holds -/
def rIsES (K : PySem.W.Frag) (cls : Value) (d : Option Addr) (a : Addr) : List V → Hp → VK → Prop := fun xs H Q => ∃ (D : Addr) (c : V) (cv : Value) (b : Bool), cls = .ref D ∧ d = none ∧ ExcC K D ∧ xs = [.ref a, c] ∧ ClsV c cv ∧ PySem.W.kitOne K (.ref D) cv = some b ∧ Q (.bl b) H
def rIsET (K : PySem.W.Frag) (cls : Value) (d : Option Addr) (a : Addr) : List V → Hp → VK → Prop := fun xs H Q => ∃ (D tp : Addr) (cs : List V) (us : List Value) (b : Bool), cls = .ref D ∧ d = none ∧ ExcC K D ∧ xs = [.ref a, .ref tp] ∧ H tp = some (.tup cs) ∧ Paired ClsV cs us ∧ PySem.W.kitAny K (.ref D) us = some b ∧ Q (.bl b) H
theorem pin_inst {X : Cx} {a D : Addr} {oe : Obj} {pn pins : List (Addr × Obj)} {σ : L2.St} {H : Hp} {s : Shared} (I : Inv (X.suite a ((a, oe) :: pn)) pins σ H s) (hz : Zc (.ref D) none oe) (hf : ∃ vs, oe.data = .fields vs) : PySem.W.InstAt s.heap a oe D none := by
  obtain ⟨gt, _⟩ := I.pin (a, oe) (List.mem_append.mpr (.inl List.mem_cons_self))
  obtain ⟨vs, hv⟩ := hf
  obtain ⟨oc, od, oda, osl⟩ := oe
  obtain ⟨z1, z2⟩ := hz
  dsimp only at z1 z2 hv
  subst z1 z2 hv
  exact ⟨gt, rfl, rfl, trivial⟩
theorem call_isES {X : Cx} {a : Addr} {cls : Value} {d : Option Addr} {oe : Obj} {pn : List (Addr × Obj)} (hz : Zc cls d oe) (hf : ∃ vs, oe.data = .fields vs) : CallR (X.suite a ((a, oe) :: pn)) (.builtin "isinstance") (rIsES X.K cls d a) := by
  intro pins s σ H xs us Q I r h
  obtain ⟨D, c, cv, b, rfl, rfl, C, rfl, kc, e, q⟩ := h
  exact call_isE C hz hf pins s σ H _ us Q I r ⟨c, cv, b, rfl, fun u ru => kc.eq ru, e, q⟩
theorem call_isET {X : Cx} {a : Addr} {cls : Value} {d : Option Addr} {oe : Obj} {pn : List (Addr × Obj)} (hz : Zc cls d oe) (hf : ∃ vs, oe.data = .fields vs) : CallR (X.suite a ((a, oe) :: pn)) (.builtin "isinstance") (rIsET X.K cls d a) := by
  intro pins s σ H xs us Q I r h
  obtain ⟨D, tp, cs, ws, b, rfl, rfl, C, rfl, hT, k, e, q⟩ := h
  obtain ⟨u1, u2, rfl, r1, r2⟩ := vals2 r
  cases (show u2 = Value.ref tp from r2)
  cases (show u1 = Value.ref a from r1)
  have J := pin_inst I hz hf
  obtain ⟨_, its, rv, o, h1, h2, n, h3⟩ := I.hok tp _ hT
  have e3 := ClsV.all k rv
  subst e3
  obtain ⟨oc, od, dt, sl⟩ := o
  simp only at h2 h3
  subst h2 h3
  exact PySem.W.kia_tup (PySem.W.handS_kitx_exc C.hg C.hk C.hs C.hd C.ha C.hn C.ht C.hm) I.kIn J h1 e (fun z => nomatch z) fun tk => ⟨.bl b, H, I.kept (t' := tk) fun _ _ z => z, rfl, q⟩
section
variable {K : PySem.W.Frag} {σ : L2.St} {H : Hp} {ta tb : TE} {a D : Addr} {c : V} {cv : Value} {b : Bool}
theorem v_isE (C : ExcC K D) (ha : Val ta σ H (.ref a)) (hb : Val tb σ H c) (kc : ClsV c cv) (e : PySem.W.kitOne K (.ref D) cv = some b) : Val (tCB (rIsES K (.ref D) none a) (tCons ta (tCons tb tNil))) σ H (.bl b) :=
  fun Q q => ha _ (hb _ ⟨D, c, cv, b, rfl, rfl, C, rfl, kc, e, q⟩)
end
theorem kit_bt {K : PySem.W.Frag} {D : Addr} {T : String} {b : Bool} (m : PySem.W.kitMeta T = true) (s : PySem.W.subIn K (.ref D) (.type T) = some b) : PySem.W.kitOne K (.ref D) (.type T) = some b := by
  unfold PySem.W.kitOne
  have hne : ((Value.ref D : Value) == Value.type T) = false := by
    cases e : ((Value.ref D : Value) == Value.type T) with
    | false => rfl
    | true => cases beq_iff_eq.mp e
  rw [hne, if_neg Bool.false_ne_true]
  unfold PySem.W.kitCls
  show (if PySem.W.kitMeta T = true then PySem.W.subIn K (.ref D) (.type T) else none) = _
  rw [if_pos m, s]
theorem bt_ValueError : bootBuiltins "ValueError" = some (.type "ValueError") := by decide +kernel
theorem meta_ValueError : PySem.W.kitMeta "ValueError" = true := by decide +kernel
/-- o.m(e, ..), where what is raised is wished for at the slots -/
def tMethX (C : Addr) (m : Str) (sp : Sp) (E : L2.St → XK) (ta : TE) (t : TA) : TE := fun σ H Q => ta σ H fun x H1 => ∃ a dx fs, x = .ref a ∧ H1 a = some (.ins C dx fs) ∧ fs.lookup m = none ∧ t σ H1 fun vs H2 => sp (x :: vs) H2 Q (E σ)
theorem pe_methX {X : Cx} {CX : CXT} {k : Nat} {f C : Addr} {fd : FuncData} {ps : List Str} {sp : Sp} {E : L2.St → XK} {m : Str} {pos apos : Pos} {e o : Expr} {es : List Expr} {ta : TE} {t : TA} {pl : Sem Bool} (he : PE X o ta) (c : Cls X.K C) (hm : Meth X.K C m f) (F : FnOk X.prog X.w X.K X.mg X.base CX k f fd ps sp) (hr : Room k X.A) (hb : Binds X.K fd ps []) (hx : ∀ σ, PassesAt CX X σ (E σ)) (ha : PA X (e :: es) t)
    (hst : starEach (e :: es) X.env = (false, eval e X.env) :: starEach es X.env := by rfl) (hpl : (backTo pos (starEach es X.env)).any (·.1) = false := by rfl)
    (ht : eval (.Call (.Attribute o m apos) (e :: es) [] pos) X.env = (eval o X.env >>= fun ov => standAt apos.atName >>= fun _ => holding [ov] (getMethod ov m pl) >>= fun z => callWith pos z.1 z.2 (backTo pos (starEach (e :: es) X.env)) (backToKw pos (keywordEach [] X.env))) := by rfl) :
    PE X (.Call (.Attribute o m apos) (e :: es) [] pos) (tMethX C m sp E ta t) := ⟨fun pins s σ H Q I h => by
  refine PySem.W.methodCall_KW (pl := pl) (thn (he.run pins s σ H _ I h) fun u s1 ⟨x, H1, I1, rx, a, dx, fs, ex, ea, l, q⟩ => ?_) ht
  cases ex
  cases (show u = Value.ref a from rx)
  refine getmeth_ok I1 ea c hm l (PySem.W.callWith_K (first := [.ref a]) (h₀ := X.base) I.ok.mod.kin hm.kp (thn (ha.run pos pins s1 σ H1 _ I1 q) fun us s2 ⟨vs, H2, I2, r, q2⟩ => ⟨I2.kIn, ?_⟩) hst hpl)
  exact run_fnS (us := .ref a :: us) (vs := .ref a :: vs) F hr hb (hx σ) I2 (.cons rfl r) q2⟩
theorem kitAny_f {K : PySem.W.Frag} {t c : Value} {r : List Value} {b : Bool} (h : PySem.W.kitOne K t c = some false) (k : PySem.W.kitAny K t r = some b) : PySem.W.kitAny K t (c :: r) = some b := by
  unfold PySem.W.kitAny
  rw [h]
  exact k
theorem kitAny_t {K : PySem.W.Frag} {t c : Value} {r : List Value} (h : PySem.W.kitOne K t c = some true) : PySem.W.kitAny K t (c :: r) = some true := by
  unfold PySem.W.kitAny
  rw [h]
end Z
namespace Z
open PySem PySem.Spec PyProof.Rows L2
theorem z_suite {σ σ' : L2.St} {H : Hp} {D : Ends} {t tu : TS} {i : Nat} {a : Addr} (e : σ.set i (some (.ref a)) = σ') (h : ∀ (N Bk Ct : L2.St → Hp → Prop), (∀ σ1 H1, tu D (σ1.set i none) H1 → N σ1 H1) → t { nx := N, rt := D.rt, bk := Bk, ct := Ct } σ' H) :
    t { nx := fun σ1 H1 => (tu D) (σ1.set i none) H1, rt := D.rt, bk := fun σ1 H1 => D.bk (σ1.set i none) H1, ct := fun σ1 H1 => D.ct (σ1.set i none) H1 } (σ.set i (some (.ref a))) H := e ▸ h _ _ _ fun _ _ z => z
end Z
namespace Z
open PySem PySem.Spec PyProof.Rows L2
theorem c_callS {sp : Sp} {E : L2.St → XK} {tr : TA} {σ : L2.St} {H : Hp} {Q : VK} (h : tr σ H fun vs H1 => sp vs H1 Q (E σ)) : tCallS sp E tr σ H Q := h
end Z

namespace Z
open PySem PySem.Spec PyProof.Rows L2 PySem.Calls
/-! ### sorted(d.keys()) -/
def tSortKeys (te : TE) : TE := fun σ H Q => te σ H fun v H1 => ∃ (a : Addr) (kvs : List (Key × V)) (ks : List Int), v = .ref a ∧ H1 a = some (.dK kvs) ∧ kvs.map (·.1) = ks.map .inl ∧
  ∀ (zs : List Int) (p : Addr), zs.Perm ks → zs.Pairwise (· ≤ ·) → H1 p = none → Q (.ref p) (upd H1 p (.lst (zs.map V.int)))
theorem kv_keys : ∀ {kvs : List (Key × V)} {vs : List (Key × Value)}, KV kvs vs → kvs.map (·.1) = vs.map (·.1)
  | _, _, .nil => rfl
  | _, _, .cons a b => by rw [List.map_cons, List.map_cons, a.1, kv_keys b]
theorem keysInts {P : Program} {w : World} : ∀ {us : List Value} {ks : List Int} {vs : List (Key × Value)}, us.length = vs.length → (∀ (i : Nat) (v : Value), us[i]? = some v → ∃ k x, vs[i]? = some (k, x) ∧ (mixKind P w).is k v = true) → vs.map (·.1) = ks.map .inl → IntsAre us ks
  | [], ks, vs, hl, _, hk => by
    cases vs with
    | nil =>
      cases ks with
      | nil => exact .nil
      | cons => cases hk
    | cons => cases hl
  | u :: us, ks, vs, hl, h, hk => by
    cases vs with
    | nil => cases hl
    | cons q vs =>
      cases ks with
      | nil => cases hk
      | cons n ks =>
        rw [List.map_cons, List.map_cons] at hk
        injection hk with h1 h2
        obtain ⟨k, x, e, i⟩ := h 0 u rfl
        rw [List.getElem?_cons_zero] at e
        cases e
        rw [mixKind_is] at i
        have h1' : k = Sum.inl n := h1
        subst h1'
        rcases keyIs_shape i with ⟨j, t, e1, e2⟩ | ⟨y, t, e1, e2⟩
        · cases e1
          subst e2
          exact .cons n t (keysInts (P := P) (w := w) (by simpa using hl) (fun i v e => h (i + 1) v (by rw [List.getElem?_cons_succ]; exact e)) h2)
        · cases e1
theorem pe_sortedKeys {X : Cx} {e : Expr} {te : TE} {p pos apos cpos : Pos} (hc : X.calm = true) (hg : Gl X "sorted") (hm : X.mg "sorted" = none) (he : PE X e te)
    (hbase : attributeBase e "keys" X.env (eval e X.env) = eval e X.env := by rfl) (hline : (apos.endLine == cpos.line) = true := by rfl)
    (hs : starEach [.Call (.Attribute e "keys" apos) [] [] cpos] X.env = (false, eval (.Call (.Attribute e "keys" apos) [] [] cpos) X.env) :: starEach [] X.env := by rfl) :
    PE X (.Call (.Name "sorted" p) [.Call (.Attribute e "keys" apos) [] [] cpos] [] pos) (tSortKeys te) := by
  refine ⟨fun pins s σ H Q I h => ?_⟩
  refine wpAny_Call_Name_kw (ld_blt I hg hm bt_sorted ?_)
  refine PyProof.Rows.callWith_builtin1 (args_cons ?_ hs) hs rfl
  refine wpAny_Call_method (T := "dict") (id := "dict.keys") hbase rfl hline F.plainAttrs_dict F.slot_dict_keys F.type_dict_keys (thn (he.run pins s σ H _ I h) fun u s1 ⟨x, H1, I1, rx, d, kvs, ks, ex, hd, hks, q⟩ => ?_)
  subst ex
  obtain rfl : u = Value.ref d := rx
  obtain ⟨hz, hgd, vs, kv, hm⟩ := I1.hok d _ hd
  have hl : kvs.length = vs.length := Paired.length kv
  refine ⟨hm.typeIs, hm.mapOf.noDict, ?_⟩
  have I2 : Inv X pins σ H1 { s1 with heap := s1.heap.push { cls := .type "dict_keys", data := .fields #[.ref d] } } := I1.kept (t' := s1.toks) fun b ob q => Heap.get?_push_of_some _ q
  have fin : wpAny (model X.prog X.w) X.A (call (.builtin "sorted") [.ref s1.heap.objs.size]) (EP X pins σ Q) X.xe { s1 with heap := s1.heap.push { cls := .type "dict_keys", data := .fields #[.ref d] } } := by
    obtain ⟨ep, hat⟩ := hm.dictAt
    have hat2 := hat.push { cls := .type "dict_keys", data := .fields #[.ref d] }
    refine call_function_entry kind_sorted plain_sorted entry_sorted (args_sorted1 _) ?_
    unfold Builtin.«sorted»
    refine wpAny_bind (m := checkCount "sorted" 1 1 _) (wpAny_pure ?_)
    refine wpAny_bind (PySem.W.kdu_collect (A := X.A.in1) (PySem.W.kdl_keys (knd := mixKind X.prog X.w) (kvs := vs) (ep := ep)) (I1.ok.hd hc) ⟨⟨_, Heap.get?_push_size _ rfl, rfl, rfl⟩, hat2⟩ (by rw [← hl]; exact hz) fun h' tk acc hk hacc => ?_)
    have hlen : acc.toList.length = vs.length := by rw [Array.length_toList]; exact hacc.1
    refine wpAny_bind (wpAny_newList ?_ (by rw [hlen, ← hl]; exact hz))
    have hi : IntsAre acc.toList ks := keysInts (P := X.prog) (w := X.w) hlen (fun j v e => hacc.2 j v (by rw [← Array.getElem?_toList]; exact e)) ((kv_keys kv).symm.trans hks)
    have hzz : acc.toList.length ≤ sizeLine := by rw [hlen, ← hl]; exact hz
    have hob : (h'.push { cls := .type "list", data := .seq acc.toList.toArray }).get? h'.objs.size = some { cls := .type "list", data := .seq acc.toList.toArray } := Heap.get?_push_size _ rfl
    refine wpAny_bind (wpAny_holding (wpAny_call_entry slot_list_sort ⟨_, hob, rfl⟩ entry_list_sort (SrtO.list_sort_ord SrtO.swo_int hob hzz (fun h2 => SrtO.ints_sortable hi h2) fun out h1 h2 => ⟨_, rfl, ?_⟩) (args_list_sort _)))
    refine wpAny_pure ⟨_, rfl, ?_⟩
    obtain ⟨k1, k2, k3⟩ := SrtO.ints_out hi h1 h2
    obtain ⟨ep2, he'⟩ := PyProof.Rows.sortedHeap_at (vs := acc.toList) (out := out.toArray) hob
    have hlo : ((out.map SrtO.iv).map V.int).length ≤ sizeLine := by
      rw [List.length_map, k2.length_eq]
      have := congrArg List.length hks
      rw [List.length_map, List.length_map] at this
      rw [← this]; exact hz
    have old : ∀ b u, (s1.heap.push { cls := .type "dict_keys", data := .fields #[.ref d] }).get? b = some u → (sortedHeap (h'.push { cls := .type "list", data := .seq acc.toList.toArray }) h'.objs.size acc.toList out.toArray).get? b = some u := fun b u hu => by
      have h3 := hk b u hu
      have h4 : (h'.push { cls := .type "list", data := .seq acc.toList.toArray }).get? b = some u := Heap.get?_push_of_some _ h3
      rw [PyProof.Rows.sortedHeap_old (Nat.ne_of_lt (Heap.lt_size h3)) (Heap.lt_size h4)]
      exact h4
    have hsz : s1.heap.objs.size + 1 ≤ h'.objs.size := by
      have h3 := hk s1.heap.objs.size _ (Heap.get?_push_size _ rfl)
      exact Heap.lt_size h3
    have hpz : (s1.heap.push { cls := .type "dict_keys", data := .fields #[.ref d] }).objs.size ≤ h'.objs.size := by rw [size_push']; exact hsz
    exact ⟨.ref _, upd H1 h'.objs.size (.lst ((out.map SrtO.iv).map V.int)), I2.laid (t' := tk) old hpz ⟨hlo, out, ep2, vals_of_ints k1, he'⟩, rfl, q _ _ k2 k3 (I2.hok.fresh hpz)⟩
  show wpAny _ _ (callWith cpos (.builtin "dict.keys") [.ref d] [] []) _ _ s1
  exact method_meetsIn F.slot_dict_keys F.entry_dict_keys rfl (PySem.evalArgs_none ⟨rfl, hm.typeIs, F.args_dict_keys_1 _, _, PySem.W.kdl_meets_keys (mixKind X.prog X.w) d hgd, ⟨vs, hm⟩, args_nil fin⟩)
end Z
namespace Z
open PySem PySem.Spec PyProof.Rows L2
/-! ### dicts of one's own, keys ints -/
section
variable {K : PySem.W.Frag} {σ : L2.St} {S H S0 H0 : Hp} {L : List Addr} {ta tb te : TE} {β : Type} {Q : VK} {v : V} {D : Ends} {tu : TS}
def kvD (vf : β → V) (x : List (Int × β)) : List (Key × V) := x.map fun p => (.inl p.1, vf p.2)
def KR (vf : β → V) (kvs : List (Key × V)) (x : List (Int × β)) : Prop := kvs = kvD vf x
def putD (x : List (Int × β)) (k : Int) (v : β) : List (Int × β) := if (x.any fun p => decide (p.1 = k)) = true then x.map (fun p => if p.1 = k then (p.1, v) else p) else x ++ [(k, v)]
theorem KR.nil {vf : β → V} : KR vf [] [] := rfl
theorem KR.length {vf : β → V} {kvs : List (Key × V)} {x : List (Int × β)} (h : KR vf kvs x) : kvs.length = x.length := by rw [h]; unfold kvD; rw [List.length_map]
theorem KR.keys {vf : β → V} {kvs : List (Key × V)} {x : List (Int × β)} (h : KR vf kvs x) : kvs.map (·.1) = (x.map (·.1)).map .inl := by
  rw [h]
  unfold kvD
  rw [List.map_map, List.map_map]
  rfl
theorem KR.put {vf : β → V} {kvs : List (Key × V)} {x : List (Int × β)} (h : KR vf kvs x) (k : Int) (v : β) : KR vf (putK kvs (.inl k) (vf v)) (putD x k v) := by
  have inl : ∀ a : Int, decide ((Sum.inl a : Key) = .inl k) = decide (a = k) := fun a => decide_eq_decide.mpr ⟨fun e => Sum.inl.inj e, fun e => by rw [e]⟩
  have e1 : (kvs.any fun kv => decide (kv.1 = (.inl k : Key))) = x.any fun p => decide (p.1 = k) := by
    rw [h]
    unfold kvD
    rw [List.any_map]
    congr 1
    funext p
    exact inl p.1
  unfold KR putK putD
  rw [e1]
  split
  · rw [h]
    unfold kvD
    rw [List.map_map, List.map_map]
    apply List.map_congr_left
    intro p _
    show (if (Sum.inl p.1 : Key) = .inl k then ((Sum.inl p.1 : Key), vf v) else (.inl p.1, vf p.2)) = _
    by_cases e : p.1 = k
    · rw [if_pos (by rw [e])]
      show _ = ((.inl (if p.1 = k then (p.1, v) else p).1 : Key), vf (if p.1 = k then (p.1, v) else p).2)
      rw [if_pos e]
    · rw [if_neg (fun q => e (Sum.inl.inj q))]
      show _ = ((.inl (if p.1 = k then (p.1, v) else p).1 : Key), vf (if p.1 = k then (p.1, v) else p).2)
      rw [if_neg e]
  · rw [h]
    unfold kvD
    rw [List.map_append]
    rfl
theorem c_newdK (k : ∀ p H', Same H H' → H p = none → H' p = some (.dK []) → Q (.ref p) H') : tDNewK σ H Q := fun p hp => k p _ (same_upd hp) hp upd_same
theorem c_dnE (h : ∀ Q' : VK, Q' = Q → tDNewK σ H Q') : tDNewK σ H Q := h _ rfl
theorem c_setD {vf : β → V} {l : Addr} {kvs : List (Key × V)} {x : List (Int × β)} {i : Int} {q : β} (g : Grow L S0 H0 S H) (cl : Cel L H0 S H l (.dK kvs)) (r : KR vf kvs x) (ho : Val ta σ H (.ref l)) (hi : Val tb σ H (.int i)) (hz : x.length < 16777216)
    (k : ∀ kvs' H', Grow L S0 H0 S H' → Cel L H0 S H' l (.dK kvs') → KR vf kvs' (putD x i q) → (∀ l' o', l' ≠ l → Cel L H0 S H l' o' → Cel L H0 S H' l' o') → tu D σ H') : gSub ta tb rSetD (vf q) σ H (tu D) :=
  ho _ (hi _ ⟨l, _, rfl, DPut.k (k := .inl i) cl.h (by rw [r.length]; show _ < sizeLine; rw [sizeLine_eq]; exact hz), k _ _ (g.wr cl rfl) (cl.wr rfl) (r.put i q) fun l' o' n c => c.wrn n⟩)
theorem c_skE (h : ∀ Q' : VK, Q' = Q → tSortKeys te σ H Q') : tSortKeys te σ H Q := h _ rfl
theorem l_sortKeys {vf : β → V} {l : Addr} {kvs : List (Key × V)} {x : List (Int × β)} (ha : Val te σ H (.ref l)) (cl : Cel L H0 S H l (.dK kvs)) (r : KR vf kvs x) (k : ∀ p ws H', Same H H' → H p = none → H' p = some (.lst ws) → RL (K := K) qI S ws (sortI (x.map (·.1))) → Q (.ref p) H') : tSortKeys te σ H Q :=
  ha _ ⟨l, kvs, x.map (·.1), rfl, cl.h, r.keys, fun zs p h1 h2 hp => by
    have s1 : SrtO.Srtd ltI zs := h2.imp fun h => decide_eq_false (by omega)
    have : zs = sortI (x.map (·.1)) := srt_uniq ltI_tot (h1.trans (sortB_perm _).symm) s1 (sortB_srt ltI_asy ltI_tr _)
    subst this
    exact k p _ _ (same_upd hp) hp upd_same (RL.map V.int (fun _ => rfl) _)⟩
end
end Z

namespace Z
open PySem PySem.Spec PyProof.Rows L2
/-! ### texts -/
section
variable {K : PySem.W.Frag} {σ : L2.St} {S H S0 H0 : Hp} {L : List Addr} {ta tb te : TE} {Q : VK} {v : V} {D : Ends} {tu : TS}
def chS (s : Str) (i : Int) : Option Str := (L2.atI s.cps.toList i).map fun c => ⟨#[c]⟩
theorem v_chr {s c : Str} {i : Int} (ha : Val ta σ H (.str s)) (hb : Val tb σ H (.int i)) (hz : s.length ≤ 16777216) (he : chS s i = some c) : Val (tOp rIxS ta tb) σ H (.str c) := fun Q q => by
  unfold chS at he
  obtain ⟨n, e1, rfl⟩ := Option.map_eq_some_iff.mp he
  exact ha _ (hb _ ⟨s, i, n, rfl, rfl, hz, e1, q⟩)
@[irreducible] def inS (a b : Str) : Bool := !(Builtin.Str.occurrences b a 0 b.length 1).isEmpty
def rInT : R2 := fun x y H Q => ∃ i j, x = .str i ∧ y = .str j ∧ Q (.bl (!(Builtin.Str.occurrences j i 0 j.length 1).isEmpty)) H
def rNinT : R2 := fun x y H Q => ∃ i j, x = .str i ∧ y = .str j ∧ Q (.bl (!(!(Builtin.Str.occurrences j i 0 j.length 1).isEmpty))) H
theorem op_inT {X : Cx} : OpR X (compareOp .In) rInT := op_in_str
theorem op_ninT {X : Cx} : OpR X (compareOp .NotIn) rNinT := op_notin_str
theorem v_inS {a b : Str} (ha : Val ta σ H (.str a)) (hb : Val tb σ H (.str b)) : Val (tOp rInT ta tb) σ H (.bl (inS a b)) := fun Q q => ha _ (hb _ ⟨a, b, rfl, rfl, by unfold inS at q; exact q⟩)
theorem v_ninS {a b : Str} (ha : Val ta σ H (.str a)) (hb : Val tb σ H (.str b)) : Val (tOp rNinT ta tb) σ H (.bl (!(inS a b))) := fun Q q => ha _ (hb _ ⟨a, b, rfl, rfl, by unfold inS at q; exact q⟩)
theorem v_cutS {s : Str} {tl th : TO} {lo hi : Option Int} (ha : Val te σ H (.str s)) (hl : ∀ q : Option Int → Hp → Prop, q lo H → tl σ H q) (hh : ∀ q : Option Int → Hp → Prop, q hi H → th σ H q) (hz : s.length ≤ 16777216) :
    Val (tSl rSlS te tl th) σ H (.str (cutS s lo hi)) := fun Q q => c_slice ha hl hh ⟨s, rfl, hz, q⟩
def gStr (i : Int) : Prop := i.natAbs < 1073741824
instance (i : Int) : Decidable (gStr i) := by unfold gStr; infer_instance
def strI (i : Int) : Str := (toString i : String)
theorem v_strI {i : Int} (ha : Val ta σ H (.int i)) (hz : gStr i) : Val (tCB (fun xs H Q => ∃ i, xs = [.int i] ∧ i.natAbs.log2 < 1920 ∧ Q (.str (toString i)) H) (tCons ta tNil)) σ H (.str (strI i)) := fun Q q => ha _ ⟨i, rfl, by
  unfold gStr at hz
  by_cases h0 : i.natAbs = 0
  · rw [h0]; decide
  · have := Nat.log2_lt (n := i.natAbs) (k := 30) h0
    have h2 : i.natAbs.log2 < 30 := this.mpr hz
    omega, q⟩
/-! a text's sgs -/
def sgs (x : Str) : List Str := x.cps.toList.map fun c => ⟨#[c]⟩
theorem z_forS {x : Str} {te : TE} {g : TG} {tb : TS} (ha : Val te σ H (.str x)) (Pv : List Str → L2.St → Hp → Prop) (h0 : Pv (sgs x) σ H)
    (hs : ∀ y ys σ' H', Pv (y :: ys) σ' H' → ∀ N : L2.St → Hp → Prop, (∀ σ'' H'', Pv ys σ'' H'' → N σ'' H'') → g (.str y) σ' H' fun σ2 H2 => tb { D with nx := N, ct := N, bk := tu D } σ2 H2) (hd : ∀ σ' H', Pv [] σ' H' → tu D σ' H') :
    tSeq (tFor (iStr te) g tb) tu D σ H := ha _ ⟨x, rfl, by
  refine ⟨fun i m σ H => i ≤ x.cps.size ∧ m = x.cps.size - i ∧ Pv ((sgs x).drop i) σ H, ⟨_, Nat.zero_le _, rfl, h0⟩, fun i m σ H h => ?_⟩
  obtain ⟨hi, rfl, hp⟩ := h
  have hl : (sgs x).length = x.cps.size := by unfold sgs; rw [List.length_map, Array.length_toList]
  by_cases hc : i < x.cps.size
  · refine .inr ⟨hc, fun σ' H' => Pv ((sgs x).drop (i + 1)) σ' H', fun σ' H' q => ⟨x.cps.size - (i + 1), by omega, by omega, rfl, q⟩, fun v H' hy => ?_⟩
    obtain ⟨rfl, c, ec, rfl⟩ := hy
    have e : (sgs x).drop i = (⟨#[c]⟩ : Str) :: (sgs x).drop (i + 1) := by
      rw [List.drop_eq_getElem_cons (by rw [hl]; exact hc)]
      congr 1
      unfold sgs
      rw [List.getElem_map, Array.getElem_toList]
      rw [Array.getElem?_eq_getElem hc] at ec
      rw [Option.some.inj ec]
    rw [e] at hp
    exact hs _ _ σ H' hp _ fun σ'' H'' z => z
  · refine .inl ⟨by show x.cps.size ≤ i; omega, ?_⟩
    rw [List.drop_eq_nil_of_le (by omega)] at hp
    exact hd _ _ hp⟩
/-! x in a new tuple of texts -/
theorem inV_str (x : Str) : ∀ ys : List Str, inV (.str x) (ys.map V.str) = ys.any fun y => decide (y = x)
  | [] => rfl
  | y :: ys => by
    show (y == x || inV (.str x) (ys.map V.str)) = _
    rw [inV_str x ys, List.any_cons]
    congr 1
theorem e_inTS {x : Str} {p : Addr} {ys : List Str} (h : H p = some (.tup (ys.map V.str))) (q : Q (.bl (ys.any fun y => decide (y = x))) H) : rIn K false (.str x) (.ref p) H Q :=
  ⟨p, _, rfl, .inr (SqT.of h), rfl, by rw [List.all_map]; exact List.all_eq_true.mpr fun _ _ => rfl, by
    show Q (.bl (inV _ _)) H
    rw [inV_str]; exact q⟩
end
end Z
namespace Z
open PySem PySem.Spec PyProof.Rows L2
/-! ### enumerate(text) -/
theorem draws_str {prog : Program} {w : World} {A : Around} (hh : A.handled = none) (it : Addr) (x : Str) (t : Tok) :
    Draws prog w A it [it] x.cps.size (fun i v => ∃ c u, x.cps[i]? = some c ∧ v = .str ⟨#[c]⟩ u) (fun i h => h.IsStrIter it (strIterType x) x t i) := by
  unfold strIterType
  split
  · exact Draws.strAscii hh it x t
  · exact Draws.strWide hh it x t
def Iten (x : Str) : It :=
  ⟨fun i _ => i < x.cps.size, fun i H v H' => ∃ T c, v = .ref T ∧ H T = none ∧ H' = upd H T (.tup [.int (i : Nat), .str ⟨#[c]⟩]) ∧ x.cps[i]? = some c, fun i _ => x.cps.size ≤ i⟩
theorem turn_enumS {P : Program} {w : World} {K : PySem.W.Frag} {elts : List Expr} {kk : Nat} {tpos : Pos} (x : Str) (t : Tok) (e it : Addr) :
    Turn P w K (.Tuple elts kk tpos) (Iten x) [e, it] e (fun i h => (∃ old, IsEnum h e it ((i : Nat) : Int) old) ∧ h.IsStrIter it (strIterType x) x t i ∧ e ≠ it ∧ i ≤ x.cps.size) where
  mem := by simp
  obj := fun i h st b hb => by
    obtain ⟨⟨old, he⟩, ⟨o, ho, hc, hd⟩, _⟩ := st
    have e' : b = e ∨ b = it := by simpa using hb
    rcases e' with z | z
    · rw [z]; exact ⟨_, he, fun v q => nomatch q⟩
    · rw [z]; exact ⟨o, ho, fun v q => by rw [hd] at q; cases q⟩
  keep := fun i h h' st k => let ⟨⟨old, he⟩, ⟨o, ho, r⟩, hne⟩ := st; ⟨⟨old, k e (by simp) _ he⟩, ⟨o, k it (by simp) o ho, r⟩, hne⟩
  item := by
    intro X hP hw hK hc i pins s σ H E I hf st hg
    subst hP hw hK
    obtain ⟨⟨old, he⟩, hit, hne, hsz0⟩ := st
    have hel : e < s.heap.objs.size := Heap.lt_size he
    have hil : it < s.heap.objs.size := by obtain ⟨_, q, _⟩ := hit; exact Heap.lt_size q
    refine wpAny_pyNext_enum_itemD (draws_str (show X.A.in1.handled = none from I.ok.hd hc) it x t) he hit hg hne (by simp [hne]) fun v h' tk hv ho hit' hT hsz hk => ?_
    obtain ⟨c, u, hcx, rfl⟩ := hv
    refine ⟨_, rfl, wpAny_letOwnedTupleGo_enum (s := { s with heap := h', toks := tk + 1 }) ho fun h'' he' sb => ?_⟩
    have hT2 : h''.get? s.heap.objs.size = some { cls := .type "tuple", data := .seq #[.int i tk, .str ⟨#[c]⟩ u] } := (sb.2 _ (Nat.ne_of_gt hel)).trans hT
    have new : ObjOk X.prog X.w (upd H s.heap.objs.size (.tup [.int (i : Nat), .str ⟨#[c]⟩])) h'' s.heap.objs.size (.tup [.int (i : Nat), .str ⟨#[c]⟩]) :=
      ⟨by show 2 ≤ sizeLine; decide, [.int i tk, .str ⟨#[c]⟩ u], .cons ⟨_, rfl⟩ (.cons ⟨_, rfl⟩ .nil), ⟨_, hT2, rfl, _, rfl⟩⟩
    have I1 : Inv X pins σ (upd H s.heap.objs.size (.tup [.int (i : Nat), .str ⟨#[c]⟩])) { s with heap := h'', toks := tk + 1 } :=
      I.turnedNew (ch := [e, it]) (fun b ob hb q => (sb.2 b (fun z => hb (by simp [z]))).trans (hk b ob (fun z => hb (by simp [z])) (fun z => hb (by simp [z])) q)) hf (Nat.le_refl _) new
    have hit2 : h''.IsStrIter it (strIterType x) x t (i + 1) := by
      obtain ⟨o, q1, q2⟩ := hit'
      exact ⟨o, (sb.2 it (Ne.symm hne)).trans q1, q2⟩
    refine ⟨.ref s.heap.objs.size, _, I1, rfl, ⟨_, c, rfl, I.hok.fresh (Nat.le_refl _), rfl, hcx⟩, ⟨⟨Value.str ⟨#[c]⟩ u, ?_⟩, hit2, hne, hg⟩, fun b hb => ?_⟩
    · have e1 : ((i + 1 : Nat) : Int) = (i : Int) + 1 := by omega
      rw [e1]; exact he'
    · have hb' : b < s.heap.objs.size := by
        have e' : b = e ∨ b = it := by simpa using hb
        rcases e' with z | z
        · rw [z]; exact hel
        · rw [z]; exact hil
      rw [upd_ne (Nat.ne_of_lt hb')]
      exact (hf b hb).1
  done := by
    intro X hP hw hK hc i pins s σ H E I hf st hg
    subst hP hw hK
    obtain ⟨⟨old, he⟩, hit, hne, hsz0⟩ := st
    obtain ⟨f0, f1, f2, f3, f4, f5⟩ := hf it (by simp)
    obtain rfl : i = x.cps.size := Nat.le_antisymm hsz0 hg
    exact wpAny_pyNext_enum_endD (draws_str (show X.A.in1.handled = none from I.ok.hd hc) it x t) he hit fun h' eb => ⟨rfl, I.turned (t' := s.toks) (fun b o hb q => eb b o hb q) f0 f1 f3 f4 f5⟩
  self := fun A i s Q E st h => let ⟨⟨_, he⟩, _⟩ := st; wpAny_pyIter_enum he h
def iEnumS (ta : TA) : TI := fun σ H R => ta σ H fun vs H1 => ∃ x, vs = [.str x] ∧ R (Iten x) H1
theorem pi_enumS {X : Cx} {e : Expr} {ta : TA} {p pos tpos : Pos} {elts : List Expr} {kk : Nat} (hg : Gl X "enumerate") (hm : X.mg "enumerate" = none) (ha : PA X [e] ta) (hs : starEach [e] X.env = [(false, eval e X.env)] := by rfl) :
    PI X (.Tuple elts kk tpos) (.Call (.Name "enumerate" p) [e] [] pos) (iEnumS ta) := by
  refine ⟨fun pins s σ H R I h => ?_⟩
  refine Call_ (ld_blt I hg hm boot_enumerate (PyProof.Rows.callWith_type1 (thn (ha.run pos pins s σ H _ I h) fun us s1 ⟨vs, H1, I1, r1, q1⟩ => ?_) hs rfl))
  obtain ⟨x, ex, q⟩ := q1
  subst ex
  cases r1 with
  | cons r rr =>
    cases rr
    obtain ⟨t, rfl⟩ := r
    refine call_enumerate_str fun h' he hit hsz hk => wpAny_pyIter_enum he ?_
    have I2 : Inv X pins σ H1 { s1 with heap := h' } := I1.kept (t' := s1.toks) hk
    refine ⟨s1.heap.objs.size + 1, [s1.heap.objs.size + 1, s1.heap.objs.size], _, _, H1, rfl, I2, turn_enumS x t (s1.heap.objs.size + 1) s1.heap.objs.size, ⟨⟨.none, he⟩, hit, Nat.succ_ne_self _, Nat.zero_le _⟩, fun b hb => ?_, q⟩
    have e' : b = s1.heap.objs.size + 1 ∨ b = s1.heap.objs.size := by simpa using hb
    have hle : s1.heap.objs.size ≤ b := by
      rcases e' with z | z
      · rw [z]; exact Nat.le_add_right _ _
      · rw [z]; exact Nat.le_refl _
    exact I1.fpOk hle (I1.hok.fresh hle)
section
variable {K : PySem.W.Frag} {σ : L2.St} {H : Hp} {te : TE} {D : Ends} {tu : TS}
theorem z_forNS {x : Str} {g : TG} {tb : TS} (ha : Val te σ H (.str x)) (Pv : List (Int × Str) → L2.St → Hp → Prop) (h0 : Pv (enumI (sgs x)) σ H)
    (hs : ∀ (y : Int × Str) ys σ' H', Pv (y :: ys) σ' H' → ∀ N : L2.St → Hp → Prop, (∀ σ'' H'', Pv ys σ'' H'' → N σ'' H'') → ∀ t, H' t = none → g (.ref t) σ' (upd H' t (.tup [.int y.1, .str y.2])) fun σ2 H2 => tb { D with nx := N, ct := N, bk := tu D } σ2 H2) (hd : ∀ σ' H', Pv [] σ' H' → tu D σ' H') :
    tSeq (tFor (iEnumS (tCons te tNil)) g tb) tu D σ H := ha _ ⟨x, rfl, by
  have hl : (sgs x).length = x.cps.size := by unfold sgs; rw [List.length_map, Array.length_toList]
  refine ⟨fun i m σ H => i ≤ x.cps.size ∧ m = x.cps.size - i ∧ Pv ((enumI (sgs x)).drop i) σ H, ⟨_, Nat.zero_le _, rfl, h0⟩, fun i m σ H h => ?_⟩
  obtain ⟨hi, rfl, hp⟩ := h
  by_cases hc : i < x.cps.size
  · refine .inr ⟨hc, fun σ' H' => Pv ((enumI (sgs x)).drop (i + 1)) σ' H', fun σ' H' q => ⟨x.cps.size - (i + 1), by omega, by omega, rfl, q⟩, fun v H' hy => ?_⟩
    obtain ⟨T, c, rfl, hT, rfl, ec⟩ := hy
    have e2 : (enumI (sgs x))[i]? = some ((i : Int), (⟨#[c]⟩ : Str)) := by
      have := enumF_get (sgs x) 0 i ⟨#[c]⟩ (by
        unfold sgs
        rw [List.getElem?_map, Array.getElem?_toList, ec]; rfl)
      rw [Nat.zero_add] at this
      exact this
    have e3 : (enumI (sgs x)).drop i = ((i : Int), (⟨#[c]⟩ : Str)) :: (enumI (sgs x)).drop (i + 1) := by
      obtain ⟨h1, h2⟩ := List.getElem?_eq_some_iff.mp e2
      rw [List.drop_eq_getElem_cons h1, h2]
    rw [e3] at hp
    exact hs _ _ σ H hp _ (fun _ _ z => z) T hT
  · refine .inl ⟨by show x.cps.size ≤ i; omega, ?_⟩
    rw [List.drop_eq_nil_of_le (by unfold enumI; rw [enumF_len]; omega)] at hp
    exact hd _ _ hp⟩
end
end Z
namespace Z
open PySem PySem.Spec PyProof.Rows L2
/-! ### a list and an empty one: ==, whatever the items are -/
def rEqE (K : PySem.W.Frag) : R2 := fun x y H Q => ∃ (p q : Addr) (xs ys : List V), x = .ref p ∧ y = .ref q ∧ SqL K H p xs ∧ SqL K H q ys ∧ ys.length = 0 ∧ Q (.bl (decide (xs.length = 0))) H
theorem op_eqE {X : Cx} (hu : X.A.units < cLine) : OpR X (compareOp .Eq) (rEqE X.K) := by
  intro pins s σ H x y v u Q I rx ry h
  obtain ⟨p, q, xs, ys, rfl, rfl, h1, h2, h3, k⟩ := h
  cases rx
  cases ry
  obtain ⟨is1, r1, p1, z1⟩ := I.list h1
  obtain ⟨is2, r2, p2, z2⟩ := I.list h2
  have l1 := r1.length
  have l2 := r2.length
  by_cases e : xs.length = 0
  · rw [decide_eq_true e] at k
    refine SeqAt.eq_listAt (e := fun _ => true) p1.isList p2.isList (by simp; omega) hu (fun j hj1 hj2 => absurd hj2 (by simp; omega)) ⟨.bl true, H, I, ?_, k⟩
    rw [show (List.range is1.toArray.size).all (fun _ => true) = true from List.all_eq_true.mpr fun _ _ => rfl]
    rfl
  · rw [decide_eq_false e] at k
    exact SeqAt.eq_list_lengthsAt p1.isList p2.isList (by simp; omega) hu ⟨.bl false, H, I, rfl, k⟩
section
variable {K : PySem.W.Frag} {σ : L2.St} {H : Hp} {ta tb te : TE} {Q : VK} {x y v : V} {α β : Type} {τ : Rep K α} {υ : Rep K β}
theorem e_eqE {xs : List α} {ys : List β} (h1 : (qQ τ).R H x xs) (h2 : (qQ υ).R H y ys) (hz : ys.length = 0) (q : Q (.bl (decide (xs.length = 0))) H) : rEqE K x y H Q := by
  obtain ⟨a, ws, rfl, h3, h4⟩ := h1
  obtain ⟨b, us, rfl, h5, h6⟩ := h2
  exact ⟨a, b, ws, us, rfl, rfl, h3, h5, by rw [h6.length]; exact hz, by rw [h4.length]; exact q⟩
def gJoin (s : Str) (xs : List Str) : Prop := (xs.map (·.length)).sum + xs.length * s.length ≤ 16777216
instance (s : Str) (xs : List Str) : Decidable (gJoin s xs) := by unfold gJoin; infer_instance
theorem strs_of {xs : List Str} : ∀ {ws : List V}, RL (K := K) qS H ws xs → ws = xs.map V.str := fun h => RL.eqmap V.str (fun _ _ q => q) h
def rJoin (K : PySem.W.Frag) : V → List V → Hp → VK → Prop := fun x xs H Q => ∃ a p, ∃ ys : List Str, x = .str a ∧ xs = [.ref p] ∧ (SqL K H p (ys.map V.str) ∨ SqT K H p (ys.map V.str)) ∧
      (ys.map (·.length)).sum + ys.length * a.length ≤ 16777216 ∧ Q (.str (Txt.join a ys)) H
theorem v_join {s : Str} {xs : List Str} (ha : Val ta σ H (.str s)) (hb : Val tb σ H v) (hr : (qQ (K := K) qS).R H v xs) (hz : gJoin s xs) : Val (tM1 (rJoin K) ta tb) σ H (.str (Txt.join s xs)) := fun Q q => by
  obtain ⟨a, ws, rfl, h3, h4⟩ := hr
  exact ha _ ⟨⟨_, rfl⟩, hb _ ⟨s, a, xs, rfl, rfl, .inl (by rw [← strs_of h4]; exact h3), hz, q⟩⟩
theorem c_methE {C : Addr} {m : Str} {sp : Sp} {dvs : List V} {E : XK} {t : TA} (h : ta σ H fun x H1 => tMeth C m sp dvs E (tC x) t σ H1 Q) : tMeth C m sp dvs E ta t σ H Q := h
end
end Z

namespace Z
open PySem PySem.Spec PyProof.Rows L2
/-! ### walks over range(e), e with effects -/
section
variable {K : PySem.W.Frag} {σ : L2.St} {S H S0 H0 : Hp} {L : List Addr} {ta tb te : TE} {Q : VK} {v : V} {D : Ends} {tu : TS}
def kTA (us : List V) : TA := fun _ H q => q us H
theorem va_k {us : List V} : VA (kTA us) σ H us := fun _ q => q
theorem z_rng1E {tr : TA} {g : TG} {tb : TS} (h : tr σ H fun us H1 => tSeq (tFor (iRng1 (kTA us)) g tb) tu D σ H1) : tSeq (tFor (iRng1 tr) g tb) tu D σ H := h
theorem c_lcR1E {tr : TA} {g : TG} {tt : TT} {vs : List Nat} (h : tr σ H fun us H1 => tLc (iRng1 (kTA us)) g tt te vs σ H1 Q) : tLc (iRng1 tr) g tt te vs σ H Q := h
theorem OP.pr2 {α β γ : Type} {k : α → β → Option γ} {a : α} {b : β} {A : γ → Prop} (h : OP (Z.lt (a, b).1 fun x => Z.lt (a, b).2 fun y => k x y) A) : OP (k a b) A := h
/-- list(range(n)) -/
def gRg (n : Int) : Prop := 0 ≤ n ∧ n ≤ 16777216
instance (n : Int) : Decidable (gRg n) := by unfold gRg; infer_instance
theorem l_listRg {n : Int} (ha : Val te σ H (.int n)) (hj : gRg n) (k : ∀ p ws H', Same H H' → H p = none → H' p = some (.lst ws) → RL (K := K) qI S ws (rangeI 0 n.toNat) → Q (.ref p) H') : tLstRg (tRg1 te) σ H Q :=
  ha _ ⟨n, rfl, .of_le (by decide) hj.2 (by decide) hj.1, fun p hp => k p _ _ (same_upd hp) hp upd_same (by
    have e : rgV 0 n = (rangeI 0 n.toNat).map V.int := by
      unfold rgV rangeI
      rw [List.map_map, Int.sub_zero]; rfl
    rw [e]
    exact RL.map V.int (fun _ => rfl) _)⟩
theorem c_rgE (h : ∀ Q' : VK, Q' = Q → te σ H Q') : te σ H Q := h _ rfl
/-- xs.pop(i) -/
def gIx (i : Int) : Prop := -(2 ^ 63) ≤ i ∧ i < 2 ^ 63
instance (i : Int) : Decidable (gIx i) := by unfold gIx; infer_instance
def popI {α : Type} (xs : List α) (i : Int) : Option (α × List α) := (seqIndex? i xs.length).bind fun k => (xs[k]?).map fun y => (y, xs.eraseIdx k)
theorem RL.erase {α : Type} {τ : Rep K α} : ∀ {ws : List V} {xs : List α} (_ : RL τ S ws xs) (k : Nat), RL τ S (ws.eraseIdx k) (xs.eraseIdx k)
  | _, _, .nil, _ => .nil
  | _, _, .cons _ b, 0 => b
  | _, _, .cons a b, k + 1 => .cons a (RL.erase b k)
theorem c_popAt {α : Type} {τ : Rep K α} {l : Addr} {ws : List V} {xs : List α} {r : α × List α} {i : Int} (g : Grow L S0 H0 S H) (cl : Cel L H0 S H l (.lst ws)) (h : RL τ S ws xs) (hi : gIx i) (he : popI xs i = some r)
    (k : ∀ w, τ.R S w r.1 → ∀ ws' H', Grow L S0 H0 S H' → Cel L H0 S H' l (.lst ws') → RL τ S ws' r.2 → (∀ l' o', l' ≠ l → Cel L H0 S H l' o' → Cel L H0 S H' l' o') → Q w H') : rPopAt (.ref l) [.int i] H Q := by
  unfold popI at he
  obtain ⟨j, ej, h2⟩ := Option.bind_eq_some_iff.mp he
  obtain ⟨y, ey, rfl⟩ := Option.map_eq_some_iff.mp h2
  obtain ⟨w, ew, rw_⟩ := h.get ey
  exact ⟨l, ws, i, j, w, rfl, rfl, cl.h, hi.1, hi.2, by rw [h.length]; exact ej, ew, k w rw_ _ _ (g.wr cl rfl) (cl.wr rfl) (RL.erase h j) fun l' o' n c => c.wrn n⟩
/-- an item of a list whose items are known -/
theorem v_ixl {l : Addr} {ws : List V} {w : V} {i : Int} (hl : H l = some (.lst ws)) (hx : L2.atI ws i = some w) (ha : Val ta σ H (.ref l)) (hb : Val tb σ H (.int i)) : Val (tOp (rIxL K) ta tb) σ H w :=
  fun Q q => ha _ (hb _ ⟨l, ws, i, w, rfl, rfl, SqL.of hl, hx, q⟩)
end
end Z
namespace Z
open PySem PySem.Spec PyProof.Rows L2
section
variable {K : PySem.W.Frag} {σ : L2.St} {S H S0 H0 : Hp} {L : List Addr} {ta tb te : TE} {Q : VK} {v : V}
/-! rows of a list of lists -/
theorem v_lenRow {n : Int} (ha : Val ta σ H v) (h : ∃ (l : Addr) (ws : List V), v = .ref l ∧ H l = some (.lst ws) ∧ (ws.length : Int) = n) : Val (tCB (rLenS K) (tCons ta tNil)) σ H (.int n) := fun Q q => by
  obtain ⟨l, ws, rfl, h1, rfl⟩ := h
  exact ha _ ⟨l, ws, rfl, .inl (SqL.of h1), q⟩
theorem lenRow {α : Type} {τ : Rep K α} {l : Addr} {ws : List V} {xs : List α} (h : H l = some (.lst ws)) (r : RL τ S ws xs) : ∃ (l' : Addr) (ws' : List V), (V.ref l) = .ref l' ∧ H l' = some (.lst ws') ∧ (ws'.length : Int) = (xs.length : Int) := ⟨l, ws, rfl, h, by rw [r.length]⟩
theorem c_clearR {l : Addr} {ws : List V} (ha : Val ta σ H (.ref l)) (h : H l = some (.lst ws)) (q : Q .non (upd H l (.lst []))) : tBM0 K "list" rClear ta σ H Q := ha _ ⟨tyL h, l, ws, rfl, rfl, h, q⟩
theorem eqsL : ∀ ws : List V, Paired (fun (a b : V) => a = b) ws ws
  | [] => .nil
  | _ :: ws => .cons rfl (eqsL ws)
end
end Z

namespace Z
open PySem PySem.Spec PyProof.Rows L2
/-! ### the error that is handled, handed to a def of one's own -/
/-- called with the handled error (of class D) alone, the def answers what its mirror answers -/
structure FnE (P : Program) (w : World) (K : PySem.W.Frag) (mg : Str → Option Value) (base : Heap) (k : Nat) (f : Addr) (fd : FuncData) (pn : Str) (D : Addr) (mir : Option Bool) : Prop where
  run : ∀ (A : Around) (outer : List Env) (s : Shared) (H : Hp) (args : Args) (Q : VK) (E : XK) (a : Addr) (oe : Obj), L2H.RoomH k A → L2H.PinOk outer H s (a, oe) → Zc (.ref D) none oe → (∃ vs, oe.data = .fields vs) →
    Env0 P w K mg base A outer s H → BindsTo s fd args ([pn].zip [.ref a]) → (∃ S, Same S H ∧ OP mir fun r => ∀ S' H', Grow [] S H S' H' → Q (.bl r) H') → codeAny (model P w) A (.call (.ref f) args) (CR CX0 outer P w H s Q E) s
theorem FnE.mono {P : Program} {w : World} {K : PySem.W.Frag} {mg : Str → Option Value} {base : Heap} {j k : Nat} {f : Addr} {fd : FuncData} {pn : Str} {D : Addr} {mir : Option Bool} (F : FnE P w K mg base j f fd pn D mir) (h : j ≤ k) : FnE P w K mg base k f fd pn D mir :=
  ⟨fun A outer s H args Q E a oe hr => F.run A outer s H args Q E a oe (hr.mono h)⟩
theorem fnE_of {P : Program} {w : World} {K : PySem.W.Frag} {mg : Str → Option Value} {base : Heap} {x qual : Str} {st : Stmt} {f : Addr} {fd : FuncData} {N : List Str} {pn : Str} {k : Nat} {D : Addr} {mir : Option Bool} (F : Fun K x qual st f fd) (S : FnScope N [pn] (defScope st))
    (hbody : ∀ (cdv : Value) (A : Around) (outer : List Env) (s : Shared) (H : Hp) (Q : VK) (E : XK) (a : Addr) (oe : Obj) (S0 : Hp), Zc (.ref D) none oe → (∃ vs, oe.data = .fields vs) → Same S0 H → OP mir (fun r => ∀ S' H', Grow [] S0 H S' H' → Q (.bl r) H') →
      ∃ t, PSs (L2H.cxH CX0 P w K mg base N qual (defScope st) f cdv A outer s H E (a, oe)).nox (defBody st) t ∧ t { nx := fun _ H' => Q .non H', rt := Q } (start N [.ref a]) H) : FnE P w K mg base (k + 1) f fd pn D mir := ⟨by
  intro A outer s H args Q E a oe hr pin hz hf e0 hb hm
  obtain ⟨S0, hS, ho⟩ := hm
  obtain ⟨oc, od, kV, doc, pm, an, cdv, ct, osl, rfl, lk, hcd⟩ := F.ex
  have kin := e0.mod.kin.keeps fun b o q => (e0.bs b o q).1
  have kinds : ∀ y ∈ [pn].zip [Value.ref a], (defScope st).names.lookup y.1 = some .local ∨ ((defScope st).names.lookup y.1 = some .cell ∧ ((cellsFrom (s.heap.objs.size + 1) (defScope st).names []).lookup y.1).isSome = true) := by
    rintro ⟨n, v⟩ hy
    exact (S.par n (List.of_mem_zip hy).1).imp id fun q => ⟨q, PySem.W.cellsFrom_some _ _ _ (.inl q)⟩
  refine codeAny_call_function hr.depth (kin _ _ lk) rfl S.co S.gen rfl (PySem.W.codeRec_of kin hcd) (hb _ _ _ _ (wpAny_newFunctionEnv_cells S.kind kinds fun env he s1 x => ?_))
  subst he
  obtain ⟨t, ht, hq⟩ := hbody cdv A outer s H Q E a oe S0 hz hf hS ho
  refine ⟨(e0.mod.nolimit.keeps fun b o q => (e0.bs b o q).1).keeps x.toInCall.keep, codeAny_func (wpAny_mono (ht.nox.run [] s1 (start N [.ref a]) H _ (L2H.inv_startH (E := E) S pin e0 rfl (.cons rfl .nil) x) hq) (fun fl s' hs => ?_) fun _ _ z => z)⟩
  cases fl with
  | ret u =>
    obtain ⟨v, σ', H', J, rv, q⟩ := hs
    exact ⟨v, H', J.os, J.bare, J.base, J.hok, rv, q⟩
  | next =>
    obtain ⟨σ', H', J, q⟩ := hs
    exact ⟨V.non, H', J.os, J.bare, J.base, J.hok, rfl, q⟩
  | brk => exact hs.elim fun _ z => z.elim fun _ z => z.2.elim
  | cont => exact hs.elim fun _ z => z.elim fun _ z => z.2.elim⟩
/-- such a call -/
def tCallE (mir : Option Bool) (a D : Addr) (cls : Value) (d : Option Addr) (t : TA) : TE := fun σ H Q => t σ H fun vs H1 => vs = [.ref a] ∧ cls = .ref D ∧ d = none ∧ ∃ S, Same S H1 ∧ OP mir fun r => ∀ S' H', Grow [] S H1 S' H' → Q (.bl r) H'
theorem pe_callE {X : Cx} {k : Nat} {f D a : Addr} {cls : Value} {d : Option Addr} {oe : Obj} {fd : FuncData} {pn x : Str} {mir : Option Bool} {q pos : Pos} {e : Expr} {t : TA} (F : FnE X.prog X.w X.K X.mg X.base k f fd pn D mir) (hr : L2H.RoomH k X.A) (hp : (a, oe) ∈ X.pn) (hz : Zc cls d oe) (hf : ∃ vs, oe.data = .fields vs)
    (hg : Gl X x) (hm : X.mg x = some (.ref f)) (hk : PySem.W.keepIn X.K (.ref f) = true) (hb : Binds X.K fd [pn] []) (ha : PA X [e] t) (hdb : (x == ("__debug__" : Str)) = false := by decide) (he : starEach [e] X.env = (false, eval e X.env) :: starEach [] X.env := by rfl) (hpl : (backTo pos (starEach [] X.env)).any (·.1) = false := by rfl) :
    PE X (.Call (.Name x q) [e] [] pos) (tCallE mir a D cls d t) := ⟨fun pins s σ H Q I h =>
  wpAny_Call_Name_kw (ld_glob I hg hm (PySem.W.callWith_K (h₀ := X.base) I.ok.mod.kin hk (thn (ha.run pos pins s σ H _ I h) fun us s1 ⟨vs, H1, J, r, ev, ec, ed, h2⟩ => ⟨J.kIn, by
    subst ev ec ed
    cases r with
    | cons r0 rr =>
      cases rr
      cases (show _ = Value.ref a from r0)
      have P1 := J.pin (a, oe) (List.mem_append_left _ hp)
      refine wpAny_call (codeAny_mono (F.run X.A X.stack s1 H1 ⟨[.ref a], []⟩ Q (fun _ _ _ => False) a oe hr ⟨P1.1, P1.2.1, fun hm2 => (List.mem_cons.mp (J.stkSub a hm2)).elim P1.2.2.1 P1.2.2.2.1, P1.2.2.2.2⟩ hz hf J.env0 (hb s1 [.ref a] J.kIn rfl) h2) fun res s' hq => ?_)
      cases res with
      | error e1 => exact absurd hq (by exact fun z => z)
      | ok fl =>
        cases fl with
        | ret u => exact J.after hq
        | next => exact hq.elim
        | brk => exact hq.elim
        | cont => exact hq.elim⟩) he hpl) hdb)⟩
section
variable {K : PySem.W.Frag} {σ : L2.St} {S H : Hp} {ta : TE} {a D : Addr} {mir : Option Bool} {Q : VK}
theorem c_callE (ha : Val ta σ H (.ref a)) (e : Same S H) (h : OP mir fun r => ∀ S' H', Grow [] S H S' H' → Q (.bl r) H') : tCallE mir a D (.ref D) none (tCons ta tNil) σ H Q := ha _ ⟨rfl, rfl, rfl, S, e, h⟩
end
/-- isinstance of the handled error, wherever its place is known -/
theorem pinX {X : Cx} {a D : Addr} {oe : Obj} {pins : List (Addr × Obj)} {σ : L2.St} {H : Hp} {s : Shared} (hp : (a, oe) ∈ X.pn) (I : Inv X pins σ H s) (hz : Zc (.ref D) none oe) (hf : ∃ vs, oe.data = .fields vs) : PySem.W.InstAt s.heap a oe D none := by
  obtain ⟨gt, _⟩ := I.pin (a, oe) (List.mem_append_left _ hp)
  obtain ⟨vs, hv⟩ := hf
  obtain ⟨c1, c2, c3, c4⟩ := oe
  obtain ⟨z1, z2⟩ := hz
  dsimp only at z1 z2 hv
  subst z1 z2 hv
  exact ⟨gt, rfl, rfl, trivial⟩
theorem call_isETX {X : Cx} {a : Addr} {cls : Value} {d : Option Addr} {oe : Obj} (hp : (a, oe) ∈ X.pn) (hz : Zc cls d oe) (hf : ∃ vs, oe.data = .fields vs) : CallR X (.builtin "isinstance") (rIsET X.K cls d a) := fun pins s σ H xs us Q I r h => by
  obtain ⟨D, tp, cs, ws, b, rfl, rfl, C, rfl, hT, k, e, q⟩ := h
  obtain ⟨v1, v2, rfl, w1, w2⟩ := vals2 r
  cases (show v2 = _ from w2)
  cases (show v1 = _ from w1)
  have J := pinX hp I hz hf
  obtain ⟨_, its, rv, ⟨oc, od, dt, sl⟩, h1, h2, n, h3⟩ := I.hok tp _ hT
  cases ClsV.all k rv
  cases h2
  cases h3
  exact PySem.W.kia_tup (PySem.W.handS_kitx_exc C.hg C.hk C.hs C.hd C.ha C.hn C.ht C.hm) I.kIn J h1 e (fun z => nomatch z) fun tk => ⟨.bl b, H, I.kept (t' := tk) fun _ _ z => z, rfl, q⟩
section
variable {K : PySem.W.Frag} {σ : L2.St} {H : Hp} {ta : TE} {v : V} {Q : VK}
theorem c_methX {C : Addr} {ns : List Str} {m : Str} {sp : Sp} {E : L2.St → XK} {t : TA} (ha : Val ta σ H v) (h : ∃ (l dx : Addr) (fs : List (Str × V)), v = .ref l ∧ H l = some (.ins C dx fs) ∧ ∀ m : Str, m ∉ ns → fs.lookup m = none) (hm : m ∉ ns) (k : t σ H fun vs H2 => sp (v :: vs) H2 Q (E σ)) : tMethX C m sp E ta t σ H Q := by
  obtain ⟨l, dx, fs, rfl, h1, h2⟩ := h
  exact ha _ ⟨l, dx, fs, rfl, h1, h2 m hm, k⟩
end
section
variable {K : PySem.W.Frag} {σ : L2.St} {H : Hp} {ta tb : TE} {v : V} {α β γ : Type} {τ : Rep K α} {υ : Rep K β} {φ : Rep K γ}
theorem v_t30 {p : Int × β × γ} (ha : Val ta σ H v) (hb : Val tb σ H (.int 0)) (hr : (qT3 qI υ φ).R H v p) : Val (tOp (rIxT K) ta tb) σ H (.int p.1) := fun Q q => by
  obtain ⟨a, w1, w2, w3, rfl, h2, h3, h4, h5⟩ := hr
  cases (show w1 = .int p.1 from h3)
  exact ha _ (hb _ ⟨a, [.int p.1, w2, w3], 0, .int p.1, rfl, rfl, SqT.of h2, rfl, q⟩)
theorem v_t31 {p : α × Int × γ} (ha : Val ta σ H v) (hb : Val tb σ H (.int 1)) (hr : (qT3 τ qI φ).R H v p) : Val (tOp (rIxT K) ta tb) σ H (.int p.2.1) := fun Q q => by
  obtain ⟨a, w1, w2, w3, rfl, h2, h3, h4, h5⟩ := hr
  cases (show w2 = .int p.2.1 from h4)
  exact ha _ (hb _ ⟨a, [w1, .int p.2.1, w3], 1, .int p.2.1, rfl, rfl, SqT.of h2, rfl, q⟩)
theorem v_t32 {p : α × β × Int} (ha : Val ta σ H v) (hb : Val tb σ H (.int 2)) (hr : (qT3 τ υ qI).R H v p) : Val (tOp (rIxT K) ta tb) σ H (.int p.2.2) := fun Q q => by
  obtain ⟨a, w1, w2, w3, rfl, h2, h3, h4, h5⟩ := hr
  cases (show w3 = .int p.2.2 from h5)
  exact ha _ (hb _ ⟨a, [w1, w2, .int p.2.2], 2, .int p.2.2, rfl, rfl, SqT.of h2, rfl, q⟩)
end
def rListO (K : PySem.W.Frag) : List V → Hp → VK → Prop := fun xs H Q => ∃ (p : Addr) (ys : List V), xs = [.ref p] ∧ (SqL K H p ys ∨ SqT K H p ys) ∧ ∀ l, H l = none → Q (.ref l) (upd H l (.lst ys))
/-! ### leaving a loop by break -/
def brkB {σ ρ : Type} (m : Option (σ ⊕ (σ ⊕ ρ))) (k : σ → Option ρ) : Option ρ := m.bind fun r => match r with
  | .inl s => k s
  | .inr (.inl s) => k s
  | .inr (.inr v) => some v
theorem z_cutS {σ : L2.St} {H : Hp} {D : Ends} {t tu : TS} (P : L2.St → Hp → Prop) (hP : ∀ σ' H', P σ' H' → tu D σ' H') (h : ∀ N : L2.St → Hp → Prop, (∀ σ' H', P σ' H' → N σ' H') → tSeq t (fun _ => N) D σ H) : tSeq t tu D σ H := h _ hP
end Z
theorem Z.OP.brkB {σ ρ : Type} {m : Option (σ ⊕ (σ ⊕ ρ))} {k : σ → Option ρ} {A : ρ → Prop} (h : Z.OP (Z.brkB m k) A) : ∃ B : σ → Prop, Z.OP m (Z.SE B (Z.SE B A)) ∧ ∀ s, B s → Z.OP (k s) A := by
  refine ⟨fun s => Z.OP (k s) A, ?_, fun _ h => h⟩
  cases m with
  | none => exact h.elim
  | some r =>
    cases r with
    | inl s => exact h
    | inr r =>
      cases r with
      | inl s => exact h
      | inr v => exact h

namespace E
open PySem PySem.Spec PyProof.Rows L2 Z
def top (i : Nat) : Stmt := PySem.Challenge.pw_evernever_k15_which_and_walked.main.body.getD i (.Pass ⟨0, 0, 0, 0⟩)
structure Cl where
  mk ::
  Move : Addr
  Machine : Addr
  Lamp : Addr
  Sure : Addr
  Not : Addr
  And : Addr
  Either : Addr
  Or : Addr
  EverError : Addr
  NoBar : Addr
  NoChart : Addr
  NoFence : Addr
  NoFormula : Addr
  NoFrame : Addr
  NoLine : Addr
  NoMachine : Addr
  NoName : Addr
  NoStep : Addr
  NotShut : Addr
  NothingLeft : Addr
  TooMany : Addr
def clsV (c : Cl) : Nat → Value
  | 3 => .ref c.NoStep
  | _ => .none
section
variable {P : Program} {w : World} {K : PySem.W.Frag} {mg : Str → Option Value} {base : Heap}
inductive O_Formula where
  | Lamp (at_ : Int)
  | Sure (truth : Bool)
  | Not (part : O_Formula)
  | And (parts : (List O_Formula))
  | Either (parts : (List O_Formula))
  | Or (parts : (List O_Formula))
mutual
inductive RF_Formula (K : PySem.W.Frag) (c : Cl) (H : Hp) : V → O_Formula → Prop where
  | Lamp {p dx : Addr} {w0 : V} {x0 : Int} : H p = some (.ins c.Lamp dx [("at", w0)]) → ((qI (K := K))).R H w0 x0 → RF_Formula K c H (.ref p) (.Lamp x0)
  | Sure {p dx : Addr} {w0 : V} {x0 : Bool} : H p = some (.ins c.Sure dx [("truth", w0)]) → ((qB (K := K))).R H w0 x0 → RF_Formula K c H (.ref p) (.Sure x0)
  | Not {p dx : Addr} {w0 : V} {x0 : O_Formula} : H p = some (.ins c.Not dx [("part", w0)]) → RF_Formula K c H w0 x0 → RF_Formula K c H (.ref p) (.Not x0)
  | And {p dx : Addr} {l0 : Addr} {ws0 : List V} {x0 : (List O_Formula)} : H p = some (.ins c.And dx [("parts", .ref l0)]) → H l0 = some (.lst ws0) → RFs_Formula K c H ws0 x0 → RF_Formula K c H (.ref p) (.And x0)
  | Either {p dx : Addr} {l0 : Addr} {ws0 : List V} {x0 : (List O_Formula)} : H p = some (.ins c.Either dx [("parts", .ref l0)]) → H l0 = some (.lst ws0) → RFs_Formula K c H ws0 x0 → RF_Formula K c H (.ref p) (.Either x0)
  | Or {p dx : Addr} {l0 : Addr} {ws0 : List V} {x0 : (List O_Formula)} : H p = some (.ins c.Or dx [("parts", .ref l0)]) → H l0 = some (.lst ws0) → RFs_Formula K c H ws0 x0 → RF_Formula K c H (.ref p) (.Or x0)
inductive RFs_Formula (K : PySem.W.Frag) (c : Cl) (H : Hp) : List V → List O_Formula → Prop where
  | nil : RFs_Formula K c H [] []
  | cons {v : V} {x : O_Formula} {vs : List V} {xs : List O_Formula} : RF_Formula K c H v x → RFs_Formula K c H vs xs → RFs_Formula K c H (v :: vs) (x :: xs)
end
mutual
theorem RF_Formula.mono {K : PySem.W.Frag} {c : Cl} {H H' : Hp} (e : Same H H') : ∀ {v : V} {x : O_Formula}, RF_Formula K c H v x → RF_Formula K c H' v x
  | _, _, .Lamp hp r0 => .Lamp (e _ _ hp) (Rep.mono _ e r0)
  | _, _, .Sure hp r0 => .Sure (e _ _ hp) (Rep.mono _ e r0)
  | _, _, .Not hp r0 => .Not (e _ _ hp) (RF_Formula.mono e r0)
  | _, _, .And hp ha0 r0 => .And (e _ _ hp) (e _ _ ha0) (RFs_Formula.mono e r0)
  | _, _, .Either hp ha0 r0 => .Either (e _ _ hp) (e _ _ ha0) (RFs_Formula.mono e r0)
  | _, _, .Or hp ha0 r0 => .Or (e _ _ hp) (e _ _ ha0) (RFs_Formula.mono e r0)
theorem RFs_Formula.mono {K : PySem.W.Frag} {c : Cl} {H H' : Hp} (e : Same H H') : ∀ {v : List V} {x : List O_Formula}, RFs_Formula K c H v x → RFs_Formula K c H' v x
  | _, _, .nil => .nil
  | _, _, .cons a b => .cons (RF_Formula.mono e a) (RFs_Formula.mono e b)
end
def q_Formula (c : Cl) : Rep K O_Formula := ⟨fun H v x => RF_Formula K c H v x, fun {H H' v x} e h => RF_Formula.mono e h⟩
theorem RFs_Formula.to {c : Cl} {H : Hp} : ∀ {ws : List V} {xs : List O_Formula}, RFs_Formula K c H ws xs → RL (q_Formula (K := K) c) H ws xs
  | _, _, .nil => .nil
  | _, _, .cons a b => .cons a b.to
theorem RFs_Formula.of {c : Cl} {H : Hp} : ∀ {ws : List V} {xs : List O_Formula}, RL (q_Formula (K := K) c) H ws xs → RFs_Formula K c H ws xs
  | _, _, .nil => .nil
  | _, _, .cons a b => .cons a (RFs_Formula.of b)
def tag_Formula : O_Formula → Nat
  | .Lamp .. => 0
  | .Sure .. => 1
  | .Not .. => 2
  | .And .. => 3
  | .Either .. => 4
  | .Or .. => 5
theorem nn_Formula {c : Cl} {H : Hp} {v : V} {x : O_Formula} (h : (q_Formula (K := K) c).R H v x) : v ≠ .non := by
  cases h <;> exact fun z => nomatch z
def gf_Formula_at : O_Formula → Option Int
  | .Lamp x0 => some x0
  | _ => none
def gf_Formula_truth : O_Formula → Option Bool
  | .Sure x0 => some x0
  | _ => none
def gf_Formula_part : O_Formula → Option O_Formula
  | .Not x0 => some x0
  | _ => none
def gf_Formula_parts : O_Formula → Option (List O_Formula)
  | .And x0 => some x0
  | .Either x0 => some x0
  | .Or x0 => some x0
  | _ => none
theorem fz_Formula_Lamp {c : Cl} {L : List Addr} {S0 H0 S H : Hp} {l dx : Addr} {w0 : V} (g : Grow L S0 H0 S H) (cl : Cel L H0 S H l (.ins c.Lamp dx [("at", w0)])) (z : H0 l = none) {x0 : Int} (r0 : ((qI (K := K))).R S w0 x0) : ∃ S1, Grow L S0 H0 S1 H ∧ Same S S1 ∧ (q_Formula (K := K) c).R S1 (.ref l) (.Lamp x0) ∧ ∀ l' o', l' ≠ l → Cel L H0 S H l' o' → Cel L H0 S1 H l' o' := by
  have e := same_upd (o := (.ins c.Lamp dx [("at", w0)])) cl.s
  exact ⟨_, g.freeze cl z, e, .Lamp upd_same (Rep.mono _ e r0), fun l' o' n c' => c'.freeze n⟩
theorem fz_Formula_Sure {c : Cl} {L : List Addr} {S0 H0 S H : Hp} {l dx : Addr} {w0 : V} (g : Grow L S0 H0 S H) (cl : Cel L H0 S H l (.ins c.Sure dx [("truth", w0)])) (z : H0 l = none) {x0 : Bool} (r0 : ((qB (K := K))).R S w0 x0) : ∃ S1, Grow L S0 H0 S1 H ∧ Same S S1 ∧ (q_Formula (K := K) c).R S1 (.ref l) (.Sure x0) ∧ ∀ l' o', l' ≠ l → Cel L H0 S H l' o' → Cel L H0 S1 H l' o' := by
  have e := same_upd (o := (.ins c.Sure dx [("truth", w0)])) cl.s
  exact ⟨_, g.freeze cl z, e, .Sure upd_same (Rep.mono _ e r0), fun l' o' n c' => c'.freeze n⟩
theorem fz_Formula_Not {c : Cl} {L : List Addr} {S0 H0 S H : Hp} {l dx : Addr} {w0 : V} (g : Grow L S0 H0 S H) (cl : Cel L H0 S H l (.ins c.Not dx [("part", w0)])) (z : H0 l = none) {x0 : O_Formula} (r0 : ((q_Formula (K := K) c)).R S w0 x0) : ∃ S1, Grow L S0 H0 S1 H ∧ Same S S1 ∧ (q_Formula (K := K) c).R S1 (.ref l) (.Not x0) ∧ ∀ l' o', l' ≠ l → Cel L H0 S H l' o' → Cel L H0 S1 H l' o' := by
  have e := same_upd (o := (.ins c.Not dx [("part", w0)])) cl.s
  exact ⟨_, g.freeze cl z, e, .Not upd_same (RF_Formula.mono e r0), fun l' o' n c' => c'.freeze n⟩
theorem fz_Formula_And {c : Cl} {L : List Addr} {S0 H0 S H : Hp} {l dx : Addr} {w0 : V} (g : Grow L S0 H0 S H) (cl : Cel L H0 S H l (.ins c.And dx [("parts", w0)])) (z : H0 l = none) {x0 : (List O_Formula)} (r0 : ((qL (q_Formula (K := K) c))).R S w0 x0) : ∃ S1, Grow L S0 H0 S1 H ∧ Same S S1 ∧ (q_Formula (K := K) c).R S1 (.ref l) (.And x0) ∧ ∀ l' o', l' ≠ l → Cel L H0 S H l' o' → Cel L H0 S1 H l' o' := by
  have e := same_upd (o := (.ins c.And dx [("parts", w0)])) cl.s
  obtain ⟨a0, us0, rfl, ha0, r0⟩ := r0
  exact ⟨_, g.freeze cl z, e, .And upd_same (e _ _ ha0) (RFs_Formula.mono e (RFs_Formula.of r0)), fun l' o' n c' => c'.freeze n⟩
theorem fz_Formula_Either {c : Cl} {L : List Addr} {S0 H0 S H : Hp} {l dx : Addr} {w0 : V} (g : Grow L S0 H0 S H) (cl : Cel L H0 S H l (.ins c.Either dx [("parts", w0)])) (z : H0 l = none) {x0 : (List O_Formula)} (r0 : ((qL (q_Formula (K := K) c))).R S w0 x0) : ∃ S1, Grow L S0 H0 S1 H ∧ Same S S1 ∧ (q_Formula (K := K) c).R S1 (.ref l) (.Either x0) ∧ ∀ l' o', l' ≠ l → Cel L H0 S H l' o' → Cel L H0 S1 H l' o' := by
  have e := same_upd (o := (.ins c.Either dx [("parts", w0)])) cl.s
  obtain ⟨a0, us0, rfl, ha0, r0⟩ := r0
  exact ⟨_, g.freeze cl z, e, .Either upd_same (e _ _ ha0) (RFs_Formula.mono e (RFs_Formula.of r0)), fun l' o' n c' => c'.freeze n⟩
theorem fz_Formula_Or {c : Cl} {L : List Addr} {S0 H0 S H : Hp} {l dx : Addr} {w0 : V} (g : Grow L S0 H0 S H) (cl : Cel L H0 S H l (.ins c.Or dx [("parts", w0)])) (z : H0 l = none) {x0 : (List O_Formula)} (r0 : ((qL (q_Formula (K := K) c))).R S w0 x0) : ∃ S1, Grow L S0 H0 S1 H ∧ Same S S1 ∧ (q_Formula (K := K) c).R S1 (.ref l) (.Or x0) ∧ ∀ l' o', l' ≠ l → Cel L H0 S H l' o' → Cel L H0 S1 H l' o' := by
  have e := same_upd (o := (.ins c.Or dx [("parts", w0)])) cl.s
  obtain ⟨a0, us0, rfl, ha0, r0⟩ := r0
  exact ⟨_, g.freeze cl z, e, .Or upd_same (e _ _ ha0) (RFs_Formula.mono e (RFs_Formula.of r0)), fun l' o' n c' => c'.freeze n⟩
structure O_Move where
  guard : O_Formula
  changes : (List (Int × O_Formula))
def q_Move (c : Cl) : Rep K O_Move := ⟨fun H v x => ∃ (p dx : Addr) (w0 w1 : V), v = .ref p ∧ H p = some (.ins c.Move dx [("guard", w0), ("changes", w1)]) ∧ ((q_Formula (K := K) c)).R H w0 x.guard ∧ ((qL (qT2 (qI (K := K)) (q_Formula (K := K) c)))).R H w1 x.changes, fun {H H' v x} e h => by
  obtain ⟨p, dx, w0, w1, rfl, hp, r0, r1⟩ := h
  exact ⟨p, dx, w0, w1, rfl, e _ _ hp, Rep.mono _ e r0, Rep.mono _ e r1⟩⟩
theorem in_Move {c : Cl} {H : Hp} {v : V} {x : O_Move} (h : (q_Move (K := K) c).R H v x) : ∃ (l dx : Addr) (fs : List (Str × V)), v = .ref l ∧ H l = some (.ins c.Move dx fs) ∧ ∀ m : Str, m ∉ (["guard", "changes"] : List Str) → fs.lookup m = none := by
  obtain ⟨p, dx, w0, w1, rfl, hp, _⟩ := h
  exact ⟨p, dx, _, rfl, hp, fun m hm => look_none (ns := ["guard", "changes"]) rfl hm⟩
theorem nn_Move {c : Cl} {H : Hp} {v : V} {x : O_Move} (h : (q_Move (K := K) c).R H v x) : v ≠ .non := by
  obtain ⟨p, dx, w0, w1, rfl, _⟩ := h
  exact fun z => nomatch z
theorem fz_Move {c : Cl} {L : List Addr} {S0 H0 S H : Hp} {l dx : Addr} {w0 w1 : V} (g : Grow L S0 H0 S H) (cl : Cel L H0 S H l (.ins c.Move dx [("guard", w0), ("changes", w1)])) (z : H0 l = none) {x : O_Move} (r0 : ((q_Formula (K := K) c)).R S w0 x.guard) (r1 : ((qL (qT2 (qI (K := K)) (q_Formula (K := K) c)))).R S w1 x.changes) : ∃ S1, Grow L S0 H0 S1 H ∧ Same S S1 ∧ (q_Move (K := K) c).R S1 (.ref l) x ∧ ∀ l' o', l' ≠ l → Cel L H0 S H l' o' → Cel L H0 S1 H l' o' := by
  have e := same_upd (o := (.ins c.Move dx [("guard", w0), ("changes", w1)])) cl.s
  exact ⟨_, g.freeze cl z, e, ⟨l, dx, w0, w1, rfl, upd_same, Rep.mono _ e r0, Rep.mono _ e r1⟩, fun l' o' n c' => c'.freeze n⟩
structure O_Machine where
  names : (List Str)
  starts : (List Int)
  bads : (List O_Formula)
  moves : (List O_Move)
def q_Machine (c : Cl) : Rep K O_Machine := ⟨fun H v x => ∃ (p dx : Addr) (w0 w1 w2 w3 : V), v = .ref p ∧ H p = some (.ins c.Machine dx [("names", w0), ("starts", w1), ("bads", w2), ("moves", w3)]) ∧ ((qL (qS (K := K)))).R H w0 x.names ∧ ((qL (qI (K := K)))).R H w1 x.starts ∧ ((qL (q_Formula (K := K) c))).R H w2 x.bads ∧ ((qL (q_Move (K := K) c))).R H w3 x.moves, fun {H H' v x} e h => by
  obtain ⟨p, dx, w0, w1, w2, w3, rfl, hp, r0, r1, r2, r3⟩ := h
  exact ⟨p, dx, w0, w1, w2, w3, rfl, e _ _ hp, Rep.mono _ e r0, Rep.mono _ e r1, Rep.mono _ e r2, Rep.mono _ e r3⟩⟩
theorem in_Machine {c : Cl} {H : Hp} {v : V} {x : O_Machine} (h : (q_Machine (K := K) c).R H v x) : ∃ (l dx : Addr) (fs : List (Str × V)), v = .ref l ∧ H l = some (.ins c.Machine dx fs) ∧ ∀ m : Str, m ∉ (["names", "starts", "bads", "moves"] : List Str) → fs.lookup m = none := by
  obtain ⟨p, dx, w0, w1, w2, w3, rfl, hp, _⟩ := h
  exact ⟨p, dx, _, rfl, hp, fun m hm => look_none (ns := ["names", "starts", "bads", "moves"]) rfl hm⟩
theorem nn_Machine {c : Cl} {H : Hp} {v : V} {x : O_Machine} (h : (q_Machine (K := K) c).R H v x) : v ≠ .non := by
  obtain ⟨p, dx, w0, w1, w2, w3, rfl, _⟩ := h
  exact fun z => nomatch z
theorem fz_Machine {c : Cl} {L : List Addr} {S0 H0 S H : Hp} {l dx : Addr} {w0 w1 w2 w3 : V} (g : Grow L S0 H0 S H) (cl : Cel L H0 S H l (.ins c.Machine dx [("names", w0), ("starts", w1), ("bads", w2), ("moves", w3)])) (z : H0 l = none) {x : O_Machine} (r0 : ((qL (qS (K := K)))).R S w0 x.names) (r1 : ((qL (qI (K := K)))).R S w1 x.starts) (r2 : ((qL (q_Formula (K := K) c))).R S w2 x.bads) (r3 : ((qL (q_Move (K := K) c))).R S w3 x.moves) : ∃ S1, Grow L S0 H0 S1 H ∧ Same S S1 ∧ (q_Machine (K := K) c).R S1 (.ref l) x ∧ ∀ l' o', l' ≠ l → Cel L H0 S H l' o' → Cel L H0 S1 H l' o' := by
  have e := same_upd (o := (.ins c.Machine dx [("names", w0), ("starts", w1), ("bads", w2), ("moves", w3)])) cl.s
  exact ⟨_, g.freeze cl z, e, ⟨l, dx, w0, w1, w2, w3, rfl, upd_same, Rep.mono _ e r0, Rep.mono _ e r1, Rep.mono _ e r2, Rep.mono _ e r3⟩, fun l' o' n c' => c'.freeze n⟩
structure Tx (K : PySem.W.Frag) (mg : Str → Option Value) : Type where
  c : Cl
  f_Lamp_holds : Addr
  d_Lamp_holds : FuncData
  F_Lamp_holds : Fun K "holds" "Lamp.holds" (inClass (top 27) 1) f_Lamp_holds d_Lamp_holds
  b_Lamp_holds : Binds K d_Lamp_holds ["self", "stand"] []
  f_Sure_holds : Addr
  d_Sure_holds : FuncData
  F_Sure_holds : Fun K "holds" "Sure.holds" (inClass (top 28) 1) f_Sure_holds d_Sure_holds
  b_Sure_holds : Binds K d_Sure_holds ["self", "stand"] []
  f_And_holds : Addr
  d_And_holds : FuncData
  F_And_holds : Fun K "holds" "And.holds" (inClass (top 31) 2) f_And_holds d_And_holds
  b_And_holds : Binds K d_And_holds ["self", "stand"] []
  f_Either_holds : Addr
  d_Either_holds : FuncData
  F_Either_holds : Fun K "holds" "Either.holds" (inClass (top 32) 2) f_Either_holds d_Either_holds
  b_Either_holds : Binds K d_Either_holds ["self", "stand"] []
  f_Not_holds : Addr
  d_Not_holds : FuncData
  F_Not_holds : Fun K "holds" "Not.holds" (inClass (top 29) 1) f_Not_holds d_Not_holds
  b_Not_holds : Binds K d_Not_holds ["self", "stand"] []
  f_Or_holds : Addr
  d_Or_holds : FuncData
  F_Or_holds : Fun K "holds" "Or.holds" (inClass (top 33) 2) f_Or_holds d_Or_holds
  b_Or_holds : Binds K d_Or_holds ["self", "stand"] []
  f_Move_fits : Addr
  d_Move_fits : FuncData
  F_Move_fits : Fun K "fits" "Move.fits" (inClass (top 22) 1) f_Move_fits d_Move_fits
  b_Move_fits : Binds K d_Move_fits ["self", "stand"] []
  f_Move_onward : Addr
  d_Move_onward : FuncData
  F_Move_onward : Fun K "onward" "Move.onward" (inClass (top 22) 2) f_Move_onward d_Move_onward
  b_Move_onward : Binds K d_Move_onward ["self", "stand"] []
  f_Machine_walked : Addr
  d_Machine_walked : FuncData
  F_Machine_walked : Fun K "walked" "Machine.walked" (inClass (top 23) 4) f_Machine_walked d_Machine_walked
  b_Machine_walked : Binds K d_Machine_walked ["self", "stand", "picks"] []
  f__law_cell_at : Addr
  d__law_cell_at : FuncData
  F__law_cell_at : Fun K "_law_cell_at" "_law_cell_at" (top 35) f__law_cell_at d__law_cell_at
  b__law_cell_at : Binds K d__law_cell_at ["_law_script", "_law_k"] []
  m__law_cell_at : mg "_law_cell_at" = some (.ref f__law_cell_at)
  f__law_recipe : Addr
  d__law_recipe : FuncData
  F__law_recipe : Fun K "_law_recipe" "_law_recipe" (top 37) f__law_recipe d__law_recipe
  b__law_recipe : Binds K d__law_recipe ["_law_cell", "_law_many"] []
  m__law_recipe : mg "_law_recipe" = some (.ref f__law_recipe)
  f__law_changes : Addr
  d__law_changes : FuncData
  F__law_changes : Fun K "_law_changes" "_law_changes" (top 40) f__law_changes d__law_changes
  b__law_changes : Binds K d__law_changes ["_law_cell", "_law_many"] []
  m__law_changes : mg "_law_changes" = some (.ref f__law_changes)
  f_Lamp___init__ : Addr
  d_Lamp___init__ : FuncData
  F_Lamp___init__ : Fun K "__init__" "Lamp.__init__" (inClass (top 27) 0) f_Lamp___init__ d_Lamp___init__
  b_Lamp___init__ : Binds K d_Lamp___init__ ["self", "at"] []
  f_Machine___init__ : Addr
  d_Machine___init__ : FuncData
  F_Machine___init__ : Fun K "__init__" "Machine.__init__" (inClass (top 23) 0) f_Machine___init__ d_Machine___init__
  b_Machine___init__ : Binds K d_Machine___init__ ["self", "names", "starts", "bads", "moves"] []
  f_Move___init__ : Addr
  d_Move___init__ : FuncData
  F_Move___init__ : Fun K "__init__" "Move.__init__" (inClass (top 22) 0) f_Move___init__ d_Move___init__
  b_Move___init__ : Binds K d_Move___init__ ["self", "guard", "changes"] []
  f_Joined___init__ : Addr
  d_Joined___init__ : FuncData
  F_Joined___init__ : Fun K "__init__" "Joined.__init__" (inClass (top 30) 0) f_Joined___init__ d_Joined___init__
  b_Joined___init__ : Binds K d_Joined___init__ ["self", "parts"] []
  f_Not___init__ : Addr
  d_Not___init__ : FuncData
  F_Not___init__ : Fun K "__init__" "Not.__init__" (inClass (top 29) 0) f_Not___init__ d_Not___init__
  b_Not___init__ : Binds K d_Not___init__ ["self", "part"] []
  f_Sure___init__ : Addr
  d_Sure___init__ : FuncData
  F_Sure___init__ : Fun K "__init__" "Sure.__init__" (inClass (top 28) 0) f_Sure___init__ d_Sure___init__
  b_Sure___init__ : Binds K d_Sure___init__ ["self", "truth"] []
  f__law_made : Addr
  d__law_made : FuncData
  F__law_made : Fun K "_law_made" "_law_made" (top 38) f__law_made d__law_made
  b__law_made : Binds K d__law_made ["_law_recipe_here"] []
  m__law_made : mg "_law_made" = some (.ref f__law_made)
  f__law_machines : Addr
  d__law_machines : FuncData
  F__law_machines : Fun K "_law_machines" "_law_machines" (top 43) f__law_machines d__law_machines
  b__law_machines : Binds K d__law_machines ["_law_many", "_law_moves"] []
  m__law_machines : mg "_law_machines" = some (.ref f__law_machines)
  f__law_of_others : Addr
  d__law_of_others : FuncData
  F__law_of_others : Fun K "_law_of_others" "_law_of_others" (top 46) f__law_of_others d__law_of_others
  b__law_of_others : Binds K d__law_of_others ["_law_e"] []
  m__law_of_others : mg "_law_of_others" = some (.ref f__law_of_others)
  f__law_refused : Addr
  d__law_refused : FuncData
  F__law_refused : Fun K "_law_refused" "_law_refused" (top 47) f__law_refused d__law_refused
  b__law_refused : Binds K d__law_refused ["_law_machine", "_law_stand", "_law_picks"] []
  m__law_refused : mg "_law_refused" = some (.ref f__law_refused)
  f__law_lit : Addr
  d__law_lit : FuncData
  F__law_lit : Fun K "_law_lit" "_law_lit" (top 36) f__law_lit d__law_lit
  b__law_lit : Binds K d__law_lit ["_law_stand", "_law_lamp"] []
  m__law_lit : mg "_law_lit" = some (.ref f__law_lit)
  f__law_due : Addr
  d__law_due : FuncData
  F__law_due : Fun K "_law_due" "_law_due" (top 39) f__law_due d__law_due
  b__law_due : Binds K d__law_due ["_law_recipe_here", "_law_stand"] []
  m__law_due : mg "_law_due" = some (.ref f__law_due)
  f__law_onward : Addr
  d__law_onward : FuncData
  F__law_onward : Fun K "_law_onward" "_law_onward" (top 41) f__law_onward d__law_onward
  b__law_onward : Binds K d__law_onward ["_law_stand", "_law_changes_here"] []
  m__law_onward : mg "_law_onward" = some (.ref f__law_onward)
  f__law_walk : Addr
  d__law_walk : FuncData
  F__law_walk : Fun K "_law_walk" "_law_walk" (top 44) f__law_walk d__law_walk
  b__law_walk : Binds K d__law_walk ["_law_moves", "_law_stand", "_law_cells"] []
  m__law_walk : mg "_law_walk" = some (.ref f__law_walk)
  f_Machine_which : Addr
  d_Machine_which : FuncData
  F_Machine_which : Fun K "which" "Machine.which" (inClass (top 23) 3) f_Machine_which d_Machine_which
  b_Machine_which : Binds K d_Machine_which ["self", "stand", "other"] []
  f__law_first : Addr
  d__law_first : FuncData
  F__law_first : Fun K "_law_first" "_law_first" (top 42) f__law_first d__law_first
  b__law_first : Binds K d__law_first ["_law_moves", "_law_stand", "_law_other"] []
  m__law_first : mg "_law_first" = some (.ref f__law_first)
  f__law_which : Addr
  d__law_which : FuncData
  F__law_which : Fun K "_law_which" "_law_which" (top 48) f__law_which d__law_which
  b__law_which : Binds K d__law_which ["_law_machine", "_law_moves", "_law_stand", "_law_other"] []
  m__law_which : mg "_law_which" = some (.ref f__law_which)
  f__law_whichs : Addr
  d__law_whichs : FuncData
  F__law_whichs : Fun K "_law_whichs" "_law_whichs" (top 49) f__law_whichs d__law_whichs
  b__law_whichs : Binds K d__law_whichs ["_law_machine", "_law_moves", "_law_passed", "_law_beside"] []
  m__law_whichs : mg "_law_whichs" = some (.ref f__law_whichs)
  f__law_wrong : Addr
  d__law_wrong : FuncData
  F__law_wrong : Fun K "_law_wrong" "_law_wrong" (top 45) f__law_wrong d__law_wrong
  b__law_wrong : Binds K d__law_wrong ["_law_moves", "_law_stand", "_law_way", "_law_more"] []
  m__law_wrong : mg "_law_wrong" = some (.ref f__law_wrong)
  f_law : Addr
  d_law : FuncData
  F_law : Fun K "law" "law" (top 50) f_law d_law
  b_law : Binds K d_law ["_law_script"] []
  m_law : mg "law" = some (.ref f_law)
  m_Move : mg "Move" = some (.ref c.Move)
  l_Move : Cls K c.Move
  k_Move : Mk K c.Move f_Move___init__
  m_Machine : mg "Machine" = some (.ref c.Machine)
  l_Machine : Cls K c.Machine
  k_Machine : Mk K c.Machine f_Machine___init__
  m_Lamp : mg "Lamp" = some (.ref c.Lamp)
  l_Lamp : Cls K c.Lamp
  k_Lamp : Mk K c.Lamp f_Lamp___init__
  m_Sure : mg "Sure" = some (.ref c.Sure)
  l_Sure : Cls K c.Sure
  k_Sure : Mk K c.Sure f_Sure___init__
  m_Not : mg "Not" = some (.ref c.Not)
  l_Not : Cls K c.Not
  k_Not : Mk K c.Not f_Not___init__
  m_And : mg "And" = some (.ref c.And)
  l_And : Cls K c.And
  k_And : Mk K c.And f_Joined___init__
  m_Either : mg "Either" = some (.ref c.Either)
  l_Either : Cls K c.Either
  k_Either : Mk K c.Either f_Joined___init__
  m_Or : mg "Or" = some (.ref c.Or)
  l_Or : Cls K c.Or
  k_Or : Mk K c.Or f_Joined___init__
  i_NoStep_NoBar : PySem.W.kitOne K (.ref c.NoStep) (.ref c.NoBar) = some false
  i_NoStep_NoChart : PySem.W.kitOne K (.ref c.NoStep) (.ref c.NoChart) = some false
  i_NoStep_NoFence : PySem.W.kitOne K (.ref c.NoStep) (.ref c.NoFence) = some false
  i_NoStep_NoFormula : PySem.W.kitOne K (.ref c.NoStep) (.ref c.NoFormula) = some false
  i_NoStep_NoFrame : PySem.W.kitOne K (.ref c.NoStep) (.ref c.NoFrame) = some false
  i_NoStep_NoLine : PySem.W.kitOne K (.ref c.NoStep) (.ref c.NoLine) = some false
  i_NoStep_NoMachine : PySem.W.kitOne K (.ref c.NoStep) (.ref c.NoMachine) = some false
  i_NoStep_NoName : PySem.W.kitOne K (.ref c.NoStep) (.ref c.NoName) = some false
  i_NoStep_NotShut : PySem.W.kitOne K (.ref c.NoStep) (.ref c.NotShut) = some false
  i_NoStep_NothingLeft : PySem.W.kitOne K (.ref c.NoStep) (.ref c.NothingLeft) = some false
  i_NoStep_TooMany : PySem.W.kitOne K (.ref c.NoStep) (.ref c.TooMany) = some false
  a_And_parts : NoAttr K c.And "parts"
  a_Either_parts : NoAttr K c.Either "parts"
  a_Lamp_at : NoAttr K c.Lamp "at"
  a_Machine_bads : NoAttr K c.Machine "bads"
  a_Machine_moves : NoAttr K c.Machine "moves"
  a_Machine_names : NoAttr K c.Machine "names"
  a_Machine_starts : NoAttr K c.Machine "starts"
  a_Move_changes : NoAttr K c.Move "changes"
  a_Move_guard : NoAttr K c.Move "guard"
  a_Not_part : NoAttr K c.Not "part"
  a_Or_parts : NoAttr K c.Or "parts"
  a_Sure_truth : NoAttr K c.Sure "truth"
  t_And_holds : Meth K c.And "holds" f_And_holds
  t_Either_holds : Meth K c.Either "holds" f_Either_holds
  t_Lamp_holds : Meth K c.Lamp "holds" f_Lamp_holds
  t_Machine_walked : Meth K c.Machine "walked" f_Machine_walked
  t_Machine_which : Meth K c.Machine "which" f_Machine_which
  t_Move_fits : Meth K c.Move "fits" f_Move_fits
  t_Move_onward : Meth K c.Move "onward" f_Move_onward
  t_Not_holds : Meth K c.Not "holds" f_Not_holds
  t_Or_holds : Meth K c.Or "holds" f_Or_holds
  t_Sure_holds : Meth K c.Sure "holds" f_Sure_holds
  m_EverError : mg "EverError" = some (.ref c.EverError)
  m_NoBar : mg "NoBar" = some (.ref c.NoBar)
  m_NoChart : mg "NoChart" = some (.ref c.NoChart)
  m_NoFence : mg "NoFence" = some (.ref c.NoFence)
  m_NoFormula : mg "NoFormula" = some (.ref c.NoFormula)
  m_NoFrame : mg "NoFrame" = some (.ref c.NoFrame)
  m_NoLine : mg "NoLine" = some (.ref c.NoLine)
  m_NoMachine : mg "NoMachine" = some (.ref c.NoMachine)
  m_NoName : mg "NoName" = some (.ref c.NoName)
  m_NoStep : mg "NoStep" = some (.ref c.NoStep)
  m_NotShut : mg "NotShut" = some (.ref c.NotShut)
  m_NothingLeft : mg "NothingLeft" = some (.ref c.NothingLeft)
  m_TooMany : mg "TooMany" = some (.ref c.TooMany)
  e_NoStep : ExF K c.NoStep
  x_NoStep_EverError : PySem.W.exmOne K (.ref c.NoStep) (.ref c.EverError) = some true
  x_NoStep_NoStep : PySem.W.exmOne K (.ref c.NoStep) (.ref c.NoStep) = some true
  xc_NoStep : ExcC K c.NoStep
  ib_NoStep_ValueError : PySem.W.subIn K (.ref c.NoStep) (.type "ValueError") = some true
  n_ValueError : mg "ValueError" = none
  n_bool : mg "bool" = none
  n_enumerate : mg "enumerate" = none
  n_int : mg "int" = none
  n_isinstance : mg "isinstance" = none
  n_len : mg "len" = none
  n_list : mg "list" = none
  n_range : mg "range" = none
  n_reversed : mg "reversed" = none
theorem vf_Formula_at (T : Tx K mg) {σ : L2.St} {H : Hp} {ta : TE} {v : V} {x : O_Formula} {y : Int} (ha : Val ta σ H v) (h : (q_Formula (K := K) T.c).R H v x) (e : gf_Formula_at x = some y) : Val (tFld K ta "at") σ H (.int y) := by
  cases h with
  | Lamp hp r0 =>
    cases Option.some.inj e
    cases r0
    exact v_fld ha hp T.l_Lamp T.a_Lamp_at rfl
  | Sure hp r0 =>
    cases e
  | Not hp r0 =>
    cases e
  | And hp ha0 r0 =>
    cases e
  | Either hp ha0 r0 =>
    cases e
  | Or hp ha0 r0 =>
    cases e
theorem vf_Formula_part (T : Tx K mg) {S H : Hp} {v : V} {x : O_Formula} {y : O_Formula} (eS : Same S H) (h : (q_Formula (K := K) T.c).R S v x) (e : gf_Formula_part x = some y) : ∃ w, (∀ {σ : L2.St} {ta : TE}, Val ta σ H v → Val (tFld K ta "part") σ H w) ∧ ((q_Formula (K := K) T.c)).R S w y := by
  cases h with
  | Lamp hp r0 =>
    cases e
  | Sure hp r0 =>
    cases e
  | Not hp r0 =>
    cases Option.some.inj e
    exact ⟨_, fun ha => v_fld ha (eS _ _ hp) T.l_Not T.a_Not_part rfl, r0⟩
  | And hp ha0 r0 =>
    cases e
  | Either hp ha0 r0 =>
    cases e
  | Or hp ha0 r0 =>
    cases e
theorem vf_Formula_parts (T : Tx K mg) {S H : Hp} {v : V} {x : O_Formula} {y : (List O_Formula)} (eS : Same S H) (h : (q_Formula (K := K) T.c).R S v x) (e : gf_Formula_parts x = some y) : ∃ w, (∀ {σ : L2.St} {ta : TE}, Val ta σ H v → Val (tFld K ta "parts") σ H w) ∧ ((qL (q_Formula (K := K) T.c))).R S w y := by
  cases h with
  | Lamp hp r0 =>
    cases e
  | Sure hp r0 =>
    cases e
  | Not hp r0 =>
    cases e
  | And hp ha0 r0 =>
    cases Option.some.inj e
    exact ⟨_, fun ha => v_fld ha (eS _ _ hp) T.l_And T.a_And_parts rfl, _, _, rfl, ha0, r0.to⟩
  | Either hp ha0 r0 =>
    cases Option.some.inj e
    exact ⟨_, fun ha => v_fld ha (eS _ _ hp) T.l_Either T.a_Either_parts rfl, _, _, rfl, ha0, r0.to⟩
  | Or hp ha0 r0 =>
    cases Option.some.inj e
    exact ⟨_, fun ha => v_fld ha (eS _ _ hp) T.l_Or T.a_Or_parts rfl, _, _, rfl, ha0, r0.to⟩
theorem vf_Formula_truth (T : Tx K mg) {σ : L2.St} {H : Hp} {ta : TE} {v : V} {x : O_Formula} {y : Bool} (ha : Val ta σ H v) (h : (q_Formula (K := K) T.c).R H v x) (e : gf_Formula_truth x = some y) : Val (tFld K ta "truth") σ H (.bl y) := by
  cases h with
  | Lamp hp r0 =>
    cases e
  | Sure hp r0 =>
    cases Option.some.inj e
    cases r0
    exact v_fld ha hp T.l_Sure T.a_Sure_truth rfl
  | Not hp r0 =>
    cases e
  | And hp ha0 r0 =>
    cases e
  | Either hp ha0 r0 =>
    cases e
  | Or hp ha0 r0 =>
    cases e

theorem vf_Move_guard (T : Tx K mg) {S H : Hp} {v : V} {x : O_Move} (e : Same S H) (h : (q_Move (K := K) T.c).R S v x) : ∃ w, (∀ {σ : L2.St} {ta : TE}, Val ta σ H v → Val (tFld K ta "guard") σ H w) ∧ ((q_Formula (K := K) T.c)).R S w x.guard := by
  obtain ⟨p, dx, w0, w1, rfl, hp, r0, r1⟩ := h
  exact ⟨w0, fun ha => v_fld ha (e _ _ hp) T.l_Move T.a_Move_guard rfl, r0⟩
theorem vf_Move_changes (T : Tx K mg) {S H : Hp} {v : V} {x : O_Move} (e : Same S H) (h : (q_Move (K := K) T.c).R S v x) : ∃ w, (∀ {σ : L2.St} {ta : TE}, Val ta σ H v → Val (tFld K ta "changes") σ H w) ∧ ((qL (qT2 (qI (K := K)) (q_Formula (K := K) T.c)))).R S w x.changes := by
  obtain ⟨p, dx, w0, w1, rfl, hp, r0, r1⟩ := h
  exact ⟨w1, fun ha => v_fld ha (e _ _ hp) T.l_Move T.a_Move_changes rfl, r1⟩
theorem vf_Machine_names (T : Tx K mg) {S H : Hp} {v : V} {x : O_Machine} (e : Same S H) (h : (q_Machine (K := K) T.c).R S v x) : ∃ w, (∀ {σ : L2.St} {ta : TE}, Val ta σ H v → Val (tFld K ta "names") σ H w) ∧ ((qL (qS (K := K)))).R S w x.names := by
  obtain ⟨p, dx, w0, w1, w2, w3, rfl, hp, r0, r1, r2, r3⟩ := h
  exact ⟨w0, fun ha => v_fld ha (e _ _ hp) T.l_Machine T.a_Machine_names rfl, r0⟩
theorem vf_Machine_starts (T : Tx K mg) {S H : Hp} {v : V} {x : O_Machine} (e : Same S H) (h : (q_Machine (K := K) T.c).R S v x) : ∃ w, (∀ {σ : L2.St} {ta : TE}, Val ta σ H v → Val (tFld K ta "starts") σ H w) ∧ ((qL (qI (K := K)))).R S w x.starts := by
  obtain ⟨p, dx, w0, w1, w2, w3, rfl, hp, r0, r1, r2, r3⟩ := h
  exact ⟨w1, fun ha => v_fld ha (e _ _ hp) T.l_Machine T.a_Machine_starts rfl, r1⟩
theorem vf_Machine_bads (T : Tx K mg) {S H : Hp} {v : V} {x : O_Machine} (e : Same S H) (h : (q_Machine (K := K) T.c).R S v x) : ∃ w, (∀ {σ : L2.St} {ta : TE}, Val ta σ H v → Val (tFld K ta "bads") σ H w) ∧ ((qL (q_Formula (K := K) T.c))).R S w x.bads := by
  obtain ⟨p, dx, w0, w1, w2, w3, rfl, hp, r0, r1, r2, r3⟩ := h
  exact ⟨w2, fun ha => v_fld ha (e _ _ hp) T.l_Machine T.a_Machine_bads rfl, r2⟩
theorem vf_Machine_moves (T : Tx K mg) {S H : Hp} {v : V} {x : O_Machine} (e : Same S H) (h : (q_Machine (K := K) T.c).R S v x) : ∃ w, (∀ {σ : L2.St} {ta : TE}, Val ta σ H v → Val (tFld K ta "moves") σ H w) ∧ ((qL (q_Move (K := K) T.c))).R S w x.moves := by
  obtain ⟨p, dx, w0, w1, w2, w3, rfl, hp, r0, r1, r2, r3⟩ := h
  exact ⟨w3, fun ha => v_fld ha (e _ _ hp) T.l_Machine T.a_Machine_moves rfl, r3⟩

@[irreducible] def m_Lamp_holds (self1 : O_Formula) (stand4 : Int) : Option Bool :=
(gf_Formula_at self1).bind fun y5 =>
grd (0 ≤ y5) <|
some (decide ((band (shr stand4 y5) 1) = 1))
abbrev s_Lamp_holds : Stmt := inClass (top 27) 1
abbrev sn_Lamp_holds : List Str := ["self", "stand"]
theorem sc_Lamp_holds : FnScope ["self", "stand"] ["self", "stand"] (defScope (s_Lamp_holds)) := ⟨rfl, rfl, rfl, by decide +kernel, rfl, by decide +kernel, by decide +kernel⟩
def p_Lamp_holds (K : PySem.W.Frag) (c : Cl) : Sp := fun vs H Q E => ∃ (v2 : V) (self1 : O_Formula) (stand4 : Int), vs = [v2, .int stand4] ∧ ((q_Formula (K := K) c)).R H v2 self1 ∧ OP (m_Lamp_holds self1 stand4) (fun r => Q (.bl r) H)
theorem ok_Lamp_holds (T : Tx K mg) : FnOk P w K mg base CX0 1 T.f_Lamp_holds T.d_Lamp_holds ["self", "stand"] (p_Lamp_holds K T.c) := by
  refine T.F_Lamp_holds.ok sc_Lamp_holds (fun vs H Q E h => by obtain ⟨v2, self1, stand4, rfl, _⟩ := h; rfl) (fun cdv A outer s H vs Q E hr h => ?_)
  obtain ⟨v2, self1, stand4, rfl, r3, h⟩ := h
  obtain ⟨A_, hA⟩ : ∃ A_, A_ = (fun r : Bool => Q (.bl r) H) := ⟨_, rfl⟩
  replace h : OP (m_Lamp_holds self1 stand4) A_ := hA ▸ h
  rw [m_Lamp_holds] at h
  refine ⟨_, (pss_cons (ps_ret (pe_cmpR op_eq (pe_op op_and (pe_op op_shr (pe_var (i := 1) rfl (.inl rfl) rfl rfl) (pe_fld (pe_var (i := 0) rfl (.inl rfl) rfl rfl) rfl)) pe_int) pe_int (nomark _)))
      pss_nil), ?_⟩
  refine z_start (σ := [some v2, some (.int stand4)]) rfl ?_
  have g : Grow [] H H H H := Grow.refl (Same.refl _)
  obtain ⟨y5, ey5, h⟩ := OP.bind h
  obtain ⟨g6, h⟩ := OP.grd h
  refine z_ret (v_eqI (v_o2 (v_o2c (val_var rfl) (vf_Formula_at T (val_var rfl) (Rep.mono _ g.sh r3) ey5) g6) val_c) val_c) ?_
  have h := OP.fin hA h
  exact h

@[irreducible] def m_Sure_holds (self1 : O_Formula) (stand4 : Int) : Option Bool :=
(gf_Formula_truth self1).bind fun y5 =>
some y5
abbrev s_Sure_holds : Stmt := inClass (top 28) 1
abbrev sn_Sure_holds : List Str := ["self", "stand"]
theorem sc_Sure_holds : FnScope ["self", "stand"] ["self", "stand"] (defScope (s_Sure_holds)) := ⟨rfl, rfl, rfl, by decide +kernel, rfl, by decide +kernel, by decide +kernel⟩
def p_Sure_holds (K : PySem.W.Frag) (c : Cl) : Sp := fun vs H Q E => ∃ (v2 : V) (self1 : O_Formula) (stand4 : Int), vs = [v2, .int stand4] ∧ ((q_Formula (K := K) c)).R H v2 self1 ∧ OP (m_Sure_holds self1 stand4) (fun r => Q (.bl r) H)
theorem ok_Sure_holds (T : Tx K mg) : FnOk P w K mg base CX0 1 T.f_Sure_holds T.d_Sure_holds ["self", "stand"] (p_Sure_holds K T.c) := by
  refine T.F_Sure_holds.ok sc_Sure_holds (fun vs H Q E h => by obtain ⟨v2, self1, stand4, rfl, _⟩ := h; rfl) (fun cdv A outer s H vs Q E hr h => ?_)
  obtain ⟨v2, self1, stand4, rfl, r3, h⟩ := h
  obtain ⟨A_, hA⟩ : ∃ A_, A_ = (fun r : Bool => Q (.bl r) H) := ⟨_, rfl⟩
  replace h : OP (m_Sure_holds self1 stand4) A_ := hA ▸ h
  rw [m_Sure_holds] at h
  refine ⟨_, (pss_cons (ps_ret (pe_fld (pe_var (i := 0) rfl (.inl rfl) rfl rfl) rfl))
      pss_nil), ?_⟩
  refine z_start (σ := [some v2, some (.int stand4)]) rfl ?_
  have g : Grow [] H H H H := Grow.refl (Same.refl _)
  obtain ⟨y5, ey5, h⟩ := OP.bind h
  refine z_ret (vf_Formula_truth T (val_var rfl) (Rep.mono _ g.sh r3) ey5) ?_
  have h := OP.fin hA h
  exact h

@[irreducible] def mb_And_holds (rec_D_Formula_holds : O_Formula → Int → Option Bool) (self1 : O_Formula) (stand4 : Int) : Option Bool :=
(gf_Formula_parts self1).bind fun y5 =>
brk (forR (fun part7 _ =>
(rec_D_Formula_holds part7 stand4).bind fun v20 =>
ifo (!v20) (
some (.inr false)) (
some (.inl ()))) (y5) ()) (fun _ =>
some true)
abbrev s_And_holds : Stmt := inClass (top 31) 2
abbrev sn_And_holds : List Str := ["self", "stand", "part"]
theorem sc_And_holds : FnScope ["self", "stand", "part"] ["self", "stand"] (defScope (s_And_holds)) := ⟨rfl, rfl, rfl, by decide +kernel, rfl, by decide +kernel, by decide +kernel⟩
def p_And_holds (mir : O_Formula → Int → Option Bool) (K : PySem.W.Frag) (c : Cl) : Sp := fun vs H Q E => ∃ (v2 : V) (self1 : O_Formula) (stand4 : Int), vs = [v2, .int stand4] ∧ ((q_Formula (K := K) c)).R H v2 self1 ∧ OP (mir self1 stand4) (fun r => Q (.bl r) H)
@[irreducible] def mb_Either_holds (rec_D_Formula_holds : O_Formula → Int → Option Bool) (self1 : O_Formula) (stand4 : Int) : Option Bool :=
(gf_Formula_parts self1).bind fun y5 =>
(forO (fun part7 odd16 =>
(rec_D_Formula_holds part7 stand4).bind fun v21 =>
ifo v21 (
lt (!odd16) fun odd22 =>
some odd22) (
some odd16)) (y5) false).bind (fun odd16 =>
some odd16)
abbrev s_Either_holds : Stmt := inClass (top 32) 2
abbrev sn_Either_holds : List Str := ["self", "stand", "odd", "part"]
theorem sc_Either_holds : FnScope ["self", "stand", "odd", "part"] ["self", "stand"] (defScope (s_Either_holds)) := ⟨rfl, rfl, rfl, by decide +kernel, rfl, by decide +kernel, by decide +kernel⟩
def p_Either_holds (mir : O_Formula → Int → Option Bool) (K : PySem.W.Frag) (c : Cl) : Sp := fun vs H Q E => ∃ (v2 : V) (self1 : O_Formula) (stand4 : Int), vs = [v2, .int stand4] ∧ ((q_Formula (K := K) c)).R H v2 self1 ∧ OP (mir self1 stand4) (fun r => Q (.bl r) H)
@[irreducible] def mb_Not_holds (rec_D_Formula_holds : O_Formula → Int → Option Bool) (self1 : O_Formula) (stand4 : Int) : Option Bool :=
(gf_Formula_part self1).bind fun y5 =>
(rec_D_Formula_holds y5 stand4).bind fun v7 =>
some (!v7)
abbrev s_Not_holds : Stmt := inClass (top 29) 1
abbrev sn_Not_holds : List Str := ["self", "stand"]
theorem sc_Not_holds : FnScope ["self", "stand"] ["self", "stand"] (defScope (s_Not_holds)) := ⟨rfl, rfl, rfl, by decide +kernel, rfl, by decide +kernel, by decide +kernel⟩
def p_Not_holds (mir : O_Formula → Int → Option Bool) (K : PySem.W.Frag) (c : Cl) : Sp := fun vs H Q E => ∃ (v2 : V) (self1 : O_Formula) (stand4 : Int), vs = [v2, .int stand4] ∧ ((q_Formula (K := K) c)).R H v2 self1 ∧ OP (mir self1 stand4) (fun r => Q (.bl r) H)
@[irreducible] def mb_Or_holds (rec_D_Formula_holds : O_Formula → Int → Option Bool) (self1 : O_Formula) (stand4 : Int) : Option Bool :=
(gf_Formula_parts self1).bind fun y5 =>
brk (forR (fun part7 _ =>
(rec_D_Formula_holds part7 stand4).bind fun v20 =>
ifo v20 (
some (.inr true)) (
some (.inl ()))) (y5) ()) (fun _ =>
some false)
abbrev s_Or_holds : Stmt := inClass (top 33) 2
abbrev sn_Or_holds : List Str := ["self", "stand", "part"]
theorem sc_Or_holds : FnScope ["self", "stand", "part"] ["self", "stand"] (defScope (s_Or_holds)) := ⟨rfl, rfl, rfl, by decide +kernel, rfl, by decide +kernel, by decide +kernel⟩
def p_Or_holds (mir : O_Formula → Int → Option Bool) (K : PySem.W.Frag) (c : Cl) : Sp := fun vs H Q E => ∃ (v2 : V) (self1 : O_Formula) (stand4 : Int), vs = [v2, .int stand4] ∧ ((q_Formula (K := K) c)).R H v2 self1 ∧ OP (mir self1 stand4) (fun r => Q (.bl r) H)
def mb_D_Formula_holds (rec_D_Formula_holds : O_Formula → Int → Option Bool) : O_Formula → Int → Option Bool := fun x a1 => match x with
  | .Lamp .. => m_Lamp_holds x a1
  | .Sure .. => m_Sure_holds x a1
  | .Not .. => mb_Not_holds rec_D_Formula_holds x a1
  | .And .. => mb_And_holds rec_D_Formula_holds x a1
  | .Either .. => mb_Either_holds rec_D_Formula_holds x a1
  | .Or .. => mb_Or_holds rec_D_Formula_holds x a1
def pr_Formula_holds (rec : O_Formula → Int → Option Bool) (i : Nat) (K : PySem.W.Frag) (c : Cl) : Sp := fun vs H Q E => ∃ (v2 : V) (self1 : O_Formula) (stand4 : Int), vs = [v2, .int stand4] ∧ ((q_Formula (K := K) c)).R H v2 self1 ∧ tag_Formula self1 = i ∧ OP (rec self1 stand4) (fun r => Q (.bl r) H)
structure DOk_Formula_holds (P : Program) (w : World) (base : Heap) (T : Tx K mg) (k : Nat) (rec : O_Formula → Int → Option Bool) : Prop where
  c_Lamp : FnOk P w K mg base CX0 k T.f_Lamp_holds T.d_Lamp_holds ["self", "stand"] (pr_Formula_holds rec 0 K T.c)
  c_Sure : FnOk P w K mg base CX0 k T.f_Sure_holds T.d_Sure_holds ["self", "stand"] (pr_Formula_holds rec 1 K T.c)
  c_Not : FnOk P w K mg base CX0 k T.f_Not_holds T.d_Not_holds ["self", "stand"] (pr_Formula_holds rec 2 K T.c)
  c_And : FnOk P w K mg base CX0 k T.f_And_holds T.d_And_holds ["self", "stand"] (pr_Formula_holds rec 3 K T.c)
  c_Either : FnOk P w K mg base CX0 k T.f_Either_holds T.d_Either_holds ["self", "stand"] (pr_Formula_holds rec 4 K T.c)
  c_Or : FnOk P w K mg base CX0 k T.f_Or_holds T.d_Or_holds ["self", "stand"] (pr_Formula_holds rec 5 K T.c)
theorem v_dp_Formula_holds (T : Tx K mg) {rec : O_Formula → Int → Option Bool} {σ : L2.St} {H : Hp} {z v : V} {ta : TE} {t : TA} {x : O_Formula} {vs : List V} {E : XK} (ha : Val ta σ H v) (r : (q_Formula (K := K) T.c).R H v x) (ht : VA t σ H vs) (hs : ∀ i, tag_Formula x = i → ∀ Q : VK, Q z H → pr_Formula_holds rec i K T.c (v :: (vs ++ [])) H Q E) : Val ((tAlt (tMeth T.c.Lamp "holds" (pr_Formula_holds rec 0 K T.c) [] E ta t) (tAlt (tMeth T.c.Sure "holds" (pr_Formula_holds rec 1 K T.c) [] E ta t) (tAlt (tMeth T.c.Not "holds" (pr_Formula_holds rec 2 K T.c) [] E ta t) (tAlt (tMeth T.c.And "holds" (pr_Formula_holds rec 3 K T.c) [] E ta t) (tAlt (tMeth T.c.Either "holds" (pr_Formula_holds rec 4 K T.c) [] E ta t) (tMeth T.c.Or "holds" (pr_Formula_holds rec 5 K T.c) [] E ta t))))))) σ H z := fun Q q => by
  cases r with
  | Lamp hp r0 => exact (Or.inl (c_meth ha ⟨_, _, _, rfl, hp, fun m hm => look_none (ns := ["at"]) rfl hm⟩ (m := "holds") (by decide) (ht _ (hs 0 rfl Q q))))
  | Sure hp r0 => exact (Or.inr (Or.inl (c_meth ha ⟨_, _, _, rfl, hp, fun m hm => look_none (ns := ["truth"]) rfl hm⟩ (m := "holds") (by decide) (ht _ (hs 1 rfl Q q)))))
  | Not hp r0 => exact (Or.inr (Or.inr (Or.inl (c_meth ha ⟨_, _, _, rfl, hp, fun m hm => look_none (ns := ["part"]) rfl hm⟩ (m := "holds") (by decide) (ht _ (hs 2 rfl Q q))))))
  | And hp ha0 r0 => exact (Or.inr (Or.inr (Or.inr (Or.inl (c_meth ha ⟨_, _, _, rfl, hp, fun m hm => look_none (ns := ["parts"]) rfl hm⟩ (m := "holds") (by decide) (ht _ (hs 3 rfl Q q)))))))
  | Either hp ha0 r0 => exact (Or.inr (Or.inr (Or.inr (Or.inr (Or.inl (c_meth ha ⟨_, _, _, rfl, hp, fun m hm => look_none (ns := ["parts"]) rfl hm⟩ (m := "holds") (by decide) (ht _ (hs 4 rfl Q q))))))))
  | Or hp ha0 r0 => exact (Or.inr (Or.inr (Or.inr (Or.inr (Or.inr (c_meth ha ⟨_, _, _, rfl, hp, fun m hm => look_none (ns := ["parts"]) rfl hm⟩ (m := "holds") (by decide) (ht _ (hs 5 rfl Q q))))))))
theorem dp_Formula_holds (T : Tx K mg) {rec : O_Formula → Int → Option Bool} {σ : L2.St} {S H : Hp} {v : V} {ta : TE} {t : TA} {x : O_Formula} {Q : VK} {E : XK} (e : Same S H) (ha : Val ta σ H v) (r : (q_Formula (K := K) T.c).R S v x) (k : ∀ i, tag_Formula x = i → t σ H fun vs H2 => pr_Formula_holds rec i K T.c (v :: (vs ++ [])) H2 Q E) : ((tAlt (tMeth T.c.Lamp "holds" (pr_Formula_holds rec 0 K T.c) [] E ta t) (tAlt (tMeth T.c.Sure "holds" (pr_Formula_holds rec 1 K T.c) [] E ta t) (tAlt (tMeth T.c.Not "holds" (pr_Formula_holds rec 2 K T.c) [] E ta t) (tAlt (tMeth T.c.And "holds" (pr_Formula_holds rec 3 K T.c) [] E ta t) (tAlt (tMeth T.c.Either "holds" (pr_Formula_holds rec 4 K T.c) [] E ta t) (tMeth T.c.Or "holds" (pr_Formula_holds rec 5 K T.c) [] E ta t))))))) σ H Q := by
  cases r with
  | Lamp hp r0 => exact (Or.inl (c_meth ha ⟨_, _, _, rfl, e _ _ hp, fun m hm => look_none (ns := ["at"]) rfl hm⟩ (m := "holds") (by decide) (k 0 rfl)))
  | Sure hp r0 => exact (Or.inr (Or.inl (c_meth ha ⟨_, _, _, rfl, e _ _ hp, fun m hm => look_none (ns := ["truth"]) rfl hm⟩ (m := "holds") (by decide) (k 1 rfl))))
  | Not hp r0 => exact (Or.inr (Or.inr (Or.inl (c_meth ha ⟨_, _, _, rfl, e _ _ hp, fun m hm => look_none (ns := ["part"]) rfl hm⟩ (m := "holds") (by decide) (k 2 rfl)))))
  | And hp ha0 r0 => exact (Or.inr (Or.inr (Or.inr (Or.inl (c_meth ha ⟨_, _, _, rfl, e _ _ hp, fun m hm => look_none (ns := ["parts"]) rfl hm⟩ (m := "holds") (by decide) (k 3 rfl))))))
  | Either hp ha0 r0 => exact (Or.inr (Or.inr (Or.inr (Or.inr (Or.inl (c_meth ha ⟨_, _, _, rfl, e _ _ hp, fun m hm => look_none (ns := ["parts"]) rfl hm⟩ (m := "holds") (by decide) (k 4 rfl)))))))
  | Or hp ha0 r0 => exact (Or.inr (Or.inr (Or.inr (Or.inr (Or.inr (c_meth ha ⟨_, _, _, rfl, e _ _ hp, fun m hm => look_none (ns := ["parts"]) rfl hm⟩ (m := "holds") (by decide) (k 5 rfl)))))))
theorem ok_And_holds (T : Tx K mg) {k : Nat} (hk : 1 ≤ k) {rec_D_Formula_holds : O_Formula → Int → Option Bool} (hrec_D_Formula_holds : DOk_Formula_holds P w base T (k) (rec_D_Formula_holds)) : FnOk P w K mg base CX0 (k + 1) T.f_And_holds T.d_And_holds ["self", "stand"] (p_And_holds (mb_And_holds rec_D_Formula_holds) K T.c) := by
  refine T.F_And_holds.ok sc_And_holds (fun vs H Q E h => by obtain ⟨v2, self1, stand4, rfl, _⟩ := h; rfl) (fun cdv A outer s H vs Q E hr h => ?_)
  obtain ⟨v2, self1, stand4, rfl, r3, h⟩ := h
  obtain ⟨A_, hA⟩ : ∃ A_, A_ = (fun r : Bool => Q (.bl r) H) := ⟨_, rfl⟩
  replace h : OP (mb_And_holds rec_D_Formula_holds self1 stand4) A_ := hA ▸ h
  rw [mb_And_holds] at h
  refine ⟨_, (pss_cons (ps_for PassesOwn.never rfl (pi_list (pe_fld (pe_var (i := 0) rfl (.inl rfl) rfl rfl) rfl)) (pg_name (i := 2) sc_And_holds.nd rfl (.inl rfl)) (pss_cons (ps_if (pt_not (pt_val (pe_alt (pe_meth (pe_var (i := 2) rfl (.inl rfl) rfl rfl) T.l_Lamp T.t_Lamp_holds hrec_D_Formula_holds.c_Lamp hr T.b_Lamp_holds .nil pass0 (pa_cons (pe_var (i := 1) rfl (.inl rfl) rfl rfl) pa_nil)) (pe_alt (pe_meth (pe_var (i := 2) rfl (.inl rfl) rfl rfl) T.l_Sure T.t_Sure_holds hrec_D_Formula_holds.c_Sure hr T.b_Sure_holds .nil pass0 (pa_cons (pe_var (i := 1) rfl (.inl rfl) rfl rfl) pa_nil)) (pe_alt (pe_meth (pe_var (i := 2) rfl (.inl rfl) rfl rfl) T.l_Not T.t_Not_holds hrec_D_Formula_holds.c_Not hr T.b_Not_holds .nil pass0 (pa_cons (pe_var (i := 1) rfl (.inl rfl) rfl rfl) pa_nil)) (pe_alt (pe_meth (pe_var (i := 2) rfl (.inl rfl) rfl rfl) T.l_And T.t_And_holds hrec_D_Formula_holds.c_And hr T.b_And_holds .nil pass0 (pa_cons (pe_var (i := 1) rfl (.inl rfl) rfl rfl) pa_nil)) (pe_alt (pe_meth (pe_var (i := 2) rfl (.inl rfl) rfl rfl) T.l_Either T.t_Either_holds hrec_D_Formula_holds.c_Either hr T.b_Either_holds .nil pass0 (pa_cons (pe_var (i := 1) rfl (.inl rfl) rfl rfl) pa_nil)) (pe_meth (pe_var (i := 2) rfl (.inl rfl) rfl rfl) T.l_Or T.t_Or_holds hrec_D_Formula_holds.c_Or hr T.b_Or_holds .nil pass0 (pa_cons (pe_var (i := 1) rfl (.inl rfl) rfl rfl) pa_nil))))))))) (pss_cons (ps_ret pe_bl)
      pss_nil) pss_nil)
      pss_nil))
      (pss_cons (ps_ret pe_bl)
      pss_nil)), ?_⟩
  refine z_start (σ := [some v2, some (.int stand4), none]) rfl ?_
  have g : Grow [] H H H H := Grow.refl (Same.refl _)
  obtain ⟨y5, ey5, h⟩ := OP.bind h
  obtain ⟨w_6, hw_6, rw_6⟩ := vf_Formula_parts T g.sh r3 ey5
  obtain ⟨B10, h, hB11⟩ := OP.brk h
  obtain ⟨F12, hF13, h⟩ := OP.nameR h
  obtain ⟨q18a, q18w, q18e, q18h, q18p⟩ := id (qL_qQ rw_6)
  replace q18h := g.sh.seq q18h
  refine z_forL (v_eq (hw_6 (val_var rfl)) q18e) q18p (fun ys15 σ' H' => ∃ (u16 : Option V), σ' = [some v2, some (.int stand4), u16] ∧ H = H' ∧ OP (forR F12 ys15 ()) (SE B10 A_)) ⟨_, rfl, rfl, h⟩ (fun ys σ' H' p => by obtain ⟨u16, rfl, rfl, h⟩ := p; exact q18h) (fun w_8 part7 ys15 σ' H_17 rw9 p N hN14 => ?_) ?_
  · obtain ⟨u16, rfl, rfl, h⟩ := p
    replace h := OP.forR h
    replace h := OP.fcall2 hF13 h
    have rx19 := rw9
    refine g_name (σ' := [some v2, some (.int stand4), some w_8]) rfl ?_
    obtain ⟨v20, ev20, h⟩ := OP.bind h
    refine z_if (a_not (v_B (v_dp_Formula_holds T (val_var rfl) (Rep.mono _ g.sh rx19) (va_cons (val_var rfl) va_nil) fun i_ hi_ Q q => ⟨_, _, _, rfl, (Rep.mono _ g.sh rx19), hi_, OP.mk ev20 q⟩))) (fun hc => ?_) (fun hc => ?_)
    · replace h := OP.ite1 hc h
      refine z_ret val_c ?_
      have h := OP.fin hA h
      exact h
    · replace h := OP.ite0 hc h
      refine z_nextR ?_
      refine z_next ?_
      exact hN14 _ _ ⟨_, rfl, rfl, h⟩
  · intro σ' H_21 p
    obtain ⟨u16, rfl, rfl, h⟩ := p
    replace h := hB11 _ (OP.forR_nil h)
    refine z_ret val_c ?_
    have h := OP.fin hA h
    exact h
theorem ok_Either_holds (T : Tx K mg) {k : Nat} (hk : 1 ≤ k) {rec_D_Formula_holds : O_Formula → Int → Option Bool} (hrec_D_Formula_holds : DOk_Formula_holds P w base T (k) (rec_D_Formula_holds)) : FnOk P w K mg base CX0 (k + 1) T.f_Either_holds T.d_Either_holds ["self", "stand"] (p_Either_holds (mb_Either_holds rec_D_Formula_holds) K T.c) := by
  refine T.F_Either_holds.ok sc_Either_holds (fun vs H Q E h => by obtain ⟨v2, self1, stand4, rfl, _⟩ := h; rfl) (fun cdv A outer s H vs Q E hr h => ?_)
  obtain ⟨v2, self1, stand4, rfl, r3, h⟩ := h
  obtain ⟨A_, hA⟩ : ∃ A_, A_ = (fun r : Bool => Q (.bl r) H) := ⟨_, rfl⟩
  replace h : OP (mb_Either_holds rec_D_Formula_holds self1 stand4) A_ := hA ▸ h
  rw [mb_Either_holds] at h
  refine ⟨_, (pss_cons (ps_set (i := 2) sc_Either_holds.nd rfl (.inl rfl) pe_bl)
      (pss_cons (ps_for PassesOwn.never rfl (pi_list (pe_fld (pe_var (i := 0) rfl (.inl rfl) rfl rfl) rfl)) (pg_name (i := 3) sc_Either_holds.nd rfl (.inl rfl)) (pss_cons (ps_if (pt_val (pe_alt (pe_meth (pe_var (i := 3) rfl (.inl rfl) rfl rfl) T.l_Lamp T.t_Lamp_holds hrec_D_Formula_holds.c_Lamp hr T.b_Lamp_holds .nil pass0 (pa_cons (pe_var (i := 1) rfl (.inl rfl) rfl rfl) pa_nil)) (pe_alt (pe_meth (pe_var (i := 3) rfl (.inl rfl) rfl rfl) T.l_Sure T.t_Sure_holds hrec_D_Formula_holds.c_Sure hr T.b_Sure_holds .nil pass0 (pa_cons (pe_var (i := 1) rfl (.inl rfl) rfl rfl) pa_nil)) (pe_alt (pe_meth (pe_var (i := 3) rfl (.inl rfl) rfl rfl) T.l_Not T.t_Not_holds hrec_D_Formula_holds.c_Not hr T.b_Not_holds .nil pass0 (pa_cons (pe_var (i := 1) rfl (.inl rfl) rfl rfl) pa_nil)) (pe_alt (pe_meth (pe_var (i := 3) rfl (.inl rfl) rfl rfl) T.l_And T.t_And_holds hrec_D_Formula_holds.c_And hr T.b_And_holds .nil pass0 (pa_cons (pe_var (i := 1) rfl (.inl rfl) rfl rfl) pa_nil)) (pe_alt (pe_meth (pe_var (i := 3) rfl (.inl rfl) rfl rfl) T.l_Either T.t_Either_holds hrec_D_Formula_holds.c_Either hr T.b_Either_holds .nil pass0 (pa_cons (pe_var (i := 1) rfl (.inl rfl) rfl rfl) pa_nil)) (pe_meth (pe_var (i := 3) rfl (.inl rfl) rfl rfl) T.l_Or T.t_Or_holds hrec_D_Formula_holds.c_Or hr T.b_Or_holds .nil pass0 (pa_cons (pe_var (i := 1) rfl (.inl rfl) rfl rfl) pa_nil)))))))) (pss_cons (ps_set (i := 2) sc_Either_holds.nd rfl (.inl rfl) (pe_not (pe_var (i := 2) rfl (.inl rfl) rfl rfl)))
      pss_nil) pss_nil)
      pss_nil))
      (pss_cons (ps_ret (pe_var (i := 2) rfl (.inl rfl) rfl rfl))
      pss_nil))), ?_⟩
  refine z_start (σ := [some v2, some (.int stand4), none, none]) rfl ?_
  have g : Grow [] H H H H := Grow.refl (Same.refl _)
  refine z_set (w := (.bl false)) (σ' := [some v2, some (.int stand4), some (.bl false), none]) val_c rfl rfl ?_
  obtain ⟨y5, ey5, h⟩ := OP.bind h
  obtain ⟨w_6, hw_6, rw_6⟩ := vf_Formula_parts T g.sh r3 ey5
  obtain ⟨B10, h, hB11⟩ := OP.cut h
  obtain ⟨F12, hF13, h⟩ := OP.nameO h
  obtain ⟨q19a, q19w, q19e, q19h, q19p⟩ := id (qL_qQ rw_6)
  replace q19h := g.sh.seq q19h
  refine z_forL (v_eq (hw_6 (val_var rfl)) q19e) q19p (fun ys15 σ' H' => ∃ (odd16 : Bool) (u17 : Option V), σ' = [some v2, some (.int stand4), some (.bl odd16), u17] ∧ H = H' ∧ OP (forO F12 ys15 odd16) B10) ⟨_, _, rfl, rfl, h⟩ (fun ys σ' H' p => by obtain ⟨odd16, u17, rfl, rfl, h⟩ := p; exact q19h) (fun w_8 part7 ys15 σ' H_18 rw9 p N hN14 => ?_) ?_
  · obtain ⟨odd16, u17, rfl, rfl, h⟩ := p
    replace h := OP.forO h
    replace h := OP.fcall2 hF13 h
    have rx20 := rw9
    refine g_name (σ' := [some v2, some (.int stand4), some (.bl odd16), some w_8]) rfl ?_
    obtain ⟨v21, ev21, h⟩ := OP.bind h
    refine z_if (v_B (v_dp_Formula_holds T (val_var rfl) (Rep.mono _ g.sh rx20) (va_cons (val_var rfl) va_nil) fun i_ hi_ Q q => ⟨_, _, _, rfl, (Rep.mono _ g.sh rx20), hi_, OP.mk ev21 q⟩)) (fun hc => ?_) (fun hc => ?_)
    · replace h := OP.ite1 hc h
      obtain ⟨odd22, eodd22, h⟩ := OP.lt h
      refine z_set (w := (.bl odd22)) (σ' := [some v2, some (.int stand4), some (.bl odd22), some w_8]) (v_not (val_var rfl)) (congrArg V.bl eodd22) rfl ?_
      refine z_nextR ?_
      refine z_next ?_
      exact hN14 _ _ ⟨_, _, rfl, rfl, h⟩
    · replace h := OP.ite0 hc h
      refine z_nextR ?_
      refine z_next ?_
      exact hN14 _ _ ⟨_, _, rfl, rfl, h⟩
  · intro σ' H_23 p
    obtain ⟨odd16, u17, rfl, rfl, h⟩ := p
    replace h := hB11 _ (OP.forO_nil h)
    refine z_ret (val_var rfl) ?_
    have h := OP.fin hA h
    exact h
theorem ok_Not_holds (T : Tx K mg) {k : Nat} (hk : 1 ≤ k) {rec_D_Formula_holds : O_Formula → Int → Option Bool} (hrec_D_Formula_holds : DOk_Formula_holds P w base T (k) (rec_D_Formula_holds)) : FnOk P w K mg base CX0 (k + 1) T.f_Not_holds T.d_Not_holds ["self", "stand"] (p_Not_holds (mb_Not_holds rec_D_Formula_holds) K T.c) := by
  refine T.F_Not_holds.ok sc_Not_holds (fun vs H Q E h => by obtain ⟨v2, self1, stand4, rfl, _⟩ := h; rfl) (fun cdv A outer s H vs Q E hr h => ?_)
  obtain ⟨v2, self1, stand4, rfl, r3, h⟩ := h
  obtain ⟨A_, hA⟩ : ∃ A_, A_ = (fun r : Bool => Q (.bl r) H) := ⟨_, rfl⟩
  replace h : OP (mb_Not_holds rec_D_Formula_holds self1 stand4) A_ := hA ▸ h
  rw [mb_Not_holds] at h
  refine ⟨_, (pss_cons (ps_ret (pe_not (pe_alt (pe_meth (pe_fld (pe_var (i := 0) rfl (.inl rfl) rfl rfl) rfl) T.l_Lamp T.t_Lamp_holds hrec_D_Formula_holds.c_Lamp hr T.b_Lamp_holds .nil pass0 (pa_cons (pe_var (i := 1) rfl (.inl rfl) rfl rfl) pa_nil)) (pe_alt (pe_meth (pe_fld (pe_var (i := 0) rfl (.inl rfl) rfl rfl) rfl) T.l_Sure T.t_Sure_holds hrec_D_Formula_holds.c_Sure hr T.b_Sure_holds .nil pass0 (pa_cons (pe_var (i := 1) rfl (.inl rfl) rfl rfl) pa_nil)) (pe_alt (pe_meth (pe_fld (pe_var (i := 0) rfl (.inl rfl) rfl rfl) rfl) T.l_Not T.t_Not_holds hrec_D_Formula_holds.c_Not hr T.b_Not_holds .nil pass0 (pa_cons (pe_var (i := 1) rfl (.inl rfl) rfl rfl) pa_nil)) (pe_alt (pe_meth (pe_fld (pe_var (i := 0) rfl (.inl rfl) rfl rfl) rfl) T.l_And T.t_And_holds hrec_D_Formula_holds.c_And hr T.b_And_holds .nil pass0 (pa_cons (pe_var (i := 1) rfl (.inl rfl) rfl rfl) pa_nil)) (pe_alt (pe_meth (pe_fld (pe_var (i := 0) rfl (.inl rfl) rfl rfl) rfl) T.l_Either T.t_Either_holds hrec_D_Formula_holds.c_Either hr T.b_Either_holds .nil pass0 (pa_cons (pe_var (i := 1) rfl (.inl rfl) rfl rfl) pa_nil)) (pe_meth (pe_fld (pe_var (i := 0) rfl (.inl rfl) rfl rfl) rfl) T.l_Or T.t_Or_holds hrec_D_Formula_holds.c_Or hr T.b_Or_holds .nil pass0 (pa_cons (pe_var (i := 1) rfl (.inl rfl) rfl rfl) pa_nil)))))))))
      pss_nil), ?_⟩
  refine z_start (σ := [some v2, some (.int stand4)]) rfl ?_
  have g : Grow [] H H H H := Grow.refl (Same.refl _)
  obtain ⟨y5, ey5, h⟩ := OP.bind h
  obtain ⟨w_6, hw_6, rw_6⟩ := vf_Formula_part T g.sh r3 ey5
  obtain ⟨v7, ev7, h⟩ := OP.bind h
  refine z_ret (v_not (v_dp_Formula_holds T (hw_6 (val_var rfl)) (Rep.mono _ g.sh rw_6) (va_cons (val_var rfl) va_nil) fun i_ hi_ Q q => ⟨_, _, _, rfl, (Rep.mono _ g.sh rw_6), hi_, OP.mk ev7 q⟩)) ?_
  have h := OP.fin hA h
  exact h
theorem ok_Or_holds (T : Tx K mg) {k : Nat} (hk : 1 ≤ k) {rec_D_Formula_holds : O_Formula → Int → Option Bool} (hrec_D_Formula_holds : DOk_Formula_holds P w base T (k) (rec_D_Formula_holds)) : FnOk P w K mg base CX0 (k + 1) T.f_Or_holds T.d_Or_holds ["self", "stand"] (p_Or_holds (mb_Or_holds rec_D_Formula_holds) K T.c) := by
  refine T.F_Or_holds.ok sc_Or_holds (fun vs H Q E h => by obtain ⟨v2, self1, stand4, rfl, _⟩ := h; rfl) (fun cdv A outer s H vs Q E hr h => ?_)
  obtain ⟨v2, self1, stand4, rfl, r3, h⟩ := h
  obtain ⟨A_, hA⟩ : ∃ A_, A_ = (fun r : Bool => Q (.bl r) H) := ⟨_, rfl⟩
  replace h : OP (mb_Or_holds rec_D_Formula_holds self1 stand4) A_ := hA ▸ h
  rw [mb_Or_holds] at h
  refine ⟨_, (pss_cons (ps_for PassesOwn.never rfl (pi_list (pe_fld (pe_var (i := 0) rfl (.inl rfl) rfl rfl) rfl)) (pg_name (i := 2) sc_Or_holds.nd rfl (.inl rfl)) (pss_cons (ps_if (pt_val (pe_alt (pe_meth (pe_var (i := 2) rfl (.inl rfl) rfl rfl) T.l_Lamp T.t_Lamp_holds hrec_D_Formula_holds.c_Lamp hr T.b_Lamp_holds .nil pass0 (pa_cons (pe_var (i := 1) rfl (.inl rfl) rfl rfl) pa_nil)) (pe_alt (pe_meth (pe_var (i := 2) rfl (.inl rfl) rfl rfl) T.l_Sure T.t_Sure_holds hrec_D_Formula_holds.c_Sure hr T.b_Sure_holds .nil pass0 (pa_cons (pe_var (i := 1) rfl (.inl rfl) rfl rfl) pa_nil)) (pe_alt (pe_meth (pe_var (i := 2) rfl (.inl rfl) rfl rfl) T.l_Not T.t_Not_holds hrec_D_Formula_holds.c_Not hr T.b_Not_holds .nil pass0 (pa_cons (pe_var (i := 1) rfl (.inl rfl) rfl rfl) pa_nil)) (pe_alt (pe_meth (pe_var (i := 2) rfl (.inl rfl) rfl rfl) T.l_And T.t_And_holds hrec_D_Formula_holds.c_And hr T.b_And_holds .nil pass0 (pa_cons (pe_var (i := 1) rfl (.inl rfl) rfl rfl) pa_nil)) (pe_alt (pe_meth (pe_var (i := 2) rfl (.inl rfl) rfl rfl) T.l_Either T.t_Either_holds hrec_D_Formula_holds.c_Either hr T.b_Either_holds .nil pass0 (pa_cons (pe_var (i := 1) rfl (.inl rfl) rfl rfl) pa_nil)) (pe_meth (pe_var (i := 2) rfl (.inl rfl) rfl rfl) T.l_Or T.t_Or_holds hrec_D_Formula_holds.c_Or hr T.b_Or_holds .nil pass0 (pa_cons (pe_var (i := 1) rfl (.inl rfl) rfl rfl) pa_nil)))))))) (pss_cons (ps_ret pe_bl)
      pss_nil) pss_nil)
      pss_nil))
      (pss_cons (ps_ret pe_bl)
      pss_nil)), ?_⟩
  refine z_start (σ := [some v2, some (.int stand4), none]) rfl ?_
  have g : Grow [] H H H H := Grow.refl (Same.refl _)
  obtain ⟨y5, ey5, h⟩ := OP.bind h
  obtain ⟨w_6, hw_6, rw_6⟩ := vf_Formula_parts T g.sh r3 ey5
  obtain ⟨B10, h, hB11⟩ := OP.brk h
  obtain ⟨F12, hF13, h⟩ := OP.nameR h
  obtain ⟨q18a, q18w, q18e, q18h, q18p⟩ := id (qL_qQ rw_6)
  replace q18h := g.sh.seq q18h
  refine z_forL (v_eq (hw_6 (val_var rfl)) q18e) q18p (fun ys15 σ' H' => ∃ (u16 : Option V), σ' = [some v2, some (.int stand4), u16] ∧ H = H' ∧ OP (forR F12 ys15 ()) (SE B10 A_)) ⟨_, rfl, rfl, h⟩ (fun ys σ' H' p => by obtain ⟨u16, rfl, rfl, h⟩ := p; exact q18h) (fun w_8 part7 ys15 σ' H_17 rw9 p N hN14 => ?_) ?_
  · obtain ⟨u16, rfl, rfl, h⟩ := p
    replace h := OP.forR h
    replace h := OP.fcall2 hF13 h
    have rx19 := rw9
    refine g_name (σ' := [some v2, some (.int stand4), some w_8]) rfl ?_
    obtain ⟨v20, ev20, h⟩ := OP.bind h
    refine z_if (v_B (v_dp_Formula_holds T (val_var rfl) (Rep.mono _ g.sh rx19) (va_cons (val_var rfl) va_nil) fun i_ hi_ Q q => ⟨_, _, _, rfl, (Rep.mono _ g.sh rx19), hi_, OP.mk ev20 q⟩)) (fun hc => ?_) (fun hc => ?_)
    · replace h := OP.ite1 hc h
      refine z_ret val_c ?_
      have h := OP.fin hA h
      exact h
    · replace h := OP.ite0 hc h
      refine z_nextR ?_
      refine z_next ?_
      exact hN14 _ _ ⟨_, rfl, rfl, h⟩
  · intro σ' H_21 p
    obtain ⟨u16, rfl, rfl, h⟩ := p
    replace h := hB11 _ (OP.forR_nil h)
    refine z_ret val_c ?_
    have h := OP.fin hA h
    exact h
def mf_D_Formula_holds : Nat → (O_Formula → Int → Option Bool)
  | 0 => (fun _ _ => none)
  | n + 1 => (mb_D_Formula_holds ((mf_D_Formula_holds n)))
@[irreducible] def m_D_Formula_holds : O_Formula → Int → Option Bool := (mf_D_Formula_holds 100)
theorem okF_D_Formula_holds (T : Tx K mg) : ∀ n : Nat, (DOk_Formula_holds P w base T (1 + n) ((mf_D_Formula_holds n)))
  | 0 => ⟨fn_none fun vs H Q E h => by obtain ⟨v2, self1, stand4, rfl, r3, ht, h⟩ := h; exact h.elim, fn_none fun vs H Q E h => by obtain ⟨v2, self1, stand4, rfl, r3, ht, h⟩ := h; exact h.elim, fn_none fun vs H Q E h => by obtain ⟨v2, self1, stand4, rfl, r3, ht, h⟩ := h; exact h.elim, fn_none fun vs H Q E h => by obtain ⟨v2, self1, stand4, rfl, r3, ht, h⟩ := h; exact h.elim, fn_none fun vs H Q E h => by obtain ⟨v2, self1, stand4, rfl, r3, ht, h⟩ := h; exact h.elim, fn_none fun vs H Q E h => by obtain ⟨v2, self1, stand4, rfl, r3, ht, h⟩ := h; exact h.elim⟩
  | n + 1 => by
    have ih := okF_D_Formula_holds T n
    have hk : 1 ≤ 1 + n := Nat.le_add_right _ _
    have st_D_Formula_holds : DOk_Formula_holds P w base T (1 + n + 1) (mb_D_Formula_holds ((mf_D_Formula_holds n))) := {
      c_Lamp := ((ok_Lamp_holds T).mono (by omega)).imp fun vs H Q E q => by
        obtain ⟨v2, self1, stand4, rfl, r3, ht, h⟩ := q
        cases self1 with
        | Lamp => exact ⟨_, _, _, rfl, r3, h⟩
        | _ => cases ht
      c_Sure := ((ok_Sure_holds T).mono (by omega)).imp fun vs H Q E q => by
        obtain ⟨v2, self1, stand4, rfl, r3, ht, h⟩ := q
        cases self1 with
        | Sure => exact ⟨_, _, _, rfl, r3, h⟩
        | _ => cases ht
      c_Not := ((ok_Not_holds T hk ih).mono (by omega)).imp fun vs H Q E q => by
        obtain ⟨v2, self1, stand4, rfl, r3, ht, h⟩ := q
        cases self1 with
        | Not => exact ⟨_, _, _, rfl, r3, h⟩
        | _ => cases ht
      c_And := ((ok_And_holds T hk ih).mono (by omega)).imp fun vs H Q E q => by
        obtain ⟨v2, self1, stand4, rfl, r3, ht, h⟩ := q
        cases self1 with
        | And => exact ⟨_, _, _, rfl, r3, h⟩
        | _ => cases ht
      c_Either := ((ok_Either_holds T hk ih).mono (by omega)).imp fun vs H Q E q => by
        obtain ⟨v2, self1, stand4, rfl, r3, ht, h⟩ := q
        cases self1 with
        | Either => exact ⟨_, _, _, rfl, r3, h⟩
        | _ => cases ht
      c_Or := ((ok_Or_holds T hk ih).mono (by omega)).imp fun vs H Q E q => by
        obtain ⟨v2, self1, stand4, rfl, r3, ht, h⟩ := q
        cases self1 with
        | Or => exact ⟨_, _, _, rfl, r3, h⟩
        | _ => cases ht
    }
    exact st_D_Formula_holds
theorem okD_Formula_holds (T : Tx K mg) : DOk_Formula_holds P w base T (101) (m_D_Formula_holds) := by
  unfold m_D_Formula_holds
  exact (okF_D_Formula_holds T 100)

@[irreducible] def m_Move_fits (self1 : O_Move) (stand4 : Int) : Option Bool :=
(m_D_Formula_holds self1.guard stand4).bind fun v6 =>
some v6
abbrev s_Move_fits : Stmt := inClass (top 22) 1
abbrev sn_Move_fits : List Str := ["self", "stand"]
theorem sc_Move_fits : FnScope ["self", "stand"] ["self", "stand"] (defScope (s_Move_fits)) := ⟨rfl, rfl, rfl, by decide +kernel, rfl, by decide +kernel, by decide +kernel⟩
def p_Move_fits (K : PySem.W.Frag) (c : Cl) : Sp := fun vs H Q E => ∃ (v2 : V) (self1 : O_Move) (stand4 : Int), vs = [v2, .int stand4] ∧ ((q_Move (K := K) c)).R H v2 self1 ∧ OP (m_Move_fits self1 stand4) (fun r => Q (.bl r) H)
theorem ok_Move_fits (T : Tx K mg) : FnOk P w K mg base CX0 102 T.f_Move_fits T.d_Move_fits ["self", "stand"] (p_Move_fits K T.c) := by
  refine T.F_Move_fits.ok sc_Move_fits (fun vs H Q E h => by obtain ⟨v2, self1, stand4, rfl, _⟩ := h; rfl) (fun cdv A outer s H vs Q E hr h => ?_)
  obtain ⟨v2, self1, stand4, rfl, r3, h⟩ := h
  obtain ⟨A_, hA⟩ : ∃ A_, A_ = (fun r : Bool => Q (.bl r) H) := ⟨_, rfl⟩
  replace h : OP (m_Move_fits self1 stand4) A_ := hA ▸ h
  rw [m_Move_fits] at h
  have hr101 : Room 101 _ := hr.mono (by decide)
  refine ⟨_, (pss_cons (ps_ret (pe_alt (pe_meth (pe_fld (pe_var (i := 0) rfl (.inl rfl) rfl rfl) rfl) T.l_Lamp T.t_Lamp_holds (okD_Formula_holds T).c_Lamp hr101 T.b_Lamp_holds .nil pass0 (pa_cons (pe_var (i := 1) rfl (.inl rfl) rfl rfl) pa_nil)) (pe_alt (pe_meth (pe_fld (pe_var (i := 0) rfl (.inl rfl) rfl rfl) rfl) T.l_Sure T.t_Sure_holds (okD_Formula_holds T).c_Sure hr101 T.b_Sure_holds .nil pass0 (pa_cons (pe_var (i := 1) rfl (.inl rfl) rfl rfl) pa_nil)) (pe_alt (pe_meth (pe_fld (pe_var (i := 0) rfl (.inl rfl) rfl rfl) rfl) T.l_Not T.t_Not_holds (okD_Formula_holds T).c_Not hr101 T.b_Not_holds .nil pass0 (pa_cons (pe_var (i := 1) rfl (.inl rfl) rfl rfl) pa_nil)) (pe_alt (pe_meth (pe_fld (pe_var (i := 0) rfl (.inl rfl) rfl rfl) rfl) T.l_And T.t_And_holds (okD_Formula_holds T).c_And hr101 T.b_And_holds .nil pass0 (pa_cons (pe_var (i := 1) rfl (.inl rfl) rfl rfl) pa_nil)) (pe_alt (pe_meth (pe_fld (pe_var (i := 0) rfl (.inl rfl) rfl rfl) rfl) T.l_Either T.t_Either_holds (okD_Formula_holds T).c_Either hr101 T.b_Either_holds .nil pass0 (pa_cons (pe_var (i := 1) rfl (.inl rfl) rfl rfl) pa_nil)) (pe_meth (pe_fld (pe_var (i := 0) rfl (.inl rfl) rfl rfl) rfl) T.l_Or T.t_Or_holds (okD_Formula_holds T).c_Or hr101 T.b_Or_holds .nil pass0 (pa_cons (pe_var (i := 1) rfl (.inl rfl) rfl rfl) pa_nil))))))))
      pss_nil), ?_⟩
  refine z_start (σ := [some v2, some (.int stand4)]) rfl ?_
  have g : Grow [] H H H H := Grow.refl (Same.refl _)
  obtain ⟨w_5, hw_5, rw_5⟩ := vf_Move_guard T g.sh r3
  obtain ⟨v6, ev6, h⟩ := OP.bind h
  refine z_ret (v_dp_Formula_holds T (hw_5 (val_var rfl)) (Rep.mono _ g.sh rw_5) (va_cons (val_var rfl) va_nil) fun i_ hi_ Q q => ⟨_, _, _, rfl, (Rep.mono _ g.sh rw_5), hi_, OP.mk ev6 q⟩) ?_
  have h := OP.fin hA h
  exact h

@[irreducible] def m_Move_onward (self1 : O_Move) (stand4 : Int) : Option Int :=
(forO (fun x6 there15 =>
(m_D_Formula_holds x6.2 stand4).bind fun v25 =>
ifo v25 (
grd (gPow 1 x6.1) <|
lt (bor there15 (shl 1 x6.1)) fun there27 =>
some there27) (
grd (0 ≤ x6.1) <|
ifo (decide ((band (shr there15 x6.1) 1) = 1)) (
grd (gPow 1 x6.1) <|
lt (bxor there15 (shl 1 x6.1)) fun there30 =>
some there30) (
some there15))) (self1.changes) stand4).bind (fun there15 =>
some there15)
abbrev s_Move_onward : Stmt := inClass (top 22) 2
abbrev sn_Move_onward : List Str := ["self", "stand", "there", "lamp", "formula"]
theorem sc_Move_onward : FnScope ["self", "stand", "there", "lamp", "formula"] ["self", "stand"] (defScope (s_Move_onward)) := ⟨rfl, rfl, rfl, by decide +kernel, rfl, by decide +kernel, by decide +kernel⟩
def p_Move_onward (K : PySem.W.Frag) (c : Cl) : Sp := fun vs H Q E => ∃ (S : Hp) (v2 : V) (self1 : O_Move) (stand4 : Int), vs = [v2, .int stand4] ∧ Same S H ∧ ((q_Move (K := K) c)).R S v2 self1 ∧ OP (m_Move_onward self1 stand4) (fun r => ∀ (S' H' : Hp), Grow [] S H S' H' → Q (.int r) H')
theorem ok_Move_onward (T : Tx K mg) : FnOk P w K mg base CX0 102 T.f_Move_onward T.d_Move_onward ["self", "stand"] (p_Move_onward K T.c) := by
  refine T.F_Move_onward.ok sc_Move_onward (fun vs H Q E h => by obtain ⟨S, v2, self1, stand4, rfl, _⟩ := h; rfl) (fun cdv A outer s H vs Q E hr h => ?_)
  obtain ⟨S, v2, self1, stand4, rfl, gS, r3, h⟩ := h
  obtain ⟨A_, hA⟩ : ∃ A_, A_ = (fun r : Int => ∀ (S' H' : Hp), Grow [] S H S' H' → Q (.int r) H') := ⟨_, rfl⟩
  replace h : OP (m_Move_onward self1 stand4) A_ := hA ▸ h
  rw [m_Move_onward] at h
  have hr101 : Room 101 _ := hr.mono (by decide)
  refine ⟨_, (pss_cons (ps_set (i := 2) sc_Move_onward.nd rfl (.inl rfl) (pe_var (i := 1) rfl (.inl rfl) rfl rfl))
      (pss_cons (ps_for PassesOwn.never rfl (pi_list (pe_fld (pe_var (i := 0) rfl (.inl rfl) rfl rfl) rfl)) (pg_tup rfl (pgs_cons (pg_name (i := 3) sc_Move_onward.nd rfl (.inl rfl)) (pgs_cons (pg_name (i := 4) sc_Move_onward.nd rfl (.inl rfl)) pgs_nil))) (pss_cons (ps_if (pt_val (pe_alt (pe_meth (pe_var (i := 4) rfl (.inl rfl) rfl rfl) T.l_Lamp T.t_Lamp_holds (okD_Formula_holds T).c_Lamp hr101 T.b_Lamp_holds .nil pass0 (pa_cons (pe_var (i := 1) rfl (.inl rfl) rfl rfl) pa_nil)) (pe_alt (pe_meth (pe_var (i := 4) rfl (.inl rfl) rfl rfl) T.l_Sure T.t_Sure_holds (okD_Formula_holds T).c_Sure hr101 T.b_Sure_holds .nil pass0 (pa_cons (pe_var (i := 1) rfl (.inl rfl) rfl rfl) pa_nil)) (pe_alt (pe_meth (pe_var (i := 4) rfl (.inl rfl) rfl rfl) T.l_Not T.t_Not_holds (okD_Formula_holds T).c_Not hr101 T.b_Not_holds .nil pass0 (pa_cons (pe_var (i := 1) rfl (.inl rfl) rfl rfl) pa_nil)) (pe_alt (pe_meth (pe_var (i := 4) rfl (.inl rfl) rfl rfl) T.l_And T.t_And_holds (okD_Formula_holds T).c_And hr101 T.b_And_holds .nil pass0 (pa_cons (pe_var (i := 1) rfl (.inl rfl) rfl rfl) pa_nil)) (pe_alt (pe_meth (pe_var (i := 4) rfl (.inl rfl) rfl rfl) T.l_Either T.t_Either_holds (okD_Formula_holds T).c_Either hr101 T.b_Either_holds .nil pass0 (pa_cons (pe_var (i := 1) rfl (.inl rfl) rfl rfl) pa_nil)) (pe_meth (pe_var (i := 4) rfl (.inl rfl) rfl rfl) T.l_Or T.t_Or_holds (okD_Formula_holds T).c_Or hr101 T.b_Or_holds .nil pass0 (pa_cons (pe_var (i := 1) rfl (.inl rfl) rfl rfl) pa_nil)))))))) (pss_cons (ps_aug (i := 2) sc_Move_onward.nd rfl (.inl rfl) (pe_op op_shl pe_int (pe_var (i := 3) rfl (.inl rfl) rfl rfl)) iop_or)
      pss_nil) (pss_cons (ps_if (pt_cmpR op_eq (pe_op op_and (pe_op op_shr (pe_var (i := 2) rfl (.inl rfl) rfl rfl) (pe_var (i := 3) rfl (.inl rfl) rfl rfl)) pe_int) pe_int (nomark _)) (pss_cons (ps_aug (i := 2) sc_Move_onward.nd rfl (.inl rfl) (pe_op op_shl pe_int (pe_var (i := 3) rfl (.inl rfl) rfl rfl)) iop_xor)
      pss_nil) pss_nil)
      pss_nil))
      pss_nil))
      (pss_cons (ps_ret (pe_var (i := 2) rfl (.inl rfl) rfl rfl))
      pss_nil))), ?_⟩
  refine z_start (σ := [some v2, some (.int stand4), none, none, none]) rfl ?_
  have g : Grow [] S H S H := Grow.refl gS
  refine z_set (w := (.int stand4)) (σ' := [some v2, some (.int stand4), some (.int stand4), none, none]) (val_var rfl) rfl rfl ?_
  obtain ⟨w_5, hw_5, rw_5⟩ := vf_Move_changes T g.sh r3
  obtain ⟨B9, h, hB10⟩ := OP.cut h
  obtain ⟨F11, hF12, h⟩ := OP.nameO h
  obtain ⟨q19a, q19w, q19e, q19h, q19p⟩ := id (qL_qQ rw_5)
  replace q19h := g.sh.seq q19h
  refine z_forL (v_eq (hw_5 (val_var rfl)) q19e) q19p (fun ys14 σ' H' => ∃ (there15 : Int) (u16 : Option V) (u17 : Option V), σ' = [some v2, some (.int stand4), some (.int there15), u16, u17] ∧ H = H' ∧ OP (forO F11 ys14 there15) B9) ⟨_, _, _, rfl, rfl, h⟩ (fun ys σ' H' p => by obtain ⟨there15, u16, u17, rfl, rfl, h⟩ := p; exact q19h) (fun w_7 x6 ys14 σ' H_18 rw8 p N hN13 => ?_) ?_
  · obtain ⟨there15, u16, u17, rfl, rfl, h⟩ := p
    replace h := OP.forO h
    replace h := OP.fcall2 hF12 h
    have rx20 := rw8
    refine g_tup2 rfl g.sh rx20 fun w_21 w_22 r23 r24 => ?_
    cases (show w_21 = (.int x6.1) from r23)
    refine g_name (σ' := [some v2, some (.int stand4), some (.int there15), some (.int x6.1), u17]) rfl ?_
    refine g_next ?_
    refine g_name (σ' := [some v2, some (.int stand4), some (.int there15), some (.int x6.1), some w_22]) rfl ?_
    refine g_end ?_
    obtain ⟨v25, ev25, h⟩ := OP.bind h
    refine z_if (v_B (v_dp_Formula_holds T (val_var rfl) (Rep.mono _ g.sh r24) (va_cons (val_var rfl) va_nil) fun i_ hi_ Q q => ⟨_, _, _, rfl, (Rep.mono _ g.sh r24), hi_, OP.mk ev25 q⟩)) (fun hc => ?_) (fun hc => ?_)
    · replace h := OP.ite1 hc h
      obtain ⟨g26, h⟩ := OP.grd h
      obtain ⟨there27, ethere27, h⟩ := OP.lt h
      refine z_augI (w := (.int there27)) (σ' := [some v2, some (.int stand4), some (.int there27), some (.int x6.1), some w_22]) rfl (v_o2c val_c (val_var rfl) g26) (congrArg V.int ethere27) rfl ?_
      refine z_nextR ?_
      refine z_next ?_
      exact hN13 _ _ ⟨_, _, _, rfl, rfl, h⟩
    · replace h := OP.ite0 hc h
      obtain ⟨g28, h⟩ := OP.grd h
      refine z_if (v_test (v_eqI (v_o2 (v_o2c (val_var rfl) (val_var rfl) g28) val_c) val_c)) (fun hc => ?_) (fun hc => ?_)
      · replace h := OP.ite1 hc h
        obtain ⟨g29, h⟩ := OP.grd h
        obtain ⟨there30, ethere30, h⟩ := OP.lt h
        refine z_augI (w := (.int there30)) (σ' := [some v2, some (.int stand4), some (.int there30), some (.int x6.1), some w_22]) rfl (v_o2c val_c (val_var rfl) g29) (congrArg V.int ethere30) rfl ?_
        refine z_nextR ?_
        refine z_nextR ?_
        refine z_next ?_
        exact hN13 _ _ ⟨_, _, _, rfl, rfl, h⟩
      · replace h := OP.ite0 hc h
        refine z_nextR ?_
        refine z_nextR ?_
        refine z_next ?_
        exact hN13 _ _ ⟨_, _, _, rfl, rfl, h⟩
  · intro σ' H_31 p
    obtain ⟨there15, u16, u17, rfl, rfl, h⟩ := p
    replace h := hB10 _ (OP.forO_nil h)
    refine z_ret (val_var rfl) ?_
    have h := OP.fin hA h
    exact h _ _ g

@[irreducible] def m_Machine_walked (self1 : O_Machine) (stand4 : Int) (picks5 : (List Int)) : Option (Except Nat (List Int)) :=
brk (forR (fun pick17 passed29 =>
ifo (!((decide (0 ≤ pick17)) && (decide (pick17 < (self1.moves.length : Int))))) (
some (.inr (.error 3))) (
(atI self1.moves pick17).bind fun i38 =>
(atI passed29 (-1)).bind fun i41 =>
(m_Move_fits i38 i41).bind fun v42 =>
ifo (!v42) (
some (.inr (.error 3))) (
(atI passed29 (-1)).bind fun i43 =>
(m_Move_onward i38 i43).bind fun v44 =>
grd (passed29.length < 16777216) <|
lt (passed29 ++ [v44]) fun l50 =>
some (.inl l50)))) (picks5) ([stand4] : List Int)) (fun passed29 =>
some (.ok passed29))
abbrev s_Machine_walked : Stmt := inClass (top 23) 4
abbrev sn_Machine_walked : List Str := ["self", "stand", "picks", "passed", "pick", "move"]
theorem sc_Machine_walked : FnScope ["self", "stand", "picks", "passed", "pick", "move"] ["self", "stand", "picks"] (defScope (s_Machine_walked)) := ⟨rfl, rfl, rfl, by decide +kernel, rfl, by decide +kernel, by decide +kernel⟩
def p_Machine_walked (K : PySem.W.Frag) (c : Cl) : Sp := fun vs H Q E => ∃ (S : Hp) (v2 : V) (self1 : O_Machine) (stand4 : Int) (v6 : V) (picks5 : (List Int)), vs = [v2, .int stand4, v6] ∧ Same S H ∧ ((q_Machine (K := K) c)).R S v2 self1 ∧ RdL (qI (K := K)) [] S H v6 picks5 ∧ OP (m_Machine_walked self1 stand4 picks5) (fun r => EXP r (fun x => ∀ (S' H' : Hp) (p : Addr) (ws : List V), Grow [] S H S' H' → H p = none → H' p = some (.lst ws) → S' p = none → RL (qI (K := K)) S' ws x → Q (.ref p) H') (fun x => ∀ (S' H' : Hp), Grow [] S H S' H' → E (clsV c x) none H'))
theorem ok_Machine_walked (T : Tx K mg) : FnOk P w K mg base (L2.CX P w) 103 T.f_Machine_walked T.d_Machine_walked ["self", "stand", "picks"] (p_Machine_walked K T.c) := by
  refine T.F_Machine_walked.okX sc_Machine_walked (fun vs H Q E h => by obtain ⟨S, v2, self1, stand4, v6, picks5, rfl, _⟩ := h; rfl) (fun cdv A outer s H vs Q E hr h => ?_)
  obtain ⟨S, v2, self1, stand4, v6, picks5, rfl, gS, r3, r7, h⟩ := h
  obtain ⟨A_, hA⟩ : ∃ A_, A_ = (fun r : (Except Nat (List Int)) => EXP r (fun x => ∀ (S' H' : Hp) (p : Addr) (ws : List V), Grow [] S H S' H' → H p = none → H' p = some (.lst ws) → S' p = none → RL (qI (K := K)) S' ws x → Q (.ref p) H') (fun x => ∀ (S' H' : Hp), Grow [] S H S' H' → E (clsV T.c x) none H')) := ⟨_, rfl⟩
  replace h : OP (m_Machine_walked self1 stand4 picks5) A_ := hA ▸ h
  rw [m_Machine_walked] at h
  have hr102 : Room 102 _ := hr.mono (by decide)
  refine ⟨_, (pss_cons (ps_set (i := 3) sc_Machine_walked.nd rfl (.inl rfl) (pe_lst (pa_cons (pe_var (i := 1) rfl (.inl rfl) rfl rfl) pa_nil)))
      (pss_cons (ps_for (passes_of rfl) rfl (pi_list (pe_var (i := 2) rfl (.inl rfl) rfl rfl)) (pg_name (i := 4) sc_Machine_walked.nd rfl (.inl rfl)) (pss_cons (ps_if (pt_not (pt_chain op_le op_lt pe_int (pe_var (i := 4) rfl (.inl rfl) rfl rfl) (pe_callB (show CallR _ (.builtin "len") (Z.rLenS K) from call_len_seq) rfl T.n_len bt_len (pa_cons (pe_fld (pe_var (i := 0) rfl (.inl rfl) rfl rfl) rfl) pa_nil)))) (pss_cons (ps_raise rfl (takes_of rfl rfl rfl rfl) (pmk_own PySem.F.excBase_ValueError T.e_NoStep.x T.m_NoStep T.e_NoStep.k (raises_own T.e_NoStep.b T.e_NoStep.t) rfl))
      pss_nil) pss_nil)
      (pss_cons (ps_set (i := 5) sc_Machine_walked.nd rfl (.inl rfl) (pe_ix (show IxR _ (rIxL K) from ix_list) (pe_fld (pe_var (i := 0) rfl (.inl rfl) rfl rfl) rfl) (pe_var (i := 4) rfl (.inl rfl) rfl rfl) (fun _ _ => rfl)))
      (pss_cons (ps_if (pt_not (pt_val (pe_meth (pe_var (i := 5) rfl (.inl rfl) rfl rfl) T.l_Move T.t_Move_fits (ok_Move_fits T) hr102 T.b_Move_fits .nil pass0 (pa_cons (pe_ix (show IxR _ (rIxL K) from ix_list) (pe_var (i := 3) rfl (.inl rfl) rfl rfl) (pe_un un_neg pe_int) (fun _ _ => rfl)) pa_nil)))) (pss_cons (ps_raise rfl (takes_of rfl rfl rfl rfl) (pmk_own PySem.F.excBase_ValueError T.e_NoStep.x T.m_NoStep T.e_NoStep.k (raises_own T.e_NoStep.b T.e_NoStep.t) rfl))
      pss_nil) pss_nil)
      (pss_cons (ps_expr (pe_bm PySem.F.plainAttrs_list PySem.F.slot_list_append PySem.F.type_list_append mt_append (pe_var (i := 3) rfl (.inl rfl) rfl rfl) (pa_cons (pe_meth (pe_var (i := 5) rfl (.inl rfl) rfl rfl) T.l_Move T.t_Move_onward (ok_Move_onward T) hr102 T.b_Move_onward .nil pass0 (pa_cons (pe_ix (show IxR _ (rIxL K) from ix_list) (pe_var (i := 3) rfl (.inl rfl) rfl rfl) (pe_un un_neg pe_int) (fun _ _ => rfl)) pa_nil)) pa_nil)))
      pss_nil)))))
      (pss_cons (ps_ret (pe_var (i := 3) rfl (.inl rfl) rfl rfl))
      pss_nil))), ?_⟩
  refine z_start (σ := [some v2, some (.int stand4), some v6, none, none, none]) rfl ?_
  have g : Grow [] S H S H := Grow.refl gS
  refine z_setE ?_
  refine c_lstE fun Q_8 hQ_8 => ?_
  refine c_args (va_cons (val_var rfl) va_nil) ?_
  refine c_newlst (Q := Q_8) (vs := [(.int stand4)]) (show 1 ≤ 1000 by decide) fun p9 H_10 e11 np12 ep13 => ?_
  refine q_eq hQ_8 ?_
  have w_14 : RL (qI (K := K)) S [(.int stand4)] ([stand4] : List Int) := (.cons rfl .nil)
  have z16 := g.hnone np12
  have c_15 : Cel [] H S H_10 p9 (.lst [(.int stand4)]) := Cel.own g e11 np12 ep13 rfl
  replace g := g.ext e11
  refine g_name (σ' := [some v2, some (.int stand4), some v6, some (.ref p9), none, none]) rfl ?_
  obtain ⟨B20, h, hB21⟩ := OP.brk h
  obtain ⟨F22, hF23, h⟩ := OP.nameR h
  obtain ⟨q35a, q35w, q35e, q35h, q35p⟩ := id r7
  refine z_forL (v_eq (val_var rfl) q35e) q35p (fun ys25 σ' H' => ∃ (ws26 : List V) (passed29 : (List Int)) (u30 : Option V) (u31 : Option V) (S_32 : Hp), σ' = [some v2, some (.int stand4), some v6, some (.ref p9), u30, u31] ∧ Grow [] S H S_32 H' ∧ Same S S_32 ∧ Cel [] H S_32 H' p9 (.lst ws26) ∧ RL (qI (K := K)) S_32 ws26 passed29 ∧ OP (forR F22 ys25 passed29) (SE B20 A_)) ⟨_, _, _, _, _, rfl, g, (Same.refl _), c_15, w_14, h⟩ (fun ys σ' H' p => by obtain ⟨ws26, passed29, u30, u31, S_32, rfl, gN, eS34, c_27N, r28N, h⟩ := p; exact gN.sq q35h) (fun w_18 pick17 ys25 σ' H_33 rw19 p N hN24 => ?_) ?_
  · obtain ⟨ws26, passed29, u30, u31, S_32, rfl, gN, eS34, c_27N, r28N, h⟩ := p
    replace g := gN
    have c_27 := c_27N
    have r28 := r28N
    replace r3 := Rep.mono _ eS34 r3
    replace r7 := RdL.mono eS34 r7
    replace h := OP.forR h
    replace h := OP.fcall2 hF23 h
    cases (show w_18 = (.int pick17) from rw19)
    refine g_name (σ' := [some v2, some (.int stand4), some v6, some (.ref p9), some (.int pick17), u31]) rfl ?_
    obtain ⟨w_36, hw_36, rw_36⟩ := vf_Machine_moves T g.sh r3
    refine z_if (a_not (v_test (v_chn val_c (val_var rfl) (v_len (hw_36 (val_var rfl)) (qL_qQ (Rep.mono _ g.sh rw_36))) rfl rfl))) (fun hc => ?_) (fun hc => ?_)
    · replace h := OP.ite1 hc h
      have h := OP.fin hA h
      replace h := EXP.er h
      exact h _ _ g
    · replace h := OP.ite0 hc h
      refine z_nextR ?_
      obtain ⟨w_37, hw_37, rw_37⟩ := vf_Machine_moves T g.sh r3
      obtain ⟨i38, ei38, h⟩ := OP.bind h
      obtain ⟨w_39, hw_39, rw_39⟩ := v_ixq2 g.sh (qL_qQ rw_37) ei38
      have r40 := rw_39
      refine z_set (w := w_39) (σ' := [some v2, some (.int stand4), some v6, some (.ref p9), some (.int pick17), some w_39]) (hw_39 (hw_37 (val_var rfl)) (val_var rfl)) rfl rfl ?_
      obtain ⟨i41, ei41, h⟩ := OP.bind h
      obtain ⟨v42, ev42, h⟩ := OP.bind h
      refine z_if (a_not (v_B (v_meth (val_var rfl) (in_Move (Rep.mono _ g.sh r40)) (m := "fits") (by decide) (va_cons (v_ixI (val_var rfl) (v_u val_c) (qL_qQ (qL_of c_27.h (RL.mono g.sh r28))) ei41) va_nil) fun Q q => ⟨_, _, _, rfl, (Rep.mono _ g.sh r40), OP.mk ev42 q⟩))) (fun hc => ?_) (fun hc => ?_)
      · replace h := OP.ite1 hc h
        have h := OP.fin hA h
        replace h := EXP.er h
        exact h _ _ g
      · replace h := OP.ite0 hc h
        refine z_nextR ?_
        refine z_dropE ?_
        refine c_bm (val_var rfl) (tyL c_27.h) ?_
        refine c_cons ?_
        refine c_meth (val_var rfl) (in_Move (Rep.mono _ g.sh r40)) (m := "onward") (by decide) ?_
        obtain ⟨i43, ei43, h⟩ := OP.bind h
        refine c_args (va_cons (v_ixI (val_var rfl) (v_u val_c) (qL_qQ (qL_of c_27.h (RL.mono g.sh r28))) ei43) va_nil) ?_
        have gL48 : ∀ l ∈ [], H l = none ∨ l ∈ [] := LM0
        refine ⟨S_32, _, _, _, rfl, g.sh, r40, (OP.of h).mono fun v44 h S_45 H_46 gc47 => ?_⟩
        replace c_27 := c_27.call gc47 NM0
        replace r3 := Rep.mono _ gc47.ss r3
        replace r7 := RdL.mono gc47.ss r7
        replace r28 := RL.mono gc47.ss r28
        replace r40 := Rep.mono _ gc47.ss r40
        replace eS34 := eS34.trans gc47.ss
        replace g := g.call gc47 gL48
        refine c_nil ?_
        obtain ⟨g49, h⟩ := OP.grd h
        obtain ⟨l50, el50, h⟩ := OP.lt h
        refine c_app g c_27 r28 rfl g49 el50 fun ws51 H_52 g53 c_54 w_55 ot56 => ?_
        replace g := g53
        refine z_next ?_
        exact hN24 _ _ ⟨_, _, _, _, _, rfl, g, eS34, c_54, w_55, h⟩
  · intro σ' H_33 p
    obtain ⟨ws26, passed29, u30, u31, S_32, rfl, gN, eS34, c_27N, r28N, h⟩ := p
    replace g := gN
    have c_27 := c_27N
    have r28 := r28N
    replace r3 := Rep.mono _ eS34 r3
    replace r7 := RdL.mono eS34 r7
    replace h := hB21 _ (OP.forR_nil h)
    refine z_ret (val_var rfl) ?_
    have h := OP.fin hA h
    replace h := EXP.ok h
    exact h _ _ _ _ g z16 c_27.h c_27.s r28

@[irreducible] def m__law_cell_at (script1 : (List Int)) (k4 : Int) : Option Int :=
ifo (decide (k4 < (script1.length : Int))) (
(atI script1 k4).bind fun i5 =>
some i5) (
some 0)
abbrev s__law_cell_at : Stmt := top 35
abbrev sn__law_cell_at : List Str := ["_law_script", "_law_k"]
theorem sc__law_cell_at : FnScope ["_law_script", "_law_k"] ["_law_script", "_law_k"] (defScope (s__law_cell_at)) := ⟨rfl, rfl, rfl, by decide +kernel, rfl, by decide +kernel, by decide +kernel⟩
def p__law_cell_at (K : PySem.W.Frag) (c : Cl) : Sp := fun vs H Q E => ∃ (v2 : V) (script1 : (List Int)) (k4 : Int), vs = [v2, .int k4] ∧ ((qQ (qI (K := K)))).R H v2 script1 ∧ OP (m__law_cell_at script1 k4) (fun r => Q (.int r) H)
theorem ok__law_cell_at (T : Tx K mg) : FnOk P w K mg base CX0 1 T.f__law_cell_at T.d__law_cell_at ["_law_script", "_law_k"] (p__law_cell_at K T.c) := by
  refine T.F__law_cell_at.ok sc__law_cell_at (fun vs H Q E h => by obtain ⟨v2, script1, k4, rfl, _⟩ := h; rfl) (fun cdv A outer s H vs Q E hr h => ?_)
  obtain ⟨v2, script1, k4, rfl, r3, h⟩ := h
  obtain ⟨A_, hA⟩ : ∃ A_, A_ = (fun r : Int => Q (.int r) H) := ⟨_, rfl⟩
  replace h : OP (m__law_cell_at script1 k4) A_ := hA ▸ h
  rw [m__law_cell_at] at h
  refine ⟨_, (pss_cons (ps_if (pt_cmpR op_lt (pe_var (i := 1) rfl (.inl rfl) rfl rfl) (pe_callB (show CallR _ (.builtin "len") (Z.rLenS K) from call_len_seq) rfl T.n_len bt_len (pa_cons (pe_var (i := 0) rfl (.inl rfl) rfl rfl) pa_nil)) (nomark _)) (pss_cons (ps_ret (pe_ix (show IxR _ (rIxL K) from ix_list) (pe_var (i := 0) rfl (.inl rfl) rfl rfl) (pe_var (i := 1) rfl (.inl rfl) rfl rfl) (fun _ _ => rfl)))
      pss_nil) pss_nil)
      (pss_cons (ps_ret pe_int)
      pss_nil)), ?_⟩
  refine z_start (σ := [some v2, some (.int k4)]) rfl ?_
  have g : Grow [] H H H H := Grow.refl (Same.refl _)
  refine z_if (v_test (v_o2 (val_var rfl) (v_len (val_var rfl) (Rep.mono _ g.sh r3)))) (fun hc => ?_) (fun hc => ?_)
  · replace h := OP.ite1 hc h
    obtain ⟨i5, ei5, h⟩ := OP.bind h
    refine z_ret (v_ixI (val_var rfl) (val_var rfl) (Rep.mono _ g.sh r3) ei5) ?_
    have h := OP.fin hA h
    exact h
  · replace h := OP.ite0 hc h
    refine z_nextR ?_
    refine z_ret val_c ?_
    have h := OP.fin hA h
    exact h

@[irreducible] def m__law_recipe (cell1 : Int) (many2 : Int) : Option (Int × Int × Int) :=
grd (0 < many2) <|
grd (0 < many2) <|
grd (0 < many2) <|
some ((cell1 % 7), ((cell1 / 7) % many2), (((((cell1 / 7) % many2) + 1) + (cell1 / 42)) % many2))
abbrev s__law_recipe : Stmt := top 37
abbrev sn__law_recipe : List Str := ["_law_cell", "_law_many"]
theorem sc__law_recipe : FnScope ["_law_cell", "_law_many"] ["_law_cell", "_law_many"] (defScope (s__law_recipe)) := ⟨rfl, rfl, rfl, by decide +kernel, rfl, by decide +kernel, by decide +kernel⟩
def p__law_recipe (K : PySem.W.Frag) (c : Cl) : Sp := fun vs H Q E => ∃ (S : Hp) (cell1 : Int) (many2 : Int), vs = [.int cell1, .int many2] ∧ Same S H ∧ OP (m__law_recipe cell1 many2) (fun r => ∀ (S' H' : Hp) (v : V), Grow [] S H S' H' → ((qT3 (qI (K := K)) (qI (K := K)) (qI (K := K)))).R S' v r → Q v H')
theorem ok__law_recipe (T : Tx K mg) : FnOk P w K mg base CX0 1 T.f__law_recipe T.d__law_recipe ["_law_cell", "_law_many"] (p__law_recipe K T.c) := by
  refine T.F__law_recipe.ok sc__law_recipe (fun vs H Q E h => by obtain ⟨S, cell1, many2, rfl, _⟩ := h; rfl) (fun cdv A outer s H vs Q E hr h => ?_)
  obtain ⟨S, cell1, many2, rfl, gS, h⟩ := h
  obtain ⟨A_, hA⟩ : ∃ A_, A_ = (fun r : (Int × Int × Int) => ∀ (S' H' : Hp) (v : V), Grow [] S H S' H' → ((qT3 (qI (K := K)) (qI (K := K)) (qI (K := K)))).R S' v r → Q v H') := ⟨_, rfl⟩
  replace h : OP (m__law_recipe cell1 many2) A_ := hA ▸ h
  rw [m__law_recipe] at h
  refine ⟨_, (pss_cons (ps_ret (pe_tup (pa_cons (pe_op op_mod (pe_var (i := 0) rfl (.inl rfl) rfl rfl) pe_int) (pa_cons (pe_op op_mod (pe_op op_fdiv (pe_var (i := 0) rfl (.inl rfl) rfl rfl) pe_int) (pe_var (i := 1) rfl (.inl rfl) rfl rfl)) (pa_cons (pe_op op_mod (pe_op op_add (pe_op op_add (pe_op op_mod (pe_op op_fdiv (pe_var (i := 0) rfl (.inl rfl) rfl rfl) pe_int) (pe_var (i := 1) rfl (.inl rfl) rfl rfl)) pe_int) (pe_op op_fdiv (pe_var (i := 0) rfl (.inl rfl) rfl rfl) pe_int)) (pe_var (i := 1) rfl (.inl rfl) rfl rfl)) pa_nil)))))
      pss_nil), ?_⟩
  refine z_start (σ := [some (.int cell1), some (.int many2)]) rfl ?_
  have g : Grow [] S H S H := Grow.refl gS
  refine z_retE ?_
  refine c_tupE fun Q_3 hQ_3 => ?_
  obtain ⟨g4, h⟩ := OP.grd h
  obtain ⟨g5, h⟩ := OP.grd h
  obtain ⟨g6, h⟩ := OP.grd h
  refine c_args (va_cons (v_o2c (val_var rfl) val_c (show (0 : Int) < 7 by decide)) (va_cons (v_o2c (v_o2c (val_var rfl) val_c ⟨by decide, by decide⟩) (val_var rfl) g4) (va_cons (v_o2c (v_o2 (v_o2 (v_o2c (v_o2c (val_var rfl) val_c ⟨by decide, by decide⟩) (val_var rfl) g5) val_c) (v_o2c (val_var rfl) val_c ⟨by decide, by decide⟩)) (val_var rfl) g6) va_nil))) ?_
  refine c_newtup (Q := Q_3) (vs := [(.int (cell1 % 7)), (.int ((cell1 / 7) % many2)), (.int (((((cell1 / 7) % many2) + 1) + (cell1 / 42)) % many2))]) g.sh (show 3 ≤ 1000 by decide) fun p7 S_8 H_9 gs10 ep11 => ?_
  refine q_eq hQ_3 ?_
  replace g := g.call0 gs10
  have r12 : ((qT3 (qI (K := K)) (qI (K := K)) (qI (K := K)))).R S_8 (.ref p7) ((cell1 % 7), ((cell1 / 7) % many2), (((((cell1 / 7) % many2) + 1) + (cell1 / 42)) % many2)) := ⟨p7, _, _, _, rfl, ep11, rfl, rfl, rfl⟩
  have h := OP.fin hA h
  exact h _ _ _ g r12

@[irreducible] def m__law_changes (cell1 : Int) (many2 : Int) : Option (List (Int × (Int × Int × Int))) :=
grd (0 < many2) <|
lt (cell1 % many2) fun lamp4 =>
(m__law_recipe (cell1 / 6) many2).bind fun v7 =>
(ifo ((decide (1 < many2)) && (decide (((cell1 / 6) % 2) = 1))) (
grd (0 < (many2 - 1)) <|
grd (0 < many2) <|
(m__law_recipe (cell1 / 24) many2).bind fun v41 =>
grd (([(lamp4, v7)] : List (Int × (Int × Int × Int))).length < 16777216) <|
lt (([(lamp4, v7)] : List (Int × (Int × Int × Int))) ++ [((((lamp4 + 1) + ((cell1 / 12) % (many2 - 1))) % many2), v41)]) fun l55 =>
some l55) (
some ([(lamp4, v7)] : List (Int × (Int × Int × Int))))).bind (fun changes_here33 =>
some changes_here33)
abbrev s__law_changes : Stmt := top 40
abbrev sn__law_changes : List Str := ["_law_cell", "_law_many", "_law_lamp", "_law_changes_here"]
theorem sc__law_changes : FnScope ["_law_cell", "_law_many", "_law_lamp", "_law_changes_here"] ["_law_cell", "_law_many"] (defScope (s__law_changes)) := ⟨rfl, rfl, rfl, by decide +kernel, rfl, by decide +kernel, by decide +kernel⟩
def p__law_changes (K : PySem.W.Frag) (c : Cl) : Sp := fun vs H Q E => ∃ (S : Hp) (cell1 : Int) (many2 : Int), vs = [.int cell1, .int many2] ∧ Same S H ∧ OP (m__law_changes cell1 many2) (fun r => ∀ (S' H' : Hp) (p : Addr) (ws : List V), Grow [] S H S' H' → H p = none → H' p = some (.lst ws) → S' p = none → RL (qT2 (qI (K := K)) (qT3 (qI (K := K)) (qI (K := K)) (qI (K := K)))) S' ws r → Q (.ref p) H')
theorem ok__law_changes (T : Tx K mg) : FnOk P w K mg base CX0 2 T.f__law_changes T.d__law_changes ["_law_cell", "_law_many"] (p__law_changes K T.c) := by
  refine T.F__law_changes.ok sc__law_changes (fun vs H Q E h => by obtain ⟨S, cell1, many2, rfl, _⟩ := h; rfl) (fun cdv A outer s H vs Q E hr h => ?_)
  obtain ⟨S, cell1, many2, rfl, gS, h⟩ := h
  obtain ⟨A_, hA⟩ : ∃ A_, A_ = (fun r : (List (Int × (Int × Int × Int))) => ∀ (S' H' : Hp) (p : Addr) (ws : List V), Grow [] S H S' H' → H p = none → H' p = some (.lst ws) → S' p = none → RL (qT2 (qI (K := K)) (qT3 (qI (K := K)) (qI (K := K)) (qI (K := K)))) S' ws r → Q (.ref p) H') := ⟨_, rfl⟩
  replace h : OP (m__law_changes cell1 many2) A_ := hA ▸ h
  rw [m__law_changes] at h
  have hr1 : Room 1 _ := hr.mono (by decide)
  refine ⟨_, (pss_cons (ps_set (i := 2) sc__law_changes.nd rfl (.inl rfl) (pe_op op_mod (pe_var (i := 0) rfl (.inl rfl) rfl rfl) (pe_var (i := 1) rfl (.inl rfl) rfl rfl)))
      (pss_cons (ps_set (i := 3) sc__law_changes.nd rfl (.inl rfl) (pe_lst (pa_cons (pe_tup (pa_cons (pe_var (i := 2) rfl (.inl rfl) rfl rfl) (pa_cons (pe_call (ok__law_recipe T) hr1 rfl T.m__law_recipe T.F__law_recipe.kp T.b__law_recipe .nil pass0 (pa_cons (pe_op op_fdiv (pe_var (i := 0) rfl (.inl rfl) rfl rfl) pe_int) (pa_cons (pe_var (i := 1) rfl (.inl rfl) rfl rfl) pa_nil))) pa_nil))) pa_nil)))
      (pss_cons (ps_if (PW.pt (pw_and (pt_cmpR op_gt (pe_var (i := 1) rfl (.inl rfl) rfl rfl) pe_int (nomark _)) (pw_and1 (pt_cmpR op_eq (pe_op op_mod (pe_op op_fdiv (pe_var (i := 0) rfl (.inl rfl) rfl rfl) pe_int) pe_int) pe_int (nomark _))))) (pss_cons (ps_expr (pe_bm PySem.F.plainAttrs_list PySem.F.slot_list_append PySem.F.type_list_append mt_append (pe_var (i := 3) rfl (.inl rfl) rfl rfl) (pa_cons (pe_tup (pa_cons (pe_op op_mod (pe_op op_add (pe_op op_add (pe_var (i := 2) rfl (.inl rfl) rfl rfl) pe_int) (pe_op op_mod (pe_op op_fdiv (pe_var (i := 0) rfl (.inl rfl) rfl rfl) pe_int) (pe_op op_sub (pe_var (i := 1) rfl (.inl rfl) rfl rfl) pe_int))) (pe_var (i := 1) rfl (.inl rfl) rfl rfl)) (pa_cons (pe_call (ok__law_recipe T) hr1 rfl T.m__law_recipe T.F__law_recipe.kp T.b__law_recipe .nil pass0 (pa_cons (pe_op op_fdiv (pe_var (i := 0) rfl (.inl rfl) rfl rfl) pe_int) (pa_cons (pe_var (i := 1) rfl (.inl rfl) rfl rfl) pa_nil))) pa_nil))) pa_nil)))
      pss_nil) pss_nil)
      (pss_cons (ps_ret (pe_var (i := 3) rfl (.inl rfl) rfl rfl))
      pss_nil)))), ?_⟩
  refine z_start (σ := [some (.int cell1), some (.int many2), none, none]) rfl ?_
  have g : Grow [] S H S H := Grow.refl gS
  obtain ⟨g3, h⟩ := OP.grd h
  obtain ⟨lamp4, elamp4, h⟩ := OP.lt h
  refine z_set (w := (.int lamp4)) (σ' := [some (.int cell1), some (.int many2), some (.int lamp4), none]) (v_o2c (val_var rfl) (val_var rfl) g3) (congrArg V.int elamp4) rfl ?_
  refine z_setE ?_
  refine c_lstE fun Q_5 hQ_5 => ?_
  refine c_cons ?_
  refine c_tupE fun Q_6 hQ_6 => ?_
  refine c_cons ?_
  refine c_val (val_var rfl) ?_
  refine c_cons ?_
  refine c_call ?_
  refine c_args (va_cons (v_o2c (val_var rfl) val_c ⟨by decide, by decide⟩) (va_cons (val_var rfl) va_nil)) ?_
  have gL13 : ∀ l ∈ [], H l = none ∨ l ∈ [] := LM0
  refine ⟨S, _, _, rfl, g.sh, (OP.of h).mono fun v7 h S_8 H_9 v11 gc10 r12 => ?_⟩
  replace g := g.call gc10 gL13
  refine c_nil ?_
  refine c_newtup (Q := Q_6) (vs := [(.int lamp4), v11]) g.sh (show 2 ≤ 1000 by decide) fun p14 S_15 H_16 gs17 ep18 => ?_
  refine q_eq hQ_6 ?_
  replace r12 := Rep.mono _ gs17.ss r12
  replace g := g.call0 gs17
  have r19 : ((qT2 (qI (K := K)) (qT3 (qI (K := K)) (qI (K := K)) (qI (K := K))))).R S_15 (.ref p14) (lamp4, v7) := ⟨p14, _, _, rfl, ep18, rfl, r12⟩
  refine c_nil ?_
  refine c_newlst (Q := Q_5) (vs := [(.ref p14)]) (show 1 ≤ 1000 by decide) fun p20 H_21 e22 np23 ep24 => ?_
  refine q_eq hQ_5 ?_
  have w_25 : RL (qT2 (qI (K := K)) (qT3 (qI (K := K)) (qI (K := K)) (qI (K := K)))) S_15 [(.ref p14)] ([(lamp4, v7)] : List (Int × (Int × Int × Int))) := (.cons r19 .nil)
  have z27 := g.hnone np23
  have c_26 : Cel [] H S_15 H_21 p20 (.lst [(.ref p14)]) := Cel.own g e22 np23 ep24 rfl
  replace g := g.ext e22
  refine g_name (σ' := [some (.int cell1), some (.int many2), some (.int lamp4), some (.ref p20)]) rfl ?_
  obtain ⟨B28, h, hB29⟩ := OP.cut h
  refine z_ifj (fun σ' H' => ∃ (ws30 : List V) (changes_here33 : (List (Int × (Int × Int × Int)))) (S_34 : Hp), σ' = [some (.int cell1), some (.int many2), some (.int lamp4), some (.ref p20)] ∧ Grow [] S H S_34 H' ∧ Same S_15 S_34 ∧ Cel [] H S_34 H' p20 (.lst ws30) ∧ RL (qT2 (qI (K := K)) (qT3 (qI (K := K)) (qI (K := K)) (qI (K := K)))) S_34 ws30 changes_here33 ∧ B28 changes_here33) (a_and (v_test (v_o2 (val_var rfl) val_c)) (v_test (v_eqI (v_o2c (v_o2c (val_var rfl) val_c ⟨by decide, by decide⟩) val_c (show (0 : Int) < 2 by decide)) val_c))) ?_ (fun hc N hN => ?_) (fun hc N hN => ?_)
  · intro σ' H_35 p
    obtain ⟨ws30, changes_here33, S_34, rfl, gN, eS36, c_31N, r32N, h⟩ := p
    replace g := gN
    have c_31 := c_31N
    have r32 := r32N
    replace h := hB29 _ h
    refine z_ret (val_var rfl) ?_
    have h := OP.fin hA h
    exact h _ _ _ _ g z27 c_31.h c_31.s r32
  · replace h := OP.ite1 hc h
    have sn37 := Same.refl S_15
    refine z_dropE ?_
    refine c_bm (val_var rfl) (tyL c_26.h) ?_
    refine c_cons ?_
    refine c_tupE fun Q_38 hQ_38 => ?_
    refine c_cons ?_
    obtain ⟨g39, h⟩ := OP.grd h
    obtain ⟨g40, h⟩ := OP.grd h
    refine c_val (v_o2c (v_o2 (v_o2 (val_var rfl) val_c) (v_o2c (v_o2c (val_var rfl) val_c ⟨by decide, by decide⟩) (v_o2 (val_var rfl) val_c) g39)) (val_var rfl) g40) ?_
    refine c_cons ?_
    refine c_call ?_
    refine c_args (va_cons (v_o2c (val_var rfl) val_c ⟨by decide, by decide⟩) (va_cons (val_var rfl) va_nil)) ?_
    have gL47 : ∀ l ∈ [], H l = none ∨ l ∈ [] := LM0
    refine ⟨S_15, _, _, rfl, g.sh, (OP.of h).mono fun v41 h S_42 H_43 v45 gc44 r46 => ?_⟩
    replace c_26 := c_26.call gc44 NM0
    replace w_25 := RL.mono gc44.ss w_25
    replace sn37 := sn37.trans gc44.ss
    replace g := g.call gc44 gL47
    refine c_nil ?_
    refine c_newtup (Q := Q_38) (vs := [(.int (((lamp4 + 1) + ((cell1 / 12) % (many2 - 1))) % many2)), v45]) g.sh (show 2 ≤ 1000 by decide) fun p48 S_49 H_50 gs51 ep52 => ?_
    refine q_eq hQ_38 ?_
    replace w_25 := RL.mono gs51.ss w_25
    replace r46 := Rep.mono _ gs51.ss r46
    replace sn37 := sn37.trans gs51.ss
    replace c_26 := c_26.call0 gs51
    replace g := g.call0 gs51
    have r53 : ((qT2 (qI (K := K)) (qT3 (qI (K := K)) (qI (K := K)) (qI (K := K))))).R S_49 (.ref p48) ((((lamp4 + 1) + ((cell1 / 12) % (many2 - 1))) % many2), v41) := ⟨p48, _, _, rfl, ep52, rfl, r46⟩
    refine c_nil ?_
    obtain ⟨g54, h⟩ := OP.grd h
    obtain ⟨l55, el55, h⟩ := OP.lt h
    refine c_app g c_26 w_25 r53 g54 el55 fun ws56 H_57 g58 c_59 w_60 ot61 => ?_
    replace g := g58
    refine z_next ?_
    exact hN _ _ ⟨_, _, _, rfl, g, sn37, c_59, w_60, h⟩
  · replace h := OP.ite0 hc h
    have sn62 := Same.refl S_15
    refine z_next ?_
    exact hN _ _ ⟨_, _, _, rfl, g, sn62, c_26, w_25, h⟩

@[irreducible] def m_Lamp___init__ (at_10 : Int) : Option Int :=
some at_10
abbrev s_Lamp___init__ : Stmt := inClass (top 27) 0
abbrev sn_Lamp___init__ : List Str := ["self", "at"]
theorem sc_Lamp___init__ : FnScope ["self", "at"] ["self", "at"] (defScope (s_Lamp___init__)) := ⟨rfl, rfl, rfl, by decide +kernel, rfl, by decide +kernel, by decide +kernel⟩
def p_Lamp___init__ (K : PySem.W.Frag) (c : Cl) : Sp := fun vs H Q E => ∃ (S : Hp) (l2 : Addr) (dx3 : Addr) (C7 : Addr) (at_10 : Int), vs = [.ref l2, .int at_10] ∧ Same S H ∧ H l2 = some (.ins C7 dx3 []) ∧ S l2 = none ∧ Cls K C7 ∧ NoAttr K C7 "at" ∧ OP (m_Lamp___init__ at_10) (fun r => ∀ (S' H' : Hp), Grow [l2] S H S' H' → H' l2 = some (.ins C7 dx3 [("at", (.int r))]) → Q .non H')
theorem ok_Lamp___init__ (T : Tx K mg) : FnOk P w K mg base CX0 1 T.f_Lamp___init__ T.d_Lamp___init__ ["self", "at"] (p_Lamp___init__ K T.c) := by
  refine T.F_Lamp___init__.ok sc_Lamp___init__ (fun vs H Q E h => by obtain ⟨S, l2, dx3, C7, at_10, rfl, _⟩ := h; rfl) (fun cdv A outer s H vs Q E hr h => ?_)
  obtain ⟨S, l2, dx3, C7, at_10, rfl, gS, h_4, h_5, lC8, nA9, h⟩ := h
  obtain ⟨A_, hA⟩ : ∃ A_, A_ = (fun r : Int => ∀ (S' H' : Hp), Grow [l2] S H S' H' → H' l2 = some (.ins C7 dx3 [("at", (.int r))]) → Q .non H') := ⟨_, rfl⟩
  replace h : OP (m_Lamp___init__ at_10) A_ := hA ▸ h
  rw [m_Lamp___init__] at h
  refine ⟨_, (pss_cons (ps_fld (pe_var (i := 0) rfl (.inl rfl) rfl rfl) (pe_var (i := 1) rfl (.inl rfl) rfl rfl) rfl)
      pss_nil), ?_⟩
  refine z_start (σ := [some (.ref l2), some (.int at_10)]) rfl ?_
  have g : Grow [l2] S H S H := Grow.refl gS
  have c_6 : Cel [l2] H S H l2 (.ins C7 dx3 []) := ⟨h_4, h_5, .inr (.head _), rfl⟩
  refine z_fldE ?_
  refine c_val (val_var rfl) ?_
  refine c_setF (fs' := [("at", (.int at_10))]) g c_6 (val_var rfl) lC8 nA9 (show 0 < 1000 by decide) rfl fun H_11 g12 c_13 ot14 => ?_
  replace g := g12
  refine z_next ?_
  have h := OP.fin hA h
  exact h _ _ g c_13.h

@[irreducible] def m_Machine___init__ (names7 : (List Str)) (starts10 : (List Int)) (bads13 : (List O_Formula)) (moves16 : (List O_Move)) : Option O_Machine :=
some (O_Machine.mk names7 starts10 bads13 moves16)
abbrev s_Machine___init__ : Stmt := inClass (top 23) 0
abbrev sn_Machine___init__ : List Str := ["self", "names", "starts", "bads", "moves"]
theorem sc_Machine___init__ : FnScope ["self", "names", "starts", "bads", "moves"] ["self", "names", "starts", "bads", "moves"] (defScope (s_Machine___init__)) := ⟨rfl, rfl, rfl, by decide +kernel, rfl, by decide +kernel, by decide +kernel⟩
def p_Machine___init__ (K : PySem.W.Frag) (c : Cl) : Sp := fun vs H Q E => ∃ (S : Hp) (l2 : Addr) (dx3 : Addr) (v8 : V) (names7 : (List Str)) (v11 : V) (starts10 : (List Int)) (v14 : V) (bads13 : (List O_Formula)) (v17 : V) (moves16 : (List O_Move)), vs = [.ref l2, v8, v11, v14, v17] ∧ Same S H ∧ H l2 = some (.ins c.Machine dx3 []) ∧ S l2 = none ∧ RdL (qS (K := K)) [l2] S H v8 names7 ∧ RdL (qI (K := K)) [l2] S H v11 starts10 ∧ RdL (q_Formula (K := K) c) [l2] S H v14 bads13 ∧ RdL (q_Move (K := K) c) [l2] S H v17 moves16 ∧ OP (m_Machine___init__ names7 starts10 bads13 moves16) (fun r => ∀ (S' H' : Hp) (w0 : V) (w1 : V) (w2 : V) (w3 : V), Grow [l2] S H S' H' → H' l2 = some (.ins c.Machine dx3 [("names", w0), ("starts", w1), ("bads", w2), ("moves", w3)]) → ((qL (qS (K := K)))).R S' w0 r.names → ((qL (qI (K := K)))).R S' w1 r.starts → ((qL (q_Formula (K := K) c))).R S' w2 r.bads → ((qL (q_Move (K := K) c))).R S' w3 r.moves → Q .non H')
theorem ok_Machine___init__ (T : Tx K mg) : FnOk P w K mg base CX0 1 T.f_Machine___init__ T.d_Machine___init__ ["self", "names", "starts", "bads", "moves"] (p_Machine___init__ K T.c) := by
  refine T.F_Machine___init__.ok sc_Machine___init__ (fun vs H Q E h => by obtain ⟨S, l2, dx3, v8, names7, v11, starts10, v14, bads13, v17, moves16, rfl, _⟩ := h; rfl) (fun cdv A outer s H vs Q E hr h => ?_)
  obtain ⟨S, l2, dx3, v8, names7, v11, starts10, v14, bads13, v17, moves16, rfl, gS, h_4, h_5, r9, r12, r15, r18, h⟩ := h
  obtain ⟨A_, hA⟩ : ∃ A_, A_ = (fun r : O_Machine => ∀ (S' H' : Hp) (w0 : V) (w1 : V) (w2 : V) (w3 : V), Grow [l2] S H S' H' → H' l2 = some (.ins T.c.Machine dx3 [("names", w0), ("starts", w1), ("bads", w2), ("moves", w3)]) → ((qL (qS (K := K)))).R S' w0 r.names → ((qL (qI (K := K)))).R S' w1 r.starts → ((qL (q_Formula (K := K) T.c))).R S' w2 r.bads → ((qL (q_Move (K := K) T.c))).R S' w3 r.moves → Q .non H') := ⟨_, rfl⟩
  replace h : OP (m_Machine___init__ names7 starts10 bads13 moves16) A_ := hA ▸ h
  rw [m_Machine___init__] at h
  refine ⟨_, (pss_cons (ps_fld (pe_var (i := 0) rfl (.inl rfl) rfl rfl) (pe_callTy call_list_of rfl T.n_list bt_list (pa_cons (pe_var (i := 1) rfl (.inl rfl) rfl rfl) pa_nil)) rfl)
      (pss_cons (ps_fld (pe_var (i := 0) rfl (.inl rfl) rfl rfl) (pe_callTy call_list_of rfl T.n_list bt_list (pa_cons (pe_var (i := 2) rfl (.inl rfl) rfl rfl) pa_nil)) rfl)
      (pss_cons (ps_fld (pe_var (i := 0) rfl (.inl rfl) rfl rfl) (pe_callTy call_list_of rfl T.n_list bt_list (pa_cons (pe_var (i := 3) rfl (.inl rfl) rfl rfl) pa_nil)) rfl)
      (pss_cons (ps_fld (pe_var (i := 0) rfl (.inl rfl) rfl rfl) (pe_callTy call_list_of rfl T.n_list bt_list (pa_cons (pe_var (i := 4) rfl (.inl rfl) rfl rfl) pa_nil)) rfl)
      pss_nil)))), ?_⟩
  refine z_start (σ := [some (.ref l2), some v8, some v11, some v14, some v17]) rfl ?_
  have g : Grow [l2] S H S H := Grow.refl gS
  have c_6 : Cel [l2] H S H l2 (.ins T.c.Machine dx3 []) := ⟨h_4, h_5, .inr (.head _), rfl⟩
  refine z_fldE ?_
  refine c_cbE fun Q_19 hQ_19 => ?_
  refine c_args (va_cons (val_var rfl) va_nil) ?_
  refine (l_list (Q := Q_19) (LS.rd g r9) fun p20 ws21 H_22 e23 np24 ep25 rw26 => ?_)
  refine q_eq hQ_19 ?_
  have ne29 := c_6.ne np24
  have z28 := g.hnone np24
  have c_27 : Cel [l2] H S H_22 p20 (.lst ws21) := Cel.own g e23 np24 ep25 rfl
  replace c_6 := c_6.ext e23
  replace g := g.ext e23
  obtain ⟨S_30, g31, eS32, r33, ot34⟩ := c_freeze g c_27 z28 rw26
  replace c_6 := ot34 _ _ (by first | assumption | exact Ne.symm (by assumption)) c_6
  replace r9 := RdL.mono eS32 r9
  replace r12 := RdL.mono eS32 r12
  replace r15 := RdL.mono eS32 r15
  replace r18 := RdL.mono eS32 r18
  replace rw26 := RL.mono eS32 rw26
  replace g := g31
  refine c_setF (fs' := [("names", (.ref p20))]) g c_6 (val_var rfl) T.l_Machine T.a_Machine_names (show 0 < 1000 by decide) rfl fun H_35 g36 c_37 ot38 => ?_
  replace g := g36
  refine z_fldE ?_
  refine c_cbE fun Q_39 hQ_39 => ?_
  refine c_args (va_cons (val_var rfl) va_nil) ?_
  refine (l_list (Q := Q_39) (LS.rd g r12) fun p40 ws41 H_42 e43 np44 ep45 rw46 => ?_)
  refine q_eq hQ_39 ?_
  have ne49 := c_37.ne np44
  have z48 := g.hnone np44
  have c_47 : Cel [l2] H S_30 H_42 p40 (.lst ws41) := Cel.own g e43 np44 ep45 rfl
  replace c_37 := c_37.ext e43
  replace g := g.ext e43
  obtain ⟨S_50, g51, eS52, r53, ot54⟩ := c_freeze g c_47 z48 rw46
  replace c_37 := ot54 _ _ (by first | assumption | exact Ne.symm (by assumption)) c_37
  replace r33 := Rep.mono _ eS52 r33
  replace r9 := RdL.mono eS52 r9
  replace r12 := RdL.mono eS52 r12
  replace r15 := RdL.mono eS52 r15
  replace r18 := RdL.mono eS52 r18
  replace rw46 := RL.mono eS52 rw46
  replace g := g51
  refine c_setF (fs' := [("names", (.ref p20)), ("starts", (.ref p40))]) g c_37 (val_var rfl) T.l_Machine T.a_Machine_starts (show 1 < 1000 by decide) rfl fun H_55 g56 c_57 ot58 => ?_
  replace g := g56
  refine z_fldE ?_
  refine c_cbE fun Q_59 hQ_59 => ?_
  refine c_args (va_cons (val_var rfl) va_nil) ?_
  refine (l_list (Q := Q_59) (LS.rd g r15) fun p60 ws61 H_62 e63 np64 ep65 rw66 => ?_)
  refine q_eq hQ_59 ?_
  have ne69 := c_57.ne np64
  have z68 := g.hnone np64
  have c_67 : Cel [l2] H S_50 H_62 p60 (.lst ws61) := Cel.own g e63 np64 ep65 rfl
  replace c_57 := c_57.ext e63
  replace g := g.ext e63
  obtain ⟨S_70, g71, eS72, r73, ot74⟩ := c_freeze g c_67 z68 rw66
  replace c_57 := ot74 _ _ (by first | assumption | exact Ne.symm (by assumption)) c_57
  replace r33 := Rep.mono _ eS72 r33
  replace r53 := Rep.mono _ eS72 r53
  replace r9 := RdL.mono eS72 r9
  replace r12 := RdL.mono eS72 r12
  replace r15 := RdL.mono eS72 r15
  replace r18 := RdL.mono eS72 r18
  replace rw66 := RL.mono eS72 rw66
  replace g := g71
  refine c_setF (fs' := [("names", (.ref p20)), ("starts", (.ref p40)), ("bads", (.ref p60))]) g c_57 (val_var rfl) T.l_Machine T.a_Machine_bads (show 2 < 1000 by decide) rfl fun H_75 g76 c_77 ot78 => ?_
  replace g := g76
  refine z_fldE ?_
  refine c_cbE fun Q_79 hQ_79 => ?_
  refine c_args (va_cons (val_var rfl) va_nil) ?_
  refine (l_list (Q := Q_79) (LS.rd g r18) fun p80 ws81 H_82 e83 np84 ep85 rw86 => ?_)
  refine q_eq hQ_79 ?_
  have ne89 := c_77.ne np84
  have z88 := g.hnone np84
  have c_87 : Cel [l2] H S_70 H_82 p80 (.lst ws81) := Cel.own g e83 np84 ep85 rfl
  replace c_77 := c_77.ext e83
  replace g := g.ext e83
  obtain ⟨S_90, g91, eS92, r93, ot94⟩ := c_freeze g c_87 z88 rw86
  replace c_77 := ot94 _ _ (by first | assumption | exact Ne.symm (by assumption)) c_77
  replace r33 := Rep.mono _ eS92 r33
  replace r53 := Rep.mono _ eS92 r53
  replace r73 := Rep.mono _ eS92 r73
  replace r9 := RdL.mono eS92 r9
  replace r12 := RdL.mono eS92 r12
  replace r15 := RdL.mono eS92 r15
  replace r18 := RdL.mono eS92 r18
  replace rw86 := RL.mono eS92 rw86
  replace g := g91
  refine c_setF (fs' := [("names", (.ref p20)), ("starts", (.ref p40)), ("bads", (.ref p60)), ("moves", (.ref p80))]) g c_77 (val_var rfl) T.l_Machine T.a_Machine_moves (show 3 < 1000 by decide) rfl fun H_95 g96 c_97 ot98 => ?_
  replace g := g96
  refine z_next ?_
  have h := OP.fin hA h
  exact h _ _ _ _ _ _ g c_97.h r33 r53 r73 r93

@[irreducible] def m_Move___init__ (guard7 : O_Formula) (changes10 : (List (Int × O_Formula))) : Option O_Move :=
some (O_Move.mk guard7 changes10)
abbrev s_Move___init__ : Stmt := inClass (top 22) 0
abbrev sn_Move___init__ : List Str := ["self", "guard", "changes"]
theorem sc_Move___init__ : FnScope ["self", "guard", "changes"] ["self", "guard", "changes"] (defScope (s_Move___init__)) := ⟨rfl, rfl, rfl, by decide +kernel, rfl, by decide +kernel, by decide +kernel⟩
def p_Move___init__ (K : PySem.W.Frag) (c : Cl) : Sp := fun vs H Q E => ∃ (S : Hp) (l2 : Addr) (dx3 : Addr) (v8 : V) (guard7 : O_Formula) (v11 : V) (changes10 : (List (Int × O_Formula))), vs = [.ref l2, v8, v11] ∧ Same S H ∧ H l2 = some (.ins c.Move dx3 []) ∧ S l2 = none ∧ ((q_Formula (K := K) c)).R S v8 guard7 ∧ RdL (qT2 (qI (K := K)) (q_Formula (K := K) c)) [l2] S H v11 changes10 ∧ OP (m_Move___init__ guard7 changes10) (fun r => ∀ (S' H' : Hp) (w0 : V) (w1 : V), Grow [l2] S H S' H' → H' l2 = some (.ins c.Move dx3 [("guard", w0), ("changes", w1)]) → ((q_Formula (K := K) c)).R S' w0 r.guard → ((qL (qT2 (qI (K := K)) (q_Formula (K := K) c)))).R S' w1 r.changes → Q .non H')
theorem ok_Move___init__ (T : Tx K mg) : FnOk P w K mg base CX0 1 T.f_Move___init__ T.d_Move___init__ ["self", "guard", "changes"] (p_Move___init__ K T.c) := by
  refine T.F_Move___init__.ok sc_Move___init__ (fun vs H Q E h => by obtain ⟨S, l2, dx3, v8, guard7, v11, changes10, rfl, _⟩ := h; rfl) (fun cdv A outer s H vs Q E hr h => ?_)
  obtain ⟨S, l2, dx3, v8, guard7, v11, changes10, rfl, gS, h_4, h_5, r9, r12, h⟩ := h
  obtain ⟨A_, hA⟩ : ∃ A_, A_ = (fun r : O_Move => ∀ (S' H' : Hp) (w0 : V) (w1 : V), Grow [l2] S H S' H' → H' l2 = some (.ins T.c.Move dx3 [("guard", w0), ("changes", w1)]) → ((q_Formula (K := K) T.c)).R S' w0 r.guard → ((qL (qT2 (qI (K := K)) (q_Formula (K := K) T.c)))).R S' w1 r.changes → Q .non H') := ⟨_, rfl⟩
  replace h : OP (m_Move___init__ guard7 changes10) A_ := hA ▸ h
  rw [m_Move___init__] at h
  refine ⟨_, (pss_cons (ps_fld (pe_var (i := 0) rfl (.inl rfl) rfl rfl) (pe_var (i := 1) rfl (.inl rfl) rfl rfl) rfl)
      (pss_cons (ps_fld (pe_var (i := 0) rfl (.inl rfl) rfl rfl) (pe_callTy call_list_of rfl T.n_list bt_list (pa_cons (pe_var (i := 2) rfl (.inl rfl) rfl rfl) pa_nil)) rfl)
      pss_nil)), ?_⟩
  refine z_start (σ := [some (.ref l2), some v8, some v11]) rfl ?_
  have g : Grow [l2] S H S H := Grow.refl gS
  have c_6 : Cel [l2] H S H l2 (.ins T.c.Move dx3 []) := ⟨h_4, h_5, .inr (.head _), rfl⟩
  refine z_fldE ?_
  refine c_val (val_var rfl) ?_
  refine c_setF (fs' := [("guard", v8)]) g c_6 (val_var rfl) T.l_Move T.a_Move_guard (show 0 < 1000 by decide) rfl fun H_13 g14 c_15 ot16 => ?_
  replace g := g14
  refine z_fldE ?_
  refine c_cbE fun Q_17 hQ_17 => ?_
  refine c_args (va_cons (val_var rfl) va_nil) ?_
  refine (l_list (Q := Q_17) (LS.rd g r12) fun p18 ws19 H_20 e21 np22 ep23 rw24 => ?_)
  refine q_eq hQ_17 ?_
  have ne27 := c_15.ne np22
  have z26 := g.hnone np22
  have c_25 : Cel [l2] H S H_20 p18 (.lst ws19) := Cel.own g e21 np22 ep23 rfl
  replace c_15 := c_15.ext e21
  replace g := g.ext e21
  obtain ⟨S_28, g29, eS30, r31, ot32⟩ := c_freeze g c_25 z26 rw24
  replace c_15 := ot32 _ _ (by first | assumption | exact Ne.symm (by assumption)) c_15
  replace r9 := Rep.mono _ eS30 r9
  replace r12 := RdL.mono eS30 r12
  replace rw24 := RL.mono eS30 rw24
  replace g := g29
  refine c_setF (fs' := [("guard", v8), ("changes", (.ref p18))]) g c_15 (val_var rfl) T.l_Move T.a_Move_changes (show 1 < 1000 by decide) rfl fun H_33 g34 c_35 ot36 => ?_
  replace g := g34
  refine z_next ?_
  have h := OP.fin hA h
  exact h _ _ _ _ g c_35.h r9 r31

@[irreducible] def m_Joined___init__ (parts10 : (List O_Formula)) : Option (List O_Formula) :=
some parts10
abbrev s_Joined___init__ : Stmt := inClass (top 30) 0
abbrev sn_Joined___init__ : List Str := ["self", "parts"]
theorem sc_Joined___init__ : FnScope ["self", "parts"] ["self", "parts"] (defScope (s_Joined___init__)) := ⟨rfl, rfl, rfl, by decide +kernel, rfl, by decide +kernel, by decide +kernel⟩
def p_Joined___init__ (K : PySem.W.Frag) (c : Cl) : Sp := fun vs H Q E => ∃ (S : Hp) (l2 : Addr) (dx3 : Addr) (C7 : Addr) (v11 : V) (parts10 : (List O_Formula)), vs = [.ref l2, v11] ∧ Same S H ∧ H l2 = some (.ins C7 dx3 []) ∧ S l2 = none ∧ Cls K C7 ∧ NoAttr K C7 "parts" ∧ RdL (q_Formula (K := K) c) [l2] S H v11 parts10 ∧ OP (m_Joined___init__ parts10) (fun r => ∀ (S' H' : Hp) (w0 : V), Grow [l2] S H S' H' → H' l2 = some (.ins C7 dx3 [("parts", w0)]) → ((qL (q_Formula (K := K) c))).R S' w0 r → Q .non H')
theorem ok_Joined___init__ (T : Tx K mg) : FnOk P w K mg base CX0 1 T.f_Joined___init__ T.d_Joined___init__ ["self", "parts"] (p_Joined___init__ K T.c) := by
  refine T.F_Joined___init__.ok sc_Joined___init__ (fun vs H Q E h => by obtain ⟨S, l2, dx3, C7, v11, parts10, rfl, _⟩ := h; rfl) (fun cdv A outer s H vs Q E hr h => ?_)
  obtain ⟨S, l2, dx3, C7, v11, parts10, rfl, gS, h_4, h_5, lC8, nA9, r12, h⟩ := h
  obtain ⟨A_, hA⟩ : ∃ A_, A_ = (fun r : (List O_Formula) => ∀ (S' H' : Hp) (w0 : V), Grow [l2] S H S' H' → H' l2 = some (.ins C7 dx3 [("parts", w0)]) → ((qL (q_Formula (K := K) T.c))).R S' w0 r → Q .non H') := ⟨_, rfl⟩
  replace h : OP (m_Joined___init__ parts10) A_ := hA ▸ h
  rw [m_Joined___init__] at h
  refine ⟨_, (pss_cons (ps_fld (pe_var (i := 0) rfl (.inl rfl) rfl rfl) (pe_callTy call_list_of rfl T.n_list bt_list (pa_cons (pe_var (i := 1) rfl (.inl rfl) rfl rfl) pa_nil)) rfl)
      pss_nil), ?_⟩
  refine z_start (σ := [some (.ref l2), some v11]) rfl ?_
  have g : Grow [l2] S H S H := Grow.refl gS
  have c_6 : Cel [l2] H S H l2 (.ins C7 dx3 []) := ⟨h_4, h_5, .inr (.head _), rfl⟩
  refine z_fldE ?_
  refine c_cbE fun Q_13 hQ_13 => ?_
  refine c_args (va_cons (val_var rfl) va_nil) ?_
  refine (l_list (Q := Q_13) (LS.rd g r12) fun p14 ws15 H_16 e17 np18 ep19 rw20 => ?_)
  refine q_eq hQ_13 ?_
  have ne23 := c_6.ne np18
  have z22 := g.hnone np18
  have c_21 : Cel [l2] H S H_16 p14 (.lst ws15) := Cel.own g e17 np18 ep19 rfl
  replace c_6 := c_6.ext e17
  replace g := g.ext e17
  obtain ⟨S_24, g25, eS26, r27, ot28⟩ := c_freeze g c_21 z22 rw20
  replace c_6 := ot28 _ _ (by first | assumption | exact Ne.symm (by assumption)) c_6
  replace r12 := RdL.mono eS26 r12
  replace rw20 := RL.mono eS26 rw20
  replace g := g25
  refine c_setF (fs' := [("parts", (.ref p14))]) g c_6 (val_var rfl) lC8 nA9 (show 0 < 1000 by decide) rfl fun H_29 g30 c_31 ot32 => ?_
  replace g := g30
  refine z_next ?_
  have h := OP.fin hA h
  exact h _ _ _ g c_31.h r27

@[irreducible] def m_Not___init__ (part10 : O_Formula) : Option O_Formula :=
some part10
abbrev s_Not___init__ : Stmt := inClass (top 29) 0
abbrev sn_Not___init__ : List Str := ["self", "part"]
theorem sc_Not___init__ : FnScope ["self", "part"] ["self", "part"] (defScope (s_Not___init__)) := ⟨rfl, rfl, rfl, by decide +kernel, rfl, by decide +kernel, by decide +kernel⟩
def p_Not___init__ (K : PySem.W.Frag) (c : Cl) : Sp := fun vs H Q E => ∃ (S : Hp) (l2 : Addr) (dx3 : Addr) (C7 : Addr) (v11 : V) (part10 : O_Formula), vs = [.ref l2, v11] ∧ Same S H ∧ H l2 = some (.ins C7 dx3 []) ∧ S l2 = none ∧ Cls K C7 ∧ NoAttr K C7 "part" ∧ ((q_Formula (K := K) c)).R S v11 part10 ∧ OP (m_Not___init__ part10) (fun r => ∀ (S' H' : Hp) (w0 : V), Grow [l2] S H S' H' → H' l2 = some (.ins C7 dx3 [("part", w0)]) → ((q_Formula (K := K) c)).R S' w0 r → Q .non H')
theorem ok_Not___init__ (T : Tx K mg) : FnOk P w K mg base CX0 1 T.f_Not___init__ T.d_Not___init__ ["self", "part"] (p_Not___init__ K T.c) := by
  refine T.F_Not___init__.ok sc_Not___init__ (fun vs H Q E h => by obtain ⟨S, l2, dx3, C7, v11, part10, rfl, _⟩ := h; rfl) (fun cdv A outer s H vs Q E hr h => ?_)
  obtain ⟨S, l2, dx3, C7, v11, part10, rfl, gS, h_4, h_5, lC8, nA9, r12, h⟩ := h
  obtain ⟨A_, hA⟩ : ∃ A_, A_ = (fun r : O_Formula => ∀ (S' H' : Hp) (w0 : V), Grow [l2] S H S' H' → H' l2 = some (.ins C7 dx3 [("part", w0)]) → ((q_Formula (K := K) T.c)).R S' w0 r → Q .non H') := ⟨_, rfl⟩
  replace h : OP (m_Not___init__ part10) A_ := hA ▸ h
  rw [m_Not___init__] at h
  refine ⟨_, (pss_cons (ps_fld (pe_var (i := 0) rfl (.inl rfl) rfl rfl) (pe_var (i := 1) rfl (.inl rfl) rfl rfl) rfl)
      pss_nil), ?_⟩
  refine z_start (σ := [some (.ref l2), some v11]) rfl ?_
  have g : Grow [l2] S H S H := Grow.refl gS
  have c_6 : Cel [l2] H S H l2 (.ins C7 dx3 []) := ⟨h_4, h_5, .inr (.head _), rfl⟩
  refine z_fldE ?_
  refine c_val (val_var rfl) ?_
  refine c_setF (fs' := [("part", v11)]) g c_6 (val_var rfl) lC8 nA9 (show 0 < 1000 by decide) rfl fun H_13 g14 c_15 ot16 => ?_
  replace g := g14
  refine z_next ?_
  have h := OP.fin hA h
  exact h _ _ _ g c_15.h r12

@[irreducible] def m_Sure___init__ (truth10 : Bool) : Option Bool :=
some truth10
abbrev s_Sure___init__ : Stmt := inClass (top 28) 0
abbrev sn_Sure___init__ : List Str := ["self", "truth"]
theorem sc_Sure___init__ : FnScope ["self", "truth"] ["self", "truth"] (defScope (s_Sure___init__)) := ⟨rfl, rfl, rfl, by decide +kernel, rfl, by decide +kernel, by decide +kernel⟩
def p_Sure___init__ (K : PySem.W.Frag) (c : Cl) : Sp := fun vs H Q E => ∃ (S : Hp) (l2 : Addr) (dx3 : Addr) (C7 : Addr) (truth10 : Bool), vs = [.ref l2, .bl truth10] ∧ Same S H ∧ H l2 = some (.ins C7 dx3 []) ∧ S l2 = none ∧ Cls K C7 ∧ NoAttr K C7 "truth" ∧ OP (m_Sure___init__ truth10) (fun r => ∀ (S' H' : Hp), Grow [l2] S H S' H' → H' l2 = some (.ins C7 dx3 [("truth", (.bl r))]) → Q .non H')
theorem ok_Sure___init__ (T : Tx K mg) : FnOk P w K mg base CX0 1 T.f_Sure___init__ T.d_Sure___init__ ["self", "truth"] (p_Sure___init__ K T.c) := by
  refine T.F_Sure___init__.ok sc_Sure___init__ (fun vs H Q E h => by obtain ⟨S, l2, dx3, C7, truth10, rfl, _⟩ := h; rfl) (fun cdv A outer s H vs Q E hr h => ?_)
  obtain ⟨S, l2, dx3, C7, truth10, rfl, gS, h_4, h_5, lC8, nA9, h⟩ := h
  obtain ⟨A_, hA⟩ : ∃ A_, A_ = (fun r : Bool => ∀ (S' H' : Hp), Grow [l2] S H S' H' → H' l2 = some (.ins C7 dx3 [("truth", (.bl r))]) → Q .non H') := ⟨_, rfl⟩
  replace h : OP (m_Sure___init__ truth10) A_ := hA ▸ h
  rw [m_Sure___init__] at h
  refine ⟨_, (pss_cons (ps_fld (pe_var (i := 0) rfl (.inl rfl) rfl rfl) (pe_var (i := 1) rfl (.inl rfl) rfl rfl) rfl)
      pss_nil), ?_⟩
  refine z_start (σ := [some (.ref l2), some (.bl truth10)]) rfl ?_
  have g : Grow [l2] S H S H := Grow.refl gS
  have c_6 : Cel [l2] H S H l2 (.ins C7 dx3 []) := ⟨h_4, h_5, .inr (.head _), rfl⟩
  refine z_fldE ?_
  refine c_val (val_var rfl) ?_
  refine c_setF (fs' := [("truth", (.bl truth10))]) g c_6 (val_var rfl) lC8 nA9 (show 0 < 1000 by decide) rfl fun H_11 g12 c_13 ot14 => ?_
  replace g := g12
  refine z_next ?_
  have h := OP.fin hA h
  exact h _ _ g c_13.h

@[irreducible] def m__law_made (recipe_here1 : (Int × Int × Int)) : Option O_Formula :=
(m_Lamp___init__ recipe_here1.2.1).bind fun v13 =>
(m_Lamp___init__ recipe_here1.2.2).bind fun v33 =>
ifo (decide (recipe_here1.1 = 0)) (
some (O_Formula.Lamp v13)) (
ifo (decide (recipe_here1.1 = 1)) (
(m_Not___init__ (O_Formula.Lamp v13)).bind fun v53 =>
some (O_Formula.Not v53)) (
ifo (decide (recipe_here1.1 = 2)) (
(m_Not___init__ (O_Formula.Lamp v33)).bind fun v76 =>
(m_Joined___init__ ([(O_Formula.Lamp v13), (O_Formula.Not v76)] : List O_Formula)).bind fun v107 =>
some (O_Formula.And v107)) (
ifo (decide (recipe_here1.1 = 3)) (
(m_Joined___init__ ([(O_Formula.Lamp v13), (O_Formula.Lamp v33)] : List O_Formula)).bind fun v139 =>
some (O_Formula.Or v139)) (
ifo (decide (recipe_here1.1 = 4)) (
(m_Joined___init__ ([(O_Formula.Lamp v13), (O_Formula.Lamp v33)] : List O_Formula)).bind fun v171 =>
some (O_Formula.Either v171)) (
ifo (decide (recipe_here1.1 = 5)) (
(m_Sure___init__ true).bind fun v193 =>
some (O_Formula.Sure v193)) (
(m_Joined___init__ ([(O_Formula.Lamp v13), (O_Formula.Lamp v33)] : List O_Formula)).bind fun v223 =>
(m_Not___init__ (O_Formula.And v223)).bind fun v245 =>
some (O_Formula.Not v245)))))))
abbrev s__law_made : Stmt := top 38
abbrev sn__law_made : List Str := ["_law_recipe_here", "_law_one", "_law_other"]
theorem sc__law_made : FnScope ["_law_recipe_here", "_law_one", "_law_other"] ["_law_recipe_here"] (defScope (s__law_made)) := ⟨rfl, rfl, rfl, by decide +kernel, rfl, by decide +kernel, by decide +kernel⟩
def p__law_made (K : PySem.W.Frag) (c : Cl) : Sp := fun vs H Q E => ∃ (S : Hp) (v2 : V) (recipe_here1 : (Int × Int × Int)), vs = [v2] ∧ Same S H ∧ ((qT3 (qI (K := K)) (qI (K := K)) (qI (K := K)))).R S v2 recipe_here1 ∧ OP (m__law_made recipe_here1) (fun r => ∀ (S' H' : Hp) (v : V), Grow [] S H S' H' → ((q_Formula (K := K) c)).R S' v r → Q v H')
theorem ok__law_made (T : Tx K mg) : FnOk P w K mg base CX0 3 T.f__law_made T.d__law_made ["_law_recipe_here"] (p__law_made K T.c) := by
  refine T.F__law_made.ok sc__law_made (fun vs H Q E h => by obtain ⟨S, v2, recipe_here1, rfl, _⟩ := h; rfl) (fun cdv A outer s H vs Q E hr h => ?_)
  obtain ⟨S, v2, recipe_here1, rfl, gS, r3, h⟩ := h
  obtain ⟨A_, hA⟩ : ∃ A_, A_ = (fun r : O_Formula => ∀ (S' H' : Hp) (v : V), Grow [] S H S' H' → ((q_Formula (K := K) T.c)).R S' v r → Q v H') := ⟨_, rfl⟩
  replace h : OP (m__law_made recipe_here1) A_ := hA ▸ h
  rw [m__law_made] at h
  have hr2 : Room 2 _ := hr.mono (by decide)
  refine ⟨_, (pss_cons (ps_set (i := 1) sc__law_made.nd rfl (.inl rfl) (pe_make T.k_Lamp (ok_Lamp___init__ T) hr2 rfl T.m_Lamp T.b_Lamp___init__ .nil pass0 (pa_cons (pe_ix (show IxR _ (rIxT K) from ix_tup) (pe_var (i := 0) rfl (.inl rfl) rfl rfl) pe_int (fun _ _ => rfl)) pa_nil)))
      (pss_cons (ps_set (i := 2) sc__law_made.nd rfl (.inl rfl) (pe_make T.k_Lamp (ok_Lamp___init__ T) hr2 rfl T.m_Lamp T.b_Lamp___init__ .nil pass0 (pa_cons (pe_ix (show IxR _ (rIxT K) from ix_tup) (pe_var (i := 0) rfl (.inl rfl) rfl rfl) pe_int (fun _ _ => rfl)) pa_nil)))
      (pss_cons (ps_if (pt_cmpR op_eq (pe_ix (show IxR _ (rIxT K) from ix_tup) (pe_var (i := 0) rfl (.inl rfl) rfl rfl) pe_int (fun _ _ => rfl)) pe_int (nomark _)) (pss_cons (ps_ret (pe_var (i := 1) rfl (.inl rfl) rfl rfl))
      pss_nil) pss_nil)
      (pss_cons (ps_if (pt_cmpR op_eq (pe_ix (show IxR _ (rIxT K) from ix_tup) (pe_var (i := 0) rfl (.inl rfl) rfl rfl) pe_int (fun _ _ => rfl)) pe_int (nomark _)) (pss_cons (ps_ret (pe_make T.k_Not (ok_Not___init__ T) hr2 rfl T.m_Not T.b_Not___init__ .nil pass0 (pa_cons (pe_var (i := 1) rfl (.inl rfl) rfl rfl) pa_nil)))
      pss_nil) pss_nil)
      (pss_cons (ps_if (pt_cmpR op_eq (pe_ix (show IxR _ (rIxT K) from ix_tup) (pe_var (i := 0) rfl (.inl rfl) rfl rfl) pe_int (fun _ _ => rfl)) pe_int (nomark _)) (pss_cons (ps_ret (pe_make T.k_And (ok_Joined___init__ T) hr2 rfl T.m_And T.b_Joined___init__ .nil pass0 (pa_cons (pe_lst (pa_cons (pe_var (i := 1) rfl (.inl rfl) rfl rfl) (pa_cons (pe_make T.k_Not (ok_Not___init__ T) hr2 rfl T.m_Not T.b_Not___init__ .nil pass0 (pa_cons (pe_var (i := 2) rfl (.inl rfl) rfl rfl) pa_nil)) pa_nil))) pa_nil)))
      pss_nil) pss_nil)
      (pss_cons (ps_if (pt_cmpR op_eq (pe_ix (show IxR _ (rIxT K) from ix_tup) (pe_var (i := 0) rfl (.inl rfl) rfl rfl) pe_int (fun _ _ => rfl)) pe_int (nomark _)) (pss_cons (ps_ret (pe_make T.k_Or (ok_Joined___init__ T) hr2 rfl T.m_Or T.b_Joined___init__ .nil pass0 (pa_cons (pe_lst (pa_cons (pe_var (i := 1) rfl (.inl rfl) rfl rfl) (pa_cons (pe_var (i := 2) rfl (.inl rfl) rfl rfl) pa_nil))) pa_nil)))
      pss_nil) pss_nil)
      (pss_cons (ps_if (pt_cmpR op_eq (pe_ix (show IxR _ (rIxT K) from ix_tup) (pe_var (i := 0) rfl (.inl rfl) rfl rfl) pe_int (fun _ _ => rfl)) pe_int (nomark _)) (pss_cons (ps_ret (pe_make T.k_Either (ok_Joined___init__ T) hr2 rfl T.m_Either T.b_Joined___init__ .nil pass0 (pa_cons (pe_lst (pa_cons (pe_var (i := 1) rfl (.inl rfl) rfl rfl) (pa_cons (pe_var (i := 2) rfl (.inl rfl) rfl rfl) pa_nil))) pa_nil)))
      pss_nil) pss_nil)
      (pss_cons (ps_if (pt_cmpR op_eq (pe_ix (show IxR _ (rIxT K) from ix_tup) (pe_var (i := 0) rfl (.inl rfl) rfl rfl) pe_int (fun _ _ => rfl)) pe_int (nomark _)) (pss_cons (ps_ret (pe_make T.k_Sure (ok_Sure___init__ T) hr2 rfl T.m_Sure T.b_Sure___init__ .nil pass0 (pa_cons pe_bl pa_nil)))
      pss_nil) pss_nil)
      (pss_cons (ps_ret (pe_make T.k_Not (ok_Not___init__ T) hr2 rfl T.m_Not T.b_Not___init__ .nil pass0 (pa_cons (pe_make T.k_And (ok_Joined___init__ T) hr2 rfl T.m_And T.b_Joined___init__ .nil pass0 (pa_cons (pe_lst (pa_cons (pe_var (i := 1) rfl (.inl rfl) rfl rfl) (pa_cons (pe_var (i := 2) rfl (.inl rfl) rfl rfl) pa_nil))) pa_nil)) pa_nil)))
      pss_nil))))))))), ?_⟩
  refine z_start (σ := [some v2, none, none]) rfl ?_
  have g : Grow [] S H S H := Grow.refl gS
  refine z_setE ?_
  refine c_make ?_
  refine c_args (va_cons (v_t31 (val_var rfl) val_c (Rep.mono _ g.sh r3)) va_nil) ?_
  refine make_in fun p4 dx5 H_6 e7 np8 ep9 => ?_
  have z12 := g.hnone np8
  have c_11 : Cel [] H S H_6 p4 (.ins T.c.Lamp dx5 []) := Cel.own g e7 np8 ep9 rfl
  replace g := g.ext e7
  have gL18 : ∀ l ∈ [p4], H l = none ∨ l ∈ [] := (LM1 c_11.z LM0)
  refine ⟨S, _, _, _, _, rfl, g.sh, c_11.h, c_11.s, T.l_Lamp, T.a_Lamp_at, (OP.of h).mono fun v13 h S_14 H_15 gc16 hp17 => ?_⟩
  replace r3 := Rep.mono _ gc16.ss r3
  replace c_11 := c_11.mut gc16 hp17 rfl
  replace g := g.call gc16 gL18
  refine ⟨rfl, ?_⟩
  obtain ⟨S_19, g20, eS21, r22, ot23⟩ := fz_Formula_Lamp (c := T.c) g c_11 z12 (show ((qI (K := K))).R _ _ v13 from rfl)
  replace r3 := Rep.mono _ eS21 r3
  replace g := g20
  refine g_name (σ' := [some v2, some (.ref p4), none]) rfl ?_
  refine z_setE ?_
  refine c_make ?_
  refine c_args (va_cons (v_t32 (val_var rfl) val_c (Rep.mono _ g.sh r3)) va_nil) ?_
  refine make_in fun p24 dx25 H_26 e27 np28 ep29 => ?_
  have z32 := g.hnone np28
  have c_31 : Cel [] H S_19 H_26 p24 (.ins T.c.Lamp dx25 []) := Cel.own g e27 np28 ep29 rfl
  replace g := g.ext e27
  have gL38 : ∀ l ∈ [p24], H l = none ∨ l ∈ [] := (LM1 c_31.z LM0)
  refine ⟨S_19, _, _, _, _, rfl, g.sh, c_31.h, c_31.s, T.l_Lamp, T.a_Lamp_at, (OP.of h).mono fun v33 h S_34 H_35 gc36 hp37 => ?_⟩
  replace r3 := Rep.mono _ gc36.ss r3
  replace r22 := Rep.mono _ gc36.ss r22
  replace c_31 := c_31.mut gc36 hp37 rfl
  replace g := g.call gc36 gL38
  refine ⟨rfl, ?_⟩
  obtain ⟨S_39, g40, eS41, r42, ot43⟩ := fz_Formula_Lamp (c := T.c) g c_31 z32 (show ((qI (K := K))).R _ _ v33 from rfl)
  replace r3 := Rep.mono _ eS41 r3
  replace r22 := Rep.mono _ eS41 r22
  replace g := g40
  refine g_name (σ' := [some v2, some (.ref p4), some (.ref p24)]) rfl ?_
  refine z_if (v_test (v_eqI (v_t30 (val_var rfl) val_c (Rep.mono _ g.sh r3)) val_c)) (fun hc => ?_) (fun hc => ?_)
  · replace h := OP.ite1 hc h
    refine z_ret (val_var rfl) ?_
    have h := OP.fin hA h
    exact h _ _ _ g r22
  · replace h := OP.ite0 hc h
    refine z_nextR ?_
    refine z_if (v_test (v_eqI (v_t30 (val_var rfl) val_c (Rep.mono _ g.sh r3)) val_c)) (fun hc => ?_) (fun hc => ?_)
    · replace h := OP.ite1 hc h
      refine z_retE ?_
      refine c_make ?_
      refine c_args (va_cons (val_var rfl) va_nil) ?_
      refine make_in fun p44 dx45 H_46 e47 np48 ep49 => ?_
      have z52 := g.hnone np48
      have c_51 : Cel [] H S_39 H_46 p44 (.ins T.c.Not dx45 []) := Cel.own g e47 np48 ep49 rfl
      replace g := g.ext e47
      have gL60 : ∀ l ∈ [p44], H l = none ∨ l ∈ [] := (LM1 c_51.z LM0)
      refine ⟨S_39, _, _, _, _, _, rfl, g.sh, c_51.h, c_51.s, T.l_Not, T.a_Not_part, r22, (OP.of h).mono fun v53 h S_54 H_55 w_57 gc56 hp59 r58 => ?_⟩
      replace r3 := Rep.mono _ gc56.ss r3
      replace r22 := Rep.mono _ gc56.ss r22
      replace r42 := Rep.mono _ gc56.ss r42
      replace c_51 := c_51.mut gc56 hp59 rfl
      replace g := g.call gc56 gL60
      refine ⟨rfl, ?_⟩
      obtain ⟨S_61, g62, eS63, r64, ot65⟩ := fz_Formula_Not (c := T.c) g c_51 z52 r58
      replace r3 := Rep.mono _ eS63 r3
      replace r22 := Rep.mono _ eS63 r22
      replace r42 := Rep.mono _ eS63 r42
      replace r58 := Rep.mono _ eS63 r58
      replace g := g62
      have h := OP.fin hA h
      exact h _ _ _ g r64
    · replace h := OP.ite0 hc h
      refine z_nextR ?_
      refine z_if (v_test (v_eqI (v_t30 (val_var rfl) val_c (Rep.mono _ g.sh r3)) val_c)) (fun hc => ?_) (fun hc => ?_)
      · replace h := OP.ite1 hc h
        refine z_retE ?_
        refine c_make ?_
        refine c_cons ?_
        refine c_lstE fun Q_66 hQ_66 => ?_
        refine c_cons ?_
        refine c_val (val_var rfl) ?_
        refine c_cons ?_
        refine c_make ?_
        refine c_args (va_cons (val_var rfl) va_nil) ?_
        refine make_in fun p67 dx68 H_69 e70 np71 ep72 => ?_
        have z75 := g.hnone np71
        have c_74 : Cel [] H S_39 H_69 p67 (.ins T.c.Not dx68 []) := Cel.own g e70 np71 ep72 rfl
        replace g := g.ext e70
        have gL83 : ∀ l ∈ [p67], H l = none ∨ l ∈ [] := (LM1 c_74.z LM0)
        refine ⟨S_39, _, _, _, _, _, rfl, g.sh, c_74.h, c_74.s, T.l_Not, T.a_Not_part, r42, (OP.of h).mono fun v76 h S_77 H_78 w_80 gc79 hp82 r81 => ?_⟩
        replace r3 := Rep.mono _ gc79.ss r3
        replace r22 := Rep.mono _ gc79.ss r22
        replace r42 := Rep.mono _ gc79.ss r42
        replace c_74 := c_74.mut gc79 hp82 rfl
        replace g := g.call gc79 gL83
        refine ⟨rfl, ?_⟩
        obtain ⟨S_84, g85, eS86, r87, ot88⟩ := fz_Formula_Not (c := T.c) g c_74 z75 r81
        replace r3 := Rep.mono _ eS86 r3
        replace r22 := Rep.mono _ eS86 r22
        replace r42 := Rep.mono _ eS86 r42
        replace r81 := Rep.mono _ eS86 r81
        replace g := g85
        refine c_nil ?_
        refine c_newlst (Q := Q_66) (vs := [(.ref p4), (.ref p67)]) (show 2 ≤ 1000 by decide) fun p89 H_90 e91 np92 ep93 => ?_
        refine q_eq hQ_66 ?_
        have w_94 : RL (q_Formula (K := K) T.c) S_84 [(.ref p4), (.ref p67)] ([(O_Formula.Lamp v13), (O_Formula.Not v76)] : List O_Formula) := (.cons r22 (.cons r87 .nil))
        have z96 := g.hnone np92
        have c_95 : Cel [] H S_84 H_90 p89 (.lst [(.ref p4), (.ref p67)]) := Cel.own g e91 np92 ep93 rfl
        replace g := g.ext e91
        refine c_nil ?_
        refine make_in fun p97 dx98 H_99 e100 np101 ep102 => ?_
        have ne106 := c_95.ne np101
        have z105 := g.hnone np101
        have c_104 : Cel [] H S_84 H_99 p97 (.ins T.c.And dx98 []) := Cel.own g e100 np101 ep102 rfl
        replace c_95 := c_95.ext e100
        replace g := g.ext e100
        have gL114 : ∀ l ∈ [p97], H l = none ∨ l ∈ [] := (LM1 c_104.z LM0)
        refine ⟨S_84, _, _, _, _, _, rfl, g.sh, c_104.h, c_104.s, T.l_And, T.a_And_parts, (RdL.ofC c_95.h (NM1 (by first | assumption | exact Ne.symm (by assumption)) NM0) w_94), (OP.of h).mono fun v107 h S_108 H_109 w_111 gc110 hp113 r112 => ?_⟩
        replace c_95 := c_95.call gc110 (NM1 (by first | assumption | exact Ne.symm (by assumption)) NM0)
        replace r3 := Rep.mono _ gc110.ss r3
        replace r22 := Rep.mono _ gc110.ss r22
        replace r42 := Rep.mono _ gc110.ss r42
        replace w_94 := RL.mono gc110.ss w_94
        replace c_104 := c_104.mut gc110 hp113 rfl
        replace g := g.call gc110 gL114
        refine ⟨rfl, ?_⟩
        obtain ⟨S_115, g116, eS117, r118, ot119⟩ := fz_Formula_And (c := T.c) g c_104 z105 r112
        replace c_95 := ot119 _ _ (by first | assumption | exact Ne.symm (by assumption)) c_95
        replace r3 := Rep.mono _ eS117 r3
        replace r22 := Rep.mono _ eS117 r22
        replace r42 := Rep.mono _ eS117 r42
        replace w_94 := RL.mono eS117 w_94
        replace r112 := Rep.mono _ eS117 r112
        replace g := g116
        have h := OP.fin hA h
        exact h _ _ _ g r118
      · replace h := OP.ite0 hc h
        refine z_nextR ?_
        refine z_if (v_test (v_eqI (v_t30 (val_var rfl) val_c (Rep.mono _ g.sh r3)) val_c)) (fun hc => ?_) (fun hc => ?_)
        · replace h := OP.ite1 hc h
          refine z_retE ?_
          refine c_make ?_
          refine c_cons ?_
          refine c_lstE fun Q_120 hQ_120 => ?_
          refine c_args (va_cons (val_var rfl) (va_cons (val_var rfl) va_nil)) ?_
          refine c_newlst (Q := Q_120) (vs := [(.ref p4), (.ref p24)]) (show 2 ≤ 1000 by decide) fun p121 H_122 e123 np124 ep125 => ?_
          refine q_eq hQ_120 ?_
          have w_126 : RL (q_Formula (K := K) T.c) S_39 [(.ref p4), (.ref p24)] ([(O_Formula.Lamp v13), (O_Formula.Lamp v33)] : List O_Formula) := (.cons r22 (.cons r42 .nil))
          have z128 := g.hnone np124
          have c_127 : Cel [] H S_39 H_122 p121 (.lst [(.ref p4), (.ref p24)]) := Cel.own g e123 np124 ep125 rfl
          replace g := g.ext e123
          refine c_nil ?_
          refine make_in fun p129 dx130 H_131 e132 np133 ep134 => ?_
          have ne138 := c_127.ne np133
          have z137 := g.hnone np133
          have c_136 : Cel [] H S_39 H_131 p129 (.ins T.c.Or dx130 []) := Cel.own g e132 np133 ep134 rfl
          replace c_127 := c_127.ext e132
          replace g := g.ext e132
          have gL146 : ∀ l ∈ [p129], H l = none ∨ l ∈ [] := (LM1 c_136.z LM0)
          refine ⟨S_39, _, _, _, _, _, rfl, g.sh, c_136.h, c_136.s, T.l_Or, T.a_Or_parts, (RdL.ofC c_127.h (NM1 (by first | assumption | exact Ne.symm (by assumption)) NM0) w_126), (OP.of h).mono fun v139 h S_140 H_141 w_143 gc142 hp145 r144 => ?_⟩
          replace c_127 := c_127.call gc142 (NM1 (by first | assumption | exact Ne.symm (by assumption)) NM0)
          replace r3 := Rep.mono _ gc142.ss r3
          replace r22 := Rep.mono _ gc142.ss r22
          replace r42 := Rep.mono _ gc142.ss r42
          replace w_126 := RL.mono gc142.ss w_126
          replace c_136 := c_136.mut gc142 hp145 rfl
          replace g := g.call gc142 gL146
          refine ⟨rfl, ?_⟩
          obtain ⟨S_147, g148, eS149, r150, ot151⟩ := fz_Formula_Or (c := T.c) g c_136 z137 r144
          replace c_127 := ot151 _ _ (by first | assumption | exact Ne.symm (by assumption)) c_127
          replace r3 := Rep.mono _ eS149 r3
          replace r22 := Rep.mono _ eS149 r22
          replace r42 := Rep.mono _ eS149 r42
          replace w_126 := RL.mono eS149 w_126
          replace r144 := Rep.mono _ eS149 r144
          replace g := g148
          have h := OP.fin hA h
          exact h _ _ _ g r150
        · replace h := OP.ite0 hc h
          refine z_nextR ?_
          refine z_if (v_test (v_eqI (v_t30 (val_var rfl) val_c (Rep.mono _ g.sh r3)) val_c)) (fun hc => ?_) (fun hc => ?_)
          · replace h := OP.ite1 hc h
            refine z_retE ?_
            refine c_make ?_
            refine c_cons ?_
            refine c_lstE fun Q_152 hQ_152 => ?_
            refine c_args (va_cons (val_var rfl) (va_cons (val_var rfl) va_nil)) ?_
            refine c_newlst (Q := Q_152) (vs := [(.ref p4), (.ref p24)]) (show 2 ≤ 1000 by decide) fun p153 H_154 e155 np156 ep157 => ?_
            refine q_eq hQ_152 ?_
            have w_158 : RL (q_Formula (K := K) T.c) S_39 [(.ref p4), (.ref p24)] ([(O_Formula.Lamp v13), (O_Formula.Lamp v33)] : List O_Formula) := (.cons r22 (.cons r42 .nil))
            have z160 := g.hnone np156
            have c_159 : Cel [] H S_39 H_154 p153 (.lst [(.ref p4), (.ref p24)]) := Cel.own g e155 np156 ep157 rfl
            replace g := g.ext e155
            refine c_nil ?_
            refine make_in fun p161 dx162 H_163 e164 np165 ep166 => ?_
            have ne170 := c_159.ne np165
            have z169 := g.hnone np165
            have c_168 : Cel [] H S_39 H_163 p161 (.ins T.c.Either dx162 []) := Cel.own g e164 np165 ep166 rfl
            replace c_159 := c_159.ext e164
            replace g := g.ext e164
            have gL178 : ∀ l ∈ [p161], H l = none ∨ l ∈ [] := (LM1 c_168.z LM0)
            refine ⟨S_39, _, _, _, _, _, rfl, g.sh, c_168.h, c_168.s, T.l_Either, T.a_Either_parts, (RdL.ofC c_159.h (NM1 (by first | assumption | exact Ne.symm (by assumption)) NM0) w_158), (OP.of h).mono fun v171 h S_172 H_173 w_175 gc174 hp177 r176 => ?_⟩
            replace c_159 := c_159.call gc174 (NM1 (by first | assumption | exact Ne.symm (by assumption)) NM0)
            replace r3 := Rep.mono _ gc174.ss r3
            replace r22 := Rep.mono _ gc174.ss r22
            replace r42 := Rep.mono _ gc174.ss r42
            replace w_158 := RL.mono gc174.ss w_158
            replace c_168 := c_168.mut gc174 hp177 rfl
            replace g := g.call gc174 gL178
            refine ⟨rfl, ?_⟩
            obtain ⟨S_179, g180, eS181, r182, ot183⟩ := fz_Formula_Either (c := T.c) g c_168 z169 r176
            replace c_159 := ot183 _ _ (by first | assumption | exact Ne.symm (by assumption)) c_159
            replace r3 := Rep.mono _ eS181 r3
            replace r22 := Rep.mono _ eS181 r22
            replace r42 := Rep.mono _ eS181 r42
            replace w_158 := RL.mono eS181 w_158
            replace r176 := Rep.mono _ eS181 r176
            replace g := g180
            have h := OP.fin hA h
            exact h _ _ _ g r182
          · replace h := OP.ite0 hc h
            refine z_nextR ?_
            refine z_if (v_test (v_eqI (v_t30 (val_var rfl) val_c (Rep.mono _ g.sh r3)) val_c)) (fun hc => ?_) (fun hc => ?_)
            · replace h := OP.ite1 hc h
              refine z_retE ?_
              refine c_make ?_
              refine c_args (va_cons val_c va_nil) ?_
              refine make_in fun p184 dx185 H_186 e187 np188 ep189 => ?_
              have z192 := g.hnone np188
              have c_191 : Cel [] H S_39 H_186 p184 (.ins T.c.Sure dx185 []) := Cel.own g e187 np188 ep189 rfl
              replace g := g.ext e187
              have gL198 : ∀ l ∈ [p184], H l = none ∨ l ∈ [] := (LM1 c_191.z LM0)
              refine ⟨S_39, _, _, _, _, rfl, g.sh, c_191.h, c_191.s, T.l_Sure, T.a_Sure_truth, (OP.of h).mono fun v193 h S_194 H_195 gc196 hp197 => ?_⟩
              replace r3 := Rep.mono _ gc196.ss r3
              replace r22 := Rep.mono _ gc196.ss r22
              replace r42 := Rep.mono _ gc196.ss r42
              replace c_191 := c_191.mut gc196 hp197 rfl
              replace g := g.call gc196 gL198
              refine ⟨rfl, ?_⟩
              obtain ⟨S_199, g200, eS201, r202, ot203⟩ := fz_Formula_Sure (c := T.c) g c_191 z192 (show ((qB (K := K))).R _ _ v193 from rfl)
              replace r3 := Rep.mono _ eS201 r3
              replace r22 := Rep.mono _ eS201 r22
              replace r42 := Rep.mono _ eS201 r42
              replace g := g200
              have h := OP.fin hA h
              exact h _ _ _ g r202
            · replace h := OP.ite0 hc h
              refine z_nextR ?_
              refine z_retE ?_
              refine c_make ?_
              refine c_cons ?_
              refine c_make ?_
              refine c_cons ?_
              refine c_lstE fun Q_204 hQ_204 => ?_
              refine c_args (va_cons (val_var rfl) (va_cons (val_var rfl) va_nil)) ?_
              refine c_newlst (Q := Q_204) (vs := [(.ref p4), (.ref p24)]) (show 2 ≤ 1000 by decide) fun p205 H_206 e207 np208 ep209 => ?_
              refine q_eq hQ_204 ?_
              have w_210 : RL (q_Formula (K := K) T.c) S_39 [(.ref p4), (.ref p24)] ([(O_Formula.Lamp v13), (O_Formula.Lamp v33)] : List O_Formula) := (.cons r22 (.cons r42 .nil))
              have z212 := g.hnone np208
              have c_211 : Cel [] H S_39 H_206 p205 (.lst [(.ref p4), (.ref p24)]) := Cel.own g e207 np208 ep209 rfl
              replace g := g.ext e207
              refine c_nil ?_
              refine make_in fun p213 dx214 H_215 e216 np217 ep218 => ?_
              have ne222 := c_211.ne np217
              have z221 := g.hnone np217
              have c_220 : Cel [] H S_39 H_215 p213 (.ins T.c.And dx214 []) := Cel.own g e216 np217 ep218 rfl
              replace c_211 := c_211.ext e216
              replace g := g.ext e216
              have gL230 : ∀ l ∈ [p213], H l = none ∨ l ∈ [] := (LM1 c_220.z LM0)
              refine ⟨S_39, _, _, _, _, _, rfl, g.sh, c_220.h, c_220.s, T.l_And, T.a_And_parts, (RdL.ofC c_211.h (NM1 (by first | assumption | exact Ne.symm (by assumption)) NM0) w_210), (OP.of h).mono fun v223 h S_224 H_225 w_227 gc226 hp229 r228 => ?_⟩
              replace c_211 := c_211.call gc226 (NM1 (by first | assumption | exact Ne.symm (by assumption)) NM0)
              replace r3 := Rep.mono _ gc226.ss r3
              replace r22 := Rep.mono _ gc226.ss r22
              replace r42 := Rep.mono _ gc226.ss r42
              replace w_210 := RL.mono gc226.ss w_210
              replace c_220 := c_220.mut gc226 hp229 rfl
              replace g := g.call gc226 gL230
              refine ⟨rfl, ?_⟩
              obtain ⟨S_231, g232, eS233, r234, ot235⟩ := fz_Formula_And (c := T.c) g c_220 z221 r228
              replace c_211 := ot235 _ _ (by first | assumption | exact Ne.symm (by assumption)) c_211
              replace r3 := Rep.mono _ eS233 r3
              replace r22 := Rep.mono _ eS233 r22
              replace r42 := Rep.mono _ eS233 r42
              replace w_210 := RL.mono eS233 w_210
              replace r228 := Rep.mono _ eS233 r228
              replace g := g232
              refine c_nil ?_
              refine make_in fun p236 dx237 H_238 e239 np240 ep241 => ?_
              have z244 := g.hnone np240
              have c_243 : Cel [] H S_231 H_238 p236 (.ins T.c.Not dx237 []) := Cel.own g e239 np240 ep241 rfl
              replace g := g.ext e239
              have gL252 : ∀ l ∈ [p236], H l = none ∨ l ∈ [] := (LM1 c_243.z LM0)
              refine ⟨S_231, _, _, _, _, _, rfl, g.sh, c_243.h, c_243.s, T.l_Not, T.a_Not_part, r234, (OP.of h).mono fun v245 h S_246 H_247 w_249 gc248 hp251 r250 => ?_⟩
              replace r3 := Rep.mono _ gc248.ss r3
              replace r22 := Rep.mono _ gc248.ss r22
              replace r42 := Rep.mono _ gc248.ss r42
              replace r234 := Rep.mono _ gc248.ss r234
              replace c_243 := c_243.mut gc248 hp251 rfl
              replace g := g.call gc248 gL252
              refine ⟨rfl, ?_⟩
              obtain ⟨S_253, g254, eS255, r256, ot257⟩ := fz_Formula_Not (c := T.c) g c_243 z244 r250
              replace r3 := Rep.mono _ eS255 r3
              replace r22 := Rep.mono _ eS255 r22
              replace r42 := Rep.mono _ eS255 r42
              replace r234 := Rep.mono _ eS255 r234
              replace r250 := Rep.mono _ eS255 r250
              replace g := g254
              have h := OP.fin hA h
              exact h _ _ _ g r256

@[irreducible] def m__law_machines (many1 : Int) (moves2 : (List ((Int × Int × Int) × (List (Int × (Int × Int × Int)))))) : Option (O_Machine × O_Machine) :=
(forO (fun x14 handed26 =>
(forO (fun lamp65 acc5161 =>
(m__law_made lamp65.2).bind fun v74 =>
grd (acc5161.length < 16777216) <|
lt (acc5161 ++ [(lamp65.1, v74)]) fun l88 =>
some l88) (x14.2) ([] : List (Int × O_Formula))).bind fun acc5161 =>
(m__law_made x14.1).bind fun v95 =>
(m_Move___init__ v95 acc5161).bind fun v113 =>
grd (handed26.length < 16777216) <|
lt (handed26 ++ [v113]) fun l129 =>
some l129) (moves2) ([] : List O_Move)).bind (fun handed26 =>
(m_Lamp___init__ 0).bind fun v190 =>
(m_Machine___init__ (cutI ([("a" : Str), ("b" : Str), ("c" : Str), ("d" : Str), ("e" : Str), ("f" : Str)] : List Str) none (some many1)) ([] : List Int) ([(O_Formula.Lamp v190)] : List O_Formula) handed26).bind fun v225 =>
(m_Lamp___init__ 0).bind fun v278 =>
(m_Machine___init__ (cutI ([("a" : Str), ("b" : Str), ("c" : Str), ("d" : Str), ("e" : Str), ("f" : Str)] : List Str) none (some many1)) ([] : List Int) ([(O_Formula.Lamp v278)] : List O_Formula) handed26.reverse).bind fun v328 =>
some (v225, v328))
abbrev s__law_machines : Stmt := top 43
abbrev sn__law_machines : List Str := ["_law_many", "_law_moves", "_law_handed", "_law_guard", "_law_changes_here", "_law_some", "_law_names", "_law_machine", "_law_other", "_law_lamp", "_law_recipe_here"]
theorem sc__law_machines : FnScope ["_law_many", "_law_moves", "_law_handed", "_law_guard", "_law_changes_here", "_law_some", "_law_names", "_law_machine", "_law_other", "_law_lamp", "_law_recipe_here"] ["_law_many", "_law_moves"] (defScope (s__law_machines)) := ⟨rfl, rfl, rfl, by decide +kernel, rfl, by decide +kernel, by decide +kernel⟩
def p__law_machines (K : PySem.W.Frag) (c : Cl) : Sp := fun vs H Q E => ∃ (S : Hp) (many1 : Int) (v3 : V) (moves2 : (List ((Int × Int × Int) × (List (Int × (Int × Int × Int)))))), vs = [.int many1, v3] ∧ Same S H ∧ RdL (qT2 (qT3 (qI (K := K)) (qI (K := K)) (qI (K := K))) (qL (qT2 (qI (K := K)) (qT3 (qI (K := K)) (qI (K := K)) (qI (K := K)))))) [] S H v3 moves2 ∧ OP (m__law_machines many1 moves2) (fun r => ∀ (S' H' : Hp) (v : V), Grow [] S H S' H' → ((qT2 (q_Machine (K := K) c) (q_Machine (K := K) c))).R S' v r → Q v H')
theorem ok__law_machines (T : Tx K mg) : FnOk P w K mg base CX0 4 T.f__law_machines T.d__law_machines ["_law_many", "_law_moves"] (p__law_machines K T.c) := by
  refine T.F__law_machines.ok sc__law_machines (fun vs H Q E h => by obtain ⟨S, many1, v3, moves2, rfl, _⟩ := h; rfl) (fun cdv A outer s H vs Q E hr h => ?_)
  obtain ⟨S, many1, v3, moves2, rfl, gS, r4, h⟩ := h
  obtain ⟨A_, hA⟩ : ∃ A_, A_ = (fun r : (O_Machine × O_Machine) => ∀ (S' H' : Hp) (v : V), Grow [] S H S' H' → ((qT2 (q_Machine (K := K) T.c) (q_Machine (K := K) T.c))).R S' v r → Q v H') := ⟨_, rfl⟩
  replace h : OP (m__law_machines many1 moves2) A_ := hA ▸ h
  rw [m__law_machines] at h
  have hr2 : Room 2 _ := hr.mono (by decide)
  have hr3 : Room 3 _ := hr.mono (by decide)
  refine ⟨_, (pss_cons (ps_set (i := 2) sc__law_machines.nd rfl (.inl rfl) (pe_lst pa_nil))
      (pss_cons (ps_for PassesOwn.never rfl (pi_list (pe_var (i := 1) rfl (.inl rfl) rfl rfl)) (pg_tup rfl (pgs_cons (pg_name (i := 3) sc__law_machines.nd rfl (.inl rfl)) (pgs_cons (pg_name (i := 4) sc__law_machines.nd rfl (.inl rfl)) pgs_nil))) (pss_cons (ps_setLc (i := 5) (y := "_law_some") (own := [("_law_lamp", 9), ("_law_recipe_here", 10)]) (g := gTup K 2 (gCons (gName 9) (gCons (gName 10) gNil))) (tt := tYes) rfl sc__law_machines.nd rfl rfl (sw_true rfl rfl rfl (by decide +kernel)) (pi_list (pe_var (i := 4) rfl (.inl rfl) rfl rfl)) (blkOk_by (N := sn__law_machines) (sc := defScope s__law_machines) (by decide +kernel)) (fun _ _ _ _ _ => (show PG _ _ (gTup K 2 (gCons (gName 9) (gCons (gName 10) gNil))) from pg_tup rfl (pgs_cons (pg_name (i := 9) sc__law_machines.nd rfl (.inl rfl)) (pgs_cons (pg_name (i := 10) sc__law_machines.nd rfl (.inl rfl)) pgs_nil)))) (fun _ _ _ _ _ => pts_nil) (fun _ _ _ _ _ => (pe_tup (pa_cons (pe_var (i := 9) rfl (.inl rfl) rfl rfl) (pa_cons (pe_call (ok__law_made T) hr3 rfl T.m__law_made T.F__law_made.kp T.b__law_made .nil pass0 (pa_cons (pe_var (i := 10) rfl (.inl rfl) rfl rfl) pa_nil)) pa_nil)))))
      (pss_cons (ps_expr (pe_bm PySem.F.plainAttrs_list PySem.F.slot_list_append PySem.F.type_list_append mt_append (pe_var (i := 2) rfl (.inl rfl) rfl rfl) (pa_cons (pe_make T.k_Move (ok_Move___init__ T) hr2 rfl T.m_Move T.b_Move___init__ .nil pass0 (pa_cons (pe_call (ok__law_made T) hr3 rfl T.m__law_made T.F__law_made.kp T.b__law_made .nil pass0 (pa_cons (pe_var (i := 3) rfl (.inl rfl) rfl rfl) pa_nil)) (pa_cons (pe_var (i := 5) rfl (.inl rfl) rfl rfl) pa_nil))) pa_nil)))
      (pss_cons (ps_expr (pe_bm0 PySem.F.plainAttrs_list PySem.F.slot_list_clear PySem.F.type_list_clear mt_clear (pe_var (i := 5) rfl (.inl rfl) rfl rfl)))
      pss_nil))))
      (pss_cons (ps_set (i := 6) sc__law_machines.nd rfl (.inl rfl) (pe_lst (pa_cons pe_str (pa_cons pe_str (pa_cons pe_str (pa_cons pe_str (pa_cons pe_str (pa_cons pe_str pa_nil))))))))
      (pss_cons (ps_set (i := 7) sc__law_machines.nd rfl (.inl rfl) (pe_make T.k_Machine (ok_Machine___init__ T) hr2 rfl T.m_Machine T.b_Machine___init__ .nil pass0 (pa_cons (pe_slice sl_list (pe_var (i := 6) rfl (.inl rfl) rfl rfl) po_none (po_some (pe_var (i := 0) rfl (.inl rfl) rfl rfl))) (pa_cons (pe_lst pa_nil) (pa_cons (pe_lst (pa_cons (pe_make T.k_Lamp (ok_Lamp___init__ T) hr2 rfl T.m_Lamp T.b_Lamp___init__ .nil pass0 (pa_cons pe_int pa_nil)) pa_nil)) (pa_cons (pe_var (i := 2) rfl (.inl rfl) rfl rfl) pa_nil))))))
      (pss_cons (ps_set (i := 8) sc__law_machines.nd rfl (.inl rfl) (pe_make T.k_Machine (ok_Machine___init__ T) hr2 rfl T.m_Machine T.b_Machine___init__ .nil pass0 (pa_cons (pe_slice sl_list (pe_var (i := 6) rfl (.inl rfl) rfl rfl) po_none (po_some (pe_var (i := 0) rfl (.inl rfl) rfl rfl))) (pa_cons (pe_lst pa_nil) (pa_cons (pe_lst (pa_cons (pe_make T.k_Lamp (ok_Lamp___init__ T) hr2 rfl T.m_Lamp T.b_Lamp___init__ .nil pass0 (pa_cons pe_int pa_nil)) pa_nil)) (pa_cons (show PE _ _ (tListRev K _) from pe_listRev rfl rfl T.n_list rfl T.n_reversed (pe_var (i := 2) rfl (.inl rfl) rfl rfl)) pa_nil))))))
      (pss_cons (ps_expr (pe_bm0 PySem.F.plainAttrs_list PySem.F.slot_list_clear PySem.F.type_list_clear mt_clear (pe_var (i := 2) rfl (.inl rfl) rfl rfl)))
      (pss_cons (ps_ret (pe_tup (pa_cons (pe_var (i := 7) rfl (.inl rfl) rfl rfl) (pa_cons (pe_var (i := 8) rfl (.inl rfl) rfl rfl) pa_nil))))
      pss_nil))))))), ?_⟩
  refine z_start (σ := [some (.int many1), some v3, none, none, none, none, none, none, none, none, none]) rfl ?_
  have g : Grow [] S H S H := Grow.refl gS
  refine z_setE ?_
  refine c_lstE fun Q_5 hQ_5 => ?_
  refine c_args va_nil ?_
  refine c_newlst (Q := Q_5) (vs := []) (show 0 ≤ 1000 by decide) fun p6 H_7 e8 np9 ep10 => ?_
  refine q_eq hQ_5 ?_
  have w_11 : RL (q_Move (K := K) T.c) S [] ([] : List O_Move) := .nil
  have z13 := g.hnone np9
  have c_12 : Cel [] H S H_7 p6 (.lst []) := Cel.own g e8 np9 ep10 rfl
  replace g := g.ext e8
  refine g_name (σ' := [some (.int many1), some v3, some (.ref p6), none, none, none, none, none, none, none, none]) rfl ?_
  obtain ⟨B17, h, hB18⟩ := OP.cut h
  obtain ⟨F19, hF20, h⟩ := OP.nameO h
  obtain ⟨q33a, q33w, q33e, q33h, q33p⟩ := id r4
  refine z_forL (v_eq (val_var rfl) q33e) q33p (fun ys22 σ' H' => ∃ (ws23 : List V) (handed26 : (List O_Move)) (u27 : Option V) (u28 : Option V) (u29 : Option V) (S_30 : Hp), σ' = [some (.int many1), some v3, some (.ref p6), u27, u28, u29, none, none, none, none, none] ∧ Grow [] S H S_30 H' ∧ Same S S_30 ∧ Cel [] H S_30 H' p6 (.lst ws23) ∧ RL (q_Move (K := K) T.c) S_30 ws23 handed26 ∧ OP (forO F19 ys22 handed26) B17) ⟨_, _, _, _, _, _, rfl, g, (Same.refl _), c_12, w_11, h⟩ (fun ys σ' H' p => by obtain ⟨ws23, handed26, u27, u28, u29, S_30, rfl, gN, eS32, c_24N, r25N, h⟩ := p; exact gN.sq q33h) (fun w_15 x14 ys22 σ' H_31 rw16 p N hN21 => ?_) ?_
  · obtain ⟨ws23, handed26, u27, u28, u29, S_30, rfl, gN, eS32, c_24N, r25N, h⟩ := p
    replace g := gN
    have c_24 := c_24N
    have r25 := r25N
    replace r4 := RdL.mono eS32 r4
    replace h := OP.forO h
    replace h := OP.fcall2 hF20 h
    have rx34 := Rep.mono _ eS32 rw16
    refine g_tup2 rfl g.sh rx34 fun w_35 w_36 r37 r38 => ?_
    refine g_name (σ' := [some (.int many1), some v3, some (.ref p6), some w_35, u28, u29, none, none, none, none, none]) rfl ?_
    refine g_next ?_
    refine g_name (σ' := [some (.int many1), some v3, some (.ref p6), some w_35, some w_36, u29, none, none, none, none, none]) rfl ?_
    refine g_end ?_
    refine z_setE ?_
    obtain ⟨q40a, q40w, q40e, q40h, q40p⟩ := id (qL_qQ r38)
    have q40h0 := g.sh.seq q40h
    refine c_lcGL (v_eq (val_var rfl) q40e) q40p q40h0 fun P_41 np42 => ?_
    obtain ⟨H_43, e44, eH45⟩ : ∃ H1, Same H_31 H1 ∧ upd H_31 P_41 (.lst []) = H1 := ⟨_, same_upd np42, rfl⟩
    have ep46 : H_43 P_41 = some (.lst []) := by rw [← eH45]; exact upd_same
    have rw47 : RL (qT2 (qI (K := K)) (q_Formula (K := K) T.c)) S_30 [] ([] : List (Int × O_Formula)) := .nil
    rw [eH45]
    have ne50 := c_24.ne np42
    have z49 := g.hnone np42
    have c_48 : Cel [] H S_30 H_43 P_41 (.lst []) := Cel.own g e44 np42 ep46 rfl
    replace c_24 := c_24.ext e44
    replace g := g.ext e44
    obtain ⟨B52, h, hB53⟩ := OP.cut h
    obtain ⟨F54, hF55, h⟩ := OP.nameO h
    refine ⟨(fun ys57 H' => ∃ (ws58 : List V) (acc5161 : (List (Int × O_Formula))) (S_62 : Hp), Grow [] S H S_62 H' ∧ Same S_30 S_62 ∧ Cel [] H S_62 H' P_41 (.lst ws58) ∧ RL (qT2 (qI (K := K)) (q_Formula (K := K) T.c)) S_62 ws58 acc5161 ∧ Cel [] H S_62 H' p6 (.lst ws23) ∧ OP (forO F54 ys57 acc5161) B52), ⟨_, _, _, g, (Same.refl _), c_48, rw47, c_24, h⟩, fun ys H' p => by obtain ⟨ws58, acc5161, S_62, gN, eS64, c_59N, r60N, c_24N, h⟩ := p; exact (eS64.trans gN.sh).seq q40h, fun w_66 lamp65 ys57 H_63 rw67 p N hN56 => ?_, fun H_63 p => ?_⟩
    · obtain ⟨ws58, acc5161, S_62, gN, eS64, c_59N, r60N, c_24N, h⟩ := p
      replace g := gN
      have c_59 := c_59N
      have r60 := r60N
      replace c_24 := c_24N
      replace r4 := RdL.mono eS64 r4
      replace r25 := RL.mono eS64 r25
      replace r37 := Rep.mono _ eS64 r37
      replace r38 := Rep.mono _ eS64 r38
      replace eS32 := eS32.trans eS64
      replace h := OP.forO h
      replace h := OP.fcall2 hF55 h
      have rx68 := Rep.mono _ eS64 rw67
      refine g_tup2 rfl g.sh rx68 fun w_69 w_70 r71 r72 => ?_
      cases (show w_69 = (.int lamp65.1) from r71)
      refine g_name (σ' := [some (.int many1), some v3, some (.ref p6), some w_35, some w_36, u29, none, none, none, some (.int lamp65.1), none]) rfl ?_
      refine g_next ?_
      refine g_name (σ' := [some (.int many1), some v3, some (.ref p6), some w_35, some w_36, u29, none, none, none, some (.int lamp65.1), some w_70]) rfl ?_
      refine g_end ?_
      refine ⟨rfl, ?_⟩
      refine c_yes ?_
      refine ift ?_
      refine c_tupE fun Q_73 hQ_73 => ?_
      refine c_cons ?_
      refine c_val (val_var rfl) ?_
      refine c_cons ?_
      refine c_call ?_
      refine c_args (va_cons (val_var rfl) va_nil) ?_
      have gL80 : ∀ l ∈ [], H l = none ∨ l ∈ [] := LM0
      refine ⟨S_62, _, _, rfl, g.sh, r72, (OP.of h).mono fun v74 h S_75 H_76 v78 gc77 r79 => ?_⟩
      replace c_24 := c_24.call gc77 NM0
      replace c_59 := c_59.call gc77 NM0
      replace r4 := RdL.mono gc77.ss r4
      replace r25 := RL.mono gc77.ss r25
      replace r37 := Rep.mono _ gc77.ss r37
      replace r38 := Rep.mono _ gc77.ss r38
      replace r72 := Rep.mono _ gc77.ss r72
      replace r60 := RL.mono gc77.ss r60
      replace eS32 := eS32.trans gc77.ss
      replace eS64 := eS64.trans gc77.ss
      replace g := g.call gc77 gL80
      refine c_nil ?_
      refine c_newtup (Q := Q_73) (vs := [(.int lamp65.1), v78]) g.sh (show 2 ≤ 1000 by decide) fun p81 S_82 H_83 gs84 ep85 => ?_
      refine q_eq hQ_73 ?_
      replace r4 := RdL.mono gs84.ss r4
      replace r25 := RL.mono gs84.ss r25
      replace r37 := Rep.mono _ gs84.ss r37
      replace r38 := Rep.mono _ gs84.ss r38
      replace r72 := Rep.mono _ gs84.ss r72
      replace r60 := RL.mono gs84.ss r60
      replace r79 := Rep.mono _ gs84.ss r79
      replace eS32 := eS32.trans gs84.ss
      replace eS64 := eS64.trans gs84.ss
      replace c_24 := c_24.call0 gs84
      replace c_59 := c_59.call0 gs84
      replace g := g.call0 gs84
      have r86 : ((qT2 (qI (K := K)) (q_Formula (K := K) T.c))).R S_82 (.ref p81) (lamp65.1, v74) := ⟨p81, _, _, rfl, ep85, rfl, r79⟩
      obtain ⟨g87, h⟩ := OP.grd h
      obtain ⟨l88, el88, h⟩ := OP.lt h
      refine c_acc g c_59 r60 r86 g87 el88 fun ws89 H_90 g91 c_92 w_93 ot94 => ?_
      replace c_24 := ot94 _ _ (by first | assumption | exact Ne.symm (by assumption)) c_24
      replace g := g91
      exact hN56 _ ⟨_, _, _, g, eS64, c_92, w_93, c_24, h⟩
    obtain ⟨ws58, acc5161, S_62, gN, eS64, c_59N, r60N, c_24N, h⟩ := p
    replace g := gN
    have c_59 := c_59N
    have r60 := r60N
    replace c_24 := c_24N
    replace r4 := RdL.mono eS64 r4
    replace r25 := RL.mono eS64 r25
    replace r37 := Rep.mono _ eS64 r37
    replace r38 := Rep.mono _ eS64 r38
    replace eS32 := eS32.trans eS64
    replace h := hB53 _ (OP.forO_nil h)
    refine g_name (σ' := [some (.int many1), some v3, some (.ref p6), some w_35, some w_36, some (.ref P_41), none, none, none, none, none]) rfl ?_
    refine z_dropE ?_
    refine c_bm (val_var rfl) (tyL c_24.h) ?_
    refine c_cons ?_
    refine c_make ?_
    refine c_cons ?_
    refine c_call ?_
    refine c_args (va_cons (val_var rfl) va_nil) ?_
    have gL101 : ∀ l ∈ [], H l = none ∨ l ∈ [] := LM0
    refine ⟨S_62, _, _, rfl, g.sh, r37, (OP.of h).mono fun v95 h S_96 H_97 v99 gc98 r100 => ?_⟩
    replace c_24 := c_24.call gc98 NM0
    replace c_59 := c_59.call gc98 NM0
    replace r4 := RdL.mono gc98.ss r4
    replace r25 := RL.mono gc98.ss r25
    replace r37 := Rep.mono _ gc98.ss r37
    replace r38 := Rep.mono _ gc98.ss r38
    replace r60 := RL.mono gc98.ss r60
    replace eS32 := eS32.trans gc98.ss
    replace g := g.call gc98 gL101
    refine c_cons ?_
    refine c_val (val_var rfl) ?_
    refine c_nil ?_
    refine make_in fun p102 dx103 H_104 e105 np106 ep107 => ?_
    have ne111 := c_24.ne np106
    have ne112 := c_59.ne np106
    have z110 := g.hnone np106
    have c_109 : Cel [] H S_96 H_104 p102 (.ins T.c.Move dx103 []) := Cel.own g e105 np106 ep107 rfl
    replace c_24 := c_24.ext e105
    replace c_59 := c_59.ext e105
    replace g := g.ext e105
    have gL122 : ∀ l ∈ [p102], H l = none ∨ l ∈ [] := (LM1 c_109.z LM0)
    refine ⟨S_96, _, _, _, _, _, _, rfl, g.sh, c_109.h, c_109.s, r100, (RdL.ofC c_59.h (NM1 (by first | assumption | exact Ne.symm (by assumption)) NM0) r60), (OP.of h).mono fun v113 h S_114 H_115 w_117 w_119 gc116 hp121 r118 r120 => ?_⟩
    replace c_24 := c_24.call gc116 (NM1 (by first | assumption | exact Ne.symm (by assumption)) NM0)
    replace c_59 := c_59.call gc116 (NM1 (by first | assumption | exact Ne.symm (by assumption)) NM0)
    replace r4 := RdL.mono gc116.ss r4
    replace r25 := RL.mono gc116.ss r25
    replace r37 := Rep.mono _ gc116.ss r37
    replace r38 := Rep.mono _ gc116.ss r38
    replace r60 := RL.mono gc116.ss r60
    replace r100 := Rep.mono _ gc116.ss r100
    replace eS32 := eS32.trans gc116.ss
    replace c_109 := c_109.mut gc116 hp121 rfl
    replace g := g.call gc116 gL122
    refine ⟨rfl, ?_⟩
    obtain ⟨S_123, g124, eS125, r126, ot127⟩ := fz_Move (c := T.c) g c_109 z110 (x := v113) r118 r120
    replace c_24 := ot127 _ _ (by first | assumption | exact Ne.symm (by assumption)) c_24
    replace c_59 := ot127 _ _ (by first | assumption | exact Ne.symm (by assumption)) c_59
    replace r4 := RdL.mono eS125 r4
    replace r25 := RL.mono eS125 r25
    replace r37 := Rep.mono _ eS125 r37
    replace r38 := Rep.mono _ eS125 r38
    replace r60 := RL.mono eS125 r60
    replace r100 := Rep.mono _ eS125 r100
    replace r118 := Rep.mono _ eS125 r118
    replace r120 := Rep.mono _ eS125 r120
    replace eS32 := eS32.trans eS125
    replace g := g124
    refine c_nil ?_
    obtain ⟨g128, h⟩ := OP.grd h
    obtain ⟨l129, el129, h⟩ := OP.lt h
    refine c_app g c_24 r25 r126 g128 el129 fun ws130 H_131 g132 c_133 w_134 ot135 => ?_
    replace c_59 := ot135 _ _ (by first | assumption | exact Ne.symm (by assumption)) c_59
    replace g := g132
    refine z_dropE ?_
    refine c_bm0 (val_var rfl) (tyL c_59.h) ?_
    refine c_clear (τ := (qT2 (qI (K := K)) (q_Formula (K := K) T.c))) g c_59 fun H_136 g137 c_138 w_139 ot140 => ?_
    replace c_133 := ot140 _ _ (by first | assumption | exact Ne.symm (by assumption)) c_133
    replace g := g137
    refine z_next ?_
    exact hN21 _ _ ⟨_, _, _, _, _, _, rfl, g, eS32, c_133, w_134, h⟩
  · intro σ' H_31 p
    obtain ⟨ws23, handed26, u27, u28, u29, S_30, rfl, gN, eS32, c_24N, r25N, h⟩ := p
    replace g := gN
    have c_24 := c_24N
    have r25 := r25N
    replace r4 := RdL.mono eS32 r4
    replace h := hB18 _ (OP.forO_nil h)
    refine z_setE ?_
    refine c_lstE fun Q_141 hQ_141 => ?_
    refine c_args (va_cons val_c (va_cons val_c (va_cons val_c (va_cons val_c (va_cons val_c (va_cons val_c va_nil)))))) ?_
    refine c_newlst (Q := Q_141) (vs := [(.str "a"), (.str "b"), (.str "c"), (.str "d"), (.str "e"), (.str "f")]) (show 6 ≤ 1000 by decide) fun p142 H_143 e144 np145 ep146 => ?_
    refine q_eq hQ_141 ?_
    have w_147 : RL (qS (K := K)) S_30 [(.str "a"), (.str "b"), (.str "c"), (.str "d"), (.str "e"), (.str "f")] ([("a" : Str), ("b" : Str), ("c" : Str), ("d" : Str), ("e" : Str), ("f" : Str)] : List Str) := (.cons rfl (.cons rfl (.cons rfl (.cons rfl (.cons rfl (.cons rfl .nil))))))
    have ne150 := c_24.ne np145
    have z149 := g.hnone np145
    have c_148 : Cel [] H S_30 H_143 p142 (.lst [(.str "a"), (.str "b"), (.str "c"), (.str "d"), (.str "e"), (.str "f")]) := Cel.own g e144 np145 ep146 rfl
    replace c_24 := c_24.ext e144
    replace g := g.ext e144
    obtain ⟨S_151, g152, eS153, r154, ot155⟩ := c_freeze g c_148 z149 w_147
    replace c_24 := ot155 _ _ (by first | assumption | exact Ne.symm (by assumption)) c_24
    replace r4 := RdL.mono eS153 r4
    replace r25 := RL.mono eS153 r25
    replace g := g152
    refine g_name (σ' := [some (.int many1), some v3, some (.ref p6), u27, u28, u29, some (.ref p142), none, none, none, none]) rfl ?_
    refine z_setE ?_
    refine c_make ?_
    refine c_cons ?_
    refine c_slice (val_var rfl) po0 (po1 (val_var rfl)) ?_
    refine (l_slice (LS.ofL g.sh r154) fun p156 ws157 H_158 e159 np160 ep161 rw162 => ?_)
    have ne165 := c_24.ne np160
    have z164 := g.hnone np160
    have c_163 : Cel [] H S_151 H_158 p156 (.lst ws157) := Cel.own g e159 np160 ep161 rfl
    replace c_24 := c_24.ext e159
    replace g := g.ext e159
    refine c_cons ?_
    refine c_lstE fun Q_166 hQ_166 => ?_
    refine c_args va_nil ?_
    refine c_newlst (Q := Q_166) (vs := []) (show 0 ≤ 1000 by decide) fun p167 H_168 e169 np170 ep171 => ?_
    refine q_eq hQ_166 ?_
    have w_172 : RL (qI (K := K)) S_151 [] ([] : List Int) := .nil
    have ne175 := c_24.ne np170
    have ne176 := c_163.ne np170
    have z174 := g.hnone np170
    have c_173 : Cel [] H S_151 H_168 p167 (.lst []) := Cel.own g e169 np170 ep171 rfl
    replace c_24 := c_24.ext e169
    replace c_163 := c_163.ext e169
    replace g := g.ext e169
    refine c_cons ?_
    refine c_lstE fun Q_177 hQ_177 => ?_
    refine c_cons ?_
    refine c_make ?_
    refine c_args (va_cons val_c va_nil) ?_
    refine make_in fun p178 dx179 H_180 e181 np182 ep183 => ?_
    have ne187 := c_24.ne np182
    have ne188 := c_163.ne np182
    have ne189 := c_173.ne np182
    have z186 := g.hnone np182
    have c_185 : Cel [] H S_151 H_180 p178 (.ins T.c.Lamp dx179 []) := Cel.own g e181 np182 ep183 rfl
    replace c_24 := c_24.ext e181
    replace c_163 := c_163.ext e181
    replace c_173 := c_173.ext e181
    replace g := g.ext e181
    have gL195 : ∀ l ∈ [p178], H l = none ∨ l ∈ [] := (LM1 c_185.z LM0)
    refine ⟨S_151, _, _, _, _, rfl, g.sh, c_185.h, c_185.s, T.l_Lamp, T.a_Lamp_at, (OP.of h).mono fun v190 h S_191 H_192 gc193 hp194 => ?_⟩
    replace c_24 := c_24.call gc193 (NM1 (by first | assumption | exact Ne.symm (by assumption)) NM0)
    replace c_163 := c_163.call gc193 (NM1 (by first | assumption | exact Ne.symm (by assumption)) NM0)
    replace c_173 := c_173.call gc193 (NM1 (by first | assumption | exact Ne.symm (by assumption)) NM0)
    replace r4 := RdL.mono gc193.ss r4
    replace r25 := RL.mono gc193.ss r25
    replace r154 := Rep.mono _ gc193.ss r154
    replace rw162 := RL.mono gc193.ss rw162
    replace w_172 := RL.mono gc193.ss w_172
    replace c_185 := c_185.mut gc193 hp194 rfl
    replace g := g.call gc193 gL195
    refine ⟨rfl, ?_⟩
    obtain ⟨S_196, g197, eS198, r199, ot200⟩ := fz_Formula_Lamp (c := T.c) g c_185 z186 (show ((qI (K := K))).R _ _ v190 from rfl)
    replace c_24 := ot200 _ _ (by first | assumption | exact Ne.symm (by assumption)) c_24
    replace c_163 := ot200 _ _ (by first | assumption | exact Ne.symm (by assumption)) c_163
    replace c_173 := ot200 _ _ (by first | assumption | exact Ne.symm (by assumption)) c_173
    replace r4 := RdL.mono eS198 r4
    replace r25 := RL.mono eS198 r25
    replace r154 := Rep.mono _ eS198 r154
    replace rw162 := RL.mono eS198 rw162
    replace w_172 := RL.mono eS198 w_172
    replace g := g197
    refine c_nil ?_
    refine c_newlst (Q := Q_177) (vs := [(.ref p178)]) (show 1 ≤ 1000 by decide) fun p201 H_202 e203 np204 ep205 => ?_
    refine q_eq hQ_177 ?_
    have w_206 : RL (q_Formula (K := K) T.c) S_196 [(.ref p178)] ([(O_Formula.Lamp v190)] : List O_Formula) := (.cons r199 .nil)
    have ne209 := c_24.ne np204
    have ne210 := c_163.ne np204
    have ne211 := c_173.ne np204
    have z208 := g.hnone np204
    have c_207 : Cel [] H S_196 H_202 p201 (.lst [(.ref p178)]) := Cel.own g e203 np204 ep205 rfl
    replace c_24 := c_24.ext e203
    replace c_163 := c_163.ext e203
    replace c_173 := c_173.ext e203
    replace g := g.ext e203
    refine c_cons ?_
    refine c_val (val_var rfl) ?_
    refine c_nil ?_
    refine make_in fun p212 dx213 H_214 e215 np216 ep217 => ?_
    have ne221 := c_24.ne np216
    have ne222 := c_163.ne np216
    have ne223 := c_173.ne np216
    have ne224 := c_207.ne np216
    have z220 := g.hnone np216
    have c_219 : Cel [] H S_196 H_214 p212 (.ins T.c.Machine dx213 []) := Cel.own g e215 np216 ep217 rfl
    replace c_24 := c_24.ext e215
    replace c_163 := c_163.ext e215
    replace c_173 := c_173.ext e215
    replace c_207 := c_207.ext e215
    replace g := g.ext e215
    have gL238 : ∀ l ∈ [p212], H l = none ∨ l ∈ [] := (LM1 c_219.z LM0)
    refine ⟨S_196, _, _, _, _, _, _, _, _, _, _, rfl, g.sh, c_219.h, c_219.s, (RdL.ofC c_163.h (NM1 (by first | assumption | exact Ne.symm (by assumption)) NM0) rw162), (RdL.ofC c_173.h (NM1 (by first | assumption | exact Ne.symm (by assumption)) NM0) w_172), (RdL.ofC c_207.h (NM1 (by first | assumption | exact Ne.symm (by assumption)) NM0) w_206), (RdL.ofC c_24.h (NM1 (by first | assumption | exact Ne.symm (by assumption)) NM0) r25), (OP.of h).mono fun v225 h S_226 H_227 w_229 w_231 w_233 w_235 gc228 hp237 r230 r232 r234 r236 => ?_⟩
    replace c_24 := c_24.call gc228 (NM1 (by first | assumption | exact Ne.symm (by assumption)) NM0)
    replace c_163 := c_163.call gc228 (NM1 (by first | assumption | exact Ne.symm (by assumption)) NM0)
    replace c_173 := c_173.call gc228 (NM1 (by first | assumption | exact Ne.symm (by assumption)) NM0)
    replace c_207 := c_207.call gc228 (NM1 (by first | assumption | exact Ne.symm (by assumption)) NM0)
    replace r4 := RdL.mono gc228.ss r4
    replace r25 := RL.mono gc228.ss r25
    replace r154 := Rep.mono _ gc228.ss r154
    replace rw162 := RL.mono gc228.ss rw162
    replace w_172 := RL.mono gc228.ss w_172
    replace w_206 := RL.mono gc228.ss w_206
    replace c_219 := c_219.mut gc228 hp237 rfl
    replace g := g.call gc228 gL238
    refine ⟨rfl, ?_⟩
    obtain ⟨S_239, g240, eS241, r242, ot243⟩ := fz_Machine (c := T.c) g c_219 z220 (x := v225) r230 r232 r234 r236
    replace c_24 := ot243 _ _ (by first | assumption | exact Ne.symm (by assumption)) c_24
    replace c_163 := ot243 _ _ (by first | assumption | exact Ne.symm (by assumption)) c_163
    replace c_173 := ot243 _ _ (by first | assumption | exact Ne.symm (by assumption)) c_173
    replace c_207 := ot243 _ _ (by first | assumption | exact Ne.symm (by assumption)) c_207
    replace r4 := RdL.mono eS241 r4
    replace r25 := RL.mono eS241 r25
    replace r154 := Rep.mono _ eS241 r154
    replace rw162 := RL.mono eS241 rw162
    replace w_172 := RL.mono eS241 w_172
    replace w_206 := RL.mono eS241 w_206
    replace r230 := Rep.mono _ eS241 r230
    replace r232 := Rep.mono _ eS241 r232
    replace r234 := Rep.mono _ eS241 r234
    replace r236 := Rep.mono _ eS241 r236
    replace g := g240
    refine g_name (σ' := [some (.int many1), some v3, some (.ref p6), u27, u28, u29, some (.ref p142), some (.ref p212), none, none, none]) rfl ?_
    refine z_setE ?_
    refine c_make ?_
    refine c_cons ?_
    refine c_slice (val_var rfl) po0 (po1 (val_var rfl)) ?_
    refine (l_slice (LS.ofL g.sh r154) fun p244 ws245 H_246 e247 np248 ep249 rw250 => ?_)
    have ne253 := c_24.ne np248
    have z252 := g.hnone np248
    have c_251 : Cel [] H S_239 H_246 p244 (.lst ws245) := Cel.own g e247 np248 ep249 rfl
    replace c_24 := c_24.ext e247
    replace g := g.ext e247
    refine c_cons ?_
    refine c_lstE fun Q_254 hQ_254 => ?_
    refine c_args va_nil ?_
    refine c_newlst (Q := Q_254) (vs := []) (show 0 ≤ 1000 by decide) fun p255 H_256 e257 np258 ep259 => ?_
    refine q_eq hQ_254 ?_
    have w_260 : RL (qI (K := K)) S_239 [] ([] : List Int) := .nil
    have ne263 := c_24.ne np258
    have ne264 := c_251.ne np258
    have z262 := g.hnone np258
    have c_261 : Cel [] H S_239 H_256 p255 (.lst []) := Cel.own g e257 np258 ep259 rfl
    replace c_24 := c_24.ext e257
    replace c_251 := c_251.ext e257
    replace g := g.ext e257
    refine c_cons ?_
    refine c_lstE fun Q_265 hQ_265 => ?_
    refine c_cons ?_
    refine c_make ?_
    refine c_args (va_cons val_c va_nil) ?_
    refine make_in fun p266 dx267 H_268 e269 np270 ep271 => ?_
    have ne275 := c_24.ne np270
    have ne276 := c_251.ne np270
    have ne277 := c_261.ne np270
    have z274 := g.hnone np270
    have c_273 : Cel [] H S_239 H_268 p266 (.ins T.c.Lamp dx267 []) := Cel.own g e269 np270 ep271 rfl
    replace c_24 := c_24.ext e269
    replace c_251 := c_251.ext e269
    replace c_261 := c_261.ext e269
    replace g := g.ext e269
    have gL283 : ∀ l ∈ [p266], H l = none ∨ l ∈ [] := (LM1 c_273.z LM0)
    refine ⟨S_239, _, _, _, _, rfl, g.sh, c_273.h, c_273.s, T.l_Lamp, T.a_Lamp_at, (OP.of h).mono fun v278 h S_279 H_280 gc281 hp282 => ?_⟩
    replace c_24 := c_24.call gc281 (NM1 (by first | assumption | exact Ne.symm (by assumption)) NM0)
    replace c_251 := c_251.call gc281 (NM1 (by first | assumption | exact Ne.symm (by assumption)) NM0)
    replace c_261 := c_261.call gc281 (NM1 (by first | assumption | exact Ne.symm (by assumption)) NM0)
    replace r4 := RdL.mono gc281.ss r4
    replace r25 := RL.mono gc281.ss r25
    replace r154 := Rep.mono _ gc281.ss r154
    replace r242 := Rep.mono _ gc281.ss r242
    replace rw250 := RL.mono gc281.ss rw250
    replace w_260 := RL.mono gc281.ss w_260
    replace c_273 := c_273.mut gc281 hp282 rfl
    replace g := g.call gc281 gL283
    refine ⟨rfl, ?_⟩
    obtain ⟨S_284, g285, eS286, r287, ot288⟩ := fz_Formula_Lamp (c := T.c) g c_273 z274 (show ((qI (K := K))).R _ _ v278 from rfl)
    replace c_24 := ot288 _ _ (by first | assumption | exact Ne.symm (by assumption)) c_24
    replace c_251 := ot288 _ _ (by first | assumption | exact Ne.symm (by assumption)) c_251
    replace c_261 := ot288 _ _ (by first | assumption | exact Ne.symm (by assumption)) c_261
    replace r4 := RdL.mono eS286 r4
    replace r25 := RL.mono eS286 r25
    replace r154 := Rep.mono _ eS286 r154
    replace r242 := Rep.mono _ eS286 r242
    replace rw250 := RL.mono eS286 rw250
    replace w_260 := RL.mono eS286 w_260
    replace g := g285
    refine c_nil ?_
    refine c_newlst (Q := Q_265) (vs := [(.ref p266)]) (show 1 ≤ 1000 by decide) fun p289 H_290 e291 np292 ep293 => ?_
    refine q_eq hQ_265 ?_
    have w_294 : RL (q_Formula (K := K) T.c) S_284 [(.ref p266)] ([(O_Formula.Lamp v278)] : List O_Formula) := (.cons r287 .nil)
    have ne297 := c_24.ne np292
    have ne298 := c_251.ne np292
    have ne299 := c_261.ne np292
    have z296 := g.hnone np292
    have c_295 : Cel [] H S_284 H_290 p289 (.lst [(.ref p266)]) := Cel.own g e291 np292 ep293 rfl
    replace c_24 := c_24.ext e291
    replace c_251 := c_251.ext e291
    replace c_261 := c_261.ext e291
    replace g := g.ext e291
    refine c_cons ?_
    refine c_lrE fun Q_300 hQ_300 => ?_
    refine c_val (val_var rfl) ?_
    refine (l_listRev (Q := Q_300) (LS.cel c_24.h r25) fun p301 ws302 H_303 e304 np305 ep306 rw307 => ?_)
    refine q_eq hQ_300 ?_
    have ne310 := c_24.ne np305
    have ne311 := c_251.ne np305
    have ne312 := c_261.ne np305
    have ne313 := c_295.ne np305
    have z309 := g.hnone np305
    have c_308 : Cel [] H S_284 H_303 p301 (.lst ws302) := Cel.own g e304 np305 ep306 rfl
    replace c_24 := c_24.ext e304
    replace c_251 := c_251.ext e304
    replace c_261 := c_261.ext e304
    replace c_295 := c_295.ext e304
    replace g := g.ext e304
    refine c_nil ?_
    refine make_in fun p314 dx315 H_316 e317 np318 ep319 => ?_
    have ne323 := c_24.ne np318
    have ne324 := c_251.ne np318
    have ne325 := c_261.ne np318
    have ne326 := c_295.ne np318
    have ne327 := c_308.ne np318
    have z322 := g.hnone np318
    have c_321 : Cel [] H S_284 H_316 p314 (.ins T.c.Machine dx315 []) := Cel.own g e317 np318 ep319 rfl
    replace c_24 := c_24.ext e317
    replace c_251 := c_251.ext e317
    replace c_261 := c_261.ext e317
    replace c_295 := c_295.ext e317
    replace c_308 := c_308.ext e317
    replace g := g.ext e317
    have gL341 : ∀ l ∈ [p314], H l = none ∨ l ∈ [] := (LM1 c_321.z LM0)
    refine ⟨S_284, _, _, _, _, _, _, _, _, _, _, rfl, g.sh, c_321.h, c_321.s, (RdL.ofC c_251.h (NM1 (by first | assumption | exact Ne.symm (by assumption)) NM0) rw250), (RdL.ofC c_261.h (NM1 (by first | assumption | exact Ne.symm (by assumption)) NM0) w_260), (RdL.ofC c_295.h (NM1 (by first | assumption | exact Ne.symm (by assumption)) NM0) w_294), (RdL.ofC c_308.h (NM1 (by first | assumption | exact Ne.symm (by assumption)) NM0) rw307), (OP.of h).mono fun v328 h S_329 H_330 w_332 w_334 w_336 w_338 gc331 hp340 r333 r335 r337 r339 => ?_⟩
    replace c_24 := c_24.call gc331 (NM1 (by first | assumption | exact Ne.symm (by assumption)) NM0)
    replace c_251 := c_251.call gc331 (NM1 (by first | assumption | exact Ne.symm (by assumption)) NM0)
    replace c_261 := c_261.call gc331 (NM1 (by first | assumption | exact Ne.symm (by assumption)) NM0)
    replace c_295 := c_295.call gc331 (NM1 (by first | assumption | exact Ne.symm (by assumption)) NM0)
    replace c_308 := c_308.call gc331 (NM1 (by first | assumption | exact Ne.symm (by assumption)) NM0)
    replace r4 := RdL.mono gc331.ss r4
    replace r25 := RL.mono gc331.ss r25
    replace r154 := Rep.mono _ gc331.ss r154
    replace r242 := Rep.mono _ gc331.ss r242
    replace rw250 := RL.mono gc331.ss rw250
    replace w_260 := RL.mono gc331.ss w_260
    replace w_294 := RL.mono gc331.ss w_294
    replace rw307 := RL.mono gc331.ss rw307
    replace c_321 := c_321.mut gc331 hp340 rfl
    replace g := g.call gc331 gL341
    refine ⟨rfl, ?_⟩
    obtain ⟨S_342, g343, eS344, r345, ot346⟩ := fz_Machine (c := T.c) g c_321 z322 (x := v328) r333 r335 r337 r339
    replace c_24 := ot346 _ _ (by first | assumption | exact Ne.symm (by assumption)) c_24
    replace c_251 := ot346 _ _ (by first | assumption | exact Ne.symm (by assumption)) c_251
    replace c_261 := ot346 _ _ (by first | assumption | exact Ne.symm (by assumption)) c_261
    replace c_295 := ot346 _ _ (by first | assumption | exact Ne.symm (by assumption)) c_295
    replace c_308 := ot346 _ _ (by first | assumption | exact Ne.symm (by assumption)) c_308
    replace r4 := RdL.mono eS344 r4
    replace r25 := RL.mono eS344 r25
    replace r154 := Rep.mono _ eS344 r154
    replace r242 := Rep.mono _ eS344 r242
    replace rw250 := RL.mono eS344 rw250
    replace w_260 := RL.mono eS344 w_260
    replace w_294 := RL.mono eS344 w_294
    replace rw307 := RL.mono eS344 rw307
    replace r333 := Rep.mono _ eS344 r333
    replace r335 := Rep.mono _ eS344 r335
    replace r337 := Rep.mono _ eS344 r337
    replace r339 := Rep.mono _ eS344 r339
    replace g := g343
    refine g_name (σ' := [some (.int many1), some v3, some (.ref p6), u27, u28, u29, some (.ref p142), some (.ref p212), some (.ref p314), none, none]) rfl ?_
    refine z_dropE ?_
    refine c_bm0 (val_var rfl) (tyL c_24.h) ?_
    refine c_clear (τ := (q_Move (K := K) T.c)) g c_24 fun H_347 g348 c_349 w_350 ot351 => ?_
    replace g := g348
    refine z_retE ?_
    refine c_tupE fun Q_352 hQ_352 => ?_
    refine c_args (va_cons (val_var rfl) (va_cons (val_var rfl) va_nil)) ?_
    refine c_newtup (Q := Q_352) (vs := [(.ref p212), (.ref p314)]) g.sh (show 2 ≤ 1000 by decide) fun p353 S_354 H_355 gs356 ep357 => ?_
    refine q_eq hQ_352 ?_
    replace r4 := RdL.mono gs356.ss r4
    replace w_350 := RL.mono gs356.ss w_350
    replace r154 := Rep.mono _ gs356.ss r154
    replace r242 := Rep.mono _ gs356.ss r242
    replace r345 := Rep.mono _ gs356.ss r345
    replace c_349 := c_349.call0 gs356
    replace g := g.call0 gs356
    have r358 : ((qT2 (q_Machine (K := K) T.c) (q_Machine (K := K) T.c))).R S_354 (.ref p353) (v225, v328) := ⟨p353, _, _, rfl, ep357, r242, r345⟩
    have h := OP.fin hA h
    exact h _ _ _ g r358

@[irreducible] def m__law_of_others_NoStep : Option Bool :=
ifo false (
none) (
some false)
abbrev s__law_of_others : Stmt := top 46
abbrev sn__law_of_others : List Str := ["_law_e"]
theorem sc__law_of_others : FnScope ["_law_e"] ["_law_e"] (defScope (s__law_of_others)) := ⟨rfl, rfl, rfl, by decide +kernel, rfl, by decide +kernel, by decide +kernel⟩
theorem ok__law_of_others_NoStep (T : Tx K mg) : FnE P w K mg base 1 T.f__law_of_others T.d__law_of_others "_law_e" T.c.NoStep m__law_of_others_NoStep := by
  refine fnE_of T.F__law_of_others sc__law_of_others (fun cdv A outer s H Q E a oe S hz hf gS h => ?_)
  obtain ⟨A_, hA⟩ : ∃ A_, A_ = (fun r : Bool => ∀ S' H', Grow [] S H S' H' → Q (.bl r) H') := ⟨_, rfl⟩
  replace h : OP m__law_of_others_NoStep A_ := hA ▸ h
  rw [m__law_of_others_NoStep] at h
  refine ⟨_, (pss_cons (ps_if (pt_val (pe_callB (call_isETX (List.mem_cons_self) hz hf) rfl T.n_isinstance bt_isinstance (pa_cons (pe_var (i := 0) rfl (.inl rfl) rfl rfl) (pa_cons (pe_tup (pa_cons (pe_glob (v := .ref T.c.NoBar) rfl T.m_NoBar (show Value.ref T.c.NoBar = _ from rfl)) (pa_cons (pe_glob (v := .ref T.c.NoChart) rfl T.m_NoChart (show Value.ref T.c.NoChart = _ from rfl)) (pa_cons (pe_glob (v := .ref T.c.NoFence) rfl T.m_NoFence (show Value.ref T.c.NoFence = _ from rfl)) (pa_cons (pe_glob (v := .ref T.c.NoFormula) rfl T.m_NoFormula (show Value.ref T.c.NoFormula = _ from rfl)) (pa_cons (pe_glob (v := .ref T.c.NoFrame) rfl T.m_NoFrame (show Value.ref T.c.NoFrame = _ from rfl)) (pa_cons (pe_glob (v := .ref T.c.NoLine) rfl T.m_NoLine (show Value.ref T.c.NoLine = _ from rfl)) pa_nil))))))) pa_nil)))) (pss_cons (ps_ret pe_bl)
      pss_nil) pss_nil)
      (pss_cons (ps_ret (pe_callB (call_isETX (List.mem_cons_self) hz hf) rfl T.n_isinstance bt_isinstance (pa_cons (pe_var (i := 0) rfl (.inl rfl) rfl rfl) (pa_cons (pe_tup (pa_cons (pe_glob (v := .ref T.c.NoMachine) rfl T.m_NoMachine (show Value.ref T.c.NoMachine = _ from rfl)) (pa_cons (pe_glob (v := .ref T.c.NoName) rfl T.m_NoName (show Value.ref T.c.NoName = _ from rfl)) (pa_cons (pe_glob (v := .ref T.c.NotShut) rfl T.m_NotShut (show Value.ref T.c.NotShut = _ from rfl)) (pa_cons (pe_glob (v := .ref T.c.NothingLeft) rfl T.m_NothingLeft (show Value.ref T.c.NothingLeft = _ from rfl)) (pa_cons (pe_glob (v := .ref T.c.TooMany) rfl T.m_TooMany (show Value.ref T.c.TooMany = _ from rfl)) pa_nil)))))) pa_nil))))
      pss_nil)), ?_⟩
  refine z_start (σ := [some (.ref a)]) rfl ?_
  have g : Grow [] S H S H := Grow.refl gS
  refine z_ifE ?_
  refine c_B ?_
  refine c_cb ?_
  refine c_cons (c_val (val_var rfl) ?_)
  refine c_cons ?_
  refine c_tupE fun Q_1 hQ_1 => ?_
  refine c_args (va_cons val_c (va_cons val_c (va_cons val_c (va_cons val_c (va_cons val_c (va_cons val_c va_nil)))))) ?_
  refine c_newtup (Q := Q_1) (vs := [.ref T.c.NoBar, .ref T.c.NoChart, .ref T.c.NoFence, .ref T.c.NoFormula, .ref T.c.NoFrame, .ref T.c.NoLine]) g.sh (show 6 ≤ 1000 by decide) fun p2 S_3 H_4 gs5 ep6 => ?_
  refine q_eq hQ_1 ?_
  replace g := g.call0 gs5
  refine c_nil ?_
  refine ⟨_, p2, _, _, false, rfl, rfl, T.xc_NoStep, rfl, g.sh _ _ ep6, (.cons (.own _) (.cons (.own _) (.cons (.own _) (.cons (.own _) (.cons (.own _) (.cons (.own _) .nil)))))), (kitAny_f T.i_NoStep_NoBar (kitAny_f T.i_NoStep_NoChart (kitAny_f T.i_NoStep_NoFence (kitAny_f T.i_NoStep_NoFormula (kitAny_f T.i_NoStep_NoFrame (kitAny_f T.i_NoStep_NoLine rfl)))))), ?_⟩
  refine ⟨_, rfl, ?_⟩
  refine ifb (fun hc => ?_) (fun hc => ?_)
  · cases hc
  · replace h := OP.ite0 hc h
    refine z_nextR ?_
    refine z_retE ?_
    refine c_cb ?_
    refine c_cons (c_val (val_var rfl) ?_)
    refine c_cons ?_
    refine c_tupE fun Q_7 hQ_7 => ?_
    refine c_args (va_cons val_c (va_cons val_c (va_cons val_c (va_cons val_c (va_cons val_c va_nil))))) ?_
    refine c_newtup (Q := Q_7) (vs := [.ref T.c.NoMachine, .ref T.c.NoName, .ref T.c.NotShut, .ref T.c.NothingLeft, .ref T.c.TooMany]) g.sh (show 5 ≤ 1000 by decide) fun p8 S_9 H_10 gs11 ep12 => ?_
    refine q_eq hQ_7 ?_
    replace g := g.call0 gs11
    refine c_nil ?_
    refine ⟨_, p8, _, _, false, rfl, rfl, T.xc_NoStep, rfl, g.sh _ _ ep12, (.cons (.own _) (.cons (.own _) (.cons (.own _) (.cons (.own _) (.cons (.own _) .nil))))), (kitAny_f T.i_NoStep_NoMachine (kitAny_f T.i_NoStep_NoName (kitAny_f T.i_NoStep_NotShut (kitAny_f T.i_NoStep_NothingLeft (kitAny_f T.i_NoStep_TooMany rfl))))), ?_⟩
    have h := OP.fin hA h
    exact h _ _ g

@[irreducible] def m__law_refused (machine1 : O_Machine) (stand4 : Int) (picks5 : (List Int)) : Option Bool :=
(m_Machine_walked machine1 stand4 picks5).bind fun v18 =>
exE v18 (fun c_23 =>
grd (c_23 = 3) <|
(m_Machine_walked machine1 stand4 picks5).bind fun v50 =>
exE v50 (fun c_55 =>
grd (c_55 = 3) <|
(ifo true (
(m__law_of_others_NoStep).bind fun v81 =>
some (!v81)) (
some false)).bind fun b85 =>
some (true && b85)) fun v56 =>
some (true && false)) fun v24 =>
(m_Machine_walked machine1 stand4 picks5).bind fun v103 =>
exE v103 (fun c_108 =>
grd (c_108 = 3) <|
(ifo true (
(m__law_of_others_NoStep).bind fun v134 =>
some (!v134)) (
some false)).bind fun b138 =>
some (false && b138)) fun v109 =>
some (false && false)
abbrev s__law_refused : Stmt := top 47
abbrev sn__law_refused : List Str := ["_law_machine", "_law_stand", "_law_picks", "_law_refused_here", "_law_rightly", "_law_e"]
theorem sc__law_refused : FnScope ["_law_machine", "_law_stand", "_law_picks", "_law_refused_here", "_law_rightly", "_law_e"] ["_law_machine", "_law_stand", "_law_picks"] (defScope (s__law_refused)) := ⟨rfl, rfl, rfl, by decide +kernel, rfl, by decide +kernel, by decide +kernel⟩
def p__law_refused (K : PySem.W.Frag) (c : Cl) : Sp := fun vs H Q E => ∃ (S : Hp) (v2 : V) (machine1 : O_Machine) (stand4 : Int) (v6 : V) (picks5 : (List Int)), vs = [v2, .int stand4, v6] ∧ Same S H ∧ ((q_Machine (K := K) c)).R S v2 machine1 ∧ RdL (qI (K := K)) [] S H v6 picks5 ∧ OP (m__law_refused machine1 stand4 picks5) (fun r => ∀ (S' H' : Hp), Grow [] S H S' H' → Q (.bl r) H')
theorem ok__law_refused (T : Tx K mg) : FnOk P w K mg base CX0 104 T.f__law_refused T.d__law_refused ["_law_machine", "_law_stand", "_law_picks"] (p__law_refused K T.c) := by
  refine T.F__law_refused.ok sc__law_refused (fun vs H Q E h => by obtain ⟨S, v2, machine1, stand4, v6, picks5, rfl, _⟩ := h; rfl) (fun cdv A outer s H vs Q E hr h => ?_)
  obtain ⟨S, v2, machine1, stand4, v6, picks5, rfl, gS, r3, r7, h⟩ := h
  obtain ⟨A_, hA⟩ : ∃ A_, A_ = (fun r : Bool => ∀ (S' H' : Hp), Grow [] S H S' H' → Q (.bl r) H') := ⟨_, rfl⟩
  replace h : OP (m__law_refused machine1 stand4 picks5) A_ := hA ▸ h
  rw [m__law_refused] at h
  have hr1 : Room 1 _ := hr.mono (by decide)
  have hr103 : Room 103 _ := hr.mono (by decide)
  refine ⟨_, (pss_cons (ps_set (i := 3) sc__law_refused.nd rfl (.inl rfl) pe_bl)
      (pss_cons (ps_try_only (c := .ref T.c.NoStep) rfl rfl ⟨rfl, by decide, .inl T.m_NoStep⟩ Z.takesN (fun W pn xe tk po => (pss_cons (ps_expr (pe_methX (pe_var (i := 0) rfl (.inl rfl) rfl rfl) T.l_Machine T.t_Machine_walked (ok_Machine_walked T) hr103 T.b_Machine_walked (fun σ => passAt tk σ) (pa_cons (pe_var (i := 1) rfl (.inl rfl) rfl rfl) (pa_cons (pe_callTy (show CallR _ (.type "list") (rListO K) from call_list_of) rfl T.n_list bt_list (pa_cons (pe_var (i := 2) rfl (.inl rfl) rfl rfl) pa_nil)) pa_nil))))
      pss_nil)) (fun a oe cls d pn hz hf => (pss_cons (ps_set (i := 3) sc__law_refused.nd rfl (.inl rfl) pe_bl)
      pss_nil)))
      (pss_cons (ps_set (i := 4) sc__law_refused.nd rfl (.inl rfl) pe_bl)
      (pss_cons (ps_tryA (i := 5) (c := .ref T.c.EverError) rfl rfl sc__law_refused.nd rfl rfl ⟨rfl, by decide, .inl T.m_EverError⟩ (fun W pn xe tk po => (pss_cons (ps_expr (pe_methX (pe_var (i := 0) rfl (.inl rfl) rfl rfl) T.l_Machine T.t_Machine_walked (ok_Machine_walked T) hr103 T.b_Machine_walked (fun σ => passAt tk σ) (pa_cons (pe_var (i := 1) rfl (.inl rfl) rfl rfl) (pa_cons (pe_callTy (show CallR _ (.type "list") (rListO K) from call_list_of) rfl T.n_list bt_list (pa_cons (pe_var (i := 2) rfl (.inl rfl) rfl rfl) pa_nil)) pa_nil))))
      pss_nil)) (fun a oe cls d pn hz hf => (pss_cons (ps_set (i := 4) sc__law_refused.nd rfl (.inl rfl) (pe_and (pe_callB (call_isES hz hf) rfl T.n_isinstance bt_isinstance (pa_cons (pe_var (i := 5) rfl (.inl rfl) rfl rfl) (pa_cons (pe_bltn (v := .ty "ValueError") rfl T.n_ValueError bt_ValueError rfl) pa_nil))) (pe_one (pe_not (pe_callE (ok__law_of_others_NoStep T) (⟨hr1.dp, hr1.un⟩ : L2H.RoomH _ _) (List.mem_cons_self) hz hf rfl T.m__law_of_others T.F__law_of_others.kp T.b__law_of_others (pa_cons (pe_var (i := 5) rfl (.inl rfl) rfl rfl) pa_nil))))))
      pss_nil)))
      (pss_cons (ps_ret (pe_and (pe_var (i := 3) rfl (.inl rfl) rfl rfl) (pe_one (pe_var (i := 4) rfl (.inl rfl) rfl rfl))))
      pss_nil))))), ?_⟩
  refine z_start (σ := [some v2, some (.int stand4), some v6, none, none, none]) rfl ?_
  have g : Grow [] S H S H := Grow.refl gS
  refine z_set (w := (.bl false)) (σ' := [some v2, some (.int stand4), some v6, some (.bl false), none, none]) val_c rfl rfl ?_
  refine z_seqE ?_
  refine z_dropE ?_
  refine c_methX (val_var rfl) (in_Machine (Rep.mono _ g.sh r3)) (m := "walked") (by decide) ?_
  refine c_cons ?_
  refine c_val (val_var rfl) ?_
  refine c_cons ?_
  refine c_cbE fun Q_8 hQ_8 => ?_
  refine c_args (va_cons (val_var rfl) va_nil) ?_
  refine (l_list (Q := Q_8) (LS.rd g r7) fun p9 ws10 H_11 e12 np13 ep14 rw15 => ?_)
  refine q_eq hQ_8 ?_
  have z17 := g.hnone np13
  have c_16 : Cel [] H S H_11 p9 (.lst ws10) := Cel.own g e12 np13 ep14 rfl
  replace g := g.ext e12
  refine c_nil ?_
  have gL22 : ∀ l ∈ [], H l = none ∨ l ∈ [] := LM0
  refine ⟨S, _, _, _, _, _, rfl, g.sh, r3, (RdL.ofC c_16.h NM0 rw15), (OP.of h).mono fun v18 h => ?_⟩
  refine EXP.sp h (fun c_23 _ h S_34 H_35 gc36 => ?_) (fun v24 _ h S_25 H_26 p28 ws29 gc27 np30 hp31 sp32 wf33 => ?_)
  · replace c_16 := c_16.call gc36 NM0
    replace r3 := Rep.mono _ gc36.ss r3
    replace r7 := RdL.mono gc36.ss r7
    replace rw15 := RL.mono gc36.ss rw15
    replace g := g.call gc36 gL22
    replace h := OP.grd h
    obtain ⟨hcx, h⟩ := h
    subst hcx
    refine ⟨true, T.x_NoStep_NoStep, fun _ a37 na38 => ?_, fun q => nomatch q⟩
    refine z_set (w := (.bl true)) (σ' := [some v2, some (.int stand4), some v6, some (.bl true), none, none]) val_c rfl rfl ?_
    refine z_nextR ?_
    refine z_set (w := (.bl false)) (σ' := [some v2, some (.int stand4), some v6, some (.bl true), some (.bl false), none]) val_c rfl rfl ?_
    refine z_seqE ?_
    refine z_dropE ?_
    refine c_methX (val_var rfl) (in_Machine (Rep.mono _ g.sh r3)) (m := "walked") (by decide) ?_
    refine c_cons ?_
    refine c_val (val_var rfl) ?_
    refine c_cons ?_
    refine c_cbE fun Q_39 hQ_39 => ?_
    refine c_args (va_cons (val_var rfl) va_nil) ?_
    refine (l_list (Q := Q_39) (LS.rd g r7) fun p40 ws41 H_42 e43 np44 ep45 rw46 => ?_)
    refine q_eq hQ_39 ?_
    have ne49 := c_16.ne np44
    have z48 := g.hnone np44
    have c_47 : Cel [] H S_34 H_42 p40 (.lst ws41) := Cel.own g e43 np44 ep45 rfl
    replace c_16 := c_16.ext e43
    replace g := g.ext e43
    refine c_nil ?_
    have gL54 : ∀ l ∈ [], H l = none ∨ l ∈ [] := LM0
    refine ⟨S_34, _, _, _, _, _, rfl, g.sh, r3, (RdL.ofC c_47.h NM0 rw46), (OP.of h).mono fun v50 h => ?_⟩
    refine EXP.sp h (fun c_55 _ h S_66 H_67 gc68 => ?_) (fun v56 _ h S_57 H_58 p60 ws61 gc59 np62 hp63 sp64 wf65 => ?_)
    · replace c_16 := c_16.call gc68 NM0
      replace c_47 := c_47.call gc68 NM0
      replace r3 := Rep.mono _ gc68.ss r3
      replace r7 := RdL.mono gc68.ss r7
      replace rw15 := RL.mono gc68.ss rw15
      replace rw46 := RL.mono gc68.ss rw46
      replace g := g.call gc68 gL54
      replace h := OP.grd h
      obtain ⟨hcx, h⟩ := h
      subst hcx
      refine ⟨T.x_NoStep_EverError, fun a69 na70 => ?_⟩
      refine z_suite (σ' := [some v2, some (.int stand4), some v6, some (.bl true), some (.bl false), some (.ref a69)]) rfl fun N71 _ _ hN72 => ?_
      refine z_setE ?_
      obtain ⟨B73, h, hB74⟩ := OP.cut h
      refine c_cutV (fun b H' => ∃ (S_77 : Hp), Grow [] S H S_77 H' ∧ Same S_66 S_77 ∧ Cel [] H S_77 H' p9 (.lst ws10) ∧ Cel [] H S_77 H' p40 (.lst ws41) ∧ B73 b) (fun q75 hq76 => ?_) ?_
      · have sn80 := Same.refl S_66
        refine c_andV ?_
        refine c_val (v_isE T.xc_NoStep (val_var rfl) val_c (.ty _) (kit_bt meta_ValueError T.ib_NoStep_ValueError)) ?_
        refine ⟨_, rfl, ?_⟩
        refine ifb (fun hc => ?_) (fun hc => ?_)
        · replace h := OP.ite1 hc h
          refine c_notV ?_
          refine c_callE (val_var rfl) g.sh ?_
          refine (OP.of h).mono fun v81 h => ?_
          intro S_82 H_83 gc84
          replace r3 := Rep.mono _ gc84.ss r3
          replace r7 := RdL.mono gc84.ss r7
          replace rw15 := RL.mono gc84.ss rw15
          replace rw46 := RL.mono gc84.ss rw46
          replace sn80 := sn80.trans gc84.ss
          replace c_16 := c_16.call0 gc84
          replace c_47 := c_47.call0 gc84
          replace g := g.call0 gc84
          refine ⟨_, rfl, ?_⟩
          exact hq76 _ _ ⟨_, g, sn80, c_16, c_47, h⟩
        · replace h := OP.ite0 hc h
          exact hq76 _ _ ⟨_, g, sn80, c_16, c_47, h⟩
      intro b85 H_78 p
      obtain ⟨S_77, gN, eS79, c_16N, c_47N, h⟩ := p
      replace g := gN
      replace c_16 := c_16N
      replace c_47 := c_47N
      replace r3 := Rep.mono _ eS79 r3
      replace r7 := RdL.mono eS79 r7
      replace rw15 := RL.mono eS79 rw15
      replace rw46 := RL.mono eS79 rw46
      replace h := hB74 _ h
      refine g_name (σ' := [some v2, some (.int stand4), some v6, some (.bl true), some (.bl b85), some (.ref a69)]) rfl ?_
      refine z_next ?_
      refine hN72 _ _ ?_
      refine z_sl (σ' := [some v2, some (.int stand4), some v6, some (.bl true), some (.bl b85), none]) rfl ?_
      refine z_ret (v_and (val_var rfl) (val_var rfl)) ?_
      have h := OP.fin hA h
      exact h _ _ g
    have ne86 := c_16.ne np62
    have ne87 := c_47.ne np62
    have z88 := g.hnone np62
    replace c_16 := c_16.call gc59 NM0
    replace c_47 := c_47.call gc59 NM0
    replace r3 := Rep.mono _ gc59.ss r3
    replace r7 := RdL.mono gc59.ss r7
    replace rw15 := RL.mono gc59.ss rw15
    replace rw46 := RL.mono gc59.ss rw46
    have c_89 : Cel [] H S_57 H_58 p60 (.lst ws61) := ⟨hp63, sp64, .inl z88, rfl⟩
    replace g := g.call gc59 gL54
    refine z_nextR ?_
    refine z_ret (v_and (val_var rfl) (val_var rfl)) ?_
    have h := OP.fin hA h
    exact h _ _ g
  have ne90 := c_16.ne np30
  have z91 := g.hnone np30
  replace c_16 := c_16.call gc27 NM0
  replace r3 := Rep.mono _ gc27.ss r3
  replace r7 := RdL.mono gc27.ss r7
  replace rw15 := RL.mono gc27.ss rw15
  have c_92 : Cel [] H S_25 H_26 p28 (.lst ws29) := ⟨hp31, sp32, .inl z91, rfl⟩
  replace g := g.call gc27 gL22
  refine z_nextR ?_
  refine z_set (w := (.bl false)) (σ' := [some v2, some (.int stand4), some v6, some (.bl false), some (.bl false), none]) val_c rfl rfl ?_
  refine z_seqE ?_
  refine z_dropE ?_
  refine c_methX (val_var rfl) (in_Machine (Rep.mono _ g.sh r3)) (m := "walked") (by decide) ?_
  refine c_cons ?_
  refine c_val (val_var rfl) ?_
  refine c_cons ?_
  refine c_cbE fun Q_93 hQ_93 => ?_
  refine c_args (va_cons (val_var rfl) va_nil) ?_
  refine (l_list (Q := Q_93) (LS.rd g r7) fun p94 ws95 H_96 e97 np98 ep99 rw100 => ?_)
  refine q_eq hQ_93 ?_
  have z102 := g.hnone np98
  have c_101 : Cel [] H S_25 H_96 p94 (.lst ws95) := Cel.own g e97 np98 ep99 rfl
  replace g := g.ext e97
  refine c_nil ?_
  have gL107 : ∀ l ∈ [], H l = none ∨ l ∈ [] := LM0
  refine ⟨S_25, _, _, _, _, _, rfl, g.sh, r3, (RdL.ofC c_101.h NM0 rw100), (OP.of h).mono fun v103 h => ?_⟩
  refine EXP.sp h (fun c_108 _ h S_119 H_120 gc121 => ?_) (fun v109 _ h S_110 H_111 p113 ws114 gc112 np115 hp116 sp117 wf118 => ?_)
  · replace c_101 := c_101.call gc121 NM0
    replace r3 := Rep.mono _ gc121.ss r3
    replace r7 := RdL.mono gc121.ss r7
    replace rw100 := RL.mono gc121.ss rw100
    replace g := g.call gc121 gL107
    replace h := OP.grd h
    obtain ⟨hcx, h⟩ := h
    subst hcx
    refine ⟨T.x_NoStep_EverError, fun a122 na123 => ?_⟩
    refine z_suite (σ' := [some v2, some (.int stand4), some v6, some (.bl false), some (.bl false), some (.ref a122)]) rfl fun N124 _ _ hN125 => ?_
    refine z_setE ?_
    obtain ⟨B126, h, hB127⟩ := OP.cut h
    refine c_cutV (fun b H' => ∃ (S_130 : Hp), Grow [] S H S_130 H' ∧ Same S_119 S_130 ∧ Cel [] H S_130 H' p94 (.lst ws95) ∧ B126 b) (fun q128 hq129 => ?_) ?_
    · have sn133 := Same.refl S_119
      refine c_andV ?_
      refine c_val (v_isE T.xc_NoStep (val_var rfl) val_c (.ty _) (kit_bt meta_ValueError T.ib_NoStep_ValueError)) ?_
      refine ⟨_, rfl, ?_⟩
      refine ifb (fun hc => ?_) (fun hc => ?_)
      · replace h := OP.ite1 hc h
        refine c_notV ?_
        refine c_callE (val_var rfl) g.sh ?_
        refine (OP.of h).mono fun v134 h => ?_
        intro S_135 H_136 gc137
        replace r3 := Rep.mono _ gc137.ss r3
        replace r7 := RdL.mono gc137.ss r7
        replace rw100 := RL.mono gc137.ss rw100
        replace sn133 := sn133.trans gc137.ss
        replace c_101 := c_101.call0 gc137
        replace g := g.call0 gc137
        refine ⟨_, rfl, ?_⟩
        exact hq129 _ _ ⟨_, g, sn133, c_101, h⟩
      · replace h := OP.ite0 hc h
        exact hq129 _ _ ⟨_, g, sn133, c_101, h⟩
    intro b138 H_131 p
    obtain ⟨S_130, gN, eS132, c_101N, h⟩ := p
    replace g := gN
    replace c_101 := c_101N
    replace r3 := Rep.mono _ eS132 r3
    replace r7 := RdL.mono eS132 r7
    replace rw100 := RL.mono eS132 rw100
    replace h := hB127 _ h
    refine g_name (σ' := [some v2, some (.int stand4), some v6, some (.bl false), some (.bl b138), some (.ref a122)]) rfl ?_
    refine z_next ?_
    refine hN125 _ _ ?_
    refine z_sl (σ' := [some v2, some (.int stand4), some v6, some (.bl false), some (.bl b138), none]) rfl ?_
    refine z_ret (v_and (val_var rfl) (val_var rfl)) ?_
    have h := OP.fin hA h
    exact h _ _ g
  have ne139 := c_101.ne np115
  have z140 := g.hnone np115
  replace c_101 := c_101.call gc112 NM0
  replace r3 := Rep.mono _ gc112.ss r3
  replace r7 := RdL.mono gc112.ss r7
  replace rw100 := RL.mono gc112.ss rw100
  have c_141 : Cel [] H S_110 H_111 p113 (.lst ws114) := ⟨hp116, sp117, .inl z140, rfl⟩
  replace g := g.call gc112 gL107
  refine z_nextR ?_
  refine z_ret (v_and (val_var rfl) (val_var rfl)) ?_
  have h := OP.fin hA h
  exact h _ _ g

@[irreducible] def m__law_lit (stand1 : Int) (lamp2 : Int) : Option Bool :=
grd (gPow 1 lamp2) <|
grd (gDivW (shl 1 lamp2)) <|
some (decide (((stand1 / (shl 1 lamp2)) % 2) = 1))
abbrev s__law_lit : Stmt := top 36
abbrev sn__law_lit : List Str := ["_law_stand", "_law_lamp"]
theorem sc__law_lit : FnScope ["_law_stand", "_law_lamp"] ["_law_stand", "_law_lamp"] (defScope (s__law_lit)) := ⟨rfl, rfl, rfl, by decide +kernel, rfl, by decide +kernel, by decide +kernel⟩
def p__law_lit (K : PySem.W.Frag) (c : Cl) : Sp := fun vs H Q E => ∃ (stand1 : Int) (lamp2 : Int), vs = [.int stand1, .int lamp2] ∧ OP (m__law_lit stand1 lamp2) (fun r => Q (.bl r) H)
theorem ok__law_lit (T : Tx K mg) : FnOk P w K mg base CX0 1 T.f__law_lit T.d__law_lit ["_law_stand", "_law_lamp"] (p__law_lit K T.c) := by
  refine T.F__law_lit.ok sc__law_lit (fun vs H Q E h => by obtain ⟨stand1, lamp2, rfl, _⟩ := h; rfl) (fun cdv A outer s H vs Q E hr h => ?_)
  obtain ⟨stand1, lamp2, rfl, h⟩ := h
  obtain ⟨A_, hA⟩ : ∃ A_, A_ = (fun r : Bool => Q (.bl r) H) := ⟨_, rfl⟩
  replace h : OP (m__law_lit stand1 lamp2) A_ := hA ▸ h
  rw [m__law_lit] at h
  refine ⟨_, (pss_cons (ps_ret (pe_cmpR op_eq (pe_op op_mod (pe_op op_fdivW (pe_var (i := 0) rfl (.inl rfl) rfl rfl) (pe_op op_shl pe_int (pe_var (i := 1) rfl (.inl rfl) rfl rfl))) pe_int) pe_int (nomark _)))
      pss_nil), ?_⟩
  refine z_start (σ := [some (.int stand1), some (.int lamp2)]) rfl ?_
  have g : Grow [] H H H H := Grow.refl (Same.refl _)
  obtain ⟨g3, h⟩ := OP.grd h
  obtain ⟨g4, h⟩ := OP.grd h
  refine z_ret (v_eqI (v_o2c (v_o2c (val_var rfl) (v_o2c val_c (val_var rfl) g3) (gDivW.ok g4)) val_c (show (0 : Int) < 2 by decide)) val_c) ?_
  have h := OP.fin hA h
  exact h

@[irreducible] def m__law_due (recipe_here1 : (Int × Int × Int)) (stand4 : Int) : Option Bool :=
(m__law_lit stand4 recipe_here1.2.1).bind fun v5 =>
(m__law_lit stand4 recipe_here1.2.2).bind fun v6 =>
ifo (decide (recipe_here1.1 < 2)) (
some (decide (v5 = (decide (recipe_here1.1 = 0))))) (
ifo (decide (recipe_here1.1 = 2)) (
some (v5 && (!v6))) (
ifo (decide (recipe_here1.1 = 3)) (
some (v5 || v6)) (
ifo (decide (recipe_here1.1 = 4)) (
some (!(decide (v5 = v6)))) (
some ((decide (recipe_here1.1 = 5)) || (!(v5 && v6)))))))
abbrev s__law_due : Stmt := top 39
abbrev sn__law_due : List Str := ["_law_recipe_here", "_law_stand", "_law_one", "_law_other"]
theorem sc__law_due : FnScope ["_law_recipe_here", "_law_stand", "_law_one", "_law_other"] ["_law_recipe_here", "_law_stand"] (defScope (s__law_due)) := ⟨rfl, rfl, rfl, by decide +kernel, rfl, by decide +kernel, by decide +kernel⟩
def p__law_due (K : PySem.W.Frag) (c : Cl) : Sp := fun vs H Q E => ∃ (v2 : V) (recipe_here1 : (Int × Int × Int)) (stand4 : Int), vs = [v2, .int stand4] ∧ ((qT3 (qI (K := K)) (qI (K := K)) (qI (K := K)))).R H v2 recipe_here1 ∧ OP (m__law_due recipe_here1 stand4) (fun r => Q (.bl r) H)
theorem ok__law_due (T : Tx K mg) : FnOk P w K mg base CX0 2 T.f__law_due T.d__law_due ["_law_recipe_here", "_law_stand"] (p__law_due K T.c) := by
  refine T.F__law_due.ok sc__law_due (fun vs H Q E h => by obtain ⟨v2, recipe_here1, stand4, rfl, _⟩ := h; rfl) (fun cdv A outer s H vs Q E hr h => ?_)
  obtain ⟨v2, recipe_here1, stand4, rfl, r3, h⟩ := h
  obtain ⟨A_, hA⟩ : ∃ A_, A_ = (fun r : Bool => Q (.bl r) H) := ⟨_, rfl⟩
  replace h : OP (m__law_due recipe_here1 stand4) A_ := hA ▸ h
  rw [m__law_due] at h
  have hr1 : Room 1 _ := hr.mono (by decide)
  refine ⟨_, (pss_cons (ps_set (i := 2) sc__law_due.nd rfl (.inl rfl) (pe_call (ok__law_lit T) hr1 rfl T.m__law_lit T.F__law_lit.kp T.b__law_lit .nil pass0 (pa_cons (pe_var (i := 1) rfl (.inl rfl) rfl rfl) (pa_cons (pe_ix (show IxR _ (rIxT K) from ix_tup) (pe_var (i := 0) rfl (.inl rfl) rfl rfl) pe_int (fun _ _ => rfl)) pa_nil))))
      (pss_cons (ps_set (i := 3) sc__law_due.nd rfl (.inl rfl) (pe_call (ok__law_lit T) hr1 rfl T.m__law_lit T.F__law_lit.kp T.b__law_lit .nil pass0 (pa_cons (pe_var (i := 1) rfl (.inl rfl) rfl rfl) (pa_cons (pe_ix (show IxR _ (rIxT K) from ix_tup) (pe_var (i := 0) rfl (.inl rfl) rfl rfl) pe_int (fun _ _ => rfl)) pa_nil))))
      (pss_cons (ps_if (pt_cmpR op_lt (pe_ix (show IxR _ (rIxT K) from ix_tup) (pe_var (i := 0) rfl (.inl rfl) rfl rfl) pe_int (fun _ _ => rfl)) pe_int (nomark _)) (pss_cons (ps_ret (pe_cmpR op_eq (pe_var (i := 2) rfl (.inl rfl) rfl rfl) (pe_cmpR op_eq (pe_ix (show IxR _ (rIxT K) from ix_tup) (pe_var (i := 0) rfl (.inl rfl) rfl rfl) pe_int (fun _ _ => rfl)) pe_int (nomark _)) (nomark _)))
      pss_nil) pss_nil)
      (pss_cons (ps_if (pt_cmpR op_eq (pe_ix (show IxR _ (rIxT K) from ix_tup) (pe_var (i := 0) rfl (.inl rfl) rfl rfl) pe_int (fun _ _ => rfl)) pe_int (nomark _)) (pss_cons (ps_ret (pe_and (pe_var (i := 2) rfl (.inl rfl) rfl rfl) (pe_one (pe_not (pe_var (i := 3) rfl (.inl rfl) rfl rfl)))))
      pss_nil) pss_nil)
      (pss_cons (ps_if (pt_cmpR op_eq (pe_ix (show IxR _ (rIxT K) from ix_tup) (pe_var (i := 0) rfl (.inl rfl) rfl rfl) pe_int (fun _ _ => rfl)) pe_int (nomark _)) (pss_cons (ps_ret (pe_or (pe_var (i := 2) rfl (.inl rfl) rfl rfl) (pe_one (pe_var (i := 3) rfl (.inl rfl) rfl rfl))))
      pss_nil) pss_nil)
      (pss_cons (ps_if (pt_cmpR op_eq (pe_ix (show IxR _ (rIxT K) from ix_tup) (pe_var (i := 0) rfl (.inl rfl) rfl rfl) pe_int (fun _ _ => rfl)) pe_int (nomark _)) (pss_cons (ps_ret (pe_cmpR op_ne (pe_var (i := 2) rfl (.inl rfl) rfl rfl) (pe_var (i := 3) rfl (.inl rfl) rfl rfl) (nomark _)))
      pss_nil) pss_nil)
      (pss_cons (ps_ret (pe_or (pe_cmpR op_eq (pe_ix (show IxR _ (rIxT K) from ix_tup) (pe_var (i := 0) rfl (.inl rfl) rfl rfl) pe_int (fun _ _ => rfl)) pe_int (nomark _)) (pe_one (pe_not (pe_and (pe_var (i := 2) rfl (.inl rfl) rfl rfl) (pe_one (pe_var (i := 3) rfl (.inl rfl) rfl rfl)))))))
      pss_nil))))))), ?_⟩
  refine z_start (σ := [some v2, some (.int stand4), none, none]) rfl ?_
  have g : Grow [] H H H H := Grow.refl (Same.refl _)
  obtain ⟨v5, ev5, h⟩ := OP.bind h
  refine z_set (w := (.bl v5)) (σ' := [some v2, some (.int stand4), some (.bl v5), none]) (v_call (va_cons (val_var rfl) (va_cons (v_t31 (val_var rfl) val_c (Rep.mono _ g.sh r3)) va_nil)) fun Q q => ⟨_, _, rfl, OP.mk ev5 q⟩) rfl rfl ?_
  obtain ⟨v6, ev6, h⟩ := OP.bind h
  refine z_set (w := (.bl v6)) (σ' := [some v2, some (.int stand4), some (.bl v5), some (.bl v6)]) (v_call (va_cons (val_var rfl) (va_cons (v_t32 (val_var rfl) val_c (Rep.mono _ g.sh r3)) va_nil)) fun Q q => ⟨_, _, rfl, OP.mk ev6 q⟩) rfl rfl ?_
  refine z_if (v_test (v_o2 (v_t30 (val_var rfl) val_c (Rep.mono _ g.sh r3)) val_c)) (fun hc => ?_) (fun hc => ?_)
  · replace h := OP.ite1 hc h
    refine z_ret (v_eqB (val_var rfl) (v_eqI (v_t30 (val_var rfl) val_c (Rep.mono _ g.sh r3)) val_c)) ?_
    have h := OP.fin hA h
    exact h
  · replace h := OP.ite0 hc h
    refine z_nextR ?_
    refine z_if (v_test (v_eqI (v_t30 (val_var rfl) val_c (Rep.mono _ g.sh r3)) val_c)) (fun hc => ?_) (fun hc => ?_)
    · replace h := OP.ite1 hc h
      refine z_ret (v_and (val_var rfl) (v_not (val_var rfl))) ?_
      have h := OP.fin hA h
      exact h
    · replace h := OP.ite0 hc h
      refine z_nextR ?_
      refine z_if (v_test (v_eqI (v_t30 (val_var rfl) val_c (Rep.mono _ g.sh r3)) val_c)) (fun hc => ?_) (fun hc => ?_)
      · replace h := OP.ite1 hc h
        refine z_ret (v_or (val_var rfl) (val_var rfl)) ?_
        have h := OP.fin hA h
        exact h
      · replace h := OP.ite0 hc h
        refine z_nextR ?_
        refine z_if (v_test (v_eqI (v_t30 (val_var rfl) val_c (Rep.mono _ g.sh r3)) val_c)) (fun hc => ?_) (fun hc => ?_)
        · replace h := OP.ite1 hc h
          refine z_ret (v_neB (val_var rfl) (val_var rfl)) ?_
          have h := OP.fin hA h
          exact h
        · replace h := OP.ite0 hc h
          refine z_nextR ?_
          refine z_ret (v_or (v_eqI (v_t30 (val_var rfl) val_c (Rep.mono _ g.sh r3)) val_c) (v_not (v_and (val_var rfl) (val_var rfl)))) ?_
          have h := OP.fin hA h
          exact h

@[irreducible] def m__law_onward (stand1 : Int) (changes_here2 : (List (Int × (Int × Int × Int)))) : Option Int :=
(forO (fun x5 there14 =>
(m__law_due x5.2 stand1).bind fun v25 =>
(m__law_lit stand1 x5.1).bind fun v26 =>
lt ((if v25 then 1 else 0) - (if v26 then 1 else 0)) fun turn27 =>
grd (gPow 1 x5.1) <|
grd (gMul turn27 (shl 1 x5.1)) <|
lt (there14 + (turn27 * (shl 1 x5.1))) fun there30 =>
some there30) (changes_here2) stand1).bind (fun there14 =>
some there14)
abbrev s__law_onward : Stmt := top 41
abbrev sn__law_onward : List Str := ["_law_stand", "_law_changes_here", "_law_there", "_law_lamp", "_law_recipe_here", "_law_turn"]
theorem sc__law_onward : FnScope ["_law_stand", "_law_changes_here", "_law_there", "_law_lamp", "_law_recipe_here", "_law_turn"] ["_law_stand", "_law_changes_here"] (defScope (s__law_onward)) := ⟨rfl, rfl, rfl, by decide +kernel, rfl, by decide +kernel, by decide +kernel⟩
def p__law_onward (K : PySem.W.Frag) (c : Cl) : Sp := fun vs H Q E => ∃ (S : Hp) (stand1 : Int) (v3 : V) (changes_here2 : (List (Int × (Int × Int × Int)))), vs = [.int stand1, v3] ∧ Same S H ∧ RdL (qT2 (qI (K := K)) (qT3 (qI (K := K)) (qI (K := K)) (qI (K := K)))) [] S H v3 changes_here2 ∧ OP (m__law_onward stand1 changes_here2) (fun r => ∀ (S' H' : Hp), Grow [] S H S' H' → Q (.int r) H')
theorem ok__law_onward (T : Tx K mg) : FnOk P w K mg base CX0 3 T.f__law_onward T.d__law_onward ["_law_stand", "_law_changes_here"] (p__law_onward K T.c) := by
  refine T.F__law_onward.ok sc__law_onward (fun vs H Q E h => by obtain ⟨S, stand1, v3, changes_here2, rfl, _⟩ := h; rfl) (fun cdv A outer s H vs Q E hr h => ?_)
  obtain ⟨S, stand1, v3, changes_here2, rfl, gS, r4, h⟩ := h
  obtain ⟨A_, hA⟩ : ∃ A_, A_ = (fun r : Int => ∀ (S' H' : Hp), Grow [] S H S' H' → Q (.int r) H') := ⟨_, rfl⟩
  replace h : OP (m__law_onward stand1 changes_here2) A_ := hA ▸ h
  rw [m__law_onward] at h
  have hr1 : Room 1 _ := hr.mono (by decide)
  have hr2 : Room 2 _ := hr.mono (by decide)
  refine ⟨_, (pss_cons (ps_set (i := 2) sc__law_onward.nd rfl (.inl rfl) (pe_var (i := 0) rfl (.inl rfl) rfl rfl))
      (pss_cons (ps_for PassesOwn.never rfl (pi_list (pe_var (i := 1) rfl (.inl rfl) rfl rfl)) (pg_tup rfl (pgs_cons (pg_name (i := 3) sc__law_onward.nd rfl (.inl rfl)) (pgs_cons (pg_name (i := 4) sc__law_onward.nd rfl (.inl rfl)) pgs_nil))) (pss_cons (ps_set (i := 5) sc__law_onward.nd rfl (.inl rfl) (pe_op op_sub (pe_callTy call_int1 rfl T.n_int bt_int (pa_cons (pe_call (ok__law_due T) hr2 rfl T.m__law_due T.F__law_due.kp T.b__law_due .nil pass0 (pa_cons (pe_var (i := 4) rfl (.inl rfl) rfl rfl) (pa_cons (pe_var (i := 0) rfl (.inl rfl) rfl rfl) pa_nil))) pa_nil)) (pe_callTy call_int1 rfl T.n_int bt_int (pa_cons (pe_call (ok__law_lit T) hr1 rfl T.m__law_lit T.F__law_lit.kp T.b__law_lit .nil pass0 (pa_cons (pe_var (i := 0) rfl (.inl rfl) rfl rfl) (pa_cons (pe_var (i := 3) rfl (.inl rfl) rfl rfl) pa_nil))) pa_nil))))
      (pss_cons (ps_set (i := 2) sc__law_onward.nd rfl (.inl rfl) (pe_op op_add (pe_var (i := 2) rfl (.inl rfl) rfl rfl) (pe_op op_mul (pe_var (i := 5) rfl (.inl rfl) rfl rfl) (pe_op op_shl pe_int (pe_var (i := 3) rfl (.inl rfl) rfl rfl)))))
      pss_nil)))
      (pss_cons (ps_ret (pe_var (i := 2) rfl (.inl rfl) rfl rfl))
      pss_nil))), ?_⟩
  refine z_start (σ := [some (.int stand1), some v3, none, none, none, none]) rfl ?_
  have g : Grow [] S H S H := Grow.refl gS
  refine z_set (w := (.int stand1)) (σ' := [some (.int stand1), some v3, some (.int stand1), none, none, none]) (val_var rfl) rfl rfl ?_
  obtain ⟨B8, h, hB9⟩ := OP.cut h
  obtain ⟨F10, hF11, h⟩ := OP.nameO h
  obtain ⟨q19a, q19w, q19e, q19h, q19p⟩ := id r4
  have q19j := g.sq q19h
  refine z_forL (v_eq (val_var rfl) q19e) q19p (fun ys13 σ' H' => ∃ (there14 : Int) (u15 : Option V) (u16 : Option V) (u17 : Option V), σ' = [some (.int stand1), some v3, some (.int there14), u15, u16, u17] ∧ H = H' ∧ OP (forO F10 ys13 there14) B8) ⟨_, _, _, _, rfl, rfl, h⟩ (fun ys σ' H' p => by obtain ⟨there14, u15, u16, u17, rfl, rfl, h⟩ := p; exact q19j) (fun w_6 x5 ys13 σ' H_18 rw7 p N hN12 => ?_) ?_
  · obtain ⟨there14, u15, u16, u17, rfl, rfl, h⟩ := p
    replace h := OP.forO h
    replace h := OP.fcall2 hF11 h
    have rx20 := rw7
    refine g_tup2 rfl g.sh rx20 fun w_21 w_22 r23 r24 => ?_
    cases (show w_21 = (.int x5.1) from r23)
    refine g_name (σ' := [some (.int stand1), some v3, some (.int there14), some (.int x5.1), u16, u17]) rfl ?_
    refine g_next ?_
    refine g_name (σ' := [some (.int stand1), some v3, some (.int there14), some (.int x5.1), some w_22, u17]) rfl ?_
    refine g_end ?_
    obtain ⟨v25, ev25, h⟩ := OP.bind h
    obtain ⟨v26, ev26, h⟩ := OP.bind h
    obtain ⟨turn27, eturn27, h⟩ := OP.lt h
    refine z_set (w := (.int turn27)) (σ' := [some (.int stand1), some v3, some (.int there14), some (.int x5.1), some w_22, some (.int turn27)]) (v_o2 (v_cb (va_cons (v_call (va_cons (val_var rfl) (va_cons (val_var rfl) va_nil)) fun Q q => ⟨_, _, _, rfl, (Rep.mono _ g.sh r24), OP.mk ev25 q⟩) va_nil) fun Q q => .inr ⟨_, rfl, q⟩) (v_cb (va_cons (v_call (va_cons (val_var rfl) (va_cons (val_var rfl) va_nil)) fun Q q => ⟨_, _, rfl, OP.mk ev26 q⟩) va_nil) fun Q q => .inr ⟨_, rfl, q⟩)) (congrArg V.int eturn27) rfl ?_
    obtain ⟨g28, h⟩ := OP.grd h
    obtain ⟨g29, h⟩ := OP.grd h
    obtain ⟨there30, ethere30, h⟩ := OP.lt h
    refine z_set (w := (.int there30)) (σ' := [some (.int stand1), some v3, some (.int there30), some (.int x5.1), some w_22, some (.int turn27)]) (v_o2 (val_var rfl) (v_o2c (val_var rfl) (v_o2c val_c (val_var rfl) g28) g29)) (congrArg V.int ethere30) rfl ?_
    refine z_next ?_
    exact hN12 _ _ ⟨_, _, _, _, rfl, rfl, h⟩
  · intro σ' H_31 p
    obtain ⟨there14, u15, u16, u17, rfl, rfl, h⟩ := p
    replace h := hB9 _ (OP.forO_nil h)
    refine z_ret (val_var rfl) ?_
    have h := OP.fin hA h
    exact h _ _ g

@[irreducible] def m__law_walk (moves1 : (List ((Int × Int × Int) × (List (Int × (Int × Int × Int)))))) (stand4 : Int) (cells5 : (List Int)) : Option ((List Int) × (List Int)) :=
brkB (forR (fun cell27 s =>
un2 (fun passed71 picks75 =>
grd (gR (moves1.length : Int)) <|
(compO (fun zx82 =>
(atI moves1 zx82).bind fun i86 =>
(atI passed71 (-1)).bind fun i89 =>
(m__law_due i86.1 i89).bind fun v90 =>
ifo v90 (some (some zx82)) (some none)) (rangeI 0 (Int.toNat (moves1.length : Int)))).bind fun ys91 =>
ifo (decide ((ys91.length : Int) = 0)) (
some (.inr (.inl (passed71, picks75)))) (
grd (0 < (ys91.length : Int)) <|
(atI ys91 (cell27 % (ys91.length : Int))).bind fun i109 =>
grd (picks75.length < 16777216) <|
lt (picks75 ++ [i109]) fun l111 =>
(atI passed71 (-1)).bind fun i118 =>
(atI l111 (-1)).bind fun i119 =>
(atI moves1 i119).bind fun i120 =>
(m__law_onward i118 i120.2).bind fun v123 =>
grd (passed71.length < 16777216) <|
lt (passed71 ++ [v123]) fun l129 =>
some (.inl (l129, l111)))) s) (cells5) (([stand4] : List Int), ([] : List Int))) (fun s => un2 (fun passed38 picks42 =>
some (passed38, picks42)) s)
abbrev s__law_walk : Stmt := top 44
abbrev sn__law_walk : List Str := ["_law_moves", "_law_stand", "_law_cells", "_law_passed", "_law_picks", "_law_cell", "_law_fitting", "_law_k"]
theorem sc__law_walk : FnScope ["_law_moves", "_law_stand", "_law_cells", "_law_passed", "_law_picks", "_law_cell", "_law_fitting", "_law_k"] ["_law_moves", "_law_stand", "_law_cells"] (defScope (s__law_walk)) := ⟨rfl, rfl, rfl, by decide +kernel, rfl, by decide +kernel, by decide +kernel⟩
def p__law_walk (K : PySem.W.Frag) (c : Cl) : Sp := fun vs H Q E => ∃ (S : Hp) (v2 : V) (moves1 : (List ((Int × Int × Int) × (List (Int × (Int × Int × Int)))))) (stand4 : Int) (v6 : V) (cells5 : (List Int)), vs = [v2, .int stand4, v6] ∧ Same S H ∧ RdL (qT2 (qT3 (qI (K := K)) (qI (K := K)) (qI (K := K))) (qL (qT2 (qI (K := K)) (qT3 (qI (K := K)) (qI (K := K)) (qI (K := K)))))) [] S H v2 moves1 ∧ RdL (qI (K := K)) [] S H v6 cells5 ∧ OP (m__law_walk moves1 stand4 cells5) (fun r => ∀ (S' H' : Hp) (v : V), Grow [] S H S' H' → ((qT2 (qL (qI (K := K))) (qL (qI (K := K))))).R S' v r → Q v H')
theorem ok__law_walk (T : Tx K mg) : FnOk P w K mg base CX0 4 T.f__law_walk T.d__law_walk ["_law_moves", "_law_stand", "_law_cells"] (p__law_walk K T.c) := by
  refine T.F__law_walk.ok sc__law_walk (fun vs H Q E h => by obtain ⟨S, v2, moves1, stand4, v6, cells5, rfl, _⟩ := h; rfl) (fun cdv A outer s H vs Q E hr h => ?_)
  obtain ⟨S, v2, moves1, stand4, v6, cells5, rfl, gS, r3, r7, h⟩ := h
  obtain ⟨A_, hA⟩ : ∃ A_, A_ = (fun r : ((List Int) × (List Int)) => ∀ (S' H' : Hp) (v : V), Grow [] S H S' H' → ((qT2 (qL (qI (K := K))) (qL (qI (K := K))))).R S' v r → Q v H') := ⟨_, rfl⟩
  replace h : OP (m__law_walk moves1 stand4 cells5) A_ := hA ▸ h
  rw [m__law_walk] at h
  have hr2 : Room 2 _ := hr.mono (by decide)
  have hr3 : Room 3 _ := hr.mono (by decide)
  refine ⟨_, (pss_cons (ps_set (i := 3) sc__law_walk.nd rfl (.inr rfl) (pe_lst (pa_cons (pe_var (i := 1) rfl (.inl rfl) rfl rfl) pa_nil)))
      (pss_cons (ps_set (i := 4) sc__law_walk.nd rfl (.inl rfl) (pe_lst pa_nil))
      (pss_cons (ps_for PassesOwn.never rfl (pi_list (pe_var (i := 2) rfl (.inl rfl) rfl rfl)) (pg_name (i := 5) sc__law_walk.nd rfl (.inl rfl)) (pss_cons (ps_setLc (i := 6) (y := "_law_fitting") (own := [("_law_k", 7)]) (g := gName 7) rfl sc__law_walk.nd rfl rfl (sw_true rfl rfl rfl (by decide +kernel)) (pi_range1 rfl T.n_range (pa_cons (pe_callB (show CallR _ (.builtin "len") (Z.rLenS K) from call_len_seq) rfl T.n_len bt_len (pa_cons (pe_var (i := 0) rfl (.inr (.inl rfl)) rfl rfl) pa_nil)) pa_nil)) (blkOk_by (N := sn__law_walk) (sc := defScope s__law_walk) (by decide +kernel)) (fun _ _ _ _ _ => pg_name (i := 7) sc__law_walk.nd rfl (.inl rfl)) (fun _ _ _ _ _ => (pts_one (pt_val (pe_call (ok__law_due T) hr2 rfl T.m__law_due T.F__law_due.kp T.b__law_due .nil pass0 (pa_cons (pe_ix (show IxR _ (rIxT K) from ix_tup) (pe_ix (show IxR _ (rIxL K) from ix_list) (pe_var (i := 0) rfl (by first | exact .inr (.inr rfl) | exact .inr (.inl rfl)) rfl rfl) (pe_var (i := 7) rfl (.inl rfl) rfl rfl) (fun _ _ => rfl)) pe_int (fun _ _ => rfl)) (pa_cons (pe_ix (show IxR _ (rIxL K) from ix_list) (pe_var (i := 3) rfl (by first | exact .inr (.inr rfl) | exact .inr (.inl rfl)) rfl rfl) (pe_un un_neg pe_int) (fun _ _ => rfl)) pa_nil)))))) (fun _ _ _ _ _ => (pe_var (i := 7) rfl (.inl rfl) rfl rfl)))
      (pss_cons (ps_if (pt_cmpR op_eq (pe_callB (show CallR _ (.builtin "len") (Z.rLenS K) from call_len_seq) rfl T.n_len bt_len (pa_cons (pe_var (i := 6) rfl (.inl rfl) rfl rfl) pa_nil)) pe_int (nomark _)) (pss_cons ps_break
      pss_nil) pss_nil)
      (pss_cons (ps_expr (pe_bm PySem.F.plainAttrs_list PySem.F.slot_list_append PySem.F.type_list_append mt_append (pe_var (i := 4) rfl (.inl rfl) rfl rfl) (pa_cons (pe_ix (show IxR _ (rIxL K) from ix_list) (pe_var (i := 6) rfl (.inl rfl) rfl rfl) (pe_op op_mod (pe_var (i := 5) rfl (.inl rfl) rfl rfl) (pe_callB (show CallR _ (.builtin "len") (Z.rLenS K) from call_len_seq) rfl T.n_len bt_len (pa_cons (pe_var (i := 6) rfl (.inl rfl) rfl rfl) pa_nil))) (fun _ _ => rfl)) pa_nil)))
      (pss_cons (ps_expr (pe_bm PySem.F.plainAttrs_list PySem.F.slot_list_append PySem.F.type_list_append mt_append (pe_var (i := 3) rfl (.inr (.inl rfl)) rfl rfl) (pa_cons (pe_call (ok__law_onward T) hr3 rfl T.m__law_onward T.F__law_onward.kp T.b__law_onward .nil pass0 (pa_cons (pe_ix (show IxR _ (rIxL K) from ix_list) (pe_var (i := 3) rfl (.inr (.inl rfl)) rfl rfl) (pe_un un_neg pe_int) (fun _ _ => rfl)) (pa_cons (pe_ix (show IxR _ (rIxT K) from ix_tup) (pe_ix (show IxR _ (rIxL K) from ix_list) (pe_var (i := 0) rfl (.inr (.inl rfl)) rfl rfl) (pe_ix (show IxR _ (rIxL K) from ix_list) (pe_var (i := 4) rfl (.inl rfl) rfl rfl) (pe_un un_neg pe_int) (fun _ _ => rfl)) (fun _ _ => rfl)) pe_int (fun _ _ => rfl)) pa_nil))) pa_nil)))
      pss_nil)))))
      (pss_cons (ps_ret (pe_tup (pa_cons (pe_var (i := 3) rfl (.inr (.inl rfl)) rfl rfl) (pa_cons (pe_var (i := 4) rfl (.inl rfl) rfl rfl) pa_nil))))
      pss_nil)))), ?_⟩
  refine z_start (σ := [some v2, some (.int stand4), some v6, none, none, none, none, none]) rfl ?_
  have g : Grow [] S H S H := Grow.refl gS
  refine z_setE ?_
  refine c_lstE fun Q_8 hQ_8 => ?_
  refine c_args (va_cons (val_var rfl) va_nil) ?_
  refine c_newlst (Q := Q_8) (vs := [(.int stand4)]) (show 1 ≤ 1000 by decide) fun p9 H_10 e11 np12 ep13 => ?_
  refine q_eq hQ_8 ?_
  have w_14 : RL (qI (K := K)) S [(.int stand4)] ([stand4] : List Int) := (.cons rfl .nil)
  have z16 := g.hnone np12
  have c_15 : Cel [] H S H_10 p9 (.lst [(.int stand4)]) := Cel.own g e11 np12 ep13 rfl
  replace g := g.ext e11
  refine g_name (σ' := [some v2, some (.int stand4), some v6, some (.ref p9), none, none, none, none]) rfl ?_
  refine z_setE ?_
  refine c_lstE fun Q_17 hQ_17 => ?_
  refine c_args va_nil ?_
  refine c_newlst (Q := Q_17) (vs := []) (show 0 ≤ 1000 by decide) fun p18 H_19 e20 np21 ep22 => ?_
  refine q_eq hQ_17 ?_
  have w_23 : RL (qI (K := K)) S [] ([] : List Int) := .nil
  have ne26 := c_15.ne np21
  have z25 := g.hnone np21
  have c_24 : Cel [] H S H_19 p18 (.lst []) := Cel.own g e20 np21 ep22 rfl
  replace c_15 := c_15.ext e20
  replace g := g.ext e20
  refine g_name (σ' := [some v2, some (.int stand4), some v6, some (.ref p9), some (.ref p18), none, none, none]) rfl ?_
  obtain ⟨B30, h, hB31⟩ := OP.brkB h
  refine z_cutS (fun σ' H' => ∃ (ws35 : List V) (passed38 : (List Int)) (ws39 : List V) (picks42 : (List Int)) (u43 : Option V) (u44 : Option V) (S_45 : Hp), σ' = [some v2, some (.int stand4), some v6, some (.ref p9), some (.ref p18), u43, u44, none] ∧ Grow [] S H S_45 H' ∧ Same S S_45 ∧ Cel [] H S_45 H' p9 (.lst ws35) ∧ RL (qI (K := K)) S_45 ws35 passed38 ∧ Cel [] H S_45 H' p18 (.lst ws39) ∧ RL (qI (K := K)) S_45 ws39 picks42 ∧ B30 (passed38, picks42)) (?_) (fun N48 hN49 => ?_)
  · intro σ' H_46 p
    obtain ⟨ws35, passed38, ws39, picks42, u43, u44, S_45, rfl, gN, eS47, c_36N, r37N, c_40N, r41N, h⟩ := p
    replace g := gN
    have c_36 := c_36N
    have r37 := r37N
    have c_40 := c_40N
    have r41 := r41N
    replace r3 := RdL.mono eS47 r3
    replace r7 := RdL.mono eS47 r7
    replace h := hB31 _ h
    replace h := OP.un2 h
    refine z_retE ?_
    refine c_tupE fun Q_50 hQ_50 => ?_
    refine c_args (va_cons (val_var rfl) (va_cons (val_var rfl) va_nil)) ?_
    obtain ⟨S_51, g52, eS53, r54, ot55⟩ := c_freeze g c_36 z16 r37
    replace c_40 := ot55 _ _ (by first | assumption | exact Ne.symm (by assumption)) c_40
    replace r3 := RdL.mono eS53 r3
    replace r7 := RdL.mono eS53 r7
    replace r37 := RL.mono eS53 r37
    replace r41 := RL.mono eS53 r41
    replace g := g52
    obtain ⟨S_56, g57, eS58, r59, ot60⟩ := c_freeze g c_40 z25 r41
    replace r3 := RdL.mono eS58 r3
    replace r7 := RdL.mono eS58 r7
    replace r54 := Rep.mono _ eS58 r54
    replace r41 := RL.mono eS58 r41
    replace g := g57
    refine c_newtup (Q := Q_50) (vs := [(.ref p9), (.ref p18)]) g.sh (show 2 ≤ 1000 by decide) fun p61 S_62 H_63 gs64 ep65 => ?_
    refine q_eq hQ_50 ?_
    replace r3 := RdL.mono gs64.ss r3
    replace r7 := RdL.mono gs64.ss r7
    replace r54 := Rep.mono _ gs64.ss r54
    replace r59 := Rep.mono _ gs64.ss r59
    replace g := g.call0 gs64
    have r66 : ((qT2 (qL (qI (K := K))) (qL (qI (K := K))))).R S_62 (.ref p61) (passed38, picks42) := ⟨p61, _, _, rfl, ep65, r54, r59⟩
    have h := OP.fin hA h
    exact h _ _ _ g r66
  obtain ⟨F32, hF33, h⟩ := OP.nameR h
  obtain ⟨q81a, q81w, q81e, q81h, q81p⟩ := id r7
  refine z_forL (v_eq (val_var rfl) q81e) q81p (fun ys67 σ' H' => ∃ (ws68 : List V) (passed71 : (List Int)) (ws72 : List V) (picks75 : (List Int)) (u76 : Option V) (u77 : Option V) (S_78 : Hp), σ' = [some v2, some (.int stand4), some v6, some (.ref p9), some (.ref p18), u76, u77, none] ∧ Grow [] S H S_78 H' ∧ Same S S_78 ∧ Cel [] H S_78 H' p9 (.lst ws68) ∧ RL (qI (K := K)) S_78 ws68 passed71 ∧ Cel [] H S_78 H' p18 (.lst ws72) ∧ RL (qI (K := K)) S_78 ws72 picks75 ∧ OP (forR F32 ys67 (passed71, picks75)) (SE B30 (SE B30 A_))) ⟨_, _, _, _, _, _, _, rfl, g, (Same.refl _), c_15, w_14, c_24, w_23, h⟩ (fun ys σ' H' p => by obtain ⟨ws68, passed71, ws72, picks75, u76, u77, S_78, rfl, gN, eS80, c_69N, r70N, c_73N, r74N, h⟩ := p; exact gN.sq q81h) (fun w_28 cell27 ys67 σ' H_79 rw29 p N hN34 => ?_) ?_
  · obtain ⟨ws68, passed71, ws72, picks75, u76, u77, S_78, rfl, gN, eS80, c_69N, r70N, c_73N, r74N, h⟩ := p
    replace g := gN
    have c_69 := c_69N
    have r70 := r70N
    have c_73 := c_73N
    have r74 := r74N
    replace r3 := RdL.mono eS80 r3
    replace r7 := RdL.mono eS80 r7
    replace h := OP.forR h
    replace h := OP.fcall2 hF33 h
    replace h := OP.un2 h
    cases (show w_28 = (.int cell27) from rw29)
    refine g_name (σ' := [some v2, some (.int stand4), some v6, some (.ref p9), some (.ref p18), some (.int cell27), u77, none]) rfl ?_
    refine z_setE ?_
    obtain ⟨g83, h⟩ := OP.grd h
    obtain ⟨ys91, eys91, h⟩ := OP.bind h
    refine c_lcR1 (n := (moves1.length : Int)) (va_cons (v_len (val_var rfl) (RdL.q g r3)) va_nil) g83 eys91 (τ := (qI (K := K))) (S := S_78) (fun zx82 H_84 e85 r_ hm => ?_) ?_
    · have c_69 := c_69.ext e85
      have c_73 := c_73.ext e85
      have g := g.ext e85
      obtain ⟨i86, ei86, hm⟩ := bind_some hm
      obtain ⟨w_87, hw_87, rw_87⟩ := v_ixr g r3 ei86
      obtain ⟨w_88, hw_88, rw_88⟩ := v_p20 g.sh rw_87
      obtain ⟨i89, ei89, hm⟩ := bind_some hm
      obtain ⟨v90, ev90, hm⟩ := bind_some hm
      refine ⟨_, (v_B (v_call (va_cons (hw_88 (hw_87 (val_var rfl) (val_var rfl)) val_c) (va_cons (v_ixI (val_var rfl) (v_u val_c) (qL_qQ (qL_of c_69.h (RL.mono g.sh r70))) ei89) va_nil)) fun Q q => ⟨_, _, _, rfl, (Rep.mono _ g.sh rw_88), OP.mk ev90 q⟩)), fun hb => ?_, fun hb => ?_⟩
      · rw [ifo_t hb] at hm
        exact ⟨_, _, (Option.some.inj hm).symm, val_var rfl, rfl⟩
      · rw [ifo_f hb] at hm
        exact (Option.some.inj hm).symm
    intro p92 ws93 H_94 e95 np96 ep97 rw98
    have ne101 := c_69.ne np96
    have ne102 := c_73.ne np96
    have z100 := g.hnone np96
    have c_99 : Cel [] H S_78 H_94 p92 (.lst ws93) := Cel.own g e95 np96 ep97 rfl
    replace c_69 := c_69.ext e95
    replace c_73 := c_73.ext e95
    replace g := g.ext e95
    obtain ⟨S_103, g104, eS105, r106, ot107⟩ := c_freeze g c_99 z100 rw98
    replace c_69 := ot107 _ _ (by first | assumption | exact Ne.symm (by assumption)) c_69
    replace c_73 := ot107 _ _ (by first | assumption | exact Ne.symm (by assumption)) c_73
    replace r3 := RdL.mono eS105 r3
    replace r7 := RdL.mono eS105 r7
    replace r70 := RL.mono eS105 r70
    replace r74 := RL.mono eS105 r74
    replace eS80 := eS80.trans eS105
    replace g := g104
    refine g_name (σ' := [some v2, some (.int stand4), some v6, some (.ref p9), some (.ref p18), some (.int cell27), some (.ref p92), none]) rfl ?_
    refine z_if (v_test (v_eqI (v_len (val_var rfl) (qL_qQ (Rep.mono _ g.sh r106))) val_c)) (fun hc => ?_) (fun hc => ?_)
    · replace h := OP.ite1 hc h
      refine z_brk ?_
      exact hN49 _ _ ⟨_, _, _, _, _, _, _, rfl, g, eS80, c_69, r70, c_73, r74, h⟩
    · replace h := OP.ite0 hc h
      refine z_nextR ?_
      refine z_dropE ?_
      refine c_bm (val_var rfl) (tyL c_73.h) ?_
      obtain ⟨g108, h⟩ := OP.grd h
      obtain ⟨i109, ei109, h⟩ := OP.bind h
      refine c_args (va_cons (v_ixI (val_var rfl) (v_o2c (val_var rfl) (v_len (val_var rfl) (qL_qQ (Rep.mono _ g.sh r106))) g108) (qL_qQ (Rep.mono _ g.sh r106)) ei109) va_nil) ?_
      obtain ⟨g110, h⟩ := OP.grd h
      obtain ⟨l111, el111, h⟩ := OP.lt h
      refine c_app g c_73 r74 rfl g110 el111 fun ws112 H_113 g114 c_115 w_116 ot117 => ?_
      replace c_69 := ot117 _ _ (by first | assumption | exact Ne.symm (by assumption)) c_69
      replace g := g114
      refine z_dropE ?_
      refine c_bm (val_var rfl) (tyL c_69.h) ?_
      refine c_cons ?_
      refine c_call ?_
      obtain ⟨i118, ei118, h⟩ := OP.bind h
      obtain ⟨i119, ei119, h⟩ := OP.bind h
      obtain ⟨i120, ei120, h⟩ := OP.bind h
      obtain ⟨w_121, hw_121, rw_121⟩ := v_ixr g r3 ei120
      obtain ⟨w_122, hw_122, rw_122⟩ := v_p21 g.sh rw_121
      refine c_args (va_cons (v_ixI (val_var rfl) (v_u val_c) (qL_qQ (qL_of c_69.h (RL.mono g.sh r70))) ei118) (va_cons (hw_122 (hw_121 (val_var rfl) (v_ixI (val_var rfl) (v_u val_c) (qL_qQ (qL_of c_115.h (RL.mono g.sh w_116))) ei119)) val_c) va_nil)) ?_
      have gL127 : ∀ l ∈ [], H l = none ∨ l ∈ [] := LM0
      refine ⟨S_103, _, _, _, rfl, g.sh, (RdL.ofL g.sh rw_122 LM0), (OP.of h).mono fun v123 h S_124 H_125 gc126 => ?_⟩
      replace c_69 := c_69.call gc126 NM0
      replace c_115 := c_115.call gc126 NM0
      replace r3 := RdL.mono gc126.ss r3
      replace r7 := RdL.mono gc126.ss r7
      replace r70 := RL.mono gc126.ss r70
      replace w_116 := RL.mono gc126.ss w_116
      replace r106 := Rep.mono _ gc126.ss r106
      replace rw_122 := Rep.mono _ gc126.ss rw_122
      replace eS80 := eS80.trans gc126.ss
      replace g := g.call gc126 gL127
      refine c_nil ?_
      obtain ⟨g128, h⟩ := OP.grd h
      obtain ⟨l129, el129, h⟩ := OP.lt h
      refine c_app g c_69 r70 rfl g128 el129 fun ws130 H_131 g132 c_133 w_134 ot135 => ?_
      replace c_115 := ot135 _ _ (by first | assumption | exact Ne.symm (by assumption)) c_115
      replace g := g132
      refine z_next ?_
      exact hN34 _ _ ⟨_, _, _, _, _, _, _, rfl, g, eS80, c_133, w_134, c_115, w_116, h⟩
  · intro σ' H_79 p
    obtain ⟨ws68, passed71, ws72, picks75, u76, u77, S_78, rfl, gN, eS80, c_69N, r70N, c_73N, r74N, h⟩ := p
    replace g := gN
    have c_69 := c_69N
    have r70 := r70N
    have c_73 := c_73N
    have r74 := r74N
    replace r3 := RdL.mono eS80 r3
    replace r7 := RdL.mono eS80 r7
    replace h := OP.forR_nil h
    exact hN49 _ _ ⟨_, _, _, _, _, _, _, rfl, g, eS80, c_69, r70, c_73, r74, h⟩

@[irreducible] def m_Machine_which (self1 : O_Machine) (stand4 : Int) (other5 : Int) : Option (Option Int) :=
brk (forR (fun x7 _ =>
((m_Move_fits x7.2 stand4).bind fun v35 =>
ifo v35 (
(m_Move_onward x7.2 stand4).bind fun v36 =>
some (decide (v36 = other5))) (
some false)).bind fun b41 =>
ifo b41 (
some (.inr (some x7.1))) (
some (.inl ()))) (enumI self1.moves) ()) (fun _ =>
some none)
abbrev s_Machine_which : Stmt := inClass (top 23) 3
abbrev sn_Machine_which : List Str := ["self", "stand", "other", "number", "move"]
theorem sc_Machine_which : FnScope ["self", "stand", "other", "number", "move"] ["self", "stand", "other"] (defScope (s_Machine_which)) := ⟨rfl, rfl, rfl, by decide +kernel, rfl, by decide +kernel, by decide +kernel⟩
def p_Machine_which (K : PySem.W.Frag) (c : Cl) : Sp := fun vs H Q E => ∃ (S : Hp) (v2 : V) (self1 : O_Machine) (stand4 : Int) (other5 : Int), vs = [v2, .int stand4, .int other5] ∧ Same S H ∧ ((q_Machine (K := K) c)).R S v2 self1 ∧ OP (m_Machine_which self1 stand4 other5) (fun r => ∀ (S' H' : Hp) (v : V), Grow [] S H S' H' → ((qOpt (qI (K := K)))).R S' v r → Q v H')
theorem ok_Machine_which (T : Tx K mg) : FnOk P w K mg base CX0 103 T.f_Machine_which T.d_Machine_which ["self", "stand", "other"] (p_Machine_which K T.c) := by
  refine T.F_Machine_which.ok sc_Machine_which (fun vs H Q E h => by obtain ⟨S, v2, self1, stand4, other5, rfl, _⟩ := h; rfl) (fun cdv A outer s H vs Q E hr h => ?_)
  obtain ⟨S, v2, self1, stand4, other5, rfl, gS, r3, h⟩ := h
  obtain ⟨A_, hA⟩ : ∃ A_, A_ = (fun r : (Option Int) => ∀ (S' H' : Hp) (v : V), Grow [] S H S' H' → ((qOpt (qI (K := K)))).R S' v r → Q v H') := ⟨_, rfl⟩
  replace h : OP (m_Machine_which self1 stand4 other5) A_ := hA ▸ h
  rw [m_Machine_which] at h
  have hr102 : Room 102 _ := hr.mono (by decide)
  refine ⟨_, (pss_cons (ps_for PassesOwn.never rfl (pi_enum rfl T.n_enumerate (pa_cons (pe_fld (pe_var (i := 0) rfl (.inl rfl) rfl rfl) rfl) pa_nil)) (pg_tup rfl (pgs_cons (pg_name (i := 3) sc_Machine_which.nd rfl (.inl rfl)) (pgs_cons (pg_name (i := 4) sc_Machine_which.nd rfl (.inl rfl)) pgs_nil))) (pss_cons (ps_if (PW.pt (pw_and (pt_val (pe_meth (pe_var (i := 4) rfl (.inl rfl) rfl rfl) T.l_Move T.t_Move_fits (ok_Move_fits T) hr102 T.b_Move_fits .nil pass0 (pa_cons (pe_var (i := 1) rfl (.inl rfl) rfl rfl) pa_nil))) (pw_and1 (pt_cmpR op_eq (pe_meth (pe_var (i := 4) rfl (.inl rfl) rfl rfl) T.l_Move T.t_Move_onward (ok_Move_onward T) hr102 T.b_Move_onward .nil pass0 (pa_cons (pe_var (i := 1) rfl (.inl rfl) rfl rfl) pa_nil)) (pe_var (i := 2) rfl (.inl rfl) rfl rfl) (nomark _))))) (pss_cons (ps_ret (pe_var (i := 3) rfl (.inl rfl) rfl rfl))
      pss_nil) pss_nil)
      pss_nil))
      (pss_cons (ps_ret pe_non)
      pss_nil)), ?_⟩
  refine z_start (σ := [some v2, some (.int stand4), some (.int other5), none, none]) rfl ?_
  have g : Grow [] S H S H := Grow.refl gS
  obtain ⟨w_6, hw_6, rw_6⟩ := vf_Machine_moves T g.sh r3
  obtain ⟨B10, h, hB11⟩ := OP.brk h
  obtain ⟨F12, hF13, h⟩ := OP.nameR h
  obtain ⟨q21a, q21w, q21e, q21h, q21p⟩ := id (qL_qQ rw_6)
  refine z_forN (v_eq (hw_6 (val_var rfl)) q21e) q21p (fun ys15 σ' H' => ∃ (u16 : Option V) (u17 : Option V) (S_18 : Hp), σ' = [some v2, some (.int stand4), some (.int other5), u16, u17] ∧ Grow [] S H S_18 H' ∧ Same S S_18 ∧ OP (forR F12 ys15 ()) (SE B10 A_)) ⟨_, _, _, rfl, g, (Same.refl _), h⟩ (fun ys σ' H' p => by obtain ⟨u16, u17, S_18, rfl, gN, eS20, h⟩ := p; exact (eS20.trans gN.sh).seq q21h) (fun w_8 x7 ys15 σ' H_19 rw9 p N hN14 t22 nt23 => ?_) ?_
  · obtain ⟨u16, u17, S_18, rfl, gN, eS20, h⟩ := p
    replace g := gN
    replace r3 := Rep.mono _ eS20 r3
    replace h := OP.forR h
    replace h := OP.fcall2 hF13 h
    obtain ⟨H_25, e24, qH_25⟩ : ∃ H2, Same H_19 H2 ∧ H2 = upd H_19 t22 (.tup [.int x7.1, w_8]) := ⟨_, same_upd nt23, rfl⟩
    have tH_25 : H_25 t22 = some (.tup [.int x7.1, w_8]) := by rw [qH_25]; exact upd_same
    replace g := g.ext e24
    refine g_pair qH_25 tH_25 rfl ?_
    have rx26 := Rep.mono _ eS20 rw9
    refine g_name (σ' := [some v2, some (.int stand4), some (.int other5), some (.int x7.1), u17]) rfl ?_
    refine g_next ?_
    refine g_name (σ' := [some v2, some (.int stand4), some (.int other5), some (.int x7.1), some w_8]) rfl ?_
    refine g_end ?_
    refine z_ifE ?_
    obtain ⟨B27, h, hB28⟩ := OP.cut h
    refine c_cutT (fun b H' => ∃ (S_31 : Hp), Grow [] S H S_31 H' ∧ Same S_18 S_31 ∧ B27 b) (fun q29 hq30 => ?_) ?_
    · have sn34 := Same.refl S_18
      refine c_and ?_
      obtain ⟨v35, ev35, h⟩ := OP.bind h
      refine c_ans (v_B (v_meth (val_var rfl) (in_Move (Rep.mono _ g.sh rx26)) (m := "fits") (by decide) (va_cons (val_var rfl) va_nil) fun Q q => ⟨_, _, _, rfl, (Rep.mono _ g.sh rx26), OP.mk ev35 q⟩)) ?_
      refine ifb (fun hc => ?_) (fun hc => ?_)
      · replace h := OP.ite1 hc h
        refine c_test ?_
        refine c_op ?_
        refine c_meth (val_var rfl) (in_Move (Rep.mono _ g.sh rx26)) (m := "onward") (by decide) ?_
        refine c_args (va_cons (val_var rfl) va_nil) ?_
        have gL40 : ∀ l ∈ [], H l = none ∨ l ∈ [] := LM0
        refine ⟨S_18, _, _, _, rfl, g.sh, rx26, (OP.of h).mono fun v36 h S_37 H_38 gc39 => ?_⟩
        replace r3 := Rep.mono _ gc39.ss r3
        replace rx26 := Rep.mono _ gc39.ss rx26
        replace eS20 := eS20.trans gc39.ss
        replace sn34 := sn34.trans gc39.ss
        replace g := g.call gc39 gL40
        refine c_val (val_var rfl) ?_
        refine e_eqI ?_
        refine ⟨_, rfl, ?_⟩
        exact hq30 _ _ ⟨_, g, sn34, h⟩
      · replace h := OP.ite0 hc h
        exact hq30 _ _ ⟨_, g, sn34, h⟩
    intro b41 H_32 p
    obtain ⟨S_31, gN, eS33, h⟩ := p
    replace g := gN
    replace r3 := Rep.mono _ eS33 r3
    replace rx26 := Rep.mono _ eS33 rx26
    replace eS20 := eS20.trans eS33
    replace h := hB28 _ h
    refine ifb (fun hc => ?_) (fun hc => ?_)
    · replace h := OP.ite1 hc h
      refine z_ret (val_var rfl) ?_
      have r42 := (show ((qOpt (qI (K := K)))).R S_31 (.int x7.1) (some x7.1) from ⟨(fun z => nomatch z), rfl⟩)
      have h := OP.fin hA h
      exact h _ _ _ g r42
    · replace h := OP.ite0 hc h
      refine z_nextR ?_
      refine z_next ?_
      exact hN14 _ _ ⟨_, _, _, rfl, g, eS20, h⟩
  · intro σ' H_19 p
    obtain ⟨u16, u17, S_18, rfl, gN, eS20, h⟩ := p
    replace g := gN
    replace r3 := Rep.mono _ eS20 r3
    replace h := hB11 _ (OP.forR_nil h)
    refine z_ret val_c ?_
    have r43 := (show ((qOpt (qI (K := K)))).R S_18 .non none from rfl)
    have h := OP.fin hA h
    exact h _ _ _ g r43

@[irreducible] def m__law_first (moves1 : (List ((Int × Int × Int) × (List (Int × (Int × Int × Int)))))) (stand4 : Int) (other5 : Int) : Option (Option Int) :=
grd (gR (moves1.length : Int)) <|
brk (forR (fun k7 _ =>
((atI moves1 k7).bind fun i28 =>
(m__law_due i28.1 stand4).bind fun v31 =>
ifo v31 (
(atI moves1 k7).bind fun i32 =>
(m__law_onward stand4 i32.2).bind fun v35 =>
some (decide (v35 = other5))) (
some false)).bind fun b40 =>
ifo b40 (
some (.inr (some k7))) (
some (.inl ()))) (rangeI 0 (Int.toNat (moves1.length : Int))) ()) (fun _ =>
some none)
abbrev s__law_first : Stmt := top 42
abbrev sn__law_first : List Str := ["_law_moves", "_law_stand", "_law_other", "_law_k"]
theorem sc__law_first : FnScope ["_law_moves", "_law_stand", "_law_other", "_law_k"] ["_law_moves", "_law_stand", "_law_other"] (defScope (s__law_first)) := ⟨rfl, rfl, rfl, by decide +kernel, rfl, by decide +kernel, by decide +kernel⟩
def p__law_first (K : PySem.W.Frag) (c : Cl) : Sp := fun vs H Q E => ∃ (S : Hp) (v2 : V) (moves1 : (List ((Int × Int × Int) × (List (Int × (Int × Int × Int)))))) (stand4 : Int) (other5 : Int), vs = [v2, .int stand4, .int other5] ∧ Same S H ∧ RdL (qT2 (qT3 (qI (K := K)) (qI (K := K)) (qI (K := K))) (qL (qT2 (qI (K := K)) (qT3 (qI (K := K)) (qI (K := K)) (qI (K := K)))))) [] S H v2 moves1 ∧ OP (m__law_first moves1 stand4 other5) (fun r => ∀ (S' H' : Hp) (v : V), Grow [] S H S' H' → ((qOpt (qI (K := K)))).R S' v r → Q v H')
theorem ok__law_first (T : Tx K mg) : FnOk P w K mg base CX0 4 T.f__law_first T.d__law_first ["_law_moves", "_law_stand", "_law_other"] (p__law_first K T.c) := by
  refine T.F__law_first.ok sc__law_first (fun vs H Q E h => by obtain ⟨S, v2, moves1, stand4, other5, rfl, _⟩ := h; rfl) (fun cdv A outer s H vs Q E hr h => ?_)
  obtain ⟨S, v2, moves1, stand4, other5, rfl, gS, r3, h⟩ := h
  obtain ⟨A_, hA⟩ : ∃ A_, A_ = (fun r : (Option Int) => ∀ (S' H' : Hp) (v : V), Grow [] S H S' H' → ((qOpt (qI (K := K)))).R S' v r → Q v H') := ⟨_, rfl⟩
  replace h : OP (m__law_first moves1 stand4 other5) A_ := hA ▸ h
  rw [m__law_first] at h
  have hr2 : Room 2 _ := hr.mono (by decide)
  have hr3 : Room 3 _ := hr.mono (by decide)
  refine ⟨_, (pss_cons (ps_for PassesOwn.never rfl (pi_range1 rfl T.n_range (pa_cons (pe_callB (show CallR _ (.builtin "len") (Z.rLenS K) from call_len_seq) rfl T.n_len bt_len (pa_cons (pe_var (i := 0) rfl (.inl rfl) rfl rfl) pa_nil)) pa_nil)) (pg_name (i := 3) sc__law_first.nd rfl (.inl rfl)) (pss_cons (ps_if (PW.pt (pw_and (pt_val (pe_call (ok__law_due T) hr2 rfl T.m__law_due T.F__law_due.kp T.b__law_due .nil pass0 (pa_cons (pe_ix (show IxR _ (rIxT K) from ix_tup) (pe_ix (show IxR _ (rIxL K) from ix_list) (pe_var (i := 0) rfl (.inl rfl) rfl rfl) (pe_var (i := 3) rfl (.inl rfl) rfl rfl) (fun _ _ => rfl)) pe_int (fun _ _ => rfl)) (pa_cons (pe_var (i := 1) rfl (.inl rfl) rfl rfl) pa_nil)))) (pw_and1 (pt_cmpR op_eq (pe_call (ok__law_onward T) hr3 rfl T.m__law_onward T.F__law_onward.kp T.b__law_onward .nil pass0 (pa_cons (pe_var (i := 1) rfl (.inl rfl) rfl rfl) (pa_cons (pe_ix (show IxR _ (rIxT K) from ix_tup) (pe_ix (show IxR _ (rIxL K) from ix_list) (pe_var (i := 0) rfl (.inl rfl) rfl rfl) (pe_var (i := 3) rfl (.inl rfl) rfl rfl) (fun _ _ => rfl)) pe_int (fun _ _ => rfl)) pa_nil))) (pe_var (i := 2) rfl (.inl rfl) rfl rfl) (nomark _))))) (pss_cons (ps_ret (pe_var (i := 3) rfl (.inl rfl) rfl rfl))
      pss_nil) pss_nil)
      pss_nil))
      (pss_cons (ps_ret pe_non)
      pss_nil)), ?_⟩
  refine z_start (σ := [some v2, some (.int stand4), some (.int other5), none]) rfl ?_
  have g : Grow [] S H S H := Grow.refl gS
  obtain ⟨g6, h⟩ := OP.grd h
  obtain ⟨B10, h, hB11⟩ := OP.brk h
  obtain ⟨F12, hF13, h⟩ := OP.nameR h
  refine z_for1 (j := (moves1.length : Int)) (va_cons (v_len (val_var rfl) (RdL.q g r3)) va_nil) g6 (fun ys15 σ' H' => ∃ (u16 : Option V) (S_17 : Hp), σ' = [some v2, some (.int stand4), some (.int other5), u16] ∧ Grow [] S H S_17 H' ∧ Same S S_17 ∧ OP (forR F12 ys15 ()) (SE B10 A_)) ⟨_, _, rfl, g, (Same.refl _), h⟩ (fun k7 ys15 σ' H_18 p N hN14 => ?_) ?_
  · obtain ⟨u16, S_17, rfl, gN, eS19, h⟩ := p
    replace g := gN
    replace r3 := RdL.mono eS19 r3
    replace h := OP.forR h
    replace h := OP.fcall2 hF13 h
    refine g_name (σ' := [some v2, some (.int stand4), some (.int other5), some (.int k7)]) rfl ?_
    refine z_ifE ?_
    obtain ⟨B20, h, hB21⟩ := OP.cut h
    refine c_cutT (fun b H' => ∃ (S_24 : Hp), Grow [] S H S_24 H' ∧ Same S_17 S_24 ∧ B20 b) (fun q22 hq23 => ?_) ?_
    · have sn27 := Same.refl S_17
      refine c_and ?_
      obtain ⟨i28, ei28, h⟩ := OP.bind h
      obtain ⟨w_29, hw_29, rw_29⟩ := v_ixr g r3 ei28
      obtain ⟨w_30, hw_30, rw_30⟩ := v_p20 g.sh rw_29
      obtain ⟨v31, ev31, h⟩ := OP.bind h
      refine c_ans (v_B (v_call (va_cons (hw_30 (hw_29 (val_var rfl) (val_var rfl)) val_c) (va_cons (val_var rfl) va_nil)) fun Q q => ⟨_, _, _, rfl, (Rep.mono _ g.sh rw_30), OP.mk ev31 q⟩)) ?_
      refine ifb (fun hc => ?_) (fun hc => ?_)
      · replace h := OP.ite1 hc h
        refine c_test ?_
        refine c_op ?_
        refine c_call ?_
        obtain ⟨i32, ei32, h⟩ := OP.bind h
        obtain ⟨w_33, hw_33, rw_33⟩ := v_ixr g r3 ei32
        obtain ⟨w_34, hw_34, rw_34⟩ := v_p21 g.sh rw_33
        refine c_args (va_cons (val_var rfl) (va_cons (hw_34 (hw_33 (val_var rfl) (val_var rfl)) val_c) va_nil)) ?_
        have gL39 : ∀ l ∈ [], H l = none ∨ l ∈ [] := LM0
        refine ⟨S_17, _, _, _, rfl, g.sh, (RdL.ofL g.sh rw_34 LM0), (OP.of h).mono fun v35 h S_36 H_37 gc38 => ?_⟩
        replace r3 := RdL.mono gc38.ss r3
        replace rw_34 := Rep.mono _ gc38.ss rw_34
        replace eS19 := eS19.trans gc38.ss
        replace sn27 := sn27.trans gc38.ss
        replace g := g.call gc38 gL39
        refine c_val (val_var rfl) ?_
        refine e_eqI ?_
        refine ⟨_, rfl, ?_⟩
        exact hq23 _ _ ⟨_, g, sn27, h⟩
      · replace h := OP.ite0 hc h
        exact hq23 _ _ ⟨_, g, sn27, h⟩
    intro b40 H_25 p
    obtain ⟨S_24, gN, eS26, h⟩ := p
    replace g := gN
    replace r3 := RdL.mono eS26 r3
    replace eS19 := eS19.trans eS26
    replace h := hB21 _ h
    refine ifb (fun hc => ?_) (fun hc => ?_)
    · replace h := OP.ite1 hc h
      refine z_ret (val_var rfl) ?_
      have r41 := (show ((qOpt (qI (K := K)))).R S_24 (.int k7) (some k7) from ⟨(fun z => nomatch z), rfl⟩)
      have h := OP.fin hA h
      exact h _ _ _ g r41
    · replace h := OP.ite0 hc h
      refine z_nextR ?_
      refine z_next ?_
      exact hN14 _ _ ⟨_, _, rfl, g, eS19, h⟩
  · intro σ' H_18 p
    obtain ⟨u16, S_17, rfl, gN, eS19, h⟩ := p
    replace g := gN
    replace r3 := RdL.mono eS19 r3
    replace h := hB11 _ (OP.forR_nil h)
    refine z_ret val_c ?_
    have r42 := (show ((qOpt (qI (K := K)))).R S_17 .non none from rfl)
    have h := OP.fin hA h
    exact h _ _ _ g r42

@[irreducible] def m__law_which (machine1 : O_Machine) (moves4 : (List ((Int × Int × Int) × (List (Int × (Int × Int × Int)))))) (stand7 : Int) (other8 : Int) : Option Bool :=
(m_Machine_which machine1 stand7 other8).bind fun v9 =>
(m__law_first moves4 stand7 other8).bind fun v16 =>
ifo v16.isNone (
some v9.isNone) (
some (v9.isSome && ((!false) && (decide (v9 = v16)))))
abbrev s__law_which : Stmt := top 48
abbrev sn__law_which : List Str := ["_law_machine", "_law_moves", "_law_stand", "_law_other", "_law_found", "_law_due_here"]
theorem sc__law_which : FnScope ["_law_machine", "_law_moves", "_law_stand", "_law_other", "_law_found", "_law_due_here"] ["_law_machine", "_law_moves", "_law_stand", "_law_other"] (defScope (s__law_which)) := ⟨rfl, rfl, rfl, by decide +kernel, rfl, by decide +kernel, by decide +kernel⟩
def p__law_which (K : PySem.W.Frag) (c : Cl) : Sp := fun vs H Q E => ∃ (S : Hp) (v2 : V) (machine1 : O_Machine) (v5 : V) (moves4 : (List ((Int × Int × Int) × (List (Int × (Int × Int × Int)))))) (stand7 : Int) (other8 : Int), vs = [v2, v5, .int stand7, .int other8] ∧ Same S H ∧ ((q_Machine (K := K) c)).R S v2 machine1 ∧ RdL (qT2 (qT3 (qI (K := K)) (qI (K := K)) (qI (K := K))) (qL (qT2 (qI (K := K)) (qT3 (qI (K := K)) (qI (K := K)) (qI (K := K)))))) [] S H v5 moves4 ∧ OP (m__law_which machine1 moves4 stand7 other8) (fun r => ∀ (S' H' : Hp), Grow [] S H S' H' → Q (.bl r) H')
theorem ok__law_which (T : Tx K mg) : FnOk P w K mg base CX0 104 T.f__law_which T.d__law_which ["_law_machine", "_law_moves", "_law_stand", "_law_other"] (p__law_which K T.c) := by
  refine T.F__law_which.ok sc__law_which (fun vs H Q E h => by obtain ⟨S, v2, machine1, v5, moves4, stand7, other8, rfl, _⟩ := h; rfl) (fun cdv A outer s H vs Q E hr h => ?_)
  obtain ⟨S, v2, machine1, v5, moves4, stand7, other8, rfl, gS, r3, r6, h⟩ := h
  obtain ⟨A_, hA⟩ : ∃ A_, A_ = (fun r : Bool => ∀ (S' H' : Hp), Grow [] S H S' H' → Q (.bl r) H') := ⟨_, rfl⟩
  replace h : OP (m__law_which machine1 moves4 stand7 other8) A_ := hA ▸ h
  rw [m__law_which] at h
  have hr4 : Room 4 _ := hr.mono (by decide)
  have hr103 : Room 103 _ := hr.mono (by decide)
  refine ⟨_, (pss_cons (ps_set (i := 4) sc__law_which.nd rfl (.inl rfl) (pe_meth (pe_var (i := 0) rfl (.inl rfl) rfl rfl) T.l_Machine T.t_Machine_which (ok_Machine_which T) hr103 T.b_Machine_which .nil pass0 (pa_cons (pe_var (i := 2) rfl (.inl rfl) rfl rfl) (pa_cons (pe_var (i := 3) rfl (.inl rfl) rfl rfl) pa_nil))))
      (pss_cons (ps_set (i := 5) sc__law_which.nd rfl (.inl rfl) (pe_call (ok__law_first T) hr4 rfl T.m__law_first T.F__law_first.kp T.b__law_first .nil pass0 (pa_cons (pe_var (i := 1) rfl (.inl rfl) rfl rfl) (pa_cons (pe_var (i := 2) rfl (.inl rfl) rfl rfl) (pa_cons (pe_var (i := 3) rfl (.inl rfl) rfl rfl) pa_nil)))))
      (pss_cons (ps_if (pt_cmpR op_isN1 (pe_var (i := 5) rfl (.inl rfl) rfl rfl) pe_non (nomark _)) (pss_cons (ps_ret (pe_cmpR op_isN1 (pe_var (i := 4) rfl (.inl rfl) rfl rfl) pe_non (nomark _)))
      pss_nil) pss_nil)
      (pss_cons (ps_ret (pe_and (pe_callB (show CallR _ (.builtin "isinstance") (rIsi K) from call_isi) rfl T.n_isinstance bt_isinstance (pa_cons (pe_var (i := 4) rfl (.inl rfl) rfl rfl) (pa_cons (pe_bltn (v := .ty "int") rfl T.n_int bt_int rfl) pa_nil))) (pe_and (pe_not (pe_callB (show CallR _ (.builtin "isinstance") (rIsi K) from call_isi) rfl T.n_isinstance bt_isinstance (pa_cons (pe_var (i := 4) rfl (.inl rfl) rfl rfl) (pa_cons (pe_bltn (v := .ty "bool") rfl T.n_bool bt_bool rfl) pa_nil)))) (pe_one (pe_cmpR (show OpR _ _ (rEqD K) from op_eqD hr.units) (pe_var (i := 4) rfl (.inl rfl) rfl rfl) (pe_var (i := 5) rfl (.inl rfl) rfl rfl) (nomark _))))))
      pss_nil)))), ?_⟩
  refine z_start (σ := [some v2, some v5, some (.int stand7), some (.int other8), none, none]) rfl ?_
  have g : Grow [] S H S H := Grow.refl gS
  refine z_setE ?_
  refine c_meth (val_var rfl) (in_Machine (Rep.mono _ g.sh r3)) (m := "which") (by decide) ?_
  refine c_args (va_cons (val_var rfl) (va_cons (val_var rfl) va_nil)) ?_
  have gL15 : ∀ l ∈ [], H l = none ∨ l ∈ [] := LM0
  refine ⟨S, _, _, _, _, rfl, g.sh, r3, (OP.of h).mono fun v9 h S_10 H_11 v13 gc12 r14 => ?_⟩
  replace r3 := Rep.mono _ gc12.ss r3
  replace r6 := RdL.mono gc12.ss r6
  replace g := g.call gc12 gL15
  refine g_name (σ' := [some v2, some v5, some (.int stand7), some (.int other8), some v13, none]) rfl ?_
  refine z_setE ?_
  refine c_call ?_
  refine c_args (va_cons (val_var rfl) (va_cons (val_var rfl) (va_cons (val_var rfl) va_nil))) ?_
  have gL22 : ∀ l ∈ [], H l = none ∨ l ∈ [] := LM0
  refine ⟨S_10, _, _, _, _, rfl, g.sh, (RdL.to g r6 LM0), (OP.of h).mono fun v16 h S_17 H_18 v20 gc19 r21 => ?_⟩
  replace r3 := Rep.mono _ gc19.ss r3
  replace r6 := RdL.mono gc19.ss r6
  replace r14 := Rep.mono _ gc19.ss r14
  replace g := g.call gc19 gL22
  refine g_name (σ' := [some v2, some v5, some (.int stand7), some (.int other8), some v13, some v20]) rfl ?_
  refine z_if (v_test (v_isN (val_var rfl) (opt_dec (Rep.mono _ g.sh r21)))) (fun hc => ?_) (fun hc => ?_)
  · replace h := OP.ite1 hc h
    refine z_ret (v_isN (val_var rfl) (opt_dec (Rep.mono _ g.sh r14))) ?_
    have h := OP.fin hA h
    exact h _ _ g
  · replace h := OP.ite0 hc h
    refine z_nextR ?_
    refine z_ret (v_and (v_isiO (val_var rfl) (Rep.mono _ g.sh r14) (fun hv => (ty_scI hv)) (by decide +kernel) (by decide +kernel)) (v_and (v_not (v_isiN (val_var rfl) (Rep.mono _ g.sh r14) (fun hv => (ty_scI hv)) (by decide +kernel) (by decide +kernel))) (v_eqD (dOpt dI nnI) (dOpt dI nnI) rfl (Nat.le_of_ble_eq_true rfl) (val_var rfl) (val_var rfl) (Rep.mono _ g.sh r14) (Rep.mono _ g.sh r21)))) ?_
    have h := OP.fin hA h
    exact h _ _ g

@[irreducible] def m__law_whichs (machine1 : O_Machine) (moves4 : (List ((Int × Int × Int) × (List (Int × (Int × Int × Int)))))) (passed7 : (List Int)) (beside10 : Int) : Option Bool :=
grd (gR ((passed7.length : Int) - 1)) <|
brk (forR (fun k12 _ =>
(atI passed7 k12).bind fun i25 =>
(atI passed7 (k12 + 1)).bind fun i26 =>
(m__law_which machine1 moves4 i25 i26).bind fun v27 =>
ifo (!v27) (
some (.inr false)) (
some (.inl ()))) (rangeI 0 (Int.toNat ((passed7.length : Int) - 1))) ()) (fun _ =>
brk (forR (fun x32 _ =>
(m__law_onward beside10 x32.2).bind fun v52 =>
(m__law_which machine1 moves4 beside10 v52).bind fun v57 =>
ifo (!v57) (
some (.inr false)) (
some (.inl ()))) (moves4) ()) (fun _ =>
(atI passed7 (-1)).bind fun i62 =>
(m__law_which machine1 moves4 i62 beside10).bind fun v63 =>
some v63))
abbrev s__law_whichs : Stmt := top 49
abbrev sn__law_whichs : List Str := ["_law_machine", "_law_moves", "_law_passed", "_law_beside", "_law_k", "_law_guard", "_law_changes_here"]
theorem sc__law_whichs : FnScope ["_law_machine", "_law_moves", "_law_passed", "_law_beside", "_law_k", "_law_guard", "_law_changes_here"] ["_law_machine", "_law_moves", "_law_passed", "_law_beside"] (defScope (s__law_whichs)) := ⟨rfl, rfl, rfl, by decide +kernel, rfl, by decide +kernel, by decide +kernel⟩
def p__law_whichs (K : PySem.W.Frag) (c : Cl) : Sp := fun vs H Q E => ∃ (S : Hp) (v2 : V) (machine1 : O_Machine) (v5 : V) (moves4 : (List ((Int × Int × Int) × (List (Int × (Int × Int × Int)))))) (v8 : V) (passed7 : (List Int)) (beside10 : Int), vs = [v2, v5, v8, .int beside10] ∧ Same S H ∧ ((q_Machine (K := K) c)).R S v2 machine1 ∧ RdL (qT2 (qT3 (qI (K := K)) (qI (K := K)) (qI (K := K))) (qL (qT2 (qI (K := K)) (qT3 (qI (K := K)) (qI (K := K)) (qI (K := K)))))) [] S H v5 moves4 ∧ RdL (qI (K := K)) [] S H v8 passed7 ∧ OP (m__law_whichs machine1 moves4 passed7 beside10) (fun r => ∀ (S' H' : Hp), Grow [] S H S' H' → Q (.bl r) H')
theorem ok__law_whichs (T : Tx K mg) : FnOk P w K mg base CX0 105 T.f__law_whichs T.d__law_whichs ["_law_machine", "_law_moves", "_law_passed", "_law_beside"] (p__law_whichs K T.c) := by
  refine T.F__law_whichs.ok sc__law_whichs (fun vs H Q E h => by obtain ⟨S, v2, machine1, v5, moves4, v8, passed7, beside10, rfl, _⟩ := h; rfl) (fun cdv A outer s H vs Q E hr h => ?_)
  obtain ⟨S, v2, machine1, v5, moves4, v8, passed7, beside10, rfl, gS, r3, r6, r9, h⟩ := h
  obtain ⟨A_, hA⟩ : ∃ A_, A_ = (fun r : Bool => ∀ (S' H' : Hp), Grow [] S H S' H' → Q (.bl r) H') := ⟨_, rfl⟩
  replace h : OP (m__law_whichs machine1 moves4 passed7 beside10) A_ := hA ▸ h
  rw [m__law_whichs] at h
  have hr3 : Room 3 _ := hr.mono (by decide)
  have hr104 : Room 104 _ := hr.mono (by decide)
  refine ⟨_, (pss_cons (ps_for PassesOwn.never rfl (pi_range1 rfl T.n_range (pa_cons (pe_op op_sub (pe_callB (show CallR _ (.builtin "len") (Z.rLenS K) from call_len_seq) rfl T.n_len bt_len (pa_cons (pe_var (i := 2) rfl (.inl rfl) rfl rfl) pa_nil)) pe_int) pa_nil)) (pg_name (i := 4) sc__law_whichs.nd rfl (.inl rfl)) (pss_cons (ps_if (pt_not (pt_val (pe_call (ok__law_which T) hr104 rfl T.m__law_which T.F__law_which.kp T.b__law_which .nil pass0 (pa_cons (pe_var (i := 0) rfl (.inl rfl) rfl rfl) (pa_cons (pe_var (i := 1) rfl (.inl rfl) rfl rfl) (pa_cons (pe_ix (show IxR _ (rIxL K) from ix_list) (pe_var (i := 2) rfl (.inl rfl) rfl rfl) (pe_var (i := 4) rfl (.inl rfl) rfl rfl) (fun _ _ => rfl)) (pa_cons (pe_ix (show IxR _ (rIxL K) from ix_list) (pe_var (i := 2) rfl (.inl rfl) rfl rfl) (pe_op op_add (pe_var (i := 4) rfl (.inl rfl) rfl rfl) pe_int) (fun _ _ => rfl)) pa_nil))))))) (pss_cons (ps_ret pe_bl)
      pss_nil) pss_nil)
      pss_nil))
      (pss_cons (ps_for PassesOwn.never rfl (pi_list (pe_var (i := 1) rfl (.inl rfl) rfl rfl)) (pg_tup rfl (pgs_cons (pg_name (i := 5) sc__law_whichs.nd rfl (.inl rfl)) (pgs_cons (pg_name (i := 6) sc__law_whichs.nd rfl (.inl rfl)) pgs_nil))) (pss_cons (ps_if (pt_not (pt_val (pe_call (ok__law_which T) hr104 rfl T.m__law_which T.F__law_which.kp T.b__law_which .nil pass0 (pa_cons (pe_var (i := 0) rfl (.inl rfl) rfl rfl) (pa_cons (pe_var (i := 1) rfl (.inl rfl) rfl rfl) (pa_cons (pe_var (i := 3) rfl (.inl rfl) rfl rfl) (pa_cons (pe_call (ok__law_onward T) hr3 rfl T.m__law_onward T.F__law_onward.kp T.b__law_onward .nil pass0 (pa_cons (pe_var (i := 3) rfl (.inl rfl) rfl rfl) (pa_cons (pe_var (i := 6) rfl (.inl rfl) rfl rfl) pa_nil))) pa_nil))))))) (pss_cons (ps_ret pe_bl)
      pss_nil) pss_nil)
      pss_nil))
      (pss_cons (ps_ret (pe_call (ok__law_which T) hr104 rfl T.m__law_which T.F__law_which.kp T.b__law_which .nil pass0 (pa_cons (pe_var (i := 0) rfl (.inl rfl) rfl rfl) (pa_cons (pe_var (i := 1) rfl (.inl rfl) rfl rfl) (pa_cons (pe_ix (show IxR _ (rIxL K) from ix_list) (pe_var (i := 2) rfl (.inl rfl) rfl rfl) (pe_un un_neg pe_int) (fun _ _ => rfl)) (pa_cons (pe_var (i := 3) rfl (.inl rfl) rfl rfl) pa_nil))))))
      pss_nil))), ?_⟩
  refine z_start (σ := [some v2, some v5, some v8, some (.int beside10), none, none, none]) rfl ?_
  have g : Grow [] S H S H := Grow.refl gS
  obtain ⟨g11, h⟩ := OP.grd h
  obtain ⟨B15, h, hB16⟩ := OP.brk h
  obtain ⟨F17, hF18, h⟩ := OP.nameR h
  refine z_for1 (j := ((passed7.length : Int) - 1)) (va_cons (v_o2 (v_len (val_var rfl) (RdL.q g r9)) val_c) va_nil) g11 (fun ys20 σ' H' => ∃ (u21 : Option V) (S_22 : Hp), σ' = [some v2, some v5, some v8, some (.int beside10), u21, none, none] ∧ Grow [] S H S_22 H' ∧ Same S S_22 ∧ OP (forR F17 ys20 ()) (SE B15 A_)) ⟨_, _, rfl, g, (Same.refl _), h⟩ (fun k12 ys20 σ' H_23 p N hN19 => ?_) ?_
  · obtain ⟨u21, S_22, rfl, gN, eS24, h⟩ := p
    replace g := gN
    replace r3 := Rep.mono _ eS24 r3
    replace r6 := RdL.mono eS24 r6
    replace r9 := RdL.mono eS24 r9
    replace h := OP.forR h
    replace h := OP.fcall2 hF18 h
    refine g_name (σ' := [some v2, some v5, some v8, some (.int beside10), some (.int k12), none, none]) rfl ?_
    refine z_ifE ?_
    refine c_not ?_
    refine c_B ?_
    refine c_call ?_
    obtain ⟨i25, ei25, h⟩ := OP.bind h
    obtain ⟨i26, ei26, h⟩ := OP.bind h
    refine c_args (va_cons (val_var rfl) (va_cons (val_var rfl) (va_cons (v_ixI (val_var rfl) (val_var rfl) (RdL.q g r9) ei25) (va_cons (v_ixI (val_var rfl) (v_o2 (val_var rfl) val_c) (RdL.q g r9) ei26) va_nil)))) ?_
    have gL31 : ∀ l ∈ [], H l = none ∨ l ∈ [] := LM0
    refine ⟨S_22, _, _, _, _, _, _, rfl, g.sh, r3, (RdL.to g r6 LM0), (OP.of h).mono fun v27 h S_28 H_29 gc30 => ?_⟩
    replace r3 := Rep.mono _ gc30.ss r3
    replace r6 := RdL.mono gc30.ss r6
    replace r9 := RdL.mono gc30.ss r9
    replace eS24 := eS24.trans gc30.ss
    replace g := g.call gc30 gL31
    refine ⟨_, rfl, ?_⟩
    refine ifb (fun hc => ?_) (fun hc => ?_)
    · replace h := OP.ite1 hc h
      refine z_ret val_c ?_
      have h := OP.fin hA h
      exact h _ _ g
    · replace h := OP.ite0 hc h
      refine z_nextR ?_
      refine z_next ?_
      exact hN19 _ _ ⟨_, _, rfl, g, eS24, h⟩
  · intro σ' H_23 p
    obtain ⟨u21, S_22, rfl, gN, eS24, h⟩ := p
    replace g := gN
    replace r3 := Rep.mono _ eS24 r3
    replace r6 := RdL.mono eS24 r6
    replace r9 := RdL.mono eS24 r9
    replace h := hB16 _ (OP.forR_nil h)
    obtain ⟨B35, h, hB36⟩ := OP.brk h
    obtain ⟨F37, hF38, h⟩ := OP.nameR h
    obtain ⟨q46a, q46w, q46e, q46h, q46p⟩ := id r6
    refine z_forL (v_eq (val_var rfl) q46e) q46p (fun ys40 σ' H' => ∃ (u41 : Option V) (u42 : Option V) (S_43 : Hp), σ' = [some v2, some v5, some v8, some (.int beside10), u21, u41, u42] ∧ Grow [] S H S_43 H' ∧ Same S_22 S_43 ∧ OP (forR F37 ys40 ()) (SE B35 A_)) ⟨_, _, _, rfl, g, (Same.refl _), h⟩ (fun ys σ' H' p => by obtain ⟨u41, u42, S_43, rfl, gN, eS45, h⟩ := p; exact gN.sq q46h) (fun w_33 x32 ys40 σ' H_44 rw34 p N hN39 => ?_) ?_
    · obtain ⟨u41, u42, S_43, rfl, gN, eS45, h⟩ := p
      replace g := gN
      replace r3 := Rep.mono _ eS45 r3
      replace r6 := RdL.mono eS45 r6
      replace r9 := RdL.mono eS45 r9
      replace h := OP.forR h
      replace h := OP.fcall2 hF38 h
      have rx47 := Rep.mono _ eS45 rw34
      refine g_tup2 rfl g.sh rx47 fun w_48 w_49 r50 r51 => ?_
      refine g_name (σ' := [some v2, some v5, some v8, some (.int beside10), u21, some w_48, u42]) rfl ?_
      refine g_next ?_
      refine g_name (σ' := [some v2, some v5, some v8, some (.int beside10), u21, some w_48, some w_49]) rfl ?_
      refine g_end ?_
      refine z_ifE ?_
      refine c_not ?_
      refine c_B ?_
      refine c_call ?_
      refine c_cons ?_
      refine c_val (val_var rfl) ?_
      refine c_cons ?_
      refine c_val (val_var rfl) ?_
      refine c_cons ?_
      refine c_val (val_var rfl) ?_
      refine c_cons ?_
      refine c_call ?_
      refine c_args (va_cons (val_var rfl) (va_cons (val_var rfl) va_nil)) ?_
      have gL56 : ∀ l ∈ [], H l = none ∨ l ∈ [] := LM0
      refine ⟨S_43, _, _, _, rfl, g.sh, (RdL.ofL g.sh r51 LM0), (OP.of h).mono fun v52 h S_53 H_54 gc55 => ?_⟩
      replace r3 := Rep.mono _ gc55.ss r3
      replace r6 := RdL.mono gc55.ss r6
      replace r9 := RdL.mono gc55.ss r9
      replace r50 := Rep.mono _ gc55.ss r50
      replace r51 := Rep.mono _ gc55.ss r51
      replace eS45 := eS45.trans gc55.ss
      replace g := g.call gc55 gL56
      refine c_nil ?_
      have gL61 : ∀ l ∈ [], H l = none ∨ l ∈ [] := LM0
      refine ⟨S_53, _, _, _, _, _, _, rfl, g.sh, r3, (RdL.to g r6 LM0), (OP.of h).mono fun v57 h S_58 H_59 gc60 => ?_⟩
      replace r3 := Rep.mono _ gc60.ss r3
      replace r6 := RdL.mono gc60.ss r6
      replace r9 := RdL.mono gc60.ss r9
      replace r50 := Rep.mono _ gc60.ss r50
      replace r51 := Rep.mono _ gc60.ss r51
      replace eS45 := eS45.trans gc60.ss
      replace g := g.call gc60 gL61
      refine ⟨_, rfl, ?_⟩
      refine ifb (fun hc => ?_) (fun hc => ?_)
      · replace h := OP.ite1 hc h
        refine z_ret val_c ?_
        have h := OP.fin hA h
        exact h _ _ g
      · replace h := OP.ite0 hc h
        refine z_nextR ?_
        refine z_next ?_
        exact hN39 _ _ ⟨_, _, _, rfl, g, eS45, h⟩
    · intro σ' H_44 p
      obtain ⟨u41, u42, S_43, rfl, gN, eS45, h⟩ := p
      replace g := gN
      replace r3 := Rep.mono _ eS45 r3
      replace r6 := RdL.mono eS45 r6
      replace r9 := RdL.mono eS45 r9
      replace h := hB36 _ (OP.forR_nil h)
      refine z_retE ?_
      refine c_call ?_
      obtain ⟨i62, ei62, h⟩ := OP.bind h
      refine c_args (va_cons (val_var rfl) (va_cons (val_var rfl) (va_cons (v_ixI (val_var rfl) (v_u val_c) (RdL.q g r9) ei62) (va_cons (val_var rfl) va_nil)))) ?_
      have gL67 : ∀ l ∈ [], H l = none ∨ l ∈ [] := LM0
      refine ⟨S_43, _, _, _, _, _, _, rfl, g.sh, r3, (RdL.to g r6 LM0), (OP.of h).mono fun v63 h S_64 H_65 gc66 => ?_⟩
      replace r3 := Rep.mono _ gc66.ss r3
      replace r6 := RdL.mono gc66.ss r6
      replace r9 := RdL.mono gc66.ss r9
      replace g := g.call gc66 gL67
      have h := OP.fin hA h
      exact h _ _ g

@[irreducible] def m__law_wrong (moves1 : (List ((Int × Int × Int) × (List (Int × (Int × Int × Int)))))) (stand4 : Int) (way5 : Int) (more6 : Int) : Option Int :=
grd (gR (moves1.length : Int)) <|
(compO (fun zx7 =>
(atI moves1 zx7).bind fun i11 =>
(m__law_due i11.1 stand4).bind fun v14 =>
ifo (!v14) (some (some zx7)) (some none)) (rangeI 0 (Int.toNat (moves1.length : Int)))).bind fun ys15 =>
(atI ([9, 9, (ipow 10 30)] : List Int) (more6 % 3)).bind fun i39 =>
ifo (decide (way5 = 1)) (
grd (0 < i39) <|
some ((-1) - ((more6 / 3) % i39))) (
ifo ((decide (way5 = 2)) || (decide ((ys15.length : Int) = 0))) (
grd (0 < i39) <|
some ((moves1.length : Int) + ((more6 / 3) % i39))) (
grd (0 < (ys15.length : Int)) <|
(atI ys15 (more6 % (ys15.length : Int))).bind fun i45 =>
some i45))
abbrev s__law_wrong : Stmt := top 45
abbrev sn__law_wrong : List Str := ["_law_moves", "_law_stand", "_law_way", "_law_more", "_law_unfit", "_law_far", "_law_k"]
theorem sc__law_wrong : FnScope ["_law_moves", "_law_stand", "_law_way", "_law_more", "_law_unfit", "_law_far", "_law_k"] ["_law_moves", "_law_stand", "_law_way", "_law_more"] (defScope (s__law_wrong)) := ⟨rfl, rfl, rfl, by decide +kernel, rfl, by decide +kernel, by decide +kernel⟩
def p__law_wrong (K : PySem.W.Frag) (c : Cl) : Sp := fun vs H Q E => ∃ (S : Hp) (v2 : V) (moves1 : (List ((Int × Int × Int) × (List (Int × (Int × Int × Int)))))) (stand4 : Int) (way5 : Int) (more6 : Int), vs = [v2, .int stand4, .int way5, .int more6] ∧ Same S H ∧ RdL (qT2 (qT3 (qI (K := K)) (qI (K := K)) (qI (K := K))) (qL (qT2 (qI (K := K)) (qT3 (qI (K := K)) (qI (K := K)) (qI (K := K)))))) [] S H v2 moves1 ∧ OP (m__law_wrong moves1 stand4 way5 more6) (fun r => ∀ (S' H' : Hp), Grow [] S H S' H' → Q (.int r) H')
theorem ok__law_wrong (T : Tx K mg) : FnOk P w K mg base CX0 3 T.f__law_wrong T.d__law_wrong ["_law_moves", "_law_stand", "_law_way", "_law_more"] (p__law_wrong K T.c) := by
  refine T.F__law_wrong.ok sc__law_wrong (fun vs H Q E h => by obtain ⟨S, v2, moves1, stand4, way5, more6, rfl, _⟩ := h; rfl) (fun cdv A outer s H vs Q E hr h => ?_)
  obtain ⟨S, v2, moves1, stand4, way5, more6, rfl, gS, r3, h⟩ := h
  obtain ⟨A_, hA⟩ : ∃ A_, A_ = (fun r : Int => ∀ (S' H' : Hp), Grow [] S H S' H' → Q (.int r) H') := ⟨_, rfl⟩
  replace h : OP (m__law_wrong moves1 stand4 way5 more6) A_ := hA ▸ h
  rw [m__law_wrong] at h
  have hr2 : Room 2 _ := hr.mono (by decide)
  refine ⟨_, (pss_cons (ps_setLc (i := 4) (y := "_law_unfit") (own := [("_law_k", 6)]) (g := gName 6) rfl sc__law_wrong.nd rfl rfl (sw_true rfl rfl rfl (by decide +kernel)) (pi_range1 rfl T.n_range (pa_cons (pe_callB (show CallR _ (.builtin "len") (Z.rLenS K) from call_len_seq) rfl T.n_len bt_len (pa_cons (pe_var (i := 0) rfl (.inr (.inl rfl)) rfl rfl) pa_nil)) pa_nil)) (blkOk_by (N := sn__law_wrong) (sc := defScope s__law_wrong) (by decide +kernel)) (fun _ _ _ _ _ => pg_name (i := 6) sc__law_wrong.nd rfl (.inl rfl)) (fun _ _ _ _ _ => (pts_one (pt_not (pt_val (pe_call (ok__law_due T) hr2 rfl T.m__law_due T.F__law_due.kp T.b__law_due .nil pass0 (pa_cons (pe_ix (show IxR _ (rIxT K) from ix_tup) (pe_ix (show IxR _ (rIxL K) from ix_list) (pe_var (i := 0) rfl (by first | exact .inr (.inr rfl) | exact .inr (.inl rfl)) rfl rfl) (pe_var (i := 6) rfl (.inl rfl) rfl rfl) (fun _ _ => rfl)) pe_int (fun _ _ => rfl)) (pa_cons (pe_var (i := 1) rfl (by first | exact .inr (.inr rfl) | exact .inr (.inl rfl)) rfl rfl) pa_nil))))))) (fun _ _ _ _ _ => (pe_var (i := 6) rfl (.inl rfl) rfl rfl)))
      (pss_cons (ps_set (i := 5) sc__law_wrong.nd rfl (.inl rfl) (pe_ix (show IxR _ (rIxL K) from ix_list) (pe_lst (pa_cons pe_int (pa_cons pe_int (pa_cons (pe_op op_pow pe_int pe_int) pa_nil)))) (pe_op op_mod (pe_var (i := 3) rfl (.inl rfl) rfl rfl) pe_int) (fun _ _ => rfl)))
      (pss_cons (ps_if (pt_cmpR op_eq (pe_var (i := 2) rfl (.inl rfl) rfl rfl) pe_int (nomark _)) (pss_cons (ps_ret (pe_op op_sub (pe_un un_neg pe_int) (pe_op op_mod (pe_op op_fdiv (pe_var (i := 3) rfl (.inl rfl) rfl rfl) pe_int) (pe_var (i := 5) rfl (.inl rfl) rfl rfl))))
      pss_nil) pss_nil)
      (pss_cons (ps_if (PW.pt (pw_or (pt_cmpR op_eq (pe_var (i := 2) rfl (.inl rfl) rfl rfl) pe_int (nomark _)) (pw_or1 (pt_cmpR op_eq (pe_callB (show CallR _ (.builtin "len") (Z.rLenS K) from call_len_seq) rfl T.n_len bt_len (pa_cons (pe_var (i := 4) rfl (.inl rfl) rfl rfl) pa_nil)) pe_int (nomark _))))) (pss_cons (ps_ret (pe_op op_add (pe_callB (show CallR _ (.builtin "len") (Z.rLenS K) from call_len_seq) rfl T.n_len bt_len (pa_cons (pe_var (i := 0) rfl (.inr (.inl rfl)) rfl rfl) pa_nil)) (pe_op op_mod (pe_op op_fdiv (pe_var (i := 3) rfl (.inl rfl) rfl rfl) pe_int) (pe_var (i := 5) rfl (.inl rfl) rfl rfl))))
      pss_nil) pss_nil)
      (pss_cons (ps_ret (pe_ix (show IxR _ (rIxL K) from ix_list) (pe_var (i := 4) rfl (.inl rfl) rfl rfl) (pe_op op_mod (pe_var (i := 3) rfl (.inl rfl) rfl rfl) (pe_callB (show CallR _ (.builtin "len") (Z.rLenS K) from call_len_seq) rfl T.n_len bt_len (pa_cons (pe_var (i := 4) rfl (.inl rfl) rfl rfl) pa_nil))) (fun _ _ => rfl)))
      pss_nil))))), ?_⟩
  refine z_start (σ := [some v2, some (.int stand4), some (.int way5), some (.int more6), none, none, none]) rfl ?_
  have g : Grow [] S H S H := Grow.refl gS
  refine z_setE ?_
  obtain ⟨g8, h⟩ := OP.grd h
  obtain ⟨ys15, eys15, h⟩ := OP.bind h
  refine c_lcR1 (n := (moves1.length : Int)) (va_cons (v_len (val_var rfl) (RdL.q g r3)) va_nil) g8 eys15 (τ := (qI (K := K))) (S := S) (fun zx7 H_9 e10 r_ hm => ?_) ?_
  · have g := g.ext e10
    obtain ⟨i11, ei11, hm⟩ := bind_some hm
    obtain ⟨w_12, hw_12, rw_12⟩ := v_ixr g r3 ei11
    obtain ⟨w_13, hw_13, rw_13⟩ := v_p20 g.sh rw_12
    obtain ⟨v14, ev14, hm⟩ := bind_some hm
    refine ⟨_, (a_not (v_B (v_call (va_cons (hw_13 (hw_12 (val_var rfl) (val_var rfl)) val_c) (va_cons (val_var rfl) va_nil)) fun Q q => ⟨_, _, _, rfl, (Rep.mono _ g.sh rw_13), OP.mk ev14 q⟩))), fun hb => ?_, fun hb => ?_⟩
    · rw [ifo_t hb] at hm
      exact ⟨_, _, (Option.some.inj hm).symm, val_var rfl, rfl⟩
    · rw [ifo_f hb] at hm
      exact (Option.some.inj hm).symm
  intro p16 ws17 H_18 e19 np20 ep21 rw22
  have z24 := g.hnone np20
  have c_23 : Cel [] H S H_18 p16 (.lst ws17) := Cel.own g e19 np20 ep21 rfl
  replace g := g.ext e19
  obtain ⟨S_25, g26, eS27, r28, ot29⟩ := c_freeze g c_23 z24 rw22
  replace r3 := RdL.mono eS27 r3
  replace g := g26
  refine g_name (σ' := [some v2, some (.int stand4), some (.int way5), some (.int more6), some (.ref p16), none, none]) rfl ?_
  refine z_setE ?_
  refine c_op ?_
  refine c_lstE fun Q_30 hQ_30 => ?_
  refine c_args (va_cons val_c (va_cons val_c (va_cons (v_o2c val_c val_c ⟨by decide, by decide, by decide⟩) va_nil))) ?_
  refine c_newlst (Q := Q_30) (vs := [(.int 9), (.int 9), (.int (ipow 10 30))]) (show 3 ≤ 1000 by decide) fun p31 H_32 e33 np34 ep35 => ?_
  refine q_eq hQ_30 ?_
  have w_36 : RL (qI (K := K)) S_25 [(.int 9), (.int 9), (.int (ipow 10 30))] ([9, 9, (ipow 10 30)] : List Int) := (.cons rfl (.cons rfl (.cons rfl .nil)))
  have z38 := g.hnone np34
  have c_37 : Cel [] H S_25 H_32 p31 (.lst [(.int 9), (.int 9), (.int (ipow 10 30))]) := Cel.own g e33 np34 ep35 rfl
  replace g := g.ext e33
  refine c_val (v_o2c (val_var rfl) val_c (show (0 : Int) < 3 by decide)) ?_
  obtain ⟨i39, ei39, h⟩ := OP.bind h
  refine e_ix (LS.cel c_37.h w_36) ei39 fun w_40 r41 => ?_
  cases (show w_40 = (.int i39) from r41)
  refine g_name (σ' := [some v2, some (.int stand4), some (.int way5), some (.int more6), some (.ref p16), some (.int i39), none]) rfl ?_
  refine z_if (v_test (v_eqI (val_var rfl) val_c)) (fun hc => ?_) (fun hc => ?_)
  · replace h := OP.ite1 hc h
    obtain ⟨g42, h⟩ := OP.grd h
    refine z_ret (v_o2 (v_u val_c) (v_o2c (v_o2c (val_var rfl) val_c ⟨by decide, by decide⟩) (val_var rfl) g42)) ?_
    have h := OP.fin hA h
    exact h _ _ g
  · replace h := OP.ite0 hc h
    refine z_nextR ?_
    refine z_if (a_or (v_test (v_eqI (val_var rfl) val_c)) (v_test (v_eqI (v_len (val_var rfl) (qL_qQ (Rep.mono _ g.sh r28))) val_c))) (fun hc => ?_) (fun hc => ?_)
    · replace h := OP.ite1 hc h
      obtain ⟨g43, h⟩ := OP.grd h
      refine z_ret (v_o2 (v_len (val_var rfl) (RdL.q g r3)) (v_o2c (v_o2c (val_var rfl) val_c ⟨by decide, by decide⟩) (val_var rfl) g43)) ?_
      have h := OP.fin hA h
      exact h _ _ g
    · replace h := OP.ite0 hc h
      refine z_nextR ?_
      obtain ⟨g44, h⟩ := OP.grd h
      obtain ⟨i45, ei45, h⟩ := OP.bind h
      refine z_ret (v_ixI (val_var rfl) (v_o2c (val_var rfl) (v_len (val_var rfl) (qL_qQ (Rep.mono _ g.sh r28))) g44) (qL_qQ (Rep.mono _ g.sh r28)) ei45) ?_
      have h := OP.fin hA h
      exact h _ _ g

@[irreducible] def m_law (script1 : (List Int)) : Option Bool :=
(m__law_cell_at script1 0).bind fun v4 =>
lt (1 + (v4 % 6)) fun many5 =>
lt ((v4 / 6) % 9) fun count6 =>
(m__law_cell_at script1 1).bind fun v7 =>
grd (gR count6) <|
(forO (fun k18 moves30 =>
(m__law_cell_at script1 (2 + (2 * k18))).bind fun v36 =>
(m__law_recipe v36 many5).bind fun v37 =>
(m__law_cell_at script1 (3 + (2 * k18))).bind fun v45 =>
(m__law_changes v45 many5).bind fun v46 =>
grd (moves30.length < 16777216) <|
lt (moves30 ++ [(v37, v46)]) fun l72 =>
some l72) (rangeI 0 (Int.toNat count6)) ([] : List ((Int × Int × Int) × (List (Int × (Int × Int × Int)))))).bind (fun moves30 =>
(m__law_machines many5 moves30).bind fun v79 =>
grd (gPow 1 many5) <|
grd (0 < (shl 1 many5)) <|
lt ((v7 / 4) % (shl 1 many5)) fun stand92 =>
(m__law_walk moves30 stand92 (cutI script1 (some 2) (some 62))).bind fun v103 =>
brk (ifo (decide (0 < (v7 % 4))) (
grd (0 < (v103.1.length : Int)) <|
lt ((v4 / 54) % (v103.1.length : Int)) fun place206 =>
(atI v103.1 place206).bind fun i207 =>
(m__law_wrong moves30 i207 (v7 % 4) (v4 / 54)).bind fun v208 =>
grd ((cutI v103.2 none (some place206)).length + ([v208] : List Int).length ≤ 16777216) <|
grd (((cutI v103.2 none (some place206)) ++ ([v208] : List Int)).length + (cutI v103.2 (some place206) none).length ≤ 16777216) <|
(m__law_refused v79.1 stand92 (((cutI v103.2 none (some place206)) ++ ([v208] : List Int)) ++ (cutI v103.2 (some place206) none))).bind fun v267 =>
ifo (!v267) (
some (.inr false)) (
some (.inl ()))) (
some (.inl ()))) (fun _ =>
(m_Machine_walked v79.1 stand92 v103.2).bind fun v137 =>
exE v137 (fun c_142 =>
none) fun v143 =>
ifo ((!(decide (v103.2 = v103.2))) || ((!true) || (!(decide ((v143.length : Int) = (v103.1.length : Int)))))) (
some false) (
grd (gR (v103.1.length : Int)) <|
brk (forR (fun k162 _ =>
(atI v143 k162).bind fun i173 =>
(ifo (!true) (some true) ((atI v143 k162).bind fun i174 =>
(ifo false (some true) ((atI v143 k162).bind fun i175 =>
(atI v103.1 k162).bind fun i176 =>
some (!(decide (i175 = i176))))).bind fun c_177 =>
some c_177)).bind fun c_178 =>
ifo c_178 (
some (.inr false)) (
some (.inl ()))) (rangeI 0 (Int.toNat (v103.1.length : Int))) ()) (fun _ =>
grd (gPow 1 many5) <|
grd (0 < (shl 1 many5)) <|
lt ((v7 / 256) % (shl 1 many5)) fun beside182 =>
(m__law_whichs v79.2 moves30.reverse v103.1 beside182).bind fun v194 =>
ifo (!v194) (
some false) (
(m__law_whichs v79.1 moves30 v103.1 beside182).bind fun v199 =>
some v199)))))
abbrev s_law : Stmt := top 50
abbrev sn_law : List Str := ["_law_script", "_law_first_here", "_law_many", "_law_count", "_law_second", "_law_moves", "_law_k", "_law_guard", "_law_machine", "_law_other", "_law_stand", "_law_passed", "_law_picks", "_law_place", "_law_wrong_here", "_law_handed", "_law_found", "_law_beside"]
theorem sc_law : FnScope ["_law_script", "_law_first_here", "_law_many", "_law_count", "_law_second", "_law_moves", "_law_k", "_law_guard", "_law_machine", "_law_other", "_law_stand", "_law_passed", "_law_picks", "_law_place", "_law_wrong_here", "_law_handed", "_law_found", "_law_beside"] ["_law_script"] (defScope (s_law)) := ⟨rfl, rfl, rfl, by decide +kernel, rfl, by decide +kernel, by decide +kernel⟩
def p_law (K : PySem.W.Frag) (c : Cl) : Sp := fun vs H Q E => ∃ (S : Hp) (v2 : V) (script1 : (List Int)), vs = [v2] ∧ Same S H ∧ RdL (qI (K := K)) [] S H v2 script1 ∧ OP (m_law script1) (fun r => ∀ (S' H' : Hp), Grow [] S H S' H' → Q (.bl r) H')
theorem ok_law (T : Tx K mg) : FnOk P w K mg base CX0 106 T.f_law T.d_law ["_law_script"] (p_law K T.c) := by
  refine T.F_law.ok sc_law (fun vs H Q E h => by obtain ⟨S, v2, script1, rfl, _⟩ := h; rfl) (fun cdv A outer s H vs Q E hr h => ?_)
  obtain ⟨S, v2, script1, rfl, gS, r3, h⟩ := h
  obtain ⟨A_, hA⟩ : ∃ A_, A_ = (fun r : Bool => ∀ (S' H' : Hp), Grow [] S H S' H' → Q (.bl r) H') := ⟨_, rfl⟩
  replace h : OP (m_law script1) A_ := hA ▸ h
  rw [m_law] at h
  have hr1 : Room 1 _ := hr.mono (by decide)
  have hr2 : Room 2 _ := hr.mono (by decide)
  have hr3 : Room 3 _ := hr.mono (by decide)
  have hr4 : Room 4 _ := hr.mono (by decide)
  have hr103 : Room 103 _ := hr.mono (by decide)
  have hr104 : Room 104 _ := hr.mono (by decide)
  have hr105 : Room 105 _ := hr.mono (by decide)
  refine ⟨_, (pss_cons (ps_set (i := 1) sc_law.nd rfl (.inl rfl) (pe_call (ok__law_cell_at T) hr1 rfl T.m__law_cell_at T.F__law_cell_at.kp T.b__law_cell_at .nil pass0 (pa_cons (pe_var (i := 0) rfl (.inl rfl) rfl rfl) (pa_cons pe_int pa_nil))))
      (pss_cons (ps_set (i := 2) sc_law.nd rfl (.inl rfl) (pe_op op_add pe_int (pe_op op_mod (pe_var (i := 1) rfl (.inl rfl) rfl rfl) pe_int)))
      (pss_cons (ps_set (i := 3) sc_law.nd rfl (.inl rfl) (pe_op op_mod (pe_op op_fdiv (pe_var (i := 1) rfl (.inl rfl) rfl rfl) pe_int) pe_int))
      (pss_cons (ps_set (i := 4) sc_law.nd rfl (.inl rfl) (pe_call (ok__law_cell_at T) hr1 rfl T.m__law_cell_at T.F__law_cell_at.kp T.b__law_cell_at .nil pass0 (pa_cons (pe_var (i := 0) rfl (.inl rfl) rfl rfl) (pa_cons pe_int pa_nil))))
      (pss_cons (ps_set (i := 5) sc_law.nd rfl (.inl rfl) (pe_lst pa_nil))
      (pss_cons (ps_for PassesOwn.never rfl (pi_range1 rfl T.n_range (pa_cons (pe_var (i := 3) rfl (.inl rfl) rfl rfl) pa_nil)) (pg_name (i := 6) sc_law.nd rfl (.inl rfl)) (pss_cons (ps_set (i := 7) sc_law.nd rfl (.inl rfl) (pe_call (ok__law_recipe T) hr1 rfl T.m__law_recipe T.F__law_recipe.kp T.b__law_recipe .nil pass0 (pa_cons (pe_call (ok__law_cell_at T) hr1 rfl T.m__law_cell_at T.F__law_cell_at.kp T.b__law_cell_at .nil pass0 (pa_cons (pe_var (i := 0) rfl (.inl rfl) rfl rfl) (pa_cons (pe_op op_add pe_int (pe_op op_mul pe_int (pe_var (i := 6) rfl (.inl rfl) rfl rfl))) pa_nil))) (pa_cons (pe_var (i := 2) rfl (.inl rfl) rfl rfl) pa_nil))))
      (pss_cons (ps_expr (pe_bm PySem.F.plainAttrs_list PySem.F.slot_list_append PySem.F.type_list_append mt_append (pe_var (i := 5) rfl (.inl rfl) rfl rfl) (pa_cons (pe_tup (pa_cons (pe_var (i := 7) rfl (.inl rfl) rfl rfl) (pa_cons (pe_call (ok__law_changes T) hr2 rfl T.m__law_changes T.F__law_changes.kp T.b__law_changes .nil pass0 (pa_cons (pe_call (ok__law_cell_at T) hr1 rfl T.m__law_cell_at T.F__law_cell_at.kp T.b__law_cell_at .nil pass0 (pa_cons (pe_var (i := 0) rfl (.inl rfl) rfl rfl) (pa_cons (pe_op op_add pe_int (pe_op op_mul pe_int (pe_var (i := 6) rfl (.inl rfl) rfl rfl))) pa_nil))) (pa_cons (pe_var (i := 2) rfl (.inl rfl) rfl rfl) pa_nil))) pa_nil))) pa_nil)))
      pss_nil)))
      (pss_cons (ps_asg (pe_call (ok__law_machines T) hr4 rfl T.m__law_machines T.F__law_machines.kp T.b__law_machines .nil pass0 (pa_cons (pe_var (i := 2) rfl (.inl rfl) rfl rfl) (pa_cons (pe_var (i := 5) rfl (.inl rfl) rfl rfl) pa_nil))) (pg_tup rfl (pgs_cons (pg_name (i := 8) sc_law.nd rfl (.inl rfl)) (pgs_cons (pg_name (i := 9) sc_law.nd rfl (.inl rfl)) pgs_nil))))
      (pss_cons (ps_set (i := 10) sc_law.nd rfl (.inl rfl) (pe_op op_mod (pe_op op_fdiv (pe_var (i := 4) rfl (.inl rfl) rfl rfl) pe_int) (pe_op op_shl pe_int (pe_var (i := 2) rfl (.inl rfl) rfl rfl))))
      (pss_cons (ps_asg (pe_call (ok__law_walk T) hr4 rfl T.m__law_walk T.F__law_walk.kp T.b__law_walk .nil pass0 (pa_cons (pe_var (i := 5) rfl (.inl rfl) rfl rfl) (pa_cons (pe_var (i := 10) rfl (.inl rfl) rfl rfl) (pa_cons (pe_slice sl_list (pe_var (i := 0) rfl (.inl rfl) rfl rfl) (po_some pe_int) (po_some pe_int)) pa_nil)))) (pg_tup rfl (pgs_cons (pg_name (i := 11) sc_law.nd rfl (.inl rfl)) (pgs_cons (pg_name (i := 12) sc_law.nd rfl (.inl rfl)) pgs_nil))))
      (pss_cons (ps_if (pt_cmpR op_gt (pe_op op_mod (pe_var (i := 4) rfl (.inl rfl) rfl rfl) pe_int) pe_int (nomark _)) (pss_cons (ps_set (i := 13) sc_law.nd rfl (.inl rfl) (pe_op op_mod (pe_op op_fdiv (pe_var (i := 1) rfl (.inl rfl) rfl rfl) pe_int) (pe_callB (show CallR _ (.builtin "len") (Z.rLenS K) from call_len_seq) rfl T.n_len bt_len (pa_cons (pe_var (i := 11) rfl (.inl rfl) rfl rfl) pa_nil))))
      (pss_cons (ps_set (i := 14) sc_law.nd rfl (.inl rfl) (pe_call (ok__law_wrong T) hr3 rfl T.m__law_wrong T.F__law_wrong.kp T.b__law_wrong .nil pass0 (pa_cons (pe_var (i := 5) rfl (.inl rfl) rfl rfl) (pa_cons (pe_ix (show IxR _ (rIxL K) from ix_list) (pe_var (i := 11) rfl (.inl rfl) rfl rfl) (pe_var (i := 13) rfl (.inl rfl) rfl rfl) (fun _ _ => rfl)) (pa_cons (pe_op op_mod (pe_var (i := 4) rfl (.inl rfl) rfl rfl) pe_int) (pa_cons (pe_op op_fdiv (pe_var (i := 1) rfl (.inl rfl) rfl rfl) pe_int) pa_nil))))))
      (pss_cons (ps_if (pt_not (pt_val (pe_call (ok__law_refused T) hr104 rfl T.m__law_refused T.F__law_refused.kp T.b__law_refused .nil pass0 (pa_cons (pe_var (i := 8) rfl (.inl rfl) rfl rfl) (pa_cons (pe_var (i := 10) rfl (.inl rfl) rfl rfl) (pa_cons (pe_op op_cat (pe_op op_cat (pe_slice sl_list (pe_var (i := 12) rfl (.inl rfl) rfl rfl) po_none (po_some (pe_var (i := 13) rfl (.inl rfl) rfl rfl))) (pe_lst (pa_cons (pe_var (i := 14) rfl (.inl rfl) rfl rfl) pa_nil))) (pe_slice sl_list (pe_var (i := 12) rfl (.inl rfl) rfl rfl) (po_some (pe_var (i := 13) rfl (.inl rfl) rfl rfl)) po_none)) pa_nil)))))) (pss_cons (ps_ret pe_bl)
      pss_nil) pss_nil)
      pss_nil))) pss_nil)
      (pss_cons (ps_set (i := 15) sc_law.nd rfl (.inl rfl) (pe_callTy call_list_of rfl T.n_list bt_list (pa_cons (pe_var (i := 12) rfl (.inl rfl) rfl rfl) pa_nil)))
      (pss_cons (ps_set (i := 16) sc_law.nd rfl (.inl rfl) (pe_meth (pe_var (i := 8) rfl (.inl rfl) rfl rfl) T.l_Machine T.t_Machine_walked (ok_Machine_walked T) hr103 T.b_Machine_walked .nil Z.passL (pa_cons (pe_var (i := 10) rfl (.inl rfl) rfl rfl) (pa_cons (pe_var (i := 15) rfl (.inl rfl) rfl rfl) pa_nil))))
      (pss_cons (ps_if (PW.pt (pw_or (pt_cmpR (show OpR _ _ (rNeD K) from op_neD hr.units) (pe_var (i := 15) rfl (.inl rfl) rfl rfl) (pe_var (i := 12) rfl (.inl rfl) rfl rfl) (nomark _)) (pw_or (pt_not (pt_val (pe_callB (show CallR _ (.builtin "isinstance") (rIsi K) from call_isi) rfl T.n_isinstance bt_isinstance (pa_cons (pe_var (i := 16) rfl (.inl rfl) rfl rfl) (pa_cons (pe_bltn (v := .ty "list") rfl T.n_list bt_list rfl) pa_nil))))) (pw_or1 (pt_cmpR op_ne (pe_callB (show CallR _ (.builtin "len") (Z.rLenS K) from call_len_seq) rfl T.n_len bt_len (pa_cons (pe_var (i := 16) rfl (.inl rfl) rfl rfl) pa_nil)) (pe_callB (show CallR _ (.builtin "len") (Z.rLenS K) from call_len_seq) rfl T.n_len bt_len (pa_cons (pe_var (i := 11) rfl (.inl rfl) rfl rfl) pa_nil)) (nomark _)))))) (pss_cons (ps_ret pe_bl)
      pss_nil) pss_nil)
      (pss_cons (ps_for PassesOwn.never rfl (pi_range1 rfl T.n_range (pa_cons (pe_callB (show CallR _ (.builtin "len") (Z.rLenS K) from call_len_seq) rfl T.n_len bt_len (pa_cons (pe_var (i := 11) rfl (.inl rfl) rfl rfl) pa_nil)) pa_nil)) (pg_name (i := 6) sc_law.nd rfl (.inl rfl)) (pss_cons (ps_if (PW.pt (pw_or (pt_not (pt_val (pe_callB (show CallR _ (.builtin "isinstance") (rIsi K) from call_isi) rfl T.n_isinstance bt_isinstance (pa_cons (pe_ix (show IxR _ (rIxL K) from ix_list) (pe_var (i := 16) rfl (.inl rfl) rfl rfl) (pe_var (i := 6) rfl (.inl rfl) rfl rfl) (fun _ _ => rfl)) (pa_cons (pe_bltn (v := .ty "int") rfl T.n_int bt_int rfl) pa_nil))))) (pw_or (pt_val (pe_callB (show CallR _ (.builtin "isinstance") (rIsi K) from call_isi) rfl T.n_isinstance bt_isinstance (pa_cons (pe_ix (show IxR _ (rIxL K) from ix_list) (pe_var (i := 16) rfl (.inl rfl) rfl rfl) (pe_var (i := 6) rfl (.inl rfl) rfl rfl) (fun _ _ => rfl)) (pa_cons (pe_bltn (v := .ty "bool") rfl T.n_bool bt_bool rfl) pa_nil)))) (pw_or1 (pt_cmpR op_ne (pe_ix (show IxR _ (rIxL K) from ix_list) (pe_var (i := 16) rfl (.inl rfl) rfl rfl) (pe_var (i := 6) rfl (.inl rfl) rfl rfl) (fun _ _ => rfl)) (pe_ix (show IxR _ (rIxL K) from ix_list) (pe_var (i := 11) rfl (.inl rfl) rfl rfl) (pe_var (i := 6) rfl (.inl rfl) rfl rfl) (fun _ _ => rfl)) (nomark _)))))) (pss_cons (ps_ret pe_bl)
      pss_nil) pss_nil)
      pss_nil))
      (pss_cons (ps_set (i := 17) sc_law.nd rfl (.inl rfl) (pe_op op_mod (pe_op op_fdiv (pe_var (i := 4) rfl (.inl rfl) rfl rfl) pe_int) (pe_op op_shl pe_int (pe_var (i := 2) rfl (.inl rfl) rfl rfl))))
      (pss_cons (ps_if (pt_not (pt_val (pe_call (ok__law_whichs T) hr105 rfl T.m__law_whichs T.F__law_whichs.kp T.b__law_whichs .nil pass0 (pa_cons (pe_var (i := 9) rfl (.inl rfl) rfl rfl) (pa_cons (show PE _ _ (tListRev K _) from pe_listRev rfl rfl T.n_list rfl T.n_reversed (pe_var (i := 5) rfl (.inl rfl) rfl rfl)) (pa_cons (pe_var (i := 11) rfl (.inl rfl) rfl rfl) (pa_cons (pe_var (i := 17) rfl (.inl rfl) rfl rfl) pa_nil))))))) (pss_cons (ps_ret pe_bl)
      pss_nil) pss_nil)
      (pss_cons (ps_ret (pe_call (ok__law_whichs T) hr105 rfl T.m__law_whichs T.F__law_whichs.kp T.b__law_whichs .nil pass0 (pa_cons (pe_var (i := 8) rfl (.inl rfl) rfl rfl) (pa_cons (pe_var (i := 5) rfl (.inl rfl) rfl rfl) (pa_cons (pe_var (i := 11) rfl (.inl rfl) rfl rfl) (pa_cons (pe_var (i := 17) rfl (.inl rfl) rfl rfl) pa_nil))))))
      pss_nil))))))))))))))))), ?_⟩
  refine z_start (σ := [some v2, none, none, none, none, none, none, none, none, none, none, none, none, none, none, none, none, none]) rfl ?_
  have g : Grow [] S H S H := Grow.refl gS
  obtain ⟨v4, ev4, h⟩ := OP.bind h
  refine z_set (w := (.int v4)) (σ' := [some v2, some (.int v4), none, none, none, none, none, none, none, none, none, none, none, none, none, none, none, none]) (v_call (va_cons (val_var rfl) (va_cons val_c va_nil)) fun Q q => ⟨_, _, _, rfl, (RdL.q g r3), OP.mk ev4 q⟩) rfl rfl ?_
  obtain ⟨many5, emany5, h⟩ := OP.lt h
  refine z_set (w := (.int many5)) (σ' := [some v2, some (.int v4), some (.int many5), none, none, none, none, none, none, none, none, none, none, none, none, none, none, none]) (v_o2 val_c (v_o2c (val_var rfl) val_c (show (0 : Int) < 6 by decide))) (congrArg V.int emany5) rfl ?_
  obtain ⟨count6, ecount6, h⟩ := OP.lt h
  refine z_set (w := (.int count6)) (σ' := [some v2, some (.int v4), some (.int many5), some (.int count6), none, none, none, none, none, none, none, none, none, none, none, none, none, none]) (v_o2c (v_o2c (val_var rfl) val_c ⟨by decide, by decide⟩) val_c (show (0 : Int) < 9 by decide)) (congrArg V.int ecount6) rfl ?_
  obtain ⟨v7, ev7, h⟩ := OP.bind h
  refine z_set (w := (.int v7)) (σ' := [some v2, some (.int v4), some (.int many5), some (.int count6), some (.int v7), none, none, none, none, none, none, none, none, none, none, none, none, none]) (v_call (va_cons (val_var rfl) (va_cons val_c va_nil)) fun Q q => ⟨_, _, _, rfl, (RdL.q g r3), OP.mk ev7 q⟩) rfl rfl ?_
  refine z_setE ?_
  refine c_lstE fun Q_8 hQ_8 => ?_
  refine c_args va_nil ?_
  refine c_newlst (Q := Q_8) (vs := []) (show 0 ≤ 1000 by decide) fun p9 H_10 e11 np12 ep13 => ?_
  refine q_eq hQ_8 ?_
  have w_14 : RL (qT2 (qT3 (qI (K := K)) (qI (K := K)) (qI (K := K))) (qL (qT2 (qI (K := K)) (qT3 (qI (K := K)) (qI (K := K)) (qI (K := K)))))) S [] ([] : List ((Int × Int × Int) × (List (Int × (Int × Int × Int))))) := .nil
  have z16 := g.hnone np12
  have c_15 : Cel [] H S H_10 p9 (.lst []) := Cel.own g e11 np12 ep13 rfl
  replace g := g.ext e11
  refine g_name (σ' := [some v2, some (.int v4), some (.int many5), some (.int count6), some (.int v7), some (.ref p9), none, none, none, none, none, none, none, none, none, none, none, none]) rfl ?_
  obtain ⟨g17, h⟩ := OP.grd h
  obtain ⟨B21, h, hB22⟩ := OP.cut h
  obtain ⟨F23, hF24, h⟩ := OP.nameO h
  refine z_for1 (j := count6) (va_cons (val_var rfl) va_nil) g17 (fun ys26 σ' H' => ∃ (ws27 : List V) (moves30 : (List ((Int × Int × Int) × (List (Int × (Int × Int × Int)))))) (u31 : Option V) (u32 : Option V) (S_33 : Hp), σ' = [some v2, some (.int v4), some (.int many5), some (.int count6), some (.int v7), some (.ref p9), u31, u32, none, none, none, none, none, none, none, none, none, none] ∧ Grow [] S H S_33 H' ∧ Same S S_33 ∧ Cel [] H S_33 H' p9 (.lst ws27) ∧ RL (qT2 (qT3 (qI (K := K)) (qI (K := K)) (qI (K := K))) (qL (qT2 (qI (K := K)) (qT3 (qI (K := K)) (qI (K := K)) (qI (K := K)))))) S_33 ws27 moves30 ∧ OP (forO F23 ys26 moves30) B21) ⟨_, _, _, _, _, rfl, g, (Same.refl _), c_15, w_14, h⟩ (fun k18 ys26 σ' H_34 p N hN25 => ?_) ?_
  · obtain ⟨ws27, moves30, u31, u32, S_33, rfl, gN, eS35, c_28N, r29N, h⟩ := p
    replace g := gN
    have c_28 := c_28N
    have r29 := r29N
    replace r3 := RdL.mono eS35 r3
    replace h := OP.forO h
    replace h := OP.fcall2 hF24 h
    refine g_name (σ' := [some v2, some (.int v4), some (.int many5), some (.int count6), some (.int v7), some (.ref p9), some (.int k18), u32, none, none, none, none, none, none, none, none, none, none]) rfl ?_
    refine z_setE ?_
    refine c_call ?_
    obtain ⟨v36, ev36, h⟩ := OP.bind h
    refine c_args (va_cons (v_call (va_cons (val_var rfl) (va_cons (v_o2 val_c (v_o2c val_c (val_var rfl) (.inl ⟨by decide, by decide⟩))) va_nil)) fun Q q => ⟨_, _, _, rfl, (RdL.q g r3), OP.mk ev36 q⟩) (va_cons (val_var rfl) va_nil)) ?_
    have gL43 : ∀ l ∈ [], H l = none ∨ l ∈ [] := LM0
    refine ⟨S_33, _, _, rfl, g.sh, (OP.of h).mono fun v37 h S_38 H_39 v41 gc40 r42 => ?_⟩
    replace c_28 := c_28.call gc40 NM0
    replace r3 := RdL.mono gc40.ss r3
    replace r29 := RL.mono gc40.ss r29
    replace eS35 := eS35.trans gc40.ss
    replace g := g.call gc40 gL43
    refine g_name (σ' := [some v2, some (.int v4), some (.int many5), some (.int count6), some (.int v7), some (.ref p9), some (.int k18), some v41, none, none, none, none, none, none, none, none, none, none]) rfl ?_
    refine z_dropE ?_
    refine c_bm (val_var rfl) (tyL c_28.h) ?_
    refine c_cons ?_
    refine c_tupE fun Q_44 hQ_44 => ?_
    refine c_cons ?_
    refine c_val (val_var rfl) ?_
    refine c_cons ?_
    refine c_call ?_
    obtain ⟨v45, ev45, h⟩ := OP.bind h
    refine c_args (va_cons (v_call (va_cons (val_var rfl) (va_cons (v_o2 val_c (v_o2c val_c (val_var rfl) (.inl ⟨by decide, by decide⟩))) va_nil)) fun Q q => ⟨_, _, _, rfl, (RdL.q g r3), OP.mk ev45 q⟩) (va_cons (val_var rfl) va_nil)) ?_
    have gL56 : ∀ l ∈ [], H l = none ∨ l ∈ [] := LM0
    refine ⟨S_38, _, _, rfl, g.sh, (OP.of h).mono fun v46 h S_47 H_48 p50 ws51 gc49 np52 hp53 sp54 wf55 => ?_⟩
    have ne57 := c_28.ne np52
    have z58 := g.hnone np52
    replace c_28 := c_28.call gc49 NM0
    replace r3 := RdL.mono gc49.ss r3
    replace r29 := RL.mono gc49.ss r29
    replace r42 := Rep.mono _ gc49.ss r42
    replace eS35 := eS35.trans gc49.ss
    have c_59 : Cel [] H S_47 H_48 p50 (.lst ws51) := ⟨hp53, sp54, .inl z58, rfl⟩
    replace g := g.call gc49 gL56
    refine c_nil ?_
    obtain ⟨S_60, g61, eS62, r63, ot64⟩ := c_freeze g c_59 z58 wf55
    replace c_28 := ot64 _ _ (by first | assumption | exact Ne.symm (by assumption)) c_28
    replace r3 := RdL.mono eS62 r3
    replace r29 := RL.mono eS62 r29
    replace r42 := Rep.mono _ eS62 r42
    replace wf55 := RL.mono eS62 wf55
    replace eS35 := eS35.trans eS62
    replace g := g61
    refine c_newtup (Q := Q_44) (vs := [v41, (.ref p50)]) g.sh (show 2 ≤ 1000 by decide) fun p65 S_66 H_67 gs68 ep69 => ?_
    refine q_eq hQ_44 ?_
    replace r3 := RdL.mono gs68.ss r3
    replace r29 := RL.mono gs68.ss r29
    replace r42 := Rep.mono _ gs68.ss r42
    replace r63 := Rep.mono _ gs68.ss r63
    replace eS35 := eS35.trans gs68.ss
    replace c_28 := c_28.call0 gs68
    replace g := g.call0 gs68
    have r70 : ((qT2 (qT3 (qI (K := K)) (qI (K := K)) (qI (K := K))) (qL (qT2 (qI (K := K)) (qT3 (qI (K := K)) (qI (K := K)) (qI (K := K))))))).R S_66 (.ref p65) (v37, v46) := ⟨p65, _, _, rfl, ep69, r42, r63⟩
    refine c_nil ?_
    obtain ⟨g71, h⟩ := OP.grd h
    obtain ⟨l72, el72, h⟩ := OP.lt h
    refine c_app g c_28 r29 r70 g71 el72 fun ws73 H_74 g75 c_76 w_77 ot78 => ?_
    replace g := g75
    refine z_next ?_
    exact hN25 _ _ ⟨_, _, _, _, _, rfl, g, eS35, c_76, w_77, h⟩
  · intro σ' H_34 p
    obtain ⟨ws27, moves30, u31, u32, S_33, rfl, gN, eS35, c_28N, r29N, h⟩ := p
    replace g := gN
    have c_28 := c_28N
    have r29 := r29N
    replace r3 := RdL.mono eS35 r3
    replace h := hB22 _ (OP.forO_nil h)
    refine z_asgE ?_
    refine c_call ?_
    refine c_args (va_cons (val_var rfl) (va_cons (val_var rfl) va_nil)) ?_
    have gL85 : ∀ l ∈ [], H l = none ∨ l ∈ [] := LM0
    refine ⟨S_33, _, _, _, rfl, g.sh, (RdL.ofC c_28.h NM0 r29), (OP.of h).mono fun v79 h S_80 H_81 v83 gc82 r84 => ?_⟩
    replace c_28 := c_28.call gc82 NM0
    replace r3 := RdL.mono gc82.ss r3
    replace r29 := RL.mono gc82.ss r29
    replace g := g.call gc82 gL85
    refine g_tup2 rfl g.sh r84 fun w_86 w_87 r88 r89 => ?_
    refine g_name (σ' := [some v2, some (.int v4), some (.int many5), some (.int count6), some (.int v7), some (.ref p9), u31, u32, some w_86, none, none, none, none, none, none, none, none, none]) rfl ?_
    refine g_next ?_
    refine g_name (σ' := [some v2, some (.int v4), some (.int many5), some (.int count6), some (.int v7), some (.ref p9), u31, u32, some w_86, some w_87, none, none, none, none, none, none, none, none]) rfl ?_
    refine g_end ?_
    obtain ⟨g90, h⟩ := OP.grd h
    obtain ⟨g91, h⟩ := OP.grd h
    obtain ⟨stand92, estand92, h⟩ := OP.lt h
    refine z_set (w := (.int stand92)) (σ' := [some v2, some (.int v4), some (.int many5), some (.int count6), some (.int v7), some (.ref p9), u31, u32, some w_86, some w_87, some (.int stand92), none, none, none, none, none, none, none]) (v_o2c (v_o2c (val_var rfl) val_c ⟨by decide, by decide⟩) (v_o2c val_c (val_var rfl) g90) g91) (congrArg V.int estand92) rfl ?_
    refine z_asgE ?_
    refine c_call ?_
    refine c_cons ?_
    refine c_val (val_var rfl) ?_
    refine c_cons ?_
    refine c_val (val_var rfl) ?_
    refine c_cons ?_
    refine c_slice (val_var rfl) (po1 val_c) (po1 val_c) ?_
    refine (l_slice (LS.rd g r3) fun p93 ws94 H_95 e96 np97 ep98 rw99 => ?_)
    have ne102 := c_28.ne np97
    have z101 := g.hnone np97
    have c_100 : Cel [] H S_80 H_95 p93 (.lst ws94) := Cel.own g e96 np97 ep98 rfl
    replace c_28 := c_28.ext e96
    replace g := g.ext e96
    refine c_nil ?_
    have gL109 : ∀ l ∈ [], H l = none ∨ l ∈ [] := LM0
    refine ⟨S_80, _, _, _, _, _, rfl, g.sh, (RdL.ofC c_28.h NM0 r29), (RdL.ofC c_100.h NM0 rw99), (OP.of h).mono fun v103 h S_104 H_105 v107 gc106 r108 => ?_⟩
    replace c_28 := c_28.call gc106 NM0
    replace c_100 := c_100.call gc106 NM0
    replace r3 := RdL.mono gc106.ss r3
    replace r29 := RL.mono gc106.ss r29
    replace r88 := Rep.mono _ gc106.ss r88
    replace r89 := Rep.mono _ gc106.ss r89
    replace rw99 := RL.mono gc106.ss rw99
    replace g := g.call gc106 gL109
    refine g_tup2 rfl g.sh r108 fun w_110 w_111 r112 r113 => ?_
    refine g_name (σ' := [some v2, some (.int v4), some (.int many5), some (.int count6), some (.int v7), some (.ref p9), u31, u32, some w_86, some w_87, some (.int stand92), some w_110, none, none, none, none, none, none]) rfl ?_
    refine g_next ?_
    refine g_name (σ' := [some v2, some (.int v4), some (.int many5), some (.int count6), some (.int v7), some (.ref p9), u31, u32, some w_86, some w_87, some (.int stand92), some w_110, some w_111, none, none, none, none, none]) rfl ?_
    refine g_end ?_
    obtain ⟨B114, h, hB115⟩ := OP.brk h
    refine z_ifj (fun σ' H' => ∃ (u116 : Option V) (u117 : Option V) (S_118 : Hp), σ' = [some v2, some (.int v4), some (.int many5), some (.int count6), some (.int v7), some (.ref p9), u31, u32, some w_86, some w_87, some (.int stand92), some w_110, some w_111, u116, u117, none, none, none] ∧ Grow [] S H S_118 H' ∧ Same S_104 S_118 ∧ Cel [] H S_118 H' p9 (.lst ws27) ∧ B114 ()) (v_test (v_o2 (v_o2c (val_var rfl) val_c (show (0 : Int) < 4 by decide)) val_c)) ?_ (fun hc N hN => ?_) (fun hc N hN => ?_)
    · intro σ' H_119 p
      obtain ⟨u116, u117, S_118, rfl, gN, eS120, c_28N, h⟩ := p
      replace g := gN
      replace c_28 := c_28N
      replace r3 := RdL.mono eS120 r3
      replace r29 := RL.mono eS120 r29
      replace r88 := Rep.mono _ eS120 r88
      replace r89 := Rep.mono _ eS120 r89
      replace r112 := Rep.mono _ eS120 r112
      replace r113 := Rep.mono _ eS120 r113
      replace h := hB115 _ h
      refine z_setE ?_
      refine c_cbE fun Q_121 hQ_121 => ?_
      refine c_args (va_cons (val_var rfl) va_nil) ?_
      refine (l_list (Q := Q_121) (LS.ofL g.sh r113) fun p122 ws123 H_124 e125 np126 ep127 rw128 => ?_)
      refine q_eq hQ_121 ?_
      have ne131 := c_28.ne np126
      have z130 := g.hnone np126
      have c_129 : Cel [] H S_118 H_124 p122 (.lst ws123) := Cel.own g e125 np126 ep127 rfl
      replace c_28 := c_28.ext e125
      replace g := g.ext e125
      obtain ⟨S_132, g133, eS134, r135, ot136⟩ := c_freeze g c_129 z130 rw128
      replace c_28 := ot136 _ _ (by first | assumption | exact Ne.symm (by assumption)) c_28
      replace r3 := RdL.mono eS134 r3
      replace r29 := RL.mono eS134 r29
      replace r88 := Rep.mono _ eS134 r88
      replace r89 := Rep.mono _ eS134 r89
      replace r112 := Rep.mono _ eS134 r112
      replace r113 := Rep.mono _ eS134 r113
      replace g := g133
      refine g_name (σ' := [some v2, some (.int v4), some (.int many5), some (.int count6), some (.int v7), some (.ref p9), u31, u32, some w_86, some w_87, some (.int stand92), some w_110, some w_111, u116, u117, some (.ref p122), none, none]) rfl ?_
      refine z_setE ?_
      refine c_meth (val_var rfl) (in_Machine (Rep.mono _ g.sh r88)) (m := "walked") (by decide) ?_
      refine c_args (va_cons (val_var rfl) (va_cons (val_var rfl) va_nil)) ?_
      have gL141 : ∀ l ∈ [], H l = none ∨ l ∈ [] := LM0
      refine ⟨S_132, _, _, _, _, _, rfl, g.sh, r88, (RdL.ofL g.sh r135 LM0), (OP.of h).mono fun v137 h => ?_⟩
      refine EXP.sp h (fun _ _ h => (show OP none _ from h).elim) (fun v143 _ h S_144 H_145 p147 ws148 gc146 np149 hp150 sp151 wf152 => ?_)
      have ne153 := c_28.ne np149
      have z154 := g.hnone np149
      replace c_28 := c_28.call gc146 NM0
      replace r3 := RdL.mono gc146.ss r3
      replace r29 := RL.mono gc146.ss r29
      replace r88 := Rep.mono _ gc146.ss r88
      replace r89 := Rep.mono _ gc146.ss r89
      replace r112 := Rep.mono _ gc146.ss r112
      replace r113 := Rep.mono _ gc146.ss r113
      replace r135 := Rep.mono _ gc146.ss r135
      have c_155 : Cel [] H S_144 H_145 p147 (.lst ws148) := ⟨hp150, sp151, .inl z154, rfl⟩
      replace g := g.call gc146 gL141
      obtain ⟨S_156, g157, eS158, r159, ot160⟩ := c_freeze g c_155 z154 wf152
      replace c_28 := ot160 _ _ (by first | assumption | exact Ne.symm (by assumption)) c_28
      replace r3 := RdL.mono eS158 r3
      replace r29 := RL.mono eS158 r29
      replace r88 := Rep.mono _ eS158 r88
      replace r89 := Rep.mono _ eS158 r89
      replace r112 := Rep.mono _ eS158 r112
      replace r113 := Rep.mono _ eS158 r113
      replace r135 := Rep.mono _ eS158 r135
      replace g := g157
      refine g_name (σ' := [some v2, some (.int v4), some (.int many5), some (.int count6), some (.int v7), some (.ref p9), u31, u32, some w_86, some w_87, some (.int stand92), some w_110, some w_111, u116, u117, some (.ref p122), some (.ref p147), none]) rfl ?_
      refine z_if (a_or (v_test (v_neD (dL dI) (dL dI) rfl (Nat.le_of_ble_eq_true rfl) (val_var rfl) (val_var rfl) (Rep.mono _ g.sh r135) (Rep.mono _ g.sh r113))) (a_or (a_not (v_B (v_isi (val_var rfl) (ty_l (Rep.mono _ g.sh r159)) (k := true) (by decide +kernel)))) (v_test (v_neI (v_len (val_var rfl) (qL_qQ (Rep.mono _ g.sh r159))) (v_len (val_var rfl) (qL_qQ (Rep.mono _ g.sh r112))))))) (fun hc => ?_) (fun hc => ?_)
      · replace h := OP.ite1 hc h
        refine z_ret val_c ?_
        have h := OP.fin hA h
        exact h _ _ g
      · replace h := OP.ite0 hc h
        refine z_nextR ?_
        obtain ⟨g161, h⟩ := OP.grd h
        obtain ⟨B165, h, hB166⟩ := OP.brk h
        obtain ⟨F167, hF168, h⟩ := OP.nameR h
        refine z_for1 (j := (v103.1.length : Int)) (va_cons (v_len (val_var rfl) (qL_qQ (Rep.mono _ g.sh r112))) va_nil) g161 (fun ys170 σ' H' => ∃ (u171 : Option V), σ' = [some v2, some (.int v4), some (.int many5), some (.int count6), some (.int v7), some (.ref p9), u171, u32, some w_86, some w_87, some (.int stand92), some w_110, some w_111, u116, u117, some (.ref p122), some (.ref p147), none] ∧ H_145 = H' ∧ OP (forR F167 ys170 ()) (SE B165 A_)) ⟨_, rfl, rfl, h⟩ (fun k162 ys170 σ' H_172 p N hN169 => ?_) ?_
        · obtain ⟨u171, rfl, rfl, h⟩ := p
          replace h := OP.forR h
          replace h := OP.fcall2 hF168 h
          refine g_name (σ' := [some v2, some (.int v4), some (.int many5), some (.int count6), some (.int v7), some (.ref p9), some (.int k162), u32, some w_86, some w_87, some (.int stand92), some w_110, some w_111, u116, u117, some (.ref p122), some (.ref p147), none]) rfl ?_
          obtain ⟨i173, ei173, h⟩ := OP.bind h
          obtain ⟨c_178, ec_178, h⟩ := OP.bind h
          refine z_if (a_orP (a_not (v_B (v_isi (v_ixI (val_var rfl) (val_var rfl) (qL_qQ (Rep.mono _ g.sh r159)) ei173) ty_int (k := true) (by decide +kernel)))) ec_178 (fun hb hm => by
                obtain ⟨i174, ei174, hm⟩ := bind_some hm
                obtain ⟨c_177, ec_177, hm⟩ := bind_some hm
                exact (a_eq (a_orP (v_B (v_isi (v_ixI (val_var rfl) (val_var rfl) (qL_qQ (Rep.mono _ g.sh r159)) ei174) ty_int (k := false) (by decide +kernel))) ec_177 (fun hb hm => by
      obtain ⟨i175, ei175, hm⟩ := bind_some hm
      obtain ⟨i176, ei176, hm⟩ := bind_some hm
      exact (a_eq (v_test (v_neI (v_ixI (val_var rfl) (val_var rfl) (qL_qQ (Rep.mono _ g.sh r159)) ei175) (v_ixI (val_var rfl) (val_var rfl) (qL_qQ (Rep.mono _ g.sh r112)) ei176))) (Option.some.inj hm)))) (Option.some.inj hm)))) (fun hc => ?_) (fun hc => ?_)
          · replace h := OP.ite1 hc h
            refine z_ret val_c ?_
            have h := OP.fin hA h
            exact h _ _ g
          · replace h := OP.ite0 hc h
            refine z_nextR ?_
            refine z_next ?_
            exact hN169 _ _ ⟨_, rfl, rfl, h⟩
        · intro σ' H_179 p
          obtain ⟨u171, rfl, rfl, h⟩ := p
          replace h := hB166 _ (OP.forR_nil h)
          obtain ⟨g180, h⟩ := OP.grd h
          obtain ⟨g181, h⟩ := OP.grd h
          obtain ⟨beside182, ebeside182, h⟩ := OP.lt h
          refine z_set (w := (.int beside182)) (σ' := [some v2, some (.int v4), some (.int many5), some (.int count6), some (.int v7), some (.ref p9), u171, u32, some w_86, some w_87, some (.int stand92), some w_110, some w_111, u116, u117, some (.ref p122), some (.ref p147), some (.int beside182)]) (v_o2c (v_o2c (val_var rfl) val_c ⟨by decide, by decide⟩) (v_o2c val_c (val_var rfl) g180) g181) (congrArg V.int ebeside182) rfl ?_
          refine z_ifE ?_
          refine c_not ?_
          refine c_B ?_
          refine c_call ?_
          refine c_cons ?_
          refine c_val (val_var rfl) ?_
          refine c_cons ?_
          refine c_lrE fun Q_183 hQ_183 => ?_
          refine c_val (val_var rfl) ?_
          refine (l_listRev (Q := Q_183) (LS.cel c_28.h r29) fun p184 ws185 H_186 e187 np188 ep189 rw190 => ?_)
          refine q_eq hQ_183 ?_
          have ne193 := c_28.ne np188
          have z192 := g.hnone np188
          have c_191 : Cel [] H S_156 H_186 p184 (.lst ws185) := Cel.own g e187 np188 ep189 rfl
          replace c_28 := c_28.ext e187
          replace g := g.ext e187
          refine c_cons ?_
          refine c_val (val_var rfl) ?_
          refine c_cons ?_
          refine c_val (val_var rfl) ?_
          refine c_nil ?_
          have gL198 : ∀ l ∈ [], H l = none ∨ l ∈ [] := LM0
          refine ⟨S_156, _, _, _, _, _, _, _, rfl, g.sh, r89, (RdL.ofC c_191.h NM0 rw190), (RdL.ofL g.sh r112 LM0), (OP.of h).mono fun v194 h S_195 H_196 gc197 => ?_⟩
          replace c_28 := c_28.call gc197 NM0
          replace c_191 := c_191.call gc197 NM0
          replace r3 := RdL.mono gc197.ss r3
          replace r29 := RL.mono gc197.ss r29
          replace r88 := Rep.mono _ gc197.ss r88
          replace r89 := Rep.mono _ gc197.ss r89
          replace r112 := Rep.mono _ gc197.ss r112
          replace r113 := Rep.mono _ gc197.ss r113
          replace r135 := Rep.mono _ gc197.ss r135
          replace r159 := Rep.mono _ gc197.ss r159
          replace rw190 := RL.mono gc197.ss rw190
          replace g := g.call gc197 gL198
          refine ⟨_, rfl, ?_⟩
          refine ifb (fun hc => ?_) (fun hc => ?_)
          · replace h := OP.ite1 hc h
            refine z_ret val_c ?_
            have h := OP.fin hA h
            exact h _ _ g
          · replace h := OP.ite0 hc h
            refine z_nextR ?_
            refine z_retE ?_
            refine c_call ?_
            refine c_args (va_cons (val_var rfl) (va_cons (val_var rfl) (va_cons (val_var rfl) (va_cons (val_var rfl) va_nil)))) ?_
            have gL203 : ∀ l ∈ [], H l = none ∨ l ∈ [] := LM0
            refine ⟨S_195, _, _, _, _, _, _, _, rfl, g.sh, r88, (RdL.ofC c_28.h NM0 r29), (RdL.ofL g.sh r112 LM0), (OP.of h).mono fun v199 h S_200 H_201 gc202 => ?_⟩
            replace c_28 := c_28.call gc202 NM0
            replace r3 := RdL.mono gc202.ss r3
            replace r29 := RL.mono gc202.ss r29
            replace r88 := Rep.mono _ gc202.ss r88
            replace r89 := Rep.mono _ gc202.ss r89
            replace r112 := Rep.mono _ gc202.ss r112
            replace r113 := Rep.mono _ gc202.ss r113
            replace r135 := Rep.mono _ gc202.ss r135
            replace r159 := Rep.mono _ gc202.ss r159
            replace g := g.call gc202 gL203
            have h := OP.fin hA h
            exact h _ _ g
    · replace h := OP.ite1 hc h
      have sn204 := Same.refl S_104
      obtain ⟨g205, h⟩ := OP.grd h
      obtain ⟨place206, eplace206, h⟩ := OP.lt h
      refine z_set (w := (.int place206)) (σ' := [some v2, some (.int v4), some (.int many5), some (.int count6), some (.int v7), some (.ref p9), u31, u32, some w_86, some w_87, some (.int stand92), some w_110, some w_111, some (.int place206), none, none, none, none]) (v_o2c (v_o2c (val_var rfl) val_c ⟨by decide, by decide⟩) (v_len (val_var rfl) (qL_qQ (Rep.mono _ g.sh r112))) g205) (congrArg V.int eplace206) rfl ?_
      refine z_setE ?_
      refine c_call ?_
      obtain ⟨i207, ei207, h⟩ := OP.bind h
      refine c_args (va_cons (val_var rfl) (va_cons (v_ixI (val_var rfl) (val_var rfl) (qL_qQ (Rep.mono _ g.sh r112)) ei207) (va_cons (v_o2c (val_var rfl) val_c (show (0 : Int) < 4 by decide)) (va_cons (v_o2c (val_var rfl) val_c ⟨by decide, by decide⟩) va_nil)))) ?_
      have gL212 : ∀ l ∈ [], H l = none ∨ l ∈ [] := LM0
      refine ⟨S_104, _, _, _, _, _, rfl, g.sh, (RdL.ofC c_28.h NM0 r29), (OP.of h).mono fun v208 h S_209 H_210 gc211 => ?_⟩
      replace c_28 := c_28.call gc211 NM0
      replace r3 := RdL.mono gc211.ss r3
      replace r29 := RL.mono gc211.ss r29
      replace r88 := Rep.mono _ gc211.ss r88
      replace r89 := Rep.mono _ gc211.ss r89
      replace r112 := Rep.mono _ gc211.ss r112
      replace r113 := Rep.mono _ gc211.ss r113
      replace sn204 := sn204.trans gc211.ss
      replace g := g.call gc211 gL212
      refine g_name (σ' := [some v2, some (.int v4), some (.int many5), some (.int count6), some (.int v7), some (.ref p9), u31, u32, some w_86, some w_87, some (.int stand92), some w_110, some w_111, some (.int place206), some (.int v208), none, none, none]) rfl ?_
      refine z_ifE ?_
      refine c_not ?_
      refine c_B ?_
      refine c_call ?_
      refine c_cons ?_
      refine c_val (val_var rfl) ?_
      refine c_cons ?_
      refine c_val (val_var rfl) ?_
      refine c_cons ?_
      refine c_op ?_
      refine c_op ?_
      refine c_slice (val_var rfl) po0 (po1 (val_var rfl)) ?_
      refine (l_slice (LS.ofL g.sh r113) fun p213 ws214 H_215 e216 np217 ep218 rw219 => ?_)
      have ne222 := c_28.ne np217
      have z221 := g.hnone np217
      have c_220 : Cel [] H S_209 H_215 p213 (.lst ws214) := Cel.own g e216 np217 ep218 rfl
      replace c_28 := c_28.ext e216
      replace g := g.ext e216
      refine c_lstE fun Q_223 hQ_223 => ?_
      refine c_args (va_cons (val_var rfl) va_nil) ?_
      refine c_newlst (Q := Q_223) (vs := [(.int v208)]) (show 1 ≤ 1000 by decide) fun p224 H_225 e226 np227 ep228 => ?_
      refine q_eq hQ_223 ?_
      have w_229 : RL (qI (K := K)) S_209 [(.int v208)] ([v208] : List Int) := (.cons rfl .nil)
      have ne232 := c_28.ne np227
      have ne233 := c_220.ne np227
      have z231 := g.hnone np227
      have c_230 : Cel [] H S_209 H_225 p224 (.lst [(.int v208)]) := Cel.own g e226 np227 ep228 rfl
      replace c_28 := c_28.ext e226
      replace c_220 := c_220.ext e226
      replace g := g.ext e226
      obtain ⟨g234, h⟩ := OP.grd h
      refine (l_cat (LP.cel c_220.h rw219) (LP.cel c_230.h w_229) g234 fun p235 ws236 H_237 e238 np239 ep240 rw241 => ?_)
      have ne244 := c_28.ne np239
      have z243 := g.hnone np239
      have c_242 : Cel [] H S_209 H_237 p235 (.lst ws236) := Cel.own g e238 np239 ep240 rfl
      replace c_28 := c_28.ext e238
      replace g := g.ext e238
      refine c_slice (val_var rfl) (po1 (val_var rfl)) po0 ?_
      refine (l_slice (LS.ofL g.sh r113) fun p245 ws246 H_247 e248 np249 ep250 rw251 => ?_)
      have ne254 := c_28.ne np249
      have ne255 := c_242.ne np249
      have z253 := g.hnone np249
      have c_252 : Cel [] H S_209 H_247 p245 (.lst ws246) := Cel.own g e248 np249 ep250 rfl
      replace c_28 := c_28.ext e248
      replace c_242 := c_242.ext e248
      replace g := g.ext e248
      obtain ⟨g256, h⟩ := OP.grd h
      refine (l_cat (LP.cel c_242.h rw241) (LP.cel c_252.h rw251) g256 fun p257 ws258 H_259 e260 np261 ep262 rw263 => ?_)
      have ne266 := c_28.ne np261
      have z265 := g.hnone np261
      have c_264 : Cel [] H S_209 H_259 p257 (.lst ws258) := Cel.own g e260 np261 ep262 rfl
      replace c_28 := c_28.ext e260
      replace g := g.ext e260
      refine c_nil ?_
      have gL271 : ∀ l ∈ [], H l = none ∨ l ∈ [] := LM0
      refine ⟨S_209, _, _, _, _, _, rfl, g.sh, r88, (RdL.ofC c_264.h NM0 rw263), (OP.of h).mono fun v267 h S_268 H_269 gc270 => ?_⟩
      replace c_28 := c_28.call gc270 NM0
      replace c_264 := c_264.call gc270 NM0
      replace r3 := RdL.mono gc270.ss r3
      replace r29 := RL.mono gc270.ss r29
      replace r88 := Rep.mono _ gc270.ss r88
      replace r89 := Rep.mono _ gc270.ss r89
      replace r112 := Rep.mono _ gc270.ss r112
      replace r113 := Rep.mono _ gc270.ss r113
      replace rw263 := RL.mono gc270.ss rw263
      replace sn204 := sn204.trans gc270.ss
      replace g := g.call gc270 gL271
      refine ⟨_, rfl, ?_⟩
      refine ifb (fun hc => ?_) (fun hc => ?_)
      · replace h := OP.ite1 hc h
        refine z_ret val_c ?_
        have h := OP.fin hA h
        exact h _ _ g
      · replace h := OP.ite0 hc h
        refine z_nextR ?_
        refine z_next ?_
        exact hN _ _ ⟨_, _, _, rfl, g, sn204, c_28, h⟩
    · replace h := OP.ite0 hc h
      have sn272 := Same.refl S_104
      refine z_next ?_
      exact hN _ _ ⟨_, _, _, rfl, g, sn272, c_28, h⟩
end
end E
namespace B
open PySem Z

/-! ### loops by an invariant -/
theorem forO_rng {σ : Type} {body : Int → σ → Option σ} (I : Nat → σ → Prop) : ∀ (n a : Nat) (s : σ), I a s → (∀ i s, a ≤ i → i < a + n → I i s → ∃ s', body (i : Int) s = some s' ∧ I (i + 1) s') → ∃ s', forO body (rangeI (a : Int) n) s = some s' ∧ I (a + n) s'
  | 0, a, s, h, _ => ⟨s, forO_nil, h⟩
  | n + 1, a, s, h, hs => by
    obtain ⟨s1, e1, h1⟩ := hs a s (Nat.le_refl _) (by omega) h
    obtain ⟨s2, e2, h2⟩ := forO_rng I n (a + 1) s1 h1 fun i s hi hj hI => hs i s (by omega) (by omega) hI
    refine ⟨s2, ?_, by rw [show a + (n + 1) = a + 1 + n by omega]; exact h2⟩
    rw [rangeI_succ, forO_cons, e1]
    show forO body (rangeI ((a : Int) + 1) n) s1 = some s2
    rw [show ((a : Int) + 1) = ((a + 1 : Nat) : Int) by omega]
    exact e2
theorem forR_rng {σ ρ : Type} {body : Int → σ → Option (σ ⊕ ρ)} (I : Nat → σ → Prop) : ∀ (n a : Nat) (s : σ), I a s → (∀ i s, a ≤ i → i < a + n → I i s → ∃ s', body (i : Int) s = some (.inl s') ∧ I (i + 1) s') → ∃ s', forR body (rangeI (a : Int) n) s = some (.inl s') ∧ I (a + n) s'
  | 0, a, s, h, _ => ⟨s, forR_nil, h⟩
  | n + 1, a, s, h, hs => by
    obtain ⟨s1, e1, h1⟩ := hs a s (Nat.le_refl _) (by omega) h
    obtain ⟨s2, e2, h2⟩ := forR_rng I n (a + 1) s1 h1 fun i s hi hj hI => hs i s (by omega) (by omega) hI
    refine ⟨s2, ?_, by rw [show a + (n + 1) = a + 1 + n by omega]; exact h2⟩
    rw [rangeI_succ, forR_cons, e1]
    show forR body (rangeI ((a : Int) + 1) n) s1 = some (.inl s2)
    rw [show ((a : Int) + 1) = ((a + 1 : Nat) : Int) by omega]
    exact e2
/-- over range(n) -/
theorem forO_r0 {σ : Type} {body : Int → σ → Option σ} (I : Nat → σ → Prop) {n : Nat} {s : σ} (h : I 0 s) (hs : ∀ i s, i < n → I i s → ∃ s', body (i : Int) s = some s' ∧ I (i + 1) s') : ∃ s', forO body (rangeI 0 n) s = some s' ∧ I n s' := by
  obtain ⟨s', e, i⟩ := forO_rng I n 0 s h fun i s _ hj hI => hs i s (by omega) hI
  rw [Nat.zero_add] at i
  exact ⟨s', e, i⟩
theorem forR_r0 {σ ρ : Type} {body : Int → σ → Option (σ ⊕ ρ)} (I : Nat → σ → Prop) {n : Nat} {s : σ} (h : I 0 s) (hs : ∀ i s, i < n → I i s → ∃ s', body (i : Int) s = some (.inl s') ∧ I (i + 1) s') : ∃ s', forR body (rangeI 0 n) s = some (.inl s') ∧ I n s' := by
  obtain ⟨s', e, i⟩ := forR_rng I n 0 s h fun i s _ hj hI => hs i s (by omega) hI
  rw [Nat.zero_add] at i
  exact ⟨s', e, i⟩
/-- a search: all turns pass, or the first that does not answers -/
theorem forR_all {ρ : Type} {body : Int → Unit → Option (Unit ⊕ ρ)} {v : ρ} (p : Nat → Bool) : ∀ (n a : Nat), (∀ i, a ≤ i → i < a + n → body (i : Int) () = some (if p i = true then .inl () else .inr v)) →
    forR body (rangeI (a : Int) n) () = some (if (List.range' a n).all p = true then .inl () else .inr v)
  | 0, a, _ => forR_nil
  | n + 1, a, h => by
    rw [rangeI_succ, forR_cons, h a (Nat.le_refl _) (by omega), List.range'_succ, List.all_cons]
    by_cases hp : p a = true
    · rw [if_pos hp, hp, Bool.true_and]
      show forR body (rangeI ((a : Int) + 1) n) () = _
      rw [show ((a : Int) + 1) = ((a + 1 : Nat) : Int) by omega]
      exact forR_all p n (a + 1) fun i h1 h2 => h i (by omega) (by omega)
    · rw [if_neg hp, if_neg]
      · rfl
      · rw [Bool.and_eq_true]; exact fun z => hp z.1
theorem forR_all0 {ρ : Type} {body : Int → Unit → Option (Unit ⊕ ρ)} {v : ρ} (p : Nat → Bool) {n : Nat} (h : ∀ i, i < n → body (i : Int) () = some (if p i = true then .inl () else .inr v)) :
    forR body (rangeI 0 n) () = some (if (List.range n).all p = true then .inl () else .inr v) := by
  have q := forR_all p n 0 fun i _ h2 => h i (by omega)
  rw [List.range_eq_range']
  exact q
theorem bind_eq {α β : Type} {m : Option α} {a : α} {k : α → Option β} (h : m = some a) : m.bind k = k a := by rw [h]; rfl
theorem brk_inl {σ ρ : Type} {m : Option (σ ⊕ ρ)} {s : σ} {k : σ → Option ρ} (h : m = some (.inl s)) : brk m k = k s := by rw [h]; rfl
theorem brk_inr {σ ρ : Type} {m : Option (σ ⊕ ρ)} {v : ρ} {k : σ → Option ρ} (h : m = some (.inr v)) : brk m k = some v := by rw [h]; rfl
theorem lt_eq {α β : Type} {e : α} {k : α → Option β} : lt e k = k e := rfl

/-! ### whole numbers that are no less than nought -/
theorem shl_nat (n k : Nat) : shl (n : Int) (k : Int) = ((n <<< k : Nat) : Int) := by
  show (n : Int) * 2 ^ (Int.toNat (k : Int)) = _
  rw [Int.toNat_natCast, Nat.shiftLeft_eq]
  push_cast
  rfl
theorem shl1_nat (k : Nat) : shl 1 (k : Int) = ((2 ^ k : Nat) : Int) := by
  have h := shl_nat 1 k
  rw [Nat.shiftLeft_eq, Nat.one_mul] at h
  exact h
theorem shr_nat (n k : Nat) : shr (n : Int) (k : Int) = ((n >>> k : Nat) : Int) := by
  show (n : Int) / 2 ^ (Int.toNat (k : Int)) = _
  rw [Int.toNat_natCast, Nat.shiftRight_eq_div_pow]
  push_cast
  rfl
theorem band_nat (a b : Nat) : band (a : Int) (b : Int) = ((a &&& b : Nat) : Int) := by
  show Builtin.bitAnd _ _ = _
  rw [PyProof.Rows.bitAnd_pp (by omega) (by omega)]
  rfl
theorem bor_nat (a b : Nat) : bor (a : Int) (b : Int) = ((a ||| b : Nat) : Int) := by
  show Builtin.bitOr _ _ = _
  rw [L2.bitOr_nn (by omega) (by omega)]
  rfl
theorem nat_xor_and (a b : Nat) : (a ^^^ b) + 2 * (a &&& b) = a + b := by
  have h1 := PyProof.Rows.nat_or_add_and a b
  have h2 := PyProof.Rows.nat_or_add_and (a ^^^ b) (a &&& b)
  have e1 : (a ^^^ b) ||| (a &&& b) = a ||| b := by
    apply Nat.eq_of_testBit_eq
    intro i
    simp only [Nat.testBit_or, Nat.testBit_xor, Nat.testBit_and]
    cases a.testBit i <;> cases b.testBit i <;> rfl
  have e2 : (a ^^^ b) &&& (a &&& b) = 0 := by
    apply Nat.eq_of_testBit_eq
    intro i
    simp only [Nat.testBit_xor, Nat.testBit_and, Nat.zero_testBit]
    cases a.testBit i <;> cases b.testBit i <;> rfl
  rw [e1, e2] at h2
  omega
theorem bxor_nat (a b : Nat) : bxor (a : Int) (b : Int) = ((a ^^^ b : Nat) : Int) := by
  show Builtin.bitXor _ _ = _
  rw [PyProof.Rows.bitXor_and]
  have h := nat_xor_and a b
  have q : Builtin.bitAnd (a : Int) (b : Int) = ((a &&& b : Nat) : Int) := band_nat a b
  rw [q]
  omega
/-- a without b -/
def andn (a b : Nat) : Nat := a ^^^ (a &&& b)
theorem testBit_andn (a b i : Nat) : (andn a b).testBit i = (a.testBit i && !b.testBit i) := by
  unfold andn
  simp only [Nat.testBit_xor, Nat.testBit_and]
  cases a.testBit i <;> cases b.testBit i <;> rfl
theorem bandn_nat (a b : Nat) : band (a : Int) (bnot (b : Int)) = ((andn a b : Nat) : Int) := by
  show Builtin.bitAnd (a : Int) (Builtin.bitNot (b : Int)) = _
  rw [PyProof.Rows.bitAnd_not]
  have q : Builtin.bitAnd (a : Int) (b : Int) = ((a &&& b : Nat) : Int) := band_nat a b
  rw [q]
  have h := nat_xor_and a (a &&& b)
  have e : a &&& (a &&& b) = a &&& b := by
    apply Nat.eq_of_testBit_eq
    intro i
    simp only [Nat.testBit_and]
    cases a.testBit i <;> cases b.testBit i <;> rfl
  rw [e] at h
  unfold andn
  omega
theorem gPow1 {k : Nat} (h : k ≤ 1000000) : gPow 1 (k : Int) := ⟨by omega, by omega, by decide⟩
theorem gPow_nat {n k : Nat} (h : k ≤ 1000000) (hn : n < 2 ^ 64) : gPow (n : Int) (k : Int) := ⟨by omega, by omega, by simpa using hn⟩
theorem gR_nat {n : Nat} (h : n < 2 ^ 62) : gR (n : Int) := ⟨by omega, by omega⟩
theorem gDiv_nat {n : Nat} (h0 : 0 < n) (h : n < 1073741824) : gDiv (n : Int) := ⟨by omega, by omega⟩

/-! ### a number by its bits -/
def mask : Nat → (Nat → Bool) → Nat
  | 0, _ => 0
  | n + 1, p => mask n p + if p n = true then 2 ^ n else 0
theorem mask_succ (n : Nat) (p : Nat → Bool) : mask (n + 1) p = mask n p + if p n = true then 2 ^ n else 0 := rfl
theorem mask_lt : ∀ (n : Nat) (p : Nat → Bool), mask n p < 2 ^ n
  | 0, _ => Nat.one_pos
  | n + 1, p => by
    have h := mask_lt n p
    unfold mask
    rw [Nat.pow_succ]
    split <;> omega
theorem testBit_mask : ∀ (n : Nat) (p : Nat → Bool) (i : Nat), (mask n p).testBit i = (decide (i < n) && p i)
  | 0, p, i => by simp [mask]
  | n + 1, p, i => by
    have h := testBit_mask n p i
    have hl := mask_lt n p
    unfold mask
    by_cases hp : p n = true
    · rw [if_pos hp, Nat.add_comm]
      have e := Nat.two_pow_add_eq_or_of_lt hl 1
      rw [Nat.mul_one] at e
      rw [e, Nat.testBit_or, h, Nat.testBit_two_pow]
      by_cases hi : i < n
      · simp [hi, Nat.lt_succ_of_lt hi, show ¬ n = i by omega]
      · by_cases he : n = i
        · subst he; simp [hp]
        · simp [hi, he, show ¬ i < n + 1 by omega]
    · rw [if_neg hp, Nat.add_zero, h]
      by_cases hi : i < n
      · simp [hi, Nat.lt_succ_of_lt hi]
      · by_cases he : n = i
        · subst he; simp [hp]
        · simp [hi, show ¬ i < n + 1 by omega]
theorem mask_ext {n : Nat} {p : Nat → Bool} {x : Nat} (hx : x < 2 ^ n) (h : ∀ i, i < n → x.testBit i = p i) : x = mask n p := by
  apply Nat.eq_of_testBit_eq
  intro i
  rw [testBit_mask]
  by_cases hi : i < n
  · simp [hi, h i hi]
  · simp only [hi, decide_false, Bool.false_and]
    exact Nat.testBit_lt_two_pow (Nat.lt_of_lt_of_le hx (Nat.pow_le_pow_right (by decide) (by omega)))
theorem mask_congr {n : Nat} {p q : Nat → Bool} (h : ∀ i, i < n → p i = q i) : mask n p = mask n q := mask_ext (mask_lt n p) fun i hi => by rw [testBit_mask, h i hi]; simp [hi]
end B
namespace B
open PySem Z
theorem forO_list {α σ : Type} {body : α → σ → Option σ} (g : σ → α → σ) (I : σ → Prop) : ∀ (xs : List α) (s : σ), I s → (∀ x ∈ xs, ∀ s, I s → body x s = some (g s x) ∧ I (g s x)) → forO body xs s = some (xs.foldl g s) ∧ I (xs.foldl g s)
  | [], s, h, _ => ⟨forO_nil, h⟩
  | x :: xs, s, h, hs => by
    obtain ⟨e, i⟩ := hs x List.mem_cons_self s h
    rw [forO_cons, e]
    exact forO_list g I xs (g s x) i fun y hy => hs y (List.mem_cons_of_mem _ hy)
theorem forR_list {α σ ρ : Type} {body : α → σ → Option (σ ⊕ ρ)} (g : σ → α → σ) (I : σ → Prop) : ∀ (xs : List α) (s : σ), I s → (∀ x ∈ xs, ∀ s, I s → body x s = some (.inl (g s x)) ∧ I (g s x)) → forR body xs s = some (.inl (xs.foldl g s)) ∧ I (xs.foldl g s)
  | [], s, h, _ => ⟨forR_nil, h⟩
  | x :: xs, s, h, hs => by
    obtain ⟨e, i⟩ := hs x List.mem_cons_self s h
    rw [forR_cons, e]
    exact forR_list g I xs (g s x) i fun y hy => hs y (List.mem_cons_of_mem _ hy)
/-- an invariant alone -/
theorem forO_inv {α σ : Type} {body : α → σ → Option σ} (I : σ → Prop) : ∀ (xs : List α) (s : σ), I s → (∀ x ∈ xs, ∀ s, I s → ∃ s', body x s = some s' ∧ I s') → ∃ s', forO body xs s = some s' ∧ I s'
  | [], s, h, _ => ⟨s, forO_nil, h⟩
  | x :: xs, s, h, hs => by
    obtain ⟨s1, e, i⟩ := hs x List.mem_cons_self s h
    rw [forO_cons, e]
    exact forO_inv I xs s1 i fun y hy => hs y (List.mem_cons_of_mem _ hy)
theorem forR_inv {α σ ρ : Type} {body : α → σ → Option (σ ⊕ ρ)} (I : σ → Prop) : ∀ (xs : List α) (s : σ), I s → (∀ x ∈ xs, ∀ s, I s → ∃ s', body x s = some (.inl s') ∧ I s') → ∃ s', forR body xs s = some (.inl s') ∧ I s'
  | [], s, h, _ => ⟨s, forR_nil, h⟩
  | x :: xs, s, h, hs => by
    obtain ⟨s1, e, i⟩ := hs x List.mem_cons_self s h
    rw [forR_cons, e]
    exact forR_inv I xs s1 i fun y hy => hs y (List.mem_cons_of_mem _ hy)
theorem mod_nat (v : Int) {n : Nat} (h : 0 < n) : ∃ k : Nat, k < n ∧ v % (n : Int) = (k : Int) := by
  refine ⟨(v % (n : Int)).toNat, ?_, ?_⟩
  · have h1 := Int.emod_lt_of_pos v (show (0 : Int) < (n : Int) by omega)
    have h0 := Int.emod_nonneg v (show (n : Int) ≠ 0 by omega)
    omega
  · have h0 := Int.emod_nonneg v (show (n : Int) ≠ 0 by omega)
    omega
theorem cutI_mem {α : Type} {xs : List α} {lo hi : Option Int} {x : α} (h : x ∈ cutI xs lo hi) : x ∈ xs := List.mem_of_mem_drop (List.mem_of_mem_take h)
theorem cutI_len {α : Type} {xs : List α} {lo hi : Option Int} : (cutI xs lo hi).length ≤ xs.length := by
  unfold cutI
  rw [List.length_take, List.length_drop]
  omega
theorem setI_nat {α : Type} {xs : List α} {k : Nat} {v : α} (h : k < xs.length) : setI xs (k : Int) v = some (xs.set k v) := by
  unfold setI L2.ixN
  rw [if_pos (by omega), if_pos (by omega), Int.toNat_natCast]
  rfl
theorem atI_nat' {α : Type} {xs : List α} {k : Nat} (h : k < xs.length) : L2.atI xs (k : Int) = some xs[k] := L2.atI_nat (List.getElem?_eq_getElem h)
end B
namespace B
open PySem Z
theorem un2_mk {α β γ : Type} {f : α → β → γ} {a : α} {b : β} : un2 f (a, b) = f a b := rfl
theorem un3_mk {α β γ δ : Type} {f : α → β → γ → δ} {a : α} {b : β} {c : γ} : un3 f (a, b, c) = f a b c := rfl
theorem un4_mk {α β γ δ ε : Type} {f : α → β → γ → δ → ε} {a : α} {b : β} {c : γ} {d : δ} : un4 f (a, b, c, d) = f a b c d := rfl
theorem nt : (!true) = false := rfl
theorem nf : (!false) = true := rfl
end B
namespace B
open PySem Z
/-- s lies in the bar -/
def inB (a l s : Nat) : Bool := s &&& a == l
def liesB (a l s : Nat) : Bool := (List.range 6).all fun k => !(a.testBit k) || (s.testBit k == l.testBit k)
theorem liesB_eq {a l s : Nat} (ha : a < 64) (hl : l < 64) (h : l &&& a = l) : liesB a l s = inB a l s := by
  unfold liesB inB
  by_cases e : s &&& a = l
  · rw [show (s &&& a == l) = true by simp [e]]
    rw [List.all_eq_true]
    intro k _
    have q := congrArg (fun x => x.testBit k) e
    simp only [Nat.testBit_and] at q
    cases ha : a.testBit k <;> simp_all
  · rw [show (s &&& a == l) = false by simp [e]]
    by_cases z : ((List.range 6).all fun k => !(a.testBit k) || (s.testBit k == l.testBit k)) = true
    · exfalso
      apply e
      rw [List.all_eq_true] at z
      apply Nat.eq_of_testBit_eq
      intro k
      rw [Nat.testBit_and]
      by_cases hk : k < 6
      · have q := z k (List.mem_range.mpr hk)
        have r := congrArg (fun x => x.testBit k) h
        simp only [Nat.testBit_and] at r
        cases ha : a.testBit k <;> simp_all
      · have h64 : (64 : Nat) ≤ 2 ^ k := Nat.pow_le_pow_right (n := 2) (by decide) (show 6 ≤ k by omega)
        rw [Nat.testBit_lt_two_pow (show a < 2 ^ k by omega), Nat.testBit_lt_two_pow (show l < 2 ^ k by omega), Bool.and_false]
    · simpa using z
theorem inB_of {a l s : Nat} : inB a l s = (s &&& a == l) := rfl
theorem and_full {m s : Nat} (hs : s < 2 ^ m) : s &&& (2 ^ m - 1) = s := by rw [Nat.and_two_pow_sub_one_eq_mod, Nat.mod_eq_of_lt hs]
/-- a loop over a list, its passes counted -/
theorem forO_cnt {α σ : Type} {body : α → σ → Option σ} (I : Nat → σ → Prop) : ∀ (xs : List α) (j : Nat) (s : σ), I j s → (∀ x ∈ xs, ∀ k s, k < j + xs.length → I k s → ∃ s', body x s = some s' ∧ I (k + 1) s') → ∃ s', forO body xs s = some s' ∧ I (j + xs.length) s'
  | [], _, s, h, _ => ⟨s, forO_nil, h⟩
  | x :: xs, j, s, h, hs => by
    have hl : (x :: xs).length = xs.length + 1 := rfl
    obtain ⟨s1, e, i⟩ := hs x List.mem_cons_self j s (by omega) h
    rw [forO_cons, e]
    obtain ⟨s2, e2, i2⟩ := forO_cnt I xs (j + 1) s1 i fun y hy k s hk hI => hs y (List.mem_cons_of_mem _ hy) k s (by omega) hI
    refine ⟨s2, e2, ?_⟩
    have : j + 1 + xs.length = j + (x :: xs).length := by omega
    rw [← this]; exact i2
theorem forR_cnt {α σ ρ : Type} {body : α → σ → Option (σ ⊕ ρ)} (I : Nat → σ → Prop) : ∀ (xs : List α) (j : Nat) (s : σ), I j s → (∀ x ∈ xs, ∀ k s, k < j + xs.length → I k s → ∃ s', body x s = some (.inl s') ∧ I (k + 1) s') → ∃ s', forR body xs s = some (.inl s') ∧ I (j + xs.length) s'
  | [], _, s, h, _ => ⟨s, forR_nil, h⟩
  | x :: xs, j, s, h, hs => by
    have hl : (x :: xs).length = xs.length + 1 := rfl
    obtain ⟨s1, e, i⟩ := hs x List.mem_cons_self j s (by omega) h
    rw [forR_cons, e]
    obtain ⟨s2, e2, i2⟩ := forR_cnt I xs (j + 1) s1 i fun y hy k s hk hI => hs y (List.mem_cons_of_mem _ hy) k s (by omega) hI
    refine ⟨s2, e2, ?_⟩
    have : j + 1 + xs.length = j + (x :: xs).length := by omega
    rw [← this]; exact i2
theorem ifo_nt {α : Type} {m n : Option α} : ifo (!true) m n = n := ifo_f rfl
theorem ifo_nf {α : Type} {m n : Option α} : ifo (!false) m n = m := ifo_t rfl
theorem ifo_tt {α : Type} {m n : Option α} : ifo true m n = m := ifo_t rfl
theorem ifo_ff {α : Type} {m n : Option α} : ifo false m n = n := ifo_f rfl
theorem sb {α β : Type} {a : α} {k : α → Option β} : (some a).bind k = k a := rfl
theorem one_and (n : Nat) : 1 &&& n = n % 2 := by rw [Nat.and_comm, Nat.and_one_is_mod]
end B

namespace B
open PySem Z L2
/-! ### the least bit -/
theorem neg_nat {c : Nat} (h : 0 < c) : (-(c : Int)) = bnot ((c - 1 : Nat) : Int) := by
  show _ = Builtin.bitNot _
  unfold Builtin.bitNot
  omega
theorem low_nat {c : Nat} (h : 0 < c) : band (c : Int) (-(c : Int)) = ((andn c (c - 1) : Nat) : Int) := by rw [neg_nat h, bandn_nat]
theorem tb_zero (c : Nat) : c.testBit 0 = decide (c % 2 = 1) := Nat.testBit_zero c
/-- there is a least bit -/
theorem least_bit : ∀ (c : Nat), 0 < c → ∃ k, c.testBit k = true ∧ (∀ i, i < k → c.testBit i = false) ∧ andn c (c - 1) = 2 ^ k := by
  intro c
  induction c using Nat.strongRecOn with
  | ind c ih =>
    intro h
    by_cases hp : c % 2 = 1
    · refine ⟨0, by rw [tb_zero, decide_eq_true hp], fun i hi => by omega, Nat.eq_of_testBit_eq fun i => ?_⟩
      rw [testBit_andn]
      cases i with
      | zero =>
        rw [tb_zero, tb_zero, decide_eq_true hp, decide_eq_false (by omega)]; rfl
      | succ i =>
        rw [Nat.testBit_succ, Nat.testBit_succ, show (c - 1) / 2 = c / 2 by omega, Nat.testBit_two_pow]
        rw [decide_eq_false (by omega)]
        cases (c / 2).testBit i <;> rfl
    · have h2 : 0 < c / 2 := by omega
      obtain ⟨k, k1, k2, k3⟩ := ih (c / 2) (by omega) h2
      refine ⟨k + 1, by rw [Nat.testBit_succ]; exact k1, fun i hi => ?_, Nat.eq_of_testBit_eq fun i => ?_⟩
      · cases i with
        | zero => rw [tb_zero, decide_eq_false hp]
        | succ i => rw [Nat.testBit_succ]; exact k2 i (by omega)
      · rw [testBit_andn]
        cases i with
        | zero =>
          rw [tb_zero, decide_eq_false hp, Nat.testBit_two_pow, decide_eq_false (by omega)]; rfl
        | succ i =>
          have e := congrArg (fun n => n.testBit i) k3
          simp only [testBit_andn, Nat.testBit_two_pow] at e
          rw [Nat.testBit_succ, Nat.testBit_succ, show (c - 1) / 2 = c / 2 - 1 by omega, e, Nat.testBit_two_pow]
          exact decide_eq_decide.mpr (by omega)
theorem blen_pow (k : Nat) : blen ((2 ^ k : Nat) : Int) = ((k + 1 : Nat) : Int) := by
  unfold blen Builtin.Int.intBits
  have h : ((((2 ^ k : Nat) : Int)) == 0) = false := by
    have := Nat.two_pow_pos k
    exact beq_eq_false_iff_ne.mpr (by omega)
  rw [h]
  show (((((2 ^ k : Nat) : Int).natAbs.log2 + 1 : Nat)) : Int) = _
  rw [Int.natAbs_natCast, Nat.log2_two_pow]
/-- the places of the bits, rising -/
def bitsL (n c : Nat) : List Nat := (List.range n).filter fun i => c.testBit i
theorem bitsL_zero (n : Nat) : bitsL n 0 = [] := by
  unfold bitsL
  rw [List.filter_eq_nil_iff]
  intro i _
  rw [Nat.zero_testBit]; exact Bool.false_ne_true
theorem mem_bitsL {n c i : Nat} : i ∈ bitsL n c ↔ i < n ∧ c.testBit i = true := by
  unfold bitsL
  rw [List.mem_filter, List.mem_range]
theorem bitsL_len (n c : Nat) : (bitsL n c).length ≤ n := by
  have := List.length_filter_le (fun i => c.testBit i) (List.range n)
  rwa [List.length_range] at this
theorem bitsL_cons {n c k : Nat} (hk : k < n) (h1 : c.testBit k = true) (h2 : ∀ i, i < k → c.testBit i = false) : bitsL n c = k :: bitsL n (c ^^^ 2 ^ k) := by
  have key : ∀ (p q : Nat → Bool) (m a : Nat), a ≤ k → k < a + m → p k = true → q k = false → (∀ i, i ≠ k → p i = q i) → (∀ i, i < k → p i = false) → (List.range' a m).filter p = k :: (List.range' a m).filter q := by
    intro p q m
    induction m with
    | zero => intro a h1 h2; omega
    | succ m ih =>
      intro a ha hm pk qk hpq hlo
      rw [List.range'_succ, List.filter_cons, List.filter_cons]
      by_cases e : a = k
      · subst e
        rw [if_pos pk, if_neg (by rw [qk]; exact Bool.false_ne_true)]
        congr 1
        apply List.filter_congr
        intro x hx
        rw [List.mem_range'_1] at hx
        exact hpq x (by omega)
      · have hlt : a < k := by omega
        rw [if_neg (by rw [hlo a hlt]; exact Bool.false_ne_true), if_neg (by rw [← hpq a e, hlo a hlt]; exact Bool.false_ne_true)]
        exact ih (a + 1) (by omega) (by omega) pk qk hpq hlo
  unfold bitsL
  rw [List.range_eq_range']
  refine key _ _ n 0 (by omega) (by omega) h1 ?_ (fun i hi => ?_) h2
  · rw [Nat.testBit_xor, Nat.testBit_two_pow, h1, decide_eq_true rfl]; rfl
  · rw [Nat.testBit_xor, Nat.testBit_two_pow, decide_eq_false (fun e => hi e.symm), Bool.xor_false]
theorem tb_lt {m a i : Nat} (h : a < 2 ^ m) (hi : a.testBit i = true) : i < m := by
  by_cases q : i < m
  · exact q
  · rw [Nat.testBit_lt_two_pow (Nat.lt_of_lt_of_le h (Nat.pow_le_pow_right (by decide) (by omega)))] at hi
    cases hi
theorem xor_lt {m a b : Nat} (ha : a < 2 ^ m) (hb : b < 2 ^ m) : a ^^^ b < 2 ^ m := Nat.xor_lt_two_pow ha hb
theorem bigN_eq' : bigN = 1000000 := Z.bigN_eq
/-! ### tables: lists told by a function -/
def zL (xs : List Nat) : List Int := xs.map fun (n : Nat) => (n : Int)
def tab (n : Nat) (f : Nat → Nat) : List Int := (List.range n).map fun i => ((f i : Nat) : Int)
theorem tab_len (n : Nat) (f : Nat → Nat) : (tab n f).length = n := by unfold tab; rw [List.length_map, List.length_range]
theorem tab_ext {n : Nat} {f g : Nat → Nat} (h : ∀ i, i < n → f i = g i) : tab n f = tab n g := by
  unfold tab
  apply List.map_congr_left
  intro i hi
  rw [h i (List.mem_range.mp hi)]
theorem tab_get {n : Nat} {f : Nat → Nat} {i : Nat} (h : i < n) : (tab n f)[i]? = some ((f i : Nat) : Int) := by
  unfold tab
  rw [List.getElem?_map, List.getElem?_range h]; rfl
theorem atI_tab {n : Nat} {f : Nat → Nat} {i : Nat} (h : i < n) : L2.atI (tab n f) (i : Int) = some ((f i : Nat) : Int) := L2.atI_nat (tab_get h)
def fup (f : Nat → Nat) (k v : Nat) : Nat → Nat := fun i => if i = k then v else f i
theorem tab_set {n : Nat} {f : Nat → Nat} {k v : Nat} : (tab n f).set k (v : Int) = tab n (fup f k v) := by
  apply List.ext_getElem?
  intro i
  rw [List.getElem?_set]
  by_cases hi : i < n
  · by_cases hk : k = i
    · subst hk
      rw [if_pos rfl, tab_len, if_pos hi, tab_get hi]
      unfold fup; rw [if_pos rfl]
    · rw [if_neg hk, tab_get hi, tab_get hi]
      unfold fup; rw [if_neg (fun e => hk e.symm)]
  · have e1 : (tab n f)[i]? = none := List.getElem?_eq_none (by rw [tab_len]; omega)
    have e2 : (tab n (fup f k v))[i]? = none := List.getElem?_eq_none (by rw [tab_len]; omega)
    rw [e1, e2]
    by_cases hk : k = i
    · subst hk; rw [if_pos rfl, tab_len, if_neg hi]
    · rw [if_neg hk]
theorem setI_tab {n : Nat} {f : Nat → Nat} {k v : Nat} (h : k < n) : setI (tab n f) (k : Int) (v : Int) = some (tab n (fup f k v)) := by
  rw [setI_nat (by rw [tab_len]; exact h), tab_set]
theorem mem_tab {n : Nat} {f : Nat → Nat} {x : Int} (h : x ∈ tab n f) : ∃ i, i < n ∧ x = ((f i : Nat) : Int) := by
  unfold tab at h
  rw [List.mem_map] at h
  obtain ⟨i, h1, h2⟩ := h
  exact ⟨i, List.mem_range.mp h1, h2.symm⟩
theorem mem_rangeI {n : Nat} {x : Int} : x ∈ rangeI 0 n → ∃ k : Nat, k < n ∧ x = (k : Int) := by
  intro h
  unfold rangeI at h
  rw [List.mem_map] at h
  obtain ⟨k, h1, h2⟩ := h
  exact ⟨k, List.mem_range.mp h1, by omega⟩
theorem rangeI_len {lo : Int} {n : Nat} : (rangeI lo n).length = n := by unfold rangeI; rw [List.length_map, List.length_range]
theorem rangeI_tab (n : Nat) : rangeI 0 n = tab n id := by
  unfold rangeI tab
  apply List.map_congr_left
  intro i _
  show (0 : Int) + (i : Int) = ((id i : Nat) : Int)
  rw [Int.zero_add]; rfl
theorem comp_const {α : Type} {xs : List α} {c : Int} (h : xs.length ≤ 16777216) : compO (fun _ => some (some c)) xs = some (xs.map fun _ => c) := by
  rw [compO_eq (g := fun _ => some c) h fun _ _ => rfl]
  congr 1
  clear h
  induction xs with
  | nil => rfl
  | cons x xs ih => rw [List.filterMap_cons, ih]; rfl
theorem map_zero_tab {α : Type} (xs : List α) {n : Nat} (h : xs.length = n) : (xs.map fun _ => (0 : Int)) = tab n fun _ => 0 := by
  subst h
  unfold tab
  induction xs with
  | nil => rfl
  | cons x xs ih =>
    rw [List.length_cons, List.range_succ_eq_map, List.map_cons, List.map_cons, List.map_map]
    rw [ih]
    rfl
theorem comp_zero {n : Nat} (h : n ≤ 16777216) : compO (fun _ => some (some 0)) (rangeI 0 n) = some (tab n fun _ => 0) := by
  rw [comp_const (by rw [rangeI_len]; exact h), map_zero_tab _ rangeI_len]
theorem comp_zeroL {xs : List Int} {n : Nat} (hl : xs.length = n) (h : n ≤ 16777216) : compO (fun _ => some (some 0)) xs = some (tab n fun _ => 0) := by
  rw [comp_const (by omega), map_zero_tab _ hl]
theorem tab_rev (n : Nat) (f : Nat → Nat) : (tab n f).reverse = tab n fun i => f (n - 1 - i) := by
  apply List.ext_getElem?
  intro i
  by_cases hi : i < n
  · rw [List.getElem?_reverse (by rw [tab_len]; exact hi), tab_len, tab_get (by omega), tab_get hi]
  · rw [List.getElem?_eq_none (by rw [List.length_reverse, tab_len]; omega), List.getElem?_eq_none (by rw [tab_len]; omega)]
theorem enumI_tab (n : Nat) (f : Nat → Nat) : enumI (tab n f) = (List.range n).map fun (i : Nat) => ((i : Int), ((f i : Nat) : Int)) := by
  apply List.ext_getElem?
  intro i
  unfold enumI
  by_cases hi : i < n
  · have := enumF_get (tab n f) 0 i _ (tab_get hi)
    rw [this, List.getElem?_map, List.getElem?_range hi, Nat.zero_add]; rfl
  · rw [List.getElem?_eq_none (by rw [enumF_len, tab_len]; omega), List.getElem?_eq_none (by rw [List.length_map, List.length_range]; omega)]
/-- a loop over the places below n, told as a list -/
theorem forO_map {α σ : Type} {body : α → σ → Option σ} {g : Nat → α} (I : Nat → σ → Prop) : ∀ (n : Nat) (s : σ), I 0 s → (∀ i s, i < n → I i s → ∃ s', body (g i) s = some s' ∧ I (i + 1) s') → ∃ s', forO body ((List.range n).map g) s = some s' ∧ I n s' := by
  have key : ∀ (n a : Nat) (s : σ), I a s → (∀ i s, a ≤ i → i < a + n → I i s → ∃ s', body (g i) s = some s' ∧ I (i + 1) s') → ∃ s', forO body ((List.range' a n).map g) s = some s' ∧ I (a + n) s' := by
    intro n
    induction n with
    | zero => intro a s h _; exact ⟨s, forO_nil, h⟩
    | succ n ih =>
      intro a s h hs
      obtain ⟨s1, e1, i1⟩ := hs a s (Nat.le_refl _) (by omega) h
      obtain ⟨s2, e2, i2⟩ := ih (a + 1) s1 i1 fun i s ha hi hI => hs i s (by omega) (by omega) hI
      refine ⟨s2, ?_, by rw [show a + (n + 1) = a + 1 + n by omega]; exact i2⟩
      rw [List.range'_succ, List.map_cons, forO_cons, e1]
      exact e2
  intro n s h hs
  obtain ⟨s', e, i⟩ := key n 0 s h fun i s _ hi hI => hs i s (by omega) hI
  rw [Nat.zero_add] at i
  exact ⟨s', by rw [List.range_eq_range']; exact e, i⟩
/-- a loop that asks the same of each, and passes -/
theorem forO_pass {α : Type} {body : α → Unit → Option Unit} : ∀ {xs : List α}, (∀ x ∈ xs, body x () = some ()) → forO body xs () = some ()
  | [], _ => forO_nil
  | x :: xs, h => by
    rw [forO_cons, h x List.mem_cons_self]
    exact forO_pass fun y hy => h y (List.mem_cons_of_mem _ hy)
theorem forR_pass {α ρ : Type} {body : α → Unit → Option (Unit ⊕ ρ)} : ∀ {xs : List α}, (∀ x ∈ xs, body x () = some (.inl ())) → forR body xs () = some (.inl ())
  | [], _ => forR_nil
  | x :: xs, h => by
    rw [forR_cons, h x List.mem_cons_self]
    exact forR_pass fun y hy => h y (List.mem_cons_of_mem _ hy)
theorem mask_or (i : Nat) (p : Nat → Bool) : mask i p ||| 2 ^ i = mask i p + 2 ^ i := by
  have h := mask_lt i p
  have e : mask i p + 2 ^ i = mask (i + 1) (fun j => if j = i then true else p j) := by
    rw [mask_succ, if_pos (by rw [if_pos rfl])]
    congr 1
    exact mask_congr fun j hj => by rw [if_neg (by omega)]
  rw [e]
  refine mask_ext (Nat.or_lt_two_pow (Nat.lt_of_lt_of_le h (Nat.pow_le_pow_right (by decide) (by omega))) (Nat.pow_lt_pow_right (by decide) (by omega))) fun j hj => ?_
  rw [Nat.testBit_or, testBit_mask, Nat.testBit_two_pow]
  by_cases e : j = i
  · subst e
    rw [if_pos rfl, decide_eq_true rfl, Bool.or_true]
  · rw [if_neg e, decide_eq_true (by omega), decide_eq_false (fun q => e q.symm), Bool.true_and, Bool.or_false]
/-- joined crowds -/
def orAll (f : Nat → Nat) : List Nat → Nat
  | [] => 0
  | x :: xs => f x ||| orAll f xs
theorem testBit_orAll (f : Nat → Nat) (i : Nat) : ∀ xs : List Nat, (orAll f xs).testBit i = xs.any fun x => (f x).testBit i
  | [] => by unfold orAll; rw [Nat.zero_testBit]; rfl
  | x :: xs => by
    unfold orAll
    rw [Nat.testBit_or, testBit_orAll f i xs, List.any_cons]
theorem orAll_lt {n : Nat} {f : Nat → Nat} : ∀ {xs : List Nat}, (∀ x ∈ xs, f x < 2 ^ n) → orAll f xs < 2 ^ n
  | [], _ => Nat.two_pow_pos n
  | x :: xs, h => Nat.or_lt_two_pow (h x List.mem_cons_self) (orAll_lt fun y hy => h y (List.mem_cons_of_mem _ hy))
theorem any_bitsL {n c : Nat} {p : Nat → Bool} : (bitsL n c).any p = (List.range n).any fun i => c.testBit i && p i := by
  unfold bitsL
  rw [List.any_filter]
theorem orAll_app (f : Nat → Nat) : ∀ xs ys : List Nat, orAll f (xs ++ ys) = orAll f xs ||| orAll f ys
  | [], ys => (Nat.zero_or _).symm
  | x :: xs, ys => by
    show f x ||| orAll f (xs ++ ys) = f x ||| orAll f xs ||| orAll f ys
    rw [orAll_app f xs ys, Nat.or_assoc]
theorem bitsL_succ (k c : Nat) : bitsL (k + 1) c = bitsL k c ++ if c.testBit k = true then [k] else [] := by
  unfold bitsL
  rw [List.range_succ, List.filter_append]
  congr 1
  rw [List.filter_cons]
  rfl
theorem and1_testBit (a k : Nat) : decide (((a >>> k &&& 1 : Nat) : Int) = 1) = a.testBit k := by
  rw [Nat.testBit, Nat.and_comm]
  have : (1 &&& a >>> k) = 0 ∨ (1 &&& a >>> k) = 1 := by
    rw [one_and]; omega
  rcases this with h | h <;> rw [h] <;> rfl
theorem asks1 (a k : Nat) : decide (band (shr (a : Int) (k : Int)) 1 = 1) = a.testBit k := by
  have o1 : ((1 : Nat) : Int) = 1 := rfl
  rw [shr_nat, ← o1, band_nat, o1, and1_testBit]
theorem pow_lt2 {k n : Nat} (h : k < n) : 2 ^ k < 2 ^ n := Nat.pow_lt_pow_right (by decide) h
theorem le64 {m : Nat} (hm : m ≤ 6) : 2 ^ m ≤ 64 := Nat.pow_le_pow_right (n := 2) (by decide) hm
/-! ### parts of lists -/
theorem cutI_from {α : Type} (xs : List α) (k : Nat) : cutI xs (some (k : Int)) none = xs.drop k := by
  unfold cutI
  rw [HT.sIx_nat, HT.sIx_none]
  by_cases h : k ≤ xs.length
  · rw [Nat.min_eq_left h, List.take_of_length_le (Nat.le_of_eq List.length_drop)]
  · rw [Nat.min_eq_right (by omega), List.drop_length, List.drop_eq_nil_of_le (i := k) (by omega), List.take_nil]
theorem cutI_to {α : Type} (xs : List α) (k : Nat) : cutI xs none (some (k : Int)) = xs.take k := by
  unfold cutI
  rw [HT.sIx_nat, HT.sIx_none, List.drop_zero, Nat.sub_zero]
  by_cases h : k ≤ xs.length
  · rw [Nat.min_eq_left h]
  · rw [Nat.min_eq_right (by omega), List.take_of_length_le (Nat.le_refl _), List.take_of_length_le (by omega)]
theorem cutI_init {α : Type} (xs : List α) : cutI xs none (some (-1)) = xs.dropLast := by
  unfold cutI
  rw [HT.sIx_none, List.drop_zero, Nat.sub_zero]
  have e : HT.sIx xs.length xs.length (some (-1)) = xs.length - 1 := by
    show (if (-1 : Int) < 0 then ((-1 : Int) + (xs.length : Int)).toNat else min (-1 : Int).toNat xs.length) = _
    rw [if_pos (by decide)]
    omega
  rw [e, List.dropLast_eq_take]
theorem atI_end {α : Type} {xs : List α} (h : xs ≠ []) : L2.atI xs (-1) = some (xs.getLast h) := by
  have e : xs = xs.dropLast ++ [xs.getLast h] := (List.dropLast_concat_getLast h).symm
  have := L2.atI_last xs.dropLast (xs.getLast h)
  rw [← e] at this
  exact this
theorem zL_len (xs : List Nat) : (zL xs).length = xs.length := by unfold zL; rw [List.length_map]
theorem atI_zL {xs : List Nat} {k : Nat} (h : k < xs.length) : L2.atI (zL xs) (k : Int) = some ((xs[k] : Nat) : Int) := by
  rw [atI_nat' (by rw [zL_len]; exact h)]
  unfold zL
  rw [List.getElem_map]
theorem atI_zLend {xs : List Nat} (h : xs ≠ []) : L2.atI (zL xs) (-1) = some ((xs.getLast h : Nat) : Int) := by
  have h' : zL xs ≠ [] := fun e => h (by unfold zL at e; exact List.map_eq_nil_iff.mp e)
  rw [atI_end h']
  exact congrArg some (List.getLast_map (f := fun (n : Nat) => (n : Int)) (l := xs) h')
theorem mem_zL {xs : List Nat} {x : Int} (h : x ∈ zL xs) : ∃ k, k ∈ xs ∧ x = (k : Int) := by
  unfold zL at h
  rw [List.mem_map] at h
  obtain ⟨k, h1, h2⟩ := h
  exact ⟨k, h1, h2.symm⟩
theorem zL_of {xs : List Int} {N : Nat} (h : ∀ x ∈ xs, ∃ k : Nat, k < N ∧ x = (k : Int)) : ∃ ws : List Nat, (∀ w ∈ ws, w < N) ∧ xs = zL ws := by
  induction xs with
  | nil => exact ⟨[], fun _ h => (by cases h), rfl⟩
  | cons x xs ih =>
    obtain ⟨k, hk, rfl⟩ := h x List.mem_cons_self
    obtain ⟨ws, h1, rfl⟩ := ih fun y hy => h y (List.mem_cons_of_mem _ hy)
    refine ⟨k :: ws, fun w hw => ?_, rfl⟩
    rcases List.mem_cons.mp hw with rfl | hw
    · exact hk
    · exact h1 w hw
/-! ### loops that ask -/
theorem forR_allL {α ρ : Type} {body : α → Unit → Option (Unit ⊕ ρ)} {v : ρ} (p : α → Bool) : ∀ {xs : List α}, (∀ x ∈ xs, body x () = some (if p x = true then .inl () else .inr v)) →
    forR body xs () = some (if xs.all p = true then .inl () else .inr v)
  | [], _ => by rw [forR_nil]; rfl
  | x :: xs, h => by
    rw [forR_cons, h x List.mem_cons_self, List.all_cons]
    cases p x with
    | false => rfl
    | true =>
      show forR body xs () = _
      rw [forR_allL p fun y hy => h y (List.mem_cons_of_mem _ hy)]
      rw [Bool.true_and]
theorem brk_if {ρ : Type} {b : Bool} {v : ρ} {k : Unit → Option ρ} : brk (some (if b = true then Sum.inl () else Sum.inr v)) k = if b = true then k () else some v := by
  cases b <;> rfl
theorem brk_eq {σ ρ : Type} {m n : Option (σ ⊕ ρ)} {k : σ → Option ρ} (h : m = n) : brk m k = brk n k := by rw [h]
theorem comp_map {α β : Type} {xs : List α} {f : α → Option (Option β)} {g : α → β} (hl : xs.length ≤ 16777216) (h : ∀ x ∈ xs, f x = some (some (g x))) : compO f xs = some (xs.map g) := by
  rw [compO_eq (g := fun x => some (g x)) hl h]
  congr 1
  clear h hl
  induction xs with
  | nil => rfl
  | cons x xs ih => rw [List.filterMap_cons, ih]; rfl
theorem tb_shr (a k : Nat) : decide (band (shr (a : Int) (k : Int)) 1 = 0) = !a.testBit k := by
  have h := asks1 a k
  have e : ∀ x : Nat, decide (((x &&& 1 : Nat) : Int) = 0) = !decide (((x &&& 1 : Nat) : Int) = 1) := fun x => by
    have : x &&& 1 = x % 2 := Nat.and_one_is_mod x
    rw [this, ← decide_not]
    exact decide_eq_decide.mpr (by omega)
  have o1 : ((1 : Nat) : Int) = 1 := rfl
  rw [shr_nat, ← o1, band_nat, o1] at h
  rw [shr_nat, ← o1, band_nat, e, h]
theorem tb_div (a k : Nat) : ((a : Int) / ((2 ^ k : Nat) : Int)) % 2 = if a.testBit k = true then 1 else 0 := by
  have e : ((a : Int) / ((2 ^ k : Nat) : Int)) % 2 = ((a / 2 ^ k % 2 : Nat) : Int) := by omega
  rw [e, Nat.testBit_eq_decide_div_mod_eq]
  by_cases h : a / 2 ^ k % 2 = 1
  · rw [h, if_pos (by rw [decide_eq_true rfl])]; rfl
  · rw [if_neg (by rw [decide_eq_false h]; exact Bool.false_ne_true)]; omega
theorem tb_div0 (a k : Nat) : decide (((a : Int) / ((2 ^ k : Nat) : Int)) % 2 = 0) = !a.testBit k := by rw [tb_div]; cases a.testBit k <;> rfl
theorem tb_div1 (a k : Nat) : decide (((a : Int) / ((2 ^ k : Nat) : Int)) % 2 = 1) = a.testBit k := by rw [tb_div]; cases a.testBit k <;> rfl
theorem pow_200 {k : Nat} (h : k < 200) : 2 ^ k < 2 ^ 200 := pow_lt2 h
theorem bitsL_pow {n k : Nat} (h : k < n) : bitsL n (2 ^ k) = [k] := by
  have := bitsL_cons (n := n) (c := 2 ^ k) h (by rw [Nat.testBit_two_pow, decide_eq_true rfl]) fun i hi => by rw [Nat.testBit_two_pow, decide_eq_false (by omega)]
  rw [this, Nat.xor_self, bitsL_zero]
theorem orAll_one (f : Nat → Nat) (k : Nat) : orAll f [k] = f k := Nat.or_zero _
theorem fup_lt {n N : Nat} {f : Nat → Nat} {k v : Nat} (hf : ∀ s, s < n → f s < N) (hv : v < N) : ∀ s, s < n → fup f k v s < N := fun s hs => by
  unfold fup
  by_cases e : s = k
  · rw [if_pos e]; exact hv
  · rw [if_neg e]; exact hf s hs
theorem andn_lt {m a b : Nat} (h : a < 2 ^ m) : andn a b < 2 ^ m := by
  unfold andn
  exact xor_lt h (Nat.lt_of_le_of_lt Nat.and_le_left h)
/-! ### how many bits -/
def cnt : Nat → Nat → Nat
  | 0, _ => 0
  | n + 1, c => cnt n c + if c.testBit n = true then 1 else 0
theorem cnt_le : ∀ (n c : Nat), cnt n c ≤ n
  | 0, _ => Nat.le_refl _
  | n + 1, c => by
    have := cnt_le n c
    unfold cnt
    split <;> omega
theorem cnt_mono {a b : Nat} (h : ∀ i, a.testBit i = true → b.testBit i = true) : ∀ n, cnt n a ≤ cnt n b
  | 0 => Nat.le_refl _
  | n + 1 => by
    have := cnt_mono h n
    unfold cnt
    by_cases q : a.testBit n = true
    · rw [if_pos q, if_pos (h n q)]; omega
    · rw [if_neg q]; split <;> omega
theorem cnt_lt {a b : Nat} (h : ∀ i, a.testBit i = true → b.testBit i = true) {k : Nat} (ka : a.testBit k = false) (kb : b.testBit k = true) : ∀ n, k < n → cnt n a < cnt n b
  | 0, hk => by omega
  | n + 1, hk => by
    unfold cnt
    by_cases e : k = n
    · subst e
      have := cnt_mono h k
      rw [if_neg (by rw [ka]; exact Bool.false_ne_true), if_pos kb]; omega
    · have := cnt_lt h ka kb n (by omega)
      by_cases q : a.testBit n = true
      · rw [if_pos q, if_pos (h n q)]; omega
      · rw [if_neg q]; split <;> omega
theorem cnt_grow {n a b : Nat} (hb : b < 2 ^ n) (h : ∀ i, a.testBit i = true → b.testBit i = true) (ne : b ≠ a) : cnt n a < cnt n b := by
  have : ∃ k, a.testBit k = false ∧ b.testBit k = true := Classical.byContradiction fun hn => ne (Nat.eq_of_testBit_eq fun i => by
    cases ea : a.testBit i with
    | true => exact h i ea
    | false =>
      cases eb : b.testBit i with
      | false => rfl
      | true => exact absurd ⟨i, ea, eb⟩ hn)
  obtain ⟨k, k1, k2⟩ := this
  exact cnt_lt h k1 k2 n (tb_lt hb k2)
/-! ### the flood, layer by layer -/
/-- a crowd and all to which a step leads from it -/
def nxt (n : Nat) (f : Nat → Nat) (c : Nat) : Nat := c ||| orAll f (bitsL n c)
theorem nxt_lt {n N : Nat} {f : Nat → Nat} (hf : ∀ s, s < n → f s < 2 ^ N) {c : Nat} (hc : c < 2 ^ N) : nxt n f c < 2 ^ N := Nat.or_lt_two_pow hc (orAll_lt fun x hx => hf x (mem_bitsL.mp hx).1)
theorem nxt_sub (n : Nat) (f : Nat → Nat) (c i : Nat) (h : c.testBit i = true) : (nxt n f c).testBit i = true := by
  unfold nxt
  rw [Nat.testBit_or, h]; rfl
def layF (n : Nat) (f : Nat → Nat) : Nat → Nat → List Nat
  | 0, c => [c]
  | k + 1, c => if nxt n f c = c then [c] else c :: layF n f k (nxt n f c)
/-- layers -/
def Lay (n : Nat) (f : Nat → Nat) : List Nat → Prop
  | [] => False
  | [c] => nxt n f c = c
  | c :: d :: l => d = nxt n f c ∧ d ≠ c ∧ Lay n f (d :: l)
theorem layF_head (n : Nat) (f : Nat → Nat) (k c : Nat) : ∃ l, layF n f k c = c :: l := by
  cases k with
  | zero => exact ⟨[], rfl⟩
  | succ k =>
    unfold layF
    split
    · exact ⟨[], rfl⟩
    · exact ⟨_, rfl⟩
theorem layF_lay {n : Nat} {f : Nat → Nat} (hf : ∀ s, s < n → f s < 2 ^ n) : ∀ (k c : Nat), c < 2 ^ n → n < cnt n c + k → Lay n f (layF n f k c)
  | 0, c, _, hk => by have := cnt_le n c; omega
  | k + 1, c, hc, hk => by
    unfold layF
    by_cases e : nxt n f c = c
    · rw [if_pos e]; exact e
    · rw [if_neg e]
      have hl := nxt_lt hf hc
      have g := cnt_grow hl (nxt_sub n f c) e
      obtain ⟨l, el⟩ := layF_head n f k (nxt n f c)
      have ih := layF_lay hf k (nxt n f c) hl (by omega)
      rw [el] at ih ⊢
      exact ⟨rfl, e, ih⟩
theorem layF_lt {n : Nat} {f : Nat → Nat} (hf : ∀ s, s < n → f s < 2 ^ n) : ∀ (k c : Nat), c < 2 ^ n → ∀ x ∈ layF n f k c, x < 2 ^ n
  | 0, c, hc, x, hx => by rw [List.mem_singleton.mp hx]; exact hc
  | k + 1, c, hc, x, hx => by
    unfold layF at hx
    split at hx
    · rw [List.mem_singleton.mp hx]; exact hc
    · rcases List.mem_cons.mp hx with rfl | hx
      · exact hc
      · exact layF_lt hf k _ (nxt_lt hf hc) x hx
theorem layF_len (n : Nat) (f : Nat → Nat) : ∀ (k c : Nat), (layF n f k c).length ≤ k + 1
  | 0, c => Nat.le_refl _
  | k + 1, c => by
    have := layF_len n f k (nxt n f c)
    unfold layF
    split
    · show 1 ≤ _; omega
    · rw [List.length_cons]; omega
theorem Lay.at {n : Nat} {f : Nat → Nat} : ∀ {L : List Nat}, Lay n f L → ∀ k, (h : k + 1 < L.length) → L[k + 1] = nxt n f L[k] ∧ L[k + 1] ≠ L[k]
  | [], h, _, _ => h.elim
  | [c], _, k, h => by simp at h
  | c :: d :: l, h, 0, _ => ⟨h.1, h.2.1⟩
  | c :: d :: l, h, k + 1, hk => Lay.at (L := d :: l) h.2.2 k (by simpa using hk)
theorem Lay.last {n : Nat} {f : Nat → Nat} : ∀ {L : List Nat}, Lay n f L → (hn : L ≠ []) → nxt n f (L.getLast hn) = L.getLast hn
  | [], h, _ => h.elim
  | [c], h, _ => h
  | c :: d :: l, h, _ => by
    rw [List.getLast_cons_cons]
    exact Lay.last (L := d :: l) h.2.2 _
theorem zL_tab (ws : List Nat) : zL ws = tab ws.length fun i => ws.getD i 0 := by
  apply List.ext_getElem?
  intro i
  by_cases hi : i < ws.length
  · have g : ws.getD i 0 = ws[i] := by rw [List.getD_eq_getElem?_getD, List.getElem?_eq_getElem hi]; rfl
    rw [tab_get hi, g]
    unfold zL
    rw [List.getElem?_map, List.getElem?_eq_getElem hi]; rfl
  · rw [List.getElem?_eq_none (by rw [zL_len]; omega), List.getElem?_eq_none (by rw [tab_len]; omega)]
theorem tab_of {xs : List Int} {n N : Nat} (hl : xs.length = n) (h : ∀ x ∈ xs, ∃ k : Nat, k < N ∧ x = (k : Int)) : ∃ f : Nat → Nat, (∀ s, s < n → f s < N) ∧ xs = tab n f := by
  obtain ⟨ws, h1, rfl⟩ := zL_of h
  rw [zL_len] at hl
  subst hl
  refine ⟨fun i => ws.getD i 0, fun s hs => ?_, zL_tab ws⟩
  show ws.getD s 0 < N
  rw [List.getD_eq_getElem?_getD, List.getElem?_eq_getElem hs]
  exact h1 _ (List.getElem_mem hs)
/-! ### ranges with a step -/
theorem rsize_le {i j c : Int} (h : 0 < c) : Builtin.Range.rangeSize i j c ≤ (if i < j then j - i else 0) := by
  unfold Builtin.Range.rangeSize
  rw [if_pos h]
  split
  · have : (j - i - 1) / c ≤ j - i - 1 := Int.ediv_le_self _ (by omega)
    omega
  · omega
theorem gR3_of {i j c : Int} (h1 : 0 ≤ i) (h2 : i ≤ 1000000) (h3 : 0 ≤ j) (h4 : j ≤ 1000000) (h5 : 0 < c) (h6 : c ≤ 1000000) : gR3 i j c := by
  refine ⟨h5, by omega, ?_⟩
  have a := rsize_nn (i := i) (j := j) h5
  have b := rsize_le (i := i) (j := j) h5
  unfold Builtin.Range.small
  obtain ⟨n, hn⟩ : ∃ n, n = Builtin.Range.rangeSize i j c := ⟨_, rfl⟩
  rw [← hn] at a b ⊢
  have hb : n ≤ 1000000 := by split at b <;> omega
  rw [if_pos (show c > 0 from h5)]
  simp only [Builtin.Range.rangeFitsLong, Bool.and_eq_true, Bool.or_eq_true, decide_eq_true_eq, beq_iff_eq]
  exact ⟨by omega, .inr (by omega)⟩
theorem mem_rangeS {i j c x : Int} (hc : 0 < c) (h : x ∈ rangeS i j c) : i ≤ x ∧ x < j := by
  unfold rangeS at h
  rw [List.mem_map] at h
  obtain ⟨k, hk, rfl⟩ := h
  rw [List.mem_range] at hk
  have h0 := Int.mul_nonneg (show (0 : Int) ≤ (k : Int) by omega) (show (0 : Int) ≤ c by omega)
  refine ⟨by omega, ?_⟩
  unfold Builtin.Range.rangeSize at hk
  rw [if_pos hc] at hk
  split at hk
  · have h1 : (k : Int) ≤ (j - i - 1) / c := by omega
    have h2 := (Int.le_ediv_iff_mul_le hc).mp h1
    omega
  · simp at hk
/-! ### floods by steps -/
theorem nodup_len : ∀ (n : Nat) (Q : List Nat), Q.Nodup → (∀ x ∈ Q, x < n) → Q.length ≤ n
  | 0, Q, _, h => by
    cases Q with
    | nil => exact Nat.le_refl _
    | cons x xs => exact absurd (h x List.mem_cons_self) (by omega)
  | n + 1, Q, hd, h => by
    have h2 := nodup_len n (Q.erase n) (hd.erase n) fun x hx => by
      have := (hd.mem_erase_iff).mp hx
      have := h x this.2
      omega
    have : Q.length ≤ (Q.erase n).length + 1 := by
      rw [List.length_erase]
      split <;> omega
    omega
def itN (n : Nat) (f : Nat → Nat) (st : Nat) : Nat → Nat
  | 0 => st
  | k + 1 => nxt n f (itN n f st k)
theorem itN_lt {n : Nat} {f : Nat → Nat} (hf : ∀ s, s < n → f s < 2 ^ n) {st : Nat} (h : st < 2 ^ n) : ∀ k, itN n f st k < 2 ^ n
  | 0 => h
  | k + 1 => nxt_lt hf (itN_lt hf h k)
theorem itN_sub {n : Nat} {f : Nat → Nat} {st : Nat} {t : Nat} : ∀ {j k : Nat}, j ≤ k → (itN n f st j).testBit t = true → (itN n f st k).testBit t = true := by
  intro j k h ht
  induction k with
  | zero => rw [show j = 0 by omega] at ht; exact ht
  | succ k ih =>
    by_cases e : j = k + 1
    · rw [← e]; exact ht
    · exact nxt_sub _ _ _ _ (ih (by omega))
theorem nxt_iff {n : Nat} {f : Nat → Nat} {c t : Nat} : (nxt n f c).testBit t = true ↔ c.testBit t = true ∨ ∃ u, u < n ∧ c.testBit u = true ∧ (f u).testBit t = true := by
  unfold nxt
  rw [Nat.testBit_or, testBit_orAll, Bool.or_eq_true, List.any_eq_true]
  constructor
  · intro h
    rcases h with h | ⟨u, h1, h2⟩
    · exact .inl h
    · obtain ⟨a, b⟩ := mem_bitsL.mp h1
      exact .inr ⟨u, a, b, h2⟩
  · intro h
    rcases h with h | ⟨u, h1, h2, h3⟩
    · exact .inl h
    · exact .inr ⟨u, mem_bitsL.mpr ⟨h1, h2⟩, h3⟩
theorem Lay.it {n : Nat} {f : Nat → Nat} {st : Nat} {L : List Nat} (h : Lay n f L) (h0 : ∃ l, L = st :: l) : ∀ i, (hi : i < L.length) → L[i] = itN n f st i
  | 0, hi => by obtain ⟨l, rfl⟩ := h0; rfl
  | i + 1, hi => by
    rw [(h.at i hi).1, Lay.it h h0 i (by omega)]; rfl
theorem Lay.end {n : Nat} {f : Nat → Nat} {st : Nat} {L : List Nat} (h : Lay n f L) (h0 : ∃ l, L = st :: l) (hne : L ≠ []) : ∀ k, L.length ≤ k + 1 → itN n f st k = L.getLast hne := by
  intro k
  induction k with
  | zero =>
    intro hk
    obtain ⟨l, rfl⟩ := h0
    have : l = [] := by
      cases l with
      | nil => rfl
      | cons a b => simp at hk
    subst this; rfl
  | succ k ih =>
    intro hk
    by_cases e : L.length ≤ k + 1
    · show nxt n f (itN n f st k) = _
      rw [ih e]; exact h.last hne
    · have e2 : L.length = k + 2 := by omega
      rw [List.getLast_eq_getElem, ← Lay.it h h0 (k + 1) (by omega)]
      congr 1
      omega
end B

namespace B
open PySem Z
/-! ### what an answer is wanted for, from the front -/
section
variable {α β σ ρ : Type} {A : β → Prop}
theorem W.bind {m : Option α} {k : α → Option β} {P : α → Prop} (h : OP m P) (hk : ∀ x, P x → OP (k x) A) : OP (m.bind k) A := by
  obtain ⟨x, rfl, hx⟩ := OP.get h
  exact hk x hx
theorem W.eq {m : Option α} {a : α} {k : α → Option β} (h : m = some a) (hk : OP (k a) A) : OP (m.bind k) A := by rw [h]; exact hk
theorem W.grd {c : Prop} {_ : Decidable c} {k : Option β} (h : c) (hk : OP k A) : OP (Z.grd c k) A := by rw [grd_of h]; exact hk
theorem W.lt {e : α} {k : α → Option β} (hk : OP (k e) A) : OP (Z.lt e k) A := hk
theorem W.ltx {e : α} {k : α → Option β} (hk : ∀ x, x = e → OP (k x) A) : OP (Z.lt e k) A := hk e rfl
theorem W.ite {c : Bool} {m n : Option β} (h1 : c = true → OP m A) (h2 : c = false → OP n A) : OP (ifo c m n) A := by
  cases c with
  | true => rw [ifo_t rfl]; exact h1 rfl
  | false => rw [ifo_f rfl]; exact h2 rfl
theorem W.t {c : Bool} {m n : Option β} (hc : c = true) (h : OP m A) : OP (ifo c m n) A := by rw [ifo_t hc]; exact h
theorem W.f {c : Bool} {m n : Option β} (hc : c = false) (h : OP n A) : OP (ifo c m n) A := by rw [ifo_f hc]; exact h
theorem W.ret {a : β} (h : A a) : OP (some a) A := h
theorem W.as {m : Option β} {P : β → Prop} (h : OP m P) (hk : ∀ x, P x → A x) : OP m A := h.mono hk
theorem W.got {m : Option β} {a : β} (h : OP m (· = a)) : m = some a := by
  obtain ⟨x, rfl, e⟩ := OP.get h
  rw [e]
theorem W.of {m : Option β} {a : β} (e : m = some a) (h : A a) : OP m A := OP.mk e h
theorem W.brk {m : Option (σ ⊕ β)} {k : σ → Option β} {P : σ → Prop} (h : OP m (SE P A)) (hk : ∀ s, P s → OP (k s) A) : OP (Z.brk m k) A := by
  obtain ⟨x, rfl, hx⟩ := OP.get h
  cases x with
  | inl s => exact hk s hx
  | inr v => exact hx
/-! loops -/
theorem W.for_inv {body : α → σ → Option σ} (I : σ → Prop) : ∀ {xs : List α} {s : σ}, I s → (∀ x ∈ xs, ∀ s, I s → OP (body x s) I) → OP (forO body xs s) I
  | [], s, h, _ => by rw [forO_nil]; exact h
  | x :: xs, s, h, hs => by
    rw [forO_cons]
    exact W.bind (hs x List.mem_cons_self s h) fun s' h' => W.for_inv I h' fun y hy => hs y (List.mem_cons_of_mem _ hy)
theorem W.for_pre {body : α → σ → Option σ} (I : List α → σ → Prop) {xs : List α} {s : σ} (h : I [] s) (hs : ∀ pre x suf s, xs = pre ++ x :: suf → I pre s → OP (body x s) (I (pre ++ [x]))) : OP (forO body xs s) (I xs) := by
  have key : ∀ (suf pre : List α) (s : σ), xs = pre ++ suf → I pre s → OP (forO body suf s) (I xs) := by
    intro suf
    induction suf with
    | nil => intro pre s e h; rw [forO_nil]; rw [e, List.append_nil]; exact h
    | cons x suf ih =>
      intro pre s e h
      rw [forO_cons]
      exact W.bind (hs pre x suf s e h) fun s' h' => ih (pre ++ [x]) s' (by rw [List.append_assoc]; exact e) h'
  exact key xs [] s rfl h
theorem W.for_rng {body : Int → σ → Option σ} (I : Nat → σ → Prop) : ∀ {n a : Nat} {s : σ}, I a s → (∀ i s, a ≤ i → i < a + n → I i s → OP (body (i : Int) s) (I (i + 1))) → OP (forO body (rangeI (a : Int) n) s) (I (a + n))
  | 0, a, s, h, _ => by rw [rangeI_zero, forO_nil]; exact h
  | n + 1, a, s, h, hs => by
    rw [rangeI_succ, forO_cons]
    refine W.bind (hs a s (Nat.le_refl _) (by omega) h) fun s' h' => ?_
    have := W.for_rng (body := body) I (n := n) (a := a + 1) h' fun i s h1 h2 => hs i s (by omega) (by omega)
    rw [show ((a : Int) + 1) = ((a + 1 : Nat) : Int) by omega, show a + (n + 1) = a + 1 + n by omega]
    exact this
theorem W.for_r {body : Int → σ → Option σ} (I : Nat → σ → Prop) {n : Nat} {s : σ} (h : I 0 s) (hs : ∀ i s, i < n → I i s → OP (body (i : Int) s) (I (i + 1))) : OP (forO body (rangeI 0 n) s) (I n) := by
  have := W.for_rng (body := body) I (n := n) (a := 0) h fun i s _ h2 => hs i s (by omega)
  rw [Nat.zero_add] at this
  exact this
theorem W.for_tab {body : Int → σ → Option σ} {f : Nat → Nat} (I : Nat → σ → Prop) {n : Nat} {s : σ} (h : I 0 s) (hs : ∀ i s, i < n → I i s → OP (body ((f i : Nat) : Int) s) (I (i + 1))) : OP (forO body (tab n f) s) (I n) := by
  obtain ⟨s', e, h'⟩ := forO_map (g := fun i => ((f i : Nat) : Int)) I n s h fun i s hi hI => by
    obtain ⟨x, e, hx⟩ := OP.get (hs i s hi hI)
    exact ⟨x, e, hx⟩
  exact OP.mk e h'
theorem W.for_map {body : α → σ → Option σ} {g : Nat → α} (I : Nat → σ → Prop) {n : Nat} {s : σ} (h : I 0 s) (hs : ∀ i s, i < n → I i s → OP (body (g i) s) (I (i + 1))) : OP (forO body ((List.range n).map g) s) (I n) := by
  obtain ⟨s', e, h'⟩ := forO_map (g := g) I n s h fun i s hi hI => by
    obtain ⟨x, e, hx⟩ := OP.get (hs i s hi hI)
    exact ⟨x, e, hx⟩
  exact OP.mk e h'
theorem W.forR_inv {body : α → σ → Option (σ ⊕ ρ)} (I : σ → Prop) (V : ρ → Prop) : ∀ {xs : List α} {s : σ}, I s → (∀ x ∈ xs, ∀ s, I s → OP (body x s) (SE I V)) → OP (forR body xs s) (SE I V)
  | [], s, h, _ => by rw [forR_nil]; exact h
  | x :: xs, s, h, hs => by
    rw [forR_cons]
    refine W.bind (hs x List.mem_cons_self s h) fun r hr => ?_
    cases r with
    | inl s' => exact W.forR_inv I V hr fun y hy => hs y (List.mem_cons_of_mem _ hy)
    | inr v => exact hr
theorem W.forR_pre {body : α → σ → Option (σ ⊕ ρ)} (I : List α → σ → Prop) (V : ρ → Prop) {xs : List α} {s : σ} (h : I [] s) (hs : ∀ pre x suf s, xs = pre ++ x :: suf → I pre s → OP (body x s) (SE (I (pre ++ [x])) V)) : OP (forR body xs s) (SE (I xs) V) := by
  have key : ∀ (suf pre : List α) (s : σ), xs = pre ++ suf → I pre s → OP (forR body suf s) (SE (I xs) V) := by
    intro suf
    induction suf with
    | nil => intro pre s e h; rw [forR_nil]; rw [e, List.append_nil]; exact h
    | cons x suf ih =>
      intro pre s e h
      rw [forR_cons]
      refine W.bind (hs pre x suf s e h) fun r hr => ?_
      cases r with
      | inl s' => exact ih (pre ++ [x]) s' (by rw [List.append_assoc]; exact e) hr
      | inr v => exact hr
  exact key xs [] s rfl h
theorem W.forR_rng {body : Int → σ → Option (σ ⊕ ρ)} (I : Nat → σ → Prop) (V : ρ → Prop) : ∀ {n a : Nat} {s : σ}, I a s → (∀ i s, a ≤ i → i < a + n → I i s → OP (body (i : Int) s) (SE (I (i + 1)) V)) → OP (forR body (rangeI (a : Int) n) s) (SE (I (a + n)) V)
  | 0, a, s, h, _ => by rw [rangeI_zero, forR_nil]; exact h
  | n + 1, a, s, h, hs => by
    rw [rangeI_succ, forR_cons]
    refine W.bind (hs a s (Nat.le_refl _) (by omega) h) fun r hr => ?_
    cases r with
    | inl s' =>
      have := W.forR_rng (body := body) I V (n := n) (a := a + 1) hr fun i s h1 h2 => hs i s (by omega) (by omega)
      rw [show ((a : Int) + 1) = ((a + 1 : Nat) : Int) by omega, show a + (n + 1) = a + 1 + n by omega]
      exact this
    | inr v => exact hr
theorem W.forR_r {body : Int → σ → Option (σ ⊕ ρ)} (I : Nat → σ → Prop) (V : ρ → Prop) {n : Nat} {s : σ} (h : I 0 s) (hs : ∀ i s, i < n → I i s → OP (body (i : Int) s) (SE (I (i + 1)) V)) : OP (forR body (rangeI 0 n) s) (SE (I n) V) := by
  have := W.forR_rng (body := body) I V (n := n) (a := 0) h fun i s _ h2 => hs i s (by omega)
  rw [Nat.zero_add] at this
  exact this
theorem W.forR_map {body : α → σ → Option (σ ⊕ ρ)} {g : Nat → α} (I : Nat → σ → Prop) (V : ρ → Prop) {n : Nat} {s : σ} (h : I 0 s) (hs : ∀ i s, i < n → I i s → OP (body (g i) s) (SE (I (i + 1)) V)) : OP (forR body ((List.range n).map g) s) (SE (I n) V) := by
  have key : ∀ (n a : Nat) (s : σ), I a s → (∀ i s, a ≤ i → i < a + n → I i s → OP (body (g i) s) (SE (I (i + 1)) V)) → OP (forR body ((List.range' a n).map g) s) (SE (I (a + n)) V) := by
    intro n
    induction n with
    | zero => intro a s h _; rw [List.range'_zero, List.map_nil, forR_nil]; exact h
    | succ n ih =>
      intro a s h hs
      rw [List.range'_succ, List.map_cons, forR_cons]
      refine W.bind (hs a s (Nat.le_refl _) (by omega) h) fun r hr => ?_
      cases r with
      | inl s' =>
        have := ih (a + 1) s' hr fun i s h1 h2 => hs i s (by omega) (by omega)
        rw [show a + (n + 1) = a + 1 + n by omega]
        exact this
      | inr v => exact hr
  have := key n 0 s h fun i s _ h2 => hs i s (by omega)
  rw [Nat.zero_add] at this
  rw [List.range_eq_range']
  exact this
/-- a while, by a measure -/
theorem W.while' {c : σ → Option Bool} {body : σ → Option σ} (I : σ → Prop) (μ : σ → Nat) (P : σ → Prop) : ∀ {fuel : Nat} {s : σ}, I s → μ s < fuel → (∀ s, I s → OP (c s) fun b => (b = true → OP (body s) fun s' => I s' ∧ μ s' < μ s) ∧ (b = false → P s)) → OP (whileO c body fuel s) P
  | 0, s, _, hm, _ => by omega
  | f + 1, s, h, hm, hs => by
    rw [whileO_succ]
    refine W.bind (hs s h) fun b hb => ?_
    cases b with
    | true =>
      rw [if_pos rfl]
      exact W.bind (hb.1 rfl) fun s' h' => W.while' I μ P h'.1 (by omega) hs
    | false =>
      rw [if_neg Bool.false_ne_true]
      exact hb.2 rfl
theorem W.whileR' {c : σ → Option Bool} {body : σ → Option (σ ⊕ ρ)} (I : σ → Prop) (μ : σ → Nat) (P : σ → Prop) (V : ρ → Prop) : ∀ {fuel : Nat} {s : σ}, I s → μ s < fuel → (∀ s, I s → OP (c s) fun b => (b = true → OP (body s) (SE (fun s' => I s' ∧ μ s' < μ s) V)) ∧ (b = false → P s)) → OP (whileR c body fuel s) (SE P V)
  | 0, s, _, hm, _ => by omega
  | f + 1, s, h, hm, hs => by
    rw [whileR_succ]
    refine W.bind (hs s h) fun b hb => ?_
    cases b with
    | true =>
      rw [if_pos rfl]
      refine W.bind (hb.1 rfl) fun r hr => ?_
      cases r with
      | inl s' => exact W.whileR' I μ P V hr.1 (by have := hr.2; omega) hs
      | inr v => exact hr
    | false =>
      rw [if_neg Bool.false_ne_true]
      exact hb.2 rfl
theorem W.while {c : σ → Option Bool} {body : σ → Option σ} (I : σ → Prop) (μ : σ → Nat) (P : σ → Prop) {s : σ} (h : I s) (hm : μ s < 1000000) (hs : ∀ s, I s → OP (c s) fun b => (b = true → OP (body s) fun s' => I s' ∧ μ s' < μ s) ∧ (b = false → P s)) : OP (whileO c body bigN s) P := W.while' I μ P h (by rw [bigN_eq']; exact hm) hs
theorem W.whileR {c : σ → Option Bool} {body : σ → Option (σ ⊕ ρ)} (I : σ → Prop) (μ : σ → Nat) (P : σ → Prop) (V : ρ → Prop) {s : σ} (h : I s) (hm : μ s < 1000000) (hs : ∀ s, I s → OP (c s) fun b => (b = true → OP (body s) (SE (fun s' => I s' ∧ μ s' < μ s) V)) ∧ (b = false → P s)) : OP (whileR c body bigN s) (SE P V) := W.whileR' I μ P V h (by rw [bigN_eq']; exact hm) hs
/-- a comprehension -/
theorem W.comp [Inhabited β] {f : α → Option (Option β)} {xs : List α} (P : α → β → Prop) (hl : xs.length ≤ 16777216) (h : ∀ x ∈ xs, OP (f x) fun r => ∃ y, r = some y ∧ P x y) : OP (compO f xs) fun ys => ∃ g : α → β, ys = xs.map g ∧ ∀ x ∈ xs, P x (g x) := by
  have : ∀ x : α, ∃ y : β, x ∈ xs → f x = some (some y) ∧ P x y := fun x => by
    by_cases hx : x ∈ xs
    · obtain ⟨r, e, y, rfl, hy⟩ := OP.get (h x hx)
      exact ⟨y, fun _ => ⟨e, hy⟩⟩
    · exact ⟨default, fun q => absurd q hx⟩
  obtain ⟨g, hg⟩ := Classical.axiomOfChoice this
  exact OP.mk (comp_map (g := g) hl fun x hx => (hg x hx).1) ⟨g, rfl, fun x hx => (hg x hx).2⟩
end
theorem comp_map2 {α β γ : Type} {xs : List γ} {h : γ → α} {f : α → Option (Option β)} {g : γ → β} (hl : xs.length ≤ 16777216) (hf : ∀ x ∈ xs, f (h x) = some (some (g x))) : compO f (xs.map h) = some (xs.map g) := by
  have key : ∀ ys : List γ, (∀ x ∈ ys, f (h x) = some (some (g x))) → compO' f (ys.map h) = some (ys.map g) := by
    intro ys
    induction ys with
    | nil => intro _; rfl
    | cons y ys ih =>
      intro hy
      rw [List.map_cons, List.map_cons]
      unfold compO'
      rw [hy y List.mem_cons_self, ih fun z hz => hy z (List.mem_cons_of_mem _ hz)]
      rfl
  unfold compO
  rw [if_pos (by rw [List.length_map]; exact hl)]
  exact key xs hf
theorem mask_eq' {n : Nat} {p : Nat → Bool} {x : Nat} (hx : x < 2 ^ n) (h : ∀ i, i < n → x.testBit i = p i) : mask n p = x := (mask_ext hx h).symm
/-! ### whole numbers within bounds -/
def In (x N : Int) : Prop := 0 ≤ x ∧ x < N
theorem In.nat {x : Int} {N : Nat} (h : In x (N : Int)) : ∃ k : Nat, k < N ∧ x = (k : Int) := ⟨x.toNat, by have := h.1; have := h.2; omega, by have := h.1; omega⟩
theorem In.of {k N : Nat} (h : k < N) : In (k : Int) (N : Int) := ⟨by omega, by omega⟩
theorem In.zero {N : Nat} (h : 0 < N) : In 0 (N : Int) := ⟨by omega, by omega⟩
theorem In.emod {v : Int} {N : Nat} (h : 0 < N) : In (v % (N : Int)) (N : Int) := ⟨Int.emod_nonneg v (by omega), Int.emod_lt_of_pos v (by omega)⟩
theorem In.emod' {v N : Int} (h : 0 < N) : In (v % N) N := ⟨Int.emod_nonneg v (by omega), Int.emod_lt_of_pos v (by omega)⟩
theorem In.shl1 {k : Int} {n : Nat} (h : In k (n : Int)) : In (shl 1 k) ((2 ^ n : Nat) : Int) := by
  obtain ⟨j, hj, rfl⟩ := h.nat
  rw [shl1_nat]
  exact In.of (pow_lt2 hj)
theorem In.bor {a b : Int} {n : Nat} (ha : In a ((2 ^ n : Nat) : Int)) (hb : In b ((2 ^ n : Nat) : Int)) : In (bor a b) ((2 ^ n : Nat) : Int) := by
  obtain ⟨j, hj, rfl⟩ := ha.nat
  obtain ⟨k, hk, rfl⟩ := hb.nat
  rw [bor_nat]
  exact In.of (Nat.or_lt_two_pow hj hk)
theorem In.bxor {a b : Int} {n : Nat} (ha : In a ((2 ^ n : Nat) : Int)) (hb : In b ((2 ^ n : Nat) : Int)) : In (bxor a b) ((2 ^ n : Nat) : Int) := by
  obtain ⟨j, hj, rfl⟩ := ha.nat
  obtain ⟨k, hk, rfl⟩ := hb.nat
  rw [bxor_nat]
  exact In.of (xor_lt hj hk)
theorem In.band {a b M N : Int} (ha : In a N) (hb : In b M) : In (band a b) N := by
  obtain ⟨j, rfl⟩ : ∃ j : Nat, a = (j : Int) := ⟨a.toNat, by have := ha.1; omega⟩
  obtain ⟨k, rfl⟩ : ∃ k : Nat, b = (k : Int) := ⟨b.toNat, by have := hb.1; omega⟩
  rw [band_nat]
  have : j &&& k ≤ j := Nat.and_le_left
  exact ⟨by omega, by have := ha.2; omega⟩
theorem In.bandn {a b M N : Int} (ha : In a N) (hb : In b M) : In (Z.band a (bnot b)) N := by
  obtain ⟨j, rfl⟩ : ∃ j : Nat, a = (j : Int) := ⟨a.toNat, by have := ha.1; omega⟩
  obtain ⟨k, rfl⟩ : ∃ k : Nat, b = (k : Int) := ⟨b.toNat, by have := hb.1; omega⟩
  rw [bandn_nat]
  have : andn j k ≤ j := by
    have h1 := nat_xor_and j (j &&& k)
    have h2 : j &&& (j &&& k) = j &&& k := by rw [← Nat.and_assoc, Nat.and_self]
    rw [h2] at h1
    have h3 : j &&& k ≤ j := Nat.and_le_left
    unfold andn
    omega
  exact ⟨by omega, by have := ha.2; omega⟩
theorem In.compl {a : Int} {n : Nat} (ha : In a ((2 ^ n : Nat) : Int)) : In (((2 ^ n : Nat) : Int) - 1 - a) ((2 ^ n : Nat) : Int) := ⟨by have := ha.2; omega, by have := ha.1; omega⟩
theorem In.full (n : Nat) : In (((2 ^ n : Nat) : Int) - 1) ((2 ^ n : Nat) : Int) := ⟨by have := Nat.two_pow_pos n; omega, by omega⟩
theorem In.tail {k : Int} {n : Nat} (h : In k (n : Int)) : In (((2 ^ n : Nat) : Int) - shl 1 k) ((2 ^ n : Nat) : Int) := by
  obtain ⟨j, hj, rfl⟩ := h.nat
  rw [shl1_nat]
  have := pow_lt2 hj
  have := Nat.two_pow_pos j
  exact ⟨by omega, by omega⟩
theorem In.le {x M N : Int} (h : In x M) (hl : M ≤ N) : In x N := ⟨h.1, by have := h.2; omega⟩
theorem gPow1I {x N : Int} (h : In x N) (hN : N ≤ 1000001) : gPow 1 x := ⟨h.1, by have := h.2; omega, by decide⟩
theorem gR_I {x N : Int} (h : In x N) (hN : N ≤ 2 ^ 62) : gR x := ⟨by have := h.1; omega, by have := h.2; omega⟩
end B

namespace B
open PySem Z
/-! ### tables of crowds, and steps that go by themselves -/
def Tb (m : Nat) (x : List Int) : Prop := ∃ f, x = tab (2 ^ m) f ∧ ∀ s, s < 2 ^ m → f s < 2 ^ 2 ^ m
theorem Tb.zero (m : Nat) : Tb m (tab (2 ^ m) fun _ => 0) := ⟨_, rfl, fun _ _ => Nat.two_pow_pos _⟩
theorem Tb.get {m : Nat} {x : List Int} {i : Int} (h : Tb m x) (hi : In i ((2 ^ m : Nat) : Int)) : ∃ v, L2.atI x i = some v ∧ In v ((2 ^ 2 ^ m : Nat) : Int) := by
  obtain ⟨f, rfl, hf⟩ := h
  obtain ⟨k, hk, rfl⟩ := hi.nat
  exact ⟨_, atI_tab hk, In.of (hf k hk)⟩
theorem Tb.set {m : Nat} {x : List Int} {i v : Int} (h : Tb m x) (hi : In i ((2 ^ m : Nat) : Int)) (hv : In v ((2 ^ 2 ^ m : Nat) : Int)) : ∃ y, setI x i v = some y ∧ Tb m y := by
  obtain ⟨f, rfl, hf⟩ := h
  obtain ⟨k, hk, rfl⟩ := hi.nat
  obtain ⟨c, hc, rfl⟩ := hv.nat
  exact ⟨_, setI_tab hk, _, rfl, fup_lt hf hc⟩
theorem Tb.len {m : Nat} {x : List Int} (h : Tb m x) : x.length = 2 ^ m := by obtain ⟨f, rfl, _⟩ := h; exact tab_len _ _
section
variable {β : Type} {A : β → Prop} {m : Nat} {x : List Int} {i v : Int}
theorem W.tget {k : Int → Option β} (h : Tb m x) (hi : In i ((2 ^ m : Nat) : Int)) (hk : ∀ v, In v ((2 ^ 2 ^ m : Nat) : Int) → OP (k v) A) : OP ((L2.atI x i).bind k) A := by
  obtain ⟨v, e, hv⟩ := h.get hi
  exact W.eq e (hk v hv)
theorem W.tset {k : List Int → Option β} (h : Tb m x) (hi : In i ((2 ^ m : Nat) : Int)) (hv : In v ((2 ^ 2 ^ m : Nat) : Int)) (hk : ∀ y, Tb m y → OP (k y) A) : OP ((setI x i v).bind k) A := by
  obtain ⟨y, e, hy⟩ := h.set hi hv
  exact W.eq e (hk y hy)
theorem W.some' {m : Option β} (h : OP m A) : OP (m.bind fun x => some x) A := W.bind h fun _ q => q
end
theorem gDivW2 {m : Nat} (hm : m ≤ 6) : gDivW ((2 ^ m : Nat) : Int) := gDivW_nat (Nat.two_pow_pos m) (by have := le64 hm; omega)
theorem pos2 (m : Nat) : (0 : Int) < ((2 ^ m : Nat) : Int) := by have := Nat.two_pow_pos m; omega
theorem gPow1_2 {m : Nat} (hm : m ≤ 6) : gPow 1 ((2 ^ m : Nat) : Int) := gPow1 (by have := le64 hm; omega)
theorem gR_2 {m : Nat} (hm : m ≤ 6) : gR ((2 ^ m : Nat) : Int) := gR_nat (by have := le64 hm; omega)
theorem In.band' {a b N : Int} (ha : In a N) (hb : 0 ≤ b) : In (Z.band a b) N := In.band (M := b + 1) ha ⟨hb, by omega⟩
theorem In.rest {a : Int} {m : Nat} {c : Nat} (h : In a ((2 ^ m : Nat) : Int)) (hc : c ≤ 64) (hm : 2 ^ m ≤ c) : In a (c : Int) := h.le (by omega)
theorem In.low {n : Nat} {v : Int} (h : 1 ≤ n) : In (v % 2) ((2 ^ n : Nat) : Int) := ⟨by omega, by have : 2 ^ 1 ≤ 2 ^ n := Nat.pow_le_pow_right (by decide) h; omega⟩
end B

local macro_rules
  | `(tactic| infer_instance) => `(tactic| first
    | assumption
    | exact B.In.zero (Nat.two_pow_pos _)
    | exact B.In.emod (Nat.two_pow_pos _)
    | exact B.In.emod' (B.pos2 _)
    | exact B.In.full _
    | (with_reducible apply B.In.of; assumption)
    | (with_reducible apply B.In.shl1; infer_instance)
    | (with_reducible apply B.In.bor <;> infer_instance)
    | (with_reducible apply B.In.bxor <;> infer_instance)
    | (with_reducible apply B.In.compl; infer_instance)
    | (with_reducible apply B.In.tail; infer_instance)
    | (with_reducible apply B.In.bandn <;> infer_instance)
    | (with_reducible apply B.In.band <;> infer_instance)
    | exact ⟨by omega, by omega⟩)
local macro_rules
  | `(tactic| contradiction) => `(tactic| first
    | with_reducible refine B.W.ite (fun _ => ?_) (fun _ => ?_)
    | with_reducible refine B.W.lt ?_
    | (with_reducible refine B.W.grd ?_ ?_
       · first
          | exact B.pos2 _
          | (with_reducible apply B.gDivW2; assumption)
          | (with_reducible apply B.gPow1_2; assumption)
          | (with_reducible apply B.gR_2; assumption)
          | (with_reducible apply B.gPow1I
             · infer_instance
             · omega)
          | (with_reducible apply B.gR_I
             · infer_instance
             · omega)
          | omega
          | exact ⟨by omega, by omega⟩)
    | (with_reducible apply B.W.tget
       · assumption
       · infer_instance
       intro _ _)
    | (with_reducible apply B.W.tset
       · assumption
       · infer_instance
       · infer_instance
       intro _ _)
    | (with_reducible refine B.W.ret ?_
       infer_instance))

namespace B
open PySem Z E L2
/-! ### formulas, in plain words -/
mutual
def dep : O_Formula → Nat
  | .Lamp _ => 0
  | .Sure _ => 0
  | .Not p => dep p + 1
  | .And ps => deps ps + 1
  | .Either ps => deps ps + 1
  | .Or ps => deps ps + 1
def deps : List O_Formula → Nat
  | [] => 0
  | p :: ps => max (dep p) (deps ps)
end
mutual
def ev : O_Formula → Nat → Bool
  | .Lamp a, s => s.testBit a.toNat
  | .Sure b, _ => b
  | .Not p, s => !ev p s
  | .And ps, s => evA ps s
  | .Either ps, s => evX ps s
  | .Or ps, s => evO ps s
def evA : List O_Formula → Nat → Bool
  | [], _ => true
  | p :: ps, s => ev p s && evA ps s
def evO : List O_Formula → Nat → Bool
  | [], _ => false
  | p :: ps, s => ev p s || evO ps s
def evX : List O_Formula → Nat → Bool
  | [], _ => false
  | p :: ps, s => xor (ev p s) (evX ps s)
end
mutual
/-- its lamps are below m -/
def okF (m : Nat) : O_Formula → Prop
  | .Lamp a => ∃ k : Nat, a = (k : Int) ∧ k < m
  | .Sure _ => True
  | .Not p => okF m p
  | .And ps => okFs m ps
  | .Either ps => okFs m ps
  | .Or ps => okFs m ps
def okFs (m : Nat) : List O_Formula → Prop
  | [] => True
  | p :: ps => okF m p ∧ okFs m ps
end
theorem evA_eq (s : Nat) : ∀ ps, evA ps s = ps.all fun p => ev p s
  | [] => by rw [evA]; rfl
  | p :: ps => by rw [evA, evA_eq s ps]; rfl
theorem evO_eq (s : Nat) : ∀ ps, evO ps s = ps.any fun p => ev p s
  | [] => by rw [evO]; rfl
  | p :: ps => by rw [evO, evO_eq s ps]; rfl
theorem okFs_iff {m : Nat} : ∀ {ps : List O_Formula}, okFs m ps ↔ ∀ p ∈ ps, okF m p
  | [] => by rw [okFs]; simp
  | p :: ps => by rw [okFs, okFs_iff]; simp
theorem deps_le {p : O_Formula} : ∀ {ps : List O_Formula}, p ∈ ps → dep p ≤ deps ps
  | [], h => by cases h
  | q :: ps, h => by
    rw [deps]
    rcases List.mem_cons.mp h with rfl | h
    · omega
    · have := deps_le h; omega
theorem deps_of {N : Nat} : ∀ {ps : List O_Formula}, (∀ p ∈ ps, dep p ≤ N) → deps ps ≤ N
  | [], _ => by rw [deps]; omega
  | q :: ps, h => by
    rw [deps]
    have h1 := h q List.mem_cons_self
    have h2 := deps_of fun p hp => h p (List.mem_cons_of_mem _ hp)
    omega
theorem okF.mono {m n : Nat} (h : m ≤ n) : ∀ {x : O_Formula}, okF m x → okF n x := by
  intro x
  have key : ∀ N x, dep x ≤ N → okF m x → okF n x := by
    intro N
    induction N with
    | zero =>
      intro x hd hx
      cases x with
      | Lamp a => rw [okF] at hx ⊢; obtain ⟨k, e, hk⟩ := hx; exact ⟨k, e, by omega⟩
      | Sure b => rw [okF]; trivial
      | Not p => rw [dep] at hd; omega
      | And ps => rw [dep] at hd; omega
      | Either ps => rw [dep] at hd; omega
      | Or ps => rw [dep] at hd; omega
    | succ N ih =>
      intro x hd hx
      cases x with
      | Lamp a => rw [okF] at hx ⊢; obtain ⟨k, e, hk⟩ := hx; exact ⟨k, e, by omega⟩
      | Sure b => rw [okF]; trivial
      | Not p => rw [dep] at hd; rw [okF] at hx ⊢; exact ih p (by omega) hx
      | And ps => rw [dep] at hd; rw [okF, okFs_iff] at hx ⊢; exact fun p hp => ih p (by have := deps_le hp; omega) (hx p hp)
      | Either ps => rw [dep] at hd; rw [okF, okFs_iff] at hx ⊢; exact fun p hp => ih p (by have := deps_le hp; omega) (hx p hp)
      | Or ps => rw [dep] at hd; rw [okF, okFs_iff] at hx ⊢; exact fun p hp => ih p (by have := deps_le hp; omega) (hx p hp)
  exact key (dep x) x (Nat.le_refl _)
end B

namespace B
open PySem Z E L2
theorem holds_fuel (m : Nat) : ∀ (n : Nat) (x : O_Formula) (s : Nat), dep x < n → okF m x → mf_D_Formula_holds n x (s : Int) = some (ev x s) := by
  intro n
  induction n with
  | zero => intro x s h; omega
  | succ n ih =>
    intro x s hd hx
    show mb_D_Formula_holds (mf_D_Formula_holds n) x (s : Int) = _
    cases x with
    | Lamp a =>
      rw [okF] at hx
      obtain ⟨k, rfl, hk⟩ := hx
      show m_Lamp_holds (.Lamp (k : Int)) (s : Int) = _
      unfold m_Lamp_holds
      have e : gf_Formula_at (.Lamp (k : Int)) = some (k : Int) := rfl
      rw [bind_eq e, grd_of (by omega), asks1, ev]; rfl
    | Sure b =>
      show m_Sure_holds (.Sure b) (s : Int) = _
      unfold m_Sure_holds
      have e : gf_Formula_truth (.Sure b) = some b := rfl
      rw [bind_eq e, ev]
    | Not p =>
      rw [dep] at hd
      rw [okF] at hx
      show mb_Not_holds (mf_D_Formula_holds n) (.Not p) (s : Int) = _
      unfold mb_Not_holds
      have e : gf_Formula_part (.Not p) = some p := rfl
      rw [bind_eq e, bind_eq (ih p s (by omega) hx), ev]
    | And ps =>
      rw [dep] at hd
      rw [okF, okFs_iff] at hx
      show mb_And_holds (mf_D_Formula_holds n) (.And ps) (s : Int) = _
      unfold mb_And_holds
      have e : gf_Formula_parts (.And ps) = some ps := rfl
      rw [bind_eq e, brk_eq (forR_allL (v := false) (fun p => ev p s) fun p hp => by
        rw [bind_eq (ih p s (by have := deps_le hp; omega) (hx p hp))]
        cases ev p s with
        | true => rw [ifo_nt]; rfl
        | false => rw [ifo_nf]; rfl), brk_if, ev, evA_eq]
      split
      · rename_i h; rw [h]
      · rename_i h; exact congrArg some (by cases q : ps.all fun p => ev p s <;> simp_all)
    | Either ps =>
      rw [dep] at hd
      rw [okF, okFs_iff] at hx
      show mb_Either_holds (mf_D_Formula_holds n) (.Either ps) (s : Int) = _
      unfold mb_Either_holds
      have e : gf_Formula_parts (.Either ps) = some ps := rfl
      rw [bind_eq e]
      have key : ∀ (qs : List O_Formula) (b : Bool), (∀ p ∈ qs, p ∈ ps) → forO (fun part7 odd16 =>
          (mf_D_Formula_holds n part7 (s : Int)).bind fun v21 =>
          ifo v21 (
          lt (!odd16) fun odd22 =>
          some odd22) (
          some odd16)) qs b = some (xor b (evX qs s)) := by
        intro qs
        induction qs with
        | nil => intro b _; rw [forO_nil, evX, Bool.xor_false]
        | cons q qs ih2 =>
          intro b hq
          have hq1 := hq q List.mem_cons_self
          rw [forO_cons, bind_eq (ih q s (by have := deps_le hq1; omega) (hx q hq1)), evX]
          cases ev q s with
          | true => rw [ifo_tt, lt_eq, sb, ih2 _ fun p hp => hq p (List.mem_cons_of_mem _ hp)]; cases b <;> cases evX qs s <;> rfl
          | false => rw [ifo_ff, sb, ih2 _ fun p hp => hq p (List.mem_cons_of_mem _ hp)]; cases b <;> cases evX qs s <;> rfl
      rw [bind_eq (key ps false fun _ h => h), ev, Bool.false_xor]
    | Or ps =>
      rw [dep] at hd
      rw [okF, okFs_iff] at hx
      show mb_Or_holds (mf_D_Formula_holds n) (.Or ps) (s : Int) = _
      unfold mb_Or_holds
      have e : gf_Formula_parts (.Or ps) = some ps := rfl
      rw [bind_eq e, brk_eq (forR_allL (v := true) (fun p => !ev p s) fun p hp => by
        rw [bind_eq (ih p s (by have := deps_le hp; omega) (hx p hp))]
        cases ev p s with
        | true => rw [ifo_tt]; rfl
        | false => rw [ifo_ff]; rfl), brk_if, ev, evO_eq]
      have : (ps.any fun p => ev p s) = !(ps.all fun p => !ev p s) := by
        rw [List.all_eq_not_any_not]; simp
      rw [this]
      cases ps.all fun p => !ev p s <;> rfl
theorem holds_eq {m s : Nat} {x : O_Formula} (hd : dep x < 100) (hx : okF m x) : m_D_Formula_holds x (s : Int) = some (ev x s) := by
  unfold m_D_Formula_holds
  exact holds_fuel m 100 x s hd hx
end B

namespace B
open PySem Z E L2
theorem cell_at_eq (ns : List Int) (k : Nat) : ∃ v, m__law_cell_at ns (k : Int) = some v := by
  unfold m__law_cell_at
  by_cases h : k < ns.length
  · rw [ifo_t (decide_eq_true (by omega))]
    rw [bind_eq (atI_nat' h)]
    first
      | exact ⟨_, rfl⟩
      | exact ⟨_, grd_of (by decide)⟩
  · rw [ifo_f (decide_eq_false (by omega))]
    exact ⟨0, rfl⟩
/-- the number of lamps -/
theorem many_of (v : Int) : ∃ m : Nat, 1 ≤ m ∧ m ≤ 6 ∧ (1 : Int) + v % 6 = (m : Int) := by
  obtain ⟨k, h1, h2⟩ := mod_nat v (n := 6) (by decide)
  have : v % ((6 : Nat) : Int) = v % 6 := rfl
  exact ⟨k + 1, by omega, by omega, by omega⟩
end B

namespace B
open PySem Z E L2
/-! ### moves -/
abbrev Chg := Nat × O_Formula
def zC (c : Chg) : Int × O_Formula := ((c.1 : Int), c.2)
def okCs (m : Nat) (cs : List Chg) : Prop := ∀ c ∈ cs, c.1 < m ∧ okF m c.2 ∧ dep c.2 < 100
def newbit (cs : List Chg) (s i : Nat) : Bool := cs.foldl (fun b c => if c.1 = i then ev c.2 s else b) (s.testBit i)
def onw (m : Nat) (cs : List Chg) (s : Nat) : Nat := mask m (newbit cs s)
theorem onw_lt (m : Nat) (cs : List Chg) (s : Nat) : onw m cs s < 2 ^ m := mask_lt _ _
theorem onward_eq {m s : Nat} {gd : O_Formula} {cs : List Chg} (hm : m ≤ 6) (hs : s < 2 ^ m) (hc : okCs m cs) : m_Move_onward (O_Move.mk gd (cs.map zC)) (s : Int) = some ((onw m cs s : Nat) : Int) := by
  have h64 := le64 hm
  refine W.got ?_
  unfold m_Move_onward
  refine W.some' (W.as (W.for_pre (fun pre t => ∃ p q : List Chg, pre = p.map zC ∧ cs = p ++ q ∧ t = ((mask m (newbit p s) : Nat) : Int)) ⟨[], cs, rfl, rfl, ?_⟩ ?_) ?_)
  · congr 1
    exact mask_ext hs fun i _ => rfl
  · rintro pre x suf _ e ⟨p, q, rfl, eq, rfl⟩
    rw [eq, List.map_append] at e
    have e := List.append_cancel_left e
    cases q with
    | nil => cases e
    | cons c q =>
      rw [List.map_cons] at e
      injection e with e1 e2
      subst e1
      obtain ⟨h1, h2, h3⟩ := hc c (by rw [eq]; exact List.mem_append_right _ List.mem_cons_self)
      have fin : ∀ t : Nat, t < 2 ^ m → (∀ i, i < m → t.testBit i = if c.1 = i then ev c.2 s else (mask m (newbit p s)).testBit i) → ∃ p_1 q_1 : List Chg, p.map zC ++ [zC c] = p_1.map zC ∧ cs = p_1 ++ q_1 ∧ (t : Int) = ((mask m (newbit p_1 s) : Nat) : Int) := by
        intro t ht hb
        refine ⟨p ++ [c], q, by rw [List.map_append]; rfl, by rw [eq, List.append_assoc]; rfl, ?_⟩
        congr 1
        refine mask_ext ht fun i hi => ?_
        rw [hb i hi, testBit_mask, decide_eq_true hi, Bool.true_and]
        unfold newbit
        rw [List.foldl_append]
        rfl
      have hp1 : 2 ^ c.1 < 2 ^ m := pow_lt2 h1
      show OP ((m_D_Formula_holds c.2 (s : Int)).bind _) _
      refine W.eq (holds_eq (m := m) h3 h2) ?_
      cases he : ev c.2 s with
      | true =>
        rw [ifo_tt]
        show OP (Z.grd (gPow 1 (c.1 : Int)) _) _
        refine W.grd (gPow1 (by omega)) (W.lt ?_)
        show OP (some (bor ((mask m (newbit p s) : Nat) : Int) (shl 1 (c.1 : Int)))) _
        rw [shl1_nat, bor_nat]
        refine fin _ (Nat.or_lt_two_pow (mask_lt _ _) hp1) fun i hi => ?_
        rw [Nat.testBit_or, Nat.testBit_two_pow, he]
        by_cases e : c.1 = i
        · rw [decide_eq_true e, if_pos e, Bool.or_true]
        · rw [decide_eq_false e, if_neg e, Bool.or_false]
      | false =>
        rw [ifo_ff]
        show OP (Z.grd ((0 : Int) ≤ (c.1 : Int)) _) _
        refine W.grd (by omega) ?_
        show OP (ifo (decide (band (shr ((mask m (newbit p s) : Nat) : Int) (c.1 : Int)) 1 = 1)) _ _) _
        rw [asks1]
        cases hb : (mask m (newbit p s)).testBit c.1 with
        | true =>
          rw [ifo_tt]
          show OP (Z.grd (gPow 1 (c.1 : Int)) _) _
          refine W.grd (gPow1 (by omega)) (W.lt ?_)
          show OP (some (bxor ((mask m (newbit p s) : Nat) : Int) (shl 1 (c.1 : Int)))) _
          rw [shl1_nat, bxor_nat]
          refine fin _ (xor_lt (mask_lt _ _) hp1) fun i hi => ?_
          rw [Nat.testBit_xor, Nat.testBit_two_pow, he]
          by_cases e : c.1 = i
          · rw [decide_eq_true e, if_pos e, ← e, hb]; rfl
          · rw [decide_eq_false e, if_neg e, Bool.xor_false]
        | false =>
          rw [ifo_ff]
          refine fin _ (mask_lt _ _) fun i hi => ?_
          rw [he]
          by_cases e : c.1 = i
          · rw [if_pos e, ← e, hb]
          · rw [if_neg e]
  · rintro _ ⟨p, q, e, eq, rfl⟩
    have : p = cs := by
      have hl := congrArg List.length e
      rw [List.length_map, List.length_map, eq, List.length_append] at hl
      have : q = [] := List.eq_nil_of_length_eq_zero (by omega)
      rw [eq, this, List.append_nil]
    rw [this]
    rfl
theorem fits_eq {m s : Nat} {gd : O_Formula} {cs : List (Int × O_Formula)} (hd : dep gd < 100) (hg : okF m gd) : m_Move_fits (O_Move.mk gd cs) (s : Int) = some (ev gd s) := by
  unfold m_Move_fits
  show (m_D_Formula_holds gd (s : Int)).bind _ = _
  rw [bind_eq (holds_eq hd hg)]
end B

namespace B
open PySem Z E L2
theorem newbit_not {s i : Nat} : ∀ {cs : List Chg}, (∀ c ∈ cs, c.1 ≠ i) → newbit cs s i = s.testBit i := by
  intro cs h
  unfold newbit
  have : ∀ (cs : List Chg) (b : Bool), (∀ c ∈ cs, c.1 ≠ i) → cs.foldl (fun b c => if c.1 = i then ev c.2 s else b) b = b := by
    intro cs
    induction cs with
    | nil => intro b _; rfl
    | cons c cs ih =>
      intro b h
      rw [List.foldl_cons, if_neg (h c List.mem_cons_self)]
      exact ih b fun d hd => h d (List.mem_cons_of_mem _ hd)
  exact this cs _ h
theorem newbit_snoc (cs : List Chg) (c : Chg) (s i : Nat) : newbit (cs ++ [c]) s i = if c.1 = i then ev c.2 s else newbit cs s i := by
  unfold newbit
  rw [List.foldl_append]; rfl
theorem mask_upd {e : Bool} {p q : Nat → Bool} {c : Nat} : ∀ {m : Nat}, c < m → (∀ i, i < m → q i = if c = i then e else p i) → mask m q + (if p c = true then 2 ^ c else 0) = mask m p + if e = true then 2 ^ c else 0
  | 0, h, _ => absurd h (Nat.not_lt_zero c)
  | m + 1, h, hq => by
    rw [mask_succ, mask_succ]
    by_cases hc : c = m
    · subst hc
      have h1 : mask c q = mask c p := mask_congr fun i hi => by rw [hq i (by omega), if_neg (by omega)]
      have h2 : q c = e := by rw [hq c (by omega), if_pos rfl]
      rw [h1, h2]; omega
    · have ih := mask_upd (m := m) (by omega) fun i hi => hq i (by omega)
      have h2 : q m = p m := by rw [hq m (by omega), if_neg hc]
      rw [h2]; omega
/-- one change: the next step of both sums -/
theorem step_mask {m : Nat} {cs : List Chg} {c : Chg} {s : Nat} (h1 : c.1 < m) (hn : ∀ d ∈ cs, d.1 ≠ c.1) : mask m (newbit (cs ++ [c]) s) + (if s.testBit c.1 = true then 2 ^ c.1 else 0) = mask m (newbit cs s) + if ev c.2 s = true then 2 ^ c.1 else 0 := by
  have := mask_upd (e := ev c.2 s) (p := newbit cs s) (q := newbit (cs ++ [c]) s) h1 fun i _ => newbit_snoc cs c s i
  rw [newbit_not hn] at this
  exact this
theorem nodup_pre {cs p q : List Chg} {c : Chg} (hn : (cs.map (·.1)).Nodup) (e : cs = p ++ c :: q) : ∀ d ∈ p, d.1 ≠ c.1 := by
  intro d hd he
  rw [e, List.map_append, List.nodup_append] at hn
  exact hn.2.2 d.1 (List.mem_map_of_mem hd) c.1 (by rw [List.map_cons]; exact List.mem_cons_self) he
theorem mask_start {m s : Nat} (hs : s < 2 ^ m) : s = mask m (newbit [] s) := mask_ext hs fun i _ => rfl
end B

namespace B
open PySem Z E L2
/-! ### recipes -/
abbrev R3 := Nat × Nat × Nat
abbrev C3 := Nat × R3
abbrev V3 := R3 × List C3
def zR (r : R3) : Int × Int × Int := ((r.1 : Int), (r.2.1 : Int), (r.2.2 : Int))
def zX (c : C3) : Int × (Int × Int × Int) := ((c.1 : Int), zR c.2)
def zV (v : V3) : (Int × Int × Int) × List (Int × (Int × Int × Int)) := (zR v.1, v.2.map zX)
def okR (m : Nat) (r : R3) : Prop := r.1 < 7 ∧ r.2.1 < m ∧ r.2.2 < m
def rdue (r : R3) (s : Nat) : Bool :=
  if r.1 < 2 then decide (s.testBit r.2.1 = decide (r.1 = 0)) else if r.1 = 2 then s.testBit r.2.1 && !s.testBit r.2.2 else if r.1 = 3 then s.testBit r.2.1 || s.testBit r.2.2
  else if r.1 = 4 then !decide (s.testBit r.2.1 = s.testBit r.2.2) else decide (r.1 = 5) || !(s.testBit r.2.1 && s.testBit r.2.2)
def mk3 (r : R3) : O_Formula :=
  if r.1 = 0 then .Lamp (r.2.1 : Int) else if r.1 = 1 then .Not (.Lamp (r.2.1 : Int)) else if r.1 = 2 then .And [.Lamp (r.2.1 : Int), .Not (.Lamp (r.2.2 : Int))] else if r.1 = 3 then .Or [.Lamp (r.2.1 : Int), .Lamp (r.2.2 : Int)]
  else if r.1 = 4 then .Either [.Lamp (r.2.1 : Int), .Lamp (r.2.2 : Int)] else if r.1 = 5 then .Sure true else .Not (.And [.Lamp (r.2.1 : Int), .Lamp (r.2.2 : Int)])
theorem seven {k : Nat} (h : k < 7) : k = 0 ∨ k = 1 ∨ k = 2 ∨ k = 3 ∨ k = 4 ∨ k = 5 ∨ k = 6 := by omega
theorem mk3_ev {m : Nat} {r : R3} (h : okR m r) (s : Nat) : ev (mk3 r) s = rdue r s := by
  obtain ⟨k, a, b⟩ := r
  obtain ⟨hk, _, _⟩ := h
  have hk : k < 7 := hk
  unfold mk3 rdue
  rcases seven hk with rfl | rfl | rfl | rfl | rfl | rfl | rfl <;> simp [ev, evA, evO, evX] <;> cases s.testBit a <;> cases s.testBit b <;> rfl
theorem mk3_ok {m : Nat} {r : R3} (h : okR m r) : okF m (mk3 r) ∧ dep (mk3 r) < 100 := by
  obtain ⟨k, a, b⟩ := r
  obtain ⟨hk, ha, hb⟩ := h
  have hk : k < 7 := hk
  have ha : a < m := ha
  have hb : b < m := hb
  have oa : okF m (.Lamp (a : Int)) := by rw [okF]; exact ⟨a, rfl, ha⟩
  have ob : okF m (.Lamp (b : Int)) := by rw [okF]; exact ⟨b, rfl, hb⟩
  unfold mk3
  rcases seven hk with rfl | rfl | rfl | rfl | rfl | rfl | rfl <;> simp only [okF, okFs, dep, deps] at oa ob ⊢ <;> simp [oa, ob, okF, okFs, dep, deps]
  all_goals exact ⟨⟨a, rfl, ha⟩, ⟨b, rfl, hb⟩⟩
theorem made_eq {m : Nat} {r : R3} (h : okR m r) : m__law_made (zR r) = some (mk3 r) := by
  obtain ⟨k, a, b⟩ := r
  obtain ⟨hk, _, _⟩ := h
  have hk : k < 7 := hk
  unfold m__law_made m_Lamp___init__ m_Not___init__ m_Joined___init__ m_Sure___init__ mk3
  show ((some (a : Int)).bind fun v13 => (some (b : Int)).bind fun v33 => ifo (decide ((k : Int) = 0)) _ _) = _
  rw [sb, sb]
  rcases seven hk with rfl | rfl | rfl | rfl | rfl | rfl | rfl
  · rw [ifo_t (by rfl)]; rfl
  · rw [ifo_f (by rfl), ifo_t (by rfl)]; rfl
  · rw [ifo_f (by rfl), ifo_f (by rfl), ifo_t (by rfl)]; rfl
  · rw [ifo_f (by rfl), ifo_f (by rfl), ifo_f (by rfl), ifo_t (by rfl)]; rfl
  · rw [ifo_f (by rfl), ifo_f (by rfl), ifo_f (by rfl), ifo_f (by rfl), ifo_t (by rfl)]; rfl
  · rw [ifo_f (by rfl), ifo_f (by rfl), ifo_f (by rfl), ifo_f (by rfl), ifo_f (by rfl), ifo_t (by rfl)]; rfl
  · rw [ifo_f (by rfl), ifo_f (by rfl), ifo_f (by rfl), ifo_f (by rfl), ifo_f (by rfl), ifo_f (by rfl)]; rfl
theorem lit3_eq {m a s : Nat} (hm : m ≤ 6) (ha : a < m) : m__law_lit (s : Int) (a : Int) = some (s.testBit a) := by
  unfold m__law_lit
  rw [grd_of (gPow1 (by omega)), shl1_nat, grd_of (gDivW2 (show a ≤ 6 by omega)), tb_div1]
theorem due3_eq {m s : Nat} {r : R3} (hm : m ≤ 6) (h : okR m r) : m__law_due (zR r) (s : Int) = some (rdue r s) := by
  obtain ⟨k, a, b⟩ := r
  obtain ⟨hk, ha, hb⟩ := h
  have hk : k < 7 := hk
  unfold m__law_due
  show ((m__law_lit (s : Int) (a : Int)).bind fun v5 => (m__law_lit (s : Int) (b : Int)).bind fun v6 => ifo (decide ((k : Int) < 2)) (some (decide (v5 = decide ((k : Int) = 0)))) _) = _
  rw [bind_eq (lit3_eq hm ha), bind_eq (lit3_eq hm hb)]
  unfold rdue
  rcases seven hk with rfl | rfl | rfl | rfl | rfl | rfl | rfl
  · rw [ifo_t (by rfl)]; rfl
  · rw [ifo_t (by rfl)]; rfl
  · rw [ifo_f (by rfl), ifo_t (by rfl)]; rfl
  · rw [ifo_f (by rfl), ifo_f (by rfl), ifo_t (by rfl)]; rfl
  · rw [ifo_f (by rfl), ifo_f (by rfl), ifo_f (by rfl), ifo_t (by rfl)]; rfl
  · rw [ifo_f (by rfl), ifo_f (by rfl), ifo_f (by rfl), ifo_f (by rfl)]; rfl
  · rw [ifo_f (by rfl), ifo_f (by rfl), ifo_f (by rfl), ifo_f (by rfl)]; rfl
theorem recipe_ok {m : Nat} (h1 : 1 ≤ m) (v : Int) : ∃ r : R3, okR m r ∧ m__law_recipe v (m : Int) = some (zR r) := by
  obtain ⟨k, hk, ek⟩ := mod_nat v (n := 7) (by decide)
  have ek' : v % 7 = (k : Int) := ek
  obtain ⟨a, ha, ea⟩ := mod_nat (v / 7) (n := m) (by omega)
  obtain ⟨b, hb, eb⟩ := mod_nat ((a : Int) + 1 + v / 42) (n := m) (by omega)
  refine ⟨(k, a, b), ⟨hk, ha, hb⟩, ?_⟩
  have hm : (0 : Int) < (m : Int) := by omega
  unfold m__law_recipe
  rw [grd_of hm, grd_of hm, grd_of hm, ek', ea, eb]
  rfl
/-! ### moves -/
def tc (c : C3) : Chg := (c.1, mk3 c.2)
def oM (v : V3) : O_Move := O_Move.mk (mk3 v.1) ((v.2.map tc).map zC)
structure okV (m : Nat) (v : V3) : Prop where
  g : okR m v.1
  c : ∀ c ∈ v.2, c.1 < m ∧ okR m c.2
  n : (v.2.map (·.1)).Nodup
  l : v.2.length ≤ 2
def onv (m : Nat) (v : V3) (s : Nat) : Nat := onw m (v.2.map tc) s
theorem onv_lt (m : Nat) (v : V3) (s : Nat) : onv m v s < 2 ^ m := onw_lt m _ s
theorem okV.cs {m : Nat} {v : V3} (h : okV m v) : okCs m (v.2.map tc) := fun c hc => by
  obtain ⟨d, hd, rfl⟩ := List.mem_map.mp hc
  obtain ⟨a, b⟩ := h.c d hd
  exact ⟨a, mk3_ok b⟩
theorem fits3 {m s : Nat} {v : V3} (h : okV m v) : m_Move_fits (oM v) (s : Int) = some (rdue v.1 s) := by
  unfold oM
  rw [fits_eq (mk3_ok h.g).2 (mk3_ok h.g).1, mk3_ev h.g]
theorem onward3 {m s : Nat} {v : V3} (hm : m ≤ 6) (hs : s < 2 ^ m) (h : okV m v) : m_Move_onward (oM v) (s : Int) = some ((onv m v s : Nat) : Int) := onward_eq hm hs h.cs
theorem law_onward3 {m s : Nat} {v : V3} (hm : m ≤ 6) (hs : s < 2 ^ m) (h : okV m v) : m__law_onward (s : Int) (v.2.map zX) = some ((onv m v s : Nat) : Int) := by
  have h64 := le64 hm
  refine W.got ?_
  unfold m__law_onward
  refine W.some' (W.as (W.for_pre (fun pre t => ∃ p q : List C3, pre = p.map zX ∧ v.2 = p ++ q ∧ t = ((mask m (newbit (p.map tc) s) : Nat) : Int)) ⟨[], v.2, rfl, rfl, congrArg _ (mask_start hs)⟩ ?_) ?_)
  · rintro pre x suf _ e ⟨p, q, rfl, eq, rfl⟩
    rw [eq, List.map_append] at e
    have e := List.append_cancel_left e
    cases q with
    | nil => cases e
    | cons c q =>
      rw [List.map_cons] at e
      injection e with e1 e2
      subst e1
      obtain ⟨h1, h2⟩ := h.c c (by rw [eq]; exact List.mem_append_right _ List.mem_cons_self)
      have hnd : ∀ d ∈ p.map tc, d.1 ≠ (tc c).1 := by
        refine nodup_pre (cs := v.2.map tc) (q := q.map tc) (c := tc c) ?_ (by rw [eq, List.map_append, List.map_cons])
        have := h.n
        rw [List.map_map]
        exact this
      have hs2 := step_mask (m := m) (s := s) (cs := p.map tc) (c := tc c) h1 hnd
      have hp := Nat.two_pow_pos c.1
      have h2k : 2 ^ c.1 ≤ 2 ^ 6 := Nat.pow_le_pow_right (by decide) (by omega)
      have z1 : (zX c).1 = (c.1 : Int) := rfl
      have z2 : (zX c).2 = zR c.2 := rfl
      have z3 : (tc c).1 = c.1 := rfl
      have z4 : ev (tc c).2 s = rdue c.2 s := mk3_ev h2 s
      rw [z3, z4] at hs2
      rw [z1, z2, bind_eq (due3_eq hm h2), bind_eq (lit3_eq hm h1)]
      refine W.lt (W.grd (gPow1 (by omega)) ?_)
      rw [shl1_nat]
      refine W.grd (.inr ⟨by omega, by omega⟩) (W.lt ⟨p ++ [c], q, by rw [List.map_append]; rfl, by rw [eq, List.append_assoc]; rfl, ?_⟩)
      rw [List.map_append]
      show _ = ((mask m (newbit (p.map tc ++ [tc c]) s) : Nat) : Int)
      cases he : rdue c.2 s <;> cases hb : s.testBit c.1 <;> rw [he, hb] at hs2 <;> simp only [Bool.false_eq_true, if_true, if_false] at hs2 ⊢ <;> omega
  · rintro _ ⟨p, q, e, eq, rfl⟩
    have : p = v.2 := by
      have hl := congrArg List.length e
      rw [List.length_map, List.length_map, eq, List.length_append] at hl
      have : q = [] := List.eq_nil_of_length_eq_zero (by omega)
      rw [eq, this, List.append_nil]
    rw [this]; rfl
theorem changes_ok {m : Nat} (h1 : 1 ≤ m) (v : Int) : ∃ cs : List C3, m__law_changes v (m : Int) = some (cs.map zX) ∧ (∀ c ∈ cs, c.1 < m ∧ okR m c.2) ∧ (cs.map (·.1)).Nodup ∧ cs.length ≤ 2 := by
  suffices hs : OP (m__law_changes v (m : Int)) fun r => ∃ cs : List C3, r = cs.map zX ∧ (∀ c ∈ cs, c.1 < m ∧ okR m c.2) ∧ (cs.map (·.1)).Nodup ∧ cs.length ≤ 2 by
    obtain ⟨r, e, qs, rfl, h⟩ := OP.get hs
    exact ⟨qs, e, h⟩
  have hm : (0 : Int) < (m : Int) := by omega
  obtain ⟨a, ha, ea⟩ := mod_nat v (n := m) (by omega)
  obtain ⟨r, hr, er⟩ := recipe_ok h1 (v / 6)
  unfold m__law_changes
  refine W.grd hm ?_
  rw [ea]
  refine W.lt ?_
  rw [bind_eq er]
  refine W.some' (W.ite (fun hc => ?_) (fun _ => ⟨[(a, r)], rfl, fun c h => by rw [List.mem_singleton.mp h]; exact ⟨ha, hr⟩, by simp, by simp⟩))
  rw [Bool.and_eq_true, decide_eq_true_iff] at hc
  obtain ⟨r2, hr2, er2⟩ := recipe_ok h1 (v / 24)
  obtain ⟨d, hd, ed⟩ := mod_nat (v / 12) (n := m - 1) (by omega)
  have em : (m : Int) - 1 = ((m - 1 : Nat) : Int) := by omega
  rw [em]
  refine W.grd (by omega) (W.grd hm ?_)
  rw [bind_eq er2, ed]
  obtain ⟨b, hb, eb⟩ := mod_nat ((a : Int) + 1 + (d : Int)) (n := m) (by omega)
  rw [eb]
  have hne : b ≠ a := by
    intro e
    rw [e] at eb
    by_cases hlt : a + 1 + d < m
    · rw [Int.emod_eq_of_lt (by omega) (by omega)] at eb; omega
    · have : ((a : Int) + 1 + (d : Int)) % (m : Int) = (a : Int) + 1 + (d : Int) - (m : Int) := by
        rw [← Int.sub_emod_right, Int.emod_eq_of_lt (by omega) (by omega)]
      rw [this] at eb
      omega
  refine W.grd (by simp) (W.lt ⟨[(a, r), (b, r2)], rfl, fun c h => ?_, ?_, by simp⟩)
  · rw [List.mem_cons, List.mem_singleton] at h
    rcases h with h | h
    · rw [h]; exact ⟨ha, hr⟩
    · rw [h]; exact ⟨hb, hr2⟩
  · simp [Ne.symm hne]
/-! ### which -/
def hit (m : Nat) (v : V3) (s : Nat) (o : Int) : Bool := rdue v.1 s && decide (((onv m v s : Nat) : Int) = o)
def fi (m s : Nat) (o : Int) : Nat → List V3 → Option Int
  | _, [] => none
  | k, v :: vs => if hit m v s o = true then some (k : Int) else fi m s o (k + 1) vs
theorem which_eq {m s : Nat} {o : Int} {names : List Str} {xs : List Int} {ys : List O_Formula} {ms : List V3} (hm : m ≤ 6) (hs : s < 2 ^ m) (hv : ∀ v ∈ ms, okV m v) : m_Machine_which (O_Machine.mk names xs ys (ms.map oM)) (s : Int) o = some (fi m s o 0 ms) := by
  refine W.got ?_
  unfold m_Machine_which
  have key : ∀ (q : List V3) (k : Nat), (∀ v ∈ q, okV m v) → forR (fun (x7 : Int × O_Move) (_ : Unit) =>
      ((m_Move_fits x7.2 (s : Int)).bind fun v35 =>
      ifo v35 (
      (m_Move_onward x7.2 (s : Int)).bind fun v36 =>
      some (decide (v36 = o))) (
      some false)).bind fun b41 =>
      ifo b41 (
      some (.inr (some x7.1))) (
      some (.inl ()))) (enumF k (q.map oM)) () = some (match fi m s o k q with | some j => .inr (some j) | none => .inl ()) := by
    intro q
    induction q with
    | nil => intro k _; exact forR_nil
    | cons v q ih =>
      intro k hq
      have ov := hq v List.mem_cons_self
      show forR _ (((k : Int), oM v) :: enumF (k + 1) (q.map oM)) () = _
      rw [forR_cons]
      have e : ((m_Move_fits (oM v) (s : Int)).bind fun v35 =>
          ifo v35 (
          (m_Move_onward (oM v) (s : Int)).bind fun v36 =>
          some (decide (v36 = o))) (
          some false)) = some (hit m v s o) := by
        unfold hit
        rw [bind_eq (fits3 ov), onward3 hm hs ov]
        cases rdue v.1 s with
        | true => rw [ifo_tt, sb]; rfl
        | false => rw [ifo_ff]; rfl
      rw [show fi m s o k (v :: q) = if hit m v s o = true then some (k : Int) else fi m s o (k + 1) q from rfl]
      show Option.bind (Option.bind _ _) _ = _
      rw [bind_eq e]
      cases hit m v s o with
      | true => rw [ifo_tt, if_pos rfl]; rfl
      | false => rw [ifo_ff, if_neg Bool.false_ne_true]; exact ih (k + 1) fun w hw => hq w (List.mem_cons_of_mem _ hw)
  have k0 := key ms 0 hv
  have k1 : forR (fun (x7 : Int × O_Move) (_ : Unit) =>
      ((m_Move_fits x7.2 (s : Int)).bind fun v35 =>
      ifo v35 (
      (m_Move_onward x7.2 (s : Int)).bind fun v36 =>
      some (decide (v36 = o))) (
      some false)).bind fun b41 =>
      ifo b41 (
      some (.inr (some x7.1))) (
      some (.inl ()))) (enumI (ms.map oM)) () = some (match fi m s o 0 ms with | some j => .inr (some j) | none => .inl ()) := k0
  show OP (brk (forR _ (enumI (ms.map oM)) ()) _) _
  rw [brk_eq k1]
  cases fi m s o 0 ms <;> exact rfl
theorem first_eq {m s : Nat} {o : Int} {ms : List V3} (hm : m ≤ 6) (hs : s < 2 ^ m) (hl : ms.length ≤ 1000) (hv : ∀ v ∈ ms, okV m v) : m__law_first (ms.map zV) (s : Int) o = some (fi m s o 0 ms) := by
  refine W.got ?_
  unfold m__law_first
  rw [List.length_map]
  refine W.grd (gR_nat (by omega)) ?_
  rw [Int.toNat_natCast]
  have key : ∀ (q p : List V3), ms = p ++ q → forR (fun (k7 : Int) (_ : Unit) =>
      ((atI (ms.map zV) k7).bind fun i28 =>
      (m__law_due i28.1 (s : Int)).bind fun v31 =>
      ifo v31 (
      (atI (ms.map zV) k7).bind fun i32 =>
      (m__law_onward (s : Int) i32.2).bind fun v35 =>
      some (decide (v35 = o))) (
      some false)).bind fun b40 =>
      ifo b40 (
      some (.inr (some k7))) (
      some (.inl ()))) (rangeI (p.length : Int) q.length) () = some (match fi m s o p.length q with | some j => .inr (some j) | none => .inl ()) := by
    intro q
    induction q with
    | nil => intro p _; rw [List.length_nil, rangeI_zero]; exact forR_nil
    | cons v q ih =>
      intro p e
      have hk : p.length < ms.length := by rw [e, List.length_append, List.length_cons]; omega
      have hvk : ms[p.length] = v := by
        have : ms[p.length]? = some v := by rw [e, List.getElem?_append_right (Nat.le_refl _), Nat.sub_self]; rfl
        rw [List.getElem?_eq_getElem hk] at this
        exact Option.some.inj this
      have ov := hv v (by rw [e]; exact List.mem_append_right _ List.mem_cons_self)
      have ai : atI (ms.map zV) (p.length : Int) = some (zV v) := by rw [atI_nat' (by rw [List.length_map]; exact hk), List.getElem_map, hvk]
      have z1 : (zV v).1 = zR v.1 := rfl
      have z2 : (zV v).2 = v.2.map zX := rfl
      rw [List.length_cons, rangeI_succ, forR_cons]
      have e2 : ((atI (ms.map zV) (p.length : Int)).bind fun i28 =>
          (m__law_due i28.1 (s : Int)).bind fun v31 =>
          ifo v31 (
          (atI (ms.map zV) (p.length : Int)).bind fun i32 =>
          (m__law_onward (s : Int) i32.2).bind fun v35 =>
          some (decide (v35 = o))) (
          some false)) = some (hit m v s o) := by
        unfold hit
        rw [bind_eq ai, z1, bind_eq (due3_eq hm ov.g), bind_eq ai, z2, law_onward3 hm hs ov]
        cases rdue v.1 s with
        | true => rw [ifo_tt, sb]; rfl
        | false => rw [ifo_ff]; rfl
      rw [show fi m s o p.length (v :: q) = if hit m v s o = true then some (p.length : Int) else fi m s o (p.length + 1) q from rfl]
      show Option.bind (Option.bind _ _) _ = _
      rw [bind_eq e2]
      have fin := ih (p ++ [v]) (by rw [e, List.append_assoc]; rfl)
      rw [List.length_append, List.length_singleton] at fin
      cases hit m v s o with
      | true => rw [ifo_tt, if_pos rfl]; rfl
      | false =>
        rw [ifo_ff, if_neg Bool.false_ne_true]
        rw [show (p.length : Int) + 1 = ((p.length + 1 : Nat) : Int) by omega]
        exact fin
  have k0 := key ms [] rfl
  have k1 : forR (fun (k7 : Int) (_ : Unit) =>
      ((atI (ms.map zV) k7).bind fun i28 =>
      (m__law_due i28.1 (s : Int)).bind fun v31 =>
      ifo v31 (
      (atI (ms.map zV) k7).bind fun i32 =>
      (m__law_onward (s : Int) i32.2).bind fun v35 =>
      some (decide (v35 = o))) (
      some false)).bind fun b40 =>
      ifo b40 (
      some (.inr (some k7))) (
      some (.inl ()))) (rangeI 0 ms.length) () = some (match fi m s o 0 ms with | some j => .inr (some j) | none => .inl ()) := k0
  rw [brk_eq k1]
  cases fi m s o 0 ms <;> exact rfl
theorem law_which_eq {m s : Nat} {o : Int} {names : List Str} {xs : List Int} {ys : List O_Formula} {ms : List V3} (hm : m ≤ 6) (hs : s < 2 ^ m) (hl : ms.length ≤ 1000) (hv : ∀ v ∈ ms, okV m v) : m__law_which (O_Machine.mk names xs ys (ms.map oM)) (ms.map zV) (s : Int) o = some true := by
  unfold m__law_which
  rw [bind_eq (which_eq hm hs hv), bind_eq (first_eq hm hs hl hv)]
  cases fi m s o 0 ms with
  | none => rw [ifo_t (by rfl)]; rfl
  | some j => rw [ifo_f (by rfl), decide_eq_true rfl]; rfl
end B

namespace B
open PySem Z E L2
/-! ### the trail -/
def mv (ms : List V3) (k : Nat) : V3 := ms.getD k ((0, 0, 0), [])
theorem mv_get {ms : List V3} {k : Nat} (h : k < ms.length) : ms[k]? = some (mv ms k) := by
  unfold mv
  rw [List.getD_eq_getElem?_getD, List.getElem?_eq_getElem h]; rfl
theorem mv_mem {ms : List V3} {k : Nat} (h : k < ms.length) : mv ms k ∈ ms := List.mem_of_getElem? (mv_get h)
theorem atI_oM {ms : List V3} {k : Nat} (h : k < ms.length) : atI (ms.map oM) (k : Int) = some (oM (mv ms k)) := L2.atI_nat (by rw [List.getElem?_map, mv_get h]; rfl)
theorem atI_zV {ms : List V3} {k : Nat} (h : k < ms.length) : atI (ms.map zV) (k : Int) = some (zV (mv ms k)) := L2.atI_nat (by rw [List.getElem?_map, mv_get h]; rfl)
def endp (m : Nat) (ms : List V3) : Nat → List Nat → Nat
  | s, [] => s
  | s, k :: ks => endp m ms (onv m (mv ms k) s) ks
def trail (m : Nat) (ms : List V3) : Nat → List Nat → List Nat
  | s, [] => [s]
  | s, k :: ks => s :: trail m ms (onv m (mv ms k) s) ks
def valid (m : Nat) (ms : List V3) : Nat → List Nat → Prop
  | _, [] => True
  | s, k :: ks => (k < ms.length ∧ rdue (mv ms k).1 s = true) ∧ valid m ms (onv m (mv ms k) s) ks
theorem endp_app (m : Nat) (ms : List V3) : ∀ (p q : List Nat) (s : Nat), endp m ms s (p ++ q) = endp m ms (endp m ms s p) q
  | [], _, _ => rfl
  | _ :: p, q, _ => endp_app m ms p q _
theorem valid_app (m : Nat) (ms : List V3) : ∀ (p q : List Nat) (s : Nat), valid m ms s (p ++ q) ↔ valid m ms s p ∧ valid m ms (endp m ms s p) q
  | [], _, _ => ⟨fun h => ⟨trivial, h⟩, fun h => h.2⟩
  | k :: p, q, s => by
    show (_ ∧ valid m ms _ (p ++ q)) ↔ (_ ∧ valid m ms _ p) ∧ valid m ms _ q
    rw [valid_app m ms p q]; exact and_assoc.symm
theorem trail_snoc (m : Nat) (ms : List V3) : ∀ (p : List Nat) (k s : Nat), trail m ms s (p ++ [k]) = trail m ms s p ++ [onv m (mv ms k) (endp m ms s p)]
  | [], _, _ => rfl
  | _ :: p, k, s => congrArg (s :: ·) (trail_snoc m ms p k _)
theorem trail_len (m : Nat) (ms : List V3) : ∀ (p : List Nat) (s : Nat), (trail m ms s p).length = p.length + 1
  | [], _ => rfl
  | _ :: p, _ => congrArg (· + 1) (trail_len m ms p _)
theorem trail_ne {m : Nat} {ms : List V3} {p : List Nat} {s : Nat} : trail m ms s p ≠ [] := by intro h; have := trail_len m ms p s; rw [h] at this; cases this
theorem trail_end {m : Nat} {ms : List V3} : ∀ (p : List Nat) (s : Nat) (h), (trail m ms s p).getLast h = endp m ms s p
  | [], _, _ => rfl
  | k :: p, s, _ => by
    show (s :: trail m ms _ p).getLast _ = endp m ms _ p
    rw [List.getLast_cons trail_ne]; exact trail_end p _ _
theorem atI_trail {m : Nat} {ms : List V3} {p : List Nat} {s : Nat} : atI (zL (trail m ms s p)) (-1) = some ((endp m ms s p : Nat) : Int) := by rw [atI_zLend trail_ne, trail_end]
theorem trail_get {m : Nat} {ms : List V3} : ∀ (p : List Nat) (s j : Nat), j ≤ p.length → (trail m ms s p)[j]? = some (endp m ms s (p.take j))
  | [], s, j, h => by rw [Nat.le_zero.mp h]; rfl
  | k :: p, s, 0, _ => rfl
  | k :: p, s, j + 1, h => by
    show (trail m ms _ p)[j]? = _
    rw [trail_get p _ j (Nat.le_of_succ_le_succ h)]; rfl
theorem endp_lt {m : Nat} {ms : List V3} : ∀ {p : List Nat} {s : Nat}, s < 2 ^ m → endp m ms s p < 2 ^ m
  | [], _, h => h
  | k :: p, s, _ => endp_lt (p := p) (onv_lt m _ _)
theorem trail_lt {m : Nat} {ms : List V3} : ∀ {p : List Nat} {s : Nat}, s < 2 ^ m → ∀ t ∈ trail m ms s p, t < 2 ^ m
  | [], _, h, t, ht => by rw [List.mem_singleton.mp ht]; exact h
  | k :: p, s, h, t, ht => by
    rcases List.mem_cons.mp ht with rfl | ht
    · exact h
    · exact trail_lt (p := p) (onv_lt m _ _) t ht
theorem zL_snoc (p : List Nat) (k : Nat) : zL p ++ [(k : Int)] = zL (p ++ [k]) := by unfold zL; rw [List.map_append]; rfl
/-! ### walking -/
def wbody (os : List O_Move) (pick17 : Int) (passed29 : List Int) : Option (List Int ⊕ Except Nat (List Int)) :=
  ifo (!((decide (0 ≤ pick17)) && (decide (pick17 < (os.length : Int))))) (
  some (.inr (.error 3))) (
  (atI os pick17).bind fun i38 =>
  (atI passed29 (-1)).bind fun i41 =>
  (m_Move_fits i38 i41).bind fun v42 =>
  ifo (!v42) (
  some (.inr (.error 3))) (
  (atI passed29 (-1)).bind fun i43 =>
  (m_Move_onward i38 i43).bind fun v44 =>
  grd (passed29.length < 16777216) <|
  lt (passed29 ++ [v44]) fun l50 =>
  some (.inl l50)))
theorem walked_is {names : List Str} {xs : List Int} {ys : List O_Formula} {os : List O_Move} {s : Int} {picks : List Int} : m_Machine_walked (O_Machine.mk names xs ys os) s picks = brk (forR (wbody os) picks [s]) fun p => some (.ok p) := by unfold m_Machine_walked; rfl
def bad (ms : List V3) (t : Nat) (w : Int) : Prop := w < 0 ∨ (ms.length : Int) ≤ w ∨ ∃ k : Nat, k < ms.length ∧ w = (k : Int) ∧ rdue (mv ms k).1 t = false
theorem step_ok {m s k : Nat} {ms : List V3} {p : List Nat} (hm : m ≤ 6) (hs : s < 2 ^ m) (hv : ∀ v ∈ ms, okV m v) (hk : k < ms.length) (hd : rdue (mv ms k).1 (endp m ms s p) = true) (hl : p.length ≤ 1000) :
    wbody (ms.map oM) (k : Int) (zL (trail m ms s p)) = some (.inl (zL (trail m ms s (p ++ [k])))) := by
  unfold wbody
  have ov := hv _ (mv_mem hk)
  rw [List.length_map, ifo_f (by rw [decide_eq_true (show (0 : Int) ≤ (k : Int) by omega), decide_eq_true (show (k : Int) < (ms.length : Int) by omega)]; rfl), bind_eq (atI_oM hk), bind_eq atI_trail, bind_eq (fits3 ov), hd, ifo_nt, bind_eq atI_trail,
    bind_eq (onward3 hm (endp_lt hs) ov), grd_of (by rw [zL_len, trail_len]; omega), trail_snoc, ← zL_snoc]
  rfl
theorem step_bad {m s : Nat} {w : Int} {ms : List V3} {p : List Nat} (hv : ∀ v ∈ ms, okV m v) (hb : bad ms (endp m ms s p) w) :
    wbody (ms.map oM) w (zL (trail m ms s p)) = some (.inr (.error 3)) := by
  unfold wbody
  rw [List.length_map]
  rcases hb with h | h | ⟨k, hk, rfl, hd⟩
  · rw [ifo_t (by rw [decide_eq_false (show ¬ (0 : Int) ≤ w by omega)]; rfl)]
  · rw [ifo_t (by rw [decide_eq_false (show ¬ w < (ms.length : Int) by omega), Bool.and_false]; rfl)]
  · rw [ifo_f (by rw [decide_eq_true (show (0 : Int) ≤ (k : Int) by omega), decide_eq_true (show (k : Int) < (ms.length : Int) by omega)]; rfl), bind_eq (atI_oM hk), bind_eq atI_trail, bind_eq (fits3 (hv _ (mv_mem hk))), hd, ifo_nf]
theorem loop_ok {m s : Nat} {ms : List V3} (hm : m ≤ 6) (hs : s < 2 ^ m) (hv : ∀ v ∈ ms, okV m v) (rest : List Int) : ∀ (q p : List Nat), valid m ms (endp m ms s p) q → p.length + q.length ≤ 1000 →
    forR (wbody (ms.map oM)) (zL q ++ rest) (zL (trail m ms s p)) = forR (wbody (ms.map oM)) rest (zL (trail m ms s (p ++ q)))
  | [], p, _, _ => by rw [List.append_nil]; rfl
  | k :: q, p, h, hl => by
    rw [List.length_cons] at hl
    show forR _ ((k : Int) :: (zL q ++ rest)) _ = _
    rw [forR_cons, bind_eq (step_ok hm hs hv h.1.1 h.1.2 (by omega))]
    show forR _ _ _ = _
    have e : endp m ms s (p ++ [k]) = onv m (mv ms k) (endp m ms s p) := by rw [endp_app]; rfl
    rw [loop_ok hm hs hv rest q (p ++ [k]) (by rw [e]; exact h.2) (by rw [List.length_append, List.length_singleton]; omega), List.append_assoc]; rfl
theorem walked_ok {m s : Nat} {ms : List V3} {names : List Str} {xs : List Int} {ys : List O_Formula} {q : List Nat} (hm : m ≤ 6) (hs : s < 2 ^ m) (hv : ∀ v ∈ ms, okV m v) (h : valid m ms s q) (hl : q.length ≤ 1000) :
    m_Machine_walked (O_Machine.mk names xs ys (ms.map oM)) (s : Int) (zL q) = some (.ok (zL (trail m ms s q))) := by
  have := loop_ok (s := s) hm hs hv [] q [] h (by simpa using hl)
  rw [List.append_nil] at this
  rw [walked_is, show ([(s : Int)] : List Int) = zL (trail m ms s []) from rfl, this, forR_nil]
  rfl
theorem walked_bad {m s : Nat} {w : Int} {ms : List V3} {names : List Str} {xs : List Int} {ys : List O_Formula} {q : List Nat} {rest : List Int} (hm : m ≤ 6) (hs : s < 2 ^ m) (hv : ∀ v ∈ ms, okV m v) (h : valid m ms s q) (hl : q.length ≤ 1000) (hb : bad ms (endp m ms s q) w) :
    m_Machine_walked (O_Machine.mk names xs ys (ms.map oM)) (s : Int) (zL q ++ w :: rest) = some (.error 3) := by
  rw [walked_is, show ([(s : Int)] : List Int) = zL (trail m ms s []) from rfl, loop_ok (s := s) hm hs hv (w :: rest) q [] h (by simpa using hl), List.nil_append, forR_cons, bind_eq (step_bad hv hb)]
  rfl
theorem refused_ok {machine : O_Machine} {s : Int} {picks : List Int} (h : m_Machine_walked machine s picks = some (.error 3)) : m__law_refused machine s picks = some true := by
  unfold m__law_refused m__law_of_others_NoStep
  rw [bind_eq h]
  show grd ((3 : Nat) = 3) _ = _
  rw [grd_of rfl, bind_eq h]
  show grd ((3 : Nat) = 3) _ = _
  rw [grd_of rfl, ifo_tt, ifo_ff]
  rfl
/-! ### the law's own walk -/
theorem W.brkB {σ ρ : Type} {A : ρ → Prop} {m : Option (σ ⊕ (σ ⊕ ρ))} {k : σ → Option ρ} {P : σ → Prop} (h : OP m (SE P (SE P A))) (hk : ∀ s, P s → OP (k s) A) : OP (Z.brkB m k) A := by
  obtain ⟨r, e, q⟩ := OP.get h
  unfold Z.brkB
  rw [e]
  match r, q with
  | .inl s, q => exact hk s q
  | .inr (.inl s), q => exact hk s q
  | .inr (.inr v), q => exact q
theorem pick_of {n : Nat} {c : Int → Bool} {y : Int} (h : y ∈ (rangeI 0 n).filterMap fun x => if c x = true then some x else none) : ∃ k : Nat, k < n ∧ y = (k : Int) ∧ c (k : Int) = true := by
  obtain ⟨x, hx, e⟩ := List.mem_filterMap.mp h
  obtain ⟨k, hk, rfl⟩ := mem_rangeI hx
  cases hc : c (k : Int) with
  | false => rw [hc, if_neg Bool.false_ne_true] at e; cases e
  | true => rw [hc, if_pos rfl] at e; cases e; exact ⟨k, hk, rfl, hc⟩
def WK (m s : Nat) (ms : List V3) (r : List Int × List Int) : Prop := ∃ ks : List Nat, valid m ms s ks ∧ ks.length ≤ 100 ∧ r = (zL (trail m ms s ks), zL ks)
theorem law_walk_ok {m s : Nat} {ms : List V3} {cells : List Int} (hm : m ≤ 6) (hs : s < 2 ^ m) (hn : ms.length ≤ 1000) (hv : ∀ v ∈ ms, okV m v) (hc : cells.length ≤ 100) :
    ∃ ks : List Nat, valid m ms s ks ∧ ks.length ≤ 100 ∧ m__law_walk (ms.map zV) (s : Int) cells = some (zL (trail m ms s ks), zL ks) := by
  suffices h : OP (m__law_walk (ms.map zV) (s : Int) cells) (WK m s ms) by
    obtain ⟨r, e, ks, h1, h2, rfl⟩ := OP.get h
    exact ⟨ks, h1, h2, e⟩
  unfold m__law_walk
  refine W.brkB (P := WK m s ms) (OP.mono (W.forR_pre (fun pre r => ∃ ks : List Nat, valid m ms s ks ∧ ks.length = pre.length ∧ r = (zL (trail m ms s ks), zL ks)) (SE (WK m s ms) (WK m s ms)) ⟨[], trivial, rfl, rfl⟩ ?_) ?_) ?_
  · rintro pre x suf _ e ⟨ks, hk, hl, rfl⟩
    have hlen : pre.length < 100 := by rw [e, List.length_append, List.length_cons] at hc; omega
    rw [un2_mk, List.length_map]
    refine W.grd (gR_nat (by omega)) ?_
    rw [Int.toNat_natCast]
    refine W.eq (compO_eq (g := fun x => if rdue (mv ms x.toNat).1 (endp m ms s ks) = true then some x else none) (by rw [rangeI_len]; omega) ?_) ?_
    · intro x hx
      obtain ⟨k, hk, rfl⟩ := mem_rangeI hx
      rw [bind_eq (atI_zV hk), bind_eq atI_trail]
      show (m__law_due (zR (mv ms k).1) _).bind _ = some (if rdue (mv ms k).1 (endp m ms s ks) = true then _ else none)
      rw [bind_eq (due3_eq hm (hv _ (mv_mem hk)).g)]
      cases rdue (mv ms k).1 (endp m ms s ks) with
      | true => rw [ifo_tt]; rfl
      | false => rw [ifo_ff]; rfl
    · have mem : ∀ y ∈ (rangeI 0 ms.length).filterMap (fun x : Int => if rdue (mv ms x.toNat).1 (endp m ms s ks) = true then some x else none), ∃ k : Nat, k < ms.length ∧ y = (k : Int) ∧ rdue (mv ms k).1 (endp m ms s ks) = true := by
        intro y hy
        obtain ⟨k, h1, h2, h3⟩ := pick_of (c := fun x : Int => rdue (mv ms x.toNat).1 (endp m ms s ks)) hy
        exact ⟨k, h1, h2, by simpa using h3⟩
      generalize (rangeI 0 ms.length).filterMap (fun x : Int => if rdue (mv ms x.toNat).1 (endp m ms s ks) = true then some x else none) = fs at mem ⊢
      refine W.ite (fun _ => ⟨ks, hk, by omega, rfl⟩) (fun h0 => ?_)
      have h0 := of_decide_eq_false h0
      refine W.grd (by omega) ?_
      obtain ⟨j, hj, ej⟩ := mod_nat x (n := fs.length) (by omega)
      rw [ej, bind_eq (atI_nat' hj)]
      obtain ⟨k, hk1, ek, hd⟩ := mem _ (List.getElem_mem hj)
      rw [ek]
      refine W.grd (by rw [zL_len]; omega) (W.lt ?_)
      rw [zL_snoc, bind_eq atI_trail, bind_eq (atI_zLend (by simp)), List.getLast_concat, bind_eq (atI_zV hk1)]
      show OP ((m__law_onward _ ((mv ms k).2.map zX)).bind _) _
      rw [bind_eq (law_onward3 hm (endp_lt hs) (hv _ (mv_mem hk1)))]
      refine W.grd (by rw [zL_len, trail_len]; omega) (W.lt ⟨ks ++ [k], (valid_app m ms ks [k] s).mpr ⟨hk, ⟨hk1, hd⟩, trivial⟩, by rw [List.length_append, List.length_append, hl]; rfl, ?_⟩)
      rw [trail_snoc, ← zL_snoc (trail m ms s ks)]
  · intro r hr
    match r, hr with
    | .inl t, ⟨ks, h1, h2, h3⟩ => exact ⟨ks, h1, by omega, h3⟩
    | .inr t, q => exact q
  · rintro _ ⟨ks, h1, h2, rfl⟩
    exact ⟨ks, h1, h2, rfl⟩
/-! ### a wrong pick -/
theorem law_wrong_ok {m t : Nat} {ms : List V3} {way more : Int} (hm : m ≤ 6) (hn : ms.length ≤ 1000) (hv : ∀ v ∈ ms, okV m v) : ∃ w, m__law_wrong (ms.map zV) (t : Int) way more = some w ∧ bad ms t w := by
  suffices h : OP (m__law_wrong (ms.map zV) (t : Int) way more) (bad ms t) by
    obtain ⟨r, e, h⟩ := OP.get h
    exact ⟨r, e, h⟩
  unfold m__law_wrong
  rw [List.length_map]
  refine W.grd (gR_nat (by omega)) ?_
  rw [Int.toNat_natCast]
  refine W.eq (compO_eq (g := fun x => if (!rdue (mv ms x.toNat).1 t) = true then some x else none) (by rw [rangeI_len]; omega) ?_) ?_
  · intro x hx
    obtain ⟨k, hk, rfl⟩ := mem_rangeI hx
    rw [bind_eq (atI_zV hk)]
    show (m__law_due (zR (mv ms k).1) _).bind _ = some (if (!rdue (mv ms k).1 t) = true then _ else none)
    rw [bind_eq (due3_eq hm (hv _ (mv_mem hk)).g)]
    cases rdue (mv ms k).1 t with
    | true => rw [ifo_nt]; rfl
    | false => rw [ifo_nf]; rfl
  · have mem : ∀ y ∈ (rangeI 0 ms.length).filterMap (fun x : Int => if (!rdue (mv ms x.toNat).1 t) = true then some x else none), ∃ k : Nat, k < ms.length ∧ y = (k : Int) ∧ rdue (mv ms k).1 t = false := by
      intro y hy
      obtain ⟨k, h1, h2, h3⟩ := pick_of (c := fun x : Int => !rdue (mv ms x.toNat).1 t) hy
      exact ⟨k, h1, h2, by simpa using h3⟩
    generalize (rangeI 0 ms.length).filterMap (fun x : Int => if (!rdue (mv ms x.toNat).1 t) = true then some x else none) = fs at mem ⊢
    obtain ⟨j, hj, ej⟩ := mod_nat more (n := 3) (by decide)
    have ej : more % 3 = (j : Int) := ej
    rw [ej]
    have hi : ∃ c : Int, 0 < c ∧ atI ([9, 9, (ipow 10 30)] : List Int) (j : Int) = some c := by
      rcases (show j = 0 ∨ j = 1 ∨ j = 2 by omega) with rfl | rfl | rfl
      · exact ⟨9, by decide, rfl⟩
      · exact ⟨9, by decide, rfl⟩
      · exact ⟨ipow 10 30, by decide, rfl⟩
    obtain ⟨c, hc, ec⟩ := hi
    rw [bind_eq ec]
    have h0 : 0 ≤ more / 3 % c := Int.emod_nonneg _ (by omega)
    refine W.ite (fun _ => W.grd hc (.inl (by omega))) (fun _ => W.ite (fun _ => W.grd hc (.inr (.inl (by omega)))) (fun h2 => ?_))
    have h2 := of_decide_eq_false (Bool.or_eq_false_iff.mp h2).2
    refine W.grd (by omega) ?_
    obtain ⟨i, hi, ei⟩ := mod_nat more (n := fs.length) (by omega)
    rw [ei, bind_eq (atI_nat' hi)]
    obtain ⟨k, hk1, ek, hd⟩ := mem _ (List.getElem_mem hi)
    exact .inr (.inr ⟨k, hk1, ek, hd⟩)
end B

namespace B
open PySem Z E L2
theorem zC_fold (f : Int × (Int × Int × Int) → List (Int × O_Formula) → Option (List (Int × O_Formula))) : ∀ (q : List C3) (acc : List (Int × O_Formula)), (∀ c ∈ q, ∀ a, acc.length ≤ a.length → a.length < acc.length + q.length → f (zX c) a = some (a ++ [zC (tc c)])) → forO f (q.map zX) acc = some (acc ++ (q.map tc).map zC)
  | [], acc, _ => by rw [List.map_nil, List.map_nil, List.map_nil, List.append_nil]; exact forO_nil
  | c :: q, acc, h => by
    rw [List.map_cons, forO_cons, h c List.mem_cons_self acc (Nat.le_refl _) (by rw [List.length_cons]; omega)]
    show forO f (q.map zX) (acc ++ [zC (tc c)]) = _
    rw [zC_fold f q (acc ++ [zC (tc c)]) fun d hd a h1 h2 => h d (List.mem_cons_of_mem _ hd) a (by rw [List.length_append, List.length_singleton] at h1; omega) (by rw [List.length_append, List.length_singleton] at h2; rw [List.length_cons]; omega), List.append_assoc]
    rfl
theorem machines_eq {m : Nat} {ms : List V3} (hv : ∀ v ∈ ms, okV m v) (hn : ms.length ≤ 1000) : ∃ nm : List Str, m__law_machines (m : Int) (ms.map zV) = some (O_Machine.mk nm [] [O_Formula.Lamp 0] (ms.map oM), O_Machine.mk nm [] [O_Formula.Lamp 0] (ms.reverse.map oM)) := by
  refine ⟨cutI ([("a" : Str), ("b" : Str), ("c" : Str), ("d" : Str), ("e" : Str), ("f" : Str)] : List Str) none (some (m : Int)), ?_⟩
  unfold m__law_machines
  have key : ∀ (q p : List V3), ms = p ++ q → forO (fun (x14 : (Int × Int × Int) × List (Int × Int × Int × Int)) (handed26 : List O_Move) =>
      (forO (fun lamp65 acc5161 =>
      (m__law_made lamp65.2).bind fun v74 =>
      grd (acc5161.length < 16777216) <|
      lt (acc5161 ++ [(lamp65.1, v74)]) fun l88 =>
      some l88) (x14.2) ([] : List (Int × O_Formula))).bind fun acc5161 =>
      (m__law_made x14.1).bind fun v95 =>
      (m_Move___init__ v95 acc5161).bind fun v113 =>
      grd (handed26.length < 16777216) <|
      lt (handed26 ++ [v113]) fun l129 =>
      some l129) (q.map zV) (p.map oM) = some (ms.map oM) := by
    intro q
    induction q with
    | nil => intro p e; rw [e, List.append_nil]; exact forO_nil
    | cons v q ih =>
      intro p e
      have hvv := hv v (by rw [e]; exact List.mem_append_right _ List.mem_cons_self)
      have hlen : p.length < ms.length := by rw [e, List.length_append, List.length_cons]; omega
      rw [List.map_cons, forO_cons]
      show Option.bind (Option.bind (forO _ (v.2.map zX) []) _) _ = _
      rw [bind_eq (zC_fold _ v.2 [] ?_)]
      · show Option.bind (Option.bind (m__law_made (zR v.1)) _) _ = _
        rw [bind_eq (made_eq hvv.g)]
        rw [show ∀ (g : O_Formula) (c : List (Int × O_Formula)), m_Move___init__ g c = some (O_Move.mk g c) from fun _ _ => by unfold m_Move___init__; rfl]
        rw [sb, grd_of (by rw [List.length_map]; omega), lt_eq, sb]
        have := ih (p ++ [v]) (by rw [e, List.append_assoc]; rfl)
        rw [List.map_append] at this
        exact this
      · intro c hc a _ h2
        show (m__law_made (zR c.2)).bind _ = _
        rw [bind_eq (made_eq (hvv.c c hc).2), grd_of (by have := hvv.l; rw [List.length_nil] at h2; omega)]
        rfl
  have k0 := key ms [] rfl
  rw [List.map_nil] at k0
  rw [bind_eq k0]
  unfold m_Lamp___init__ m_Machine___init__
  rw [sb, sb, sb, sb, List.map_reverse]
theorem whichs_ok {m b : Nat} {names : List Str} {ms : List V3} {ps : List Nat} (hm : m ≤ 6) (hb : b < 2 ^ m) (hp : ∀ t ∈ ps, t < 2 ^ m) (hne : ps ≠ []) (hpl : ps.length ≤ 1000) (hl : ms.length ≤ 1000) (hv : ∀ v ∈ ms, okV m v) :
    m__law_whichs (O_Machine.mk names [] [O_Formula.Lamp 0] (ms.map oM)) (ms.map zV) (zL ps) (b : Int) = some true := by
  unfold m__law_whichs
  have h0 : 0 < ps.length := List.length_pos_iff.mpr hne
  rw [zL_len, show (ps.length : Int) - 1 = ((ps.length - 1 : Nat) : Int) by omega, grd_of (gR_nat (by omega)), Int.toNat_natCast]
  rw [brk_inl (forR_pass ?_)]
  · rw [brk_inl (forR_pass ?_)]
    · rw [bind_eq (atI_zLend hne), bind_eq (law_which_eq hm (hp _ (List.getLast_mem hne)) hl hv)]
    · intro x hx
      obtain ⟨v, hv1, rfl⟩ := List.mem_map.mp hx
      show (m__law_onward (b : Int) (v.2.map zX)).bind _ = _
      rw [bind_eq (law_onward3 hm hb (hv v hv1)), bind_eq (law_which_eq hm hb hl hv), ifo_nt]
  · intro x hx
    obtain ⟨k, hk, rfl⟩ := mem_rangeI hx
    rw [bind_eq (atI_zL (show k < ps.length by omega)), show (k : Int) + 1 = ((k + 1 : Nat) : Int) by omega, bind_eq (atI_zL (show k + 1 < ps.length by omega)), bind_eq (law_which_eq hm (hp _ (List.getElem_mem _)) hl hv), ifo_nt]
theorem moves_made (ns : List Int) {m : Nat} (h1 : 1 ≤ m) {n : Nat} (hn : n ≤ 8) : ∃ ms : List V3, (∀ v ∈ ms, okV m v) ∧ ms.length ≤ 8 ∧ forO (fun k18 moves30 =>
    (m__law_cell_at ns (2 + (2 * k18))).bind fun v36 =>
    (m__law_recipe v36 (m : Int)).bind fun v37 =>
    (m__law_cell_at ns (3 + (2 * k18))).bind fun v45 =>
    (m__law_changes v45 (m : Int)).bind fun v46 =>
    grd (moves30.length < 16777216) <|
    lt (moves30 ++ [(v37, v46)]) fun l72 =>
    some l72) (rangeI 0 n) ([] : List ((Int × Int × Int) × (List (Int × (Int × Int × Int))))) = some (ms.map zV) := by
  have h := W.for_r (body := fun k18 moves30 =>
    (m__law_cell_at ns (2 + (2 * k18))).bind fun v36 =>
    (m__law_recipe v36 (m : Int)).bind fun v37 =>
    (m__law_cell_at ns (3 + (2 * k18))).bind fun v45 =>
    (m__law_changes v45 (m : Int)).bind fun v46 =>
    grd (moves30.length < 16777216) <|
    lt (moves30 ++ [(v37, v46)]) fun l72 =>
    some l72) (fun i t => ∃ ms : List V3, (∀ v ∈ ms, okV m v) ∧ ms.length = i ∧ t = ms.map zV) (n := n) (s := []) ⟨[], by simp, rfl, rfl⟩ (by
      rintro i _ hi ⟨ms, hv, hl, rfl⟩
      obtain ⟨c, ec⟩ := cell_at_eq ns (2 + 2 * i)
      obtain ⟨d, ed⟩ := cell_at_eq ns (3 + 2 * i)
      obtain ⟨r, hr, er⟩ := recipe_ok h1 c
      obtain ⟨cs, es, hs1, hs2, hs3⟩ := changes_ok h1 d
      rw [show (2 : Int) + 2 * (i : Int) = ((2 + 2 * i : Nat) : Int) by omega, show (3 : Int) + 2 * (i : Int) = ((3 + 2 * i : Nat) : Int) by omega, bind_eq ec, bind_eq er, bind_eq ed, bind_eq es]
      refine W.grd (by rw [List.length_map]; omega) (W.lt ⟨ms ++ [(r, cs)], ?_, by rw [List.length_append, hl]; rfl, by rw [List.map_append]; rfl⟩)
      intro v h
      rcases List.mem_append.mp h with h | h
      · exact hv v h
      · rw [List.mem_singleton.mp h]
        exact ⟨hr, hs1, hs2, hs3⟩)
  obtain ⟨r, e, ms, hv, hl, rfl⟩ := OP.get h
  exact ⟨ms, hv, by omega, e⟩
theorem law_true (ns : List Int) (hn : ns.length ≤ 63) : m_law ns = some true := by
  unfold m_law
  obtain ⟨v0, e0⟩ := cell_at_eq ns 0
  obtain ⟨v1, e1⟩ := cell_at_eq ns 1
  have e0 : m__law_cell_at ns 0 = some v0 := e0
  have e1 : m__law_cell_at ns 1 = some v1 := e1
  obtain ⟨m, h1, h6, em⟩ := many_of v0
  obtain ⟨n, hn9, en⟩ := mod_nat (v0 / 6) (n := 9) (by decide)
  have en : v0 / 6 % 9 = (n : Int) := en
  rw [bind_eq e0, lt_eq, em, lt_eq, en, bind_eq e1, grd_of (gR_nat (by omega)), Int.toNat_natCast]
  obtain ⟨ms, hv, hl, ems⟩ := moves_made ns h1 (n := n) (by omega)
  rw [bind_eq ems]
  obtain ⟨nm, enm⟩ := machines_eq hv (by omega)
  have hp := Nat.two_pow_pos m
  rw [bind_eq enm, grd_of (gPow1 (by omega)), shl1_nat, grd_of (by omega), lt_eq]
  dsimp only
  obtain ⟨s, hs, es⟩ := mod_nat (v1 / 4) (n := 2 ^ m) hp
  rw [es]
  obtain ⟨ks, k1, k2, ek⟩ := law_walk_ok (cells := cutI ns (some 2) (some 62)) h6 hs (by omega) hv (by have := cutI_len (xs := ns) (lo := some 2) (hi := some 62); omega)
  rw [bind_eq ek]
  dsimp only
  refine W.got ?_
  refine W.brk (P := fun _ => True) ?_ fun _ _ => ?_
  · refine W.ite (fun hc => ?_) (fun _ => trivial)
    rw [zL_len, trail_len]
    refine W.grd (by omega) (W.lt ?_)
    obtain ⟨j, hj, ej⟩ := mod_nat (v0 / 54) (n := ks.length + 1) (by omega)
    rw [ej]
    have hg : atI (zL (trail m ms s ks)) (j : Int) = some ((endp m ms s (ks.take j) : Nat) : Int) := L2.atI_nat (by unfold zL; rw [List.getElem?_map, trail_get ks s j (by omega)]; rfl)
    rw [bind_eq hg]
    obtain ⟨w, ew, hw⟩ := law_wrong_ok (t := endp m ms s (ks.take j)) (way := v1 % 4) (more := v0 / 54) h6 (ms := ms) (by omega) hv
    rw [bind_eq ew, cutI_to, cutI_from]
    have kl := k2
    have va : valid m ms s (ks.take j) := ((valid_app m ms (ks.take j) (ks.drop j) s).mp (by rw [List.take_append_drop]; exact k1)).1
    have zt : (zL ks).take j = zL (ks.take j) := by unfold zL; rw [List.map_take]
    have lt1 : (zL (ks.take j)).length ≤ 100 := by rw [zL_len, List.length_take]; omega
    have lt2 : ((zL ks).drop j).length ≤ 100 := by rw [List.length_drop, zL_len]; omega
    rw [zt]
    refine W.grd (by rw [List.length_singleton]; omega) (W.grd (by rw [List.length_append, List.length_singleton]; omega) ?_)
    rw [List.append_assoc, List.singleton_append, bind_eq (refused_ok (walked_bad (q := ks.take j) (w := w) (rest := (zL ks).drop j) h6 hs hv va (by rw [List.length_take]; omega) hw)), ifo_nt]
    trivial
  · rw [bind_eq (walked_ok h6 hs hv k1 (by omega))]
    show OP (ifo _ _ _) _
    refine W.f (by simp) ?_
    rw [zL_len, trail_len]
    refine W.grd (gR_nat (by omega)) ?_
    rw [Int.toNat_natCast, brk_inl (forR_pass ?_)]
    · refine W.grd (gPow1 (by omega)) ?_
      refine W.grd (by omega) (W.lt ?_)
      obtain ⟨b, hb, eb⟩ := mod_nat (v1 / 256) (n := 2 ^ m) hp
      rw [eb, ← List.map_reverse]
      have tl : (trail m ms s ks).length ≤ 1000 := by rw [trail_len]; omega
      rw [bind_eq (whichs_ok (ms := ms.reverse) h6 hb (trail_lt hs) trail_ne tl (by rw [List.length_reverse]; omega) fun v h => hv v (List.mem_reverse.mp h)), ifo_nt, bind_eq (whichs_ok h6 hb (trail_lt hs) trail_ne tl (by omega) hv)]
      exact rfl
    · intro x hx
      obtain ⟨k, hk, rfl⟩ := mem_rangeI hx
      have : ∃ x, atI (zL (trail m ms s ks)) (k : Int) = some x := ⟨_, atI_zL (by rw [trail_len]; exact hk)⟩
      obtain ⟨x, ex⟩ := this
      rw [bind_eq ex, ifo_nt, bind_eq ex, ifo_ff, bind_eq ex, bind_eq ex, decide_eq_true rfl]
      show ifo false _ _ = _
      rw [ifo_ff]
end B

namespace E
open PySem PySem.Spec PyProof.Rows L2 Z
def spLaw (K : PySem.W.Frag) : Sp := fun vs H Q _ => ∃ (a : Addr) (ns : List Int), vs = [.ref a] ∧ SqL K H a (ns.map V.int) ∧ ns.length ≤ 63 ∧ ∀ H', Q (.bl true) H'
theorem law_ok {P : Program} {w : World} {K : PySem.W.Frag} {mg : Str → Option Value} {base : Heap} (T : Tx K mg) : FnOk P w K mg base CX0 106 T.f_law T.d_law ["_law_script"] (spLaw K) :=
  (ok_law T).imp fun vs H Q E h => by
    obtain ⟨a, ns, rfl, hS, hl, k⟩ := h
    exact ⟨H, _, ns, rfl, Same.refl _, RdL.start hS (RL.map V.int (fun _ => rfl) ns), OP.mk (B.law_true ns hl) fun _ H' _ => k H'⟩
theorem all_mk {l : PySem.W.OpenLaw} {w : World} {K : PySem.W.Frag} {h : Heap} {mg : Str → Option Value} {fa : Addr} (X : K.In h) (G : h.Ns mainGlobals mg) (hfa : mg "law" = some (.ref fa))
    {f0 f1 f2 f3 f4 f5 f6 f7 f8 f9 f10 f11 f12 f13 f14 f15 f16 f17 f18 f19 f20 f21 f22 f23 f24 f25 f26 f27 f28 f29 f30 f31 C_Move C_Machine C_Lamp C_Sure C_Not C_And C_Either C_Or C_EverError C_NoBar C_NoChart C_NoFence C_NoFormula C_NoFrame C_NoLine C_NoMachine C_NoName C_NoStep C_NotShut C_NothingLeft C_TooMany : Addr}
    {od0 an0 : Option Addr} {sl0 : Array (Option Value)} {oc0 kV0 dc0 pm0 cd0 ct0 : Value}
    {od1 an1 : Option Addr} {sl1 : Array (Option Value)} {oc1 kV1 dc1 pm1 cd1 ct1 : Value}
    {od2 an2 : Option Addr} {sl2 : Array (Option Value)} {oc2 kV2 dc2 pm2 cd2 ct2 : Value}
    {od3 an3 : Option Addr} {sl3 : Array (Option Value)} {oc3 kV3 dc3 pm3 cd3 ct3 : Value}
    {od4 an4 : Option Addr} {sl4 : Array (Option Value)} {oc4 kV4 dc4 pm4 cd4 ct4 : Value}
    {od5 an5 : Option Addr} {sl5 : Array (Option Value)} {oc5 kV5 dc5 pm5 cd5 ct5 : Value}
    {od6 an6 : Option Addr} {sl6 : Array (Option Value)} {oc6 kV6 dc6 pm6 cd6 ct6 : Value}
    {od7 an7 : Option Addr} {sl7 : Array (Option Value)} {oc7 kV7 dc7 pm7 cd7 ct7 : Value}
    {od8 an8 : Option Addr} {sl8 : Array (Option Value)} {oc8 kV8 dc8 pm8 cd8 ct8 : Value}
    {od9 an9 : Option Addr} {sl9 : Array (Option Value)} {oc9 kV9 dc9 pm9 cd9 ct9 : Value}
    (a9 : PySem.W.nsIn K mainGlobals "_law_cell_at" = some (some (.ref f9)))
    {od10 an10 : Option Addr} {sl10 : Array (Option Value)} {oc10 kV10 dc10 pm10 cd10 ct10 : Value}
    (a10 : PySem.W.nsIn K mainGlobals "_law_recipe" = some (some (.ref f10)))
    {od11 an11 : Option Addr} {sl11 : Array (Option Value)} {oc11 kV11 dc11 pm11 cd11 ct11 : Value}
    (a11 : PySem.W.nsIn K mainGlobals "_law_changes" = some (some (.ref f11)))
    {od12 an12 : Option Addr} {sl12 : Array (Option Value)} {oc12 kV12 dc12 pm12 cd12 ct12 : Value}
    {od13 an13 : Option Addr} {sl13 : Array (Option Value)} {oc13 kV13 dc13 pm13 cd13 ct13 : Value}
    {od14 an14 : Option Addr} {sl14 : Array (Option Value)} {oc14 kV14 dc14 pm14 cd14 ct14 : Value}
    {od15 an15 : Option Addr} {sl15 : Array (Option Value)} {oc15 kV15 dc15 pm15 cd15 ct15 : Value}
    {od16 an16 : Option Addr} {sl16 : Array (Option Value)} {oc16 kV16 dc16 pm16 cd16 ct16 : Value}
    {od17 an17 : Option Addr} {sl17 : Array (Option Value)} {oc17 kV17 dc17 pm17 cd17 ct17 : Value}
    {od18 an18 : Option Addr} {sl18 : Array (Option Value)} {oc18 kV18 dc18 pm18 cd18 ct18 : Value}
    (a18 : PySem.W.nsIn K mainGlobals "_law_made" = some (some (.ref f18)))
    {od19 an19 : Option Addr} {sl19 : Array (Option Value)} {oc19 kV19 dc19 pm19 cd19 ct19 : Value}
    (a19 : PySem.W.nsIn K mainGlobals "_law_machines" = some (some (.ref f19)))
    {od20 an20 : Option Addr} {sl20 : Array (Option Value)} {oc20 kV20 dc20 pm20 cd20 ct20 : Value}
    (a20 : PySem.W.nsIn K mainGlobals "_law_of_others" = some (some (.ref f20)))
    {od21 an21 : Option Addr} {sl21 : Array (Option Value)} {oc21 kV21 dc21 pm21 cd21 ct21 : Value}
    (a21 : PySem.W.nsIn K mainGlobals "_law_refused" = some (some (.ref f21)))
    {od22 an22 : Option Addr} {sl22 : Array (Option Value)} {oc22 kV22 dc22 pm22 cd22 ct22 : Value}
    (a22 : PySem.W.nsIn K mainGlobals "_law_lit" = some (some (.ref f22)))
    {od23 an23 : Option Addr} {sl23 : Array (Option Value)} {oc23 kV23 dc23 pm23 cd23 ct23 : Value}
    (a23 : PySem.W.nsIn K mainGlobals "_law_due" = some (some (.ref f23)))
    {od24 an24 : Option Addr} {sl24 : Array (Option Value)} {oc24 kV24 dc24 pm24 cd24 ct24 : Value}
    (a24 : PySem.W.nsIn K mainGlobals "_law_onward" = some (some (.ref f24)))
    {od25 an25 : Option Addr} {sl25 : Array (Option Value)} {oc25 kV25 dc25 pm25 cd25 ct25 : Value}
    (a25 : PySem.W.nsIn K mainGlobals "_law_walk" = some (some (.ref f25)))
    {od26 an26 : Option Addr} {sl26 : Array (Option Value)} {oc26 kV26 dc26 pm26 cd26 ct26 : Value}
    {od27 an27 : Option Addr} {sl27 : Array (Option Value)} {oc27 kV27 dc27 pm27 cd27 ct27 : Value}
    (a27 : PySem.W.nsIn K mainGlobals "_law_first" = some (some (.ref f27)))
    {od28 an28 : Option Addr} {sl28 : Array (Option Value)} {oc28 kV28 dc28 pm28 cd28 ct28 : Value}
    (a28 : PySem.W.nsIn K mainGlobals "_law_which" = some (some (.ref f28)))
    {od29 an29 : Option Addr} {sl29 : Array (Option Value)} {oc29 kV29 dc29 pm29 cd29 ct29 : Value}
    (a29 : PySem.W.nsIn K mainGlobals "_law_whichs" = some (some (.ref f29)))
    {od30 an30 : Option Addr} {sl30 : Array (Option Value)} {oc30 kV30 dc30 pm30 cd30 ct30 : Value}
    (a30 : PySem.W.nsIn K mainGlobals "_law_wrong" = some (some (.ref f30)))
    {od31 an31 : Option Addr} {sl31 : Array (Option Value)} {oc31 kV31 dc31 pm31 cd31 ct31 : Value}
    (a31 : PySem.W.nsIn K mainGlobals "law" = some (some (.ref f31)))
    (aC_Move : PySem.W.nsIn K mainGlobals "Move" = some (some (.ref C_Move)))
    (a6 : PySem.W.findIn K (.ref C_Move) "fits" = some (some (.ref f6))) (i6 : PySem.W.isFn K (.ref f6) = true)
    (a7 : PySem.W.findIn K (.ref C_Move) "onward" = some (some (.ref f7))) (i7 : PySem.W.isFn K (.ref f7) = true)
    (a14 : PySem.W.findIn K (.ref C_Move) "__init__" = some (some (.ref f14))) (i14 : PySem.W.isFn K (.ref f14) = true)
    (aC_Machine : PySem.W.nsIn K mainGlobals "Machine" = some (some (.ref C_Machine)))
    (a8 : PySem.W.findIn K (.ref C_Machine) "walked" = some (some (.ref f8))) (i8 : PySem.W.isFn K (.ref f8) = true)
    (a13 : PySem.W.findIn K (.ref C_Machine) "__init__" = some (some (.ref f13))) (i13 : PySem.W.isFn K (.ref f13) = true)
    (a26 : PySem.W.findIn K (.ref C_Machine) "which" = some (some (.ref f26))) (i26 : PySem.W.isFn K (.ref f26) = true)
    (aC_Lamp : PySem.W.nsIn K mainGlobals "Lamp" = some (some (.ref C_Lamp)))
    (a0 : PySem.W.findIn K (.ref C_Lamp) "holds" = some (some (.ref f0))) (i0 : PySem.W.isFn K (.ref f0) = true)
    (a12 : PySem.W.findIn K (.ref C_Lamp) "__init__" = some (some (.ref f12))) (i12 : PySem.W.isFn K (.ref f12) = true)
    (aC_Sure : PySem.W.nsIn K mainGlobals "Sure" = some (some (.ref C_Sure)))
    (a1 : PySem.W.findIn K (.ref C_Sure) "holds" = some (some (.ref f1))) (i1 : PySem.W.isFn K (.ref f1) = true)
    (a17 : PySem.W.findIn K (.ref C_Sure) "__init__" = some (some (.ref f17))) (i17 : PySem.W.isFn K (.ref f17) = true)
    (aC_Not : PySem.W.nsIn K mainGlobals "Not" = some (some (.ref C_Not)))
    (a4 : PySem.W.findIn K (.ref C_Not) "holds" = some (some (.ref f4))) (i4 : PySem.W.isFn K (.ref f4) = true)
    (a16 : PySem.W.findIn K (.ref C_Not) "__init__" = some (some (.ref f16))) (i16 : PySem.W.isFn K (.ref f16) = true)
    (aC_And : PySem.W.nsIn K mainGlobals "And" = some (some (.ref C_And)))
    (a2 : PySem.W.findIn K (.ref C_And) "holds" = some (some (.ref f2))) (i2 : PySem.W.isFn K (.ref f2) = true)
    (a15 : PySem.W.findIn K (.ref C_And) "__init__" = some (some (.ref f15))) (i15 : PySem.W.isFn K (.ref f15) = true)
    (aC_Either : PySem.W.nsIn K mainGlobals "Either" = some (some (.ref C_Either)))
    (a3 : PySem.W.findIn K (.ref C_Either) "holds" = some (some (.ref f3))) (i3 : PySem.W.isFn K (.ref f3) = true)
    (aC_Or : PySem.W.nsIn K mainGlobals "Or" = some (some (.ref C_Or)))
    (a5 : PySem.W.findIn K (.ref C_Or) "holds" = some (some (.ref f5))) (i5 : PySem.W.isFn K (.ref f5) = true)
    (l0 : K.lookup f0 = some ⟨oc0, od0, .func (PySem.W.fnOf "holds" "Lamp.holds" (defArgs (inClass (top 27) 1)) (defBody (inClass (top 27) 1)) (defScope (inClass (top 27) 1)) .none kV0 dc0 pm0 an0 cd0 ct0), sl0⟩) (c0 : PySem.W.codeIn K cd0 "Lamp.holds" = true) (k0 : PySem.W.keepIn K (.ref f0) = true)
    (l1 : K.lookup f1 = some ⟨oc1, od1, .func (PySem.W.fnOf "holds" "Sure.holds" (defArgs (inClass (top 28) 1)) (defBody (inClass (top 28) 1)) (defScope (inClass (top 28) 1)) .none kV1 dc1 pm1 an1 cd1 ct1), sl1⟩) (c1 : PySem.W.codeIn K cd1 "Sure.holds" = true) (k1 : PySem.W.keepIn K (.ref f1) = true)
    (l2 : K.lookup f2 = some ⟨oc2, od2, .func (PySem.W.fnOf "holds" "And.holds" (defArgs (inClass (top 31) 2)) (defBody (inClass (top 31) 2)) (defScope (inClass (top 31) 2)) .none kV2 dc2 pm2 an2 cd2 ct2), sl2⟩) (c2 : PySem.W.codeIn K cd2 "And.holds" = true) (k2 : PySem.W.keepIn K (.ref f2) = true)
    (l3 : K.lookup f3 = some ⟨oc3, od3, .func (PySem.W.fnOf "holds" "Either.holds" (defArgs (inClass (top 32) 2)) (defBody (inClass (top 32) 2)) (defScope (inClass (top 32) 2)) .none kV3 dc3 pm3 an3 cd3 ct3), sl3⟩) (c3 : PySem.W.codeIn K cd3 "Either.holds" = true) (k3 : PySem.W.keepIn K (.ref f3) = true)
    (l4 : K.lookup f4 = some ⟨oc4, od4, .func (PySem.W.fnOf "holds" "Not.holds" (defArgs (inClass (top 29) 1)) (defBody (inClass (top 29) 1)) (defScope (inClass (top 29) 1)) .none kV4 dc4 pm4 an4 cd4 ct4), sl4⟩) (c4 : PySem.W.codeIn K cd4 "Not.holds" = true) (k4 : PySem.W.keepIn K (.ref f4) = true)
    (l5 : K.lookup f5 = some ⟨oc5, od5, .func (PySem.W.fnOf "holds" "Or.holds" (defArgs (inClass (top 33) 2)) (defBody (inClass (top 33) 2)) (defScope (inClass (top 33) 2)) .none kV5 dc5 pm5 an5 cd5 ct5), sl5⟩) (c5 : PySem.W.codeIn K cd5 "Or.holds" = true) (k5 : PySem.W.keepIn K (.ref f5) = true)
    (l6 : K.lookup f6 = some ⟨oc6, od6, .func (PySem.W.fnOf "fits" "Move.fits" (defArgs (inClass (top 22) 1)) (defBody (inClass (top 22) 1)) (defScope (inClass (top 22) 1)) .none kV6 dc6 pm6 an6 cd6 ct6), sl6⟩) (c6 : PySem.W.codeIn K cd6 "Move.fits" = true) (k6 : PySem.W.keepIn K (.ref f6) = true)
    (l7 : K.lookup f7 = some ⟨oc7, od7, .func (PySem.W.fnOf "onward" "Move.onward" (defArgs (inClass (top 22) 2)) (defBody (inClass (top 22) 2)) (defScope (inClass (top 22) 2)) .none kV7 dc7 pm7 an7 cd7 ct7), sl7⟩) (c7 : PySem.W.codeIn K cd7 "Move.onward" = true) (k7 : PySem.W.keepIn K (.ref f7) = true)
    (l8 : K.lookup f8 = some ⟨oc8, od8, .func (PySem.W.fnOf "walked" "Machine.walked" (defArgs (inClass (top 23) 4)) (defBody (inClass (top 23) 4)) (defScope (inClass (top 23) 4)) .none kV8 dc8 pm8 an8 cd8 ct8), sl8⟩) (c8 : PySem.W.codeIn K cd8 "Machine.walked" = true) (k8 : PySem.W.keepIn K (.ref f8) = true)
    (l9 : K.lookup f9 = some ⟨oc9, od9, .func (PySem.W.fnOf "_law_cell_at" "_law_cell_at" (defArgs (top 35)) (defBody (top 35)) (defScope (top 35)) .none kV9 dc9 pm9 an9 cd9 ct9), sl9⟩) (c9 : PySem.W.codeIn K cd9 "_law_cell_at" = true) (k9 : PySem.W.keepIn K (.ref f9) = true)
    (l10 : K.lookup f10 = some ⟨oc10, od10, .func (PySem.W.fnOf "_law_recipe" "_law_recipe" (defArgs (top 37)) (defBody (top 37)) (defScope (top 37)) .none kV10 dc10 pm10 an10 cd10 ct10), sl10⟩) (c10 : PySem.W.codeIn K cd10 "_law_recipe" = true) (k10 : PySem.W.keepIn K (.ref f10) = true)
    (l11 : K.lookup f11 = some ⟨oc11, od11, .func (PySem.W.fnOf "_law_changes" "_law_changes" (defArgs (top 40)) (defBody (top 40)) (defScope (top 40)) .none kV11 dc11 pm11 an11 cd11 ct11), sl11⟩) (c11 : PySem.W.codeIn K cd11 "_law_changes" = true) (k11 : PySem.W.keepIn K (.ref f11) = true)
    (l12 : K.lookup f12 = some ⟨oc12, od12, .func (PySem.W.fnOf "__init__" "Lamp.__init__" (defArgs (inClass (top 27) 0)) (defBody (inClass (top 27) 0)) (defScope (inClass (top 27) 0)) .none kV12 dc12 pm12 an12 cd12 ct12), sl12⟩) (c12 : PySem.W.codeIn K cd12 "Lamp.__init__" = true) (k12 : PySem.W.keepIn K (.ref f12) = true)
    (l13 : K.lookup f13 = some ⟨oc13, od13, .func (PySem.W.fnOf "__init__" "Machine.__init__" (defArgs (inClass (top 23) 0)) (defBody (inClass (top 23) 0)) (defScope (inClass (top 23) 0)) .none kV13 dc13 pm13 an13 cd13 ct13), sl13⟩) (c13 : PySem.W.codeIn K cd13 "Machine.__init__" = true) (k13 : PySem.W.keepIn K (.ref f13) = true)
    (l14 : K.lookup f14 = some ⟨oc14, od14, .func (PySem.W.fnOf "__init__" "Move.__init__" (defArgs (inClass (top 22) 0)) (defBody (inClass (top 22) 0)) (defScope (inClass (top 22) 0)) .none kV14 dc14 pm14 an14 cd14 ct14), sl14⟩) (c14 : PySem.W.codeIn K cd14 "Move.__init__" = true) (k14 : PySem.W.keepIn K (.ref f14) = true)
    (l15 : K.lookup f15 = some ⟨oc15, od15, .func (PySem.W.fnOf "__init__" "Joined.__init__" (defArgs (inClass (top 30) 0)) (defBody (inClass (top 30) 0)) (defScope (inClass (top 30) 0)) .none kV15 dc15 pm15 an15 cd15 ct15), sl15⟩) (c15 : PySem.W.codeIn K cd15 "Joined.__init__" = true) (k15 : PySem.W.keepIn K (.ref f15) = true)
    (l16 : K.lookup f16 = some ⟨oc16, od16, .func (PySem.W.fnOf "__init__" "Not.__init__" (defArgs (inClass (top 29) 0)) (defBody (inClass (top 29) 0)) (defScope (inClass (top 29) 0)) .none kV16 dc16 pm16 an16 cd16 ct16), sl16⟩) (c16 : PySem.W.codeIn K cd16 "Not.__init__" = true) (k16 : PySem.W.keepIn K (.ref f16) = true)
    (l17 : K.lookup f17 = some ⟨oc17, od17, .func (PySem.W.fnOf "__init__" "Sure.__init__" (defArgs (inClass (top 28) 0)) (defBody (inClass (top 28) 0)) (defScope (inClass (top 28) 0)) .none kV17 dc17 pm17 an17 cd17 ct17), sl17⟩) (c17 : PySem.W.codeIn K cd17 "Sure.__init__" = true) (k17 : PySem.W.keepIn K (.ref f17) = true)
    (l18 : K.lookup f18 = some ⟨oc18, od18, .func (PySem.W.fnOf "_law_made" "_law_made" (defArgs (top 38)) (defBody (top 38)) (defScope (top 38)) .none kV18 dc18 pm18 an18 cd18 ct18), sl18⟩) (c18 : PySem.W.codeIn K cd18 "_law_made" = true) (k18 : PySem.W.keepIn K (.ref f18) = true)
    (l19 : K.lookup f19 = some ⟨oc19, od19, .func (PySem.W.fnOf "_law_machines" "_law_machines" (defArgs (top 43)) (defBody (top 43)) (defScope (top 43)) .none kV19 dc19 pm19 an19 cd19 ct19), sl19⟩) (c19 : PySem.W.codeIn K cd19 "_law_machines" = true) (k19 : PySem.W.keepIn K (.ref f19) = true)
    (l20 : K.lookup f20 = some ⟨oc20, od20, .func (PySem.W.fnOf "_law_of_others" "_law_of_others" (defArgs (top 46)) (defBody (top 46)) (defScope (top 46)) .none kV20 dc20 pm20 an20 cd20 ct20), sl20⟩) (c20 : PySem.W.codeIn K cd20 "_law_of_others" = true) (k20 : PySem.W.keepIn K (.ref f20) = true)
    (l21 : K.lookup f21 = some ⟨oc21, od21, .func (PySem.W.fnOf "_law_refused" "_law_refused" (defArgs (top 47)) (defBody (top 47)) (defScope (top 47)) .none kV21 dc21 pm21 an21 cd21 ct21), sl21⟩) (c21 : PySem.W.codeIn K cd21 "_law_refused" = true) (k21 : PySem.W.keepIn K (.ref f21) = true)
    (l22 : K.lookup f22 = some ⟨oc22, od22, .func (PySem.W.fnOf "_law_lit" "_law_lit" (defArgs (top 36)) (defBody (top 36)) (defScope (top 36)) .none kV22 dc22 pm22 an22 cd22 ct22), sl22⟩) (c22 : PySem.W.codeIn K cd22 "_law_lit" = true) (k22 : PySem.W.keepIn K (.ref f22) = true)
    (l23 : K.lookup f23 = some ⟨oc23, od23, .func (PySem.W.fnOf "_law_due" "_law_due" (defArgs (top 39)) (defBody (top 39)) (defScope (top 39)) .none kV23 dc23 pm23 an23 cd23 ct23), sl23⟩) (c23 : PySem.W.codeIn K cd23 "_law_due" = true) (k23 : PySem.W.keepIn K (.ref f23) = true)
    (l24 : K.lookup f24 = some ⟨oc24, od24, .func (PySem.W.fnOf "_law_onward" "_law_onward" (defArgs (top 41)) (defBody (top 41)) (defScope (top 41)) .none kV24 dc24 pm24 an24 cd24 ct24), sl24⟩) (c24 : PySem.W.codeIn K cd24 "_law_onward" = true) (k24 : PySem.W.keepIn K (.ref f24) = true)
    (l25 : K.lookup f25 = some ⟨oc25, od25, .func (PySem.W.fnOf "_law_walk" "_law_walk" (defArgs (top 44)) (defBody (top 44)) (defScope (top 44)) .none kV25 dc25 pm25 an25 cd25 ct25), sl25⟩) (c25 : PySem.W.codeIn K cd25 "_law_walk" = true) (k25 : PySem.W.keepIn K (.ref f25) = true)
    (l26 : K.lookup f26 = some ⟨oc26, od26, .func (PySem.W.fnOf "which" "Machine.which" (defArgs (inClass (top 23) 3)) (defBody (inClass (top 23) 3)) (defScope (inClass (top 23) 3)) .none kV26 dc26 pm26 an26 cd26 ct26), sl26⟩) (c26 : PySem.W.codeIn K cd26 "Machine.which" = true) (k26 : PySem.W.keepIn K (.ref f26) = true)
    (l27 : K.lookup f27 = some ⟨oc27, od27, .func (PySem.W.fnOf "_law_first" "_law_first" (defArgs (top 42)) (defBody (top 42)) (defScope (top 42)) .none kV27 dc27 pm27 an27 cd27 ct27), sl27⟩) (c27 : PySem.W.codeIn K cd27 "_law_first" = true) (k27 : PySem.W.keepIn K (.ref f27) = true)
    (l28 : K.lookup f28 = some ⟨oc28, od28, .func (PySem.W.fnOf "_law_which" "_law_which" (defArgs (top 48)) (defBody (top 48)) (defScope (top 48)) .none kV28 dc28 pm28 an28 cd28 ct28), sl28⟩) (c28 : PySem.W.codeIn K cd28 "_law_which" = true) (k28 : PySem.W.keepIn K (.ref f28) = true)
    (l29 : K.lookup f29 = some ⟨oc29, od29, .func (PySem.W.fnOf "_law_whichs" "_law_whichs" (defArgs (top 49)) (defBody (top 49)) (defScope (top 49)) .none kV29 dc29 pm29 an29 cd29 ct29), sl29⟩) (c29 : PySem.W.codeIn K cd29 "_law_whichs" = true) (k29 : PySem.W.keepIn K (.ref f29) = true)
    (l30 : K.lookup f30 = some ⟨oc30, od30, .func (PySem.W.fnOf "_law_wrong" "_law_wrong" (defArgs (top 45)) (defBody (top 45)) (defScope (top 45)) .none kV30 dc30 pm30 an30 cd30 ct30), sl30⟩) (c30 : PySem.W.codeIn K cd30 "_law_wrong" = true) (k30 : PySem.W.keepIn K (.ref f30) = true)
    (l31 : K.lookup f31 = some ⟨oc31, od31, .func (PySem.W.fnOf "law" "law" (defArgs (top 50)) (defBody (top 50)) (defScope (top 50)) .none kV31 dc31 pm31 an31 cd31 ct31), sl31⟩) (c31 : PySem.W.codeIn K cd31 "law" = true) (k31 : PySem.W.keepIn K (.ref f31) = true)
    (pg_Move : PySem.W.plainGet K C_Move Str.empty = true) (hd_Move : PySem.W.hasDictIn K C_Move = true) (po_Move : PySem.W.plainOver K C_Move = true) (sa_Move : PySem.W.findIn K (.ref C_Move) "__setattr__" = some (some (.builtin "object.__setattr__")))
    (mk_Move : PySem.W.makesIn K C_Move = true) (kc_Move : PySem.W.keepIn K (.ref C_Move) = true)
    (pg_Machine : PySem.W.plainGet K C_Machine Str.empty = true) (hd_Machine : PySem.W.hasDictIn K C_Machine = true) (po_Machine : PySem.W.plainOver K C_Machine = true) (sa_Machine : PySem.W.findIn K (.ref C_Machine) "__setattr__" = some (some (.builtin "object.__setattr__")))
    (mk_Machine : PySem.W.makesIn K C_Machine = true) (kc_Machine : PySem.W.keepIn K (.ref C_Machine) = true)
    (pg_Lamp : PySem.W.plainGet K C_Lamp Str.empty = true) (hd_Lamp : PySem.W.hasDictIn K C_Lamp = true) (po_Lamp : PySem.W.plainOver K C_Lamp = true) (sa_Lamp : PySem.W.findIn K (.ref C_Lamp) "__setattr__" = some (some (.builtin "object.__setattr__")))
    (mk_Lamp : PySem.W.makesIn K C_Lamp = true) (kc_Lamp : PySem.W.keepIn K (.ref C_Lamp) = true)
    (pg_Sure : PySem.W.plainGet K C_Sure Str.empty = true) (hd_Sure : PySem.W.hasDictIn K C_Sure = true) (po_Sure : PySem.W.plainOver K C_Sure = true) (sa_Sure : PySem.W.findIn K (.ref C_Sure) "__setattr__" = some (some (.builtin "object.__setattr__")))
    (mk_Sure : PySem.W.makesIn K C_Sure = true) (kc_Sure : PySem.W.keepIn K (.ref C_Sure) = true)
    (pg_Not : PySem.W.plainGet K C_Not Str.empty = true) (hd_Not : PySem.W.hasDictIn K C_Not = true) (po_Not : PySem.W.plainOver K C_Not = true) (sa_Not : PySem.W.findIn K (.ref C_Not) "__setattr__" = some (some (.builtin "object.__setattr__")))
    (mk_Not : PySem.W.makesIn K C_Not = true) (kc_Not : PySem.W.keepIn K (.ref C_Not) = true)
    (pg_And : PySem.W.plainGet K C_And Str.empty = true) (hd_And : PySem.W.hasDictIn K C_And = true) (po_And : PySem.W.plainOver K C_And = true) (sa_And : PySem.W.findIn K (.ref C_And) "__setattr__" = some (some (.builtin "object.__setattr__")))
    (mk_And : PySem.W.makesIn K C_And = true) (kc_And : PySem.W.keepIn K (.ref C_And) = true)
    (pg_Either : PySem.W.plainGet K C_Either Str.empty = true) (hd_Either : PySem.W.hasDictIn K C_Either = true) (po_Either : PySem.W.plainOver K C_Either = true) (sa_Either : PySem.W.findIn K (.ref C_Either) "__setattr__" = some (some (.builtin "object.__setattr__")))
    (mk_Either : PySem.W.makesIn K C_Either = true) (kc_Either : PySem.W.keepIn K (.ref C_Either) = true)
    (am_Either___init__ : PySem.W.findIn K (.ref C_Either) "__init__" = some (some (.ref f15)))
    (pg_Or : PySem.W.plainGet K C_Or Str.empty = true) (hd_Or : PySem.W.hasDictIn K C_Or = true) (po_Or : PySem.W.plainOver K C_Or = true) (sa_Or : PySem.W.findIn K (.ref C_Or) "__setattr__" = some (some (.builtin "object.__setattr__")))
    (mk_Or : PySem.W.makesIn K C_Or = true) (kc_Or : PySem.W.keepIn K (.ref C_Or) = true)
    (am_Or___init__ : PySem.W.findIn K (.ref C_Or) "__init__" = some (some (.ref f15)))
    (aC_EverError : PySem.W.nsIn K mainGlobals "EverError" = some (some (.ref C_EverError)))
    (aC_NoBar : PySem.W.nsIn K mainGlobals "NoBar" = some (some (.ref C_NoBar)))
    (aC_NoChart : PySem.W.nsIn K mainGlobals "NoChart" = some (some (.ref C_NoChart)))
    (aC_NoFence : PySem.W.nsIn K mainGlobals "NoFence" = some (some (.ref C_NoFence)))
    (aC_NoFormula : PySem.W.nsIn K mainGlobals "NoFormula" = some (some (.ref C_NoFormula)))
    (aC_NoFrame : PySem.W.nsIn K mainGlobals "NoFrame" = some (some (.ref C_NoFrame)))
    (aC_NoLine : PySem.W.nsIn K mainGlobals "NoLine" = some (some (.ref C_NoLine)))
    (aC_NoMachine : PySem.W.nsIn K mainGlobals "NoMachine" = some (some (.ref C_NoMachine)))
    (aC_NoName : PySem.W.nsIn K mainGlobals "NoName" = some (some (.ref C_NoName)))
    (aC_NoStep : PySem.W.nsIn K mainGlobals "NoStep" = some (some (.ref C_NoStep)))
    (aC_NotShut : PySem.W.nsIn K mainGlobals "NotShut" = some (some (.ref C_NotShut)))
    (aC_NothingLeft : PySem.W.nsIn K mainGlobals "NothingLeft" = some (some (.ref C_NothingLeft)))
    (aC_TooMany : PySem.W.nsIn K mainGlobals "TooMany" = some (some (.ref C_TooMany)))
    (kc1_NoBar : PySem.W.isClsIn K C_NoBar = true) (kt_NoBar : PySem.W.typeIn K (.ref C_NoBar) = some (.type "type")) (ks_NoBar : PySem.W.subIn K (.ref C_NoBar) (.ref C_NoBar) = some true)
    (ki_NoStep_NoBar : PySem.W.subIn K (.ref C_NoStep) (.ref C_NoBar) = some false)
    (kc1_NoChart : PySem.W.isClsIn K C_NoChart = true) (kt_NoChart : PySem.W.typeIn K (.ref C_NoChart) = some (.type "type")) (ks_NoChart : PySem.W.subIn K (.ref C_NoChart) (.ref C_NoChart) = some true)
    (ki_NoStep_NoChart : PySem.W.subIn K (.ref C_NoStep) (.ref C_NoChart) = some false)
    (kc1_NoFence : PySem.W.isClsIn K C_NoFence = true) (kt_NoFence : PySem.W.typeIn K (.ref C_NoFence) = some (.type "type")) (ks_NoFence : PySem.W.subIn K (.ref C_NoFence) (.ref C_NoFence) = some true)
    (ki_NoStep_NoFence : PySem.W.subIn K (.ref C_NoStep) (.ref C_NoFence) = some false)
    (kc1_NoFormula : PySem.W.isClsIn K C_NoFormula = true) (kt_NoFormula : PySem.W.typeIn K (.ref C_NoFormula) = some (.type "type")) (ks_NoFormula : PySem.W.subIn K (.ref C_NoFormula) (.ref C_NoFormula) = some true)
    (ki_NoStep_NoFormula : PySem.W.subIn K (.ref C_NoStep) (.ref C_NoFormula) = some false)
    (kc1_NoFrame : PySem.W.isClsIn K C_NoFrame = true) (kt_NoFrame : PySem.W.typeIn K (.ref C_NoFrame) = some (.type "type")) (ks_NoFrame : PySem.W.subIn K (.ref C_NoFrame) (.ref C_NoFrame) = some true)
    (ki_NoStep_NoFrame : PySem.W.subIn K (.ref C_NoStep) (.ref C_NoFrame) = some false)
    (kc1_NoLine : PySem.W.isClsIn K C_NoLine = true) (kt_NoLine : PySem.W.typeIn K (.ref C_NoLine) = some (.type "type")) (ks_NoLine : PySem.W.subIn K (.ref C_NoLine) (.ref C_NoLine) = some true)
    (ki_NoStep_NoLine : PySem.W.subIn K (.ref C_NoStep) (.ref C_NoLine) = some false)
    (kc1_NoMachine : PySem.W.isClsIn K C_NoMachine = true) (kt_NoMachine : PySem.W.typeIn K (.ref C_NoMachine) = some (.type "type")) (ks_NoMachine : PySem.W.subIn K (.ref C_NoMachine) (.ref C_NoMachine) = some true)
    (ki_NoStep_NoMachine : PySem.W.subIn K (.ref C_NoStep) (.ref C_NoMachine) = some false)
    (kc1_NoName : PySem.W.isClsIn K C_NoName = true) (kt_NoName : PySem.W.typeIn K (.ref C_NoName) = some (.type "type")) (ks_NoName : PySem.W.subIn K (.ref C_NoName) (.ref C_NoName) = some true)
    (ki_NoStep_NoName : PySem.W.subIn K (.ref C_NoStep) (.ref C_NoName) = some false)
    (kc1_NotShut : PySem.W.isClsIn K C_NotShut = true) (kt_NotShut : PySem.W.typeIn K (.ref C_NotShut) = some (.type "type")) (ks_NotShut : PySem.W.subIn K (.ref C_NotShut) (.ref C_NotShut) = some true)
    (ki_NoStep_NotShut : PySem.W.subIn K (.ref C_NoStep) (.ref C_NotShut) = some false)
    (kc1_NothingLeft : PySem.W.isClsIn K C_NothingLeft = true) (kt_NothingLeft : PySem.W.typeIn K (.ref C_NothingLeft) = some (.type "type")) (ks_NothingLeft : PySem.W.subIn K (.ref C_NothingLeft) (.ref C_NothingLeft) = some true)
    (ki_NoStep_NothingLeft : PySem.W.subIn K (.ref C_NoStep) (.ref C_NothingLeft) = some false)
    (kc1_TooMany : PySem.W.isClsIn K C_TooMany = true) (kt_TooMany : PySem.W.typeIn K (.ref C_TooMany) = some (.type "type")) (ks_TooMany : PySem.W.subIn K (.ref C_TooMany) (.ref C_TooMany) = some true)
    (ki_NoStep_TooMany : PySem.W.subIn K (.ref C_NoStep) (.ref C_TooMany) = some false)
    (nA_And_parts : PySem.W.findIn K (.ref C_And) "parts" = some none)
    (nA_Either_parts : PySem.W.findIn K (.ref C_Either) "parts" = some none)
    (nA_Lamp_at : PySem.W.findIn K (.ref C_Lamp) "at" = some none)
    (nA_Machine_bads : PySem.W.findIn K (.ref C_Machine) "bads" = some none)
    (nA_Machine_moves : PySem.W.findIn K (.ref C_Machine) "moves" = some none)
    (nA_Machine_names : PySem.W.findIn K (.ref C_Machine) "names" = some none)
    (nA_Machine_starts : PySem.W.findIn K (.ref C_Machine) "starts" = some none)
    (nA_Move_changes : PySem.W.findIn K (.ref C_Move) "changes" = some none)
    (nA_Move_guard : PySem.W.findIn K (.ref C_Move) "guard" = some none)
    (nA_Not_part : PySem.W.findIn K (.ref C_Not) "part" = some none)
    (nA_Or_parts : PySem.W.findIn K (.ref C_Or) "parts" = some none)
    (nA_Sure_truth : PySem.W.findIn K (.ref C_Sure) "truth" = some none)
    (xx_NoStep : PySem.W.excIn K C_NoStep [.type "ValueError", .type "Exception", .type "BaseException", .type "object"] "ValueError.__new__" = true)
    (xk_NoStep : PySem.W.keepIn K (.ref C_NoStep) = true)
    (xb_NoStep : PySem.W.subIn K (.ref C_NoStep) (.type "BaseException") = some true)
    (xt_NoStep : PySem.W.typeIn K (.ref C_NoStep) = some (.type "type"))
    (xb_EverError : PySem.W.subIn K (.ref C_EverError) (.type "BaseException") = some true)
    (xd_EverError : PySem.W.hasDictIn K C_EverError = true)
    (xt_EverError : PySem.W.typeIn K (.ref C_EverError) = some (.type "type"))
    (ki_NoStep_EverError : PySem.W.subIn K (.ref C_NoStep) (.ref C_EverError) = some true)
    (xd_NoStep : PySem.W.hasDictIn K C_NoStep = true)
    (ki_NoStep_NoStep : PySem.W.subIn K (.ref C_NoStep) (.ref C_NoStep) = some true)
    (xg_NoStep : PySem.W.findIn K (.ref C_NoStep) "__getattribute__" = some (some (.builtin "BaseException.__getattribute__")))
    (xa_NoStep : PySem.W.findIn K (.ref C_NoStep) "__getattr__" = some none)
    (xl_NoStep : PySem.W.findIn K (.ref C_NoStep) "__class__" = some (some (.builtin "object.__class__")))
    (xn_o : PySem.W.specialIn K (.builtin "object.__class__") "__get__" = some (some (.builtin "getset_descriptor.__get__")))
    (xh_o : PySem.W.takesIn K (.builtin "object.__class__") = some true)
    (xm_NoStep : PySem.W.mroIn K C_NoStep (.type "object") = some true)
    (ib_NoStep_ValueError : PySem.W.subIn K (.ref C_NoStep) (.type "ValueError") = some true)
    (z_ValueError : PySem.W.nsIn K mainGlobals "ValueError" = some none)
    (z_bool : PySem.W.nsIn K mainGlobals "bool" = some none)
    (z_enumerate : PySem.W.nsIn K mainGlobals "enumerate" = some none)
    (z_int : PySem.W.nsIn K mainGlobals "int" = some none)
    (z_isinstance : PySem.W.nsIn K mainGlobals "isinstance" = some none)
    (z_len : PySem.W.nsIn K mainGlobals "len" = some none)
    (z_list : PySem.W.nsIn K mainGlobals "list" = some none)
    (z_range : PySem.W.nsIn K mainGlobals "range" = some none)
    (z_reversed : PySem.W.nsIn K mainGlobals "reversed" = some none) :
    ∃ fd : FuncData, (∀ (s : Shared) (v : Value), BindsTo s fd ⟨[v], []⟩ [("_law_script", v)]) ∧ ∀ base : Heap, K.In base → base.Ns mainGlobals mg → FnOk l.prog w K mg base CX0 106 fa fd ["_law_script"] (spLaw K) := by
  have e := hfa.symm.trans (PySem.W.mg_of X G a31)
  cases e
  exact ⟨_, fun s v => .of_eq rfl, fun base _ _ => law_ok (T := {
    c := (⟨C_Move, C_Machine, C_Lamp, C_Sure, C_Not, C_And, C_Either, C_Or, C_EverError, C_NoBar, C_NoChart, C_NoFence, C_NoFormula, C_NoFrame, C_NoLine, C_NoMachine, C_NoName, C_NoStep, C_NotShut, C_NothingLeft, C_TooMany⟩),
    m__law_cell_at := (PySem.W.mg_of X G a9),
    m__law_recipe := (PySem.W.mg_of X G a10),
    m__law_changes := (PySem.W.mg_of X G a11),
    m__law_made := (PySem.W.mg_of X G a18),
    m__law_machines := (PySem.W.mg_of X G a19),
    m__law_of_others := (PySem.W.mg_of X G a20),
    m__law_refused := (PySem.W.mg_of X G a21),
    m__law_lit := (PySem.W.mg_of X G a22),
    m__law_due := (PySem.W.mg_of X G a23),
    m__law_onward := (PySem.W.mg_of X G a24),
    m__law_walk := (PySem.W.mg_of X G a25),
    m__law_first := (PySem.W.mg_of X G a27),
    m__law_which := (PySem.W.mg_of X G a28),
    m__law_whichs := (PySem.W.mg_of X G a29),
    m__law_wrong := (PySem.W.mg_of X G a30),
    m_law := (PySem.W.mg_of X G a31),
    m_Move := (PySem.W.mg_of X G aC_Move),
    m_Machine := (PySem.W.mg_of X G aC_Machine),
    m_Lamp := (PySem.W.mg_of X G aC_Lamp),
    m_Sure := (PySem.W.mg_of X G aC_Sure),
    m_Not := (PySem.W.mg_of X G aC_Not),
    m_And := (PySem.W.mg_of X G aC_And),
    m_Either := (PySem.W.mg_of X G aC_Either),
    m_Or := (PySem.W.mg_of X G aC_Or),
    f_Lamp_holds := (_),
    d_Lamp_holds := (_),
    F_Lamp_holds := (fun_mk (st := (inClass (top 27) 1)) l0 c0 k0),
    b_Lamp_holds := ((fun_mk (st := (inClass (top 27) 1)) l0 c0 k0).binds (ps := ["self", "stand"]) fun _ _ _ _ _ _ us hl => match us, hl with | [_, _], _ => rfl),
    f_Sure_holds := (_),
    d_Sure_holds := (_),
    F_Sure_holds := (fun_mk (st := (inClass (top 28) 1)) l1 c1 k1),
    b_Sure_holds := ((fun_mk (st := (inClass (top 28) 1)) l1 c1 k1).binds (ps := ["self", "stand"]) fun _ _ _ _ _ _ us hl => match us, hl with | [_, _], _ => rfl),
    f_And_holds := (_),
    d_And_holds := (_),
    F_And_holds := (fun_mk (st := (inClass (top 31) 2)) l2 c2 k2),
    b_And_holds := ((fun_mk (st := (inClass (top 31) 2)) l2 c2 k2).binds (ps := ["self", "stand"]) fun _ _ _ _ _ _ us hl => match us, hl with | [_, _], _ => rfl),
    f_Either_holds := (_),
    d_Either_holds := (_),
    F_Either_holds := (fun_mk (st := (inClass (top 32) 2)) l3 c3 k3),
    b_Either_holds := ((fun_mk (st := (inClass (top 32) 2)) l3 c3 k3).binds (ps := ["self", "stand"]) fun _ _ _ _ _ _ us hl => match us, hl with | [_, _], _ => rfl),
    f_Not_holds := (_),
    d_Not_holds := (_),
    F_Not_holds := (fun_mk (st := (inClass (top 29) 1)) l4 c4 k4),
    b_Not_holds := ((fun_mk (st := (inClass (top 29) 1)) l4 c4 k4).binds (ps := ["self", "stand"]) fun _ _ _ _ _ _ us hl => match us, hl with | [_, _], _ => rfl),
    f_Or_holds := (_),
    d_Or_holds := (_),
    F_Or_holds := (fun_mk (st := (inClass (top 33) 2)) l5 c5 k5),
    b_Or_holds := ((fun_mk (st := (inClass (top 33) 2)) l5 c5 k5).binds (ps := ["self", "stand"]) fun _ _ _ _ _ _ us hl => match us, hl with | [_, _], _ => rfl),
    f_Move_fits := (_),
    d_Move_fits := (_),
    F_Move_fits := (fun_mk (st := (inClass (top 22) 1)) l6 c6 k6),
    b_Move_fits := ((fun_mk (st := (inClass (top 22) 1)) l6 c6 k6).binds (ps := ["self", "stand"]) fun _ _ _ _ _ _ us hl => match us, hl with | [_, _], _ => rfl),
    f_Move_onward := (_),
    d_Move_onward := (_),
    F_Move_onward := (fun_mk (st := (inClass (top 22) 2)) l7 c7 k7),
    b_Move_onward := ((fun_mk (st := (inClass (top 22) 2)) l7 c7 k7).binds (ps := ["self", "stand"]) fun _ _ _ _ _ _ us hl => match us, hl with | [_, _], _ => rfl),
    f_Machine_walked := (_),
    d_Machine_walked := (_),
    F_Machine_walked := (fun_mk (st := (inClass (top 23) 4)) l8 c8 k8),
    b_Machine_walked := ((fun_mk (st := (inClass (top 23) 4)) l8 c8 k8).binds (ps := ["self", "stand", "picks"]) fun _ _ _ _ _ _ us hl => match us, hl with | [_, _, _], _ => rfl),
    f__law_cell_at := (_),
    d__law_cell_at := (_),
    F__law_cell_at := (fun_mk (st := (top 35)) l9 c9 k9),
    b__law_cell_at := ((fun_mk (st := (top 35)) l9 c9 k9).binds (ps := ["_law_script", "_law_k"]) fun _ _ _ _ _ _ us hl => match us, hl with | [_, _], _ => rfl),
    f__law_recipe := (_),
    d__law_recipe := (_),
    F__law_recipe := (fun_mk (st := (top 37)) l10 c10 k10),
    b__law_recipe := ((fun_mk (st := (top 37)) l10 c10 k10).binds (ps := ["_law_cell", "_law_many"]) fun _ _ _ _ _ _ us hl => match us, hl with | [_, _], _ => rfl),
    f__law_changes := (_),
    d__law_changes := (_),
    F__law_changes := (fun_mk (st := (top 40)) l11 c11 k11),
    b__law_changes := ((fun_mk (st := (top 40)) l11 c11 k11).binds (ps := ["_law_cell", "_law_many"]) fun _ _ _ _ _ _ us hl => match us, hl with | [_, _], _ => rfl),
    f_Lamp___init__ := (_),
    d_Lamp___init__ := (_),
    F_Lamp___init__ := (fun_mk (st := (inClass (top 27) 0)) l12 c12 k12),
    b_Lamp___init__ := ((fun_mk (st := (inClass (top 27) 0)) l12 c12 k12).binds (ps := ["self", "at"]) fun _ _ _ _ _ _ us hl => match us, hl with | [_, _], _ => rfl),
    f_Machine___init__ := (_),
    d_Machine___init__ := (_),
    F_Machine___init__ := (fun_mk (st := (inClass (top 23) 0)) l13 c13 k13),
    b_Machine___init__ := ((fun_mk (st := (inClass (top 23) 0)) l13 c13 k13).binds (ps := ["self", "names", "starts", "bads", "moves"]) fun _ _ _ _ _ _ us hl => match us, hl with | [_, _, _, _, _], _ => rfl),
    f_Move___init__ := (_),
    d_Move___init__ := (_),
    F_Move___init__ := (fun_mk (st := (inClass (top 22) 0)) l14 c14 k14),
    b_Move___init__ := ((fun_mk (st := (inClass (top 22) 0)) l14 c14 k14).binds (ps := ["self", "guard", "changes"]) fun _ _ _ _ _ _ us hl => match us, hl with | [_, _, _], _ => rfl),
    f_Joined___init__ := (_),
    d_Joined___init__ := (_),
    F_Joined___init__ := (fun_mk (st := (inClass (top 30) 0)) l15 c15 k15),
    b_Joined___init__ := ((fun_mk (st := (inClass (top 30) 0)) l15 c15 k15).binds (ps := ["self", "parts"]) fun _ _ _ _ _ _ us hl => match us, hl with | [_, _], _ => rfl),
    f_Not___init__ := (_),
    d_Not___init__ := (_),
    F_Not___init__ := (fun_mk (st := (inClass (top 29) 0)) l16 c16 k16),
    b_Not___init__ := ((fun_mk (st := (inClass (top 29) 0)) l16 c16 k16).binds (ps := ["self", "part"]) fun _ _ _ _ _ _ us hl => match us, hl with | [_, _], _ => rfl),
    f_Sure___init__ := (_),
    d_Sure___init__ := (_),
    F_Sure___init__ := (fun_mk (st := (inClass (top 28) 0)) l17 c17 k17),
    b_Sure___init__ := ((fun_mk (st := (inClass (top 28) 0)) l17 c17 k17).binds (ps := ["self", "truth"]) fun _ _ _ _ _ _ us hl => match us, hl with | [_, _], _ => rfl),
    f__law_made := (_),
    d__law_made := (_),
    F__law_made := (fun_mk (st := (top 38)) l18 c18 k18),
    b__law_made := ((fun_mk (st := (top 38)) l18 c18 k18).binds (ps := ["_law_recipe_here"]) fun _ _ _ _ _ _ us hl => match us, hl with | [_], _ => rfl),
    f__law_machines := (_),
    d__law_machines := (_),
    F__law_machines := (fun_mk (st := (top 43)) l19 c19 k19),
    b__law_machines := ((fun_mk (st := (top 43)) l19 c19 k19).binds (ps := ["_law_many", "_law_moves"]) fun _ _ _ _ _ _ us hl => match us, hl with | [_, _], _ => rfl),
    f__law_of_others := (_),
    d__law_of_others := (_),
    F__law_of_others := (fun_mk (st := (top 46)) l20 c20 k20),
    b__law_of_others := ((fun_mk (st := (top 46)) l20 c20 k20).binds (ps := ["_law_e"]) fun _ _ _ _ _ _ us hl => match us, hl with | [_], _ => rfl),
    f__law_refused := (_),
    d__law_refused := (_),
    F__law_refused := (fun_mk (st := (top 47)) l21 c21 k21),
    b__law_refused := ((fun_mk (st := (top 47)) l21 c21 k21).binds (ps := ["_law_machine", "_law_stand", "_law_picks"]) fun _ _ _ _ _ _ us hl => match us, hl with | [_, _, _], _ => rfl),
    f__law_lit := (_),
    d__law_lit := (_),
    F__law_lit := (fun_mk (st := (top 36)) l22 c22 k22),
    b__law_lit := ((fun_mk (st := (top 36)) l22 c22 k22).binds (ps := ["_law_stand", "_law_lamp"]) fun _ _ _ _ _ _ us hl => match us, hl with | [_, _], _ => rfl),
    f__law_due := (_),
    d__law_due := (_),
    F__law_due := (fun_mk (st := (top 39)) l23 c23 k23),
    b__law_due := ((fun_mk (st := (top 39)) l23 c23 k23).binds (ps := ["_law_recipe_here", "_law_stand"]) fun _ _ _ _ _ _ us hl => match us, hl with | [_, _], _ => rfl),
    f__law_onward := (_),
    d__law_onward := (_),
    F__law_onward := (fun_mk (st := (top 41)) l24 c24 k24),
    b__law_onward := ((fun_mk (st := (top 41)) l24 c24 k24).binds (ps := ["_law_stand", "_law_changes_here"]) fun _ _ _ _ _ _ us hl => match us, hl with | [_, _], _ => rfl),
    f__law_walk := (_),
    d__law_walk := (_),
    F__law_walk := (fun_mk (st := (top 44)) l25 c25 k25),
    b__law_walk := ((fun_mk (st := (top 44)) l25 c25 k25).binds (ps := ["_law_moves", "_law_stand", "_law_cells"]) fun _ _ _ _ _ _ us hl => match us, hl with | [_, _, _], _ => rfl),
    f_Machine_which := (_),
    d_Machine_which := (_),
    F_Machine_which := (fun_mk (st := (inClass (top 23) 3)) l26 c26 k26),
    b_Machine_which := ((fun_mk (st := (inClass (top 23) 3)) l26 c26 k26).binds (ps := ["self", "stand", "other"]) fun _ _ _ _ _ _ us hl => match us, hl with | [_, _, _], _ => rfl),
    f__law_first := (_),
    d__law_first := (_),
    F__law_first := (fun_mk (st := (top 42)) l27 c27 k27),
    b__law_first := ((fun_mk (st := (top 42)) l27 c27 k27).binds (ps := ["_law_moves", "_law_stand", "_law_other"]) fun _ _ _ _ _ _ us hl => match us, hl with | [_, _, _], _ => rfl),
    f__law_which := (_),
    d__law_which := (_),
    F__law_which := (fun_mk (st := (top 48)) l28 c28 k28),
    b__law_which := ((fun_mk (st := (top 48)) l28 c28 k28).binds (ps := ["_law_machine", "_law_moves", "_law_stand", "_law_other"]) fun _ _ _ _ _ _ us hl => match us, hl with | [_, _, _, _], _ => rfl),
    f__law_whichs := (_),
    d__law_whichs := (_),
    F__law_whichs := (fun_mk (st := (top 49)) l29 c29 k29),
    b__law_whichs := ((fun_mk (st := (top 49)) l29 c29 k29).binds (ps := ["_law_machine", "_law_moves", "_law_passed", "_law_beside"]) fun _ _ _ _ _ _ us hl => match us, hl with | [_, _, _, _], _ => rfl),
    f__law_wrong := (_),
    d__law_wrong := (_),
    F__law_wrong := (fun_mk (st := (top 45)) l30 c30 k30),
    b__law_wrong := ((fun_mk (st := (top 45)) l30 c30 k30).binds (ps := ["_law_moves", "_law_stand", "_law_way", "_law_more"]) fun _ _ _ _ _ _ us hl => match us, hl with | [_, _, _, _], _ => rfl),
    f_law := (_),
    d_law := (_),
    F_law := (fun_mk (st := (top 50)) l31 c31 k31),
    b_law := ((fun_mk (st := (top 50)) l31 c31 k31).binds (ps := ["_law_script"]) fun _ _ _ _ _ _ us hl => match us, hl with | [_], _ => rfl),
    l_Move := (⟨pg_Move, hd_Move, po_Move, sa_Move⟩),
    k_Move := (⟨mk_Move, a14, i14, kc_Move⟩),
    l_Machine := (⟨pg_Machine, hd_Machine, po_Machine, sa_Machine⟩),
    k_Machine := (⟨mk_Machine, a13, i13, kc_Machine⟩),
    l_Lamp := (⟨pg_Lamp, hd_Lamp, po_Lamp, sa_Lamp⟩),
    k_Lamp := (⟨mk_Lamp, a12, i12, kc_Lamp⟩),
    l_Sure := (⟨pg_Sure, hd_Sure, po_Sure, sa_Sure⟩),
    k_Sure := (⟨mk_Sure, a17, i17, kc_Sure⟩),
    l_Not := (⟨pg_Not, hd_Not, po_Not, sa_Not⟩),
    k_Not := (⟨mk_Not, a16, i16, kc_Not⟩),
    l_And := (⟨pg_And, hd_And, po_And, sa_And⟩),
    k_And := (⟨mk_And, a15, i15, kc_And⟩),
    l_Either := (⟨pg_Either, hd_Either, po_Either, sa_Either⟩),
    k_Either := (⟨mk_Either, am_Either___init__, i15, kc_Either⟩),
    l_Or := (⟨pg_Or, hd_Or, po_Or, sa_Or⟩),
    k_Or := (⟨mk_Or, am_Or___init__, i15, kc_Or⟩),
    i_NoStep_NoBar := (kit_f kc1_NoBar kt_NoBar ki_NoStep_NoBar ks_NoBar),
    i_NoStep_NoChart := (kit_f kc1_NoChart kt_NoChart ki_NoStep_NoChart ks_NoChart),
    i_NoStep_NoFence := (kit_f kc1_NoFence kt_NoFence ki_NoStep_NoFence ks_NoFence),
    i_NoStep_NoFormula := (kit_f kc1_NoFormula kt_NoFormula ki_NoStep_NoFormula ks_NoFormula),
    i_NoStep_NoFrame := (kit_f kc1_NoFrame kt_NoFrame ki_NoStep_NoFrame ks_NoFrame),
    i_NoStep_NoLine := (kit_f kc1_NoLine kt_NoLine ki_NoStep_NoLine ks_NoLine),
    i_NoStep_NoMachine := (kit_f kc1_NoMachine kt_NoMachine ki_NoStep_NoMachine ks_NoMachine),
    i_NoStep_NoName := (kit_f kc1_NoName kt_NoName ki_NoStep_NoName ks_NoName),
    i_NoStep_NotShut := (kit_f kc1_NotShut kt_NotShut ki_NoStep_NotShut ks_NotShut),
    i_NoStep_NothingLeft := (kit_f kc1_NothingLeft kt_NothingLeft ki_NoStep_NothingLeft ks_NothingLeft),
    i_NoStep_TooMany := (kit_f kc1_TooMany kt_TooMany ki_NoStep_TooMany ks_TooMany),
    a_And_parts := (nA_And_parts),
    a_Either_parts := (nA_Either_parts),
    a_Lamp_at := (nA_Lamp_at),
    a_Machine_bads := (nA_Machine_bads),
    a_Machine_moves := (nA_Machine_moves),
    a_Machine_names := (nA_Machine_names),
    a_Machine_starts := (nA_Machine_starts),
    a_Move_changes := (nA_Move_changes),
    a_Move_guard := (nA_Move_guard),
    a_Not_part := (nA_Not_part),
    a_Or_parts := (nA_Or_parts),
    a_Sure_truth := (nA_Sure_truth),
    t_And_holds := (⟨a2, i2, k2⟩),
    t_Either_holds := (⟨a3, i3, k3⟩),
    t_Lamp_holds := (⟨a0, i0, k0⟩),
    t_Machine_walked := (⟨a8, i8, k8⟩),
    t_Machine_which := (⟨a26, i26, k26⟩),
    t_Move_fits := (⟨a6, i6, k6⟩),
    t_Move_onward := (⟨a7, i7, k7⟩),
    t_Not_holds := (⟨a4, i4, k4⟩),
    t_Or_holds := (⟨a5, i5, k5⟩),
    t_Sure_holds := (⟨a1, i1, k1⟩),
    m_EverError := (PySem.W.mg_of X G aC_EverError),
    m_NoBar := (PySem.W.mg_of X G aC_NoBar),
    m_NoChart := (PySem.W.mg_of X G aC_NoChart),
    m_NoFence := (PySem.W.mg_of X G aC_NoFence),
    m_NoFormula := (PySem.W.mg_of X G aC_NoFormula),
    m_NoFrame := (PySem.W.mg_of X G aC_NoFrame),
    m_NoLine := (PySem.W.mg_of X G aC_NoLine),
    m_NoMachine := (PySem.W.mg_of X G aC_NoMachine),
    m_NoName := (PySem.W.mg_of X G aC_NoName),
    m_NoStep := (PySem.W.mg_of X G aC_NoStep),
    m_NotShut := (PySem.W.mg_of X G aC_NotShut),
    m_NothingLeft := (PySem.W.mg_of X G aC_NothingLeft),
    m_TooMany := (PySem.W.mg_of X G aC_TooMany),
    e_NoStep := (⟨xx_NoStep, xk_NoStep, xb_NoStep, xt_NoStep⟩),
    x_NoStep_EverError := (PySem.W.exm_ref xb_EverError xd_EverError xt_EverError ki_NoStep_EverError),
    x_NoStep_NoStep := (PySem.W.exm_ref xb_NoStep xd_NoStep xt_NoStep ki_NoStep_NoStep),
    xc_NoStep := (⟨xg_NoStep, xa_NoStep, xb_NoStep, xd_NoStep, xl_NoStep, xn_o, xh_o, xm_NoStep⟩),
    ib_NoStep_ValueError := (ib_NoStep_ValueError),
    n_ValueError := (PySem.W.mg_none_of X G z_ValueError),
    n_bool := (PySem.W.mg_none_of X G z_bool),
    n_enumerate := (PySem.W.mg_none_of X G z_enumerate),
    n_int := (PySem.W.mg_none_of X G z_int),
    n_isinstance := (PySem.W.mg_none_of X G z_isinstance),
    n_len := (PySem.W.mg_none_of X G z_len),
    n_list := (PySem.W.mg_none_of X G z_list),
    n_range := (PySem.W.mg_none_of X G z_range),
    n_reversed := (PySem.W.mg_none_of X G z_reversed) })⟩
end E
open PySem PySem.W PyProof.Rows
set_option maxRecDepth 100000 in
set_option maxHeartbeats 0 in
theorem PySem.Challenge.cw_evernever_k15_which_and_walked_holds : PySem.Challenge.rw_evernever_k15_which_and_walked.Holds := by
  w_on; o_law; k_head; (case hw => w_witness2)
  k_fill
  refine L2.walk_of (l := PySem.Challenge.rw_evernever_k15_which_and_walked) (n := 63) (k := 106) (x := "_law_script") (CX := fun _ => L2.CX0) (sp := fun w => E.spLaw _) rfl (by decide) rfl ⟨rfl, by decide, by decide⟩ (fun w h Y => PySem.W.kIn_of Y) ?F (fun _ _ a ns hl _ hS => ⟨a, ns, rfl, hS, hl, fun _ => rfl⟩) (fun _ _ _ _ _ h => h)
  case F =>
    intro w mg fa h KX G hmg
    refine' E.all_mk KX G hmg ?a9 ?a10 ?a11 ?a18 ?a19 ?a20 ?a21 ?a22 ?a23 ?a24 ?a25 ?a27 ?a28 ?a29 ?a30 ?a31 ?aC_Move ?a6 ?i6 ?a7 ?i7 ?a14 ?i14 ?aC_Machine ?a8 ?i8 ?a13 ?i13 ?a26 ?i26 ?aC_Lamp ?a0 ?i0 ?a12 ?i12 ?aC_Sure ?a1 ?i1 ?a17 ?i17 ?aC_Not ?a4 ?i4 ?a16 ?i16 ?aC_And ?a2 ?i2 ?a15 ?i15 ?aC_Either ?a3 ?i3 ?aC_Or ?a5 ?i5 ?l0 ?c0 ?k0 ?l1 ?c1 ?k1 ?l2 ?c2 ?k2 ?l3 ?c3 ?k3 ?l4 ?c4 ?k4 ?l5 ?c5 ?k5 ?l6 ?c6 ?k6 ?l7 ?c7 ?k7 ?l8 ?c8 ?k8 ?l9 ?c9 ?k9 ?l10 ?c10 ?k10 ?l11 ?c11 ?k11 ?l12 ?c12 ?k12 ?l13 ?c13 ?k13 ?l14 ?c14 ?k14 ?l15 ?c15 ?k15 ?l16 ?c16 ?k16 ?l17 ?c17 ?k17 ?l18 ?c18 ?k18 ?l19 ?c19 ?k19 ?l20 ?c20 ?k20 ?l21 ?c21 ?k21 ?l22 ?c22 ?k22 ?l23 ?c23 ?k23 ?l24 ?c24 ?k24 ?l25 ?c25 ?k25 ?l26 ?c26 ?k26 ?l27 ?c27 ?k27 ?l28 ?c28 ?k28 ?l29 ?c29 ?k29 ?l30 ?c30 ?k30 ?l31 ?c31 ?k31 ?pg_Move ?hd_Move ?po_Move ?sa_Move ?mk_Move ?kc_Move ?pg_Machine ?hd_Machine ?po_Machine ?sa_Machine ?mk_Machine ?kc_Machine ?pg_Lamp ?hd_Lamp ?po_Lamp ?sa_Lamp ?mk_Lamp ?kc_Lamp ?pg_Sure ?hd_Sure ?po_Sure ?sa_Sure ?mk_Sure ?kc_Sure ?pg_Not ?hd_Not ?po_Not ?sa_Not ?mk_Not ?kc_Not ?pg_And ?hd_And ?po_And ?sa_And ?mk_And ?kc_And ?pg_Either ?hd_Either ?po_Either ?sa_Either ?mk_Either ?kc_Either ?am_Either___init__ ?pg_Or ?hd_Or ?po_Or ?sa_Or ?mk_Or ?kc_Or ?am_Or___init__ ?aC_EverError ?aC_NoBar ?aC_NoChart ?aC_NoFence ?aC_NoFormula ?aC_NoFrame ?aC_NoLine ?aC_NoMachine ?aC_NoName ?aC_NoStep ?aC_NotShut ?aC_NothingLeft ?aC_TooMany ?kc1_NoBar ?kt_NoBar ?ks_NoBar ?ki_NoStep_NoBar ?kc1_NoChart ?kt_NoChart ?ks_NoChart ?ki_NoStep_NoChart ?kc1_NoFence ?kt_NoFence ?ks_NoFence ?ki_NoStep_NoFence ?kc1_NoFormula ?kt_NoFormula ?ks_NoFormula ?ki_NoStep_NoFormula ?kc1_NoFrame ?kt_NoFrame ?ks_NoFrame ?ki_NoStep_NoFrame ?kc1_NoLine ?kt_NoLine ?ks_NoLine ?ki_NoStep_NoLine ?kc1_NoMachine ?kt_NoMachine ?ks_NoMachine ?ki_NoStep_NoMachine ?kc1_NoName ?kt_NoName ?ks_NoName ?ki_NoStep_NoName ?kc1_NotShut ?kt_NotShut ?ks_NotShut ?ki_NoStep_NotShut ?kc1_NothingLeft ?kt_NothingLeft ?ks_NothingLeft ?ki_NoStep_NothingLeft ?kc1_TooMany ?kt_TooMany ?ks_TooMany ?ki_NoStep_TooMany ?nA_And_parts ?nA_Either_parts ?nA_Lamp_at ?nA_Machine_bads ?nA_Machine_moves ?nA_Machine_names ?nA_Machine_starts ?nA_Move_changes ?nA_Move_guard ?nA_Not_part ?nA_Or_parts ?nA_Sure_truth ?xx_NoStep ?xk_NoStep ?xb_NoStep ?xt_NoStep ?xb_EverError ?xd_EverError ?xt_EverError ?ki_NoStep_EverError ?xd_NoStep ?ki_NoStep_NoStep ?xg_NoStep ?xa_NoStep ?xl_NoStep ?xn_o ?xh_o ?xm_NoStep ?ib_NoStep_ValueError ?z_ValueError ?z_bool ?z_enumerate ?z_int ?z_isinstance ?z_len ?z_list ?z_range ?z_reversed
    (case a9 => k_is)
    (case a10 => k_is)
    (case a11 => k_is)
    (case a18 => k_is)
    (case a19 => k_is)
    (case a20 => k_is)
    (case a21 => k_is)
    (case a22 => k_is)
    (case a23 => k_is)
    (case a24 => k_is)
    (case a25 => k_is)
    (case a27 => k_is)
    (case a28 => k_is)
    (case a29 => k_is)
    (case a30 => k_is)
    (case a31 => k_is)
    (case aC_Move => k_is)
    (case a6 => k_is)
    (case i6 => k_is)
    (case a7 => k_is)
    (case i7 => k_is)
    (case a14 => k_is)
    (case i14 => k_is)
    (case aC_Machine => k_is)
    (case a8 => k_is)
    (case i8 => k_is)
    (case a13 => k_is)
    (case i13 => k_is)
    (case a26 => k_is)
    (case i26 => k_is)
    (case aC_Lamp => k_is)
    (case a0 => k_is)
    (case i0 => k_is)
    (case a12 => k_is)
    (case i12 => k_is)
    (case aC_Sure => k_is)
    (case a1 => k_is)
    (case i1 => k_is)
    (case a17 => k_is)
    (case i17 => k_is)
    (case aC_Not => k_is)
    (case a4 => k_is)
    (case i4 => k_is)
    (case a16 => k_is)
    (case i16 => k_is)
    (case aC_And => k_is)
    (case a2 => k_is)
    (case i2 => k_is)
    (case a15 => k_is)
    (case i15 => k_is)
    (case aC_Either => k_is)
    (case a3 => k_is)
    (case i3 => k_is)
    (case aC_Or => k_is)
    (case a5 => k_is)
    (case i5 => k_is)
    (case l0 => k_is)
    (case c0 => k_is)
    (case k0 => k_is)
    (case l1 => k_is)
    (case c1 => k_is)
    (case k1 => k_is)
    (case l2 => k_is)
    (case c2 => k_is)
    (case k2 => k_is)
    (case l3 => k_is)
    (case c3 => k_is)
    (case k3 => k_is)
    (case l4 => k_is)
    (case c4 => k_is)
    (case k4 => k_is)
    (case l5 => k_is)
    (case c5 => k_is)
    (case k5 => k_is)
    (case l6 => k_is)
    (case c6 => k_is)
    (case k6 => k_is)
    (case l7 => k_is)
    (case c7 => k_is)
    (case k7 => k_is)
    (case l8 => k_is)
    (case c8 => k_is)
    (case k8 => k_is)
    (case l9 => k_is)
    (case c9 => k_is)
    (case k9 => k_is)
    (case l10 => k_is)
    (case c10 => k_is)
    (case k10 => k_is)
    (case l11 => k_is)
    (case c11 => k_is)
    (case k11 => k_is)
    (case l12 => k_is)
    (case c12 => k_is)
    (case k12 => k_is)
    (case l13 => k_is)
    (case c13 => k_is)
    (case k13 => k_is)
    (case l14 => k_is)
    (case c14 => k_is)
    (case k14 => k_is)
    (case l15 => k_is)
    (case c15 => k_is)
    (case k15 => k_is)
    (case l16 => k_is)
    (case c16 => k_is)
    (case k16 => k_is)
    (case l17 => k_is)
    (case c17 => k_is)
    (case k17 => k_is)
    (case l18 => k_is)
    (case c18 => k_is)
    (case k18 => k_is)
    (case l19 => k_is)
    (case c19 => k_is)
    (case k19 => k_is)
    (case l20 => k_is)
    (case c20 => k_is)
    (case k20 => k_is)
    (case l21 => k_is)
    (case c21 => k_is)
    (case k21 => k_is)
    (case l22 => k_is)
    (case c22 => k_is)
    (case k22 => k_is)
    (case l23 => k_is)
    (case c23 => k_is)
    (case k23 => k_is)
    (case l24 => k_is)
    (case c24 => k_is)
    (case k24 => k_is)
    (case l25 => k_is)
    (case c25 => k_is)
    (case k25 => k_is)
    (case l26 => k_is)
    (case c26 => k_is)
    (case k26 => k_is)
    (case l27 => k_is)
    (case c27 => k_is)
    (case k27 => k_is)
    (case l28 => k_is)
    (case c28 => k_is)
    (case k28 => k_is)
    (case l29 => k_is)
    (case c29 => k_is)
    (case k29 => k_is)
    (case l30 => k_is)
    (case c30 => k_is)
    (case k30 => k_is)
    (case l31 => k_is)
    (case c31 => k_is)
    (case k31 => k_is)
    (case pg_Move => k_is)
    (case hd_Move => k_is)
    (case po_Move => k_is)
    (case sa_Move => k_is)
    (case mk_Move => k_is)
    (case kc_Move => k_is)
    (case pg_Machine => k_is)
    (case hd_Machine => k_is)
    (case po_Machine => k_is)
    (case sa_Machine => k_is)
    (case mk_Machine => k_is)
    (case kc_Machine => k_is)
    (case pg_Lamp => k_is)
    (case hd_Lamp => k_is)
    (case po_Lamp => k_is)
    (case sa_Lamp => k_is)
    (case mk_Lamp => k_is)
    (case kc_Lamp => k_is)
    (case pg_Sure => k_is)
    (case hd_Sure => k_is)
    (case po_Sure => k_is)
    (case sa_Sure => k_is)
    (case mk_Sure => k_is)
    (case kc_Sure => k_is)
    (case pg_Not => k_is)
    (case hd_Not => k_is)
    (case po_Not => k_is)
    (case sa_Not => k_is)
    (case mk_Not => k_is)
    (case kc_Not => k_is)
    (case pg_And => k_is)
    (case hd_And => k_is)
    (case po_And => k_is)
    (case sa_And => k_is)
    (case mk_And => k_is)
    (case kc_And => k_is)
    (case pg_Either => k_is)
    (case hd_Either => k_is)
    (case po_Either => k_is)
    (case sa_Either => k_is)
    (case mk_Either => k_is)
    (case kc_Either => k_is)
    (case am_Either___init__ => k_is)
    (case pg_Or => k_is)
    (case hd_Or => k_is)
    (case po_Or => k_is)
    (case sa_Or => k_is)
    (case mk_Or => k_is)
    (case kc_Or => k_is)
    (case am_Or___init__ => k_is)
    (case aC_EverError => k_is)
    (case aC_NoBar => k_is)
    (case aC_NoChart => k_is)
    (case aC_NoFence => k_is)
    (case aC_NoFormula => k_is)
    (case aC_NoFrame => k_is)
    (case aC_NoLine => k_is)
    (case aC_NoMachine => k_is)
    (case aC_NoName => k_is)
    (case aC_NoStep => k_is)
    (case aC_NotShut => k_is)
    (case aC_NothingLeft => k_is)
    (case aC_TooMany => k_is)
    (case kc1_NoBar => k_is)
    (case kt_NoBar => k_is)
    (case ks_NoBar => k_is)
    (case ki_NoStep_NoBar => k_is)
    (case kc1_NoChart => k_is)
    (case kt_NoChart => k_is)
    (case ks_NoChart => k_is)
    (case ki_NoStep_NoChart => k_is)
    (case kc1_NoFence => k_is)
    (case kt_NoFence => k_is)
    (case ks_NoFence => k_is)
    (case ki_NoStep_NoFence => k_is)
    (case kc1_NoFormula => k_is)
    (case kt_NoFormula => k_is)
    (case ks_NoFormula => k_is)
    (case ki_NoStep_NoFormula => k_is)
    (case kc1_NoFrame => k_is)
    (case kt_NoFrame => k_is)
    (case ks_NoFrame => k_is)
    (case ki_NoStep_NoFrame => k_is)
    (case kc1_NoLine => k_is)
    (case kt_NoLine => k_is)
    (case ks_NoLine => k_is)
    (case ki_NoStep_NoLine => k_is)
    (case kc1_NoMachine => k_is)
    (case kt_NoMachine => k_is)
    (case ks_NoMachine => k_is)
    (case ki_NoStep_NoMachine => k_is)
    (case kc1_NoName => k_is)
    (case kt_NoName => k_is)
    (case ks_NoName => k_is)
    (case ki_NoStep_NoName => k_is)
    (case kc1_NotShut => k_is)
    (case kt_NotShut => k_is)
    (case ks_NotShut => k_is)
    (case ki_NoStep_NotShut => k_is)
    (case kc1_NothingLeft => k_is)
    (case kt_NothingLeft => k_is)
    (case ks_NothingLeft => k_is)
    (case ki_NoStep_NothingLeft => k_is)
    (case kc1_TooMany => k_is)
    (case kt_TooMany => k_is)
    (case ks_TooMany => k_is)
    (case ki_NoStep_TooMany => k_is)
    (case nA_And_parts => k_is)
    (case nA_Either_parts => k_is)
    (case nA_Lamp_at => k_is)
    (case nA_Machine_bads => k_is)
    (case nA_Machine_moves => k_is)
    (case nA_Machine_names => k_is)
    (case nA_Machine_starts => k_is)
    (case nA_Move_changes => k_is)
    (case nA_Move_guard => k_is)
    (case nA_Not_part => k_is)
    (case nA_Or_parts => k_is)
    (case nA_Sure_truth => k_is)
    (case xx_NoStep => k_exc)
    (case xk_NoStep => k_is)
    (case xb_NoStep => k_is)
    (case xt_NoStep => k_is)
    (case xb_EverError => k_is)
    (case xd_EverError => k_is)
    (case xt_EverError => k_is)
    (case ki_NoStep_EverError => k_is)
    (case xd_NoStep => k_is)
    (case ki_NoStep_NoStep => k_is)
    (case xg_NoStep => k_is)
    (case xa_NoStep => k_is)
    (case xl_NoStep => k_is)
    (case xn_o => k_is)
    (case xh_o => k_is)
    (case xm_NoStep => k_is)
    (case ib_NoStep_ValueError => k_is)
    (case z_ValueError => k_is)
    (case z_bool => k_is)
    (case z_enumerate => k_is)
    (case z_int => k_is)
    (case z_isinstance => k_is)
    (case z_len => k_is)
    (case z_list => k_is)
    (case z_range => k_is)
    (case z_reversed => k_is)
#print axioms PySem.Challenge.cw_evernever_k15_which_and_walked_holds
