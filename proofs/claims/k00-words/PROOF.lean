import PyProof.Rows.All
import Wide.All
import OpenK.AllK
import Wide.FinOn
import HandS.ForMost
import HandS.ForExc
import HandS.ExcIs
import HandS.Small
import HandS.Text
import HandS.Conv
import HandS.HotCalls
import PyProof.Draws
import KE.KDictSum
import HandS.IsInst
import HandS.WideBits
import HandS.Wide
import HandS.WideMore
import HandS.Steps
import HandS.SortRule
import HandS.SortInts
import HandS.TupLe
import HandS.RevTup
import HandS.Rev
import HandS.Iter
import KE.KDictList
import HandS.DictTup
import HandS.SortOrd
import HandS.Deep
import HandS.DictSubView
import HandS.ReplaceLit
import HandS.ReplaceList
import PySem.Challenge.RW_evernever_k00_words
set_option Elab.async false
set_option linter.all false
set_option maxRecDepth 100000
set_option maxHeartbeats 8000000
namespace Z
open PySem PySem.Spec PyProof.Rows L2

/-! ### Option as the monad of a mirror: what an answer is wanted for -/
def OP {α : Type} (m : Option α) (A : α → Prop) : Prop := match m with
  | some a => A a
  | none => False
theorem OP.bind {α β : Type} {m : Option α} {k : α → Option β} {A : β → Prop} (h : OP (m.bind k) A) : ∃ x, m = some x ∧ OP (k x) A := by
  cases m with
  | none => exact h.elim
  | some x => exact ⟨x, rfl, h⟩
theorem OP.of {α β : Type} {m : Option α} {k : α → Option β} {A : β → Prop} (h : OP (m.bind k) A) : OP m (fun x => OP (k x) A) := by
  cases m with
  | none => exact h.elim
  | some x => exact h
theorem OP.some {α : Type} {a : α} {A : α → Prop} (h : OP (some a) A) : A a := h
theorem OP.get {α : Type} {m : Option α} {A : α → Prop} (h : OP m A) : ∃ a, m = .some a ∧ A a := by
  cases m with
  | none => exact h.elim
  | some x => exact ⟨x, rfl, h⟩
theorem OP.mk {α : Type} {m : Option α} {a : α} {A : α → Prop} (e : m = .some a) (h : A a) : OP m A := by subst e; exact h
theorem OP.mono {α : Type} {m : Option α} {A B : α → Prop} (h : OP m A) (f : ∀ a, A a → B a) : OP m B := by
  cases m with
  | none => exact h.elim
  | some x => exact f _ h
/-- a guard -/
@[irreducible] def grd {β : Type} (c : Prop) [Decidable c] (k : Option β) : Option β := if c then k else none
theorem OP.grd {β : Type} {c : Prop} {_ : Decidable c} {k : Option β} {A : β → Prop} (h : OP (Z.grd c k) A) : c ∧ OP k A := by
  unfold Z.grd at h
  by_cases hc : c
  · rw [if_pos hc] at h
    exact ⟨hc, h⟩
  · rw [if_neg hc] at h
    exact h.elim
theorem grd_some {β : Type} {c : Prop} {_ : Decidable c} {k : Option β} {r : β} (h : Z.grd c k = some r) : c ∧ k = some r := by
  unfold Z.grd at h
  by_cases hc : c
  · rw [if_pos hc] at h
    exact ⟨hc, h⟩
  · rw [if_neg hc] at h
    cases h
theorem grd_of {β : Type} {c : Prop} [Decidable c] {k : Option β} (h : c) : Z.grd c k = k := by
  unfold Z.grd
  rw [if_pos h]
theorem bind_some {α β : Type} {m : Option α} {k : α → Option β} {r : β} (h : m.bind k = some r) : ∃ x, m = some x ∧ k x = some r := by
  cases m with
  | none => cases h
  | some x => exact ⟨x, rfl, h⟩
/-- a mirror's test -/
@[irreducible] def ifo {α : Type} (c : Bool) (m n : Option α) : Option α := if c = true then m else n
theorem ifo_eq {α : Type} (c : Bool) (m n : Option α) : ifo c m n = if c = true then m else n := by unfold ifo; rfl
theorem ifo_t {α : Type} {c : Bool} {m n : Option α} (h : c = true) : ifo c m n = m := by rw [ifo_eq, if_pos h]
theorem ifo_f {α : Type} {c : Bool} {m n : Option α} (h : c = false) : ifo c m n = n := by rw [ifo_eq, if_neg (by rw [h]; exact Bool.false_ne_true)]
/-- a mirror's loops: without, with an early answer -/
def forO' {α σ : Type} (body : α → σ → Option σ) : List α → σ → Option σ
  | [], s => some s
  | x :: xs, s => (body x s).bind fun s' => forO' body xs s'
@[irreducible] def forO {α σ : Type} (body : α → σ → Option σ) (xs : List α) (s : σ) : Option σ := forO' body xs s
def forR' {α σ ρ : Type} (body : α → σ → Option (σ ⊕ ρ)) : List α → σ → Option (σ ⊕ ρ)
  | [], s => some (.inl s)
  | x :: xs, s => (body x s).bind fun r => match r with
    | .inl s' => forR' body xs s'
    | .inr v => some (.inr v)
@[irreducible] def forR {α σ ρ : Type} (body : α → σ → Option (σ ⊕ ρ)) (xs : List α) (s : σ) : Option (σ ⊕ ρ) := forR' body xs s
def whileO' {σ : Type} (c : σ → Option Bool) (body : σ → Option σ) : Nat → σ → Option σ
  | 0, _ => none
  | n + 1, s => (c s).bind fun b => if b = true then (body s).bind fun s' => whileO' c body n s' else some s
@[irreducible] def whileO {σ : Type} (c : σ → Option Bool) (body : σ → Option σ) (n : Nat) (s : σ) : Option σ := whileO' c body n s
def whileR' {σ ρ : Type} (c : σ → Option Bool) (body : σ → Option (σ ⊕ ρ)) : Nat → σ → Option (σ ⊕ ρ)
  | 0, _ => none
  | n + 1, s => (c s).bind fun b => if b = true then (body s).bind fun r => match r with
    | .inl s' => whileR' c body n s'
    | .inr v => some (.inr v) else some (.inl s)
@[irreducible] def whileR {σ ρ : Type} (c : σ → Option Bool) (body : σ → Option (σ ⊕ ρ)) (n : Nat) (s : σ) : Option (σ ⊕ ρ) := whileR' c body n s
theorem forO_nil {α σ : Type} {body : α → σ → Option σ} {s : σ} : forO body [] s = some s := by unfold forO; rfl
theorem forO_cons {α σ : Type} {body : α → σ → Option σ} {x : α} {xs : List α} {s : σ} : forO body (x :: xs) s = (body x s).bind fun s' => forO body xs s' := by unfold forO; rfl
theorem forR_nil {α σ ρ : Type} {body : α → σ → Option (σ ⊕ ρ)} {s : σ} : forR body [] s = some (.inl s) := by unfold forR; rfl
theorem forR_cons {α σ ρ : Type} {body : α → σ → Option (σ ⊕ ρ)} {x : α} {xs : List α} {s : σ} : forR body (x :: xs) s = (body x s).bind fun r => match r with
    | .inl s' => forR body xs s'
    | .inr v => some (.inr v) := by unfold forR; rfl
theorem whileO_zero {σ : Type} {c : σ → Option Bool} {body : σ → Option σ} {s : σ} : whileO c body 0 s = none := by unfold whileO; rfl
theorem whileO_succ {σ : Type} {c : σ → Option Bool} {body : σ → Option σ} {n : Nat} {s : σ} : whileO c body (n + 1) s = (c s).bind fun b => if b = true then (body s).bind fun s' => whileO c body n s' else some s := by unfold whileO; rfl
theorem whileR_zero {σ ρ : Type} {c : σ → Option Bool} {body : σ → Option (σ ⊕ ρ)} {s : σ} : whileR c body 0 s = none := by unfold whileR; rfl
theorem whileR_succ {σ ρ : Type} {c : σ → Option Bool} {body : σ → Option (σ ⊕ ρ)} {n : Nat} {s : σ} : whileR c body (n + 1) s = (c s).bind fun b => if b = true then (body s).bind fun r => match r with
    | .inl s' => whileR c body n s'
    | .inr v => some (.inr v) else some (.inl s) := by unfold whileR; rfl
def rangeI (lo : Int) (n : Nat) : List Int := (List.range n).map fun (i : Nat) => lo + (i : Int)

/-! ### a datum of Lean's at a value of the heap -/
structure Rep (K : PySem.W.Frag) (α : Type) where
  R : Hp → V → α → Prop
  mono : ∀ {H H' : Hp} {v : V} {x : α}, Same H H' → R H v x → R H' v x
abbrev RL {K : PySem.W.Frag} {α : Type} (τ : Rep K α) (H : Hp) (ws : List V) (xs : List α) : Prop := Paired (τ.R H) ws xs
theorem RL.mono {K : PySem.W.Frag} {α : Type} {τ : Rep K α} {H H' : Hp} (e : Same H H') : ∀ {ws : List V} {xs : List α}, RL τ H ws xs → RL τ H' ws xs
  | _, _, .nil => .nil
  | _, _, .cons a b => .cons (τ.mono e a) (RL.mono e b)
theorem RL.length {K : PySem.W.Frag} {α : Type} {τ : Rep K α} {H : Hp} {ws : List V} {xs : List α} (h : RL τ H ws xs) : ws.length = xs.length := Paired.length h
theorem RL.app {K : PySem.W.Frag} {α : Type} {τ : Rep K α} {H : Hp} : ∀ {ws ws' : List V} {xs xs' : List α}, RL τ H ws xs → RL τ H ws' xs' → RL τ H (ws ++ ws') (xs ++ xs')
  | _, _, _, _, .nil, s => s
  | _, _, _, _, .cons a b, s => .cons a (RL.app b s)
theorem RL.get {K : PySem.W.Frag} {α : Type} {τ : Rep K α} {H : Hp} : ∀ {ws : List V} {xs : List α} {i : Nat} {x : α}, RL τ H ws xs → xs[i]? = some x → ∃ w, ws[i]? = some w ∧ τ.R H w x
  | _, _, _, _, .nil, e => by simp at e
  | _, _, 0, _, .cons r _, e => by simp at e; subst e; exact ⟨_, rfl, r⟩
  | _, _, i + 1, x, .cons _ t, e => by
    obtain ⟨w, h1, h2⟩ := RL.get (i := i) (x := x) t (by simpa using e)
    exact ⟨w, by simpa using h1, h2⟩
theorem RL.set {K : PySem.W.Frag} {α : Type} {τ : Rep K α} {H : Hp} {v : V} {x : α} (r : τ.R H v x) : ∀ {ws : List V} {xs : List α} (i : Nat), RL τ H ws xs → RL τ H (ws.set i v) (xs.set i x)
  | _, _, _, .nil => .nil
  | _, _, 0, .cons _ t => .cons r t
  | _, _, i + 1, .cons q t => .cons q (RL.set r i t)
theorem RL.drop {K : PySem.W.Frag} {α : Type} {τ : Rep K α} {H : Hp} : ∀ {ws : List V} {xs : List α} (n : Nat), RL τ H ws xs → RL τ H (ws.drop n) (xs.drop n)
  | _, _, 0, r => r
  | _, _, _ + 1, .nil => .nil
  | _, _, n + 1, .cons _ t => RL.drop n t
theorem RL.take {K : PySem.W.Frag} {α : Type} {τ : Rep K α} {H : Hp} : ∀ {ws : List V} {xs : List α} (n : Nat), RL τ H ws xs → RL τ H (ws.take n) (xs.take n)
  | _, _, 0, _ => .nil
  | _, _, _ + 1, .nil => .nil
  | _, _, n + 1, .cons r t => .cons r (RL.take n t)
theorem RL.dropLast {K : PySem.W.Frag} {α : Type} {τ : Rep K α} {H : Hp} {ws : List V} {xs : List α} (h : RL τ H ws xs) : RL τ H ws.dropLast xs.dropLast := by
  rw [List.dropLast_eq_take, List.dropLast_eq_take, h.length]
  exact h.take _
theorem RL.reverse {K : PySem.W.Frag} {α : Type} {τ : Rep K α} {H : Hp} : ∀ {ws : List V} {xs : List α}, RL τ H ws xs → RL τ H ws.reverse xs.reverse
  | _, _, .nil => .nil
  | _, _, .cons r t => by
    rw [List.reverse_cons, List.reverse_cons]
    exact (RL.reverse t).app (.cons r .nil)
theorem RL.map {K : PySem.W.Frag} {α : Type} {τ : Rep K α} {H : Hp} (f : α → V) (hf : ∀ x, τ.R H (f x) x) : ∀ xs : List α, RL τ H (xs.map f) xs
  | [] => .nil
  | x :: xs => .cons (hf x) (RL.map f hf xs)
theorem RL.eqmap {K : PySem.W.Frag} {α : Type} {τ : Rep K α} {H : Hp} (f : α → V) (hf : ∀ v x, τ.R H v x → v = f x) : ∀ {ws : List V} {xs : List α}, RL τ H ws xs → ws = xs.map f
  | _, _, .nil => rfl
  | _, _, .cons r t => by
    rw [List.map_cons, hf _ _ r, RL.eqmap f hf t]

section
variable {K : PySem.W.Frag}
def qI : Rep K Int := ⟨fun _ v x => v = .int x, fun _ h => h⟩
def qB : Rep K Bool := ⟨fun _ v x => v = .bl x, fun _ h => h⟩
def qS : Rep K Str := ⟨fun _ v x => v = .str x, fun _ h => h⟩
def qU : Rep K Unit := ⟨fun _ v _ => v = .non, fun _ h => h⟩
def qOpt {α : Type} (τ : Rep K α) : Rep K (Option α) := ⟨fun H v x => match x with | none => v = .non | some y => v ≠ .non ∧ τ.R H v y, fun {H H' v x} e h => by
  cases x with
  | none => exact h
  | some y => exact ⟨h.1, τ.mono e h.2⟩⟩
def qT2 {α β : Type} (τ : Rep K α) (υ : Rep K β) : Rep K (α × β) := ⟨fun H v x => ∃ a w1 w2, v = .ref a ∧ H a = some (.tup [w1, w2]) ∧ τ.R H w1 x.1 ∧ υ.R H w2 x.2, fun {H H' v x} e h => by
  obtain ⟨a, w1, w2, h1, h2, h3, h4⟩ := h
  exact ⟨a, w1, w2, h1, e _ _ h2, τ.mono e h3, υ.mono e h4⟩⟩
def qT3 {α β γ : Type} (τ : Rep K α) (υ : Rep K β) (φ : Rep K γ) : Rep K (α × β × γ) := ⟨fun H v x => ∃ a w1 w2 w3, v = .ref a ∧ H a = some (.tup [w1, w2, w3]) ∧ τ.R H w1 x.1 ∧ υ.R H w2 x.2.1 ∧ φ.R H w3 x.2.2, fun {H H' v x} e h => by
  obtain ⟨a, w1, w2, w3, h1, h2, h3, h4, h5⟩ := h
  exact ⟨a, w1, w2, w3, h1, e _ _ h2, τ.mono e h3, υ.mono e h4, φ.mono e h5⟩⟩
/-- a list that is tracked -/
def qL {α : Type} (τ : Rep K α) : Rep K (List α) := ⟨fun H v x => ∃ a ws, v = .ref a ∧ H a = some (.lst ws) ∧ RL τ H ws x, fun {H H' v x} e h => by
  obtain ⟨a, ws, h1, h2, h3⟩ := h
  exact ⟨a, ws, h1, e _ _ h2, RL.mono e h3⟩⟩
/-- a list that is to be read (the script) -/
def qQ {α : Type} (τ : Rep K α) : Rep K (List α) := ⟨fun H v x => ∃ a ws, v = .ref a ∧ SqL K H a ws ∧ RL τ H ws x, fun {H H' v x} e h => by
  obtain ⟨a, ws, h1, h2, h3⟩ := h
  exact ⟨a, ws, h1, e.seq h2, RL.mono e h3⟩⟩
theorem qL_qQ {α : Type} {τ : Rep K α} {H : Hp} {v : V} {x : List α} (h : (qL τ).R H v x) : (qQ τ).R H v x := by
  obtain ⟨a, ws, h1, h2, h3⟩ := h
  exact ⟨a, ws, h1, SqL.of h2, h3⟩
end

/-! ### heaps: S what stands for good, H the whole; L the lists that a def may change -/
/-- what may change -/
def mo : HO → Bool
  | .tup _ => false
  | _ => true
structure Grow (L : List Addr) (S0 H0 S H : Hp) : Prop where
  ss : Same S0 S
  sh : Same S H
  hh : ∀ a o, a ∉ L → H0 a = some o → H a = some o
  fr : ∀ a o, S0 a = none → H0 a = some o → mo o = true → S a = none
  ne : ∀ a o, H0 a = some o → ∃ o', H a = some o' ∧ (mo o = true → mo o' = true)
/-- a cell: an object that may change -/
structure Cel (L : List Addr) (H0 S H : Hp) (l : Addr) (o : HO) : Prop where
  h : H l = some o
  s : S l = none
  z : H0 l = none ∨ l ∈ L
  m : mo o = true
section
variable {L L' : List Addr} {S0 H0 S H S' H' : Hp} {p l l' : Addr} {o o' : HO}
theorem sne {x : HO} {H : Hp} {a : Addr} (h : H a = some x) : H a ≠ none := by rw [h]; exact fun q => by cases q
theorem Grow.refl (h : Same S H) : Grow L S H S H := ⟨Same.refl _, h, fun _ _ _ e => e, fun _ _ e _ _ => e, fun _ o e => ⟨o, e, id⟩⟩
theorem Grow.ext (g : Grow L S0 H0 S H) (e : Same H H') : Grow L S0 H0 S H' :=
  ⟨g.ss, g.sh.trans e, fun a o hl ha => e _ _ (g.hh a o hl ha), g.fr, fun a o ha => by
    obtain ⟨o', h1, h2⟩ := g.ne a o ha
    exact ⟨o', e _ _ h1, h2⟩⟩
theorem Grow.snone (g : Grow L S0 H0 S H) (hp : H p = none) : S p = none := g.sh.free hp
theorem Grow.hnone (g : Grow L S0 H0 S H) (hp : H p = none) : H0 p = none := by
  cases z : H0 p with
  | none => rfl
  | some x =>
    obtain ⟨o', h1, _⟩ := g.ne p x z
    rw [hp] at h1; cases h1
theorem Grow.imm (g : Grow L S0 H0 S H) (hp : H p = none) : Grow L S0 H0 (upd S p o) (upd H p o) where
  ss := fun a x e => by rw [upd_ne (ne_of_none (g.ss a x e) (g.snone hp))]; exact g.ss a x e
  sh := fun a x e => by
    by_cases h : a = p
    · subst h
      rw [upd_same] at e ⊢
      exact e
    · rw [upd_ne h] at e ⊢
      exact g.sh a x e
  hh := fun a x hl e => by rw [upd_ne (ne_of_none (g.hh a x hl e) hp)]; exact g.hh a x hl e
  fr := fun a x e h m => by
    have n : a ≠ p := fun q => by subst q; rw [g.hnone hp] at h; cases h
    rw [upd_ne n]
    exact g.fr a x e h m
  ne := fun a x h => by
    have n : a ≠ p := fun q => by subst q; rw [g.hnone hp] at h; cases h
    rw [upd_ne n]; exact g.ne a x h
theorem Grow.cell (g : Grow L S0 H0 S H) (hp : H p = none) : Grow L S0 H0 S (upd H p o) := g.ext fun a x e => by rw [upd_ne (ne_of_none e hp)]; exact e
/-- a tuple that stands may be kept for good -/
theorem Grow.tup (g : Grow L S0 H0 S H) {ws : List V} (hp : H p = some (.tup ws)) : Grow L S0 H0 (upd S p (.tup ws)) H where
  ss := fun a x e => by
    by_cases h : a = p
    · subst h
      have q := g.sh _ _ (g.ss _ _ e)
      rw [hp] at q; cases q
      exact upd_same
    · rw [upd_ne h]; exact g.ss a x e
  sh := fun a x e => by
    by_cases h : a = p
    · subst h; rw [upd_same] at e; cases e; exact hp
    · rw [upd_ne h] at e; exact g.sh a x e
  hh := g.hh
  fr := fun a x e h m => by
    have n : a ≠ p := fun q => by
      subst q
      obtain ⟨o', h1, h2⟩ := g.ne _ _ h
      rw [hp] at h1; cases h1
      exact absurd (h2 m) Bool.false_ne_true
    rw [upd_ne n]; exact g.fr a x e h m
  ne := g.ne
theorem Grow.wr (g : Grow L S0 H0 S H) (c : Cel L H0 S H l o') (hm : mo o = true) : Grow L S0 H0 S (upd H l o) where
  ss := g.ss
  sh := fun a x e => by
    have n : a ≠ l := fun q => by subst q; rw [c.s] at e; cases e
    rw [upd_ne n]
    exact g.sh a x e
  hh := fun a x hl e => by
    have n : a ≠ l := fun q => by
      subst q
      rcases c.z with z | z
      · rw [z] at e; cases e
      · exact hl z
    rw [upd_ne n]
    exact g.hh a x hl e
  fr := g.fr
  ne := fun a x h => by
    by_cases q : a = l
    · subst q; exact ⟨o, upd_same, fun _ => hm⟩
    · rw [upd_ne q]; exact g.ne a x h
theorem Grow.call (g : Grow L S0 H0 S H) (c : Grow L' S H S' H') (hL : ∀ l ∈ L', H0 l = none ∨ l ∈ L) : Grow L S0 H0 S' H' where
  ss := g.ss.trans c.ss
  sh := c.sh
  hh := fun a x hl e => c.hh a x (fun q => by
    rcases hL a q with z | z
    · rw [z] at e; cases e
    · exact hl z) (g.hh a x hl e)
  fr := fun a x e h m => by
    obtain ⟨o', h1, h2⟩ := g.ne a x h
    exact c.fr a o' (g.fr a x e h m) h1 (h2 m)
  ne := fun a x h => by
    obtain ⟨o', h1, h2⟩ := g.ne a x h
    obtain ⟨o2, h3, h4⟩ := c.ne a o' h1
    exact ⟨o2, h3, fun m => h4 (h2 m)⟩
theorem Grow.call0 (g : Grow L S0 H0 S H) (c : Grow [] S H S' H') : Grow L S0 H0 S' H' := g.call c fun _ q => by cases q
theorem Grow.same0 (c : Grow [] S H S' H') : Same H H' := fun a o e => c.hh a o (fun q => by cases q) e
/-- a cell that is not to change any more -/
theorem Grow.freeze (g : Grow L S0 H0 S H) (c : Cel L H0 S H l o) (hl : H0 l = none) : Grow L S0 H0 (upd S l o) H where
  ss := fun a x e => by
    have q := g.ss a x e
    rw [upd_ne (ne_of_none q c.s)]; exact q
  sh := fun a x e => by
    by_cases h : a = l
    · subst h; rw [upd_same] at e; cases e; exact c.h
    · rw [upd_ne h] at e; exact g.sh a x e
  hh := g.hh
  fr := fun a x e h m => by
    have n : a ≠ l := fun q => by subst q; rw [hl] at h; cases h
    rw [upd_ne n]
    exact g.fr a x e h m
  ne := g.ne
theorem Cel.own (g : Grow L S0 H0 S H) (e : Same H H') (hp : H p = none) (hp' : H' p = some o) (hm : mo o = true) : Cel L H0 S H' p o := ⟨hp', g.snone hp, .inl (g.hnone hp), hm⟩
theorem Cel.ext (c : Cel L H0 S H l o) (e : Same H H') : Cel L H0 S H' l o := ⟨e _ _ c.h, c.s, c.z, c.m⟩
theorem Cel.wr (c : Cel L H0 S H l o) (hm : mo o' = true) : Cel L H0 S (upd H l o') l o' := ⟨upd_same, c.s, c.z, hm⟩
theorem Cel.wrn (c : Cel L H0 S H l o) (n : l ≠ l') : Cel L H0 S (upd H l' o') l o := ⟨by rw [upd_ne n]; exact c.h, c.s, c.z, c.m⟩
theorem Cel.call (c : Cel L H0 S H l o) (g : Grow L' S H S' H') (n : l ∉ L') : Cel L H0 S' H' l o := ⟨g.hh _ _ n c.h, g.fr _ _ c.s c.h c.m, c.z, c.m⟩
theorem Cel.call0 (c : Cel L H0 S H l o) (g : Grow [] S H S' H') : Cel L H0 S' H' l o := c.call g fun q => by cases q
theorem Cel.mut (c : Cel L H0 S H l o) (g : Grow L' S H S' H') (h : H' l = some o') (hm : mo o' = true) : Cel L H0 S' H' l o' := ⟨h, g.fr _ _ c.s c.h c.m, c.z, hm⟩
theorem Cel.freeze (c : Cel L H0 S H l o) (n : l ≠ l') : Cel L H0 (upd S l' o') H l o := ⟨c.h, by rw [upd_ne n]; exact c.s, c.z, c.m⟩
theorem Cel.ne (c : Cel L H0 S H l o) (hp : H p = none) : l ≠ p := ne_of_none c.h hp
theorem Cel.z0 (c : Cel [] H0 S H l o) : H0 l = none := c.z.elim id fun q => by cases q
theorem same_upd {H : Hp} {p : Addr} {o : HO} (h : H p = none) : Same H (upd H p o) := fun b x e => by
  rw [upd_ne (ne_of_none e h)]
  exact e
end
end Z

namespace Z
open PySem PySem.Spec PyProof.Rows L2

/-! ### the mirror's words -/
def lt {α β : Type} (e : α) (k : α → Option β) : Option β := k e
theorem OP.lt {α β : Type} {e : α} {k : α → Option β} {A : β → Prop} (h : OP (Z.lt e k) A) : ∃ x, e = x ∧ OP (k x) A := ⟨e, rfl, h⟩
theorem lt_some {α β : Type} {e : α} {k : α → Option β} {r : β} (h : Z.lt e k = some r) : ∃ x, e = x ∧ k x = some r := ⟨e, rfl, h⟩
theorem OP.cut {α β : Type} {m : Option α} {k : α → Option β} {A : β → Prop} (h : OP (m.bind k) A) : ∃ B : α → Prop, OP m B ∧ ∀ x, B x → OP (k x) A := ⟨_, OP.of h, fun _ z => z⟩
/-- an early answer, or what follows -/
def SE {σ ρ : Type} (B : σ → Prop) (A : ρ → Prop) : σ ⊕ ρ → Prop
  | .inl s => B s
  | .inr v => A v
def brk {σ ρ : Type} (m : Option (σ ⊕ ρ)) (k : σ → Option ρ) : Option ρ := m.bind fun r => match r with
  | .inl s => k s
  | .inr v => some v
theorem OP.brk {σ ρ : Type} {m : Option (σ ⊕ ρ)} {k : σ → Option ρ} {A : ρ → Prop} (h : OP (Z.brk m k) A) : ∃ B : σ → Prop, OP m (SE B A) ∧ ∀ x, B x → OP (k x) A := by
  refine ⟨fun x => OP (k x) A, ?_, fun _ z => z⟩
  cases m with
  | none => exact h.elim
  | some r => cases r with
    | inl s => exact h
    | inr v => exact h
def un2 {α β γ : Type} (f : α → β → γ) (s : α × β) : γ := f s.1 s.2
def un3 {α β γ δ : Type} (f : α → β → γ → δ) (s : α × β × γ) : δ := f s.1 s.2.1 s.2.2
def un4 {α β γ δ ε : Type} (f : α → β → γ → δ → ε) (s : α × β × γ × δ) : ε := f s.1 s.2.1 s.2.2.1 s.2.2.2
def un5 {α β γ δ ε ζ : Type} (f : α → β → γ → δ → ε → ζ) (s : α × β × γ × δ × ε) : ζ := f s.1 s.2.1 s.2.2.1 s.2.2.2.1 s.2.2.2.2
def un6 {α β γ δ ε ζ η : Type} (f : α → β → γ → δ → ε → ζ → η) (s : α × β × γ × δ × ε × ζ) : η := f s.1 s.2.1 s.2.2.1 s.2.2.2.1 s.2.2.2.2.1 s.2.2.2.2.2
def un0 {γ : Type} (f : γ) (_ : Unit) : γ := f
theorem OP.un0 {γ : Type} {f : Option γ} {u : Unit} {A : γ → Prop} (h : OP (Z.un0 f u) A) : OP f A := h
theorem OP.un2 {α β γ : Type} {f : α → β → Option γ} {a : α} {b : β} {A : γ → Prop} (h : OP (Z.un2 f (a, b)) A) : OP (f a b) A := h
theorem OP.un3 {α β γ δ : Type} {f : α → β → γ → Option δ} {a : α} {b : β} {c : γ} {A : δ → Prop} (h : OP (Z.un3 f (a, b, c)) A) : OP (f a b c) A := h
theorem OP.un4 {α β γ δ ε : Type} {f : α → β → γ → δ → Option ε} {a : α} {b : β} {c : γ} {d : δ} {A : ε → Prop} (h : OP (Z.un4 f (a, b, c, d)) A) : OP (f a b c d) A := h
theorem OP.un5 {α β γ δ ε ζ : Type} {f : α → β → γ → δ → ε → Option ζ} {a : α} {b : β} {c : γ} {d : δ} {e : ε} {A : ζ → Prop} (h : OP (Z.un5 f (a, b, c, d, e)) A) : OP (f a b c d e) A := h
theorem OP.un6 {α β γ δ ε ζ η : Type} {f : α → β → γ → δ → ε → ζ → Option η} {a : α} {b : β} {c : γ} {d : δ} {e : ε} {z : ζ} {A : η → Prop} (h : OP (Z.un6 f (a, b, c, d, e, z)) A) : OP (f a b c d e z) A := h
theorem OP.ite1 {α : Type} {c : Bool} {m n : Option α} {A : α → Prop} (hc : c = true) (h : OP (ifo c m n) A) : OP m A := by rw [ifo_t hc] at h; exact h
theorem OP.ite0 {α : Type} {c : Bool} {m n : Option α} {A : α → Prop} (hc : c = false) (h : OP (ifo c m n) A) : OP n A := by rw [ifo_f hc] at h; exact h
theorem OP.forO {α σ : Type} {body : α → σ → Option σ} {x : α} {xs : List α} {s : σ} {A : σ → Prop} (h : OP (Z.forO body (x :: xs) s) A) : OP (body x s) (fun s' => OP (Z.forO body xs s') A) := by
  rw [forO_cons] at h
  exact OP.of h
theorem OP.forO_nil {α σ : Type} {body : α → σ → Option σ} {s : σ} {A : σ → Prop} (h : OP (Z.forO body [] s) A) : A s := by
  rw [Z.forO_nil] at h
  exact h
theorem OP.forR {α σ ρ : Type} {body : α → σ → Option (σ ⊕ ρ)} {x : α} {xs : List α} {s : σ} {B : σ → Prop} {A : ρ → Prop} (h : OP (Z.forR body (x :: xs) s) (SE B A)) : OP (body x s) (SE (fun s' => OP (Z.forR body xs s') (SE B A)) A) := by
  rw [forR_cons] at h
  have q := OP.of h
  cases e : body x s with
  | none => rw [e] at q; exact q.elim
  | some r =>
    rw [e] at q
    cases r with
    | inl s' => exact q
    | inr v => exact q
theorem OP.forR_nil {α σ ρ : Type} {body : α → σ → Option (σ ⊕ ρ)} {s : σ} {B : σ → Prop} {A : ρ → Prop} (h : OP (Z.forR body [] s) (SE B A)) : B s := by
  rw [Z.forR_nil] at h
  exact h
theorem OP.whileO {σ : Type} {c : σ → Option Bool} {body : σ → Option σ} {n : Nat} {s : σ} {A : σ → Prop} (h : OP (Z.whileO c body n s) A) :
    ∃ n', n = n' + 1 ∧ OP (c s) (fun b => if b = true then OP (body s) (fun s' => OP (Z.whileO c body n' s') A) else A s) := by
  cases n with
  | zero => rw [whileO_zero] at h; exact h.elim
  | succ n' =>
    refine ⟨n', rfl, ?_⟩
    rw [whileO_succ] at h
    have q := OP.of h
    refine q.mono fun b z => ?_
    cases b with
    | true => exact OP.of z
    | false => exact z
theorem OP.whileR {σ ρ : Type} {c : σ → Option Bool} {body : σ → Option (σ ⊕ ρ)} {n : Nat} {s : σ} {B : σ → Prop} {A : ρ → Prop} (h : OP (Z.whileR c body n s) (SE B A)) :
    ∃ n', n = n' + 1 ∧ OP (c s) (fun b => if b = true then OP (body s) (SE (fun s' => OP (Z.whileR c body n' s') (SE B A)) A) else B s) := by
  cases n with
  | zero => rw [whileR_zero] at h; exact h.elim
  | succ n' =>
    refine ⟨n', rfl, ?_⟩
    rw [whileR_succ] at h
    have q := OP.of h
    refine q.mono fun b z => ?_
    cases b with
    | true =>
      have z' := OP.of z
      show OP (body s) _
      refine z'.mono fun r y => ?_
      cases r with
      | inl s' => exact y
      | inr v => exact y
    | false => exact z
@[irreducible] def bigN : Nat := 1000000
theorem bigN_eq : bigN = 1000000 := by unfold bigN; rfl

/-! ### ints -/
abbrev shl (i j : Int) : Int := i * 2 ^ j.toNat
abbrev shr (i j : Int) : Int := i / 2 ^ j.toNat
abbrev band (i j : Int) : Int := Builtin.bitAnd i j
abbrev bor (i j : Int) : Int := Builtin.bitOr i j
abbrev bxor (i j : Int) : Int := Builtin.bitXor i j
abbrev bnot (i : Int) : Int := Builtin.bitNot i
def blen (i : Int) : Int := ((Builtin.Int.intBits i : Nat) : Int)

/-! ### values of expressions that leave the heap as it is -/
section
variable {K : PySem.W.Frag} {σ σ' : L2.St} {H : Hp} {ta tb te : TE} {t u : TT} {x y z v : V} {i j : Int} {b c : Bool}
theorem v_eq {v w : V} (h : Val te σ H v) (e : v = w) : Val te σ H w := e ▸ h
theorem v_o2 {g : Int → Int → V} (ha : Val ta σ H (.int i)) (hb : Val tb σ H (.int j)) : Val (tOp (rI0 g) ta tb) σ H (g i j) := fun Q q => ha _ (hb _ ⟨i, j, rfl, rfl, q⟩)
theorem v_o2c {C : Int → Int → Prop} {g : Int → Int → V} (ha : Val ta σ H (.int i)) (hb : Val tb σ H (.int j)) (hc : C i j) : Val (tOp (rI C g) ta tb) σ H (g i j) := fun Q q => ha _ (hb _ ⟨i, j, rfl, rfl, hc, q⟩)
theorem v_u {g : Int → V} (ha : Val ta σ H (.int i)) : Val (tUn (rU g) ta) σ H (g i) := fun Q q => ha _ ⟨i, rfl, q⟩
theorem dec_int : decide (V.int i = V.int j) = decide (i = j) := decide_eq_decide.mpr ⟨V.int.inj, fun e => by rw [e]⟩
theorem dec_str {s t : Str} : decide (V.str s = V.str t) = decide (s = t) := decide_eq_decide.mpr ⟨V.str.inj, fun e => by rw [e]⟩
theorem dec_bl : decide (V.bl b = V.bl c) = decide (b = c) := decide_eq_decide.mpr ⟨V.bl.inj, fun e => by rw [e]⟩
theorem v_eqI (ha : Val ta σ H (.int i)) (hb : Val tb σ H (.int j)) : Val (tOp rEq ta tb) σ H (.bl (decide (i = j))) := fun Q q => ha _ (hb _ ⟨rfl, by rw [dec_int]; exact q⟩)
theorem v_neI (ha : Val ta σ H (.int i)) (hb : Val tb σ H (.int j)) : Val (tOp rNe ta tb) σ H (.bl (!decide (i = j))) := fun Q q => ha _ (hb _ ⟨rfl, by rw [dec_int]; exact q⟩)
theorem v_eqS {s t : Str} (ha : Val ta σ H (.str s)) (hb : Val tb σ H (.str t)) : Val (tOp rEq ta tb) σ H (.bl (decide (s = t))) := fun Q q => ha _ (hb _ ⟨rfl, by rw [dec_str]; exact q⟩)
theorem v_neS {s t : Str} (ha : Val ta σ H (.str s)) (hb : Val tb σ H (.str t)) : Val (tOp rNe ta tb) σ H (.bl (!decide (s = t))) := fun Q q => ha _ (hb _ ⟨rfl, by rw [dec_str]; exact q⟩)
theorem v_eqB (ha : Val ta σ H (.bl b)) (hb : Val tb σ H (.bl c)) : Val (tOp rEq ta tb) σ H (.bl (decide (b = c))) := fun Q q => ha _ (hb _ ⟨rfl, by rw [dec_bl]; exact q⟩)
theorem v_neB (ha : Val ta σ H (.bl b)) (hb : Val tb σ H (.bl c)) : Val (tOp rNe ta tb) σ H (.bl (!decide (b = c))) := fun Q q => ha _ (hb _ ⟨rfl, by rw [dec_bl]; exact q⟩)
theorem v_test (h : Val te σ H (.bl b)) : Ans (tTest te) σ H b := fun Q q => h _ ⟨b, rfl, q⟩
theorem v_B (h : Val te σ H (.bl b)) : Ans (tB te) σ H b := fun Q q => h _ ⟨b, rfl, q⟩
theorem a_eq (h : Ans t σ H b) (e : b = c) : Ans t σ H c := e ▸ h
theorem a_not (h : Ans t σ H b) : Ans (tNot t) σ H (!b) := fun Q q => h _ q
theorem a_and (h1 : Ans t σ H b) (h2 : Ans u σ H c) : Ans (tAnd t u) σ H (b && c) := fun Q q => h1 _ (by
  cases b with
  | true => exact (show (if true = true then u σ H Q else Q false H) from h2 _ q)
  | false => exact (show (if false = true then u σ H Q else Q false H) from q))
theorem a_or (h1 : Ans t σ H b) (h2 : Ans u σ H c) : Ans (tOr t u) σ H (b || c) := fun Q q => h1 _ (by
  cases b with
  | true => exact (show (if true = true then Q true H else u σ H Q) from q)
  | false => exact (show (if false = true then Q true H else u σ H Q) from h2 _ q))
theorem a_andP {m : Option Bool} (h1 : Ans t σ H b) (hm : ifo b m (some false) = some c) (h2 : b = true → m = some c → Ans u σ H c) : Ans (tAnd t u) σ H c := fun Q q => h1 _ (by
  cases b with
  | true => exact (show (if true = true then u σ H Q else Q false H) from h2 rfl (by first | (rw [ifo_t rfl] at hm; exact hm) | (rw [ifo_f rfl] at hm; exact hm)) _ q)
  | false =>
    have e : false = c := by rw [ifo_f rfl] at hm; exact Option.some.inj hm
    subst e
    exact (show (if false = true then u σ H Q else Q false H) from q))
theorem a_orP {m : Option Bool} (h1 : Ans t σ H b) (hm : ifo b (some true) m = some c) (h2 : b = false → m = some c → Ans u σ H c) : Ans (tOr t u) σ H c := fun Q q => h1 _ (by
  cases b with
  | true =>
    have e : true = c := by rw [ifo_t rfl] at hm; exact Option.some.inj hm
    subst e
    exact (show (if true = true then Q true H else u σ H Q) from q)
  | false => exact (show (if false = true then Q true H else u σ H Q) from h2 rfl (by first | (rw [ifo_t rfl] at hm; exact hm) | (rw [ifo_f rfl] at hm; exact hm)) _ q))
theorem v_and (h1 : Val ta σ H (.bl b)) (h2 : Val tb σ H (.bl c)) : Val (tAndV ta tb) σ H (.bl (b && c)) := fun Q q => h1 _ ⟨b, rfl, by
  cases b with
  | true => exact (show (if true = true then tb σ H Q else Q (.bl false) H) from h2 _ q)
  | false => exact (show (if false = true then tb σ H Q else Q (.bl false) H) from q)⟩
theorem v_or (h1 : Val ta σ H (.bl b)) (h2 : Val tb σ H (.bl c)) : Val (tOrV ta tb) σ H (.bl (b || c)) := fun Q q => h1 _ ⟨b, rfl, by
  cases b with
  | true => exact (show (if true = true then Q (.bl true) H else tb σ H Q) from q)
  | false => exact (show (if false = true then Q (.bl true) H else tb σ H Q) from h2 _ q)⟩
theorem v_not (h : Val ta σ H (.bl b)) : Val (tNotV ta) σ H (.bl (!b)) := fun Q q => h _ ⟨b, rfl, q⟩
theorem v_andP {m : Option Bool} (h1 : Val ta σ H (.bl b)) (hm : ifo b m (some false) = some c) (h2 : b = true → m = some c → Val tb σ H (.bl c)) : Val (tAndV ta tb) σ H (.bl c) := fun Q q => h1 _ ⟨b, rfl, by
  cases b with
  | true => exact (show (if true = true then tb σ H Q else Q (.bl false) H) from h2 rfl (by first | (rw [ifo_t rfl] at hm; exact hm) | (rw [ifo_f rfl] at hm; exact hm)) _ q)
  | false =>
    have e : false = c := by rw [ifo_f rfl] at hm; exact Option.some.inj hm
    subst e
    exact (show (if false = true then tb σ H Q else Q (.bl false) H) from q)⟩
theorem v_orP {m : Option Bool} (h1 : Val ta σ H (.bl b)) (hm : ifo b (some true) m = some c) (h2 : b = false → m = some c → Val tb σ H (.bl c)) : Val (tOrV ta tb) σ H (.bl c) := fun Q q => h1 _ ⟨b, rfl, by
  cases b with
  | true =>
    have e : true = c := by rw [ifo_t rfl] at hm; exact Option.some.inj hm
    subst e
    exact (show (if true = true then Q (.bl true) H else tb σ H Q) from q)
  | false => exact (show (if false = true then Q (.bl true) H else tb σ H Q) from h2 rfl (by first | (rw [ifo_t rfl] at hm; exact hm) | (rw [ifo_f rfl] at hm; exact hm)) _ q)⟩
/-- t[0], t[1] of a pair, xs[i] -/
theorem v_t20 {β : Type} {υ : Rep K β} {p : Int × β} (ha : Val ta σ H v) (hb : Val tb σ H (.int 0)) (hr : (qT2 qI υ).R H v p) : Val (tOp (rIxT K) ta tb) σ H (.int p.1) := by
  obtain ⟨a, w1, w2, rfl, h2, h3, _⟩ := hr
  cases (show w1 = .int p.1 from h3)
  exact fun Q q => ha _ (hb _ ⟨a, _, 0, _, rfl, rfl, SqT.of h2, rfl, q⟩)
theorem v_t21 {α : Type} {τ : Rep K α} {p : α × Int} (ha : Val ta σ H v) (hb : Val tb σ H (.int 1)) (hr : (qT2 τ qI).R H v p) : Val (tOp (rIxT K) ta tb) σ H (.int p.2) := by
  obtain ⟨a, w1, w2, rfl, h2, _, h3⟩ := hr
  cases (show w2 = .int p.2 from h3)
  exact fun Q q => ha _ (hb _ ⟨a, _, 1, _, rfl, rfl, SqT.of h2, rfl, q⟩)
theorem atI_get {α β : Type} {R : α → β → Prop} {ws : List α} {xs : List β} {k : Int} {x : β} (hl : ws.length = xs.length) (hg : ∀ (j : Nat), xs[j]? = some x → ∃ w, ws[j]? = some w ∧ R w x) (h : atI xs k = some x) : ∃ w, atI ws k = some w ∧ R w x := by
  unfold atI at h ⊢
  rw [hl]
  cases e : ixN xs.length k with
  | none => rw [e] at h; cases h
  | some j => rw [e] at h; exact hg j h
theorem RL.at {α : Type} {τ : Rep K α} {ws : List V} {xs : List α} {k : Int} {x : α} (r : RL τ H ws xs) (h : atI xs k = some x) : ∃ w, atI ws k = some w ∧ τ.R H w x := atI_get r.length (fun _ e => r.get e) h
theorem v_ixq {α : Type} {τ : Rep K α} {xs : List α} {q : α} (ha : Val ta σ H v) (hb : Val tb σ H (.int i)) (hr : (qQ τ).R H v xs) (hx : atI xs i = some q) : ∃ w, Val (tOp (rIxL K) ta tb) σ H w ∧ τ.R H w q := by
  obtain ⟨a, ws, rfl, h2, h3⟩ := hr
  obtain ⟨w, e, r⟩ := h3.at hx
  exact ⟨w, fun Q z => ha _ (hb _ ⟨a, ws, i, w, rfl, rfl, h2, e, z⟩), r⟩
theorem v_ixI {xs : List Int} {q : Int} (ha : Val ta σ H v) (hb : Val tb σ H (.int i)) (hr : (qQ (K := K) qI).R H v xs) (hx : atI xs i = some q) : Val (tOp (rIxL K) ta tb) σ H (.int q) := by
  obtain ⟨w, h, r⟩ := v_ixq ha hb hr hx
  cases (show w = .int q from r)
  exact h
theorem v_ixB {xs : List Bool} {q : Bool} (ha : Val ta σ H v) (hb : Val tb σ H (.int i)) (hr : (qQ (K := K) qB).R H v xs) (hx : atI xs i = some q) : Val (tOp (rIxL K) ta tb) σ H (.bl q) := by
  obtain ⟨w, h, r⟩ := v_ixq ha hb hr hx
  cases (show w = .bl q from r)
  exact h
theorem v_ixS {xs : List Str} {q : Str} (ha : Val ta σ H v) (hb : Val tb σ H (.int i)) (hr : (qQ (K := K) qS).R H v xs) (hx : atI xs i = some q) : Val (tOp (rIxL K) ta tb) σ H (.str q) := by
  obtain ⟨w, h, r⟩ := v_ixq ha hb hr hx
  cases (show w = .str q from r)
  exact h
/-- what a list's length, a tuple's length tells -/
def rLenS (K : PySem.W.Frag) : List V → Hp → VK → Prop := fun xs H Q => ∃ p ys, xs = [.ref p] ∧ (SqL K H p ys ∨ SqT K H p ys) ∧ Q (.int ys.length) H
theorem v_len {α : Type} {τ : Rep K α} {xs : List α} (ha : Val ta σ H v) (hr : (qQ τ).R H v xs) : Val (tCB (rLenS K) (tCons ta tNil)) σ H (.int (xs.length : Int)) := by
  obtain ⟨a, ws, rfl, h2, h3⟩ := hr
  rw [← h3.length]
  exact fun Q q => ha _ ⟨a, ws, rfl, .inl h2, q⟩
theorem v_lenT2 {α β : Type} {τ : Rep K α} {υ : Rep K β} {p : α × β} (ha : Val ta σ H v) (hr : (qT2 τ υ).R H v p) : Val (tCB (rLenS K) (tCons ta tNil)) σ H (.int 2) := by
  obtain ⟨a, w1, w2, rfl, h2, _⟩ := hr
  exact fun Q q => ha _ ⟨a, _, rfl, .inr (SqT.of h2), q⟩
theorem v_isi {T n : String} {k : Bool} (ha : Val ta σ H x) (ty : TyX K H x (.type T)) (hk : kitB T n = some k) : Val (tCB (rIsi K) (tCons ta (tCons (tC (.ty n)) tNil))) σ H (.bl k) := fun Q q => ha _ ⟨x, .ty n, _, _, k, rfl, .ty n, ty, kit_ty hk, q⟩
theorem ty_int : TyX K H (.int i) (.type "int") := .base (.int i)
theorem ty_bl : TyX K H (.bl b) (.type "bool") := .base (.bl b)
theorem ty_str {s : Str} : TyX K H (.str s) (.type "str") := .base (.str s)
theorem ty_non : TyX K H .non (.type "NoneType") := .base .non
theorem ty_t2 {α β : Type} {τ : Rep K α} {υ : Rep K β} {p : α × β} (hr : (qT2 τ υ).R H v p) : TyX K H v (.type "tuple") := by
  obtain ⟨a, w1, w2, rfl, h2, _⟩ := hr
  exact .base (.tup h2)
theorem ty_t3 {α β γ : Type} {τ : Rep K α} {υ : Rep K β} {φ : Rep K γ} {p : α × β × γ} (hr : (qT3 τ υ φ).R H v p) : TyX K H v (.type "tuple") := by
  obtain ⟨a, w1, w2, w3, rfl, h2, _⟩ := hr
  exact .base (.tup h2)
theorem ty_l {α : Type} {τ : Rep K α} {xs : List α} (hr : (qL τ).R H v xs) : TyX K H v (.type "list") := by
  obtain ⟨a, ws, rfl, h2, _⟩ := hr
  exact .base (.lst h2)
/-- arguments -/
def VA (ta : TA) (σ : L2.St) (H : Hp) (vs : List V) : Prop := ∀ Q : List V → Hp → Prop, Q vs H → ta σ H Q
theorem va_nil : VA tNil σ H [] := fun _ q => q
theorem va_cons {tr : TA} {vs : List V} (ha : Val ta σ H x) (hr : VA tr σ H vs) : VA (tCons ta tr) σ H (x :: vs) := fun _ q => ha _ (hr _ q)
theorem v_call {sp : Sp} {dvs vs : List V} {E : XK} {tr : TA} (ha : VA tr σ H vs) (hs : ∀ Q : VK, Q z H → sp (vs ++ dvs) H Q E) : Val (tCall sp dvs E tr) σ H z := fun Q q => ha _ (hs Q q)
theorem v_cb {r : List V → Hp → VK → Prop} {vs : List V} {tr : TA} (ha : VA tr σ H vs) (hs : ∀ Q : VK, Q z H → r vs H Q) : Val (tCB r tr) σ H z := fun Q q => ha _ (hs Q q)
theorem v_bits (ha : Val ta σ H (.int i)) : Val (tBits ta) σ H (.int (blen i)) := fun Q q => ha _ ⟨i, rfl, q⟩
theorem v_isN (ha : Val ta σ H x) (e : decide (x = .non) = b) : Val (tOp rIsN ta (tC .non)) σ H (.bl b) := fun Q q => ha _ ⟨rfl, by rw [e]; exact q⟩
theorem v_notN (ha : Val ta σ H x) (e : (!decide (x = .non)) = b) : Val (tOp rNotN ta (tC .non)) σ H (.bl b) := fun Q q => ha _ ⟨rfl, by rw [e]; exact q⟩
theorem opt_dec {α : Type} {τ : Rep K α} {o : Option α} (hr : (qOpt τ).R H v o) : decide (v = .non) = o.isNone := by
  cases o with
  | none => exact decide_eq_true hr
  | some y => exact decide_eq_false hr.1
theorem opt_decN {α : Type} {τ : Rep K α} {o : Option α} (hr : (qOpt τ).R H v o) : (!decide (v = .non)) = o.isSome := by
  rw [opt_dec hr]
  cases o <;> rfl
theorem opt_get {α : Type} {τ : Rep K α} {o : Option α} {y : α} (hr : (qOpt τ).R H v o) (e : o = some y) : τ.R H v y := by
  subst e
  exact hr.2

/-! ### statements -/
variable {D : Ends} {t1 t2 ts tu : TS} {w : V} {k n : Nat}
theorem z_next (q : D.nx σ H) : tNext D σ H := q
theorem z_set (hv : Val te σ H v) (he : v = w) (hs : σ.set k (some w) = σ') (q : tu D σ' H) : tSeq (tAsg te (gName k)) tu D σ H := hv _ (by
  subst he; subst hs
  exact q)
theorem z_aug {ti : TIp} (hx : σ[k]? = some (some x)) (hv : Val te σ H y) (hr : ∀ Q : VK, Q v H → ti x y H Q) (he : v = w) (hs : σ.set k (some w) = σ') (q : tu D σ' H) : tSeq (tAug k te ti) tu D σ H := by
  subst he; subst hs
  exact ⟨x, hx, hv _ (hr _ q)⟩
theorem z_augI {g : Int → Int → V} (hx : σ[k]? = some (some (.int i))) (hv : Val te σ H (.int j)) (he : g i j = w) (hs : σ.set k (some w) = σ') (q : tu D σ' H) : tSeq (tAug k te (rI0 g)) tu D σ H :=
  z_aug hx hv (fun _ q => ⟨i, j, rfl, rfl, q⟩) he hs q
theorem z_augC {C : Int → Int → Prop} {g : Int → Int → V} (hx : σ[k]? = some (some (.int i))) (hv : Val te σ H (.int j)) (hc : C i j) (he : g i j = w) (hs : σ.set k (some w) = σ') (q : tu D σ' H) : tSeq (tAug k te (rI C g)) tu D σ H :=
  z_aug hx hv (fun _ q => ⟨i, j, rfl, rfl, hc, q⟩) he hs q
theorem z_ret (hv : Val te σ H v) (q : D.rt v H) : tSeq (tRet te) tu D σ H := hv _ q
theorem z_if {c : Bool} {tc : TT} (hc : Ans tc σ H c) (h1 : c = true → t1 { D with nx := tu D } σ H) (h2 : c = false → t2 { D with nx := tu D } σ H) : tSeq (tIfS tc t1 t2) tu D σ H := hc _ (by
  cases c with
  | true => exact (show (if true = true then t1 { D with nx := tu D } σ H else t2 { D with nx := tu D } σ H) from h1 rfl)
  | false => exact (show (if false = true then t1 { D with nx := tu D } σ H else t2 { D with nx := tu D } σ H) from h2 rfl))
theorem z_ifj {c : Bool} {tc : TT} (P : L2.St → Hp → Prop) (hc : Ans tc σ H c) (hP : ∀ σ' H', P σ' H' → tu D σ' H')
    (h1 : c = true → ∀ N : L2.St → Hp → Prop, (∀ σ' H', P σ' H' → N σ' H') → t1 { D with nx := N } σ H) (h2 : c = false → ∀ N : L2.St → Hp → Prop, (∀ σ' H', P σ' H' → N σ' H') → t2 { D with nx := N } σ H) : tSeq (tIfS tc t1 t2) tu D σ H :=
  z_if hc (fun e => h1 e _ hP) (fun e => h2 e _ hP)
theorem rangeI_zero {lo : Int} : rangeI lo 0 = [] := rfl
theorem rangeI_succ {lo : Int} {n : Nat} : rangeI lo (n + 1) = lo :: rangeI (lo + 1) n := by
  unfold rangeI
  rw [List.range_succ_eq_map, List.map_cons, List.map_map]
  congr 1
  · exact Int.add_zero lo
  · refine List.map_congr_left fun a _ => ?_
    show lo + ((a + 1 : Nat) : Int) = lo + 1 + (a : Int)
    omega
/-- the turns over a range, by what is left -/
theorem turns_range {lo : Int} {n : Nat} {g : TG} {tb : TS} (Pv : List Int → L2.St → Hp → Prop) (h0 : Pv (rangeI lo n) σ H)
    (hs : ∀ x xs σ' H', Pv (x :: xs) σ' H' → ∀ N : L2.St → Hp → Prop, (∀ σ'' H'', Pv xs σ'' H'' → N σ'' H'') → g (.int x) σ' H' fun σ2 H2 => tb { D with nx := N, ct := N, bk := D.nx } σ2 H2) (hd : ∀ σ' H', Pv [] σ' H' → D.nx σ' H') :
    ∃ W : Nat → Nat → L2.St → Hp → Prop, (∃ m, W 0 m σ H) ∧ ∀ i m σ H, W i m σ H →
      ((Itr lo n).stop i H ∧ D.nx σ H) ∨ ((Itr lo n).go i H ∧ ∃ N : L2.St → Hp → Prop, (∀ σ' H', N σ' H' → ∃ m', m' < m ∧ W (i + 1) m' σ' H') ∧ ∀ x H', (Itr lo n).yld i H x H' → g x σ H' fun σ2 H2 => tb { D with nx := N, ct := N, bk := D.nx } σ2 H2) := by
  refine for_range (fun i σ H => i ≤ n ∧ Pv (rangeI (lo + (i : Int)) (n - i)) σ H) ⟨Nat.zero_le _, by
    rw [show lo + ((0 : Nat) : Int) = lo from Int.add_zero lo]; exact h0⟩ (fun i σ' H' hi p => ?_) (fun σ' H' p => hd _ _ (by
    have q := p.2
    rw [Nat.sub_self] at q
    exact q))
  have e : n - i = (n - (i + 1)) + 1 := by omega
  have q := p.2
  rw [e, rangeI_succ] at q
  refine hs _ _ σ' H' q _ fun σ'' H'' r => ⟨hi, ?_⟩
  rw [show lo + ((i + 1 : Nat) : Int) = lo + (i : Int) + 1 by omega]
  exact r
theorem z_for1 {ta : TA} {g : TG} {tb : TS} {j : Int} (ha : VA ta σ H [.int j]) (hj : -(2 ^ 62) ≤ j ∧ j < 2 ^ 62) (Pv : List Int → L2.St → Hp → Prop) (h0 : Pv (rangeI 0 j.toNat) σ H)
    (hs : ∀ x xs σ' H', Pv (x :: xs) σ' H' → ∀ N : L2.St → Hp → Prop, (∀ σ'' H'', Pv xs σ'' H'' → N σ'' H'') → g (.int x) σ' H' fun σ2 H2 => tb { D with nx := N, ct := N, bk := tu D } σ2 H2) (hd : ∀ σ' H', Pv [] σ' H' → tu D σ' H') :
    tSeq (tFor (iRng1 ta) g tb) tu D σ H := ha _ ⟨j, rfl, hj.1, hj.2, turns_range (D := { D with nx := tu D }) Pv h0 hs hd⟩
theorem z_for2 {ta : TA} {g : TG} {tb : TS} {i j : Int} (ha : VA ta σ H [.int i, .int j]) (hj : -(2 ^ 62) ≤ i ∧ i < 2 ^ 62 ∧ -(2 ^ 62) ≤ j ∧ j < 2 ^ 62) (Pv : List Int → L2.St → Hp → Prop) (h0 : Pv (rangeI i (j - i).toNat) σ H)
    (hs : ∀ x xs σ' H', Pv (x :: xs) σ' H' → ∀ N : L2.St → Hp → Prop, (∀ σ'' H'', Pv xs σ'' H'' → N σ'' H'') → g (.int x) σ' H' fun σ2 H2 => tb { D with nx := N, ct := N, bk := tu D } σ2 H2) (hd : ∀ σ' H', Pv [] σ' H' → tu D σ' H') :
    tSeq (tFor (iRng2 ta) g tb) tu D σ H := ha _ ⟨i, j, rfl, hj, turns_range (D := { D with nx := tu D }) Pv h0 hs hd⟩
/-- the turns over a list that stands, by what is left -/
theorem turns_list {α : Type} {R : V → α → Prop} {a : Addr} {ws : List V} {xs : List α} {g : TG} {tb : TS} (hp : Paired R ws xs) (Pv : List α → L2.St → Hp → Prop) (h0 : Pv xs σ H) (hl : ∀ ys σ' H', Pv ys σ' H' → SqL K H' a ws)
    (hs : ∀ w y ys σ' H', R w y → Pv (y :: ys) σ' H' → ∀ N : L2.St → Hp → Prop, (∀ σ'' H'', Pv ys σ'' H'' → N σ'' H'') → g w σ' H' fun σ2 H2 => tb { D with nx := N, ct := N, bk := D.nx } σ2 H2) (hd : ∀ σ' H', Pv [] σ' H' → D.nx σ' H') :
    ∃ W : Nat → Nat → L2.St → Hp → Prop, (∃ m, W 0 m σ H) ∧ ∀ i m σ H, W i m σ H →
      ((Itl K a).stop i H ∧ D.nx σ H) ∨ ((Itl K a).go i H ∧ ∃ N : L2.St → Hp → Prop, (∀ σ' H', N σ' H' → ∃ m', m' < m ∧ W (i + 1) m' σ' H') ∧ ∀ x H', (Itl K a).yld i H x H' → g x σ H' fun σ2 H2 => tb { D with nx := N, ct := N, bk := D.nx } σ2 H2) := by
  have hlen := Paired.length hp
  refine for_list (K := K) (a := a) (xs := ws) (fun i σ H => i ≤ ws.length ∧ ∃ ys, Paired R (ws.drop i) ys ∧ Pv ys σ H) ⟨Nat.zero_le _, xs, hp, h0⟩ (fun i σ' H' _ p => ?_) (fun i x σ' H' hx p => ?_) (fun σ' H' p => ?_)
  · obtain ⟨_, ys, _, q⟩ := p
    exact hl _ _ _ q
  · obtain ⟨_, ys, r, q⟩ := p
    have hi : i < ws.length := (List.getElem?_eq_some_iff.mp hx).1
    have e : ws.drop i = x :: ws.drop (i + 1) := by
      rw [List.drop_eq_getElem_cons hi]
      rw [(List.getElem?_eq_some_iff.mp hx).2]
    rw [e] at r
    cases r with
    | cons a b => exact hs _ _ _ σ' H' a q _ fun σ'' H'' z => ⟨hi, _, b, z⟩
  · obtain ⟨_, ys, r, q⟩ := p
    rw [List.drop_length] at r
    cases r
    exact hd _ _ q
theorem z_forL {α : Type} {R : V → α → Prop} {a : Addr} {ws : List V} {xs : List α} {tl : TE} {g : TG} {tb : TS} (ha : Val tl σ H (.ref a)) (hp : Paired R ws xs) (Pv : List α → L2.St → Hp → Prop) (h0 : Pv xs σ H) (hl : ∀ ys σ' H', Pv ys σ' H' → SqL K H' a ws)
    (hs : ∀ w y ys σ' H', R w y → Pv (y :: ys) σ' H' → ∀ N : L2.St → Hp → Prop, (∀ σ'' H'', Pv ys σ'' H'' → N σ'' H'') → g w σ' H' fun σ2 H2 => tb { D with nx := N, ct := N, bk := tu D } σ2 H2) (hd : ∀ σ' H', Pv [] σ' H' → tu D σ' H') :
    tSeq (tFor (iList K tl) g tb) tu D σ H := ha _ ⟨a, rfl, ⟨ws, hl _ _ _ h0⟩, turns_list (D := { D with nx := tu D }) hp Pv h0 hl hs hd⟩
theorem g_name {q : L2.St → Hp → Prop} (hs : σ.set k (some v) = σ') (h : q σ' H) : gName k v σ H q := by
  subst hs
  exact h
/-- a while with a test that leaves the heap as it is -/
theorem z_while {tc : TT} {tb : TS} {n0 : Nat} (Pv : Nat → L2.St → Hp → Prop) (h0 : Pv n0 σ H)
    (hs : ∀ n σ' H', Pv n σ' H' → ∃ b, Ans tc σ' H' b ∧ (b = true → ∃ n', n = n' + 1 ∧ ∀ N : L2.St → Hp → Prop, (∀ σ'' H'', Pv n' σ'' H'' → N σ'' H'') → tb { D with nx := N, ct := N, bk := tu D } σ' H') ∧ (b = false → tu D σ' H')) :
    tSeq (tWhile tc tb) tu D σ H := by
  refine ⟨Pv, ⟨n0, h0⟩, fun m σ' H' w => ?_⟩
  obtain ⟨b, hb, h1, h2⟩ := hs m σ' H' w
  refine hb _ ?_
  cases b with
  | true =>
    obtain ⟨n', e, h⟩ := h1 rfl
    exact (show (if true = true then _ else _) from ⟨Pv n', fun σ'' H'' p => ⟨n', by omega, p⟩, h _ fun _ _ z => z⟩)
  | false => exact (show (if false = true then _ else _) from h2 rfl)
end
/-! ### facts of the builtins' table -/
theorem bt_int : bootBuiltins "int" = some (.type "int") := by decide +kernel
theorem bt_bool : bootBuiltins "bool" = some (.type "bool") := by decide +kernel
theorem bt_str : bootBuiltins "str" = some (.type "str") := by decide +kernel
theorem bt_list : bootBuiltins "list" = some (.type "list") := by decide +kernel
theorem bt_tuple : bootBuiltins "tuple" = some (.type "tuple") := by decide +kernel
theorem bt_isinstance : bootBuiltins "isinstance" = some (.builtin "isinstance") := by decide +kernel
theorem bt_len : bootBuiltins "len" = some (.builtin "len") := by decide +kernel
end Z

namespace Z
open PySem PySem.Spec PyProof.Rows L2

theorem OP.nameO {α σ : Type} {f : α → σ → Option σ} {xs : List α} {s : σ} {A : σ → Prop} (h : OP (Z.forO f xs s) A) : ∃ F, F = f ∧ OP (Z.forO F xs s) A := ⟨f, rfl, h⟩
theorem OP.nameR {α σ ρ : Type} {f : α → σ → Option (σ ⊕ ρ)} {xs : List α} {s : σ} {A : σ ⊕ ρ → Prop} (h : OP (Z.forR f xs s) A) : ∃ F, F = f ∧ OP (Z.forR F xs s) A := ⟨f, rfl, h⟩
theorem OP.fcall2 {α σ τ : Type} {F f : α → σ → Option τ} {x : α} {s : σ} {A : τ → Prop} (e : F = f) (h : OP (F x s) A) : OP (f x s) A := e ▸ h
theorem OP.fcall1 {σ τ : Type} {F f : σ → Option τ} {s : σ} {A : τ → Prop} (e : F = f) (h : OP (F s) A) : OP (f s) A := e ▸ h
def gMul (i j : Int) : Prop := (-(2 ^ 64) < i ∧ i < 2 ^ 64) ∨ (-(2 ^ 64) < j ∧ j < 2 ^ 64)
def gDiv (j : Int) : Prop := 0 < j ∧ j < 1073741824
def gPow (i j : Int) : Prop := 0 ≤ j ∧ j ≤ 1000000 ∧ i.natAbs < 2 ^ 64
def gR (j : Int) : Prop := -(2 ^ 62) ≤ j ∧ j < 2 ^ 62
def gR2 (i j : Int) : Prop := -(2 ^ 62) ≤ i ∧ i < 2 ^ 62 ∧ -(2 ^ 62) ≤ j ∧ j < 2 ^ 62
instance (i j : Int) : Decidable (gMul i j) := by unfold gMul; infer_instance
instance (j : Int) : Decidable (gDiv j) := by unfold gDiv; infer_instance
instance (i j : Int) : Decidable (gPow i j) := by unfold gPow; infer_instance
instance (j : Int) : Decidable (gR j) := by unfold gR; infer_instance
instance (i j : Int) : Decidable (gR2 i j) := by unfold gR2; infer_instance
abbrev ipow (i j : Int) : Int := i ^ j.toNat
def setI {α : Type} (xs : List α) (i : Int) (v : α) : Option (List α) := (ixN xs.length i).bind fun j => some (xs.set j v)

/-! ### data that == compares -/
structure Dat {K : PySem.W.Frag} {α : Type} [DecidableEq α] (τ : Rep K α) where
  enc : α → PyData
  dp : ∀ {H : Hp} {v : V} {x : α}, τ.R H v x → Dp K H v (enc x)
  lay : ∀ x, (enc x).canLay0 = true
  n : Nat
  dep : ∀ x, (enc x).depth ≤ n
  eqv : ∀ x y, PyData.eqv (enc x) (enc y) = decide (x = y)
section
variable {K : PySem.W.Frag}
theorem Dat.shaped {α : Type} [DecidableEq α] {τ : Rep K α} (d : Dat τ) (hn : d.n ≤ 64) (x : α) : SeqAt.shaped (d.enc x) = true := by
  unfold SeqAt.shaped
  rw [d.lay x, decide_eq_true (Nat.le_trans (d.dep x) hn)]
  rfl
def dI : Dat (K := K) qI := ⟨.int, fun {H v x} h => by cases (show v = .int x from h); exact .int x, fun _ => rfl, 1, fun x => by show PyData.depth (.int x) ≤ 1; simp [PyData.depth], fun x y => by
  show (x == y) = decide (x = y)
  rw [Bool.beq_eq_decide_eq]⟩
def dB : Dat (K := K) qB := ⟨.bool, fun {H v x} h => by cases (show v = .bl x from h); exact .bl x, fun _ => rfl, 1, fun x => by show PyData.depth (.bool x) ≤ 1; simp [PyData.depth], fun x y => by
  show (x == y) = decide (x = y)
  rw [Bool.beq_eq_decide_eq]⟩
theorem eqvAll2 {a b c d : PyData} : PyData.eqv (.tuple [a, b]) (.tuple [c, d]) = (PyData.eqv a c && PyData.eqv b d) := by
  simp [PyData.eqv, PyData.eqvAll]
def dT2 {α β : Type} [DecidableEq α] [DecidableEq β] {τ : Rep K α} {υ : Rep K β} (a : Dat τ) (b : Dat υ) : Dat (qT2 τ υ) := ⟨fun x => .tuple [a.enc x.1, b.enc x.2], fun {H v x} h => by
    obtain ⟨p, w1, w2, rfl, h2, h3, h4⟩ := h
    exact .tup (SqT.of h2) (.cons (a.dp h3) (.cons (b.dp h4) .nil)), fun x => by
    show PyData.canLayAll0 [a.enc x.1, b.enc x.2] = true
    simp [PyData.canLayAll0, a.lay, b.lay], max a.n b.n + 1, fun x => by
    have h1 := a.dep x.1
    have h2 := b.dep x.2
    show PyData.depth (.tuple [a.enc x.1, b.enc x.2]) ≤ _
    simp only [PyData.depth, PyData.depthAll]
    omega, fun x y => by
    rw [eqvAll2, a.eqv, b.eqv, ← Bool.decide_and]
    exact decide_eq_decide.mpr ⟨fun h => Prod.ext h.1 h.2, fun h => by rw [h]; exact ⟨rfl, rfl⟩⟩⟩
theorem dpAll {α : Type} [DecidableEq α] {τ : Rep K α} (a : Dat τ) {H : Hp} : ∀ {ws : List V} {xs : List α}, RL τ H ws xs → DpAll K H ws (xs.map a.enc)
  | _, _, .nil => .nil
  | _, _, .cons r t => .cons (a.dp r) (dpAll a t)
theorem layAll {α : Type} [DecidableEq α] {τ : Rep K α} (a : Dat τ) : ∀ xs : List α, PyData.canLayAll0 (xs.map a.enc) = true
  | [] => rfl
  | x :: xs => by
    show (PyData.canLay0 (a.enc x) && PyData.canLayAll0 (xs.map a.enc)) = true
    rw [a.lay, layAll a xs]
    rfl
theorem depAll {α : Type} [DecidableEq α] {τ : Rep K α} (a : Dat τ) : ∀ xs : List α, PyData.depthAll (xs.map a.enc) ≤ a.n
  | [] => by simp [PyData.depthAll]
  | x :: xs => by
    rw [List.map_cons]
    simp only [PyData.depthAll]
    have h1 := a.dep x
    have h2 := depAll a xs
    omega
theorem eqvAllD {α : Type} [DecidableEq α] {τ : Rep K α} (a : Dat τ) : ∀ xs ys : List α, PyData.eqvAll (xs.map a.enc) (ys.map a.enc) = decide (xs = ys)
  | [], [] => rfl
  | [], y :: ys => by simp [PyData.eqvAll]
  | x :: xs, [] => by simp [PyData.eqvAll]
  | x :: xs, y :: ys => by
    rw [List.map_cons, List.map_cons]
    simp only [PyData.eqvAll]
    rw [a.eqv, eqvAllD a xs ys, ← Bool.decide_and]
    exact decide_eq_decide.mpr ⟨fun h => by rw [h.1, h.2], fun h => by injection h with h1 h2; exact ⟨h1, h2⟩⟩
def dQ {α : Type} [DecidableEq α] {τ : Rep K α} (a : Dat τ) : Dat (qQ τ) := ⟨fun xs => .list (xs.map a.enc), fun {H v x} h => by
    obtain ⟨p, ws, rfl, h2, h3⟩ := h
    exact .lst h2 (dpAll a h3), fun xs => layAll a xs, a.n + 1, fun xs => by
    have h := depAll a xs
    show PyData.depth (.list (xs.map a.enc)) ≤ _
    simp only [PyData.depth]
    omega, fun x y => by
    show PyData.eqvAll (x.map a.enc) (y.map a.enc) = _
    exact eqvAllD a x y⟩
def dL {α : Type} [DecidableEq α] {τ : Rep K α} (a : Dat τ) : Dat (qL τ) := ⟨(dQ a).enc, fun h => (dQ a).dp (qL_qQ h), (dQ a).lay, (dQ a).n, (dQ a).dep, (dQ a).eqv⟩
end

/-! ### values that move the heap: the goal goes from te σ H Q to Q v H' -/
section
variable {K : PySem.W.Frag} {σ σ' : L2.St} {S H S0 H0 : Hp} {L : List Addr} {ta tb te : TE} {t u tc : TT} {tr : TA} {x y z v : V} {i j : Int} {b c : Bool} {Q : VK} {D : Ends} {t1 t2 tu : TS} {g : TG} {vs ws : List V}
theorem c_val (h : Val te σ H v) (q : Q v H) : te σ H Q := h _ q
theorem c_op {r : R2} (h : ta σ H fun x H1 => tb σ H1 fun y H2 => r x y H2 Q) : tOp r ta tb σ H Q := h
theorem c_un {r : V → Hp → VK → Prop} (h : ta σ H fun x H1 => r x H1 Q) : tUn r ta σ H Q := h
theorem c_cons {q : List V → Hp → Prop} (h : ta σ H fun x H1 => tr σ H1 fun xs H2 => q (x :: xs) H2) : tCons ta tr σ H q := h
theorem c_nil {q : List V → Hp → Prop} (h : q [] H) : tNil σ H q := h
theorem c_args {q : List V → Hp → Prop} (ha : VA tr σ H vs) (h : q vs H) : tr σ H q := ha _ h
theorem c_tup (h : tr σ H fun xs H1 => xs.length ≤ sizeLine ∧ ∀ p, H1 p = none → Q (.ref p) (upd H1 p (.tup xs))) : tTup tr σ H Q := h
theorem c_lst (h : tr σ H fun xs H1 => xs.length ≤ sizeLine ∧ ∀ p, H1 p = none → Q (.ref p) (upd H1 p (.lst xs))) : tLst tr σ H Q := h
theorem c_tupE (h : ∀ Q' : VK, Q' = Q → tr σ H fun xs H1 => xs.length ≤ sizeLine ∧ ∀ p, H1 p = none → Q' (.ref p) (upd H1 p (.tup xs))) : tTup tr σ H Q := h _ rfl
theorem c_lstE (h : ∀ Q' : VK, Q' = Q → tr σ H fun xs H1 => xs.length ≤ sizeLine ∧ ∀ p, H1 p = none → Q' (.ref p) (upd H1 p (.lst xs))) : tLst tr σ H Q := h _ rfl
theorem c_cbE {r : List V → Hp → VK → Prop} (h : ∀ Q' : VK, Q' = Q → tr σ H fun vs H1 => r vs H1 Q') : tCB r tr σ H Q := h _ rfl
theorem q_eq {Q' : VK} (e : Q' = Q) (h : Q v H) : Q' v H := e ▸ h
theorem c_call {sp : Sp} {dvs : List V} {E : XK} (h : tr σ H fun vs H1 => sp (vs ++ dvs) H1 Q E) : tCall sp dvs E tr σ H Q := h
theorem c_cb {r : List V → Hp → VK → Prop} (h : tr σ H fun vs H1 => r vs H1 Q) : tCB r tr σ H Q := h
theorem c_newtup (e : Same S H) (hl : vs.length ≤ 1000) (k : ∀ p S' H', Grow [] S H S' H' → S' p = some (.tup vs) → Q (.ref p) H') : vs.length ≤ sizeLine ∧ ∀ p, H p = none → Q (.ref p) (upd H p (.tup vs)) :=
  ⟨Nat.le_trans hl (by decide), fun p hp => k p _ _ ((Grow.refl e).imm hp) upd_same⟩
theorem c_newlst (hl : vs.length ≤ 1000) (k : ∀ p H', Same H H' → H p = none → H' p = some (.lst vs) → Q (.ref p) H') : vs.length ≤ sizeLine ∧ ∀ p, H p = none → Q (.ref p) (upd H p (.lst vs)) :=
  ⟨Nat.le_trans hl (by decide), fun p hp => k p _ (same_upd hp) hp upd_same⟩
theorem c_not {q : Bool → Hp → Prop} (h : t σ H fun b H1 => q (!b) H1) : tNot t σ H q := h
theorem c_test {q : Bool → Hp → Prop} (h : te σ H fun x H' => ∃ k, x = .bl k ∧ q k H') : tTest te σ H q := h
theorem c_B {q : Bool → Hp → Prop} (h : te σ H fun x H' => ∃ k, x = .bl k ∧ q k H') : tB te σ H q := h
theorem c_ans {q : Bool → Hp → Prop} (h : Ans t σ H b) (k : q b H) : t σ H q := h _ k
theorem c_bl {q : Bool → Hp → Prop} (h : q b H) : ∃ k, V.bl b = .bl k ∧ q k H := ⟨b, rfl, h⟩
theorem c_and {q : Bool → Hp → Prop} (h : t σ H fun c H1 => if c = true then u σ H1 q else q false H1) : tAnd t u σ H q := h
theorem c_or {q : Bool → Hp → Prop} (h : t σ H fun c H1 => if c = true then q true H1 else u σ H1 q) : tOr t u σ H q := h
theorem c_andV (h : ta σ H fun x H1 => ∃ c, x = .bl c ∧ if c = true then tb σ H1 Q else Q (.bl false) H1) : tAndV ta tb σ H Q := h
theorem c_orV (h : ta σ H fun x H1 => ∃ c, x = .bl c ∧ if c = true then Q (.bl true) H1 else tb σ H1 Q) : tOrV ta tb σ H Q := h
theorem c_cutT {q : Bool → Hp → Prop} (P : Bool → Hp → Prop) (hc : ∀ q' : Bool → Hp → Prop, (∀ b H', P b H' → q' b H') → t σ H q') (hP : ∀ b H', P b H' → q b H') : t σ H q := hc _ hP
theorem c_cutV (P : Bool → Hp → Prop) (hc : ∀ q' : VK, (∀ b H', P b H' → q' (.bl b) H') → te σ H q') (hP : ∀ b H', P b H' → Q (.bl b) H') : te σ H Q := hc _ hP
theorem ifb {A B : Prop} (h1 : c = true → A) (h2 : c = false → B) : if c = true then A else B := by
  cases c with
  | true => exact (show (if true = true then A else B) from h1 rfl)
  | false => exact (show (if false = true then A else B) from h2 rfl)
/-- the ends of the operators -/
theorem e_o2 {g : Int → Int → V} (q : Q (g i j) H) : rI0 g (.int i) (.int j) H Q := ⟨i, j, rfl, rfl, q⟩
theorem e_o2c {C : Int → Int → Prop} {g : Int → Int → V} (hc : C i j) (q : Q (g i j) H) : rI C g (.int i) (.int j) H Q := ⟨i, j, rfl, rfl, hc, q⟩
theorem e_u {g : Int → V} (q : Q (g i) H) : rU g (.int i) H Q := ⟨i, rfl, q⟩
theorem e_eqI (q : Q (.bl (decide (i = j))) H) : rEq (.int i) (.int j) H Q := ⟨rfl, by rw [dec_int]; exact q⟩
theorem e_neI (q : Q (.bl (!decide (i = j))) H) : rNe (.int i) (.int j) H Q := ⟨rfl, by rw [dec_int]; exact q⟩
theorem e_eqS {s t : Str} (q : Q (.bl (decide (s = t))) H) : rEq (.str s) (.str t) H Q := ⟨rfl, by rw [dec_str]; exact q⟩
theorem e_neS {s t : Str} (q : Q (.bl (!decide (s = t))) H) : rNe (.str s) (.str t) H Q := ⟨rfl, by rw [dec_str]; exact q⟩
theorem e_eqB (q : Q (.bl (decide (b = c))) H) : rEq (.bl b) (.bl c) H Q := ⟨rfl, by rw [dec_bl]; exact q⟩
theorem e_neB (q : Q (.bl (!decide (b = c))) H) : rNe (.bl b) (.bl c) H Q := ⟨rfl, by rw [dec_bl]; exact q⟩
theorem e_eqD {α : Type} [DecidableEq α] {τ υ : Rep K α} (d : Dat τ) (d' : Dat υ) (he : d.enc = d'.enc) (hn : d.n ≤ 64) {p q : α} (h1 : τ.R H x p) (h2 : υ.R H y q) (k : Q (.bl (decide (p = q))) H) : rEqD K x y H Q :=
  ⟨d.enc p, d.enc q, d.dp h1, by rw [he]; exact d'.dp h2, d.shaped hn p, d.shaped hn q, by rw [d.eqv]; exact k⟩
theorem e_neD {α : Type} [DecidableEq α] {τ υ : Rep K α} (d : Dat τ) (d' : Dat υ) (he : d.enc = d'.enc) (hn : d.n ≤ 64) {p q : α} (h1 : τ.R H x p) (h2 : υ.R H y q) (k : Q (.bl (!decide (p = q))) H) : rNeD K x y H Q :=
  ⟨d.enc p, d.enc q, d.dp h1, by rw [he]; exact d'.dp h2, d.shaped hn p, d.shaped hn q, by rw [d.eqv]; exact k⟩
theorem v_eqD {α : Type} [DecidableEq α] {τ υ : Rep K α} (d : Dat τ) (d' : Dat υ) (he : d.enc = d'.enc) (hn : d.n ≤ 64) {p q : α} (ha : Val ta σ H x) (hb : Val tb σ H y) (h1 : τ.R H x p) (h2 : υ.R H y q) : Val (tOp (rEqD K) ta tb) σ H (.bl (decide (p = q))) :=
  fun Q k => ha _ (hb _ (e_eqD d d' he hn h1 h2 k))
theorem v_neD {α : Type} [DecidableEq α] {τ υ : Rep K α} (d : Dat τ) (d' : Dat υ) (he : d.enc = d'.enc) (hn : d.n ≤ 64) {p q : α} (ha : Val ta σ H x) (hb : Val tb σ H y) (h1 : τ.R H x p) (h2 : υ.R H y q) : Val (tOp (rNeD K) ta tb) σ H (.bl (!decide (p = q))) :=
  fun Q k => ha _ (hb _ (e_neD d d' he hn h1 h2 k))
/-- a shallow datum: tuples of scalars; it may be kept for good -/
def Shal {α : Type} (τ : Rep K α) : Prop := ∀ {S H : Hp} {v : V} {x : α}, Same S H → τ.R H v x → ∃ S', Grow [] S H S' H ∧ τ.R S' v x
theorem shI : Shal (K := K) qI := fun e h => ⟨_, Grow.refl e, h⟩
theorem shB : Shal (K := K) qB := fun e h => ⟨_, Grow.refl e, h⟩
theorem shS : Shal (K := K) qS := fun e h => ⟨_, Grow.refl e, h⟩
theorem shU : Shal (K := K) qU := fun e h => ⟨_, Grow.refl e, h⟩
theorem shOpt {α : Type} {τ : Rep K α} (a : Shal τ) : Shal (qOpt τ) := fun {S H v x} e h => by
  cases x with
  | none => exact ⟨_, Grow.refl e, h⟩
  | some y =>
    obtain ⟨S', g, r⟩ := a e h.2
    exact ⟨S', g, h.1, r⟩
theorem shT2 {α β : Type} {τ : Rep K α} {υ : Rep K β} (a : Shal τ) (b : Shal υ) : Shal (qT2 τ υ) := fun {S H v x} e h => by
  obtain ⟨p, w1, w2, rfl, h2, h3, h4⟩ := h
  obtain ⟨S1, g1, r1⟩ := a e h3
  obtain ⟨S2, g2, r2⟩ := b g1.sh h4
  have g3 := (g1.call0 g2).tup h2
  have e3 : Same S2 (upd S2 p (.tup [w1, w2])) := ((Grow.refl (L := []) g2.sh).tup h2).ss
  exact ⟨_, g3, p, w1, w2, rfl, upd_same, τ.mono (g2.ss.trans e3) r1, υ.mono e3 r2⟩
theorem shL {α : Type} {τ : Rep K α} (a : Shal τ) {S H : Hp} : ∀ {ws : List V} {xs : List α}, Same S H → RL τ H ws xs → ∃ S', Grow [] S H S' H ∧ RL τ S' ws xs
  | _, _, e, .nil => ⟨_, Grow.refl e, .nil⟩
  | _, _, e, .cons r t => by
    obtain ⟨S1, g1, r1⟩ := a e r
    obtain ⟨S2, g2, r2⟩ := shL a g1.sh t
    exact ⟨S2, g1.call0 g2, .cons (τ.mono g2.ss r1) r2⟩
theorem RL.sc {α : Type} {τ : Rep K α} {H H' : Hp} (f : α → V) (hf : ∀ {H v x}, τ.R H v x ↔ v = f x) : ∀ {ws : List V} {xs : List α}, RL τ H ws xs → RL τ H' ws xs
  | _, _, .nil => .nil
  | _, _, .cons r t => .cons (hf.mpr (hf.mp r)) (RL.sc f hf t)
theorem RL.scI {H H' : Hp} {ws : List V} {xs : List Int} (h : RL (K := K) qI H ws xs) : RL (K := K) qI H' ws xs := RL.sc V.int Iff.rfl h
theorem RL.scB {H H' : Hp} {ws : List V} {xs : List Bool} (h : RL (K := K) qB H ws xs) : RL (K := K) qB H' ws xs := RL.sc V.bl Iff.rfl h
theorem RL.scS {H H' : Hp} {ws : List V} {xs : List Str} (h : RL (K := K) qS H ws xs) : RL (K := K) qS H' ws xs := RL.sc V.str Iff.rfl h
/-- where a new list comes from -/
theorem e_listQ {α : Type} {τ : Rep K α} {xs : List α} (h : (qQ τ).R H v xs) (k : ∀ p ws H', Same H H' → H p = none → H' p = some (.lst ws) → RL τ H ws xs → Q (.ref p) H') :
    ∃ p ys, [v] = [.ref p] ∧ (SqL K H p ys ∨ SqT K H p ys) ∧ ∀ l, H l = none → Q (.ref l) (upd H l (.lst ys)) := by
  obtain ⟨a, ws, rfl, h2, h3⟩ := h
  exact ⟨a, ws, rfl, .inl h2, fun l hl => k l ws _ (same_upd hl) hl upd_same h3⟩
theorem RL.cut {α : Type} {τ : Rep K α} {ws : List V} {xs : List α} (h : RL τ H ws xs) (lo hi : Option Int) : RL τ H (cutV ws lo hi) ((xs.drop (HT.sIx xs.length 0 lo)).take (HT.sIx xs.length xs.length hi - HT.sIx xs.length 0 lo)) := by
  unfold cutV
  rw [h.length]
  exact (h.drop _).take _
def cutI {α : Type} (xs : List α) (lo hi : Option Int) : List α := (xs.drop (HT.sIx xs.length 0 lo)).take (HT.sIx xs.length xs.length hi - HT.sIx xs.length 0 lo)
theorem e_slice {α : Type} {τ : Rep K α} {xs : List α} {lo hi : Option Int} (h : (qQ τ).R H v xs) (k : ∀ p ws H', Same H H' → H p = none → H' p = some (.lst ws) → RL τ H ws (cutI xs lo hi) → Q (.ref p) H') : rSlL K v lo hi H Q := by
  obtain ⟨a, ws, rfl, h2, h3⟩ := h
  exact ⟨a, ws, rfl, h2, fun l hl => k l _ _ (same_upd hl) hl upd_same (h3.cut lo hi)⟩
theorem c_slice {r : V → Option Int → Option Int → Hp → VK → Prop} {tl th : TO} {lo hi : Option Int} (ha : Val te σ H v) (hl : ∀ q : Option Int → Hp → Prop, q lo H → tl σ H q) (hh : ∀ q : Option Int → Hp → Prop, q hi H → th σ H q) (k : r v lo hi H Q) : tSl r te tl th σ H Q := ha _ (hl _ (hh _ k))
theorem po0 : ∀ q : Option Int → Hp → Prop, q none H → tNoPart σ H q := fun _ z => z
theorem po1 (h : Val te σ H (.int i)) : ∀ q : Option Int → Hp → Prop, q (some i) H → tPart te σ H q := fun _ z => h _ ⟨i, rfl, z⟩
theorem e_cat {α : Type} {τ : Rep K α} {xs ys : List α} (h1 : (qL τ).R H x xs) (h2 : (qL τ).R H y ys) (hz : xs.length + ys.length ≤ 16777216) (k : ∀ p ws H', Same H H' → H p = none → H' p = some (.lst ws) → RL τ H ws (xs ++ ys) → Q (.ref p) H') : rCat x y H Q := by
  obtain ⟨a, ws, rfl, ha, ra⟩ := h1
  obtain ⟨b, us, rfl, hb, rb⟩ := h2
  exact ⟨a, b, ws, us, rfl, rfl, ha, hb, by rw [ra.length, rb.length]; exact hz, fun p hp => k p _ _ (same_upd hp) hp upd_same (ra.app rb)⟩

/-! ### statements -/
theorem z_start {N : List Str} {t : TS} (hs : start N vs = σ) (q : t D σ H) : t D (start N vs) H := hs ▸ q
theorem z_nextR (q : tu D σ H) : tNext { D with nx := tu D } σ H := q
theorem z_setE {k : Nat} (h : te σ H fun v H' => gName k v σ H' (tu D)) : tSeq (tAsg te (gName k)) tu D σ H := h
theorem z_asgE (h : te σ H fun v H' => g v σ H' (tu D)) : tSeq (tAsg te g) tu D σ H := h
theorem z_retE (h : te σ H D.rt) : tSeq (tRet te) tu D σ H := h
theorem z_retN (h : D.rt .non H) : tSeq tRetN tu D σ H := h
theorem z_pass (h : tu D σ H) : tSeq tNext tu D σ H := h
theorem z_cont (h : D.ct σ H) : tSeq tCont tu D σ H := h
theorem z_brk (h : D.bk σ H) : tSeq tBreak tu D σ H := h
theorem z_dropE (h : te σ H fun _ H' => tu D σ H') : tSeq (tDrop te) tu D σ H := h
theorem z_ifE (h : tc σ H fun b H1 => if b = true then t1 { D with nx := tu D } σ H1 else t2 { D with nx := tu D } σ H1) : tSeq (tIfS tc t1 t2) tu D σ H := h
theorem z_ifbj (P : L2.St → Hp → Prop) (hP : ∀ σ' H', P σ' H' → tu D σ' H')
    (h1 : c = true → ∀ N : L2.St → Hp → Prop, (∀ σ' H', P σ' H' → N σ' H') → t1 { D with nx := N } σ H) (h2 : c = false → ∀ N : L2.St → Hp → Prop, (∀ σ' H', P σ' H' → N σ' H') → t2 { D with nx := N } σ H) : if c = true then t1 { D with nx := tu D } σ H else t2 { D with nx := tu D } σ H :=
  ifb (fun e => h1 e _ hP) (fun e => h2 e _ hP)
/-- xs.append(v) -/
theorem c_app {α : Type} {τ : Rep K α} {l : Addr} {xs ys : List α} {q : α} (g : Grow L S0 H0 S H) (cl : Cel L H0 S H l (.lst ws)) (r : RL τ S ws xs) (rv : τ.R S v q) (hz : xs.length < 16777216) (he : xs ++ [q] = ys)
    (k : ∀ ws' H', Grow L S0 H0 S H' → Cel L H0 S H' l (.lst ws') → RL τ S ws' ys → (∀ l' o', l' ≠ l → Cel L H0 S H l' o' → Cel L H0 S H' l' o') → Q .non H') : rAppend (.ref l) [v] H Q := by
  subst he
  exact ⟨l, ws, v, rfl, rfl, cl.h, by rw [r.length]; exact hz, k _ _ (g.wr cl rfl) (cl.wr rfl) (r.app (.cons rv .nil)) fun l' o' n c => c.wrn n⟩
theorem c_bm {T : String} {r : V → List V → Hp → VK → Prop} {l : Addr} (ha : Val ta σ H (.ref l)) (h : tyV K T (.ref l) H) (k : tr σ H fun xs H2 => r (.ref l) xs H2 Q) : tBM K T r ta tr σ H Q := ha _ ⟨h, k⟩
theorem c_bm0 {T : String} {r : V → List V → Hp → VK → Prop} {l : Addr} (ha : Val ta σ H (.ref l)) (h : tyV K T (.ref l) H) (k : r (.ref l) [] H Q) : tBM0 K T r ta σ H Q := ha _ ⟨h, k⟩
theorem tyL {l : Addr} (h : H l = some (.lst ws)) : tyV K "list" (.ref l) H := .inl ⟨rfl, _, SqL.of h⟩
/-- xs[i] = v -/
theorem c_setL {α : Type} {τ : Rep K α} {l : Addr} {xs ys : List α} {q : α} (g : Grow L S0 H0 S H) (cl : Cel L H0 S H l (.lst ws)) (r : RL τ S ws xs) (rv : τ.R S v q) (ho : Val ta σ H (.ref l)) (hi : Val tb σ H (.int i)) (he : setI xs i q = some ys)
    (k : ∀ ws' H', Grow L S0 H0 S H' → Cel L H0 S H' l (.lst ws') → RL τ S ws' ys → (∀ l' o', l' ≠ l → Cel L H0 S H l' o' → Cel L H0 S H' l' o') → tu D σ H') : gSub ta tb rSetL v σ H (tu D) := by
  unfold setI at he
  cases e : ixN xs.length i with
  | none => rw [e] at he; cases he
  | some j =>
    rw [e] at he
    cases (Option.some.inj he)
    exact ho _ (hi _ ⟨l, ws, i, j, rfl, rfl, cl.h, by rw [r.length]; exact e, k _ _ (g.wr cl rfl) (cl.wr rfl) (r.set rv j) fun l' o' n c => c.wrn n⟩)
theorem c_clear {α : Type} {τ : Rep K α} {l : Addr} (g : Grow L S0 H0 S H) (cl : Cel L H0 S H l (.lst ws))
    (k : ∀ H', Grow L S0 H0 S H' → Cel L H0 S H' l (.lst []) → RL τ S [] ([] : List α) → (∀ l' o', l' ≠ l → Cel L H0 S H l' o' → Cel L H0 S H' l' o') → Q .non H') : rClear (.ref l) [] H Q :=
  ⟨l, ws, rfl, rfl, cl.h, k _ (g.wr cl rfl) (cl.wr rfl) .nil fun l' o' n c => c.wrn n⟩
theorem v_chain {g g' : Int → Int → V} {p q : Int → Int → Bool} {k l m : Int} (ha : Val ta σ H (.int k)) (hb : Val tb σ H (.int l)) (hc : Val te σ H (.int m)) (h1 : g k l = .bl b) (h2 : g' l m = .bl c) : Val (tChain (rI0 g) (rI0 g') ta tb te) σ H (.bl (b && c)) := fun Q z => ha _ (hb _ ⟨k, l, rfl, rfl, b, h1, by
  cases b with
  | true => exact (show (if true = true then _ else _) from hc _ ⟨l, m, rfl, rfl, by rw [h2]; exact z⟩)
  | false => exact (show (if false = true then _ else _) from z)⟩)
theorem Same.seqt {H H' : Hp} {a : Addr} {xs : List V} (e : Same H H') (h : SqT K H a xs) : SqT K H' a xs := by
  rcases h with (h | ⟨o, h⟩) | h
  · exact .inl (.inl (e _ _ h))
  · exact .inl (.inr ⟨o, e _ _ h⟩)
  · exact .inr h
theorem turns_tup {α : Type} {R : V → α → Prop} {a : Addr} {ws : List V} {xs : List α} {g : TG} {tb : TS} (hp : Paired R ws xs) (Pv : List α → L2.St → Hp → Prop) (h0 : Pv xs σ H) (hl : ∀ ys σ' H', Pv ys σ' H' → SqT K H' a ws)
    (hs : ∀ w y ys σ' H', R w y → Pv (y :: ys) σ' H' → ∀ N : L2.St → Hp → Prop, (∀ σ'' H'', Pv ys σ'' H'' → N σ'' H'') → g w σ' H' fun σ2 H2 => tb { D with nx := N, ct := N, bk := D.nx } σ2 H2) (hd : ∀ σ' H', Pv [] σ' H' → D.nx σ' H') :
    ∃ W : Nat → Nat → L2.St → Hp → Prop, (∃ m, W 0 m σ H) ∧ ∀ i m σ H, W i m σ H →
      ((Itt K a).stop i H ∧ D.nx σ H) ∨ ((Itt K a).go i H ∧ ∃ N : L2.St → Hp → Prop, (∀ σ' H', N σ' H' → ∃ m', m' < m ∧ W (i + 1) m' σ' H') ∧ ∀ x H', (Itt K a).yld i H x H' → g x σ H' fun σ2 H2 => tb { D with nx := N, ct := N, bk := D.nx } σ2 H2) := by
  refine for_tup (K := K) (a := a) (xs := ws) (fun i σ H => i ≤ ws.length ∧ ∃ ys, Paired R (ws.drop i) ys ∧ Pv ys σ H) ⟨Nat.zero_le _, xs, hp, h0⟩ (fun i σ' H' _ p => ?_) (fun i x σ' H' hx p => ?_) (fun σ' H' p => ?_)
  · obtain ⟨_, ys, _, q⟩ := p
    exact hl _ _ _ q
  · obtain ⟨_, ys, r, q⟩ := p
    have hi : i < ws.length := (List.getElem?_eq_some_iff.mp hx).1
    have e : ws.drop i = x :: ws.drop (i + 1) := by
      rw [List.drop_eq_getElem_cons hi]
      rw [(List.getElem?_eq_some_iff.mp hx).2]
    rw [e] at r
    cases r with
    | cons a b => exact hs _ _ _ σ' H' a q _ fun σ'' H'' z => ⟨hi, _, b, z⟩
  · obtain ⟨_, ys, r, q⟩ := p
    rw [List.drop_length] at r
    cases r
    exact hd _ _ q
theorem z_forT {α : Type} {R : V → α → Prop} {a : Addr} {ws : List V} {xs : List α} {tl : TE} {g : TG} {tb : TS} (ha : Val tl σ H (.ref a)) (hp : Paired R ws xs) (Pv : List α → L2.St → Hp → Prop) (h0 : Pv xs σ H) (hl : ∀ ys σ' H', Pv ys σ' H' → SqT K H' a ws)
    (hs : ∀ w y ys σ' H', R w y → Pv (y :: ys) σ' H' → ∀ N : L2.St → Hp → Prop, (∀ σ'' H'', Pv ys σ'' H'' → N σ'' H'') → g w σ' H' fun σ2 H2 => tb { D with nx := N, ct := N, bk := tu D } σ2 H2) (hd : ∀ σ' H', Pv [] σ' H' → tu D σ' H') :
    tSeq (tFor (iTup K tl) g tb) tu D σ H := ha _ ⟨a, rfl, ⟨ws, hl _ _ _ h0⟩, turns_tup (D := { D with nx := tu D }) hp Pv h0 hl hs hd⟩
end
theorem bt_min : bootBuiltins "min" = some (.builtin "min") := by decide +kernel
theorem bt_max : bootBuiltins "max" = some (.builtin "max") := by decide +kernel
end Z

namespace Z
open PySem PySem.Spec PyProof.Rows L2

/-! ### comprehensions -/
def consO {β : Type} (r : Option β) (ys : List β) : List β := match r with
  | some y => y :: ys
  | none => ys
def compO' {α β : Type} (f : α → Option (Option β)) : List α → Option (List β)
  | [] => some []
  | x :: xs => (f x).bind fun r => (compO' f xs).bind fun ys => some (consO r ys)
@[irreducible] def compO {α β : Type} (f : α → Option (Option β)) (xs : List α) : Option (List β) := if xs.length ≤ 16777216 then compO' f xs else none
theorem compO_some {α β : Type} {f : α → Option (Option β)} {xs : List α} {ys : List β} (h : compO f xs = some ys) : xs.length ≤ 16777216 ∧ compO' f xs = some ys := by
  unfold compO at h
  split at h
  · rename_i q; exact ⟨q, h⟩
  · cases h
theorem compO_eq {α β : Type} {f : α → Option (Option β)} {g : α → Option β} {xs : List α} (hl : xs.length ≤ 16777216) (h : ∀ x ∈ xs, f x = some (g x)) : compO f xs = some (xs.filterMap g) := by
  unfold compO
  rw [if_pos hl]
  clear hl
  induction xs with
  | nil => rfl
  | cons x xs ih =>
    unfold compO'
    rw [h x (List.mem_cons_self), ih fun y hy => h y (List.mem_cons_of_mem _ hy), List.filterMap_cons]
    cases g x <;> rfl
section
variable {K : PySem.W.Frag} {σ : L2.St} {S H : Hp} {ta tl te : TE} {tt : TT} {tr : TA} {v : V} {Q : VK} {D : Ends} {tu : TS}
theorem wipe_one (j : Nat) : wipe σ [j] = σ.set j none := rfl
theorem wipe_again (j : Nat) (v : V) : wipe ((wipe σ [j]).set j (some v)) [j] = wipe σ [j] := by
  rw [wipe_one, wipe_one, List.set_set, List.set_set]
theorem turnsC_range {lo : Int} {n : Nat} {g : TG} {vs : List Nat} {H1 : Hp} {P : Addr} {Qd : Hp → Prop} (Pv : List Int → Hp → Prop) (h0 : Pv (rangeI lo n) (upd H1 P (.lst [])))
    (hs : ∀ x xs H', Pv (x :: xs) H' → ∀ N : Hp → Prop, (∀ H'', Pv xs H'' → N H'') → g (.int x) (wipe σ vs) H' fun σ2 H2 => wipe σ2 vs = wipe σ vs ∧ tt σ2 H2 fun b H3 =>
      if b = true then te σ2 H3 fun y H4 => ∃ acc, H4 P = some (.lst acc) ∧ acc.length < sizeLine ∧ N (upd H4 P (.lst (acc ++ [y]))) else N H3) (hd : ∀ H', Pv [] H' → Qd H') :
    ∃ W : Nat → Nat → Hp → Prop, (∃ m, W 0 m (upd H1 P (.lst []))) ∧ ∀ i m H, W i m H →
      ((Itr lo n).stop i H ∧ Qd H) ∨ ((Itr lo n).go i H ∧ ∃ Nx : Hp → Prop, (∀ H', Nx H' → ∃ m', m' < m ∧ W (i + 1) m' H') ∧ ∀ x H', (Itr lo n).yld i H x H' → g x (wipe σ vs) H' fun σ2 H2 => wipe σ2 vs = wipe σ vs ∧ tt σ2 H2 fun b H3 =>
        if b = true then te σ2 H3 fun y H4 => ∃ acc, H4 P = some (.lst acc) ∧ acc.length < sizeLine ∧ Nx (upd H4 P (.lst (acc ++ [y]))) else Nx H3) := by
  refine lc_range (fun i H => i ≤ n ∧ Pv (rangeI (lo + (i : Int)) (n - i)) H) ⟨Nat.zero_le _, by
    rw [show lo + ((0 : Nat) : Int) = lo from Int.add_zero lo]; exact h0⟩ (fun i H' hi p => ?_) (fun H' p => hd _ (by
    have q := p.2
    rw [Nat.sub_self] at q
    exact q))
  have e : n - i = (n - (i + 1)) + 1 := by omega
  have q := p.2
  rw [e, rangeI_succ] at q
  refine hs _ _ H' q (fun H => i + 1 ≤ n ∧ Pv (rangeI (lo + ((i + 1 : Nat) : Int)) (n - (i + 1))) H) fun H'' z => ⟨hi, ?_⟩
  rw [show lo + ((i + 1 : Nat) : Int) = lo + (i : Int) + 1 by omega]
  exact z
theorem turnsC_list {α : Type} {R : V → α → Prop} {a : Addr} {ws : List V} {xs : List α} {g : TG} {vs : List Nat} {H1 : Hp} {P : Addr} {Qd : Hp → Prop} (hp : Paired R ws xs) (Pv : List α → Hp → Prop) (h0 : Pv xs (upd H1 P (.lst []))) (hl : ∀ ys H', Pv ys H' → SqL K H' a ws)
    (hs : ∀ w x xs H', R w x → Pv (x :: xs) H' → ∀ N : Hp → Prop, (∀ H'', Pv xs H'' → N H'') → g w (wipe σ vs) H' fun σ2 H2 => wipe σ2 vs = wipe σ vs ∧ tt σ2 H2 fun b H3 =>
      if b = true then te σ2 H3 fun y H4 => ∃ acc, H4 P = some (.lst acc) ∧ acc.length < sizeLine ∧ N (upd H4 P (.lst (acc ++ [y]))) else N H3) (hd : ∀ H', Pv [] H' → Qd H') :
    ∃ W : Nat → Nat → Hp → Prop, (∃ m, W 0 m (upd H1 P (.lst []))) ∧ ∀ i m H, W i m H →
      ((Itl K a).stop i H ∧ Qd H) ∨ ((Itl K a).go i H ∧ ∃ Nx : Hp → Prop, (∀ H', Nx H' → ∃ m', m' < m ∧ W (i + 1) m' H') ∧ ∀ x H', (Itl K a).yld i H x H' → g x (wipe σ vs) H' fun σ2 H2 => wipe σ2 vs = wipe σ vs ∧ tt σ2 H2 fun b H3 =>
        if b = true then te σ2 H3 fun y H4 => ∃ acc, H4 P = some (.lst acc) ∧ acc.length < sizeLine ∧ Nx (upd H4 P (.lst (acc ++ [y]))) else Nx H3) := by
  refine lc_list (K := K) (a := a) (xs := ws) (fun i H => i ≤ ws.length ∧ ∃ ys, Paired R (ws.drop i) ys ∧ Pv ys H) ⟨Nat.zero_le _, xs, hp, h0⟩ (fun i H' _ p => ?_) (fun i x H' hx p => ?_) (fun H' p => ?_)
  · obtain ⟨_, ys, _, q⟩ := p
    exact hl _ _ q
  · obtain ⟨_, ys, r, q⟩ := p
    have hi : i < ws.length := (List.getElem?_eq_some_iff.mp hx).1
    have e : ws.drop i = x :: ws.drop (i + 1) := by
      rw [List.drop_eq_getElem_cons hi]
      rw [(List.getElem?_eq_some_iff.mp hx).2]
    rw [e] at r
    cases r with
    | cons a b => exact hs _ _ _ H' a q (fun H => i + 1 ≤ ws.length ∧ ∃ ys, Paired R (ws.drop (i + 1)) ys ∧ Pv ys H) fun H'' z => ⟨hi, _, b, z⟩
  · obtain ⟨_, ys, r, q⟩ := p
    rw [List.drop_length] at r
    cases r
    exact hd _ q
/-- what holds between two turns of a comprehension whose parts leave the heap as it is: P the new list, zs what is left -/
def CPv {α β : Type} (τ : Rep K β) (S H : Hp) (P : Addr) (f : α → Option (Option β)) (ys : List β) (zs : List α) (H' : Hp) : Prop :=
  ∃ acc ys1 ys2, H' P = some (.lst acc) ∧ RL τ S acc ys1 ∧ Same H H' ∧ compO' f zs = some ys2 ∧ ys1 ++ ys2 = ys ∧ acc.length + zs.length ≤ 16777216
theorem CPv.start {α β : Type} {τ : Rep K β} {P : Addr} {f : α → Option (Option β)} {ys : List β} {zs : List α} (hP : H P = none) (h : compO f zs = some ys) : CPv τ S H P f ys zs (upd H P (.lst [])) := by
  obtain ⟨h1, h2⟩ := compO_some h
  exact ⟨[], [], ys, upd_same, .nil, same_upd hP, h2, rfl, by simpa using h1⟩
theorem CPv.turn {α β : Type} {τ : Rep K β} {P : Addr} {f : α → Option (Option β)} {ys : List β} {x : α} {zs : List α} {H' : Hp} {j : Nat} {w : V} {σx : L2.St} (hP : H P = none) (hσ : σ.set j (some w) = σx)
    (turn : ∀ H', Same H H' → ∀ r, f x = some r → ∃ b, Ans tt σx H' b ∧ (b = true → ∃ v y, r = some y ∧ Val te σx H' v ∧ τ.R S v y) ∧ (b = false → r = none))
    (p : CPv τ S H P f ys (x :: zs) H') (N : Hp → Prop) (hN : ∀ H'', CPv τ S H P f ys zs H'' → N H'') :
    gName j w (wipe σ [j]) H' fun σ2 H2 => wipe σ2 [j] = wipe σ [j] ∧ tt σ2 H2 fun b H3 =>
      if b = true then te σ2 H3 fun y H4 => ∃ acc, H4 P = some (.lst acc) ∧ acc.length < sizeLine ∧ N (upd H4 P (.lst (acc ++ [y]))) else N H3 := by
  obtain ⟨acc, ys1, ys2, h1, h2, h3, h4, h5, h6⟩ := p
  have e : (wipe σ [j]).set j (some w) = σx := by rw [wipe_one, List.set_set]; exact hσ
  have e2 : wipe σx [j] = wipe σ [j] := by rw [← e]; exact wipe_again j w
  unfold compO' at h4
  cases hf : f x with
  | none => rw [hf] at h4; cases h4
  | some r =>
    rw [hf] at h4
    cases hr : compO' f zs with
    | none => rw [hr] at h4; cases h4
    | some ys3 =>
      rw [hr] at h4
      have h4 : consO r ys3 = ys2 := Option.some.inj h4
      obtain ⟨b, ha, ht, hn⟩ := turn H' h3 r hf
      refine g_name e ?_
      refine ⟨e2, ha _ ?_⟩
      cases b with
      | true =>
        obtain ⟨v, y, rfl, hv, hR⟩ := ht rfl
        refine (show (if true = true then _ else _) from hv _ ⟨acc, h1, ?_, hN _ ⟨acc ++ [v], ys1 ++ [y], ys3, upd_same, h2.app (.cons hR .nil), fun a o q => ?_, hr, ?_, ?_⟩⟩)
        · rw [sizeLine_eq]; simp only [List.length_cons] at h6; omega
        · rw [upd_ne (ne_of_none q hP)]; exact h3 a o q
        · rw [← h5, ← h4, List.append_assoc]; rfl
        · rw [List.length_append]; simp only [List.length_cons, List.length_nil] at h6 ⊢; omega
      | false =>
        have hn := hn rfl
        subst hn
        refine (show (if false = true then _ else _) from hN _ ⟨acc, ys1, ys3, h1, h2, h3, hr, ?_, ?_⟩)
        · rw [← h5, ← h4]; rfl
        · simp only [List.length_cons] at h6; omega
theorem CPv.done {α β : Type} {τ : Rep K β} {P : Addr} {f : α → Option (Option β)} {ys : List β} {H' : Hp} (p : CPv τ S H P f ys [] H') : ∃ acc, H' P = some (.lst acc) ∧ RL τ S acc ys ∧ Same H H' := by
  obtain ⟨acc, ys1, ys2, h1, h2, h3, h4, h5, _⟩ := p
  have : ys2 = [] := (Option.some.inj h4).symm
  subst this
  rw [List.append_nil] at h5
  subst h5
  exact ⟨acc, h1, h2, h3⟩
theorem c_lcR1 {β : Type} {τ : Rep K β} {n : Int} {f : Int → Option (Option β)} {ys : List β} {j : Nat} (ha : VA tr σ H [.int n]) (hj : gR n) (h : compO f (rangeI 0 n.toNat) = some ys)
    (turn : ∀ x H', Same H H' → ∀ r, f x = some r → ∃ b, Ans tt (σ.set j (some (.int x))) H' b ∧ (b = true → ∃ v y, r = some y ∧ Val te (σ.set j (some (.int x))) H' v ∧ τ.R S v y) ∧ (b = false → r = none))
    (k : ∀ p ws H', Same H H' → H p = none → H' p = some (.lst ws) → RL τ S ws ys → Q (.ref p) H') : tLc (iRng1 tr) (gName j) tt te [j] σ H Q :=
  ha _ ⟨n, rfl, hj.1, hj.2, fun P hP => turnsC_range (CPv τ S H P f ys) (CPv.start hP h) (fun x xs H' p N hN => CPv.turn hP rfl (fun H' e r hr => turn x H' e r hr) p N hN) fun H' p => by
    obtain ⟨acc, h1, h2, h3⟩ := p.done
    exact k P acc H' h3 hP h1 h2⟩
theorem c_lcR2 {β : Type} {τ : Rep K β} {m n : Int} {f : Int → Option (Option β)} {ys : List β} {j : Nat} (ha : VA tr σ H [.int m, .int n]) (hj : gR2 m n) (h : compO f (rangeI m (n - m).toNat) = some ys)
    (turn : ∀ x H', Same H H' → ∀ r, f x = some r → ∃ b, Ans tt (σ.set j (some (.int x))) H' b ∧ (b = true → ∃ v y, r = some y ∧ Val te (σ.set j (some (.int x))) H' v ∧ τ.R S v y) ∧ (b = false → r = none))
    (k : ∀ p ws H', Same H H' → H p = none → H' p = some (.lst ws) → RL τ S ws ys → Q (.ref p) H') : tLc (iRng2 tr) (gName j) tt te [j] σ H Q :=
  ha _ ⟨m, n, rfl, hj, fun P hP => turnsC_range (CPv τ S H P f ys) (CPv.start hP h) (fun x xs H' p N hN => CPv.turn hP rfl (fun H' e r hr => turn x H' e r hr) p N hN) fun H' p => by
    obtain ⟨acc, h1, h2, h3⟩ := p.done
    exact k P acc H' h3 hP h1 h2⟩
theorem c_lcL {α β : Type} {τ : Rep K β} {R : V → α → Prop} {a : Addr} {us : List V} {xs : List α} {f : α → Option (Option β)} {ys : List β} {j : Nat} (ha : Val tl σ H (.ref a)) (hq : SqL K H a us) (hp : Paired R us xs) (h : compO f xs = some ys)
    (turn : ∀ w x H', R w x → Same H H' → ∀ r, f x = some r → ∃ b, Ans tt (σ.set j (some w)) H' b ∧ (b = true → ∃ v y, r = some y ∧ Val te (σ.set j (some w)) H' v ∧ τ.R S v y) ∧ (b = false → r = none))
    (k : ∀ p ws H', Same H H' → H p = none → H' p = some (.lst ws) → RL τ S ws ys → Q (.ref p) H') : tLc (iList K tl) (gName j) tt te [j] σ H Q :=
  ha _ ⟨a, rfl, ⟨us, hq⟩, fun P hP => turnsC_list hp (CPv τ S H P f ys) (CPv.start hP h) (fun zs H' p => by
    obtain ⟨_, _, _, _, _, e, _⟩ := p
    exact e.seq hq) (fun w x xs H' rw_ p N hN => CPv.turn hP rfl (fun H' e r hr => turn w x H' rw_ e r hr) p N hN) fun H' p => by
    obtain ⟨acc, h1, h2, h3⟩ := p.done
    exact k P acc H' h3 hP h1 h2⟩
theorem a_yes {b : Bool} (h : b = true) : Ans tYes σ H b := by subst h; exact fun _ q => q

/-! ### further forms of loops -/
theorem z_forLE {g : TG} {tb : TS} (h : tl σ H fun x H1 => tSeq (tFor (iList K (tC x)) g tb) tu D σ H1) : tSeq (tFor (iList K tl) g tb) tu D σ H := h
theorem c_lcLE {g : TG} {vs : List Nat} (h : tl σ H fun x H1 => tLc (iList K (tC x)) g tt te vs σ H1 Q) : tLc (iList K tl) g tt te vs σ H Q := h
theorem v_ixq2 {α : Type} {τ : Rep K α} {xs : List α} {q : α} {i : Int} (e : Same S H) (hr : (qQ τ).R S v xs) (hx : atI xs i = some q) : ∃ w, (∀ {σ : L2.St} {ta tb : TE}, Val ta σ H v → Val tb σ H (.int i) → Val (tOp (rIxL K) ta tb) σ H w) ∧ τ.R S w q := by
  obtain ⟨a, ws, rfl, h2, h3⟩ := hr
  obtain ⟨w, ew, r⟩ := h3.at hx
  exact ⟨w, fun ha hb Q z => ha _ (hb _ ⟨a, ws, i, w, rfl, rfl, e.seq h2, ew, z⟩), r⟩
theorem v_ixc {α : Type} {τ : Rep K α} {l : Addr} {ws : List V} {xs : List α} {q : α} {i : Int} (hl : H l = some (.lst ws)) (hr : RL τ S ws xs) (hx : atI xs i = some q) : ∃ w, (∀ {σ : L2.St} {ta tb : TE}, Val ta σ H (.ref l) → Val tb σ H (.int i) → Val (tOp (rIxL K) ta tb) σ H w) ∧ τ.R S w q := by
  obtain ⟨w, ew, r⟩ := hr.at hx
  exact ⟨w, fun ha hb Q z => ha _ (hb _ ⟨l, ws, i, w, rfl, rfl, SqL.of hl, ew, z⟩), r⟩
/-- a part of a tuple -/
theorem v_p20 {α β : Type} {τ : Rep K α} {υ : Rep K β} {p : α × β} (e : Same S H) (hr : (qT2 τ υ).R S v p) : ∃ w, (∀ {σ : L2.St} {ta tb : TE}, Val ta σ H v → Val tb σ H (.int 0) → Val (tOp (rIxT K) ta tb) σ H w) ∧ τ.R S w p.1 := by
  obtain ⟨a, w1, w2, rfl, h2, h3, _⟩ := hr
  exact ⟨w1, fun ha hb Q q => ha _ (hb _ ⟨a, _, 0, _, rfl, rfl, SqT.of (e _ _ h2), rfl, q⟩), h3⟩
theorem v_p21 {α β : Type} {τ : Rep K α} {υ : Rep K β} {p : α × β} (e : Same S H) (hr : (qT2 τ υ).R S v p) : ∃ w, (∀ {σ : L2.St} {ta tb : TE}, Val ta σ H v → Val tb σ H (.int 1) → Val (tOp (rIxT K) ta tb) σ H w) ∧ υ.R S w p.2 := by
  obtain ⟨a, w1, w2, rfl, h2, _, h3⟩ := hr
  exact ⟨w2, fun ha hb Q q => ha _ (hb _ ⟨a, _, 1, _, rfl, rfl, SqT.of (e _ _ h2), rfl, q⟩), h3⟩
theorem eun2 {α β γ : Type} {f : α → β → γ} {a : α} {b : β} {r : γ} (h : un2 f (a, b) = r) : f a b = r := h
theorem eun3 {α β γ δ : Type} {f : α → β → γ → δ} {a : α} {b : β} {c : γ} {r : δ} (h : un3 f (a, b, c) = r) : f a b c = r := h
theorem eun4 {α β γ δ ε : Type} {f : α → β → γ → δ → ε} {a : α} {b : β} {c : γ} {d : δ} {r : ε} (h : un4 f (a, b, c, d) = r) : f a b c d = r := h
theorem eun5 {α β γ δ ε ζ : Type} {f : α → β → γ → δ → ε → ζ} {a : α} {b : β} {c : γ} {d : δ} {e : ε} {r : ζ} (h : un5 f (a, b, c, d, e) = r) : f a b c d e = r := h
theorem OP.nameW {σ : Type} {c : σ → Option Bool} {f : σ → Option σ} {n : Nat} {s : σ} {A : σ → Prop} (h : OP (Z.whileO c f n s) A) : ∃ C F, C = c ∧ F = f ∧ OP (Z.whileO C F n s) A := ⟨c, f, rfl, rfl, h⟩
theorem OP.nameX {σ ρ : Type} {c : σ → Option Bool} {f : σ → Option (σ ⊕ ρ)} {n : Nat} {s : σ} {A : σ ⊕ ρ → Prop} (h : OP (Z.whileR c f n s) A) : ∃ C F, C = c ∧ F = f ∧ OP (Z.whileR C F n s) A := ⟨c, f, rfl, rfl, h⟩
theorem fcall {σ τ : Type} {F f : σ → Option τ} {s : σ} {r : τ} (e : F = f) (h : F s = some r) : f s = some r := e ▸ h
theorem nn_t2 {α β : Type} {τ : Rep K α} {υ : Rep K β} {p : α × β} (hr : (qT2 τ υ).R H v p) : v ≠ .non := by
  obtain ⟨a, w1, w2, rfl, _⟩ := hr
  exact fun z => nomatch z
theorem nn_l {α : Type} {τ : Rep K α} {xs : List α} (hr : (qL τ).R H v xs) : v ≠ .non := by
  obtain ⟨a, ws, rfl, _⟩ := hr
  exact fun z => nomatch z
theorem v_isiO {T n : String} {α : Type} {τ : Rep K α} {o : Option α} (ha : Val ta σ H v) (hr : (qOpt τ).R H v o) (ty : ∀ {y : α}, τ.R H v y → TyX K H v (.type T)) (hk : kitB T n = some true) (hn : kitB "NoneType" n = some false) : Val (tCB (rIsi K) (tCons ta (tCons (tC (.ty n)) tNil))) σ H (.bl o.isSome) := by
  cases o with
  | none =>
    cases (show v = .non from hr)
    exact v_isi ha ty_non hn
  | some y => exact v_isi ha (ty hr.2) hk
theorem v_isiN {T n : String} {α : Type} {τ : Rep K α} {o : Option α} (ha : Val ta σ H v) (hr : (qOpt τ).R H v o) (ty : ∀ {y : α}, τ.R H v y → TyX K H v (.type T)) (hk : kitB T n = some false) (hn : kitB "NoneType" n = some false) : Val (tCB (rIsi K) (tCons ta (tCons (tC (.ty n)) tNil))) σ H (.bl false) := by
  cases o with
  | none =>
    cases (show v = .non from hr)
    exact v_isi ha ty_non hn
  | some y => exact v_isi ha (ty hr.2) hk
end
end Z

namespace Z
open PySem PySem.Spec PyProof.Rows L2

/-! ### answers -/
theorem OP.fin {α : Type} {A F : α → Prop} {x : α} (hA : A = F) (h : OP (Option.some x) A) : F x := hA ▸ h
def EXP {α : Type} (r : Except Nat α) (P : α → Prop) (N : Nat → Prop) : Prop := match r with
  | .ok x => P x
  | .error c => N c
theorem EXP.ok {α : Type} {x : α} {P : α → Prop} {N : Nat → Prop} (h : EXP (.ok x) P N) : P x := h
theorem EXP.er {α : Type} {c : Nat} {P : α → Prop} {N : Nat → Prop} (h : EXP (.error c) P N) : N c := h
theorem LM0 {P : Addr → Prop} : ∀ l ∈ ([] : List Addr), P l := fun _ h => nomatch h
theorem LM1 {P : Addr → Prop} {a : Addr} {as : List Addr} (h : P a) (t : ∀ l ∈ as, P l) : ∀ l ∈ a :: as, P l := fun l q => by
  cases q with
  | head => exact h
  | tail _ q => exact t l q
theorem NM0 {a : Addr} : a ∉ ([] : List Addr) := fun h => nomatch h
theorem NM1 {a b : Addr} {bs : List Addr} (h : a ≠ b) (t : a ∉ bs) : a ∉ b :: bs := fun q => by
  cases q with
  | head => exact h rfl
  | tail _ q => exact t q

section
variable {K : PySem.W.Frag} {σ σ' : L2.St} {S S1 H S0 H0 : Hp} {L L' : List Addr} {ta tb te tl : TE} {t u tc : TT} {tr : TA} {x y z v : V} {i j : Int} {b c : Bool} {Q : VK} {D : Ends} {t1 t2 tu : TS} {g : TG} {vs ws : List V}

/-! ### lists that are only read -/
/-- a list written by the top -/
def Wr (K : PySem.W.Frag) (a : Addr) (xs : List V) : Prop := ∃ (o : Obj) (its : Array Value) (n : Nat), K.lookup a = some o ∧ o.cls = .type "list" ∧ o.dict = none ∧ o.data = .seq its n ∧ its.size ≤ sizeLine ∧ Vals xs its.toList
def StL (K : PySem.W.Frag) (L : List Addr) (H0 : Hp) (a : Addr) (ws : List V) : Prop := ((H0 a = some (.lst ws) ∨ ∃ o, H0 a = some (.frz o (.lst ws))) ∧ a ∉ L) ∨ Wr K a ws
theorem StL.sq {a : Addr} (h : StL K L H0 a ws) : SqL K H0 a ws := by
  rcases h with ⟨h | ⟨o, h⟩, _⟩ | h
  · exact .inl (.inl h)
  · exact .inl (.inr ⟨o, h⟩)
  · exact .inr h
theorem Grow.st {a : Addr} (g : Grow L S0 H0 S H) (h : StL K L H0 a ws) : StL K L H a ws := by
  rcases h with ⟨h | ⟨o, h⟩, n⟩ | h
  · exact .inl ⟨.inl (g.hh _ _ n h), n⟩
  · exact .inl ⟨.inr ⟨o, g.hh _ _ n h⟩, n⟩
  · exact .inr h
theorem Grow.sq {a : Addr} (g : Grow L S0 H0 S H) (h : StL K L H0 a ws) : SqL K H a ws := (g.st h).sq
theorem StL.to {a : Addr} (h : StL K L H0 a ws) (g : Grow L S0 H0 S H) (hL : ∀ l ∈ L', H0 l = none ∨ l ∈ L) : StL K L' H a ws := by
  rcases h with ⟨q, n⟩ | q
  · rcases g.st (.inl ⟨q, n⟩ : StL K L H0 a ws) with ⟨q', _⟩ | q'
    · refine .inl ⟨q', fun m => ?_⟩
      rcases hL a m with z | z
      · rcases q with q | ⟨o, q⟩
        · rw [z] at q; cases q
        · rw [z] at q; cases q
      · exact n z
    · exact .inr q'
  · exact .inr q
def RdL {α : Type} (τ : Rep K α) (L : List Addr) (S H0 : Hp) (v : V) (x : List α) : Prop := ∃ a ws, v = .ref a ∧ StL K L H0 a ws ∧ RL τ S ws x
/-- what a loop, a slice .. reads -/
def LS {α : Type} (τ : Rep K α) (S H : Hp) (v : V) (x : List α) : Prop := ∃ a ws, v = .ref a ∧ SqL K H a ws ∧ RL τ S ws x
def LP {α : Type} (τ : Rep K α) (S H : Hp) (v : V) (x : List α) : Prop := ∃ a ws, v = .ref a ∧ H a = some (.lst ws) ∧ RL τ S ws x
section
variable {α : Type} {τ : Rep K α} {xs ys : List α} {l : Addr} {o o' : HO}
theorem RdL.mono (e : Same S S1) (h : RdL τ L S H0 v xs) : RdL τ L S1 H0 v xs := by
  obtain ⟨a, ws, rfl, h1, h2⟩ := h
  exact ⟨a, ws, rfl, h1, RL.mono e h2⟩
theorem RdL.q (g : Grow L S0 H0 S H) (h : RdL τ L S H0 v xs) : (qQ τ).R H v xs := by
  obtain ⟨a, ws, rfl, h1, h2⟩ := h
  exact ⟨a, ws, rfl, g.sq h1, RL.mono g.sh h2⟩
theorem RdL.to (g : Grow L S0 H0 S H) (h : RdL τ L S H0 v xs) (hL : ∀ l ∈ L', H0 l = none ∨ l ∈ L) : RdL τ L' S H v xs := by
  obtain ⟨a, ws, rfl, h1, h2⟩ := h
  exact ⟨a, ws, rfl, h1.to g hL, h2⟩
theorem RdL.ofL (e : Same S H) (h : (qL τ).R S v xs) (hL : ∀ l ∈ L', S l = none) : RdL τ L' S H v xs := by
  obtain ⟨a, ws, rfl, h1, h2⟩ := h
  exact ⟨a, ws, rfl, .inl ⟨.inl (e _ _ h1), fun m => by rw [hL a m] at h1; cases h1⟩, h2⟩
theorem RdL.ofC (h : H l = some (.lst ws)) (n : l ∉ L') (r : RL τ S ws xs) : RdL τ L' S H (.ref l) xs := ⟨l, ws, rfl, .inl ⟨.inl h, n⟩, r⟩
theorem RdL.start {a : Addr} (h : SqL K H a ws) (r : RL τ S ws xs) : RdL τ [] S H (.ref a) xs := by
  refine ⟨a, ws, rfl, ?_, r⟩
  rcases h with (h | ⟨o, h⟩) | h
  · exact .inl ⟨.inl h, NM0⟩
  · exact .inl ⟨.inr ⟨o, h⟩, NM0⟩
  · exact .inr h
theorem RdL.ofQ (e : Same S H) (h : (qQ τ).R S v xs) (_ : ∀ l ∈ ([] : List Addr), S l = none) : RdL τ [] S H v xs := by
  obtain ⟨a, ws, rfl, h1, h2⟩ := h
  exact RdL.start (e.seq h1) h2
theorem qL_of (h : H l = some (.lst ws)) (r : RL τ H ws xs) : (qL τ).R H (.ref l) xs := ⟨l, ws, rfl, h, r⟩
theorem LS.ofL (e : Same S H) (h : (qL τ).R S v xs) : LS τ S H v xs := by
  obtain ⟨a, ws, rfl, h1, h2⟩ := h
  exact ⟨a, ws, rfl, SqL.of (e _ _ h1), h2⟩
theorem LS.ofQ (e : Same S H) (h : (qQ τ).R S v xs) : LS τ S H v xs := by
  obtain ⟨a, ws, rfl, h1, h2⟩ := h
  exact ⟨a, ws, rfl, e.seq h1, h2⟩
theorem LS.rd (g : Grow L S0 H0 S H) (h : RdL τ L S H0 v xs) : LS τ S H v xs := by
  obtain ⟨a, ws, rfl, h1, h2⟩ := h
  exact ⟨a, ws, rfl, g.sq h1, h2⟩
theorem LS.cel (h : H l = some (.lst ws)) (r : RL τ S ws xs) : LS τ S H (.ref l) xs := ⟨l, ws, rfl, SqL.of h, r⟩
theorem LP.ofL (e : Same S H) (h : (qL τ).R S v xs) : LP τ S H v xs := by
  obtain ⟨a, ws, rfl, h1, h2⟩ := h
  exact ⟨a, ws, rfl, e _ _ h1, h2⟩
theorem LP.cel (h : H l = some (.lst ws)) (r : RL τ S ws xs) : LP τ S H (.ref l) xs := ⟨l, ws, rfl, h, r⟩
theorem c_freeze (g : Grow L S0 H0 S H) (c : Cel L H0 S H l (.lst ws)) (z : H0 l = none) (r : RL τ S ws xs) :
    ∃ S1, Grow L S0 H0 S1 H ∧ Same S S1 ∧ (qL τ).R S1 (.ref l) xs ∧ ∀ l' o', l' ≠ l → Cel L H0 S H l' o' → Cel L H0 S1 H l' o' :=
  ⟨_, g.freeze c z, same_upd c.s, ⟨l, ws, rfl, upd_same, RL.mono (same_upd c.s) r⟩, fun _ _ n c' => c'.freeze n⟩
theorem look_none {ns : List Str} {fs : List (Str × V)} {m : Str} (e : fs.map (·.1) = ns) (h : m ∉ ns) : fs.lookup m = none := by
  subst e
  induction fs with
  | nil => rfl
  | cons p fs ih =>
    obtain ⟨k, w⟩ := p
    rw [List.map_cons, List.mem_cons, not_or] at h
    rw [List.lookup_cons]
    have : (m == k) = false := beq_eq_false_iff_ne.mpr h.1
    rw [this]
    exact ih h.2

/-! ### values -/
theorem nn_q (h : (qQ τ).R H v xs) : v ≠ .non := by
  obtain ⟨a, ws, rfl, _⟩ := h
  exact fun z => nomatch z
theorem ty_q (h : (qQ τ).R H v xs) : TyX K H v (.type "list") := by
  obtain ⟨a, ws, rfl, h, _⟩ := h
  rcases h with (h | ⟨o, h⟩) | ⟨o, its, n, h, c, _⟩
  · exact .base (.lst h)
  · exact .base (.frz h)
  · exact .kList h c
theorem dec_nn (h : v ≠ .non) : decide (v = .non) = false := decide_eq_false h
theorem dec_nnN (h : v ≠ .non) : (!decide (v = .non)) = true := by rw [decide_eq_false h]; rfl
theorem ty_scI (h : (qI (K := K)).R H v i) : TyX K H v (.type "int") := by cases h; exact ty_int
theorem ty_scB (h : (qB (K := K)).R H v b) : TyX K H v (.type "bool") := by cases h; exact ty_bl
theorem ty_scS {s : Str} (h : (qS (K := K)).R H v s) : TyX K H v (.type "str") := by cases h; exact ty_str
theorem v_catS {s t : Str} (ha : Val ta σ H (.str s)) (hb : Val tb σ H (.str t)) (hz : s.length + t.length ≤ 16777216) : Val (tOp (fun x y H Q => ∃ i j, x = .str i ∧ y = .str j ∧ i.length + j.length ≤ sizeLine ∧ Q (.str (i ++ j)) H) ta tb) σ H (.str (s ++ t)) := fun Q q => ha _ (hb _ ⟨s, t, rfl, rfl, hz, q⟩)
theorem e_catS {s t : Str} (hz : s.length + t.length ≤ 16777216) (q : Q (.str (s ++ t)) H) : (fun (x y : V) (H : Hp) (Q : VK) => ∃ i j, x = .str i ∧ y = .str j ∧ i.length + j.length ≤ sizeLine ∧ Q (.str (i ++ j)) H) (.str s) (.str t) H Q := ⟨s, t, rfl, rfl, hz, q⟩
theorem v_lenS {s : Str} (hz : s.length ≤ 16777216) (ha : Val ta σ H (.str s)) : Val (tCB (fun xs H Q => ∃ z, xs = [.str z] ∧ z.length ≤ sizeLine ∧ Q (.int z.length) H) (tCons ta tNil)) σ H (.int (s.length : Int)) := fun Q q => ha _ ⟨s, rfl, hz, q⟩
theorem e_len (h : (qQ τ).R H v xs) (q : Q (.int (xs.length : Int)) H) : rLenS K [v] H Q := by
  obtain ⟨a, ws, rfl, h2, h3⟩ := h
  exact ⟨a, ws, rfl, .inl h2, by rw [h3.length]; exact q⟩
theorem ints_of {xs : List Int} : ∀ {ws : List V}, RL (K := K) qI H ws xs → ws = xs.map V.int := fun h => RL.eqmap V.int (fun _ _ q => q) h
theorem e_sum {xs : List Int} (h : (qQ (K := K) qI).R H v xs) (q : Q (.int xs.sum) H) : rSum K [v] H Q := by
  obtain ⟨a, ws, rfl, h2, h3⟩ := h
  exact ⟨a, xs, rfl, by rw [← ints_of h3]; exact h2, q⟩
theorem v_sum {xs : List Int} (ha : Val ta σ H v) (h : (qQ (K := K) qI).R H v xs) : Val (tCB (rSum K) (tCons ta tNil)) σ H (.int xs.sum) := fun Q q => ha _ (e_sum h q)
theorem e_isN (e : decide (x = .non) = b) (q : Q (.bl b) H) : rIsN x .non H Q := ⟨rfl, by rw [e]; exact q⟩
theorem e_notN (e : (!decide (x = .non)) = b) (q : Q (.bl b) H) : rNotN x .non H Q := ⟨rfl, by rw [e]; exact q⟩
/-- pairs of whole numbers in order -/
def ltP2 (p q : Int × Int) : Bool := SrtO.lexB p q
theorem lex2 (p q : Int × Int) : HT.lexLt [p.1, p.2] [q.1, q.2] = ltP2 p q := by
  unfold ltP2 SrtO.lexB
  rw [HT.lexLt_cons, HT.lexLt_cons, HT.lexLt_nil_nil]
  by_cases h1 : p.1 = q.1
  · rw [if_pos h1, if_pos h1]
    by_cases h2 : p.2 = q.2
    · rw [if_pos h2, h2]; simp
    · rw [if_neg h2]
  · rw [if_neg h1, if_neg h1]
def rPair (f : Int × Int → Int × Int → Bool) (K : PySem.W.Frag) : R2 := fun x y H Q => ∃ (a b : Addr) (p q : Int × Int), x = .ref a ∧ y = .ref b ∧ SqT K H a [.int p.1, .int p.2] ∧ SqT K H b [.int q.1, .int q.2] ∧ Q (.bl (f p q)) H
theorem op_ltP {X : Cx} (hu : X.A.units < cLine) : OpR X (compareOp .Lt) (rPair ltP2 X.K) := fun pins s σ H x y v u Q I rx ry h => by
  obtain ⟨a, b, p, q, rfl, rfl, ha, hb, k⟩ := h
  exact op_ltT hu pins s σ H _ _ v u Q I rx ry ⟨a, b, [p.1, p.2], [q.1, q.2], rfl, rfl, ha, hb, by rw [lex2]; exact k⟩
theorem op_geP {X : Cx} (hu : X.A.units < cLine) : OpR X (compareOp .GtE) (rPair (fun p q => !ltP2 p q) X.K) := by
  intro pins s σ H x y v u Q I rx ry h
  obtain ⟨a, b, p, q, rfl, rfl, ha, hb, k⟩ := h
  cases rx
  cases ry
  obtain ⟨its, r1, p1, _⟩ := I.tuple ha
  obtain ⟨its2, r2, p2, _⟩ := I.tuple hb
  obtain ⟨ns, ens⟩ : ∃ ns, ns = [p.1, p.2] := ⟨_, rfl⟩
  obtain ⟨ms, ems⟩ : ∃ ms, ms = [q.1, q.2] := ⟨_, rfl⟩
  have i1 : IntsAre its ns := by rw [ens]; exact Vals.ints (ns := [p.1, p.2]) r1
  have i2 : IntsAre its2 ms := by rw [ems]; exact Vals.ints (ns := [q.1, q.2]) r2
  have e1 : its.toArray.size = ns.length := by rw [List.size_toArray]; exact i1.length
  have e2 : its2.toArray.size = ms.length := by rw [List.size_toArray]; exact i2.length
  have at1 : ∀ j (h1 : j < its.toArray.size), ∃ t, its.toArray[j] = .int (ns.getD j 0) t := fun j h1 => PyProof.Rows.IntsAre.int_at i1 _ _ (by simp at h1; simp [h1])
  have at2 : ∀ j (h1 : j < its2.toArray.size), ∃ t, its2.toArray[j] = .int (ms.getD j 0) t := fun j h1 => PyProof.Rows.IntsAre.int_at i2 _ _ (by simp at h1; simp [h1])
  have R := Ob.RcOp.tuples_ge (A := X.A) (s := s) (e := fun j => decide (ns.getD j 0 = ms.getD j 0)) (r := fun j => decide (ms.getD j 0 ≤ ns.getD j 0)) p1 p2 hu (fun j h1 h2 => by
    obtain ⟨t, et⟩ := at1 j h1
    obtain ⟨t', et'⟩ := at2 j h2
    rw [et, et']
    have z : (ns.getD j 0 == ms.getD j 0) = decide (ns.getD j 0 = ms.getD j 0) := by
      by_cases q : ns.getD j 0 = ms.getD j 0
      · rw [decide_eq_true q]; exact beq_iff_eq.mpr q
      · rw [decide_eq_false q]; exact beq_eq_false_iff_ne.mpr q
    rw [← z]
    exact SeqAt.EqAt.int_int _ _ _ _) (fun j h1 h2 _ => by
    obtain ⟨t, et⟩ := at1 j h1
    obtain ⟨t', et'⟩ := at2 j h2
    rw [et, et']
    exact Ob.RcOp.ge_int _ _ _ _)
  rw [e1, e2] at R
  have key : Ob.lexAt (fun j => decide (ns.getD j 0 = ms.getD j 0)) (fun j => decide (ms.getD j 0 ≤ ns.getD j 0)) (decide (ns.length ≥ ms.length)) 0 (min ns.length ms.length) = !ltP2 p q := by
    subst ens; subst ems
    show Ob.lexAt _ _ _ 0 2 = _
    rw [Ob.lexAt_succ, Ob.lexAt_succ, Ob.lexAt_zero]
    unfold ltP2 SrtO.lexB
    simp only [List.getD_cons_zero, List.getD_cons_succ, decide_eq_true_iff]
    by_cases h1 : p.1 = q.1
    · rw [if_pos h1, if_pos h1]
      by_cases h2 : p.2 = q.2
      · rw [if_pos h2, h2]; simp
      · rw [if_neg h2]
        have : decide (q.2 ≤ p.2) = !decide (p.2 < q.2) := by rw [← decide_not]; exact decide_eq_decide.mpr (by omega)
        rw [this]
    · rw [if_neg h1, if_neg h1]
      have : decide (q.1 ≤ p.1) = !decide (p.1 < q.1) := by rw [← decide_not]; exact decide_eq_decide.mpr (by omega)
      rw [this]
  rw [key] at R
  have z : wpAny (model X.prog X.w) X.A (compareOp .GtE (.ref a) (.ref b)) (EP X pins σ Q) X.xe s := R X.prog X.w X.xe (EP X pins σ Q) ⟨.bl _, H, I, rfl, k⟩
  exact z
theorem e_P2 {f : Int × Int → Int × Int → Bool} {p q : Int × Int} (h1 : (qT2 (K := K) qI qI).R H x p) (h2 : (qT2 (K := K) qI qI).R H y q) (k : Q (.bl (f p q)) H) : rPair f K x y H Q := by
  obtain ⟨a, w1, w2, rfl, ha, rfl, rfl⟩ := h1
  obtain ⟨b, u1, u2, rfl, hb, rfl, rfl⟩ := h2
  exact ⟨a, b, p, q, rfl, rfl, SqT.of ha, SqT.of hb, k⟩
theorem v_P2 {f : Int × Int → Int × Int → Bool} {p q : Int × Int} (ha : Val ta σ H x) (hb : Val tb σ H y) (h1 : (qT2 (K := K) qI qI).R H x p) (h2 : (qT2 (K := K) qI qI).R H y q) : Val (tOp (rPair f K) ta tb) σ H (.bl (f p q)) := fun Q k => ha _ (hb _ (e_P2 h1 h2 k))

/-! ### new lists -/
theorem l_slice {lo hi : Option Int} (h : LS τ S H v xs) (k : ∀ p ws H', Same H H' → H p = none → H' p = some (.lst ws) → RL τ S ws (cutI xs lo hi) → Q (.ref p) H') : rSlL K v lo hi H Q := by
  obtain ⟨a, ws, rfl, h2, h3⟩ := h
  exact ⟨a, ws, rfl, h2, fun l hl => k l _ _ (same_upd hl) hl upd_same (h3.cut lo hi)⟩
theorem l_list (h : LS τ S H v xs) (k : ∀ p ws H', Same H H' → H p = none → H' p = some (.lst ws) → RL τ S ws xs → Q (.ref p) H') :
    ∃ p ys, [v] = [.ref p] ∧ (SqL K H p ys ∨ SqT K H p ys) ∧ ∀ l, H l = none → Q (.ref l) (upd H l (.lst ys)) := by
  obtain ⟨a, ws, rfl, h2, h3⟩ := h
  exact ⟨a, ws, rfl, .inl h2, fun l hl => k l ws _ (same_upd hl) hl upd_same h3⟩
theorem l_cat (h1 : LP τ S H x xs) (h2 : LP τ S H y ys) (hz : xs.length + ys.length ≤ 16777216) (k : ∀ p ws H', Same H H' → H p = none → H' p = some (.lst ws) → RL τ S ws (xs ++ ys) → Q (.ref p) H') : rCat x y H Q := by
  obtain ⟨a, ws, rfl, ha, ra⟩ := h1
  obtain ⟨b, us, rfl, hb, rb⟩ := h2
  exact ⟨a, b, ws, us, rfl, rfl, ha, hb, by rw [ra.length, rb.length]; exact hz, fun p hp => k p _ _ (same_upd hp) hp upd_same (ra.app rb)⟩
/-- rising, by insertion -/
def insB {β : Type} (lt : β → β → Bool) (x : β) : List β → List β
  | [] => [x]
  | y :: ys => if lt y x = true then y :: insB lt x ys else x :: y :: ys
def sortB {β : Type} (lt : β → β → Bool) : List β → List β
  | [] => []
  | x :: xs => insB lt x (sortB lt xs)
theorem insB_perm {β : Type} {lt : β → β → Bool} {x : β} : ∀ ys : List β, (insB lt x ys).Perm (x :: ys)
  | [] => .refl _
  | y :: ys => by
    unfold insB
    split
    · exact ((insB_perm ys).cons y).trans (.swap x y ys)
    · exact .refl _
theorem sortB_perm {β : Type} {lt : β → β → Bool} : ∀ xs : List β, (sortB lt xs).Perm xs
  | [] => .refl _
  | x :: xs => (insB_perm _).trans ((sortB_perm xs).cons x)
theorem insB_srt {β : Type} {lt : β → β → Bool} (asy : ∀ a b, lt a b = true → lt b a = false) (tr : ∀ a b c, lt b a = false → lt c b = false → lt c a = false) {x : β} : ∀ {ys : List β}, SrtO.Srtd lt ys → SrtO.Srtd lt (insB lt x ys)
  | [], _ => List.pairwise_singleton _ _
  | y :: ys, h => by
    unfold insB
    obtain ⟨h1, h2⟩ := List.pairwise_cons.mp h
    split
    · rename_i q
      refine List.pairwise_cons.mpr ⟨fun z hz => ?_, insB_srt asy tr h2⟩
      rcases List.mem_cons.mp ((insB_perm ys).mem_iff.mp hz) with rfl | hz
      · exact asy _ _ q
      · exact h1 z hz
    · rename_i q
      have q : lt y x = false := by cases e : lt y x <;> simp_all
      refine List.pairwise_cons.mpr ⟨fun z hz => ?_, h⟩
      rcases List.mem_cons.mp hz with rfl | hz
      · exact q
      · exact tr _ _ _ q (h1 z hz)
theorem sortB_srt {β : Type} {lt : β → β → Bool} (asy : ∀ a b, lt a b = true → lt b a = false) (tr : ∀ a b c, lt b a = false → lt c b = false → lt c a = false) : ∀ xs : List β, SrtO.Srtd lt (sortB lt xs)
  | [] => List.Pairwise.nil
  | x :: xs => insB_srt asy tr (sortB_srt asy tr xs)
/-- two rising lists of the same things are one, where neither-below is equal -/
theorem srt_uniq {β : Type} {lt : β → β → Bool} (tot : ∀ a b, lt a b = false → lt b a = false → a = b) : ∀ {xs ys : List β}, xs.Perm ys → SrtO.Srtd lt xs → SrtO.Srtd lt ys → xs = ys
  | [], ys, p, _, _ => (List.Perm.nil_eq p)
  | x :: xs, [], p, _, _ => absurd p.length_eq (by simp)
  | x :: xs, y :: ys, p, h1, h2 => by
    obtain ⟨a1, a2⟩ := List.pairwise_cons.mp h1
    obtain ⟨b1, b2⟩ := List.pairwise_cons.mp h2
    have e : x = y := by
      rcases List.mem_cons.mp (p.mem_iff.mp List.mem_cons_self) with e | hx
      · exact e
      · rcases List.mem_cons.mp (p.mem_iff.mpr List.mem_cons_self) with e | hy
        · exact e.symm
        · exact tot x y (b1 x hx) (a1 y hy)
    subst e
    rw [srt_uniq tot (p.cons_inv) a2 b2]
abbrev sortP (xs : List (Int × Int)) : List (Int × Int) := sortB ltP2 xs
abbrev ltI (a b : Int) : Bool := decide (a < b)
abbrev sortI (xs : List Int) : List Int := sortB ltI xs
theorem ltP2_iff {p q : Int × Int} : ltP2 p q = true ↔ p.1 < q.1 ∨ (p.1 = q.1 ∧ p.2 < q.2) := SrtO.lexB_iff
theorem ltP2_no {p q : Int × Int} : ltP2 p q = false ↔ ¬ (p.1 < q.1 ∨ (p.1 = q.1 ∧ p.2 < q.2)) := SrtO.lexB_no
theorem ltP2_tot (a b : Int × Int) (h1 : ltP2 a b = false) (h2 : ltP2 b a = false) : a = b := by
  rw [ltP2_no] at h1 h2
  exact Prod.ext (by omega) (by omega)
theorem ltP2_asy (a b : Int × Int) (h : ltP2 a b = true) : ltP2 b a = false := by
  rw [ltP2_iff] at h
  rw [ltP2_no]; omega
theorem ltP2_tr (a b c : Int × Int) (h1 : ltP2 b a = false) (h2 : ltP2 c b = false) : ltP2 c a = false := by
  rw [ltP2_no] at h1 h2 ⊢; omega
theorem ltI_tot (a b : Int) (h1 : ltI a b = false) (h2 : ltI b a = false) : a = b := by
  have := of_decide_eq_false h1
  have := of_decide_eq_false h2
  omega
theorem ltI_asy (a b : Int) (h : ltI a b = true) : ltI b a = false := by
  have := of_decide_eq_true h
  exact decide_eq_false (by omega)
theorem ltI_tr (a b c : Int) (h1 : ltI b a = false) (h2 : ltI c b = false) : ltI c a = false := by
  have := of_decide_eq_false h1
  have := of_decide_eq_false h2
  exact decide_eq_false (by omega)
theorem RL.perm : ∀ {ws : List V} {xs : List α} {ws' : List V}, RL τ H ws xs → ws'.Perm ws → ∃ xs', xs'.Perm xs ∧ RL τ H ws' xs' := by
  intro ws xs ws' r p
  induction p generalizing xs with
  | nil => exact ⟨xs, .refl _, r⟩
  | cons x p ih =>
    cases r with
    | cons a b =>
      obtain ⟨ys, q, s⟩ := ih b
      exact ⟨_ :: ys, q.cons _, .cons a s⟩
  | swap x y l =>
    cases r with
    | cons a b =>
      cases b with
      | cons b c => exact ⟨_, .swap _ _ _, .cons b (.cons a c)⟩
  | trans p q ih1 ih2 =>
    obtain ⟨ys, q1, s1⟩ := ih2 r
    obtain ⟨zs, q2, s2⟩ := ih1 s1
    exact ⟨zs, q2.trans q1, s2⟩
/-- the pair that stands at a value -/
def pairAt (H : Hp) (v : V) : Int × Int := match v with
  | .ref a => match H a with
    | some (.tup [.int i, .int j]) => (i, j)
    | _ => (0, 0)
  | _ => (0, 0)
theorem pairAt_of {p : Int × Int} (h : (qT2 (K := K) qI qI).R H v p) : pairAt H v = p := by
  obtain ⟨a, w1, w2, rfl, h2, rfl, rfl⟩ := h
  simp only [pairAt, h2]
theorem l_sortP {xs : List (Int × Int)} (e : Same S H) (h : LS (qT2 (K := K) qI qI) S H v xs) (k : ∀ p ws H', Same H H' → H p = none → H' p = some (.lst ws) → RL (qT2 (K := K) qI qI) S ws (sortP xs) → Q (.ref p) H') : rSortedPO K [v] H Q := by
  obtain ⟨a, ws, rfl, h2, h3⟩ := h
  have all : ∀ {us : List V} {ys : List (Int × Int)}, RL (qT2 (K := K) qI qI) S us ys → us.map (pairAt H) = ys := by
    intro us ys r
    induction r with
    | nil => rfl
    | cons a _ ih => rw [List.map_cons, ih, pairAt_of (Rep.mono _ e a)]
  refine ⟨a, ws, pairAt H, rfl, h2, fun x hx => ?_, fun ys p h4 h5 hp => ?_⟩
  · clear all k h2
    revert hx
    induction h3 with
    | nil => intro hx; cases hx
    | cons a _ ih =>
      intro hx
      rcases List.mem_cons.mp hx with rfl | hx
      · have r := Rep.mono _ e a
        have z := pairAt_of r
        obtain ⟨t, w1, w2, rfl, ht, rfl, rfl⟩ := r
        exact ⟨t, rfl, by rw [z]; exact ht⟩
      · exact ih hx
  · obtain ⟨zs, q, r⟩ := RL.perm h3 h5.perm
    have ez : zs = ys.map (pairAt H) := (all r).symm
    have s1 : SrtO.Srtd ltP2 zs := by
      rw [ez]
      exact List.pairwise_map.mpr h4
    have : zs = sortP xs := srt_uniq ltP2_tot (q.trans (sortB_perm xs).symm) s1 (sortB_srt ltP2_asy ltP2_tr xs)
    exact k p ys _ (same_upd hp) hp upd_same (this ▸ r)
theorem l_sortI {xs : List Int} (e : Same S H) (h : LS (K := K) qI S H v xs) (k : ∀ p ws H', Same H H' → H p = none → H' p = some (.lst ws) → RL (K := K) qI S ws (sortI xs) → Q (.ref p) H') : rSortedI K [v] H Q := by
  obtain ⟨a, ws, rfl, h2, h3⟩ := h
  refine ⟨a, xs, rfl, by rw [← ints_of h3]; exact h2, fun ns p q h4 hp => ?_⟩
  have s1 : SrtO.Srtd ltI ns := h4.imp fun h => decide_eq_false (by omega)
  have : ns = sortI xs := srt_uniq ltI_tot (q.trans (sortB_perm xs).symm) s1 (sortB_srt ltI_asy ltI_tr xs)
  subst this
  exact k p _ _ (same_upd hp) hp upd_same (RL.map V.int (fun _ => rfl) _)
theorem c_sliceE {r : V → Option Int → Option Int → Hp → VK → Prop} {tl th : TO} (h : te σ H fun x H1 => tSl r (tC x) tl th σ H1 Q) : tSl r te tl th σ H Q := h
theorem c_slice2 {r : V → Option Int → Option Int → Hp → VK → Prop} {tl th : TO} {lo hi : Option Int} (hl : ∀ q : Option Int → Hp → Prop, q lo H → tl σ H q) (hh : ∀ q : Option Int → Hp → Prop, q hi H → th σ H q) (k : r v lo hi H Q) : tSl r (tC v) tl th σ H Q := hl _ (hh _ k)
/-! ### parts -/
theorem e_ix {q : α} (h : LS τ S H v xs) (hx : atI xs i = some q) (k : ∀ w, τ.R S w q → Q w H) : rIxL K v (.int i) H Q := by
  obtain ⟨a, ws, rfl, h2, h3⟩ := h
  obtain ⟨w, ew, r⟩ := h3.at hx
  exact ⟨a, ws, i, w, rfl, rfl, h2, ew, k w r⟩
theorem v_ixr {q : α} (g : Grow L S0 H0 S H) (h : RdL τ L S H0 v xs) (hx : atI xs i = some q) : ∃ w, (∀ {σ : L2.St} {ta tb : TE}, Val ta σ H v → Val tb σ H (.int i) → Val (tOp (rIxL K) ta tb) σ H w) ∧ τ.R S w q := by
  obtain ⟨a, ws, rfl, h2, h3⟩ := LS.rd g h
  obtain ⟨w, ew, r⟩ := h3.at hx
  exact ⟨w, fun ha hb Q z => ha _ (hb _ ⟨a, ws, i, w, rfl, rfl, h2, ew, z⟩), r⟩
end
section
variable {α β γ : Type} {τ : Rep K α} {υ : Rep K β} {φ : Rep K γ}
theorem e_p20 {p : α × β} (e : Same S H) (h : (qT2 τ υ).R S v p) (k : ∀ w, τ.R S w p.1 → Q w H) : rIxT K v (.int 0) H Q := by
  obtain ⟨a, w1, w2, rfl, h2, h3, h4⟩ := h
  exact ⟨a, _, 0, _, rfl, rfl, SqT.of (e _ _ h2), rfl, k w1 h3⟩
theorem e_p21 {p : α × β} (e : Same S H) (h : (qT2 τ υ).R S v p) (k : ∀ w, υ.R S w p.2 → Q w H) : rIxT K v (.int 1) H Q := by
  obtain ⟨a, w1, w2, rfl, h2, h3, h4⟩ := h
  exact ⟨a, _, 1, _, rfl, rfl, SqT.of (e _ _ h2), rfl, k w2 h4⟩
theorem g_tup2 {n : Nat} {p : α × β} {t1 t2 : TG} {q : L2.St → Hp → Prop} (hn : 2 = n) (e : Same S H) (h : (qT2 τ υ).R S v p) (k : ∀ w1 w2, τ.R S w1 p.1 → υ.R S w2 p.2 → t1 w1 σ H fun σ1 H1 => gCons t2 gNil [w2] σ1 H1 q) : gTup K n (gCons t1 (gCons t2 gNil)) v σ H q := by
  subst hn
  obtain ⟨a, w1, w2, rfl, h2, h3, h4⟩ := h
  exact ⟨a, _, rfl, SqT.of (e _ _ h2), rfl, w1, _, rfl, k w1 w2 h3 h4⟩
theorem g_tup3 {n : Nat} {p : α × β × γ} {t1 t2 t3 : TG} {q : L2.St → Hp → Prop} (hn : 3 = n) (e : Same S H) (h : (qT3 τ υ φ).R S v p) (k : ∀ w1 w2 w3, τ.R S w1 p.1 → υ.R S w2 p.2.1 → φ.R S w3 p.2.2 → t1 w1 σ H fun σ1 H1 => gCons t2 (gCons t3 gNil) [w2, w3] σ1 H1 q) : gTup K n (gCons t1 (gCons t2 (gCons t3 gNil))) v σ H q := by
  subst hn
  obtain ⟨a, w1, w2, w3, rfl, h2, h3, h4, h5⟩ := h
  exact ⟨a, _, rfl, SqT.of (e _ _ h2), rfl, w1, _, rfl, k w1 w2 w3 h3 h4 h5⟩
end
theorem g_next {t : TG} {u : TGs} {q : L2.St → Hp → Prop} (k : t v σ H fun σ' H' => u vs σ' H' q) : gCons t u (v :: vs) σ H q := ⟨v, vs, rfl, k⟩
theorem g_end {q : L2.St → Hp → Prop} (k : q σ H) : gNil [] σ H q := ⟨rfl, k⟩
/-- a new pair that is put apart at once -/
theorem g_pair {n : Nat} {p : Addr} {H2 : Hp} {t1 t2 : TG} {w1 w2 : V} {q : L2.St → Hp → Prop} (e : H2 = upd H p (.tup [w1, w2])) (h : H2 p = some (.tup [w1, w2])) (hn : 2 = n) (k : t1 w1 σ H2 fun σ1 H1 => gCons t2 gNil [w2] σ1 H1 q) : gTup K n (gCons t1 (gCons t2 gNil)) (.ref p) σ (upd H p (.tup [w1, w2])) q := by
  subst e; subst hn
  exact ⟨p, _, rfl, SqT.of h, rfl, w1, _, rfl, k⟩

/-! ### loops -/
section
variable {α β : Type} {R : V → α → Prop} {R2 : V → β → Prop} {a : Addr} {us : List V} {xs : List α} {ys : List β}
theorem paired_get {R : V → α → Prop} : ∀ {ws : List V} {xs : List α}, Paired R ws xs → ∀ {i : Nat} {w : V}, ws[i]? = some w → ∃ x, xs[i]? = some x ∧ R w x
  | _, _, .nil, i, w, h => by cases h
  | _, _, .cons r t, 0, w, h => by
    cases h
    exact ⟨_, rfl, r⟩
  | _, _, .cons r t, i + 1, w, h => paired_get t (i := i) h
/-- for x in reversed(xs) -/
theorem z_forV {ws : List V} {tl : TE} {g : TG} {tb : TS} (ha : Val tl σ H (.ref a)) (hp : Paired R ws xs) (Pv : List α → L2.St → Hp → Prop) (h0 : Pv xs.reverse σ H) (hl : ∀ ys σ' H', Pv ys σ' H' → SqL K H' a ws)
    (hs : ∀ w y ys σ' H', R w y → Pv (y :: ys) σ' H' → ∀ N : L2.St → Hp → Prop, (∀ σ'' H'', Pv ys σ'' H'' → N σ'' H'') → g w σ' H' fun σ2 H2 => tb { D with nx := N, ct := N, bk := tu D } σ2 H2) (hd : ∀ σ' H', Pv [] σ' H' → tu D σ' H') :
    tSeq (tFor (iRev K (tCons tl tNil)) g tb) tu D σ H := ha _ ⟨a, ws, rfl, hl _ _ _ h0, by
  have hlen := Paired.length hp
  refine ⟨fun i m σ H => m = ws.length - i ∧ i ≤ ws.length ∧ Pv (xs.reverse.drop i) σ H, ⟨_, rfl, Nat.zero_le _, h0⟩, ?_⟩
  rintro i m σ' H' ⟨rfl, hi, p⟩
  by_cases hlt : i < ws.length
  · have hj : ws.length - 1 - i < ws.length := by omega
    have hx : ws[ws.length - 1 - i]? = some ws[ws.length - 1 - i] := List.getElem?_eq_getElem hj
    refine .inr ⟨⟨hlt, ws, _, hl _ _ _ p, hx⟩, fun σ'' H'' => Pv (xs.reverse.drop (i + 1)) σ'' H'', fun σ'' H'' p' => ⟨ws.length - (i + 1), by omega, rfl, hlt, p'⟩, fun x H'' y => ?_⟩
    obtain ⟨rfl, f1⟩ := y
    have e1 := f1 ws (hl _ _ _ p)
    obtain ⟨q, hq, r⟩ := paired_get hp e1
    have e2 : xs.reverse[i]? = some q := by rw [List.getElem?_reverse (by omega), ← hlen]; exact hq
    have e3 : xs.reverse.drop i = q :: xs.reverse.drop (i + 1) := by
      have hi2 := (List.getElem?_eq_some_iff.mp e2)
      obtain ⟨h1, h2⟩ := hi2
      rw [List.drop_eq_getElem_cons h1, h2]
    rw [e3] at p
    exact hs x q _ σ' H'' r p _ fun _ _ z => z
  · refine .inl ⟨by show ws.length ≤ i; omega, hd σ' H' ?_⟩
    have : xs.reverse.drop i = [] := List.drop_eq_nil_of_le (by rw [List.length_reverse]; omega)
    rw [this] at p
    exact p⟩
def enumF {α : Type} : Nat → List α → List (Int × α)
  | _, [] => []
  | k, x :: xs => ((k : Nat), x) :: enumF (k + 1) xs
def enumI {α : Type} (xs : List α) : List (Int × α) := enumF 0 xs
theorem enumF_len : ∀ (xs : List α) (k : Nat), (enumF k xs).length = xs.length
  | [], _ => rfl
  | _ :: xs, k => congrArg (· + 1) (enumF_len xs (k + 1))
theorem enumF_get : ∀ (xs : List α) (k i : Nat) (x : α), xs[i]? = some x → (enumF k xs)[i]? = some (((k + i : Nat) : Int), x)
  | [], _, i, x, h => by cases h
  | y :: ys, k, 0, x, h => by cases h; rfl
  | y :: ys, k, i + 1, x, h => by
    have := enumF_get ys (k + 1) i x h
    rw [show k + (i + 1) = k + 1 + i by omega]
    exact this
/-- for i, x in enumerate(xs) -/
theorem z_forN {ws : List V} {tl : TE} {g : TG} {tb : TS} (ha : Val tl σ H (.ref a)) (hp : Paired R ws xs) (Pv : List (Int × α) → L2.St → Hp → Prop) (h0 : Pv (enumI xs) σ H) (hl : ∀ ys σ' H', Pv ys σ' H' → SqL K H' a ws)
    (hs : ∀ w (y : Int × α) ys σ' H', R w y.2 → Pv (y :: ys) σ' H' → ∀ N : L2.St → Hp → Prop, (∀ σ'' H'', Pv ys σ'' H'' → N σ'' H'') → ∀ t, H' t = none → g (.ref t) σ' (upd H' t (.tup [.int y.1, w])) fun σ2 H2 => tb { D with nx := N, ct := N, bk := tu D } σ2 H2) (hd : ∀ σ' H', Pv [] σ' H' → tu D σ' H') :
    tSeq (tFor (iEnum K (tCons tl tNil)) g tb) tu D σ H := ha _ ⟨a, ws, rfl, hl _ _ _ h0, by
  have hlen := Paired.length hp
  refine ⟨fun i m σ H => m = ws.length - i ∧ i ≤ ws.length ∧ Pv ((enumI xs).drop i) σ H, ⟨_, rfl, Nat.zero_le _, h0⟩, ?_⟩
  rintro i m σ' H' ⟨rfl, hi, p⟩
  by_cases hlt : i < ws.length
  · have hx : ws[i]? = some ws[i] := List.getElem?_eq_getElem hlt
    refine .inr ⟨⟨ws, _, hl _ _ _ p, hx⟩, fun σ'' H'' => Pv ((enumI xs).drop (i + 1)) σ'' H'', fun σ'' H'' p' => ⟨ws.length - (i + 1), by omega, rfl, hlt, p'⟩, fun x H'' y => ?_⟩
    obtain ⟨t, w, rfl, ht, rfl, f1⟩ := y
    have e1 := f1 ws (hl _ _ _ p)
    obtain ⟨q, hq, r⟩ := paired_get hp e1
    have e2 : (enumI xs)[i]? = some ((i : Int), q) := by
      have := enumF_get xs 0 i q hq
      rw [Nat.zero_add] at this
      exact this
    have e3 : (enumI xs).drop i = ((i : Int), q) :: (enumI xs).drop (i + 1) := by
      obtain ⟨h1, h2⟩ := List.getElem?_eq_some_iff.mp e2
      rw [List.drop_eq_getElem_cons h1, h2]
    rw [e3] at p
    exact hs w _ _ σ' H' r p _ (fun _ _ z => z) t ht
  · refine .inl ⟨⟨ws, hl _ _ _ p, by omega⟩, hd σ' H' ?_⟩
    have : (enumI xs).drop i = [] := List.drop_eq_nil_of_le (by unfold enumI; rw [enumF_len]; omega)
    rw [this] at p
    exact p⟩
/-- for x, y in zip(xs, ys) -/
theorem z_forZ {b : Addr} {ws vs : List V} {tl tl2 : TE} {g : TG} {tb : TS} (ha : Val tl σ H (.ref a)) (hb : Val tl2 σ H (.ref b)) (hp : Paired R ws xs) (hp2 : Paired R2 vs ys) (Pv : List (α × β) → L2.St → Hp → Prop) (h0 : Pv (List.zip xs ys) σ H) (hl : ∀ zs σ' H', Pv zs σ' H' → SqL K H' a ws ∧ SqL K H' b vs)
    (hs : ∀ w w2 (y : α × β) zs σ' H', R w y.1 → R2 w2 y.2 → Pv (y :: zs) σ' H' → ∀ N : L2.St → Hp → Prop, (∀ σ'' H'', Pv zs σ'' H'' → N σ'' H'') → ∀ t, H' t = none → g (.ref t) σ' (upd H' t (.tup [w, w2])) fun σ2 H2 => tb { D with nx := N, ct := N, bk := tu D } σ2 H2) (hd : ∀ σ' H', Pv [] σ' H' → tu D σ' H') :
    tSeq (tFor (iZip K (tCons tl (tCons tl2 tNil))) g tb) tu D σ H := ha _ (hb _ ⟨a, b, ws, vs, rfl, (hl _ _ _ h0).1, (hl _ _ _ h0).2, by
  have hlen := Paired.length hp
  have hlen2 := Paired.length hp2
  refine ⟨fun i m σ H => m = ws.length - i ∧ Pv ((List.zip xs ys).drop i) σ H, ⟨_, rfl, h0⟩, ?_⟩
  rintro i m σ' H' ⟨rfl, p⟩
  obtain ⟨qx, qy⟩ := hl _ _ _ p
  by_cases hlt : i < ws.length ∧ i < vs.length
  · obtain ⟨l1, l2⟩ := hlt
    refine .inr ⟨⟨ws, vs, _, _, qx, qy, List.getElem?_eq_getElem l1, List.getElem?_eq_getElem l2⟩, fun σ'' H'' => Pv ((List.zip xs ys).drop (i + 1)) σ'' H'', fun σ'' H'' p' => ⟨ws.length - (i + 1), by omega, rfl, p'⟩, fun x H'' y => ?_⟩
    obtain ⟨t, w, w2, rfl, ht, rfl, f1, f2⟩ := y
    obtain ⟨q, hq, r⟩ := paired_get hp (f1 ws qx)
    obtain ⟨q2, hq2, r2⟩ := paired_get hp2 (f2 vs qy)
    have e2 : (List.zip xs ys)[i]? = some (q, q2) := by rw [List.getElem?_zip_eq_some]; exact ⟨hq, hq2⟩
    have e3 : (List.zip xs ys).drop i = (q, q2) :: (List.zip xs ys).drop (i + 1) := by
      obtain ⟨h1, h2⟩ := List.getElem?_eq_some_iff.mp e2
      rw [List.drop_eq_getElem_cons h1, h2]
    rw [e3] at p
    exact hs w w2 _ _ σ' H' r r2 p _ (fun _ _ z => z) t ht
  · refine .inl ⟨⟨ws, vs, qx, qy, by omega⟩, hd σ' H' ?_⟩
    have : (List.zip xs ys).drop i = [] := List.drop_eq_nil_of_le (by rw [List.length_zip]; omega)
    rw [this] at p
    exact p⟩)
theorem z_forreversedE {g : TG} {tb : TS} (h : tl σ H fun x H1 => tSeq (tFor (iRev K (tCons (tC x) tNil)) g tb) tu D σ H1) : tSeq (tFor (iRev K (tCons tl tNil)) g tb) tu D σ H := h
theorem z_forenumerateE {g : TG} {tb : TS} (h : tl σ H fun x H1 => tSeq (tFor (iEnum K (tCons (tC x) tNil)) g tb) tu D σ H1) : tSeq (tFor (iEnum K (tCons tl tNil)) g tb) tu D σ H := h
theorem z_forzipE {tl2 : TE} {g : TG} {tb : TS} (h : tl σ H fun x H1 => tl2 σ H1 fun y H2 => tSeq (tFor (iZip K (tCons (tC x) (tCons (tC y) tNil))) g tb) tu D σ H2) : tSeq (tFor (iZip K (tCons tl (tCons tl2 tNil))) g tb) tu D σ H := h
end

/-! ### objects, calls -/
theorem v_fld {l C dx : Addr} {fs : List (Str × V)} {f : Str} {w : V} (ha : Val ta σ H (.ref l)) (h : H l = some (.ins C dx fs)) (c : Cls K C) (n : NoAttr K C f) (hf : fs.lookup f = some w) : Val (tFld K ta f) σ H w := fun Q q => ha _ ⟨l, C, dx, fs, w, rfl, h, c, n, hf, q⟩
theorem c_methO {l C dx : Addr} {fs : List (Str × V)} {m : Str} {sp : Sp} {dvs : List V} {E : XK} {t : TA} (ha : Val ta σ H (.ref l)) (h : H l = some (.ins C dx fs)) (hm : fs.lookup m = none) (k : t σ H fun vs H2 => sp (.ref l :: (vs ++ dvs)) H2 Q E) : tMeth C m sp dvs E ta t σ H Q := ha _ ⟨l, dx, fs, rfl, h, hm, k⟩
theorem c_meth {C : Addr} {ns : List Str} {m : Str} {sp : Sp} {dvs : List V} {E : XK} {t : TA} (ha : Val ta σ H v) (h : ∃ (l dx : Addr) (fs : List (Str × V)), v = .ref l ∧ H l = some (.ins C dx fs) ∧ ∀ m : Str, m ∉ ns → fs.lookup m = none) (hm : m ∉ ns) (k : t σ H fun vs H2 => sp (v :: (vs ++ dvs)) H2 Q E) : tMeth C m sp dvs E ta t σ H Q := by
  obtain ⟨l, dx, fs, rfl, h1, h2⟩ := h
  exact ha _ ⟨l, dx, fs, rfl, h1, h2 m hm, k⟩
theorem v_methO {l C dx : Addr} {fs : List (Str × V)} {m : Str} {sp : Sp} {dvs : List V} {E : XK} {t : TA} {vs : List V} (ha : Val ta σ H (.ref l)) (h : H l = some (.ins C dx fs)) (hm : fs.lookup m = none) (ht : VA t σ H vs) (hs : ∀ Q : VK, Q z H → sp (.ref l :: (vs ++ dvs)) H Q E) : Val (tMeth C m sp dvs E ta t) σ H z := fun Q q => c_methO ha h hm (ht _ (hs Q q))
theorem v_meth {C : Addr} {ns : List Str} {m : Str} {sp : Sp} {dvs : List V} {E : XK} {t : TA} {vs : List V} (ha : Val ta σ H v) (h : ∃ (l dx : Addr) (fs : List (Str × V)), v = .ref l ∧ H l = some (.ins C dx fs) ∧ ∀ m : Str, m ∉ ns → fs.lookup m = none) (hm : m ∉ ns) (ht : VA t σ H vs) (hs : ∀ Q : VK, Q z H → sp (v :: (vs ++ dvs)) H Q E) : Val (tMeth C m sp dvs E ta t) σ H z := fun Q q => c_meth ha h hm (ht _ (hs Q q))
theorem c_make {C : Addr} {sp : Sp} {dvs : List V} {E : XK} {t : TA} (h : t σ H fun vs H1 => ∀ x dx, H1 x = none → H1 dx = none → dx ≠ x →
    sp (.ref x :: (vs ++ dvs)) (upd (upd H1 dx (.own x)) x (.ins C dx [])) (fun v H2 => v = .non ∧ Q (.ref x) H2) E) : tMake C sp dvs E t σ H Q := h
theorem make_in {C : Addr} {vs : List V} {sp : Sp} {Qf : Addr → VK} {E : XK} (h : ∀ x dx H', Same H H' → H x = none → H' x = some (.ins C dx []) → sp (.ref x :: vs) H' (Qf x) E) : ∀ x dx, H x = none → H dx = none → dx ≠ x → sp (.ref x :: vs) (upd (upd H dx (.own x)) x (.ins C dx [])) (Qf x) E :=
  fun x dx hx hdx n => h x dx _ ((same_upd hdx).trans (same_upd (by rw [upd_ne n.symm]; exact hx))) hx upd_same
theorem v_chn {g g' : Int → Int → V} {k l m : Int} (ha : Val ta σ H (.int k)) (hb : Val tb σ H (.int l)) (hc : Val te σ H (.int m)) (h1 : g k l = .bl b) (h2 : g' l m = .bl c) : Val (tChain (rI0 g) (rI0 g') ta tb te) σ H (.bl (b && c)) := v_chain (p := fun _ _ => b) (q := fun _ _ => c) ha hb hc h1 h2
theorem z_fldE {f : Str} (h : te σ H fun y H1 => ta σ H1 fun x H2 => ∃ a C dx fs, x = .ref a ∧ H2 a = some (.ins C dx fs) ∧ Cls K C ∧ NoAttr K C f ∧ fs.length < 1000 ∧ tu D σ (upd H2 a (.ins C dx (putF f y fs)))) : tSeq (sFld K ta te f) tu D σ H := h
theorem c_setF {l C dx : Addr} {fs fs' : List (Str × V)} {f : Str} (g : Grow L S0 H0 S H) (cl : Cel L H0 S H l (.ins C dx fs)) (ho : Val ta σ H (.ref l)) (c : Cls K C) (n : NoAttr K C f) (hn : fs.length < 1000) (he : putF f y fs = fs')
    (k : ∀ H', Grow L S0 H0 S H' → Cel L H0 S H' l (.ins C dx fs') → (∀ l' o', l' ≠ l → Cel L H0 S H l' o' → Cel L H0 S H' l' o') → tu D σ H') :
    ta σ H fun x H2 => ∃ a C dx fs, x = .ref a ∧ H2 a = some (.ins C dx fs) ∧ Cls K C ∧ NoAttr K C f ∧ fs.length < 1000 ∧ tu D σ (upd H2 a (.ins C dx (putF f y fs))) := by
  subst he
  exact ho _ ⟨l, C, dx, fs, rfl, cl.h, c, n, hn, k _ (g.wr cl rfl) (cl.wr rfl) fun l' o' n c => c.wrn n⟩

def gDivW (j : Int) : Prop := 0 < j ∧ j < 2 ^ 200
instance (j : Int) : Decidable (gDivW j) := by unfold gDivW; infer_instance
theorem gDivW.ok {i j : Int} (h : gDivW j) : CDivW i j := wide_div (b := 200) h.1 (by
  have h1 := h.1
  have h2 := h.2
  omega) (by decide) (by decide)
theorem gDivW_nat {n : Nat} (h0 : 0 < n) (h : n < 2 ^ 200) : gDivW (n : Int) := ⟨by omega, by omega⟩
/-! ### more of lists -/
section
variable {α : Type} {τ : Rep K α} {l : Addr} {xs ys : List α}
theorem c_rev (g : Grow L S0 H0 S H) (cl : Cel L H0 S H l (.lst ws)) (r : RL τ S ws xs)
    (k : ∀ H', Grow L S0 H0 S H' → Cel L H0 S H' l (.lst ws.reverse) → RL τ S ws.reverse xs.reverse → (∀ l' o', l' ≠ l → Cel L H0 S H l' o' → Cel L H0 S H' l' o') → Q .non H') : rReverse (.ref l) [] H Q :=
  ⟨l, ws, rfl, rfl, cl.h, k _ (g.wr cl rfl) (cl.wr rfl) r.reverse fun l' o' n c => c.wrn n⟩
theorem c_pop {q : α} (g : Grow L S0 H0 S H) (cl : Cel L H0 S H l (.lst ws)) (r : RL τ S ws xs) (he : xs.getLast? = some q)
    (k : ∀ w, τ.R S w q → ∀ ws' H', Grow L S0 H0 S H' → Cel L H0 S H' l (.lst ws') → RL τ S ws' xs.dropLast → (∀ l' o', l' ≠ l → Cel L H0 S H l' o' → Cel L H0 S H' l' o') → Q w H') : rPop (.ref l) [] H Q := by
  rw [List.getLast?_eq_getElem?] at he
  obtain ⟨w, ew, rw_⟩ := r.get he
  exact ⟨l, ws, w, rfl, rfl, cl.h, by rw [r.length]; exact ew, k w rw_ _ _ (g.wr cl rfl) (cl.wr rfl) r.dropLast fun l' o' n c => c.wrn n⟩
theorem c_setL2 {q : α} {P : Hp → Prop} (g : Grow L S0 H0 S H) (cl : Cel L H0 S H l (.lst ws)) (r : RL τ S ws xs) (rv : τ.R S v q) (he : setI xs i q = some ys)
    (k : ∀ ws' H', Grow L S0 H0 S H' → Cel L H0 S H' l (.lst ws') → RL τ S ws' ys → (∀ l' o', l' ≠ l → Cel L H0 S H l' o' → Cel L H0 S H' l' o') → P H') : rSetL (.ref l) (.int i) v H P := by
  unfold setI at he
  cases e : ixN xs.length i with
  | none => rw [e] at he; cases he
  | some j =>
    rw [e] at he
    cases (Option.some.inj he)
    exact ⟨l, ws, i, j, rfl, rfl, cl.h, by rw [r.length]; exact e, k _ _ (g.wr cl rfl) (cl.wr rfl) (r.set rv j) fun l' o' n c => c.wrn n⟩
end
/-- xs[i] op= e -/
def sXAug (td ty tv : TE) (ri : R2) (rd : TIp) (t : TSet) : TS := fun D σ H => td σ H fun x H1 => ty σ H1 fun y H2 => ri x y H2 fun v H3 => tv σ H3 fun y2 H4 => rd v y2 H4 fun z H5 => t x y z H5 fun H6 => D.nx σ H6
theorem get_list {X : Cx} {pins : List (Addr × Obj)} {s : Shared} {u w : Value} (I : Inv X pins σ H s) (rx : RelV x u) (ry : RelV y w) (h : rIxL X.K x y H Q) : wpAny (model X.prog X.w) X.A (getItem u w) (EP X pins σ Q) X.xe s := by
  obtain ⟨p, xs, i, z, rfl, rfl, hq, he, q⟩ := h
  cases rx
  obtain ⟨t, rfl⟩ := ry
  obtain ⟨its, r, pl, hz⟩ := I.list hq
  obtain ⟨j, h1, h2, h3, h4, h5⟩ := L2.atI_get he
  obtain ⟨w, ew, rw'⟩ := r.get h2
  have hl := r.length
  have hn := line63
  have fin : EP X pins σ Q w s := ⟨z, H, I, rw', q⟩
  by_cases h0 : 0 ≤ i
  · have hj : i.toNat = j := by
      rw [seqIndex_of h0 h5] at h1
      exact Option.some.inj h1
    exact wpAny_getItem_list pl.isList h0 (by omega) (by rw [hj]; simpa using ew) fin
  · have hj : (i + (its.toArray.size : Int)).toNat = j := by
      rw [seqIndex_neg (by omega) h4] at h1
      rw [List.size_toArray, ← hl]
      exact Option.some.inj h1
    exact wpAny_getItem_list_neg pl.isList (by omega) (by rw [List.size_toArray] <;> omega) (by omega) (by rw [hj]; simpa using ew) fin
theorem ps_xaug {X : Cx} {o i value : Expr} {tpos pos : Pos} {op : Operator} {td ty tv : TE} {rd : TIp} (ho : PE X o td) (hi : PE X i ty) (hv : PE X value tv) (hop : PIp X op rd)
    (ha : ∀ ov iv new, augStore i ov iv new = (do holding [new, ov, iv] (setItem ov iv new); release [new, ov, iv] []; pure .next)) : PS X (.AugAssign (.Subscript o i tpos) op value pos) (sXAug td ty tv (rIxL X.K) rd rSetL) := by
  refine ⟨fun pins s σ H D I h => ?_⟩
  refine wpAny_AugAssign_SubscriptAny (thn (ho.run pins s σ H _ I h) fun u s1 ⟨x, H1, I1, rx, q1⟩ => thn (hi.run pins s1 σ H1 _ I1 q1) fun iv s2 ⟨y, H2, I2, ry, q2⟩ => ?_) ha
  refine thn (get_list I2 rx ry q2) fun w' s3 ⟨v, H3, I3, rw', q3⟩ => thn (hv.run pins s3 σ H3 _ I3 q3) fun w2 s4 ⟨y2, H4, I4, ry2, q4⟩ => thn (hop pins s4 σ H4 v y2 w' w2 _ I4 rw' ry2 q4) fun w3 s5 ⟨z, H5, I5, rz, q5⟩ => ?_
  exact thn (set_list pins s5 σ H5 x y z u iv w3 _ I5 rx ry rz q5) fun _ s6 ⟨H6, I6, q6⟩ => ⟨σ, H6, I6, q6⟩
theorem z_xaug {α : Type} {τ : Rep K α} {l : Addr} {xs : List α} {q : α} {rd : TIp} {t : TSet} {f : α → V} (ho : Val ta σ H (.ref l)) (hi : Val tb σ H (.int i)) (h : H l = some (.lst ws)) (r : RL τ S ws xs) (hx : atI xs i = some q)
    (k : ∀ w, τ.R S w q → te σ H fun y2 H4 => rd w y2 H4 fun z H5 => t (.ref l) (.int i) z H5 fun H6 => tu D σ H6) : tSeq (sXAug ta tb te (rIxL K) rd t) tu D σ H := by
  obtain ⟨w, ew, rw_⟩ := r.at hx
  exact ho _ (hi _ ⟨l, ws, i, w, rfl, rfl, SqL.of h, ew, k w rw_⟩)
theorem z_xaugI {l : Addr} {xs : List Int} {q : Int} {rd : TIp} {t : TSet} (ho : Val ta σ H (.ref l)) (hi : Val tb σ H (.int i)) (h : H l = some (.lst ws)) (r : RL (K := K) qI S ws xs) (hx : atI xs i = some q)
    (k : te σ H fun y2 H4 => rd (.int q) y2 H4 fun z H5 => t (.ref l) (.int i) z H5 fun H6 => tu D σ H6) : tSeq (sXAug ta tb te (rIxL K) rd t) tu D σ H :=
  z_xaug (τ := qI) (f := V.int) ho hi h r hx fun w e => by cases e; exact k
theorem z_augE {k : Nat} {ti : TIp} (hx : σ[k]? = some (some x)) (h : te σ H fun y H1 => ti x y H1 fun v H2 => tu D (σ.set k (some v)) H2) : tSeq (tAug k te ti) tu D σ H := ⟨x, hx, h⟩
theorem q_set {k : Nat} {w : V} (e : v = w) (hs : σ.set k (some w) = σ') (q : tu D σ' H) : tu D (σ.set k (some v)) H := by subst e; subst hs; exact q
theorem z_augS {k : Nat} {w : V} {s r : Str} (hx : σ[k]? = some (some (.str s))) (hv : Val te σ H (.str r)) (hz : s.length + r.length ≤ 16777216) (he : V.str (s ++ r) = w) (hs : σ.set k (some w) = σ') (q : tu D σ' H) :
    tSeq (tAug k te (fun x y H Q => ∃ i j, x = .str i ∧ y = .str j ∧ i.length + j.length ≤ sizeLine ∧ Q (.str (i ++ j)) H)) tu D σ H :=
  z_aug hx hv (fun _ q => ⟨s, r, rfl, rfl, hz, q⟩) he hs q
theorem c_bits (h : te σ H fun x H1 => ∃ i, x = .int i ∧ Q (.int (Builtin.Int.intBits i : Nat)) H1) : tBits te σ H Q := h
theorem c_notV (h : ta σ H fun x H1 => ∃ c, x = .bl c ∧ Q (.bl (!c)) H1) : tNotV ta σ H Q := h
theorem c_chain {r r' : R2} (h : ta σ H fun x H1 => tb σ H1 fun y H2 => r x y H2 fun z H3 => ∃ k, z = .bl k ∧ if k = true then te σ H3 fun w' H4 => r' y w' H4 Q else Q (.bl false) H3) : tChain r r' ta tb te σ H Q := h
theorem e_chain {g g' : Int → Int → V} {k l m : Int} (hc : Val te σ H (.int m)) (h1 : g k l = .bl b) (h2 : g' l m = .bl c) (q : Q (.bl (b && c)) H) : rI0 g (.int k) (.int l) H fun z H3 => ∃ k, z = .bl k ∧ if k = true then te σ H3 fun w' H4 => rI0 g' (.int l) w' H4 Q else Q (.bl false) H3 := ⟨k, l, rfl, rfl, b, h1, by
  cases b with
  | true => exact (show (if true = true then _ else _) from hc _ ⟨l, m, rfl, rfl, by rw [h2]; exact q⟩)
  | false => exact (show (if false = true then _ else _) from q)⟩
end
/-! ### classes of errors -/
structure ExF (K : PySem.W.Frag) (C : Addr) : Prop where
  x : PySem.W.excIn K C [.type "ValueError", .type "Exception", .type "BaseException", .type "object"] "ValueError.__new__" = true
  k : PySem.W.keepIn K (.ref C) = true
  b : PySem.W.subIn K (.ref C) (.type "BaseException") = some true
  t : PySem.W.typeIn K (.ref C) = some (.type "type")
theorem bt_sorted : bootBuiltins "sorted" = some (.builtin "sorted") := by decide +kernel
theorem bt_sum : bootBuiltins "sum" = some (.builtin "sum") := by decide +kernel
end Z

namespace Z
open PySem PySem.Spec PyProof.Rows L2 RT
/-! ### list(reversed(xs)) -/
section
variable {prog : Program} {w : World} {A : Around} {E : Value → Shared → Prop} {s : Shared} {it l : Addr} {items : Array Value}
abbrev RvOf (items : Array Value) : Nat → Value → Prop := fun i v => items[items.size - 1 - i]? = some v
theorem rl_extend {R : Result → Shared → Prop} (hh : A.handled = none) (hit : s.heap.IsRevIter it l ((items.size : Int) - 1)) (hl : s.heap.IsList l items) (hne : l ≠ it) (hn : items.size ≤ sizeLine)
    (S : Addr) (hSi : S ≠ it) (hSl : S ≠ l) (res : Value) (c₀ : Nat) (hS : s.heap.get? S = some { cls := .type "list", data := .seq #[] c₀ })
    (hR : ∀ h' tk acc' c', (∀ b o, b ≠ S → b ≠ it → s.heap.get? b = some o → h'.get? b = some o) → h'.get? S = some { cls := .type "list", dict := none, data := .seq acc' c', slots := #[] } → ItemsOf (RvOf items) acc' items.size → R (.ok (.ret res)) { s with heap := h', toks := tk }) :
    wpAny (model prog w) A.in1 (Builtin.List.listExtendWith (.ref S) (.ref it) res)
      (fun fin s' => match fin with | .done f => R (.ok f) s' | .again c' => c'.quiet = true ∧ codeAny (model prog w) A c' R s') (fun e s' => R (.error e) s') s := by
  have W := (Walks.listRev (prog := prog) (w := w) (A := A.in1) hh it l hne items).toS
  have hSf : S ∉ [it, l] := by simp only [List.mem_cons, List.not_mem_nil, or_false, not_or]; exact ⟨hSi, hSl⟩
  have hT : s.TypeIs (.ref it) "list_reverseiterator" := Heap.IsRevIter.typeIs (s := s) hit
  have h1 : Builtin.List.listSameRef (.ref S) (.ref it) = false := by simp [Builtin.List.listSameRef, hSi]
  unfold Builtin.List.listExtendWith
  refine wpAny_bind (wpAny_typeOf hT ?_)
  rw [if_neg (by rw [h1]; decide)]
  refine wpAny_bind (wpAny_pyIter_revIter hit ?_)
  refine wpAny_bind (wpAny_holding ?_)
  unfold Builtin.List.listLengthHint
  refine wpAny_bind (wpAny_specialOf hT nolen_lri ?_)
  show wpAny _ A.in1 (specialOf (Value.ref it) (Str.ofString "__length_hint__") >>= _) _ _ _
  refine wpAny_bind (wpAny_specialOf hT hint_lri ?_)
  generalize hid : ("list_reverseiterator.__length_hint__" : String) = id0
  wp_delta
  rw [show splitId id0 = some ("list_reverseiterator", "__length_hint__") from by subst hid; decide +kernel]
  subst hid
  refine wpAny_bind (wpAny_isInstance (b := true) hT (by rw [isSubtype_type]; kernel_rfl) ?_)
  refine wpAny_pure ?_
  rw [if_neg (by decide)]
  have e0 : ((items.size : Nat) : Int) - 1 - ((0 : Nat) : Int) = (items.size : Int) - 1 := by omega
  refine wpAny_pure ⟨plainId_quiet PySem.F.plain_extend_loop _, codeAny_extend_loopS W hn _ hSf _ items.size 0 _ _ _ rfl (Nat.zero_le _) ⟨Nat.zero_le _, by rw [e0]; exact hit, hl⟩ hS (ItemsOf.nil _) fun s' acc' c' hm hS' hacc => ?_⟩
  rw [Moved.eq_with hm]
  refine hR s'.heap s'.toks acc' c' (fun b o hb hb2 e => hm.heap b o (fun hmem => ?_) e) hS' hacc
  rcases List.mem_cons.mp hmem with e' | hmem
  · exact hb e'
  · exact hb2 (List.mem_singleton.mp hmem)
theorem rl_init {R : Result → Shared → Prop} (hh : A.handled = none) (hit : s.heap.IsRevIter it l ((items.size : Int) - 1)) (hl : s.heap.IsList l items) (hne : l ≠ it) (hn : items.size ≤ sizeLine)
    (S : Addr) (hSi : S ≠ it) (hSl : S ≠ l) (hS : s.heap.get? S = some { cls := .type "list", data := .seq #[] })
    (hR : ∀ h' tk acc' c', (∀ b o, b ≠ S → b ≠ it → s.heap.get? b = some o → h'.get? b = some o) → h'.get? S = some { cls := .type "list", dict := none, data := .seq acc' c', slots := #[] } → ItemsOf (RvOf items) acc' items.size → R (.ok (.ret .none)) { s with heap := h', toks := tk }) :
    wpAny (model prog w) A.in1 (Builtin.«list.__init__» ⟨[.ref S, .ref it], []⟩)
      (fun fin s' => match fin with | .done f => R (.ok f) s' | .again c' => c'.quiet = true ∧ codeAny (model prog w) A c' R s') (fun e s' => R (.error e) s') s := by
  show wpAny _ _ (do let old ← Builtin.List.listItems (.ref S); Builtin.List.listUpdate (.ref S) (fun _ => #[]); letGo old.toList.reverse; Builtin.List.listExtendWith (.ref S) (.ref it) .none) _ _ s
  refine wpAny_bind ?_
  unfold Builtin.List.listItems
  refine wpAny_bind (wpAny_seqItems hS rfl (wpAny_pure ?_))
  show wpAny _ _ (updateSeq S (fun _ => #[]) >>= fun _ => letGo (#[] : Array Value).toList.reverse >>= fun _ => Builtin.List.listExtendWith (.ref S) (.ref it) .none) _ _ s
  refine wpAny_bind (wpAny_updateSeq hS rfl ?_)
  have hS₂ := Heap.get?_update_self (Obj.mapSeq (fun _ => (#[] : Array Value))) hS rfl
  have oth : ∀ b o, b ≠ S → s.heap.get? b = some o → (s.heap.update S (Obj.mapSeq (fun _ => (#[] : Array Value)))).get? b = some o :=
    fun b o hb e => (Heap.get?_update_other _ _ (Ne.symm hb)).trans e
  refine wpAny_bind (wpAny_letGo ?_)
  refine rl_extend (s := { s with heap := s.heap.update S (Obj.mapSeq (fun _ => (#[] : Array Value))) }) hh (hit.at fun o e => oth it o hSi.symm e) (hl.at fun o e => oth l o hSl.symm e) hne hn S hSi hSl .none _ hS₂ (fun h' tk acc' c' hk hS' hacc => ?_)
  exact hR h' tk acc' c' (fun b o hb hb2 e => hk b o hb hb2 (oth b o hb e)) hS' hacc
theorem call_list_rev {Q : Value → Shared → Prop} (hh : A.handled = none) (hit : s.heap.IsRevIter it l ((items.size : Int) - 1)) (hl : s.heap.IsList l items) (hne : l ≠ it) (hn : items.size ≤ sizeLine)
    (hQ : ∀ h' tk acc' c', (∀ b o, b ≠ it → s.heap.get? b = some o → h'.get? b = some o) → h'.get? s.heap.objs.size = some { cls := .type "list", dict := none, data := .seq acc' c', slots := #[] } → ItemsOf (RvOf items) acc' items.size → Q (.ref s.heap.objs.size) { s with heap := h', toks := tk }) :
    wpAny (model prog w) A (call (.type "list") [.ref it]) Q E s := by
  refine callType_codes (Q₁ := fun obj s₁ => obj = .ref s.heap.objs.size ∧ s₁ = { s with heap := s.heap.push { cls := .type "list", data := .seq #[] } }) PySem.F.called_list (PySem.F.typeCall_list_1 _) PySem.F.entry_list_init
    (code_list_new _ ⟨rfl, rfl⟩) fun obj s₁ h₁ => ?_
  obtain ⟨rfl, rfl⟩ := h₁
  have hS : (s.heap.push { cls := .type "list", data := .seq #[] }).get? s.heap.objs.size = some { cls := .type "list", data := .seq #[] } := Heap.get?_push_size _ rfl
  obtain ⟨oi, hoi, _⟩ := id hit
  obtain ⟨ol, hol, _⟩ := id hl
  refine ⟨⟨_, hS, rfl⟩, PySem.F.args_list_init_2 _ _, rl_init (A := A.in1) (s := { s with heap := s.heap.push { cls := .type "list", data := .seq #[] } }) hh (hit.at fun o e => Heap.get?_push_of_some _ e) (hl.push _) hne hn _ (Nat.ne_of_gt (Heap.lt_size hoi)) (Nat.ne_of_gt (Heap.lt_size hol)) hS (fun h' tk acc' c' hk hS' hacc => ?_)⟩
  exact ⟨rfl, hQ h' tk acc' c' (fun b o hb e => hk b o (Nat.ne_of_lt (Heap.lt_size e)) hb (Heap.get?_push_of_some _ e)) hS' hacc⟩
end
def rListRev (K : PySem.W.Frag) (v : V) (H : Hp) (Q : VK) : Prop := ∃ (a : Addr) (xs : List V), v = .ref a ∧ SqL K H a xs ∧ ∀ q, H q = none → Q (.ref q) (upd H q (.lst xs.reverse))
def tListRev (K : PySem.W.Frag) (te : TE) : TE := fun σ H Q => te σ H fun v H1 => rListRev K v H1 Q
theorem pe_listRev {X : Cx} {e : Expr} {te : TE} {p p2 pos pos2 : Pos} (hc : X.calm = true) (hg : Gl X "list") (hm : X.mg "list" = none) (hg2 : Gl X "reversed") (hm2 : X.mg "reversed" = none) (he : PE X e te)
    (hs : starEach [e] X.env = (false, eval e X.env) :: starEach [] X.env := by rfl)
    (hs2 : starEach [.Call (.Name "reversed" p2) [e] [] pos2] X.env = (false, eval (.Call (.Name "reversed" p2) [e] [] pos2) X.env) :: starEach [] X.env := by rfl) :
    PE X (.Call (.Name "list" p) [.Call (.Name "reversed" p2) [e] [] pos2] [] pos) (tListRev X.K te) := by
  refine ⟨fun pins s σ H Q I h => ?_⟩
  refine Call_ (ld_blt I hg hm bt_list (PyProof.Rows.callWith_type1 (args_cons (Call_ (ld_blt I hg2 hm2 PyProof.Rows.boot_reversed (PyProof.Rows.callWith_type1 (args_cons (thn (he.run pins s σ H _ I h) fun u s1 ⟨v, H1, I1, r1, q1⟩ => args_nil ?_) hs) hs rfl))) hs2) hs2 rfl))
  obtain ⟨a, xs, ev, hq, q⟩ := q1
  subst ev
  obtain rfl : u = Value.ref a := r1
  obtain ⟨its, rv, p', hz⟩ := I1.list hq
  refine call_reversed_list p'.isList (args_nil ?_)
  have k0 : ∀ b o, s1.heap.get? b = some o → (s1.heap.push (revObj a ((its.toArray.size : Int) - 1))).get? b = some o := fun b o e => Heap.get?_push_of_some _ e
  have I2 : Inv X pins σ H1 { s1 with heap := s1.heap.push (revObj a ((its.toArray.size : Int) - 1)) } := I1.kept (t' := s1.toks) k0
  obtain ⟨f0, f1, f2, f3, f4, f5⟩ := I1.fpOk (H' := H1) (b := s1.heap.objs.size) (Nat.le_refl _) (I1.hok.fresh (Nat.le_refl _))
  have hl := p'.isList
  obtain ⟨ol, hol, _⟩ := id hl
  have hne : a ≠ s1.heap.objs.size := Nat.ne_of_lt (Heap.lt_size hol)
  have hn : its.toArray.size ≤ sizeLine := by rw [List.size_toArray, ← rv.length]; exact hz
  refine call_list_rev (s := { s1 with heap := s1.heap.push (revObj a ((its.toArray.size : Int) - 1)) }) (I1.ok.hd hc) ⟨_, Heap.get?_push_size _ rfl, rfl, rfl⟩ (hl.push _) hne hn fun h' tk acc c' hk hS hi => ?_
  refine ⟨.ref _, upd H1 _ (.lst xs.reverse), I2.turnedNew (t' := tk) (ch := [s1.heap.objs.size]) (fun b o hb e => hk b o (fun z => hb (by rw [z]; exact List.mem_singleton.mpr rfl)) e) (fun b hb => by cases List.mem_singleton.mp hb; exact ⟨f0, f1, f2, f3, f4, f5⟩) (Nat.le_refl _) (show ObjOk X.prog X.w _ h' _ (.lst xs.reverse) from ⟨by rw [List.length_reverse]; exact hz, acc.toList, c', vals_rev rv hi, by rw [Array.toArray_toList]; exact hS⟩), rfl, q _ (I2.hok.fresh (Nat.le_refl _))⟩
section
variable {K : PySem.W.Frag} {σ : L2.St} {S H : Hp} {te : TE} {v : V} {Q : VK} {α : Type} {τ : Rep K α} {xs : List α}
theorem c_lrE (h : ∀ Q' : VK, Q' = Q → te σ H fun v H1 => rListRev K v H1 Q') : tListRev K te σ H Q := h _ rfl
theorem l_listRev (h : LS τ S H v xs) (k : ∀ p ws H', Same H H' → H p = none → H' p = some (.lst ws) → RL τ S ws xs.reverse → Q (.ref p) H') : rListRev K v H Q := by
  obtain ⟨a, ws, rfl, h2, h3⟩ := h
  exact ⟨a, ws, rfl, h2, fun l hl => k l _ _ (same_upd hl) hl upd_same h3.reverse⟩
end
end Z

namespace Z
open PySem PySem.Spec PyProof.Rows L2
section
variable {K : PySem.W.Frag}
theorem enc_lay_none : (PyData.none).canLay0 = true := rfl
/-- what is never None -/
def NN {α : Type} [DecidableEq α] {τ : Rep K α} (d : Dat τ) : Prop := ∀ x, PyData.eqv .none (d.enc x) = false ∧ PyData.eqv (d.enc x) .none = false
def dOpt {α : Type} [DecidableEq α] {τ : Rep K α} (d : Dat τ) (hn : NN d) : Dat (qOpt τ) := ⟨fun o => match o with
    | none => .none
    | some x => d.enc x, fun {H v o} h => by
    cases o with
    | none => cases (show v = .non from h); exact .non
    | some x => exact d.dp h.2, fun o => by
    cases o with
    | none => rfl
    | some x => exact d.lay x, max d.n 1, fun o => by
    cases o with
    | none => show PyData.depth .none ≤ _; simp [PyData.depth]
    | some x => exact Nat.le_trans (d.dep x) (Nat.le_max_left _ _), fun a b => by
    cases a with
    | none =>
      cases b with
      | none => rfl
      | some y => exact (hn y).1.trans (decide_eq_false (fun e => nomatch e)).symm
    | some x =>
      cases b with
      | none => exact (hn x).2.trans (decide_eq_false (fun e => nomatch e)).symm
      | some y =>
        show PyData.eqv (d.enc x) (d.enc y) = _
        rw [d.eqv]
        exact decide_eq_decide.mpr ⟨fun e => by rw [e], fun e => Option.some.inj e⟩⟩
theorem nnI : NN (K := K) dI := fun _ => ⟨rfl, rfl⟩
theorem nnB : NN (K := K) dB := fun _ => ⟨rfl, rfl⟩
theorem nnL {α : Type} [DecidableEq α] {τ : Rep K α} (d : Dat τ) : NN (dL d) := fun _ => ⟨rfl, rfl⟩
theorem nnQ {α : Type} [DecidableEq α] {τ : Rep K α} (d : Dat τ) : NN (dQ d) := fun _ => ⟨rfl, rfl⟩
theorem nnT2 {α β : Type} [DecidableEq α] [DecidableEq β] {τ : Rep K α} {υ : Rep K β} (a : Dat τ) (b : Dat υ) : NN (dT2 a b) := fun _ => ⟨rfl, rfl⟩
theorem eqvAll3 {a b c a' b' c' : PyData} : PyData.eqv (.tuple [a, b, c]) (.tuple [a', b', c']) = (PyData.eqv a a' && (PyData.eqv b b' && PyData.eqv c c')) := by
  simp [PyData.eqv, PyData.eqvAll]
def dT3 {α β γ : Type} [DecidableEq α] [DecidableEq β] [DecidableEq γ] {τ : Rep K α} {υ : Rep K β} {φ : Rep K γ} (a : Dat τ) (b : Dat υ) (c : Dat φ) : Dat (qT3 τ υ φ) := ⟨fun x => .tuple [a.enc x.1, b.enc x.2.1, c.enc x.2.2], fun {H v x} h => by
    obtain ⟨p, w1, w2, w3, rfl, h2, h3, h4, h5⟩ := h
    exact .tup (SqT.of h2) (.cons (a.dp h3) (.cons (b.dp h4) (.cons (c.dp h5) .nil))), fun x => by
    show PyData.canLayAll0 [a.enc x.1, b.enc x.2.1, c.enc x.2.2] = true
    simp [PyData.canLayAll0, a.lay, b.lay, c.lay], max a.n (max b.n c.n) + 1, fun x => by
    have h1 := a.dep x.1
    have h2 := b.dep x.2.1
    have h3 := c.dep x.2.2
    show PyData.depth (.tuple [a.enc x.1, b.enc x.2.1, c.enc x.2.2]) ≤ _
    simp only [PyData.depth, PyData.depthAll]
    omega, fun x y => by
    rw [eqvAll3, a.eqv, b.eqv, c.eqv, ← Bool.decide_and, ← Bool.decide_and]
    exact decide_eq_decide.mpr ⟨fun h => Prod.ext h.1 (Prod.ext h.2.1 h.2.2), fun h => by rw [h]; exact ⟨rfl, rfl, rfl⟩⟩⟩
theorem nnT3 {α β γ : Type} [DecidableEq α] [DecidableEq β] [DecidableEq γ] {τ : Rep K α} {υ : Rep K β} {φ : Rep K γ} (a : Dat τ) (b : Dat υ) (c : Dat φ) : NN (dT3 a b c) := fun _ => ⟨rfl, rfl⟩
end
end Z
namespace Z
open PySem PySem.Spec PyProof.Rows L2
/-! ### range with a step -/
def gR3 (i j c : Int) : Prop := 0 < c ∧ c < 1073741824 ∧ Builtin.Range.small i j c = true
instance (i j c : Int) : Decidable (gR3 i j c) := by unfold gR3; infer_instance
def rangeS (i j c : Int) : List Int := (List.range (Builtin.Range.rangeSize i j c).toNat).map fun (k : Nat) => i + (k : Int) * c
theorem rsize_nn {i j c : Int} (h : 0 < c) : 0 ≤ Builtin.Range.rangeSize i j c := by
  unfold Builtin.Range.rangeSize
  rw [if_pos h]
  split
  · have := Int.ediv_nonneg (show 0 ≤ j - i - 1 by omega) (show 0 ≤ c by omega)
    omega
  · omega
section
variable {K : PySem.W.Frag} {σ : L2.St} {H : Hp} {ta : TA} {D : Ends} {tu : TS}
theorem z_for3 {g : TG} {tb : TS} {i j c : Int} (ha : VA ta σ H [.int i, .int j, .int c]) (hj : gR3 i j c) (Pv : List Int → L2.St → Hp → Prop) (h0 : Pv (rangeS i j c) σ H)
    (hs : ∀ x xs σ' H', Pv (x :: xs) σ' H' → ∀ N : L2.St → Hp → Prop, (∀ σ'' H'', Pv xs σ'' H'' → N σ'' H'') → g (.int x) σ' H' fun σ2 H2 => tb { D with nx := N, ct := N, bk := tu D } σ2 H2) (hd : ∀ σ' H', Pv [] σ' H' → tu D σ' H') :
    tSeq (tFor (iRng3 ta) g tb) tu D σ H := ha _ ⟨i, j, c, (Builtin.Range.rangeSize i j c).toNat, rfl, ⟨by have := hj.1; omega, by have h1 := hj.1; have h2 := hj.2.1; omega, hj.2.2, by have := rsize_nn (i := i) (j := j) hj.1; omega⟩, by
  obtain ⟨n, hn⟩ : ∃ n, n = (Builtin.Range.rangeSize i j c).toNat := ⟨_, rfl⟩
  have h0' : Pv ((List.range n).map fun (k : Nat) => i + (k : Int) * c) σ H := by rw [hn]; exact h0
  rw [← hn]
  have hlen : ((List.range n).map fun (k : Nat) => i + (k : Int) * c).length = n := by rw [List.length_map, List.length_range]
  refine for_rangeC (D := { D with nx := tu D }) (fun k σ H => k ≤ n ∧ Pv (((List.range n).map fun (k : Nat) => i + (k : Int) * c).drop k) σ H) ⟨Nat.zero_le _, h0'⟩ (fun k σ' H' hk p => ?_) (fun σ' H' p => hd _ _ (by
    have q := p.2
    rw [List.drop_eq_nil_of_le (by omega)] at q
    exact q))
  have e : ((List.range n).map fun (k : Nat) => i + (k : Int) * c).drop k = (i + (k : Int) * c) :: ((List.range n).map fun (k : Nat) => i + (k : Int) * c).drop (k + 1) := by
    rw [List.drop_eq_getElem_cons (by omega), List.getElem_map, List.getElem_range]
  have q := p.2
  rw [e] at q
  exact hs _ _ σ' H' q _ fun σ'' H'' r => ⟨hk, r⟩⟩
end
/-! ### a list of one's own, or None -/
def optC {α β : Type} (o : Option α) (n : Option β) (s : α → Option β) : Option β := match o with
  | none => n
  | some x => s x
section
variable {K : PySem.W.Frag} {α : Type} {τ : Rep K α}
/-- what a call hands back then: H ahead of it, S' H' behind it -/
def OwnR (τ : Rep K α) (H S' H' : Hp) (v : V) (r : Option (List α)) : Prop := match r with
  | none => v = .non
  | some x => ∃ p ws, v = .ref p ∧ H p = none ∧ H' p = some (.lst ws) ∧ S' p = none ∧ RL τ S' ws x
theorem OwnR.frz {L : List Addr} {S0 H0 S H Sp Hp : L2.Hp} {v : V} {r : Option (List α)} (g : Grow L S0 H0 S H) (gp : Grow L S0 H0 Sp Hp) (h : OwnR τ Hp S H v r) :
    ∃ S1, Grow L S0 H0 S1 H ∧ Same S S1 ∧ (qOpt (qL τ)).R S1 v r ∧ ∀ l' o', Hp l' ≠ none → Cel L H0 S H l' o' → Cel L H0 S1 H l' o' := by
  cases r with
  | none => exact ⟨S, g, Same.refl _, h, fun _ _ _ c => c⟩
  | some x =>
    obtain ⟨p, ws, rfl, h1, h2, h3, h4⟩ := h
    have c : Cel L H0 S H p (.lst ws) := ⟨h2, h3, .inl (gp.hnone h1), rfl⟩
    obtain ⟨S1, a, b, d, e⟩ := c_freeze g c (gp.hnone h1) h4
    exact ⟨S1, a, b, ⟨(fun z => nomatch z), d⟩, fun l' o' n c' => e l' o' (fun q => n (q ▸ h1)) c'⟩
theorem OP.optN {β : Type} {n : Option β} {s : α → Option β} {A : β → Prop} (h : OP (optC none n s) A) : OP n A := h
theorem OP.optS {β : Type} {x : α} {n : Option β} {s : α → Option β} {A : β → Prop} (h : OP (optC (Option.some x) n s) A) : OP (s x) A := h
end
end Z

namespace Z
open PySem PySem.Spec PyProof.Rows L2
/-! ### one of several readings -/
def tAlt (t u : TE) : TE := fun σ H Q => t σ H Q ∨ u σ H Q
theorem pe_alt {X : Cx} {e : Expr} {t u : TE} (h : PE X e t) (g : PE X e u) : PE X e (tAlt t u) := ⟨fun pins s σ H Q I q => by
  rcases q with q | q
  · exact h.run pins s σ H Q I q
  · exact g.run pins s σ H Q I q⟩
theorem fn_none {P : Program} {w : World} {K : PySem.W.Frag} {mg : Str → Option Value} {base : Heap} {CX : CXT} {k : Nat} {f : Addr} {fd : FuncData} {ps : List Str} {sp : Sp} (h : ∀ vs H Q E, ¬ sp vs H Q E) : FnOk P w K mg base CX k f fd ps sp :=
  ⟨fun vs H Q E q => absurd q (h vs H Q E), fun A outer s H args us vs Q E _ _ _ _ q => absurd q (h vs H Q E)⟩
/-- what isinstance asks of an own class -/
structure InsH (K : PySem.W.Frag) (C : Addr) : Prop where
  ha : PySem.W.findIn K (.ref C) "__class__" = some (some (.builtin "object.__class__"))
  hn : PySem.W.specialIn K (.builtin "object.__class__") "__get__" = some (some (.builtin "getset_descriptor.__get__"))
  htk : PySem.W.takesIn K (.builtin "object.__class__") = some true
  hm : PySem.W.mroIn K C (.type "object") = some true
theorem v_isO {K : PySem.W.Frag} {σ : L2.St} {H : Hp} {ta : TE} {l C D dx : Addr} {fs : List (Str × V)} {b : Bool} (ha : Val ta σ H (.ref l)) (hp : H l = some (.ins C dx fs)) (cl : Cls K C) (i : InsH K C) (e : PySem.W.kitOne K (.ref C) (.ref D) = some b) : Val (tCB (rIsi K) (tCons ta (tCons (tC (.ref D)) tNil))) σ H (.bl b) :=
  fun Q q => ha _ ⟨_, .ref D, _, _, _, rfl, .own D, .base (TyOf.ins hp cl i.ha i.hn i.htk i.hm), e, q⟩
theorem kit_t {K : PySem.W.Frag} {C D : Addr} (i : PySem.W.isClsIn K D = true) (t : PySem.W.typeIn K (.ref D) = some (.type "type")) (s : PySem.W.subIn K (.ref C) (.ref D) = some true) : PySem.W.kitOne K (.ref C) (.ref D) = some true := by
  unfold PySem.W.kitOne
  split
  · rfl
  · unfold PySem.W.kitCls
    show (if ((PySem.W.clsIn K D).isSome && PySem.W.typeIn K (.ref D) == some (.type "type")) = true then PySem.W.subIn K (.ref C) (.ref D) else none) = _
    have i' : (PySem.W.clsIn K D).isSome = true := i
    rw [i', t, if_pos, s]
    simp
theorem kit_f {K : PySem.W.Frag} {C D : Addr} (i : PySem.W.isClsIn K D = true) (t : PySem.W.typeIn K (.ref D) = some (.type "type")) (s : PySem.W.subIn K (.ref C) (.ref D) = some false) (sd : PySem.W.subIn K (.ref D) (.ref D) = some true) : PySem.W.kitOne K (.ref C) (.ref D) = some false := by
  unfold PySem.W.kitOne
  split
  · rename_i h
    have : (Value.ref C) = .ref D := beq_iff_eq.mp h
    rw [this] at s
    rw [s] at sd
    cases sd
  · unfold PySem.W.kitCls
    show (if ((PySem.W.clsIn K D).isSome && PySem.W.typeIn K (.ref D) == some (.type "type")) = true then PySem.W.subIn K (.ref C) (.ref D) else none) = _
    have i' : (PySem.W.clsIn K D).isSome = true := i
    rw [i', t, if_pos, s]
    simp

/-! ### comprehensions whose parts change the heap -/
section
variable {K : PySem.W.Frag} {σ : L2.St} {S H S0 H0 : Hp} {L : List Addr} {ta tl te : TE} {tt : TT} {tr : TA} {v : V} {Q : VK} {g : TG} {vs : List Nat}
theorem c_lcGL {α : Type} {R : V → α → Prop} {a : Addr} {us : List V} {xs : List α} (ha : Val tl σ H (.ref a)) (hp : Paired R us xs) (hq : SqL K H a us)
    (k : ∀ P, H P = none → ∃ Pv : List α → Hp → Prop, Pv xs (upd H P (.lst [])) ∧ (∀ ys H', Pv ys H' → SqL K H' a us) ∧ (∀ w x xs H', R w x → Pv (x :: xs) H' → ∀ N : Hp → Prop, (∀ H'', Pv xs H'' → N H'') → g w (wipe σ vs) H' fun σ2 H2 => wipe σ2 vs = wipe σ vs ∧ tt σ2 H2 fun b H3 =>
      if b = true then te σ2 H3 fun y H4 => ∃ acc, H4 P = some (.lst acc) ∧ acc.length < sizeLine ∧ N (upd H4 P (.lst (acc ++ [y]))) else N H3) ∧ ∀ H', Pv [] H' → Q (.ref P) H') : tLc (iList K tl) g tt te vs σ H Q :=
  ha _ ⟨a, rfl, ⟨us, hq⟩, fun P hP => by
    obtain ⟨Pv, h0, hl, hs, hd⟩ := k P hP
    exact turnsC_list hp Pv h0 hl hs hd⟩
theorem c_lcGR1 {n : Int} (ha : VA tr σ H [.int n]) (hj : gR n)
    (k : ∀ P, H P = none → ∃ Pv : List Int → Hp → Prop, Pv (rangeI 0 n.toNat) (upd H P (.lst [])) ∧ (∀ x xs H', Pv (x :: xs) H' → ∀ N : Hp → Prop, (∀ H'', Pv xs H'' → N H'') → g (.int x) (wipe σ vs) H' fun σ2 H2 => wipe σ2 vs = wipe σ vs ∧ tt σ2 H2 fun b H3 =>
      if b = true then te σ2 H3 fun y H4 => ∃ acc, H4 P = some (.lst acc) ∧ acc.length < sizeLine ∧ N (upd H4 P (.lst (acc ++ [y]))) else N H3) ∧ ∀ H', Pv [] H' → Q (.ref P) H') : tLc (iRng1 tr) g tt te vs σ H Q :=
  ha _ ⟨n, rfl, hj.1, hj.2, fun P hP => by
    obtain ⟨Pv, h0, hs, hd⟩ := k P hP
    exact turnsC_range Pv h0 hs hd⟩
theorem c_lcGR2 {m n : Int} (ha : VA tr σ H [.int m, .int n]) (hj : gR2 m n)
    (k : ∀ P, H P = none → ∃ Pv : List Int → Hp → Prop, Pv (rangeI m (n - m).toNat) (upd H P (.lst [])) ∧ (∀ x xs H', Pv (x :: xs) H' → ∀ N : Hp → Prop, (∀ H'', Pv xs H'' → N H'') → g (.int x) (wipe σ vs) H' fun σ2 H2 => wipe σ2 vs = wipe σ vs ∧ tt σ2 H2 fun b H3 =>
      if b = true then te σ2 H3 fun y H4 => ∃ acc, H4 P = some (.lst acc) ∧ acc.length < sizeLine ∧ N (upd H4 P (.lst (acc ++ [y]))) else N H3) ∧ ∀ H', Pv [] H' → Q (.ref P) H') : tLc (iRng2 tr) g tt te vs σ H Q :=
  ha _ ⟨m, n, rfl, hj, fun P hP => by
    obtain ⟨Pv, h0, hs, hd⟩ := k P hP
    exact turnsC_range Pv h0 hs hd⟩
theorem c_yes {q : Bool → Hp → Prop} (h : q true H) : tYes σ H q := h
theorem c_yesE {Z Z' : Prop} {q : Bool → Hp → Prop} (e : q true H = if true = true then Z else Z') (h : Z) : tYes σ H q := by
  show q true H
  rw [e, if_pos rfl]
  exact h
theorem ift {A B : Prop} (h : A) : if true = true then A else B := by rw [if_pos rfl]; exact h
theorem c_acc {α : Type} {τ : Rep K α} {l : Addr} {ws : List V} {xs ys : List α} {q : α} {N : Hp → Prop} (g : Grow L S0 H0 S H) (cl : Cel L H0 S H l (.lst ws)) (r : RL τ S ws xs) (rv : τ.R S v q) (hz : xs.length < 16777216) (he : xs ++ [q] = ys)
    (k : ∀ ws' H', Grow L S0 H0 S H' → Cel L H0 S H' l (.lst ws') → RL τ S ws' ys → (∀ l' o', l' ≠ l → Cel L H0 S H l' o' → Cel L H0 S H' l' o') → N H') : ∃ acc, H l = some (.lst acc) ∧ acc.length < sizeLine ∧ N (upd H l (.lst (acc ++ [v]))) := by
  subst he
  exact ⟨ws, cl.h, by rw [r.length, sizeLine_eq]; exact hz, k _ _ (g.wr cl rfl) (cl.wr rfl) (r.app (.cons rv .nil)) fun l' o' n c => c.wrn n⟩
end
end Z

namespace Z
open PySem PySem.Spec PyProof.Rows L2
/-! ### a fault: a text of three, and numbers -/
inductive Tag | start | step | bad deriving DecidableEq
def Tag.s : Tag → Str
  | .start => "start"
  | .step => "step"
  | .bad => "bad"
structure VT where
  t : Tag
  ns : List Int
deriving DecidableEq
theorem Tag.inj {a b : Tag} (h : a.s = b.s) : a = b := by
  cases a <;> cases b <;> first | rfl | (exact absurd h (by decide))
theorem Tag.ok (a : Tag) : PyData.strOk a.s = true := by cases a <;> decide +kernel
section
variable {K : PySem.W.Frag} {σ : L2.St} {S H : Hp} {v : V} {ta tb tc : TE}
def qV : Rep K VT := ⟨fun H v x => ∃ a, v = .ref a ∧ H a = some (.tup (.str x.t.s :: x.ns.map .int)), fun {H H' v x} e h => by
  obtain ⟨a, h1, h2⟩ := h
  exact ⟨a, h1, e _ _ h2⟩⟩
def qN : Rep K (List Int) := ⟨fun H v x => ∃ a, v = .ref a ∧ H a = some (.tup (x.map .int)), fun {H H' v x} e h => by
  obtain ⟨a, h1, h2⟩ := h
  exact ⟨a, h1, e _ _ h2⟩⟩
theorem qV1 {t : Tag} {s : Str} {i : Int} (h : (qT2 (K := K) qS qI).R S v (s, i)) (e : s = t.s) : (qV (K := K)).R S v ⟨t, [i]⟩ := by
  obtain ⟨a, w1, w2, rfl, h2, h3, h4⟩ := h
  cases (show w1 = .str s from h3)
  cases (show w2 = .int i from h4)
  exact ⟨a, rfl, by rw [h2, e]; rfl⟩
theorem qV2 {t : Tag} {s : Str} {i j : Int} (h : (qT3 (K := K) qS qI qI).R S v (s, i, j)) (e : s = t.s) : (qV (K := K)).R S v ⟨t, [i, j]⟩ := by
  obtain ⟨a, w1, w2, w3, rfl, h2, h3, h4, h5⟩ := h
  cases (show w1 = .str s from h3)
  cases (show w2 = .int i from h4)
  cases (show w3 = .int j from h5)
  exact ⟨a, rfl, by rw [h2, e]; rfl⟩
theorem nn_v {x : VT} (h : (qV (K := K)).R H v x) : v ≠ .non := by
  obtain ⟨a, rfl, _⟩ := h
  exact fun z => nomatch z
theorem ty_v {x : VT} (h : (qV (K := K)).R H v x) : TyX K H v (.type "tuple") := by
  obtain ⟨a, rfl, h2⟩ := h
  exact .base (.tup h2)
theorem v_lenV {x : VT} (ha : Val ta σ H v) (h : (qV (K := K)).R H v x) : Val (tCB (rLenS K) (tCons ta tNil)) σ H (.int ((x.ns.length : Int) + 1)) := by
  obtain ⟨a, rfl, h2⟩ := h
  refine fun Q q => ha _ ⟨a, _, rfl, .inr (SqT.of h2), ?_⟩
  rw [List.length_cons, List.length_map]
  exact q
theorem v_V0 {x : VT} (ha : Val ta σ H v) (hb : Val tb σ H (.int 0)) (h : (qV (K := K)).R H v x) : Val (tOp (rIxT K) ta tb) σ H (.str x.t.s) := by
  obtain ⟨a, rfl, h2⟩ := h
  exact fun Q q => ha _ (hb _ ⟨a, _, 0, _, rfl, rfl, SqT.of h2, L2.atI_nat (j := 0) rfl, q⟩)
theorem dpInts {H : Hp} : ∀ xs : List Int, DpAll K H (xs.map .int) (xs.map .int)
  | [] => .nil
  | x :: xs => .cons (.int x) (dpInts xs)
def dV : Dat (K := K) qV := ⟨fun x => .tuple (.str x.t.s :: x.ns.map .int), fun {H v x} h => by
    obtain ⟨a, rfl, h2⟩ := h
    exact .tup (SqT.of h2) (.cons (.str _) (dpInts _)), fun x => by
    show PyData.canLayAll0 (.str x.t.s :: x.ns.map .int) = true
    have h : ∀ xs : List Int, PyData.canLayAll0 (xs.map .int) = true := fun xs => layAll (K := K) dI xs
    show (PyData.canLay0 (.str x.t.s) && PyData.canLayAll0 (x.ns.map .int)) = true
    rw [h, Bool.and_true]
    exact x.t.ok, 2, fun x => by
    have h : PyData.depthAll (x.ns.map .int) ≤ 1 := depAll (K := K) dI x.ns
    show PyData.depth (.tuple (.str x.t.s :: x.ns.map .int)) ≤ _
    simp only [PyData.depth, PyData.depthAll]
    omega, fun x y => by
    have h : PyData.eqvAll (x.ns.map .int) (y.ns.map .int) = decide (x.ns = y.ns) := eqvAllD (K := K) dI x.ns y.ns
    show PyData.eqvAll (.str x.t.s :: x.ns.map .int) (.str y.t.s :: y.ns.map .int) = _
    simp only [PyData.eqvAll]
    rw [h]
    have e : PyData.eqv (.str x.t.s) (.str y.t.s) = decide (x.t.s = y.t.s) := by
      show (x.t.s == y.t.s) = _
      rw [Bool.beq_eq_decide_eq]
    rw [e, ← Bool.decide_and]
    exact decide_eq_decide.mpr ⟨fun h => by
      cases x; cases y
      rw [VT.mk.injEq]
      exact ⟨Tag.inj h.1, h.2⟩, fun h => by rw [h]; exact ⟨rfl, rfl⟩⟩⟩
theorem nnV : NN (K := K) dV := fun _ => ⟨rfl, rfl⟩
/-- x[1:] of a fault -/
theorem e_tailV {x : VT} {Q : VK} (h : (qV (K := K)).R H v x) (k : ∀ p H', Same H H' → H p = none → H' p = some (.tup (x.ns.map .int)) → Q (.ref p) H') : rSlT K v (some 1) none H Q := by
  obtain ⟨a, rfl, h2⟩ := h
  have e : HT.sIx (V.str x.t.s :: x.ns.map .int).length 0 (some 1) = 1 := by
    rw [List.length_cons]
    show HT.sIx _ 0 (some ((1 : Nat) : Int)) = 1
    rw [HT.sIx_nat]
    omega
  refine ⟨a, _, rfl, SqT.of h2, fun z => ?_, fun p hp => ?_⟩
  · rw [e] at z
    exact absurd z.1 (by decide)
  · refine k p _ (same_upd hp) hp ?_
    rw [show cutV (V.str x.t.s :: x.ns.map .int) (some 1) none = x.ns.map .int from ?_]
    · exact upd_same
    · unfold cutV
      rw [e]
      show (List.drop 1 _).take ((V.str x.t.s :: x.ns.map .int).length - 1) = _
      rw [List.drop_one, List.tail_cons, List.length_cons, Nat.add_sub_cancel, List.take_length]
theorem z_forTE {D : Ends} {g : TG} {tb : TS} {tl : TE} {tu : TS} (h : tl σ H fun x H1 => tSeq (tFor (iTup K (tC x)) g tb) tu D σ H1) : tSeq (tFor (iTup K tl) g tb) tu D σ H := h
end
end Z

namespace Z
open PySem PySem.Spec PyProof.Rows L2
/-! ### errors told -/
def exE {α β : Type} (r : Except Nat α) (er : Nat → Option β) (ok : α → Option β) : Option β := match r with
  | .ok x => ok x
  | .error c => er c
theorem OP.exO {α β : Type} {x : α} {er : Nat → Option β} {ok : α → Option β} {A : β → Prop} (h : OP (exE (.ok x) er ok) A) : OP (ok x) A := h
theorem OP.exR {α β : Type} {c : Nat} {er : Nat → Option β} {ok : α → Option β} {A : β → Prop} (h : OP (exE (.error c) er ok) A) : OP (er c) A := h
theorem takesN {X : Cx} : Takes X (fun _ _ _ _ => False) := fun _ _ ⟨_, _, _, _, _, _, _, _, _, _, _, _, _, _, _, _, z⟩ => z.elim
theorem passL {X : Cx} : Passes (L2.CX X.prog X.w) X (fun _ _ _ => False) := passes_call takesN (fun _ _ _ _ h => h)
theorem z_cutj {σ : L2.St} {H : Hp} {D : Ends} {t tu : TS} (P : L2.St → Hp → Prop) (hP : ∀ σ' H', P σ' H' → tu D σ' H') (h : ∀ N : L2.St → Hp → Prop, (∀ σ' H', P σ' H' → N σ' H') → t { D with nx := N } σ H) : tSeq t tu D σ H := h _ hP
/-- the first clause, with a name, takes what the body raises -/
def wA1 (K : PySem.W.Frag) (c : Value) (i : Nat) (ts : Addr → Value → Option Addr → TS) (D : Ends) : WX := fun cls d σ H =>
  PySem.W.exmOne K cls c = some true ∧ ∀ a, H a = none → ts a cls d { nx := fun σ1 H1 => D.nx (σ1.set i none) H1, rt := D.rt, bk := fun σ1 H1 => D.bk (σ1.set i none) H1, ct := fun σ1 H1 => D.ct (σ1.set i none) H1 } (σ.set i (some (.ref a))) H
section
variable {X : Cx} {x n : Str} {c : Value} {i : Nat} {bd su : List Stmt} {st0 : Stmt} {hds : List ExceptHandler} {q1 q2 q3 : Pos} {tb : WX → TS} {ts : Addr → Value → Option Addr → TS}
theorem ps_tryA (eS : X.stack = X.env :: X.outer) (eF : X.env.frame = some X.env.locals) (nd : X.N.Nodup) (gi : X.N[i]? = some n) (lc : X.env.kindOf n = some .local) (nm : Names X x c)
    (hbd : ∀ (W : WX) (pn : List (Addr × Obj)) (xe : Value → Shared → Prop), Takes (X.tr pn xe) W → PassesOwn (model X.prog X.w) X.A X.env xe → PSs (X.tr pn xe) bd (tb W))
    (hs : ∀ (a : Addr) (oe : Obj) (cls : Value) (d : Option Addr) (pn : List (Addr × Obj)), Zc cls d oe → (∃ vs, oe.data = .fields vs) → PSs (X.suite a ((a, oe) :: pn)) (st0 :: su) (ts a cls d)) :
    PS X (.Try bd (.ExceptHandler (some (.Name x q1)) (some n) (st0 :: su) q2 :: hds) [] [] q3) (fun D σ H => tb (wA1 X.K c i ts D) D σ H) := ⟨fun pins s σ H D I h => by
  have okI := I.ok
  have frm : X.A.frames = some (X.env :: X.outer) := okI.frames.trans (congrArg some eS)
  refine wpAny_Try_except (wpAny_mono ((hbd (wA1 X.K c i ts D) (X.pn ++ pins) (fun e s₁ => wpAny (model X.prog X.w) X.A (noteFrame e X.env) (fun _ s₂ => wpAny (model X.prog X.w) X.A (setFlight e none) (fun _ s₃ => wpAny (model X.prog X.w) X.A (handleBy e X.env (.ExceptHandler (some (.Name x q1)) (some n) (st0 :: su) q2 :: hds)) (SP X pins D) X.xe s₃) X.xe s₂) X.xe s₁) (fun u t1 air => ?_) PassesOwn.looking).run [] s σ H D (I.toTry _) h) (fun fl t1 sp => ?_) fun e t1 z => z)
  · obtain ⟨ea, Bd, sB, pinsB, σB, HB, cls, dd, rfl, IB', nbB, upB, sky0, naB, osB, agB, em, wsh⟩ := air
    have IB : Inv X pins σB HB sB := Inv.ofTry IB' okI
    have sky1 : Sky Bd (X.env :: X.outer) ea (Zc cls dd) X.env.locals t1.heap := eS ▸ sky0
    show wpAny (model X.prog X.w) X.A (noteFrame (Value.ref ea) X.env) _ _ _
    refine Sky.land Zc.steady frm eF sky1 fun hA flA upA => ?_
    have IA : Inv X pins σB HB { t1 with heap := hA } := Inv.landed IB nbB flA.1 (upB.trans upA) osB agB
    obtain ⟨oA, vA, getA, zA, datA⟩ := flA.there
    have noF : ea ∉ frs (X.env :: X.outer) := fun hm => by
      obtain ⟨_, o', e', hnf⟩ := (flA.2.2.1).mem hm
      rw [getA] at e'; cases e'
      exact hnf _ datA
    have n1 : ea ≠ X.env.locals := fun z => noF (List.mem_filterMap.mpr ⟨X.env, List.mem_cons_self, by rw [eF, z]⟩)
    have n2 : ea ∉ X.fs := fun hm => by
      obtain ⟨e, he, q⟩ := List.mem_filterMap.mp hm
      exact noF (List.mem_filterMap.mpr ⟨e, List.mem_cons_of_mem _ he, q⟩)
    have SA := Inv.suite IA getA datA naB n1 n2
    refine wpAny_handleBy_cons (codeAny_handlers_test ?_) (fun q => by cases q)
    have lookT : PySem.W.Looks (model X.prog X.w) hA (typeOf (.ref ea)) cls := fun A Q E s k q => wpAny_typeOf_ref (k _ _ getA) (by rw [zA.1]; exact q)
    have lookM := PySem.W.exm_one (M := model X.prog X.w) IA.kIn lookT em
    have tst : ∀ {Q E : Value → Shared → Prop}, Q c { t1 with heap := hA } → wpAny (model X.prog X.w) (X.A.mark (some (.ref ea))) (eval (.Name x q1) X.env) Q E { t1 with heap := hA } := fun {Q E} q => by
      rcases nm with ⟨hg, hdbg, hm | ⟨hm, hv, hnn⟩⟩
      · exact ld_glob (X := X.suite ea ((ea, oA) :: (X.pn ++ pins))) SA hg hm q hdbg
      · exact ld_blt (X := X.suite ea ((ea, oA) :: (X.pn ++ pins))) SA hg hm hv q hnn hdbg
    refine tst (lookM.here (codeAny_handlers_suite_as (HandSPX.lands_againZ flA fun hC flC upC => ?_)))
    have IC : Inv X pins σB HB { t1 with heap := hC } := Inv.landed IB nbB flC.1 ((upB.trans upA).trans upC) osB agB
    obtain ⟨oC, vC, getC, zC, datC⟩ := flC.there
    refine store_ok (X := X.suite ea ((ea, oC) :: (X.pn ++ pins))) (v := .ref ea) (Inv.suite IC getC datC naB n1 n2) nd gi (.inl lc) rfl (fun s5 S5 => ?_) (.inr lc)
    refine wpAny_mono ((hs ea oC cls dd (X.pn ++ pins) zC ⟨_, datC⟩).run [] s5 _ HB _ S5 (wsh ea naB)) (fun fl s6 sp => ?_) fun _ _ z => z.elim
    have gone : ∀ {σ6 : L2.St} {H6 : Hp} {Q : Shared → Prop}, Inv (X.suite ea ((ea, oC) :: (X.pn ++ pins))) [] σ6 H6 s6 → (∀ s7, Inv X pins (σ6.set i none) H6 s7 → Q s7) →
        wpAny (model X.prog X.w) X.A (do bindName X.env n .none; unbindBehindTheSuite X.env n q2) (fun _ s7 => Q s7) X.xe s6 := fun {σ6 H6 Q} S6 hq => gone_ok (S6.unsuite okI) nd gi lc hq
    cases fl with
    | next =>
      obtain ⟨σ6, H6, S6, k6⟩ := sp
      exact gone S6 fun s7 J7 => ⟨_, _, J7, k6⟩
    | brk =>
      obtain ⟨σ6, H6, S6, k6⟩ := sp
      exact gone S6 fun s7 J7 => ⟨_, _, J7, k6⟩
    | cont =>
      obtain ⟨σ6, H6, S6, k6⟩ := sp
      exact gone S6 fun s7 J7 => ⟨_, _, J7, k6⟩
    | ret u =>
      obtain ⟨v6, σ6, H6, S6, r6, k6⟩ := sp
      exact gone S6 fun s7 J7 => ⟨_, _, _, J7, r6, k6⟩
  · cases fl with
    | next =>
      obtain ⟨σ1, H1, J1, k⟩ := sp
      exact wpAny_execs_nil ⟨σ1, H1, J1.ofTry okI, k⟩
    | brk =>
      obtain ⟨σ1, H1, J1, k⟩ := sp
      exact ⟨σ1, H1, J1.ofTry okI, k⟩
    | cont =>
      obtain ⟨σ1, H1, J1, k⟩ := sp
      exact ⟨σ1, H1, J1.ofTry okI, k⟩
    | ret u =>
      obtain ⟨v, σ1, H1, J1, r, k⟩ := sp
      exact ⟨v, σ1, H1, J1.ofTry okI, r, k⟩⟩
end
theorem EXP.sp {α β : Type} {x : Except Nat α} {P : α → Prop} {N : Nat → Prop} {er : Nat → Option β} {ok : α → Option β} {A : β → Prop} (h : OP (exE x er ok) A) (hr : ∀ c, x = .error c → OP (er c) A → N c) (ho : ∀ v, x = .ok v → OP (ok v) A → P v) : EXP x P N := by
  cases x with
  | ok v => exact ho v rfl h
  | error c => exact hr c rfl h
theorem z_seqE {σ : L2.St} {H : Hp} {D : Ends} {t tu : TS} (h : t { D with nx := tu D } σ H) : tSeq t tu D σ H := h
theorem z_sl {σ σ' : L2.St} {H : Hp} {D : Ends} {tu : TS} (e : σ = σ') (h : tu D σ' H) : tu D σ H := e ▸ h
/-- isinstance(e, c), isinstance(e, (c1, c2, ..)), e the exception that the suite holds -/
def rIsES (K : PySem.W.Frag) (cls : Value) (d : Option Addr) (a : Addr) : List V → Hp → VK → Prop := fun xs H Q => ∃ (D : Addr) (c : V) (cv : Value) (b : Bool), cls = .ref D ∧ d = none ∧ ExcC K D ∧ xs = [.ref a, c] ∧ ClsV c cv ∧ PySem.W.kitOne K (.ref D) cv = some b ∧ Q (.bl b) H
def rIsET (K : PySem.W.Frag) (cls : Value) (d : Option Addr) (a : Addr) : List V → Hp → VK → Prop := fun xs H Q => ∃ (D tp : Addr) (cs : List V) (us : List Value) (b : Bool), cls = .ref D ∧ d = none ∧ ExcC K D ∧ xs = [.ref a, .ref tp] ∧ H tp = some (.tup cs) ∧ Paired ClsV cs us ∧ PySem.W.kitAny K (.ref D) us = some b ∧ Q (.bl b) H
theorem pin_inst {X : Cx} {a D : Addr} {oe : Obj} {pn pins : List (Addr × Obj)} {σ : L2.St} {H : Hp} {s : Shared} (I : Inv (X.suite a ((a, oe) :: pn)) pins σ H s) (hz : Zc (.ref D) none oe) (hf : ∃ vs, oe.data = .fields vs) : PySem.W.InstAt s.heap a oe D none := by
  obtain ⟨gt, _⟩ := I.pin (a, oe) (List.mem_append.mpr (.inl List.mem_cons_self))
  obtain ⟨vs, hv⟩ := hf
  obtain ⟨oc, od, oda, osl⟩ := oe
  obtain ⟨z1, z2⟩ := hz
  dsimp only at z1 z2 hv
  subst z1 z2 hv
  exact ⟨gt, rfl, rfl, trivial⟩
theorem call_isES {X : Cx} {a : Addr} {cls : Value} {d : Option Addr} {oe : Obj} {pn : List (Addr × Obj)} (hz : Zc cls d oe) (hf : ∃ vs, oe.data = .fields vs) : CallR (X.suite a ((a, oe) :: pn)) (.builtin "isinstance") (rIsES X.K cls d a) := by
  intro pins s σ H xs us Q I r h
  obtain ⟨D, c, cv, b, rfl, rfl, C, rfl, kc, e, q⟩ := h
  exact call_isE C hz hf pins s σ H _ us Q I r ⟨c, cv, b, rfl, fun u ru => kc.eq ru, e, q⟩
theorem call_isET {X : Cx} {a : Addr} {cls : Value} {d : Option Addr} {oe : Obj} {pn : List (Addr × Obj)} (hz : Zc cls d oe) (hf : ∃ vs, oe.data = .fields vs) : CallR (X.suite a ((a, oe) :: pn)) (.builtin "isinstance") (rIsET X.K cls d a) := by
  intro pins s σ H xs us Q I r h
  obtain ⟨D, tp, cs, ws, b, rfl, rfl, C, rfl, hT, k, e, q⟩ := h
  obtain ⟨u1, u2, rfl, r1, r2⟩ := vals2 r
  cases (show u2 = Value.ref tp from r2)
  cases (show u1 = Value.ref a from r1)
  have J := pin_inst I hz hf
  obtain ⟨_, its, rv, o, h1, h2, n, h3⟩ := I.hok tp _ hT
  have e3 := ClsV.all k rv
  subst e3
  obtain ⟨oc, od, dt, sl⟩ := o
  simp only at h2 h3
  subst h2 h3
  exact PySem.W.kia_tup (PySem.W.handS_kitx_exc C.hg C.hk C.hs C.hd C.ha C.hn C.ht C.hm) I.kIn J h1 e (fun z => nomatch z) fun tk => ⟨.bl b, H, I.kept (t' := tk) fun _ _ z => z, rfl, q⟩
section
variable {K : PySem.W.Frag} {σ : L2.St} {H : Hp} {ta tb : TE} {a D : Addr} {c : V} {cv : Value} {b : Bool}
theorem v_isE (C : ExcC K D) (ha : Val ta σ H (.ref a)) (hb : Val tb σ H c) (kc : ClsV c cv) (e : PySem.W.kitOne K (.ref D) cv = some b) : Val (tCB (rIsES K (.ref D) none a) (tCons ta (tCons tb tNil))) σ H (.bl b) :=
  fun Q q => ha _ (hb _ ⟨D, c, cv, b, rfl, rfl, C, rfl, kc, e, q⟩)
end
theorem kit_bt {K : PySem.W.Frag} {D : Addr} {T : String} {b : Bool} (m : PySem.W.kitMeta T = true) (s : PySem.W.subIn K (.ref D) (.type T) = some b) : PySem.W.kitOne K (.ref D) (.type T) = some b := by
  unfold PySem.W.kitOne
  have hne : ((Value.ref D : Value) == Value.type T) = false := by
    cases e : ((Value.ref D : Value) == Value.type T) with
    | false => rfl
    | true => cases beq_iff_eq.mp e
  rw [hne, if_neg Bool.false_ne_true]
  unfold PySem.W.kitCls
  show (if PySem.W.kitMeta T = true then PySem.W.subIn K (.ref D) (.type T) else none) = _
  rw [if_pos m, s]
theorem bt_ValueError : bootBuiltins "ValueError" = some (.type "ValueError") := by decide +kernel
theorem meta_ValueError : PySem.W.kitMeta "ValueError" = true := by decide +kernel
/-- o.m(e, ..), where what is raised is wished for at the slots -/
def tMethX (C : Addr) (m : Str) (sp : Sp) (E : L2.St → XK) (ta : TE) (t : TA) : TE := fun σ H Q => ta σ H fun x H1 => ∃ a dx fs, x = .ref a ∧ H1 a = some (.ins C dx fs) ∧ fs.lookup m = none ∧ t σ H1 fun vs H2 => sp (x :: vs) H2 Q (E σ)
theorem pe_methX {X : Cx} {CX : CXT} {k : Nat} {f C : Addr} {fd : FuncData} {ps : List Str} {sp : Sp} {E : L2.St → XK} {m : Str} {pos apos : Pos} {e o : Expr} {es : List Expr} {ta : TE} {t : TA} {pl : Sem Bool} (he : PE X o ta) (c : Cls X.K C) (hm : Meth X.K C m f) (F : FnOk X.prog X.w X.K X.mg X.base CX k f fd ps sp) (hr : Room k X.A) (hb : Binds X.K fd ps []) (hx : ∀ σ, PassesAt CX X σ (E σ)) (ha : PA X (e :: es) t)
    (hst : starEach (e :: es) X.env = (false, eval e X.env) :: starEach es X.env := by rfl) (hpl : (backTo pos (starEach es X.env)).any (·.1) = false := by rfl)
    (ht : eval (.Call (.Attribute o m apos) (e :: es) [] pos) X.env = (eval o X.env >>= fun ov => standAt apos.atName >>= fun _ => holding [ov] (getMethod ov m pl) >>= fun z => callWith pos z.1 z.2 (backTo pos (starEach (e :: es) X.env)) (backToKw pos (keywordEach [] X.env))) := by rfl) :
    PE X (.Call (.Attribute o m apos) (e :: es) [] pos) (tMethX C m sp E ta t) := ⟨fun pins s σ H Q I h => by
  refine PySem.W.methodCall_KW (pl := pl) (thn (he.run pins s σ H _ I h) fun u s1 ⟨x, H1, I1, rx, a, dx, fs, ex, ea, l, q⟩ => ?_) ht
  cases ex
  cases (show u = Value.ref a from rx)
  refine getmeth_ok I1 ea c hm l (PySem.W.callWith_K (first := [.ref a]) (h₀ := X.base) I.ok.mod.kin hm.kp (thn (ha.run pos pins s1 σ H1 _ I1 q) fun us s2 ⟨vs, H2, I2, r, q2⟩ => ⟨I2.kIn, ?_⟩) hst hpl)
  exact run_fnS (us := .ref a :: us) (vs := .ref a :: vs) F hr hb (hx σ) I2 (.cons rfl r) q2⟩
theorem kitAny_f {K : PySem.W.Frag} {t c : Value} {r : List Value} {b : Bool} (h : PySem.W.kitOne K t c = some false) (k : PySem.W.kitAny K t r = some b) : PySem.W.kitAny K t (c :: r) = some b := by
  unfold PySem.W.kitAny
  rw [h]
  exact k
theorem kitAny_t {K : PySem.W.Frag} {t c : Value} {r : List Value} (h : PySem.W.kitOne K t c = some true) : PySem.W.kitAny K t (c :: r) = some true := by
  unfold PySem.W.kitAny
  rw [h]
end Z
namespace Z
open PySem PySem.Spec PyProof.Rows L2
theorem z_suite {σ σ' : L2.St} {H : Hp} {D : Ends} {t tu : TS} {i : Nat} {a : Addr} (e : σ.set i (some (.ref a)) = σ') (h : ∀ (N Bk Ct : L2.St → Hp → Prop), (∀ σ1 H1, tu D (σ1.set i none) H1 → N σ1 H1) → t { nx := N, rt := D.rt, bk := Bk, ct := Ct } σ' H) :
    t { nx := fun σ1 H1 => (tu D) (σ1.set i none) H1, rt := D.rt, bk := fun σ1 H1 => D.bk (σ1.set i none) H1, ct := fun σ1 H1 => D.ct (σ1.set i none) H1 } (σ.set i (some (.ref a))) H := e ▸ h _ _ _ fun _ _ z => z
end Z
namespace Z
open PySem PySem.Spec PyProof.Rows L2
theorem c_callS {sp : Sp} {E : L2.St → XK} {tr : TA} {σ : L2.St} {H : Hp} {Q : VK} (h : tr σ H fun vs H1 => sp vs H1 Q (E σ)) : tCallS sp E tr σ H Q := h
end Z

namespace Z
open PySem PySem.Spec PyProof.Rows L2 PySem.Calls
/-! ### sorted(d.keys()) -/
def tSortKeys (te : TE) : TE := fun σ H Q => te σ H fun v H1 => ∃ (a : Addr) (kvs : List (Key × V)) (ks : List Int), v = .ref a ∧ H1 a = some (.dK kvs) ∧ kvs.map (·.1) = ks.map .inl ∧
  ∀ (zs : List Int) (p : Addr), zs.Perm ks → zs.Pairwise (· ≤ ·) → H1 p = none → Q (.ref p) (upd H1 p (.lst (zs.map V.int)))
theorem kv_keys : ∀ {kvs : List (Key × V)} {vs : List (Key × Value)}, KV kvs vs → kvs.map (·.1) = vs.map (·.1)
  | _, _, .nil => rfl
  | _, _, .cons a b => by rw [List.map_cons, List.map_cons, a.1, kv_keys b]
theorem keysInts {P : Program} {w : World} : ∀ {us : List Value} {ks : List Int} {vs : List (Key × Value)}, us.length = vs.length → (∀ (i : Nat) (v : Value), us[i]? = some v → ∃ k x, vs[i]? = some (k, x) ∧ (mixKind P w).is k v = true) → vs.map (·.1) = ks.map .inl → IntsAre us ks
  | [], ks, vs, hl, _, hk => by
    cases vs with
    | nil =>
      cases ks with
      | nil => exact .nil
      | cons => cases hk
    | cons => cases hl
  | u :: us, ks, vs, hl, h, hk => by
    cases vs with
    | nil => cases hl
    | cons q vs =>
      cases ks with
      | nil => cases hk
      | cons n ks =>
        rw [List.map_cons, List.map_cons] at hk
        injection hk with h1 h2
        obtain ⟨k, x, e, i⟩ := h 0 u rfl
        rw [List.getElem?_cons_zero] at e
        cases e
        rw [mixKind_is] at i
        have h1' : k = Sum.inl n := h1
        subst h1'
        rcases keyIs_shape i with ⟨j, t, e1, e2⟩ | ⟨y, t, e1, e2⟩
        · cases e1
          subst e2
          exact .cons n t (keysInts (P := P) (w := w) (by simpa using hl) (fun i v e => h (i + 1) v (by rw [List.getElem?_cons_succ]; exact e)) h2)
        · cases e1
theorem pe_sortedKeys {X : Cx} {e : Expr} {te : TE} {p pos apos cpos : Pos} (hc : X.calm = true) (hg : Gl X "sorted") (hm : X.mg "sorted" = none) (he : PE X e te)
    (hbase : attributeBase e "keys" X.env (eval e X.env) = eval e X.env := by rfl) (hline : (apos.endLine == cpos.line) = true := by rfl)
    (hs : starEach [.Call (.Attribute e "keys" apos) [] [] cpos] X.env = (false, eval (.Call (.Attribute e "keys" apos) [] [] cpos) X.env) :: starEach [] X.env := by rfl) :
    PE X (.Call (.Name "sorted" p) [.Call (.Attribute e "keys" apos) [] [] cpos] [] pos) (tSortKeys te) := by
  refine ⟨fun pins s σ H Q I h => ?_⟩
  refine wpAny_Call_Name_kw (ld_blt I hg hm bt_sorted ?_)
  refine PyProof.Rows.callWith_builtin1 (args_cons ?_ hs) hs rfl
  refine wpAny_Call_method (T := "dict") (id := "dict.keys") hbase rfl hline F.plainAttrs_dict F.slot_dict_keys F.type_dict_keys (thn (he.run pins s σ H _ I h) fun u s1 ⟨x, H1, I1, rx, d, kvs, ks, ex, hd, hks, q⟩ => ?_)
  subst ex
  obtain rfl : u = Value.ref d := rx
  obtain ⟨hz, hgd, vs, kv, hm⟩ := I1.hok d _ hd
  have hl : kvs.length = vs.length := Paired.length kv
  refine ⟨hm.typeIs, hm.mapOf.noDict, ?_⟩
  have I2 : Inv X pins σ H1 { s1 with heap := s1.heap.push { cls := .type "dict_keys", data := .fields #[.ref d] } } := I1.kept (t' := s1.toks) fun b ob q => Heap.get?_push_of_some _ q
  have fin : wpAny (model X.prog X.w) X.A (call (.builtin "sorted") [.ref s1.heap.objs.size]) (EP X pins σ Q) X.xe { s1 with heap := s1.heap.push { cls := .type "dict_keys", data := .fields #[.ref d] } } := by
    obtain ⟨ep, hat⟩ := hm.dictAt
    have hat2 := hat.push { cls := .type "dict_keys", data := .fields #[.ref d] }
    refine call_function_entry kind_sorted plain_sorted entry_sorted (args_sorted1 _) ?_
    unfold Builtin.«sorted»
    refine wpAny_bind (m := checkCount "sorted" 1 1 _) (wpAny_pure ?_)
    refine wpAny_bind (PySem.W.kdu_collect (A := X.A.in1) (PySem.W.kdl_keys (knd := mixKind X.prog X.w) (kvs := vs) (ep := ep)) (I1.ok.hd hc) ⟨⟨_, Heap.get?_push_size _ rfl, rfl, rfl⟩, hat2⟩ (by rw [← hl]; exact hz) fun h' tk acc hk hacc => ?_)
    have hlen : acc.toList.length = vs.length := by rw [Array.length_toList]; exact hacc.1
    refine wpAny_bind (wpAny_newList ?_ (by rw [hlen, ← hl]; exact hz))
    have hi : IntsAre acc.toList ks := keysInts (P := X.prog) (w := X.w) hlen (fun j v e => hacc.2 j v (by rw [← Array.getElem?_toList]; exact e)) ((kv_keys kv).symm.trans hks)
    have hzz : acc.toList.length ≤ sizeLine := by rw [hlen, ← hl]; exact hz
    have hob : (h'.push { cls := .type "list", data := .seq acc.toList.toArray }).get? h'.objs.size = some { cls := .type "list", data := .seq acc.toList.toArray } := Heap.get?_push_size _ rfl
    refine wpAny_bind (wpAny_holding (wpAny_call_entry slot_list_sort ⟨_, hob, rfl⟩ entry_list_sort (SrtO.list_sort_ord SrtO.swo_int hob hzz (fun h2 => SrtO.ints_sortable hi h2) fun out h1 h2 => ⟨_, rfl, ?_⟩) (args_list_sort _)))
    refine wpAny_pure ⟨_, rfl, ?_⟩
    obtain ⟨k1, k2, k3⟩ := SrtO.ints_out hi h1 h2
    obtain ⟨ep2, he'⟩ := PyProof.Rows.sortedHeap_at (vs := acc.toList) (out := out.toArray) hob
    have hlo : ((out.map SrtO.iv).map V.int).length ≤ sizeLine := by
      rw [List.length_map, k2.length_eq]
      have := congrArg List.length hks
      rw [List.length_map, List.length_map] at this
      rw [← this]; exact hz
    have old : ∀ b u, (s1.heap.push { cls := .type "dict_keys", data := .fields #[.ref d] }).get? b = some u → (sortedHeap (h'.push { cls := .type "list", data := .seq acc.toList.toArray }) h'.objs.size acc.toList out.toArray).get? b = some u := fun b u hu => by
      have h3 := hk b u hu
      have h4 : (h'.push { cls := .type "list", data := .seq acc.toList.toArray }).get? b = some u := Heap.get?_push_of_some _ h3
      rw [PyProof.Rows.sortedHeap_old (Nat.ne_of_lt (Heap.lt_size h3)) (Heap.lt_size h4)]
      exact h4
    have hsz : s1.heap.objs.size + 1 ≤ h'.objs.size := by
      have h3 := hk s1.heap.objs.size _ (Heap.get?_push_size _ rfl)
      exact Heap.lt_size h3
    have hpz : (s1.heap.push { cls := .type "dict_keys", data := .fields #[.ref d] }).objs.size ≤ h'.objs.size := by rw [size_push']; exact hsz
    exact ⟨.ref _, upd H1 h'.objs.size (.lst ((out.map SrtO.iv).map V.int)), I2.laid (t' := tk) old hpz ⟨hlo, out, ep2, vals_of_ints k1, he'⟩, rfl, q _ _ k2 k3 (I2.hok.fresh hpz)⟩
  show wpAny _ _ (callWith cpos (.builtin "dict.keys") [.ref d] [] []) _ _ s1
  exact method_meetsIn F.slot_dict_keys F.entry_dict_keys rfl (PySem.evalArgs_none ⟨rfl, hm.typeIs, F.args_dict_keys_1 _, _, PySem.W.kdl_meets_keys (mixKind X.prog X.w) d hgd, ⟨vs, hm⟩, args_nil fin⟩)
end Z
namespace Z
open PySem PySem.Spec PyProof.Rows L2
/-! ### dicts of one's own, keys ints -/
section
variable {K : PySem.W.Frag} {σ : L2.St} {S H S0 H0 : Hp} {L : List Addr} {ta tb te : TE} {β : Type} {Q : VK} {v : V} {D : Ends} {tu : TS}
def kvD (vf : β → V) (x : List (Int × β)) : List (Key × V) := x.map fun p => (.inl p.1, vf p.2)
def KR (vf : β → V) (kvs : List (Key × V)) (x : List (Int × β)) : Prop := kvs = kvD vf x
def putD (x : List (Int × β)) (k : Int) (v : β) : List (Int × β) := if (x.any fun p => decide (p.1 = k)) = true then x.map (fun p => if p.1 = k then (p.1, v) else p) else x ++ [(k, v)]
theorem KR.nil {vf : β → V} : KR vf [] [] := rfl
theorem KR.length {vf : β → V} {kvs : List (Key × V)} {x : List (Int × β)} (h : KR vf kvs x) : kvs.length = x.length := by rw [h]; unfold kvD; rw [List.length_map]
theorem KR.keys {vf : β → V} {kvs : List (Key × V)} {x : List (Int × β)} (h : KR vf kvs x) : kvs.map (·.1) = (x.map (·.1)).map .inl := by
  rw [h]
  unfold kvD
  rw [List.map_map, List.map_map]
  rfl
theorem KR.put {vf : β → V} {kvs : List (Key × V)} {x : List (Int × β)} (h : KR vf kvs x) (k : Int) (v : β) : KR vf (putK kvs (.inl k) (vf v)) (putD x k v) := by
  have inl : ∀ a : Int, decide ((Sum.inl a : Key) = .inl k) = decide (a = k) := fun a => decide_eq_decide.mpr ⟨fun e => Sum.inl.inj e, fun e => by rw [e]⟩
  have e1 : (kvs.any fun kv => decide (kv.1 = (.inl k : Key))) = x.any fun p => decide (p.1 = k) := by
    rw [h]
    unfold kvD
    rw [List.any_map]
    congr 1
    funext p
    exact inl p.1
  unfold KR putK putD
  rw [e1]
  split
  · rw [h]
    unfold kvD
    rw [List.map_map, List.map_map]
    apply List.map_congr_left
    intro p _
    show (if (Sum.inl p.1 : Key) = .inl k then ((Sum.inl p.1 : Key), vf v) else (.inl p.1, vf p.2)) = _
    by_cases e : p.1 = k
    · rw [if_pos (by rw [e])]
      show _ = ((.inl (if p.1 = k then (p.1, v) else p).1 : Key), vf (if p.1 = k then (p.1, v) else p).2)
      rw [if_pos e]
    · rw [if_neg (fun q => e (Sum.inl.inj q))]
      show _ = ((.inl (if p.1 = k then (p.1, v) else p).1 : Key), vf (if p.1 = k then (p.1, v) else p).2)
      rw [if_neg e]
  · rw [h]
    unfold kvD
    rw [List.map_append]
    rfl
theorem c_newdK (k : ∀ p H', Same H H' → H p = none → H' p = some (.dK []) → Q (.ref p) H') : tDNewK σ H Q := fun p hp => k p _ (same_upd hp) hp upd_same
theorem c_dnE (h : ∀ Q' : VK, Q' = Q → tDNewK σ H Q') : tDNewK σ H Q := h _ rfl
theorem c_setD {vf : β → V} {l : Addr} {kvs : List (Key × V)} {x : List (Int × β)} {i : Int} {q : β} (g : Grow L S0 H0 S H) (cl : Cel L H0 S H l (.dK kvs)) (r : KR vf kvs x) (ho : Val ta σ H (.ref l)) (hi : Val tb σ H (.int i)) (hz : x.length < 16777216)
    (k : ∀ kvs' H', Grow L S0 H0 S H' → Cel L H0 S H' l (.dK kvs') → KR vf kvs' (putD x i q) → (∀ l' o', l' ≠ l → Cel L H0 S H l' o' → Cel L H0 S H' l' o') → tu D σ H') : gSub ta tb rSetD (vf q) σ H (tu D) :=
  ho _ (hi _ ⟨l, _, rfl, DPut.k (k := .inl i) cl.h (by rw [r.length]; show _ < sizeLine; rw [sizeLine_eq]; exact hz), k _ _ (g.wr cl rfl) (cl.wr rfl) (r.put i q) fun l' o' n c => c.wrn n⟩)
theorem c_skE (h : ∀ Q' : VK, Q' = Q → tSortKeys te σ H Q') : tSortKeys te σ H Q := h _ rfl
theorem l_sortKeys {vf : β → V} {l : Addr} {kvs : List (Key × V)} {x : List (Int × β)} (ha : Val te σ H (.ref l)) (cl : Cel L H0 S H l (.dK kvs)) (r : KR vf kvs x) (k : ∀ p ws H', Same H H' → H p = none → H' p = some (.lst ws) → RL (K := K) qI S ws (sortI (x.map (·.1))) → Q (.ref p) H') : tSortKeys te σ H Q :=
  ha _ ⟨l, kvs, x.map (·.1), rfl, cl.h, r.keys, fun zs p h1 h2 hp => by
    have s1 : SrtO.Srtd ltI zs := h2.imp fun h => decide_eq_false (by omega)
    have : zs = sortI (x.map (·.1)) := srt_uniq ltI_tot (h1.trans (sortB_perm _).symm) s1 (sortB_srt ltI_asy ltI_tr _)
    subst this
    exact k p _ _ (same_upd hp) hp upd_same (RL.map V.int (fun _ => rfl) _)⟩
end
end Z

namespace Z
open PySem PySem.Spec PyProof.Rows L2
/-! ### texts -/
section
variable {K : PySem.W.Frag} {σ : L2.St} {S H S0 H0 : Hp} {L : List Addr} {ta tb te : TE} {Q : VK} {v : V} {D : Ends} {tu : TS}
def chS (s : Str) (i : Int) : Option Str := (L2.atI s.cps.toList i).map fun c => ⟨#[c]⟩
theorem v_chr {s c : Str} {i : Int} (ha : Val ta σ H (.str s)) (hb : Val tb σ H (.int i)) (hz : s.length ≤ 16777216) (he : chS s i = some c) : Val (tOp rIxS ta tb) σ H (.str c) := fun Q q => by
  unfold chS at he
  obtain ⟨n, e1, rfl⟩ := Option.map_eq_some_iff.mp he
  exact ha _ (hb _ ⟨s, i, n, rfl, rfl, hz, e1, q⟩)
@[irreducible] def inS (a b : Str) : Bool := !(Builtin.Str.occurrences b a 0 b.length 1).isEmpty
def rInT : R2 := fun x y H Q => ∃ i j, x = .str i ∧ y = .str j ∧ Q (.bl (!(Builtin.Str.occurrences j i 0 j.length 1).isEmpty)) H
def rNinT : R2 := fun x y H Q => ∃ i j, x = .str i ∧ y = .str j ∧ Q (.bl (!(!(Builtin.Str.occurrences j i 0 j.length 1).isEmpty))) H
theorem op_inT {X : Cx} : OpR X (compareOp .In) rInT := op_in_str
theorem op_ninT {X : Cx} : OpR X (compareOp .NotIn) rNinT := op_notin_str
theorem v_inS {a b : Str} (ha : Val ta σ H (.str a)) (hb : Val tb σ H (.str b)) : Val (tOp rInT ta tb) σ H (.bl (inS a b)) := fun Q q => ha _ (hb _ ⟨a, b, rfl, rfl, by unfold inS at q; exact q⟩)
theorem v_ninS {a b : Str} (ha : Val ta σ H (.str a)) (hb : Val tb σ H (.str b)) : Val (tOp rNinT ta tb) σ H (.bl (!(inS a b))) := fun Q q => ha _ (hb _ ⟨a, b, rfl, rfl, by unfold inS at q; exact q⟩)
theorem v_cutS {s : Str} {tl th : TO} {lo hi : Option Int} (ha : Val te σ H (.str s)) (hl : ∀ q : Option Int → Hp → Prop, q lo H → tl σ H q) (hh : ∀ q : Option Int → Hp → Prop, q hi H → th σ H q) (hz : s.length ≤ 16777216) :
    Val (tSl rSlS te tl th) σ H (.str (cutS s lo hi)) := fun Q q => c_slice ha hl hh ⟨s, rfl, hz, q⟩
def gStr (i : Int) : Prop := i.natAbs < 1073741824
instance (i : Int) : Decidable (gStr i) := by unfold gStr; infer_instance
def strI (i : Int) : Str := (toString i : String)
theorem v_strI {i : Int} (ha : Val ta σ H (.int i)) (hz : gStr i) : Val (tCB (fun xs H Q => ∃ i, xs = [.int i] ∧ i.natAbs.log2 < 1920 ∧ Q (.str (toString i)) H) (tCons ta tNil)) σ H (.str (strI i)) := fun Q q => ha _ ⟨i, rfl, by
  unfold gStr at hz
  by_cases h0 : i.natAbs = 0
  · rw [h0]; decide
  · have := Nat.log2_lt (n := i.natAbs) (k := 30) h0
    have h2 : i.natAbs.log2 < 30 := this.mpr hz
    omega, q⟩
/-! a text's sgs -/
def sgs (x : Str) : List Str := x.cps.toList.map fun c => ⟨#[c]⟩
theorem z_forS {x : Str} {te : TE} {g : TG} {tb : TS} (ha : Val te σ H (.str x)) (Pv : List Str → L2.St → Hp → Prop) (h0 : Pv (sgs x) σ H)
    (hs : ∀ y ys σ' H', Pv (y :: ys) σ' H' → ∀ N : L2.St → Hp → Prop, (∀ σ'' H'', Pv ys σ'' H'' → N σ'' H'') → g (.str y) σ' H' fun σ2 H2 => tb { D with nx := N, ct := N, bk := tu D } σ2 H2) (hd : ∀ σ' H', Pv [] σ' H' → tu D σ' H') :
    tSeq (tFor (iStr te) g tb) tu D σ H := ha _ ⟨x, rfl, by
  refine ⟨fun i m σ H => i ≤ x.cps.size ∧ m = x.cps.size - i ∧ Pv ((sgs x).drop i) σ H, ⟨_, Nat.zero_le _, rfl, h0⟩, fun i m σ H h => ?_⟩
  obtain ⟨hi, rfl, hp⟩ := h
  have hl : (sgs x).length = x.cps.size := by unfold sgs; rw [List.length_map, Array.length_toList]
  by_cases hc : i < x.cps.size
  · refine .inr ⟨hc, fun σ' H' => Pv ((sgs x).drop (i + 1)) σ' H', fun σ' H' q => ⟨x.cps.size - (i + 1), by omega, by omega, rfl, q⟩, fun v H' hy => ?_⟩
    obtain ⟨rfl, c, ec, rfl⟩ := hy
    have e : (sgs x).drop i = (⟨#[c]⟩ : Str) :: (sgs x).drop (i + 1) := by
      rw [List.drop_eq_getElem_cons (by rw [hl]; exact hc)]
      congr 1
      unfold sgs
      rw [List.getElem_map, Array.getElem_toList]
      rw [Array.getElem?_eq_getElem hc] at ec
      rw [Option.some.inj ec]
    rw [e] at hp
    exact hs _ _ σ H' hp _ fun σ'' H'' z => z
  · refine .inl ⟨by show x.cps.size ≤ i; omega, ?_⟩
    rw [List.drop_eq_nil_of_le (by omega)] at hp
    exact hd _ _ hp⟩
/-! x in a new tuple of texts -/
theorem inV_str (x : Str) : ∀ ys : List Str, inV (.str x) (ys.map V.str) = ys.any fun y => decide (y = x)
  | [] => rfl
  | y :: ys => by
    show (y == x || inV (.str x) (ys.map V.str)) = _
    rw [inV_str x ys, List.any_cons]
    congr 1
theorem e_inTS {x : Str} {p : Addr} {ys : List Str} (h : H p = some (.tup (ys.map V.str))) (q : Q (.bl (ys.any fun y => decide (y = x))) H) : rIn K false (.str x) (.ref p) H Q :=
  ⟨p, _, rfl, .inr (SqT.of h), rfl, by rw [List.all_map]; exact List.all_eq_true.mpr fun _ _ => rfl, by
    show Q (.bl (inV _ _)) H
    rw [inV_str]; exact q⟩
end
end Z
namespace Z
open PySem PySem.Spec PyProof.Rows L2
/-! ### enumerate(text) -/
theorem draws_str {prog : Program} {w : World} {A : Around} (hh : A.handled = none) (it : Addr) (x : Str) (t : Tok) :
    Draws prog w A it [it] x.cps.size (fun i v => ∃ c u, x.cps[i]? = some c ∧ v = .str ⟨#[c]⟩ u) (fun i h => h.IsStrIter it (strIterType x) x t i) := by
  unfold strIterType
  split
  · exact Draws.strAscii hh it x t
  · exact Draws.strWide hh it x t
def Iten (x : Str) : It :=
  ⟨fun i _ => i < x.cps.size, fun i H v H' => ∃ T c, v = .ref T ∧ H T = none ∧ H' = upd H T (.tup [.int (i : Nat), .str ⟨#[c]⟩]) ∧ x.cps[i]? = some c, fun i _ => x.cps.size ≤ i⟩
theorem turn_enumS {P : Program} {w : World} {K : PySem.W.Frag} {elts : List Expr} {kk : Nat} {tpos : Pos} (x : Str) (t : Tok) (e it : Addr) :
    Turn P w K (.Tuple elts kk tpos) (Iten x) [e, it] e (fun i h => (∃ old, IsEnum h e it ((i : Nat) : Int) old) ∧ h.IsStrIter it (strIterType x) x t i ∧ e ≠ it ∧ i ≤ x.cps.size) where
  mem := by simp
  obj := fun i h st b hb => by
    obtain ⟨⟨old, he⟩, ⟨o, ho, hc, hd⟩, _⟩ := st
    have e' : b = e ∨ b = it := by simpa using hb
    rcases e' with z | z
    · rw [z]; exact ⟨_, he, fun v q => nomatch q⟩
    · rw [z]; exact ⟨o, ho, fun v q => by rw [hd] at q; cases q⟩
  keep := fun i h h' st k => let ⟨⟨old, he⟩, ⟨o, ho, r⟩, hne⟩ := st; ⟨⟨old, k e (by simp) _ he⟩, ⟨o, k it (by simp) o ho, r⟩, hne⟩
  item := by
    intro X hP hw hK hc i pins s σ H E I hf st hg
    subst hP hw hK
    obtain ⟨⟨old, he⟩, hit, hne, hsz0⟩ := st
    have hel : e < s.heap.objs.size := Heap.lt_size he
    have hil : it < s.heap.objs.size := by obtain ⟨_, q, _⟩ := hit; exact Heap.lt_size q
    refine wpAny_pyNext_enum_itemD (draws_str (show X.A.in1.handled = none from I.ok.hd hc) it x t) he hit hg hne (by simp [hne]) fun v h' tk hv ho hit' hT hsz hk => ?_
    obtain ⟨c, u, hcx, rfl⟩ := hv
    refine ⟨_, rfl, wpAny_letOwnedTupleGo_enum (s := { s with heap := h', toks := tk + 1 }) ho fun h'' he' sb => ?_⟩
    have hT2 : h''.get? s.heap.objs.size = some { cls := .type "tuple", data := .seq #[.int i tk, .str ⟨#[c]⟩ u] } := (sb.2 _ (Nat.ne_of_gt hel)).trans hT
    have new : ObjOk X.prog X.w (upd H s.heap.objs.size (.tup [.int (i : Nat), .str ⟨#[c]⟩])) h'' s.heap.objs.size (.tup [.int (i : Nat), .str ⟨#[c]⟩]) :=
      ⟨by show 2 ≤ sizeLine; decide, [.int i tk, .str ⟨#[c]⟩ u], .cons ⟨_, rfl⟩ (.cons ⟨_, rfl⟩ .nil), ⟨_, hT2, rfl, _, rfl⟩⟩
    have I1 : Inv X pins σ (upd H s.heap.objs.size (.tup [.int (i : Nat), .str ⟨#[c]⟩])) { s with heap := h'', toks := tk + 1 } :=
      I.turnedNew (ch := [e, it]) (fun b ob hb q => (sb.2 b (fun z => hb (by simp [z]))).trans (hk b ob (fun z => hb (by simp [z])) (fun z => hb (by simp [z])) q)) hf (Nat.le_refl _) new
    have hit2 : h''.IsStrIter it (strIterType x) x t (i + 1) := by
      obtain ⟨o, q1, q2⟩ := hit'
      exact ⟨o, (sb.2 it (Ne.symm hne)).trans q1, q2⟩
    refine ⟨.ref s.heap.objs.size, _, I1, rfl, ⟨_, c, rfl, I.hok.fresh (Nat.le_refl _), rfl, hcx⟩, ⟨⟨Value.str ⟨#[c]⟩ u, ?_⟩, hit2, hne, hg⟩, fun b hb => ?_⟩
    · have e1 : ((i + 1 : Nat) : Int) = (i : Int) + 1 := by omega
      rw [e1]; exact he'
    · have hb' : b < s.heap.objs.size := by
        have e' : b = e ∨ b = it := by simpa using hb
        rcases e' with z | z
        · rw [z]; exact hel
        · rw [z]; exact hil
      rw [upd_ne (Nat.ne_of_lt hb')]
      exact (hf b hb).1
  done := by
    intro X hP hw hK hc i pins s σ H E I hf st hg
    subst hP hw hK
    obtain ⟨⟨old, he⟩, hit, hne, hsz0⟩ := st
    obtain ⟨f0, f1, f2, f3, f4, f5⟩ := hf it (by simp)
    obtain rfl : i = x.cps.size := Nat.le_antisymm hsz0 hg
    exact wpAny_pyNext_enum_endD (draws_str (show X.A.in1.handled = none from I.ok.hd hc) it x t) he hit fun h' eb => ⟨rfl, I.turned (t' := s.toks) (fun b o hb q => eb b o hb q) f0 f1 f3 f4 f5⟩
  self := fun A i s Q E st h => let ⟨⟨_, he⟩, _⟩ := st; wpAny_pyIter_enum he h
def iEnumS (ta : TA) : TI := fun σ H R => ta σ H fun vs H1 => ∃ x, vs = [.str x] ∧ R (Iten x) H1
theorem pi_enumS {X : Cx} {e : Expr} {ta : TA} {p pos tpos : Pos} {elts : List Expr} {kk : Nat} (hg : Gl X "enumerate") (hm : X.mg "enumerate" = none) (ha : PA X [e] ta) (hs : starEach [e] X.env = [(false, eval e X.env)] := by rfl) :
    PI X (.Tuple elts kk tpos) (.Call (.Name "enumerate" p) [e] [] pos) (iEnumS ta) := by
  refine ⟨fun pins s σ H R I h => ?_⟩
  refine Call_ (ld_blt I hg hm boot_enumerate (PyProof.Rows.callWith_type1 (thn (ha.run pos pins s σ H _ I h) fun us s1 ⟨vs, H1, I1, r1, q1⟩ => ?_) hs rfl))
  obtain ⟨x, ex, q⟩ := q1
  subst ex
  cases r1 with
  | cons r rr =>
    cases rr
    obtain ⟨t, rfl⟩ := r
    refine call_enumerate_str fun h' he hit hsz hk => wpAny_pyIter_enum he ?_
    have I2 : Inv X pins σ H1 { s1 with heap := h' } := I1.kept (t' := s1.toks) hk
    refine ⟨s1.heap.objs.size + 1, [s1.heap.objs.size + 1, s1.heap.objs.size], _, _, H1, rfl, I2, turn_enumS x t (s1.heap.objs.size + 1) s1.heap.objs.size, ⟨⟨.none, he⟩, hit, Nat.succ_ne_self _, Nat.zero_le _⟩, fun b hb => ?_, q⟩
    have e' : b = s1.heap.objs.size + 1 ∨ b = s1.heap.objs.size := by simpa using hb
    have hle : s1.heap.objs.size ≤ b := by
      rcases e' with z | z
      · rw [z]; exact Nat.le_add_right _ _
      · rw [z]; exact Nat.le_refl _
    exact I1.fpOk hle (I1.hok.fresh hle)
section
variable {K : PySem.W.Frag} {σ : L2.St} {H : Hp} {te : TE} {D : Ends} {tu : TS}
theorem z_forNS {x : Str} {g : TG} {tb : TS} (ha : Val te σ H (.str x)) (Pv : List (Int × Str) → L2.St → Hp → Prop) (h0 : Pv (enumI (sgs x)) σ H)
    (hs : ∀ (y : Int × Str) ys σ' H', Pv (y :: ys) σ' H' → ∀ N : L2.St → Hp → Prop, (∀ σ'' H'', Pv ys σ'' H'' → N σ'' H'') → ∀ t, H' t = none → g (.ref t) σ' (upd H' t (.tup [.int y.1, .str y.2])) fun σ2 H2 => tb { D with nx := N, ct := N, bk := tu D } σ2 H2) (hd : ∀ σ' H', Pv [] σ' H' → tu D σ' H') :
    tSeq (tFor (iEnumS (tCons te tNil)) g tb) tu D σ H := ha _ ⟨x, rfl, by
  have hl : (sgs x).length = x.cps.size := by unfold sgs; rw [List.length_map, Array.length_toList]
  refine ⟨fun i m σ H => i ≤ x.cps.size ∧ m = x.cps.size - i ∧ Pv ((enumI (sgs x)).drop i) σ H, ⟨_, Nat.zero_le _, rfl, h0⟩, fun i m σ H h => ?_⟩
  obtain ⟨hi, rfl, hp⟩ := h
  by_cases hc : i < x.cps.size
  · refine .inr ⟨hc, fun σ' H' => Pv ((enumI (sgs x)).drop (i + 1)) σ' H', fun σ' H' q => ⟨x.cps.size - (i + 1), by omega, by omega, rfl, q⟩, fun v H' hy => ?_⟩
    obtain ⟨T, c, rfl, hT, rfl, ec⟩ := hy
    have e2 : (enumI (sgs x))[i]? = some ((i : Int), (⟨#[c]⟩ : Str)) := by
      have := enumF_get (sgs x) 0 i ⟨#[c]⟩ (by
        unfold sgs
        rw [List.getElem?_map, Array.getElem?_toList, ec]; rfl)
      rw [Nat.zero_add] at this
      exact this
    have e3 : (enumI (sgs x)).drop i = ((i : Int), (⟨#[c]⟩ : Str)) :: (enumI (sgs x)).drop (i + 1) := by
      obtain ⟨h1, h2⟩ := List.getElem?_eq_some_iff.mp e2
      rw [List.drop_eq_getElem_cons h1, h2]
    rw [e3] at hp
    exact hs _ _ σ H hp _ (fun _ _ z => z) T hT
  · refine .inl ⟨by show x.cps.size ≤ i; omega, ?_⟩
    rw [List.drop_eq_nil_of_le (by unfold enumI; rw [enumF_len]; omega)] at hp
    exact hd _ _ hp⟩
end
end Z
namespace Z
open PySem PySem.Spec PyProof.Rows L2
/-! ### a list and an empty one: ==, whatever the items are -/
def rEqE (K : PySem.W.Frag) : R2 := fun x y H Q => ∃ (p q : Addr) (xs ys : List V), x = .ref p ∧ y = .ref q ∧ SqL K H p xs ∧ SqL K H q ys ∧ ys.length = 0 ∧ Q (.bl (decide (xs.length = 0))) H
theorem op_eqE {X : Cx} (hu : X.A.units < cLine) : OpR X (compareOp .Eq) (rEqE X.K) := by
  intro pins s σ H x y v u Q I rx ry h
  obtain ⟨p, q, xs, ys, rfl, rfl, h1, h2, h3, k⟩ := h
  cases rx
  cases ry
  obtain ⟨is1, r1, p1, z1⟩ := I.list h1
  obtain ⟨is2, r2, p2, z2⟩ := I.list h2
  have l1 := r1.length
  have l2 := r2.length
  by_cases e : xs.length = 0
  · rw [decide_eq_true e] at k
    refine SeqAt.eq_listAt (e := fun _ => true) p1.isList p2.isList (by simp; omega) hu (fun j hj1 hj2 => absurd hj2 (by simp; omega)) ⟨.bl true, H, I, ?_, k⟩
    rw [show (List.range is1.toArray.size).all (fun _ => true) = true from List.all_eq_true.mpr fun _ _ => rfl]
    rfl
  · rw [decide_eq_false e] at k
    exact SeqAt.eq_list_lengthsAt p1.isList p2.isList (by simp; omega) hu ⟨.bl false, H, I, rfl, k⟩
section
variable {K : PySem.W.Frag} {σ : L2.St} {H : Hp} {ta tb te : TE} {Q : VK} {x y v : V} {α β : Type} {τ : Rep K α} {υ : Rep K β}
theorem e_eqE {xs : List α} {ys : List β} (h1 : (qQ τ).R H x xs) (h2 : (qQ υ).R H y ys) (hz : ys.length = 0) (q : Q (.bl (decide (xs.length = 0))) H) : rEqE K x y H Q := by
  obtain ⟨a, ws, rfl, h3, h4⟩ := h1
  obtain ⟨b, us, rfl, h5, h6⟩ := h2
  exact ⟨a, b, ws, us, rfl, rfl, h3, h5, by rw [h6.length]; exact hz, by rw [h4.length]; exact q⟩
def gJoin (s : Str) (xs : List Str) : Prop := (xs.map (·.length)).sum + xs.length * s.length ≤ 16777216
instance (s : Str) (xs : List Str) : Decidable (gJoin s xs) := by unfold gJoin; infer_instance
theorem strs_of {xs : List Str} : ∀ {ws : List V}, RL (K := K) qS H ws xs → ws = xs.map V.str := fun h => RL.eqmap V.str (fun _ _ q => q) h
def rJoin (K : PySem.W.Frag) : V → List V → Hp → VK → Prop := fun x xs H Q => ∃ a p, ∃ ys : List Str, x = .str a ∧ xs = [.ref p] ∧ (SqL K H p (ys.map V.str) ∨ SqT K H p (ys.map V.str)) ∧
      (ys.map (·.length)).sum + ys.length * a.length ≤ 16777216 ∧ Q (.str (Txt.join a ys)) H
theorem v_join {s : Str} {xs : List Str} (ha : Val ta σ H (.str s)) (hb : Val tb σ H v) (hr : (qQ (K := K) qS).R H v xs) (hz : gJoin s xs) : Val (tM1 (rJoin K) ta tb) σ H (.str (Txt.join s xs)) := fun Q q => by
  obtain ⟨a, ws, rfl, h3, h4⟩ := hr
  exact ha _ ⟨⟨_, rfl⟩, hb _ ⟨s, a, xs, rfl, rfl, .inl (by rw [← strs_of h4]; exact h3), hz, q⟩⟩
theorem c_methE {C : Addr} {m : Str} {sp : Sp} {dvs : List V} {E : XK} {t : TA} (h : ta σ H fun x H1 => tMeth C m sp dvs E (tC x) t σ H1 Q) : tMeth C m sp dvs E ta t σ H Q := h
end
end Z

namespace Z
open PySem PySem.Spec PyProof.Rows L2
/-! ### walks over range(e), e with effects -/
section
variable {K : PySem.W.Frag} {σ : L2.St} {S H S0 H0 : Hp} {L : List Addr} {ta tb te : TE} {Q : VK} {v : V} {D : Ends} {tu : TS}
def kTA (us : List V) : TA := fun _ H q => q us H
theorem va_k {us : List V} : VA (kTA us) σ H us := fun _ q => q
theorem z_rng1E {tr : TA} {g : TG} {tb : TS} (h : tr σ H fun us H1 => tSeq (tFor (iRng1 (kTA us)) g tb) tu D σ H1) : tSeq (tFor (iRng1 tr) g tb) tu D σ H := h
theorem c_lcR1E {tr : TA} {g : TG} {tt : TT} {vs : List Nat} (h : tr σ H fun us H1 => tLc (iRng1 (kTA us)) g tt te vs σ H1 Q) : tLc (iRng1 tr) g tt te vs σ H Q := h
theorem OP.pr2 {α β γ : Type} {k : α → β → Option γ} {a : α} {b : β} {A : γ → Prop} (h : OP (Z.lt (a, b).1 fun x => Z.lt (a, b).2 fun y => k x y) A) : OP (k a b) A := h
/-- list(range(n)) -/
def gRg (n : Int) : Prop := 0 ≤ n ∧ n ≤ 16777216
instance (n : Int) : Decidable (gRg n) := by unfold gRg; infer_instance
theorem l_listRg {n : Int} (ha : Val te σ H (.int n)) (hj : gRg n) (k : ∀ p ws H', Same H H' → H p = none → H' p = some (.lst ws) → RL (K := K) qI S ws (rangeI 0 n.toNat) → Q (.ref p) H') : tLstRg (tRg1 te) σ H Q :=
  ha _ ⟨n, rfl, .of_le (by decide) hj.2 (by decide) hj.1, fun p hp => k p _ _ (same_upd hp) hp upd_same (by
    have e : rgV 0 n = (rangeI 0 n.toNat).map V.int := by
      unfold rgV rangeI
      rw [List.map_map, Int.sub_zero]; rfl
    rw [e]
    exact RL.map V.int (fun _ => rfl) _)⟩
theorem c_rgE (h : ∀ Q' : VK, Q' = Q → te σ H Q') : te σ H Q := h _ rfl
/-- xs.pop(i) -/
def gIx (i : Int) : Prop := -(2 ^ 63) ≤ i ∧ i < 2 ^ 63
instance (i : Int) : Decidable (gIx i) := by unfold gIx; infer_instance
def popI {α : Type} (xs : List α) (i : Int) : Option (α × List α) := (seqIndex? i xs.length).bind fun k => (xs[k]?).map fun y => (y, xs.eraseIdx k)
theorem RL.erase {α : Type} {τ : Rep K α} : ∀ {ws : List V} {xs : List α} (_ : RL τ S ws xs) (k : Nat), RL τ S (ws.eraseIdx k) (xs.eraseIdx k)
  | _, _, .nil, _ => .nil
  | _, _, .cons _ b, 0 => b
  | _, _, .cons a b, k + 1 => .cons a (RL.erase b k)
theorem c_popAt {α : Type} {τ : Rep K α} {l : Addr} {ws : List V} {xs : List α} {r : α × List α} {i : Int} (g : Grow L S0 H0 S H) (cl : Cel L H0 S H l (.lst ws)) (h : RL τ S ws xs) (hi : gIx i) (he : popI xs i = some r)
    (k : ∀ w, τ.R S w r.1 → ∀ ws' H', Grow L S0 H0 S H' → Cel L H0 S H' l (.lst ws') → RL τ S ws' r.2 → (∀ l' o', l' ≠ l → Cel L H0 S H l' o' → Cel L H0 S H' l' o') → Q w H') : rPopAt (.ref l) [.int i] H Q := by
  unfold popI at he
  obtain ⟨j, ej, h2⟩ := Option.bind_eq_some_iff.mp he
  obtain ⟨y, ey, rfl⟩ := Option.map_eq_some_iff.mp h2
  obtain ⟨w, ew, rw_⟩ := h.get ey
  exact ⟨l, ws, i, j, w, rfl, rfl, cl.h, hi.1, hi.2, by rw [h.length]; exact ej, ew, k w rw_ _ _ (g.wr cl rfl) (cl.wr rfl) (RL.erase h j) fun l' o' n c => c.wrn n⟩
/-- an item of a list whose items are known -/
theorem v_ixl {l : Addr} {ws : List V} {w : V} {i : Int} (hl : H l = some (.lst ws)) (hx : L2.atI ws i = some w) (ha : Val ta σ H (.ref l)) (hb : Val tb σ H (.int i)) : Val (tOp (rIxL K) ta tb) σ H w :=
  fun Q q => ha _ (hb _ ⟨l, ws, i, w, rfl, rfl, SqL.of hl, hx, q⟩)
end
end Z
namespace Z
open PySem PySem.Spec PyProof.Rows L2
section
variable {K : PySem.W.Frag} {σ : L2.St} {S H S0 H0 : Hp} {L : List Addr} {ta tb te : TE} {Q : VK} {v : V}
/-! rows of a list of lists -/
theorem v_lenRow {n : Int} (ha : Val ta σ H v) (h : ∃ (l : Addr) (ws : List V), v = .ref l ∧ H l = some (.lst ws) ∧ (ws.length : Int) = n) : Val (tCB (rLenS K) (tCons ta tNil)) σ H (.int n) := fun Q q => by
  obtain ⟨l, ws, rfl, h1, rfl⟩ := h
  exact ha _ ⟨l, ws, rfl, .inl (SqL.of h1), q⟩
theorem lenRow {α : Type} {τ : Rep K α} {l : Addr} {ws : List V} {xs : List α} (h : H l = some (.lst ws)) (r : RL τ S ws xs) : ∃ (l' : Addr) (ws' : List V), (V.ref l) = .ref l' ∧ H l' = some (.lst ws') ∧ (ws'.length : Int) = (xs.length : Int) := ⟨l, ws, rfl, h, by rw [r.length]⟩
theorem c_clearR {l : Addr} {ws : List V} (ha : Val ta σ H (.ref l)) (h : H l = some (.lst ws)) (q : Q .non (upd H l (.lst []))) : tBM0 K "list" rClear ta σ H Q := ha _ ⟨tyL h, l, ws, rfl, rfl, h, q⟩
theorem eqsL : ∀ ws : List V, Paired (fun (a b : V) => a = b) ws ws
  | [] => .nil
  | _ :: ws => .cons rfl (eqsL ws)
end
end Z

namespace Z
open PySem PySem.Spec PyProof.Rows L2
/-! ### the error that is handled, handed to a def of one's own -/
/-- called with the handled error (of class D) alone, the def answers what its mirror answers -/
structure FnE (P : Program) (w : World) (K : PySem.W.Frag) (mg : Str → Option Value) (base : Heap) (k : Nat) (f : Addr) (fd : FuncData) (pn : Str) (D : Addr) (mir : Option Bool) : Prop where
  run : ∀ (A : Around) (outer : List Env) (s : Shared) (H : Hp) (args : Args) (Q : VK) (E : XK) (a : Addr) (oe : Obj), L2H.RoomH k A → L2H.PinOk outer H s (a, oe) → Zc (.ref D) none oe → (∃ vs, oe.data = .fields vs) →
    Env0 P w K mg base A outer s H → BindsTo s fd args ([pn].zip [.ref a]) → (∃ S, Same S H ∧ OP mir fun r => ∀ S' H', Grow [] S H S' H' → Q (.bl r) H') → codeAny (model P w) A (.call (.ref f) args) (CR CX0 outer P w H s Q E) s
theorem FnE.mono {P : Program} {w : World} {K : PySem.W.Frag} {mg : Str → Option Value} {base : Heap} {j k : Nat} {f : Addr} {fd : FuncData} {pn : Str} {D : Addr} {mir : Option Bool} (F : FnE P w K mg base j f fd pn D mir) (h : j ≤ k) : FnE P w K mg base k f fd pn D mir :=
  ⟨fun A outer s H args Q E a oe hr => F.run A outer s H args Q E a oe (hr.mono h)⟩
theorem fnE_of {P : Program} {w : World} {K : PySem.W.Frag} {mg : Str → Option Value} {base : Heap} {x qual : Str} {st : Stmt} {f : Addr} {fd : FuncData} {N : List Str} {pn : Str} {k : Nat} {D : Addr} {mir : Option Bool} (F : Fun K x qual st f fd) (S : FnScope N [pn] (defScope st))
    (hbody : ∀ (cdv : Value) (A : Around) (outer : List Env) (s : Shared) (H : Hp) (Q : VK) (E : XK) (a : Addr) (oe : Obj) (S0 : Hp), Zc (.ref D) none oe → (∃ vs, oe.data = .fields vs) → Same S0 H → OP mir (fun r => ∀ S' H', Grow [] S0 H S' H' → Q (.bl r) H') →
      ∃ t, PSs (L2H.cxH CX0 P w K mg base N qual (defScope st) f cdv A outer s H E (a, oe)).nox (defBody st) t ∧ t { nx := fun _ H' => Q .non H', rt := Q } (start N [.ref a]) H) : FnE P w K mg base (k + 1) f fd pn D mir := ⟨by
  intro A outer s H args Q E a oe hr pin hz hf e0 hb hm
  obtain ⟨S0, hS, ho⟩ := hm
  obtain ⟨oc, od, kV, doc, pm, an, cdv, ct, osl, rfl, lk, hcd⟩ := F.ex
  have kin := e0.mod.kin.keeps fun b o q => (e0.bs b o q).1
  have kinds : ∀ y ∈ [pn].zip [Value.ref a], (defScope st).names.lookup y.1 = some .local ∨ ((defScope st).names.lookup y.1 = some .cell ∧ ((cellsFrom (s.heap.objs.size + 1) (defScope st).names []).lookup y.1).isSome = true) := by
    rintro ⟨n, v⟩ hy
    exact (S.par n (List.of_mem_zip hy).1).imp id fun q => ⟨q, PySem.W.cellsFrom_some _ _ _ (.inl q)⟩
  refine codeAny_call_function hr.depth (kin _ _ lk) rfl S.co S.gen rfl (PySem.W.codeRec_of kin hcd) (hb _ _ _ _ (wpAny_newFunctionEnv_cells S.kind kinds fun env he s1 x => ?_))
  subst he
  obtain ⟨t, ht, hq⟩ := hbody cdv A outer s H Q E a oe S0 hz hf hS ho
  refine ⟨(e0.mod.nolimit.keeps fun b o q => (e0.bs b o q).1).keeps x.toInCall.keep, codeAny_func (wpAny_mono (ht.nox.run [] s1 (start N [.ref a]) H _ (L2H.inv_startH (E := E) S pin e0 rfl (.cons rfl .nil) x) hq) (fun fl s' hs => ?_) fun _ _ z => z)⟩
  cases fl with
  | ret u =>
    obtain ⟨v, σ', H', J, rv, q⟩ := hs
    exact ⟨v, H', J.os, J.bare, J.base, J.hok, rv, q⟩
  | next =>
    obtain ⟨σ', H', J, q⟩ := hs
    exact ⟨V.non, H', J.os, J.bare, J.base, J.hok, rfl, q⟩
  | brk => exact hs.elim fun _ z => z.elim fun _ z => z.2.elim
  | cont => exact hs.elim fun _ z => z.elim fun _ z => z.2.elim⟩
/-- such a call -/
def tCallE (mir : Option Bool) (a D : Addr) (cls : Value) (d : Option Addr) (t : TA) : TE := fun σ H Q => t σ H fun vs H1 => vs = [.ref a] ∧ cls = .ref D ∧ d = none ∧ ∃ S, Same S H1 ∧ OP mir fun r => ∀ S' H', Grow [] S H1 S' H' → Q (.bl r) H'
theorem pe_callE {X : Cx} {k : Nat} {f D a : Addr} {cls : Value} {d : Option Addr} {oe : Obj} {fd : FuncData} {pn x : Str} {mir : Option Bool} {q pos : Pos} {e : Expr} {t : TA} (F : FnE X.prog X.w X.K X.mg X.base k f fd pn D mir) (hr : L2H.RoomH k X.A) (hp : (a, oe) ∈ X.pn) (hz : Zc cls d oe) (hf : ∃ vs, oe.data = .fields vs)
    (hg : Gl X x) (hm : X.mg x = some (.ref f)) (hk : PySem.W.keepIn X.K (.ref f) = true) (hb : Binds X.K fd [pn] []) (ha : PA X [e] t) (hdb : (x == ("__debug__" : Str)) = false := by decide) (he : starEach [e] X.env = (false, eval e X.env) :: starEach [] X.env := by rfl) (hpl : (backTo pos (starEach [] X.env)).any (·.1) = false := by rfl) :
    PE X (.Call (.Name x q) [e] [] pos) (tCallE mir a D cls d t) := ⟨fun pins s σ H Q I h =>
  wpAny_Call_Name_kw (ld_glob I hg hm (PySem.W.callWith_K (h₀ := X.base) I.ok.mod.kin hk (thn (ha.run pos pins s σ H _ I h) fun us s1 ⟨vs, H1, J, r, ev, ec, ed, h2⟩ => ⟨J.kIn, by
    subst ev ec ed
    cases r with
    | cons r0 rr =>
      cases rr
      cases (show _ = Value.ref a from r0)
      have P1 := J.pin (a, oe) (List.mem_append_left _ hp)
      refine wpAny_call (codeAny_mono (F.run X.A X.stack s1 H1 ⟨[.ref a], []⟩ Q (fun _ _ _ => False) a oe hr ⟨P1.1, P1.2.1, fun hm2 => (List.mem_cons.mp (J.stkSub a hm2)).elim P1.2.2.1 P1.2.2.2.1, P1.2.2.2.2⟩ hz hf J.env0 (hb s1 [.ref a] J.kIn rfl) h2) fun res s' hq => ?_)
      cases res with
      | error e1 => exact absurd hq (by exact fun z => z)
      | ok fl =>
        cases fl with
        | ret u => exact J.after hq
        | next => exact hq.elim
        | brk => exact hq.elim
        | cont => exact hq.elim⟩) he hpl) hdb)⟩
section
variable {K : PySem.W.Frag} {σ : L2.St} {S H : Hp} {ta : TE} {a D : Addr} {mir : Option Bool} {Q : VK}
theorem c_callE (ha : Val ta σ H (.ref a)) (e : Same S H) (h : OP mir fun r => ∀ S' H', Grow [] S H S' H' → Q (.bl r) H') : tCallE mir a D (.ref D) none (tCons ta tNil) σ H Q := ha _ ⟨rfl, rfl, rfl, S, e, h⟩
end
/-- isinstance of the handled error, wherever its place is known -/
theorem pinX {X : Cx} {a D : Addr} {oe : Obj} {pins : List (Addr × Obj)} {σ : L2.St} {H : Hp} {s : Shared} (hp : (a, oe) ∈ X.pn) (I : Inv X pins σ H s) (hz : Zc (.ref D) none oe) (hf : ∃ vs, oe.data = .fields vs) : PySem.W.InstAt s.heap a oe D none := by
  obtain ⟨gt, _⟩ := I.pin (a, oe) (List.mem_append_left _ hp)
  obtain ⟨vs, hv⟩ := hf
  obtain ⟨c1, c2, c3, c4⟩ := oe
  obtain ⟨z1, z2⟩ := hz
  dsimp only at z1 z2 hv
  subst z1 z2 hv
  exact ⟨gt, rfl, rfl, trivial⟩
theorem call_isETX {X : Cx} {a : Addr} {cls : Value} {d : Option Addr} {oe : Obj} (hp : (a, oe) ∈ X.pn) (hz : Zc cls d oe) (hf : ∃ vs, oe.data = .fields vs) : CallR X (.builtin "isinstance") (rIsET X.K cls d a) := fun pins s σ H xs us Q I r h => by
  obtain ⟨D, tp, cs, ws, b, rfl, rfl, C, rfl, hT, k, e, q⟩ := h
  obtain ⟨v1, v2, rfl, w1, w2⟩ := vals2 r
  cases (show v2 = _ from w2)
  cases (show v1 = _ from w1)
  have J := pinX hp I hz hf
  obtain ⟨_, its, rv, ⟨oc, od, dt, sl⟩, h1, h2, n, h3⟩ := I.hok tp _ hT
  cases ClsV.all k rv
  cases h2
  cases h3
  exact PySem.W.kia_tup (PySem.W.handS_kitx_exc C.hg C.hk C.hs C.hd C.ha C.hn C.ht C.hm) I.kIn J h1 e (fun z => nomatch z) fun tk => ⟨.bl b, H, I.kept (t' := tk) fun _ _ z => z, rfl, q⟩
section
variable {K : PySem.W.Frag} {σ : L2.St} {H : Hp} {ta : TE} {v : V} {Q : VK}
theorem c_methX {C : Addr} {ns : List Str} {m : Str} {sp : Sp} {E : L2.St → XK} {t : TA} (ha : Val ta σ H v) (h : ∃ (l dx : Addr) (fs : List (Str × V)), v = .ref l ∧ H l = some (.ins C dx fs) ∧ ∀ m : Str, m ∉ ns → fs.lookup m = none) (hm : m ∉ ns) (k : t σ H fun vs H2 => sp (v :: vs) H2 Q (E σ)) : tMethX C m sp E ta t σ H Q := by
  obtain ⟨l, dx, fs, rfl, h1, h2⟩ := h
  exact ha _ ⟨l, dx, fs, rfl, h1, h2 m hm, k⟩
end
section
variable {K : PySem.W.Frag} {σ : L2.St} {H : Hp} {ta tb : TE} {v : V} {α β γ : Type} {τ : Rep K α} {υ : Rep K β} {φ : Rep K γ}
theorem v_t30 {p : Int × β × γ} (ha : Val ta σ H v) (hb : Val tb σ H (.int 0)) (hr : (qT3 qI υ φ).R H v p) : Val (tOp (rIxT K) ta tb) σ H (.int p.1) := fun Q q => by
  obtain ⟨a, w1, w2, w3, rfl, h2, h3, h4, h5⟩ := hr
  cases (show w1 = .int p.1 from h3)
  exact ha _ (hb _ ⟨a, [.int p.1, w2, w3], 0, .int p.1, rfl, rfl, SqT.of h2, rfl, q⟩)
theorem v_t31 {p : α × Int × γ} (ha : Val ta σ H v) (hb : Val tb σ H (.int 1)) (hr : (qT3 τ qI φ).R H v p) : Val (tOp (rIxT K) ta tb) σ H (.int p.2.1) := fun Q q => by
  obtain ⟨a, w1, w2, w3, rfl, h2, h3, h4, h5⟩ := hr
  cases (show w2 = .int p.2.1 from h4)
  exact ha _ (hb _ ⟨a, [w1, .int p.2.1, w3], 1, .int p.2.1, rfl, rfl, SqT.of h2, rfl, q⟩)
theorem v_t32 {p : α × β × Int} (ha : Val ta σ H v) (hb : Val tb σ H (.int 2)) (hr : (qT3 τ υ qI).R H v p) : Val (tOp (rIxT K) ta tb) σ H (.int p.2.2) := fun Q q => by
  obtain ⟨a, w1, w2, w3, rfl, h2, h3, h4, h5⟩ := hr
  cases (show w3 = .int p.2.2 from h5)
  exact ha _ (hb _ ⟨a, [w1, w2, .int p.2.2], 2, .int p.2.2, rfl, rfl, SqT.of h2, rfl, q⟩)
end
def rListO (K : PySem.W.Frag) : List V → Hp → VK → Prop := fun xs H Q => ∃ (p : Addr) (ys : List V), xs = [.ref p] ∧ (SqL K H p ys ∨ SqT K H p ys) ∧ ∀ l, H l = none → Q (.ref l) (upd H l (.lst ys))
/-! ### leaving a loop by break -/
def brkB {σ ρ : Type} (m : Option (σ ⊕ (σ ⊕ ρ))) (k : σ → Option ρ) : Option ρ := m.bind fun r => match r with
  | .inl s => k s
  | .inr (.inl s) => k s
  | .inr (.inr v) => some v
theorem z_cutS {σ : L2.St} {H : Hp} {D : Ends} {t tu : TS} (P : L2.St → Hp → Prop) (hP : ∀ σ' H', P σ' H' → tu D σ' H') (h : ∀ N : L2.St → Hp → Prop, (∀ σ' H', P σ' H' → N σ' H') → tSeq t (fun _ => N) D σ H) : tSeq t tu D σ H := h _ hP
end Z
theorem Z.OP.brkB {σ ρ : Type} {m : Option (σ ⊕ (σ ⊕ ρ))} {k : σ → Option ρ} {A : ρ → Prop} (h : Z.OP (Z.brkB m k) A) : ∃ B : σ → Prop, Z.OP m (Z.SE B (Z.SE B A)) ∧ ∀ s, B s → Z.OP (k s) A := by
  refine ⟨fun s => Z.OP (k s) A, ?_, fun _ h => h⟩
  cases m with
  | none => exact h.elim
  | some r =>
    cases r with
    | inl s => exact h
    | inr r =>
      cases r with
      | inl s => exact h
      | inr v => exact h

namespace Z
open PySem PySem.Spec PyProof.Rows L2
/-! ### dicts of one's own, keys pairs of ints -/
abbrev DT2 := List ((Int × Int) × Int)
def kk (p : Int × Int) : List Key := [.inl p.1, .inl p.2]
def dtm (x : DT2) : List (List Key × V) := x.map fun p => (kk p.1, .int p.2)
def TR (kvs : List (List Key × V)) (x : DT2) : Prop := kvs = dtm x
def putT (x : DT2) (k : Int × Int) (v : Int) : DT2 := if (x.any fun p => decide (p.1 = k)) = true then x.map (fun p => if p.1 = k then (p.1, v) else p) else x ++ [(k, v)]
def getT (x : DT2) (k : Int × Int) : Option Int := (x.find? fun p => decide (p.1 = k)).map (·.2)
def keysT (x : DT2) : List (Int × Int) := x.map Prod.fst
def dropT (x : DT2) (k : Int × Int) : DT2 := x.filter fun p => decide (p.1 ≠ k)
theorem kk_iff {a b : Int × Int} : kk a = kk b ↔ a = b := by
  obtain ⟨a1, a2⟩ := a
  obtain ⟨b1, b2⟩ := b
  unfold kk
  constructor
  · intro h
    injection h with h1 h2
    injection h2 with h2 _
    rw [show a1 = b1 from Sum.inl.inj h1, show a2 = b2 from Sum.inl.inj h2]
  · intro h; rw [h]
theorem kk_dec (a b : Int × Int) : decide (kk a = kk b) = decide (a = b) := decide_eq_decide.mpr kk_iff
theorem TR.nil : TR [] [] := rfl
theorem TR.length {kvs : List (List Key × V)} {x : DT2} (h : TR kvs x) : kvs.length = x.length := by rw [h]; unfold dtm; rw [List.length_map]
theorem TR.val {kvs : List (List Key × V)} {x : DT2} (h : TR kvs x) (k : Int × Int) : valV kvs (kk k) = (getT x k).map V.int := by
  rw [h]
  unfold valV getT dtm
  rw [List.find?_map, Option.map_map, Option.map_map]
  have : ((fun kv : List Key × V => decide (kv.1 = kk k)) ∘ fun p : (Int × Int) × Int => (kk p.1, V.int p.2)) = fun p => decide (p.1 = k) := by
    funext p; exact kk_dec _ _
  rw [this]
  rfl
theorem TR.put {kvs : List (List Key × V)} {x : DT2} (h : TR kvs x) (k : Int × Int) (v : Int) : TR (putK kvs (kk k) (.int v)) (putT x k v) := by
  have e1 : (kvs.any fun kv => decide (kv.1 = kk k)) = x.any fun p => decide (p.1 = k) := by
    rw [h]; unfold dtm
    rw [List.any_map]; congr 1; funext p; exact kk_dec _ _
  unfold TR putK putT
  rw [e1]
  split
  · rw [h]; unfold dtm
    rw [List.map_map, List.map_map]
    apply List.map_congr_left
    intro p _
    show (if kk p.1 = kk k then (kk p.1, V.int v) else (kk p.1, V.int p.2)) = (kk (if p.1 = k then (p.1, v) else p).1, V.int (if p.1 = k then (p.1, v) else p).2)
    by_cases e : p.1 = k
    · rw [if_pos (kk_iff.mpr e), if_pos e]
    · rw [if_neg (fun q => e (kk_iff.mp q)), if_neg e]
  · rw [h]; unfold dtm
    rw [List.map_append]; rfl
theorem TR.drop {kvs : List (List Key × V)} {x : DT2} (h : TR kvs x) (k : Int × Int) : TR (dropK kvs (kk k)) (dropT x k) := by
  unfold TR dropK dropT
  rw [h]; unfold dtm
  rw [List.filter_map]
  congr 1
  apply List.filter_congr
  intro p _
  show decide (kk p.1 ≠ kk k) = decide (p.1 ≠ k)
  exact decide_eq_decide.mpr (not_congr kk_iff)
section
variable {K : PySem.W.Frag} {σ σ' : L2.St} {S S1 H S0 H0 : Hp} {L L' : List Addr} {ta tb te tl : TE} {tu : TS} {Q : VK} {D : Ends} {v y : V} {l : Addr} {kvs : List (List Key × V)} {x : DT2} {p : Int × Int} {n : Int}
theorem tup_key (h : (qT2 (K := K) qI qI).R H v p) : ∃ b, v = .ref b ∧ H b = some (.tup ((kk p).map kV)) := by
  obtain ⟨a, w1, w2, rfl, h2, rfl, rfl⟩ := h
  exact ⟨a, rfl, h2⟩
theorem key_tup {b : Addr} (h : H b = some (.tup ((kk p).map kV))) : (qT2 (K := K) qI qI).R H (.ref b) p := ⟨b, _, _, rfl, h, rfl, rfl⟩
/-- a dict that is read -/
def DS (H : Hp) (v : V) (x : DT2) : Prop := ∃ a, v = .ref a ∧ Rd H a (.dT (dtm x))
/-- a dict that is only read -/
def RdD (L : List Addr) (S0 H0 : Hp) (v : V) (x : DT2) : Prop := ∃ a, v = .ref a ∧ H0 a = some (.dT (dtm x)) ∧ a ∉ L ∧ S0 a = none
/-- an object that is only read -/
def RdC (L : List Addr) (H0 : Hp) (a : Addr) (o : HO) : Prop := H0 a = some o ∧ a ∉ L
theorem RdC.h {o : HO} (q : RdC L H0 l o) (g : Grow L S0 H0 S H) : H l = some o := g.hh _ _ q.2 q.1
theorem RdC.to {o : HO} (q : RdC L H0 l o) (g : Grow L S0 H0 S H) (hL : ∀ a ∈ L', H0 a = none ∨ a ∈ L) : RdC L' H l o := ⟨q.h g, fun m => by
  rcases hL l m with z | z
  · rw [q.1] at z; cases z
  · exact q.2 z⟩
theorem RdC.ofC {o : HO} (c : Cel L H0 S H l o) (n : l ∉ L') : RdC L' H l o := ⟨c.h, n⟩
theorem RdD.ds (g : Grow L S0 H0 S H) (h : RdD L S0 H0 v x) : DS H v x := by
  obtain ⟨a, rfl, h1, h2, _⟩ := h
  exact ⟨a, rfl, .inl (g.hh _ _ h2 h1)⟩
theorem RdD.to (h : RdD L S0 H0 v x) (g : Grow L S0 H0 S H) (hL : ∀ a ∈ L', H0 a = none ∨ a ∈ L) : RdD L' S H v x := by
  obtain ⟨a, rfl, h1, h2, h3⟩ := h
  have q := (show RdC L H0 a _ from ⟨h1, h2⟩).to g hL
  exact ⟨a, rfl, q.1, q.2, g.fr _ _ h3 h1 rfl⟩
theorem RdD.ofC (c : Cel L H0 S H l (.dT kvs)) (r : TR kvs x) (n : l ∉ L') : RdD L' S H (.ref l) x := by
  subst r
  exact ⟨l, rfl, c.h, n, c.s⟩
theorem DS.cel (c : Cel L H0 S H l (.dT kvs)) (r : TR kvs x) : DS H (.ref l) x := by
  subst r
  exact ⟨l, rfl, .inl c.h⟩
theorem DS.celF {o : Obj} (c : Cel L H0 S H l (.frz o (.dT kvs))) (r : TR kvs x) : DS H (.ref l) x := by
  subst r
  exact ⟨l, rfl, .inr ⟨o, c.h⟩⟩
theorem DS.get (h : DS H v x) (hk : (qT2 (K := K) qI qI).R H y p) : ∃ a, v = .ref a ∧ DGet H a y ((getT x p).map V.int) := by
  obtain ⟨a, rfl, r⟩ := h
  obtain ⟨b, rfl, hb⟩ := tup_key hk
  exact ⟨a, rfl, .inr ⟨_, kk p, b, r, rfl, hb, (TR.val (kvs := dtm x) rfl p).symm⟩⟩
/-- d[k] -/
theorem v_getT (ha : Val ta σ H v) (hb : Val tb σ H y) (h : DS H v x) (hk : (qT2 (K := K) qI qI).R H y p) (e : getT x p = some n) : Val (tDGet ta tb) σ H (.int n) := fun Q q => by
  obtain ⟨a, rfl, g⟩ := h.get hk
  rw [e] at g
  exact ha _ (hb _ ⟨a, _, rfl, g, q⟩)
theorem e_getT (h : DS H v x) (hk : (qT2 (K := K) qI qI).R H y p) (e : getT x p = some n) (q : Q (.int n) H) : ∃ a w, v = .ref a ∧ DGet H a y (some w) ∧ Q w H := by
  obtain ⟨a, rfl, g⟩ := h.get hk
  rw [e] at g
  exact ⟨a, _, rfl, g, q⟩
/-- d.get(k, i) -/
theorem DS.isD (h : DS H v x) : ∃ a, v = .ref a ∧ IsD H a := by
  obtain ⟨a, rfl, r⟩ := h
  exact ⟨a, rfl, .inr ⟨_, r⟩⟩
theorem v_getTd {tx : TE} {m : Int} (ha : Val ta σ H v) (hb : Val tb σ H y) (hc : Val tx σ H (.int m)) (h : DS H v x) (hk : (qT2 (K := K) qI qI).R H y p) : Val (tDGet2 ta tb tx) σ H (.int ((getT x p).getD m)) := fun Q q => by
  obtain ⟨a, rfl, g⟩ := h.get hk
  refine ha _ ⟨a, rfl, ?_, hb _ (hc _ ⟨_, g, ?_⟩)⟩
  · obtain ⟨a', e, i⟩ := h.isD
    cases e; exact i
  · cases z : getT x p with
    | none => rw [z] at q; exact q
    | some w => rw [z] at q; exact q
theorem c_newdT (k : ∀ p H', Same H H' → H p = none → H' p = some (.dT []) → Q (.ref p) H') : tDNewT σ H Q := fun p hp => k p _ (same_upd hp) hp upd_same
theorem c_dtE (h : ∀ Q' : VK, Q' = Q → tDNewT σ H Q') : tDNewT σ H Q := h _ rfl
theorem c_setT (g : Grow L S0 H0 S H) (cl : Cel L H0 S H l (.dT kvs)) (r : TR kvs x) (ho : Val ta σ H (.ref l)) (hi : Val tb σ H y) (hk : (qT2 (K := K) qI qI).R H y p) (hz : x.length < 16777216)
    (k : ∀ kvs' H', Grow L S0 H0 S H' → Cel L H0 S H' l (.dT kvs') → TR kvs' (putT x p n) → (∀ l' o', l' ≠ l → Cel L H0 S H l' o' → Cel L H0 S H' l' o') → tu D σ H') : gSub ta tb rSetD (.int n) σ H (tu D) := by
  obtain ⟨b, rfl, hb⟩ := tup_key hk
  exact ho _ (hi _ ⟨l, _, rfl, DPut.t (k := kk p) cl.h hb (by rw [r.length]; show _ < sizeLine; rw [sizeLine_eq]; exact hz), k _ _ (g.wr cl rfl) (cl.wr rfl) (r.put p n) fun l' o' n c => c.wrn n⟩)
/-- d.pop(k), k there -/
def rPopT1 : V → List V → Hp → VK → Prop := fun x xs H Q => ∃ (a : Addr) (kvs : List (List L2.Key × V)) (k : List L2.Key) (b : Addr) (v : V), x = .ref a ∧ xs = [.ref b] ∧ H a = some (.dT kvs) ∧ H b = some (.tup (k.map kV)) ∧ valV kvs k = some v ∧ Q v (upd H a (.dT (dropK kvs k)))
theorem tyD (h : H l = some (.dT kvs)) : tyV K "dict" (.ref l) H := .inr (.inr (.inl ⟨rfl, .inr ⟨_, h⟩⟩))
theorem c_popT (g : Grow L S0 H0 S H) (cl : Cel L H0 S H l (.dT kvs)) (r : TR kvs x) (hk : (qT2 (K := K) qI qI).R H y p) (e : getT x p = some n)
    (k : ∀ kvs' H', Grow L S0 H0 S H' → Cel L H0 S H' l (.dT kvs') → TR kvs' (dropT x p) → (∀ l' o', l' ≠ l → Cel L H0 S H l' o' → Cel L H0 S H' l' o') → Q (.int n) H') : rPopT1 (.ref l) [y] H Q := by
  obtain ⟨b, rfl, hb⟩ := tup_key hk
  exact ⟨l, kvs, kk p, b, .int n, rfl, rfl, cl.h, hb, by rw [r.val, e]; rfl, k _ _ (g.wr cl rfl) (cl.wr rfl) (r.drop p) fun l' o' n c => c.wrn n⟩
end
end Z
namespace Z.DP
open PySem PySem.W PySem.Calls PyProof.Rows PyProof.V PySem.Spec
section
variable {κ : Type} [DecidableEq κ] {prog : Program} {w : World} {knd : HeapKind prog w κ} {A : Around} {E : Value → Shared → Prop} {s : Shared}
theorem meetsPop1 {d b : Addr} {k : κ} (hd : (d == sysModules) = false) :
    MeetsIn prog w (Builtin.«dict.pop» ⟨[.ref d, .ref b], []⟩) (fun A R s => ∃ xs p, knd.room A.in1 ∧ knd.is s.heap k b ∧ s.heap.DictOfH knd d xs ∧ xs.length ≤ sizeLine ∧
      atKey xs k = some p ∧ ∀ h' tk, h'.DictOfH knd d (DT.dropH xs k) → Heap.SameBut d s.heap h' → R (.ok (.ret p.2)) { s with heap := h', toks := tk }) :=
  .of_wp fun A R s ⟨xs, p, hu, hkey, hm, hsz, hp, hq⟩ => by
    obtain ⟨o, es, ep, ho, hc, hdat, he, his, hn⟩ := id hm
    have hes : es.size = xs.length := size_of_entries he
    have hpart : (keyPart (Value.ref b)).isSome = false := rfl
    unfold Builtin.«dict.pop»
    refine wpAny_bind ?_; unfold Builtin.Dict.keyAndDefault
    refine wpAny_bind (wpAny_notOrdered_dict hm.typeIs ?_)
    show wpAny _ _ (pure (d, Value.ref b, (none : Option Value))) _ _ s
    refine wpAny_pure ?_
    simp only [hpart, Bool.false_eq_true, if_false]
    refine wpAny_bind (wpAny_dictEntries ho hdat (wpAny_bind (wpAny_pure ?_)))
    have hem : es.isEmpty = false := by
      cases z : es.isEmpty with
      | false => rfl
      | true =>
        have z2 : es.size = 0 := by simpa using z
        have : xs = [] := List.length_eq_zero_iff.mp (by omega)
        rw [this] at hp; cases hp
    rw [hem]
    simp only [Bool.false_eq_true, if_false]
    refine wpAny_bind (DT.takeH hu hkey hm hsz (fun hno => ?_) fun p' e hp' hev h' hm' hs' => ?_)
    · rw [hp] at hno; cases hno
    · rw [hp] at hp'; cases hp'
      simp only [Option.isNone_some, Bool.false_eq_true, if_false]
      exact wpAny_bind (wpAny_letGo (wpAny_pure ⟨e.val, rfl, by rw [hev]; exact hq h' _ hm' hs'⟩))
end
end Z.DP
namespace Z
open PySem PySem.Spec PyProof.Rows L2 L2.DX
theorem mt_popT1 {X : Cx} (hu : X.A.units + 1 < cLine) : MtR X "dict.pop" rPopT1 := by
  intro pins s σ H x xs v us Q I rx rxs h
  obtain ⟨a, kvs, k, b, v0, rfl, rfl, ha, hb, hv, q⟩ := h
  cases rx
  obtain ⟨u1, rfl, r1⟩ := rxs.one
  cases r1
  obtain ⟨z, hd, xs', rel, dd⟩ := dt_of I.hok ha
  have hz : xs'.length ≤ sizeLine := by rw [← Paired.length rel]; exact z
  have r := rel.val k
  rw [hv] at r
  cases ep : atKey xs' k with
  | none => rw [ep] at r; exact (show False from r).elim
  | some p =>
    rw [ep] at r
    refine call_meetsIn F.slot_dict_pop dd.typeIs F.entry_dict_pop (F.args_dict_pop_2 _ _) (Z.DP.meetsPop1 (knd := tupleKind (mixKind X.prog X.w)) (k := k) hd)
      ⟨xs', p, tupleKind_room_in1 hu, key_of I.hok hb, dd, hz, ep, fun h' tk dd' hs => ?_⟩
    obtain ⟨o, es, ep', hq, h2, h3, h4, _, h5⟩ := dd'
    have I2 : Inv X pins σ (upd H a (.dT (dropK kvs k))) { s with heap := h', toks := tk } := d_write I (by rw [ha]; exact True.intro) hs ⟨o, hq⟩ ⟨Nat.le_trans (dropK_le kvs k) z, hd, _, (KT_drop k rel).keeps (fun c ys ec => by
      rw [upd_ne (ne_of ec ha (fun z => nomatch z))]; exact ec), o, es, ep', hq, h2, h3, h4, h5⟩
    show EP X pins σ Q p.2 _
    exact ⟨v0, _, I2, r, q⟩
end Z

namespace Z
open PySem PySem.Spec PyProof.Rows L2
/-! ### for k, v in d.items(), the dict locked, its keys tuples -/
section
variable {X : Cx} {pins : List (Addr × Obj)} {σ : L2.St} {H : Hp} {s : Shared} {d : Addr} {o : Obj} {kvs : List (List Key × V)}
theorem frzTV (I : Inv X pins σ H s) (h : H d = some (.frz o (.dT kvs))) :
    (d == sysModules) = false ∧ s.heap.get? d = some o ∧ o.ExactDict ∧ ∃ (es : Array DictEntry) (ep : Nat), o.data = .dict es ep ∧ es.size = kvs.length ∧
      ∀ (i : Nat) (k : List Key) (v : V), kvs[i]? = some (k, v) → ∃ (en : DictEntry) (q : Addr), es[i]? = some en ∧ en.key = .ref q ∧ H q = some (.tup (k.map kV)) ∧ RelV v en.val := by
  obtain ⟨hd, z, hs, xs, pr, o', es, ep, ho, hx, hdt, he, _⟩ := I.hok d _ h
  rw [hd] at ho; cases ho
  have l1 : es.size = xs.length := size_of_entries he
  have l2 : kvs.length = xs.length := Paired.length pr
  refine ⟨hs, hd, hx, es, ep, hdt, by omega, fun i k v e => ?_⟩
  obtain ⟨b, hb, e1, e2, e3⟩ := L2.paired_get pr e
  have q := entry_at he i
  rw [hb] at q
  exact ⟨_, b.2.1, q, rfl, e2, e3⟩
def Itit (d : Addr) (o : Obj) (kvs : List (List Key × V)) : It :=
  ⟨fun i H => H d = some (.frz o (.dT kvs)) ∧ i < kvs.length, fun i H x H' => ∃ (T q : Addr) (k : List Key) (v : V), kvs[i]? = some (k, v) ∧ x = .ref T ∧ H T = none ∧ H q = some (.tup (k.map kV)) ∧ H' = upd H T (.tup [.ref q, v]), fun i H => H d = some (.frz o (.dT kvs)) ∧ kvs.length ≤ i⟩
theorem turn_itemsT {P : Program} {w : World} {K : PySem.W.Frag} {es : Array DictEntry} {ep : Nat} {elts : List Expr} {kk : Nat} {tpos : Pos} (it : Addr) (hod : o.data = .dict es ep) :
    Turn P w K (.Tuple elts kk tpos) (Itit d o kvs) [it] it (fun i h => ∃ ok ov, IsItemIter h it d i kvs.length ep ok ov) where
  mem := by simp
  obj := fun i h st b hb => by
    cases (show b = it by simpa using hb)
    obtain ⟨ok, ov, e⟩ := st
    exact ⟨_, e, fun v z => nomatch z⟩
  keep := fun i h h' st k => let ⟨ok, ov, e⟩ := st; ⟨ok, ov, k it (by simp) _ e⟩
  item := by
    intro X hP hw hK hc i pins s σ H E I hf st hg; subst hP hw hK
    obtain ⟨hd, hi⟩ := hg
    obtain ⟨hs, hgd, hx, es', ep', hdt, hsz, ent⟩ := frzTV I hd
    obtain ⟨rfl, rfl⟩ := dict_ep hod hdt
    obtain ⟨⟨k, v⟩, hkv⟩ : ∃ p, kvs[i]? = some p := ⟨kvs[i], List.getElem?_eq_getElem hi⟩
    obtain ⟨en, q, hen, hkey, hq, rv⟩ := ent i k v hkv
    obtain ⟨ok, ov, he⟩ := st
    have hlt : it < s.heap.objs.size := Heap.lt_size he
    have hie : i < es'.size := by omega
    have hen' : es'[i] = en := by
      have := Array.getElem?_eq_getElem hie
      rw [hen] at this; exact (Option.some.inj this).symm
    rw [← hsz] at he
    refine DT.nextI he ⟨o, hgd, hx, hod⟩ hie fun h' ho hT hz hk => ?_
    rw [hen', hkey] at hT ho
    refine ⟨_, rfl, wpAny_letOwnedTupleGo_items (s := { s with heap := h' }) ho fun h'' he' sb => ?_⟩
    have hT2 : h''.get? s.heap.objs.size = some { cls := .type "tuple", data := .seq #[.ref q, en.val] } := (sb.2 _ (Nat.ne_of_gt hlt)).trans hT
    have new : ObjOk X.prog X.w (upd H s.heap.objs.size (.tup [.ref q, v])) h'' s.heap.objs.size (.tup [.ref q, v]) := ⟨by show 2 ≤ sizeLine; decide, [.ref q, en.val], .cons rfl (.cons rv .nil), ⟨_, hT2, rfl, _, rfl⟩⟩
    have I1 : Inv X pins σ (upd H s.heap.objs.size (.tup [.ref q, v])) { s with heap := h'' } :=
      I.turnedNew (t' := s.toks) (ch := [it]) (fun b ob hb e => (sb.2 b (by simpa using hb)).trans (hk b ob (by simpa using hb) e)) hf (Nat.le_refl _) new
    refine ⟨.ref s.heap.objs.size, _, I1, rfl, ⟨_, q, k, v, hkv, rfl, I.hok.fresh (Nat.le_refl _), hq, rfl⟩, ⟨.ref q, en.val, ?_⟩, fun b hb => ?_⟩
    · rw [← hsz]; exact he'
    · cases (show b = it by simpa using hb)
      rw [upd_ne (Nat.ne_of_lt hlt)]; exact (hf it (by simp)).1
  done := by
    intro X hP hw hK hc i pins s σ H E I hf st hg; subst hP hw hK
    obtain ⟨hd, hi⟩ := hg
    obtain ⟨hs, hgd, hx, es', ep', hdt, hsz, ent⟩ := frzTV I hd
    obtain ⟨rfl, rfl⟩ := dict_ep hod hdt
    obtain ⟨f0, f1, f2, f3, f4, f5⟩ := hf it (by simp)
    obtain ⟨ok, ov, he⟩ := st
    rw [← hsz] at he
    exact DT.endI (I.ok.hd hc) he ⟨o, hgd, hx, hod⟩ (by omega) fun h' eb => ⟨rfl, I.turned (t' := s.toks) (fun b ob hb e => eb b ob hb e) f0 f1 f3 f4 f5⟩
  self := fun A i s Q E st h => let ⟨_, _, e⟩ := st; PySem.W.kcp_self e h
def iItemsT (td : TE) : TI := fun σ H R => td σ H fun x H1 => ∃ d o kvs, x = .ref d ∧ H1 d = some (.frz o (.dT kvs)) ∧ R (Itit d o kvs) H1
theorem pi_itemsT {e : Expr} {td : TE} {apos cpos tpos : Pos} {elts : List Expr} {kk : Nat} (he : PE X e td) (hbase : attributeBase e "items" X.env (eval e X.env) = eval e X.env := by rfl) (hline : (apos.endLine == cpos.line) = true := by rfl) :
    PI X (.Tuple elts kk tpos) (.Call (.Attribute e "items" apos) [] [] cpos) (iItemsT td) := by
  refine ⟨fun pins s σ H R I h => ?_⟩
  refine wpAny_Call_method (T := "dict") (id := "dict.items") hbase rfl hline F.plainAttrs_dict F.slot_dict_items F.type_dict_items (thn (he.run pins s σ H _ I h) fun u s1 ⟨x, H1, I1, rx, d, o, kvs, ex, hd, q⟩ => ?_)
  subst ex
  cases (show u = Value.ref d from rx)
  obtain ⟨hs, hgd, hx, es, ep, hdt, hsz, ent⟩ := frzTV I1 hd
  have raw : DT.Raw s1.heap d es ep := ⟨o, hgd, hx, hdt⟩
  refine ⟨raw.typeIs, fun a ea => by
    cases ea
    exact ⟨o, hgd, hx.2.1⟩, ?_⟩
  have I2 : Inv X pins σ H1 { s1 with heap := s1.heap.push { cls := .type "dict_items", data := .fields #[.ref d] } } := I1.kept (t' := s1.toks) fun b ob q => Heap.get?_push_of_some _ q
  have fin : wpAny (model X.prog X.w) X.A (pyIter (.ref s1.heap.objs.size)) (PIE X pins σ (.Tuple elts kk tpos) R) X.xe { s1 with heap := s1.heap.push { cls := .type "dict_items", data := .fields #[.ref d] } } := by
    refine DT.iterI (d := d) ⟨_, Heap.get?_push_size _ rfl, rfl, rfl⟩ (raw.push _) (pi_one (tk := s1.toks) I2 _ (turn_itemsT _ hdt) ⟨.none, .none, ?_⟩ q)
    rw [hsz]; exact Heap.get?_push_size _ rfl
  show wpAny _ _ (callWith cpos (.builtin "dict.items") [.ref d] [] []) _ X.xe s1
  exact method_meetsIn F.slot_dict_items F.entry_dict_items rfl (PySem.evalArgs_none ⟨rfl, raw.typeIs, F.args_dict_items_1 _, _, DT.meetsItems (es := es) (ep := ep) hs, ⟨raw, fin⟩⟩)
end
end Z

namespace Z
open PySem PySem.Spec PyProof.Rows L2
section
variable {K : PySem.W.Frag} {σ σ' : L2.St} {S S1 H S0 H0 : Hp} {L L' : List Addr} {ta tb te tl td : TE} {tu t : TS} {Q : VK} {D : Ends} {v y : V} {l : Addr} {kvs : List (List Key × V)} {x : DT2} {p : Int × Int} {n : Int} {g : TG}
/-- the ends within a lock -/
def LkE (D : Ends) (l : Addr) (od : Obj) (u : HO) : Ends := ⟨fun σ' H' => H' l = some (.frz od u) ∧ D.nx σ' (upd H' l u), fun v H' => H' l = some (.frz od u) ∧ D.rt v (upd H' l u), fun σ' H' => H' l = some (.frz od u) ∧ D.bk σ' (upd H' l u), fun σ' H' => H' l = some (.frz od u) ∧ D.ct σ' (upd H' l u)⟩
theorem z_lockD (gr : Grow L S0 H0 S H) (cl : Cel L H0 S H l (.dT kvs)) (k : ∀ od Hl, Grow L S0 H0 S Hl → Cel L H0 S Hl l (.frz od (.dT kvs)) → (∀ l' o', l' ≠ l → Cel L H0 S H l' o' → Cel L H0 S Hl l' o') → t (LkE { D with nx := tu D } l od (.dT kvs)) σ Hl) : tSeq (tLock t) tu D σ H :=
  ⟨l, _, cl.h, True.intro, fun od => k od _ (gr.wr cl rfl) (cl.wr rfl) fun l' o' n c => c.wrn n⟩
theorem unlk {P : Hp → Prop} {od : Obj} (gr : Grow L S0 H0 S H) (cl : Cel L H0 S H l (.frz od (.dT kvs))) (k : ∀ H2, Grow L S0 H0 S H2 → Cel L H0 S H2 l (.dT kvs) → (∀ l' o', l' ≠ l → Cel L H0 S H l' o' → Cel L H0 S H2 l' o') → P H2) : H l = some (.frz od (.dT kvs)) ∧ P (upd H l (.dT kvs)) :=
  ⟨cl.h, k _ (gr.wr cl rfl) (cl.wr rfl) fun l' o' n c => c.wrn n⟩
theorem dtm_get {x : DT2} {i : Nat} {k : List Key} {v : V} (h : (dtm x)[i]? = some (k, v)) : ∃ e, x[i]? = some e ∧ k = Z.kk e.1 ∧ v = .int e.2 := by
  unfold dtm at h
  rw [List.getElem?_map] at h
  cases e : x[i]? with
  | none => rw [e] at h; cases h
  | some q => rw [e] at h; cases h; exact ⟨q, rfl, rfl, rfl⟩
theorem keysT_len {x : DT2} : (keysT x).length = x.length := List.length_map _
theorem keysT_at {x : DT2} {i : Nat} {h : i < (keysT x).length} : (keysT x)[i] = (x[i]'(by rw [keysT_len] at h; exact h)).1 := List.getElem_map _
theorem dtm_len {x : DT2} : (dtm x).length = x.length := by unfold dtm; rw [List.length_map]
theorem z_forD {tb : TS} {od : Obj} (ha : Val td σ H (.ref l)) (r : TR kvs x) (Pv : List (Int × Int) → L2.St → Hp → Prop) (h0 : Pv (keysT x) σ H) (hl : ∀ ys σ' H', Pv ys σ' H' → H' l = some (.frz od (.dT kvs)))
    (hs : ∀ w y ys σ' H', (qT2 (K := K) qI qI).R H' w y → Pv (y :: ys) σ' H' → ∀ N : L2.St → Hp → Prop, (∀ σ'' H'', Pv ys σ'' H'' → N σ'' H'') → g w σ' H' fun σ2 H2 => tb { D with nx := N, ct := N, bk := D.nx } σ2 H2) (hd : ∀ σ' H', Pv [] σ' H' → D.nx σ' H') :
    tFor (iKeys td) g tb D σ H := by
  subst r
  refine ha _ ⟨l, od, rfl, .inr ⟨dtm x, hl _ _ _ h0, fun i m σ H => m = x.length - i ∧ i ≤ x.length ∧ Pv ((keysT x).drop i) σ H, ⟨_, rfl, Nat.zero_le _, h0⟩, fun i m σ' H' w => ?_⟩⟩
  obtain ⟨hm, hi, pv⟩ := w
  by_cases e : i < x.length
  · refine .inr ⟨⟨hl _ _ _ pv, by rw [dtm_len]; exact e⟩, fun σ' H' => ∃ m', m' < m ∧ m' = x.length - (i + 1) ∧ i + 1 ≤ x.length ∧ Pv ((keysT x).drop (i + 1)) σ' H', fun σ' H' q => q, fun w H2 yl => ?_⟩
    obtain ⟨rfl, k, v, q, hk, rfl, hq⟩ := yl
    obtain ⟨e1, h1, rfl, rfl⟩ := dtm_get hk
    have hx : (keysT x).drop i = e1.1 :: (keysT x).drop (i + 1) := by
      rw [List.drop_eq_getElem_cons (by rw [keysT_len]; exact e), keysT_at]
      have := List.getElem?_eq_getElem e
      rw [h1] at this
      rw [← Option.some.inj this]
    rw [hx] at pv
    exact hs _ _ _ _ _ (key_tup hq) pv _ fun σ'' H'' z => ⟨_, by omega, rfl, e, z⟩
  · have : i = x.length := by omega
    subst this
    rw [← keysT_len, List.drop_length] at pv
    exact .inl ⟨⟨hl _ _ _ pv, by rw [dtm_len]; exact Nat.le_refl _⟩, hd _ _ pv⟩
theorem z_forDI {tb : TS} {od : Obj} (ha : Val td σ H (.ref l)) (r : TR kvs x) (Pv : DT2 → L2.St → Hp → Prop) (h0 : Pv x σ H) (hl : ∀ ys σ' H', Pv ys σ' H' → H' l = some (.frz od (.dT kvs)))
    (hs : ∀ w y ys σ' H', (qT2 (K := K) qI qI).R H' w y.1 → Pv (y :: ys) σ' H' → ∀ N : L2.St → Hp → Prop, (∀ σ'' H'', Pv ys σ'' H'' → N σ'' H'') → ∀ T, H' T = none → g (.ref T) σ' (upd H' T (.tup [w, .int y.2])) fun σ2 H2 => tb { D with nx := N, ct := N, bk := D.nx } σ2 H2) (hd : ∀ σ' H', Pv [] σ' H' → D.nx σ' H') :
    tFor (iItemsT td) g tb D σ H := by
  subst r
  refine ha _ ⟨l, od, dtm x, rfl, hl _ _ _ h0, fun i m σ H => m = x.length - i ∧ i ≤ x.length ∧ Pv (x.drop i) σ H, ⟨_, rfl, Nat.zero_le _, h0⟩, fun i m σ' H' w => ?_⟩
  obtain ⟨hm, hi, pv⟩ := w
  by_cases e : i < x.length
  · refine .inr ⟨⟨hl _ _ _ pv, by rw [dtm_len]; exact e⟩, fun σ' H' => ∃ m', m' < m ∧ m' = x.length - (i + 1) ∧ i + 1 ≤ x.length ∧ Pv (x.drop (i + 1)) σ' H', fun σ' H' q => q, fun w H2 yl => ?_⟩
    obtain ⟨T, q, k, v, hk, rfl, hT, hq, rfl⟩ := yl
    obtain ⟨e1, h1, rfl, rfl⟩ := dtm_get hk
    have hx : x.drop i = e1 :: x.drop (i + 1) := by
      rw [List.drop_eq_getElem_cons e]
      have := List.getElem?_eq_getElem e
      rw [h1] at this
      rw [← Option.some.inj this]
    rw [hx] at pv
    exact hs _ _ _ _ _ (key_tup hq) pv _ (fun σ'' H'' z => ⟨_, by omega, rfl, e, z⟩) T hT
  · have : i = x.length := by omega
    subst this
    rw [List.drop_length] at pv
    exact .inl ⟨⟨hl _ _ _ pv, by rw [dtm_len]; exact Nat.le_refl _⟩, hd _ _ pv⟩
/-! ### [k for k in d if ..] -/
theorem c_lcD {β : Type} {τ : Rep K β} {tt : TT} {f : Int × Int → Option (Option β)} {ys : List β} {j : Nat} (sh : Shal τ) (hH : H l = some (.dT (dtm x))) (hS : S l = none) (e : Same S H)
    (ha : ∀ od, Val td σ (upd H l (.frz od (.dT (dtm x)))) (.ref l)) (h : compO f (keysT x) = some ys)
    (turn : ∀ w q H', (qT2 (K := K) qI qI).R H' w q → (∀ a o, a ≠ l → H a = some o → H' a = some o) → DS H' (.ref l) x → ∀ r, f q = some r → ∃ b, Ans tt (σ.set j (some w)) H' b ∧ (b = true → ∃ v y, r = some y ∧ Val te (σ.set j (some w)) H' v ∧ τ.R H' v y) ∧ (b = false → r = none))
    (k : ∀ P ws S1 H1, Grow [] S H S1 H1 → H P = none → H1 P = some (.lst ws) → S1 P = none → RL τ S1 ws ys → Q (.ref P) H1) : tLockE (tLc (iKeys td) (gName j) tt te [j]) σ H Q := by
  refine ⟨l, _, hH, True.intro, fun od => ha od _ ⟨l, od, rfl, .inr ⟨dtm x, upd_same, fun P hP => ?_⟩⟩⟩
  obtain ⟨hz, hc⟩ := compO_some h
  rw [keysT_len] at hz
  have nP : P ≠ l := fun q => by subst q; rw [upd_same] at hP; cases hP
  have hPH : H P = none := by rw [upd_ne nP] at hP; exact hP
  have eL : Same S (upd H l (.frz od (.dT (dtm x)))) := fun a o q => by
    have : a ≠ l := fun z => by subst z; rw [hS] at q; cases q
    rw [upd_ne this]; exact e a o q
  refine ⟨fun i m H' => m = x.length - i ∧ i ≤ x.length ∧ ∃ T acc ys1 ys2, Grow [] S (upd H l (.frz od (.dT (dtm x)))) T H' ∧ Cel [] (upd H l (.frz od (.dT (dtm x)))) T H' P (.lst acc) ∧ RL τ T acc ys1 ∧ compO' f ((keysT x).drop i) = some ys2 ∧ ys1 ++ ys2 = ys ∧ acc.length + (x.length - i) ≤ 16777216, ⟨_, rfl, Nat.zero_le _, S, [], [], ys, (Grow.refl eL).ext (same_upd hP), Cel.own (Grow.refl eL) (same_upd hP) hP upd_same rfl, .nil, hc, rfl, by simpa using hz⟩, fun i m H' w => ?_⟩
  obtain ⟨hm, hi, T, acc, ys1, ys2, g, c, r, h1, h2, h3⟩ := w
  have hl' : H' l = some (.frz od (.dT (dtm x))) := g.hh _ _ (fun z => nomatch z) upd_same
  by_cases ei : i < x.length
  · refine .inr ⟨⟨hl', by rw [dtm_len]; exact ei⟩, fun H'' => ∃ m', m' < m ∧ m' = x.length - (i + 1) ∧ i + 1 ≤ x.length ∧ ∃ T acc ys1 ys2, Grow [] S (upd H l (.frz od (.dT (dtm x)))) T H'' ∧ Cel [] (upd H l (.frz od (.dT (dtm x)))) T H'' P (.lst acc) ∧ RL τ T acc ys1 ∧ compO' f ((keysT x).drop (i + 1)) = some ys2 ∧ ys1 ++ ys2 = ys ∧ acc.length + (x.length - (i + 1)) ≤ 16777216, fun H'' q => q, fun w H2 yl => ?_⟩
    obtain ⟨rfl, kx, v, q, hk, rfl, hq⟩ := yl
    obtain ⟨e1, h5, rfl, rfl⟩ := dtm_get hk
    have hx : (keysT x).drop i = e1.1 :: (keysT x).drop (i + 1) := by
      rw [List.drop_eq_getElem_cons (by rw [keysT_len]; exact ei), keysT_at]
      have := List.getElem?_eq_getElem ei
      rw [h5] at this
      rw [← Option.some.inj this]
    rw [hx] at h1
    unfold compO' at h1
    obtain ⟨rr, hr, h1⟩ := bind_some h1
    obtain ⟨ys3, hr3, h1⟩ := bind_some h1
    have h1 : consO rr ys3 = ys2 := Option.some.inj h1
    obtain ⟨b, hA, ht, hn⟩ := turn (.ref q) e1.1 H2 (key_tup hq) (fun a o na ea => g.hh _ _ (fun z => nomatch z) (by rw [upd_ne na]; exact ea)) ⟨l, rfl, .inr ⟨od, hl'⟩⟩ rr hr
    have e3 : (wipe σ [j]).set j (some (.ref q)) = σ.set j (some (.ref q)) := by rw [wipe_one, List.set_set]
    refine g_name e3 ⟨by rw [← e3]; exact wipe_again j _, hA _ ?_⟩
    cases b with
    | true =>
      obtain ⟨v, y, rfl, hv, hR⟩ := ht rfl
      obtain ⟨T2, g2, hR2⟩ := sh g.sh hR
      have g3 := g.call0 g2
      have c3 := c.call0 g2
      refine (show (if true = true then _ else _) from hv _ ⟨acc, c.h, by rw [sizeLine_eq]; omega, _, by omega, rfl, ei, T2, acc ++ [v], ys1 ++ [y], ys3, g3.wr c3 rfl, c3.wr rfl, (RL.mono g2.ss r).app (.cons hR2 .nil), hr3, ?_, ?_⟩)
      · rw [← h2, ← h1, List.append_assoc]; rfl
      · rw [List.length_append, List.length_singleton]; omega
    | false =>
      have hn := hn rfl
      subst hn
      refine (show (if false = true then _ else _) from ⟨_, by omega, rfl, ei, T, acc, ys1, ys3, g, c, r, hr3, ?_, by omega⟩)
      rw [← h2, ← h1]; rfl
  · have : i = x.length := by omega
    subst this
    rw [← keysT_len, List.drop_length] at h1
    have : ys2 = [] := (Option.some.inj h1).symm
    subst this
    rw [List.append_nil] at h2
    subst h2
    refine .inl ⟨⟨hl', by rw [dtm_len]; exact Nat.le_refl _⟩, hl', ?_⟩
    have hTl : T l = none := g.fr _ _ hS upd_same rfl
    refine k P acc T _ ⟨g.ss, fun a o q => ?_, fun a o _ q => ?_, fun a o q1 q2 q3 => ?_, fun a o q => ?_⟩ hPH (by rw [upd_ne nP]; exact c.h) c.s r
    · have : a ≠ l := fun z => by subst z; rw [hTl] at q; cases q
      rw [upd_ne this]; exact g.sh _ _ q
    · by_cases z : a = l
      · subst z; rw [hH] at q; cases q; exact upd_same
      · rw [upd_ne z]; exact g.hh _ _ (fun z => nomatch z) (by rw [upd_ne z]; exact q)
    · by_cases z : a = l
      · subst z; exact hTl
      · exact g.fr _ _ q1 (by rw [upd_ne z]; exact q2) q3
    · by_cases z : a = l
      · subst z; rw [hH] at q; cases q; exact ⟨_, upd_same, fun _ => rfl⟩
      · rw [upd_ne z]; exact g.ne _ _ (by rw [upd_ne z]; exact q)
end
end Z

namespace Z
open PySem PySem.Spec PyProof.Rows PySem.Calls PySem.W PyProof.V
section
variable {prog : Program} {w : World} {A : Around} {E : Value → Shared → Prop} {s : Shared} {T : String} {r d : Addr} {n : Nat} {P : Nat → Value → Prop} {OK : Heap → Prop}
theorem collectZ {R : List Value → Shared → Prop} (Kd : KdlSrc prog w T r d n P OK) (hh : A.handled = none) (hok : OK s.heap) (hn : n ≤ sizeLine)
    (h : ∀ (h' : Heap) (tk : Nat) (acc : Array Value), (∀ b o, s.heap.get? b = some o → h'.get? b = some o) → s.heap.objs.size < h'.objs.size → ItemsOf P acc n → R acc.toList { s with heap := h', toks := tk }) : wpAny (model prog w) A (collect (.ref r)) R E s := by
  have hlt := Kd.there _ hok
  unfold collect; refine wpAny_bind (wpAny_runValue (codeAny_builtin entry_proto_collect' ?_)); rw [Around.under_plainId PySem.F.plain_proto_collect _]
  show wpAny _ A.in1 (newList [] >>= fun l => again (.builtin "list.__iadd__" ⟨[l, .ref r], []⟩)) _ _ s; refine wpAny_bind (wpAny_newObj_type ?_)
  refine wpAny_pure ⟨plainId_quiet PySem.F.plain_list_iadd _, codeAny_builtin entry_list_iadd' ?_⟩; rw [Around.under_plainId PySem.F.plain_list_iadd _]
  have hS1 : (s.heap.push { cls := .type "list", data := .seq ([] : List Value).toArray }).get? s.heap.objs.size = some { cls := .type "list", data := .seq #[] } := Heap.get?_push_size _ rfl
  show wpAny _ A.in1 (Builtin.List.listExtendWith (.ref s.heap.objs.size) (.ref r) (.ref s.heap.objs.size)) _ _ _
  refine wpAny_mono (kdl_extend (A := A) (s := { s with heap := s.heap.push { cls := .type "list", data := .seq ([] : List Value).toArray } })
    (R := fun (q : Result) (s' : Shared) => ∃ (h' : Heap) (tk : Nat) (acc : Array Value) (c : Nat), q = .ok (.ret (.ref s.heap.objs.size)) ∧ s' = { s with heap := h', toks := tk } ∧ (∀ b o, s.heap.get? b = some o → h'.get? b = some o) ∧ h'.get? s.heap.objs.size = some { cls := .type "list", dict := none, data := .seq acc c, slots := #[] } ∧ ItemsOf P acc n)
    Kd hh (Kd.keep _ _ hok fun b _ o e => Heap.get?_push_of_some _ e) s.heap.objs.size (Nat.ne_of_gt hlt.1) (Nat.ne_of_gt hlt.2) (.ref s.heap.objs.size) 0 hS1
    (fun h' tk acc c hk hS' hacc => ⟨h', tk, acc, c, rfl, rfl, fun b o e => hk b o (Nat.ne_of_lt (Heap.lt_size e)) (Heap.get?_push_of_some _ e), hS', hacc⟩) hn) (fun fn s' x => ?_) fun e s' x => ?_
  · cases fn with
    | done f =>
      obtain ⟨h', tk, acc, c, e, rfl, hk, hS', hacc⟩ := x; cases e
      show wpAny _ A (load s.heap.objs.size >>= _) _ _ _; exact wpAny_bind (wpAny_load hS' (wpAny_pure (h h' tk acc hk (Heap.lt_size hS') hacc)))
    | again c1 =>
      refine ⟨x.1, codeAny_mono x.2 fun q s2 y => ?_⟩
      obtain ⟨h', tk, acc, c, rfl, rfl, hk, hS', hacc⟩ := y
      show wpAny _ A (load s.heap.objs.size >>= _) _ _ _; exact wpAny_bind (wpAny_load hS' (wpAny_pure (h h' tk acc hk (Heap.lt_size hS') hacc)))
  · obtain ⟨_, _, _, _, e', _⟩ := x
    cases e'
end
end Z
namespace Z
open PySem PySem.Spec PyProof.Rows L2 PySem.Calls
/-! ### sorted(d), list(d): keys pairs of ints -/
def KeyV (H : Hp) (u : Value) (p : Int × Int) : Prop := ∃ b, u = Value.ref b ∧ H b = some (.tup ((Z.kk p).map kV))
theorem keysOf {X : Cx} {pins : List (Addr × Obj)} {σ : L2.St} {H : Hp} {s : Shared} {x : DT2} {xs : List (List Key × Addr × Value)} {es : Array DictEntry} {us : List Value} (rel : KT H (dtm x) xs) (he : es.toList = xs.map (entryOfKey (tupleKind (mixKind X.prog X.w))))
    (hl : us.length = xs.length) (hu : ∀ (i : Nat) (v : Value), us[i]? = some v → ∃ en : DictEntry, es[i]? = some en ∧ v = en.key) : Paired (KeyV H) us (keysT x) := by
  have e1 : us = xs.map fun q => Value.ref q.2.1 := by
    apply List.ext_getElem?
    intro j
    rw [List.getElem?_map]
    cases hj : us[j]? with
    | none => rw [List.getElem?_eq_none (by have := List.getElem?_eq_none_iff.mp hj; omega)]; rfl
    | some v =>
      obtain ⟨en, hen, hv⟩ := hu j v hj
      have qe := entry_at he j
      rw [hen] at qe
      cases hb : xs[j]? with
      | none => rw [hb] at qe; exact nomatch (show some en = none from qe)
      | some b => rw [hb] at qe; rw [hv, Option.some.inj qe]; rfl
  subst e1
  clear hu he hl
  have all : ∀ {d : List (List Key × V)} {m : List (List Key × Addr × Value)}, KT H d m → ∀ y : DT2, d = dtm y → Paired (KeyV H) (m.map fun q => Value.ref q.2.1) (keysT y) := by
    intro d m r
    induction r with
    | nil =>
      intro y ey
      cases y with
      | nil => exact .nil
      | cons _ _ => cases ey
    | cons h t ih =>
      intro y ey
      cases y with
      | nil => cases ey
      | cons e y =>
        injection ey with e1 e2
        refine .cons ⟨_, rfl, ?_⟩ (ih y e2)
        have := h.2.1
        rw [e1] at this; exact this
  exact all rel x rfl
theorem KeyV.uniq {H : Hp} {u : Value} {p q : Int × Int} (h : KeyV H u p) (g : KeyV H u q) : p = q := by
  obtain ⟨b, rfl, h1⟩ := h
  obtain ⟨b', e, h2⟩ := g
  cases e
  rw [h1] at h2
  obtain ⟨p1, p2⟩ := p
  obtain ⟨q1, q2⟩ := q
  unfold kk at h2
  cases h2; rfl
def pairV (H : Hp) (u : Value) : Int × Int := pairAt H (backV u)
theorem KeyV.pair {H : Hp} {u : Value} {p : Int × Int} {K : PySem.W.Frag} (h : KeyV H u p) : pairV H u = p := by
  obtain ⟨b, rfl, h1⟩ := h
  exact pairAt_of (K := K) (key_tup h1)
def rSortedDT (K : PySem.W.Frag) : List V → Hp → VK → Prop := fun vs H Q => ∃ (a : Addr) (x : DT2), vs = [V.ref a] ∧ H a = some (.dT (dtm x)) ∧ ∀ (ws : List V) (p : Addr), RL (qT2 (K := K) qI qI) H ws (sortP (keysT x)) → H p = none → Q (.ref p) (upd H p (.lst ws))
theorem keyV_rl {K : PySem.W.Frag} {H : Hp} : ∀ {us : List Value} {ps : List (Int × Int)}, Paired (KeyV H) us ps → RL (qT2 (K := K) qI qI) H (us.map backV) ps ∧ Vals (us.map backV) us
  | _, _, .nil => ⟨.nil, .nil⟩
  | _, _, .cons h t => by
    obtain ⟨b, rfl, h1⟩ := h
    obtain ⟨a1, a2⟩ := keyV_rl (K := K) t
    exact ⟨.cons (key_tup h1) a1, .cons rfl a2⟩
theorem keyV_map {K : PySem.W.Frag} {H : Hp} : ∀ {us : List Value} {ps : List (Int × Int)}, Paired (KeyV H) us ps → us.map (pairV H) = ps
  | _, _, .nil => rfl
  | _, _, .cons h t => by rw [List.map_cons, keyV_map (K := K) t, KeyV.pair (K := K) h]
theorem keyV_perm {H : Hp} {us out : List Value} {ps : List (Int × Int)} (h : Paired (KeyV H) us ps) (hp : out.Perm us) : ∃ qs, Paired (KeyV H) out qs ∧ qs.Perm ps := by
  induction hp generalizing ps with
  | nil => cases h; exact ⟨[], .nil, List.Perm.nil⟩
  | cons x _ ih =>
    cases h with
    | cons a b =>
      obtain ⟨qs, h1, h2⟩ := ih b
      exact ⟨_ :: qs, .cons a h1, h2.cons _⟩
  | swap x y l =>
    cases h with
    | cons a b =>
      cases b with
      | cons c d => exact ⟨_, .cons c (.cons a d), List.Perm.swap _ _ _⟩
  | trans _ _ ih1 ih2 =>
    obtain ⟨qs, h1, h2⟩ := ih2 h
    obtain ⟨rs, h3, h4⟩ := ih1 h1
    exact ⟨rs, h3, h4.trans h2⟩
theorem pairAtHeap {X : Cx} {pins : List (Addr × Obj)} {σ : L2.St} {H : Hp} {s : Shared} {v : Value} {p : Int × Int} (I : Inv X pins σ H s) (h : KeyV H v p) : Srt.IsPair s.heap v p.1 p.2 := by
  obtain ⟨b, rfl, hb⟩ := h
  obtain ⟨_, its2, r2, oo, ho2, hc2, n2, hd2⟩ := (show ObjOk X.prog X.w H s.heap b (.tup ((Z.kk p).map kV)) from I.hok b _ hb)
  obtain ⟨u1, u2, rfl, ri, rj⟩ := vals2 r2
  obtain ⟨t1, rfl⟩ := ri
  obtain ⟨t2, rfl⟩ := rj
  exact ⟨b, oo, t1, t2, n2, rfl, ho2, hc2, hd2⟩
theorem cr_sortedDT {X : Cx} (hc : X.calm = true) : CallR X (.builtin "sorted") (rSortedDT X.K) := by
  intro pins s σ H vs us Q I r h
  obtain ⟨a, x, rfl, ha, q⟩ := h
  obtain ⟨u, rfl, ru⟩ := r.one
  cases (show u = Value.ref a from ru)
  obtain ⟨z, hs, xs, rel, o, es, ep, ho, hx, hdt, he, hn⟩ := (show ObjOk X.prog X.w H s.heap a (.dT (dtm x)) from I.hok a _ ha)
  have l1 : es.size = xs.length := size_of_entries he
  have l2 : (dtm x).length = xs.length := Paired.length rel
  refine call_function_entry kind_sorted plain_sorted entry_sorted (args_sorted1 _) ?_; unfold Builtin.«sorted»
  refine wpAny_bind (m := checkCount "sorted" 1 1 _) (wpAny_pure ?_)
  refine wpAny_bind (Z.collectZ (A := X.A.in1) (kdl_raw hs hx hdt) (I.ok.hd hc) ho (by omega) fun h' tk acc hk hsz0 hacc => ?_)
  have hlen : acc.toList.length = xs.length := by rw [Array.length_toList, hacc.1]; exact l1
  have hzz : acc.toList.length ≤ sizeLine := by omega
  refine wpAny_bind (wpAny_newList ?_ hzz)
  have ky : Paired (KeyV H) acc.toList (keysT x) := keysOf (X := X) (pins := pins) (σ := σ) (s := s) rel he hlen fun j v e => hacc.2 j v (by rw [← Array.getElem?_toList]; exact e)
  have hob : (h'.push { cls := .type "list", data := .seq acc.toList.toArray }).get? h'.objs.size = some { cls := .type "list", data := .seq acc.toList.toArray } := Heap.get?_push_size _ rfl
  have isP : ∀ v ∈ acc.toList, Srt.IsPair s.heap v (pairV H v).1 (pairV H v).2 := by
    intro v hv
    have all : ∀ {us : List Value} {ps : List (Int × Int)}, Paired (KeyV H) us ps → v ∈ us → ∃ p, KeyV H v p := by
      intro us ps r
      induction r with
      | nil => intro m; cases m
      | cons a _ ih =>
        intro m
        rcases List.mem_cons.mp m with rfl | m
        · exact ⟨_, a⟩
        · exact ih m
    obtain ⟨p, hp⟩ := all ky hv
    rw [KeyV.pair (K := X.K) hp]
    exact pairAtHeap I hp
  refine wpAny_bind (wpAny_holding (wpAny_call_entry slot_list_sort ⟨_, hob, rfl⟩ entry_list_sort (SrtO.list_sort_ord (SrtO.swo_lex (pairV H)) hob hzz (fun h2 => SrtO.pairs_sortableO (by omega) (fun v hv => (isP v hv).keeps fun b oo e _ => Heap.get?_push_of_some _ (hk b oo e)) fun oo e => ?_) fun out h1 h2 => ⟨_, rfl, ?_⟩) (args_list_sort _)))
  · have e' : some oo = some (seqObj "list" acc.toList.toArray 0) := e.symm.trans hob
    cases e'
    intro c
    exact absurd (Value.type.inj c) (by decide)
  refine wpAny_pure ⟨_, rfl, ?_⟩
  obtain ⟨ep2, he'⟩ := PyProof.Rows.sortedHeap_at (vs := acc.toList) (out := out.toArray) hob
  obtain ⟨qs, k1, k2⟩ := keyV_perm ky h2.perm
  have hq : qs = sortP (keysT x) := by
    have s1 : SrtO.Srtd ltP2 qs := by
      rw [← keyV_map (K := X.K) k1]
      exact List.pairwise_map.mpr h1
    exact srt_uniq ltP2_tot (k2.trans (sortB_perm _).symm) s1 (sortB_srt ltP2_asy ltP2_tr _)
  subst hq
  obtain ⟨k3, k4⟩ := keyV_rl (K := X.K) k1
  have hlo : (out.map backV).length ≤ sizeLine := by rw [List.length_map, h2.perm.length_eq]; exact hzz
  have old : ∀ b u, s.heap.get? b = some u → (sortedHeap (h'.push { cls := .type "list", data := .seq acc.toList.toArray }) h'.objs.size acc.toList out.toArray).get? b = some u := fun b u hu => by
    have h3 := hk b u hu
    have h4 : (h'.push { cls := .type "list", data := .seq acc.toList.toArray }).get? b = some u := Heap.get?_push_of_some _ h3
    rw [PyProof.Rows.sortedHeap_old (Nat.ne_of_lt (Heap.lt_size h3)) (Heap.lt_size h4)]; exact h4
  have hsz : s.heap.objs.size ≤ h'.objs.size := Nat.le_of_lt hsz0
  exact ⟨.ref _, upd H h'.objs.size (.lst (out.map backV)), I.laid (t' := tk) old hsz ⟨hlo, out, ep2, k4, he'⟩, rfl, q _ _ k3 (I.hok.fresh hsz)⟩
end Z

namespace Z
open PySem PySem.Spec PyProof.Rows L2
section
variable {K : PySem.W.Frag} {σ σ' : L2.St} {S S1 S' H H' S0 H0 : Hp} {L L' : List Addr} {ta tb te tl td : TE} {tu t : TS} {Q : VK} {D : Ends} {v y : V} {l : Addr} {x : DT2} {g : TG} {vs : List Nat}
abbrev qP : Rep K (Int × Int) := qT2 qI qI
theorem keys_rl {bs : List Addr} : ∀ {x : DT2}, IsKeys H (dtm x) bs → RL (K := K) qP H (bs.map V.ref) (keysT x) := by
  intro x
  induction bs generalizing x with
  | nil => intro h; cases x with
    | nil => exact .nil
    | cons e x => cases h
  | cons b bs ih => intro h; cases x with
    | nil => cases h
    | cons e x => cases h with
      | cons h1 h2 => exact .cons (key_tup h1) (ih h2)
/-- a list new at H, its items told there: at S, widened -/
theorem toS {α : Type} {τ : Rep K α} {ws : List V} {xs : List α} {p : Addr} (sh : Shal τ) (e : Same S H) (hp : H p = none) (r : RL τ H ws xs)
    (k : ∀ S1 H1, Grow [] S H S1 H1 → H1 p = some (.lst ws) → S1 p = none → RL τ S1 ws xs → Q (.ref p) H1) : Q (.ref p) (upd H p (.lst ws)) := by
  obtain ⟨S1, g1, r1⟩ := shL sh e r
  exact k S1 _ (g1.ext (same_upd hp)) upd_same (g1.sh.free hp) r1
theorem shP : Shal (K := K) qP := shT2 shI shI
theorem l_listD (e : Same S H) (h : DS H v x) (k : ∀ p ws S1 H1, Grow [] S H S1 H1 → H p = none → H1 p = some (.lst ws) → S1 p = none → RL (K := K) qP S1 ws (keysT x) → Q (.ref p) H1) :
    ∃ d kvs, [v] = [V.ref d] ∧ Rd H d (.dT kvs) ∧ ∀ p bs, H p = none → IsKeys H kvs bs → Q (.ref p) (upd H p (.lst (bs.map V.ref))) := by
  obtain ⟨a, rfl, r⟩ := h
  exact ⟨a, _, rfl, r, fun p bs hp hk => toS shP e hp (keys_rl hk) fun S1 H1 g1 h1 h2 h3 => k p _ S1 H1 g1 hp h1 h2 h3⟩
theorem l_sortD (e : Same S H) (h : ∃ a, v = .ref a ∧ H a = some (.dT (dtm x))) (k : ∀ p ws S1 H1, Grow [] S H S1 H1 → H p = none → H1 p = some (.lst ws) → S1 p = none → RL (K := K) qP S1 ws (sortP (keysT x)) → Q (.ref p) H1) : rSortedDT K [v] H Q := by
  obtain ⟨a, rfl, r⟩ := h
  exact ⟨a, x, rfl, r, fun ws p hr hp => toS shP e hp hr fun S1 H1 g1 h1 h2 h3 => k p _ S1 H1 g1 hp h1 h2 h3⟩
theorem RdD.at (q : RdD L S0 H0 v x) (gr : Grow L S0 H0 S H) : ∃ a, v = .ref a ∧ H a = some (.dT (dtm x)) := by
  obtain ⟨a, rfl, h1, h2, _⟩ := q
  exact ⟨a, rfl, gr.hh _ _ h2 h1⟩
theorem celD {kvs : List (List Key × V)} (c : Cel L H0 S H l (.dT kvs)) (r : TR kvs x) : ∃ a, V.ref l = .ref a ∧ H a = some (.dT (dtm x)) := ⟨l, rfl, r ▸ c.h⟩
theorem RdD.none (q : RdD L S0 H0 v x) (gr : Grow L S0 H0 S H) : ∃ a, v = .ref a ∧ H a = some (.dT (dtm x)) ∧ S a = Option.none := by
  obtain ⟨a, rfl, h1, h2, h3⟩ := q
  exact ⟨a, rfl, gr.hh _ _ h2 h1, gr.fr _ _ h3 h1 rfl⟩
/-! ### while, its test with effects -/
theorem z_whileE {tc : TT} {tb : TS} {n0 : Nat} (Pv : Nat → L2.St → Hp → Prop) (h0 : Pv n0 σ H)
    (hs : ∀ n σ' H', Pv n σ' H' → tc σ' H' fun b H1 => if b = true then ∃ N : L2.St → Hp → Prop, (∀ σ2 H2, N σ2 H2 → ∃ m', m' < n ∧ Pv m' σ2 H2) ∧ tb { D with nx := N, ct := N, bk := tu D } σ' H1 else tu D σ' H1) : tSeq (tWhile tc tb) tu D σ H := ⟨Pv, ⟨n0, h0⟩, hs⟩
theorem whN {n n1 : Nat} {Pv : Nat → L2.St → Hp → Prop} {P : (L2.St → Hp → Prop) → Prop} (e : n = n1 + 1) (h : ∀ N : L2.St → Hp → Prop, (∀ σ2 H2, Pv n1 σ2 H2 → N σ2 H2) → P N) : ∃ N : L2.St → Hp → Prop, (∀ σ2 H2, N σ2 H2 → ∃ m', m' < n ∧ Pv m' σ2 H2) ∧ P N :=
  ⟨Pv n1, fun σ2 H2 p => ⟨n1, by omega, p⟩, h _ fun _ _ p => p⟩
/-! ### a list of lists of one's own -/
structure LOD {α : Type} (τ : Rep K α) (L : List Addr) (H0 S H : Hp) (as : List Addr) (xss : List (List α)) : Prop where
  nd : as.Nodup
  c : Paired (fun a xs => ∃ ws, Cel L H0 S H a (.lst ws) ∧ RL τ S ws xs) as xss
section
variable {α : Type} {τ : Rep K α} {as : List Addr} {xss : List (List α)}
theorem LOD.map (h : LOD τ L H0 S H as xss) {L1 : List Addr} {H1 S2 H2 : Hp} (f : ∀ a ∈ as, ∀ ws xs, Cel L H0 S H a (.lst ws) → RL τ S ws xs → Cel L1 H1 S2 H2 a (.lst ws) ∧ RL τ S2 ws xs) : LOD τ L1 H1 S2 H2 as xss := by
  refine ⟨h.nd, ?_⟩
  have all : ∀ {as : List Addr} {xss : List (List α)}, Paired (fun a xs => ∃ ws, Cel L H0 S H a (.lst ws) ∧ RL τ S ws xs) as xss → (∀ a ∈ as, ∀ ws xs, Cel L H0 S H a (.lst ws) → RL τ S ws xs → Cel L1 H1 S2 H2 a (.lst ws) ∧ RL τ S2 ws xs) →
      Paired (fun a xs => ∃ ws, Cel L1 H1 S2 H2 a (.lst ws) ∧ RL τ S2 ws xs) as xss := by
    intro as xss r
    induction r with
    | nil => intro _; exact .nil
    | cons a _ ih =>
      intro f
      obtain ⟨ws, c1, r1⟩ := a
      exact .cons ⟨ws, f _ (List.mem_cons_self) _ _ c1 r1⟩ (ih fun b m => f b (List.mem_cons_of_mem _ m))
  exact all h.c f
theorem LOD.ext (h : LOD τ L H0 S H as xss) (e : Same H H') : LOD τ L H0 S H' as xss := h.map fun _ _ _ _ c r => ⟨c.ext e, r⟩
theorem LOD.grow (h : LOD τ L H0 S H as xss) (gr : Grow L' S H S' H') (n : ∀ a ∈ as, a ∉ L') : LOD τ L H0 S' H' as xss := h.map fun a m _ _ c r => ⟨c.call gr (n a m), RL.mono gr.ss r⟩
theorem LOD.grow0 (h : LOD τ L H0 S H as xss) (gr : Grow [] S H S' H') : LOD τ L H0 S' H' as xss := h.grow gr fun _ _ z => nomatch z
theorem LOD.ot (h : LOD τ L H0 S H as xss) (eS : Same S S') (ot : ∀ l' o', l' ≠ l → Cel L H0 S H l' o' → Cel L H0 S' H' l' o') (n : ∀ a ∈ as, a ≠ l) : LOD τ L H0 S' H' as xss := h.map fun a m _ _ c r => ⟨ot _ _ (n a m) c, RL.mono eS r⟩
theorem LOD.len (h : LOD τ L H0 S H as xss) : as.length = xss.length := Paired.length h.c
theorem LOD.ne (h : LOD τ L H0 S H as xss) {p : Addr} (hp : H p = none) : ∀ a ∈ as, a ≠ p := by
  have all : ∀ {as : List Addr} {xss : List (List α)}, Paired (fun a xs => ∃ ws, Cel L H0 S H a (.lst ws) ∧ RL τ S ws xs) as xss → ∀ a ∈ as, a ≠ p := by
    intro as xss r
    induction r with
    | nil => intro a m; cases m
    | cons a _ ih =>
      intro b m
      obtain ⟨ws, c1, _⟩ := a
      rcases List.mem_cons.mp m with rfl | m
      · exact c1.ne hp
      · exact ih b m
  exact all h.c
theorem LOD.notin {h : ∀ a ∈ as, a ≠ l} (t : ∀ a ∈ as, a ∉ L') : ∀ a ∈ as, a ∉ l :: L' := fun a m q => by
  rcases List.mem_cons.mp q with rfl | q
  · exact h _ m rfl
  · exact t a m q
theorem paired_at {β γ : Type} {R : β → γ → Prop} : ∀ {xs : List β} {ys : List γ}, Paired R xs ys → ∀ {j : Nat} {z : γ}, ys[j]? = some z → ∃ b, xs[j]? = some b ∧ R b z
  | _, _, .nil, j, z, h => by simp at h
  | _, _, .cons a t, 0, z, h => by simp at h; subst h; exact ⟨_, rfl, a⟩
  | _, _, .cons a t, j + 1, z, h => by
    obtain ⟨b, h1, h2⟩ := paired_at t (j := j) (by simpa using h)
    exact ⟨b, by simpa using h1, h2⟩
/-- a row of it -/
theorem LOD.at (h : LOD τ L H0 S H as xss) {i : Int} {xs : List α} (hx : atI xss i = some xs) : ∃ (a : Addr) (ws : List V) (j : Nat), L2.atI (as.map V.ref) i = some (.ref a) ∧ Cel L H0 S H a (.lst ws) ∧ RL τ S ws xs ∧ ixN xss.length i = some j ∧ as[j]? = some a ∧ a ∈ as := by
  unfold atI at hx
  cases e : ixN xss.length i with
  | none => rw [e] at hx; cases hx
  | some j =>
    rw [e] at hx
    obtain ⟨a, h1, ws, c, r⟩ := paired_at h.c (show xss[j]? = some xs from hx)
    refine ⟨a, ws, j, ?_, c, r, rfl, h1, List.mem_of_getElem? h1⟩
    unfold L2.atI
    rw [List.length_map, h.len, e]
    show (as.map V.ref)[j]? = _
    rw [List.getElem?_map, h1]; rfl
theorem LOD.set (h : LOD τ L H0 S H as xss) {j : Nat} {a : Addr} {ws : List V} {ys : List α} {H1 : Hp} (ha : as[j]? = some a) (ot : ∀ l' o', l' ≠ a → Cel L H0 S H l' o' → Cel L H0 S H1 l' o') (c : Cel L H0 S H1 a (.lst ws)) (r : RL τ S ws ys) : LOD τ L H0 S H1 as (xss.set j ys) := by
  refine ⟨h.nd, ?_⟩
  have all : ∀ {as : List Addr} {xss : List (List α)} {j : Nat}, as.Nodup → as[j]? = some a → Paired (fun a xs => ∃ ws, Cel L H0 S H a (.lst ws) ∧ RL τ S ws xs) as xss →
      Paired (fun a xs => ∃ ws, Cel L H0 S H1 a (.lst ws) ∧ RL τ S ws xs) as (xss.set j ys) := by
    intro as xss j nd ha p
    induction p generalizing j with
    | nil => simp at ha
    | @cons b xs as' xss' q t ih =>
      obtain ⟨nb, nt⟩ := List.nodup_cons.mp nd
      cases j with
      | zero =>
        simp at ha; subst ha
        refine .cons ⟨ws, c, r⟩ ?_
        have keep : ∀ {bs : List Addr} {yss : List (List α)}, b ∉ bs → Paired (fun a xs => ∃ ws, Cel L H0 S H a (.lst ws) ∧ RL τ S ws xs) bs yss → Paired (fun a xs => ∃ ws, Cel L H0 S H1 a (.lst ws) ∧ RL τ S ws xs) bs yss := by
          intro bs yss nm p
          induction p with
          | nil => exact .nil
          | cons q _ ih2 =>
            obtain ⟨w2, c2, r2⟩ := q
            rw [List.mem_cons, not_or] at nm
            exact .cons ⟨w2, ot _ _ (fun z => nm.1 z.symm) c2, r2⟩ (ih2 nm.2)
        exact keep nb t
      | succ j =>
        have ha' : as'[j]? = some a := by simpa using ha
        obtain ⟨w2, c2, r2⟩ := q
        refine .cons ⟨w2, ot _ _ (fun z => ?_) c2, r2⟩ (ih nt ha')
        subst z; exact nb (List.mem_of_getElem? ha')
  exact all h.nd ha h.c
/-- owned[i].append(v) -/
theorem c_appLod {i : Int} {q : α} {xs : List α} {yss : List (List α)} {a : Addr} {ws : List V} {j : Nat} (gr : Grow L S0 H0 S H) (h : LOD τ L H0 S H as xss) (cl : Cel L H0 S H a (.lst ws)) (r : RL τ S ws xs) (hj : ixN xss.length i = some j) (ha : as[j]? = some a) (rv : τ.R S v q) (hz : xs.length < 16777216) (he : setI xss i (xs ++ [q]) = some yss)
    (k : ∀ H', Grow L S0 H0 S H' → LOD τ L H0 S H' as yss → (∀ l' o', l' ≠ a → Cel L H0 S H l' o' → Cel L H0 S H' l' o') → Q .non H') : rAppend (.ref a) [v] H Q := by
  unfold setI at he
  rw [hj] at he
  have he : xss.set j (xs ++ [q]) = yss := Option.some.inj he
  refine ⟨a, ws, v, rfl, rfl, cl.h, by rw [r.length, sizeLine_eq]; exact hz, k _ (gr.wr cl rfl) ?_ fun l' o' n c => c.wrn n⟩
  rw [← he]
  exact h.set ha (fun l' o' n c => c.wrn n) (cl.wr rfl) (r.app (.cons rv .nil))
/-- [[] for x in xs] -/
theorem c_lodNew {a : Addr} {us : List V} {β : Type} {R : V → β → Prop} {xs : List β} {j : Nat} (gr : Grow L S0 H0 S H) (ha : Val tl σ H (.ref a)) (hq : SqL K H a us) (hp : Paired R us xs)
    (k : ∀ P as H', Same H H' → H P = none → (∀ a ∈ as, H a = none) → (∀ a ∈ as, a ≠ P) → H' P = some (.lst (as.map V.ref)) → LOD τ L H0 S H' as (xs.map fun _ => ([] : List α)) → xs.length ≤ 16777216 → Q (.ref P) H') (hz : xs.length ≤ 16777216) :
    tLc (iList K tl) (gName j) tYes (tLst tNil) [j] σ H Q :=
  ha _ ⟨a, rfl, ⟨us, hq⟩, fun P hP => by
    refine turnsC_list hp (fun ys H' => ∃ as, Same H H' ∧ H' P = some (.lst (as.map V.ref)) ∧ (∀ a ∈ as, H a = none ∧ a ≠ P ∧ H' a = some (.lst [])) ∧ as.Nodup ∧ as.length + ys.length = xs.length) ⟨[], same_upd hP, upd_same, (fun _ z => nomatch z), List.nodup_nil, by simp⟩ (fun zs H' p => ?_) (fun w x zs H' rw_ p N hN => ?_) fun H' p => ?_
    · obtain ⟨_, e, _⟩ := p
      exact e.seq hq
    · obtain ⟨as, e, h1, h2, h3, h4⟩ := p
      refine g_name (σ' := σ.set j (some w)) (by rw [wipe_one, List.set_set]) ⟨by rw [show σ.set j (some w) = (wipe σ [j]).set j (some w) by rw [wipe_one, List.set_set]]; exact wipe_again j w, c_yes ?_⟩
      refine ift ⟨by rw [sizeLine_eq]; exact Nat.zero_le _, fun p hp => ⟨as.map V.ref, ?_, ?_, hN _ ⟨as ++ [p], fun b o q => ?_, ?_, fun b hb => ?_, ?_, ?_⟩⟩⟩
      · rw [upd_ne (fun z => by subst z; rw [h1] at hp; cases hp)]; exact h1
      · rw [List.length_map, sizeLine_eq]; simp only [List.length_cons] at h4; omega
      · have n1 : b ≠ P := ne_of_none q hP
        have n2 : b ≠ p := ne_of_none (e _ _ q) hp
        rw [upd_ne n1, upd_ne n2]; exact e _ _ q
      · rw [upd_same, List.map_append]; rfl
      · have n1 : p ≠ P := fun z => by subst z; rw [h1] at hp; cases hp
        rcases List.mem_append.mp hb with hb | hb
        · obtain ⟨h5, h6, h7⟩ := h2 b hb
          have n2 : b ≠ p := fun z => by subst z; rw [hp] at h7; cases h7
          exact ⟨h5, h6, by rw [upd_ne h6, upd_ne n2]; exact h7⟩
        · cases List.mem_singleton.mp hb
          exact ⟨e.free hp, n1, by rw [upd_ne n1]; exact upd_same⟩
      · refine List.nodup_append.mpr ⟨h3, by simp, fun b hb c hc z => ?_⟩
        cases List.mem_singleton.mp hc
        subst z
        obtain ⟨_, _, h7⟩ := h2 b hb
        rw [hp] at h7; cases h7
      · rw [List.length_append, List.length_singleton]; simp only [List.length_cons] at h4; omega
    · obtain ⟨as, e, h1, h2, h3, h4⟩ := p
      refine k P as H' e hP (fun b hb => (h2 b hb).1) (fun b hb => (h2 b hb).2.1) h1 ⟨h3, ?_⟩ hz
      have all : ∀ {as : List Addr} {xs : List β}, (∀ b ∈ as, H b = none ∧ b ≠ P ∧ H' b = some (.lst [])) → as.length = xs.length → Paired (fun a ys => ∃ ws, Cel L H0 S H' a (.lst ws) ∧ RL τ S ws ys) as (xs.map fun _ => ([] : List α)) := by
        intro as
        induction as with
        | nil => intro xs _ hl; cases xs with
          | nil => exact .nil
          | cons => cases hl
        | cons b as ih => intro xs hb hl; cases xs with
          | nil => cases hl
          | cons y xs =>
            obtain ⟨h5, h6, h7⟩ := hb b (List.mem_cons_self)
            exact .cons ⟨[], Cel.own gr e h5 h7 rfl, .nil⟩ (ih (fun c hc => hb c (List.mem_cons_of_mem _ hc)) (by simpa using hl))
      exact all h2 (by simpa using h4)⟩
end
/-! ### an own part of an object, handed back: where it stood, or new -/
theorem reb_ne {o : HO} {l l' c : Addr} (h : l' = l ∨ H l' = none) (hc : H c = some o) (n : c ≠ l) : c ≠ l' := by
  rcases h with rfl | h
  · exact n
  · exact ne_of_none hc h
theorem reb_z {o : HO} {l l' : Addr} (gr : Grow L S0 H0 S H) (h : l' = l ∨ H l' = none) (c : Cel L H0 S H l o) : H0 l' = none ∨ l' ∈ L := by
  rcases h with rfl | h
  · exact c.z
  · exact .inl (gr.hnone h)
theorem mut_reb {o : HO} {l l' : Addr} (gr : Grow L S0 H0 S H) (h : l' = l ∨ H l' = none) (c : Cel L H0 S H l o) {S2 H2 : Hp} {o' : HO} (h2 : H2 l' = some o') (s2 : S2 l' = none) (m : mo o' = true) : Cel L H0 S2 H2 l' o' := ⟨h2, s2, reb_z gr h c, m⟩
end
end Z
namespace Z
open PySem PySem.Spec PyProof.Rows L2
section
variable {K : PySem.W.Frag} {σ σ' : L2.St} {S S1 S' H H' S0 H0 : Hp} {L L' : List Addr} {ta tb te tl td : TE} {Q : VK} {l l' l0 : Addr}
theorem reb_z0 (gr : Grow L S0 H0 S H) (h : l' = l ∨ H l' = none) (z : H0 l = none) : H0 l' = none := by
  rcases h with rfl | h
  · exact z
  · exact gr.hnone h
theorem reb_rb (gr : Grow L S0 H0 S H) (h : l' = l ∨ H l' = none) (r : l = l0 ∨ H0 l = none) : l' = l0 ∨ H0 l' = none := by
  rcases h with rfl | h
  · exact r
  · exact .inr (gr.hnone h)
theorem c_methXO {C dx : Addr} {fs : List (Str × V)} {m : Str} {sp : Sp} {E : L2.St → XK} {t : TA} (ha : Val ta σ H (.ref l)) (h : H l = some (.ins C dx fs)) (hm : fs.lookup m = none) (k : t σ H fun vs H2 => sp (.ref l :: vs) H2 Q (E σ)) : tMethX C m sp E ta t σ H Q :=
  ha _ ⟨l, dx, fs, rfl, h, hm, k⟩
end
end Z

namespace Z
open PySem PySem.Spec PyProof.Rows L2
section
variable {K : PySem.W.Frag} {σ : L2.St} {S H S0 H0 : Hp} {L : List Addr} {ta tb te : TE} {Q : VK} {x y v : V}
theorem room65 {k : Nat} {A : Around} (r : Room k A) : A.units + 65 < cLine := by have := r.un; omega
theorem any_enc {α : Type} [DecidableEq α] {τ : Rep K α} (d : Dat τ) (p : α) (xs : List α) : ((xs.map d.enc).any fun z => PyData.eqv z (d.enc p)) = xs.any fun z => decide (z = p) := by
  rw [List.any_map]; congr 1; funext z; exact d.eqv z p
theorem e_inD {α : Type} [DecidableEq α] {τ υ : Rep K α} (d : Dat τ) (d' : Dat υ) (he : d.enc = d'.enc) (hn : d.n + 1 ≤ 64) {p : α} {xs : List α} (h1 : υ.R H x p) (h2 : (qQ τ).R H y xs) (k : Q (.bl (xs.any fun z => decide (z = p))) H) : rInD K x y H Q :=
  ⟨d.enc p, xs.map d.enc, by rw [he]; exact d'.dp h1, (dQ d).dp h2, d.shaped (by omega) p, (dQ d).shaped hn xs, by rw [any_enc]; exact k⟩
theorem e_ninD {α : Type} [DecidableEq α] {τ υ : Rep K α} (d : Dat τ) (d' : Dat υ) (he : d.enc = d'.enc) (hn : d.n + 1 ≤ 64) {p : α} {xs : List α} (h1 : υ.R H x p) (h2 : (qQ τ).R H y xs) (k : Q (.bl (!xs.any fun z => decide (z = p))) H) : rNotInD K x y H Q :=
  ⟨d.enc p, xs.map d.enc, by rw [he]; exact d'.dp h1, (dQ d).dp h2, d.shaped (by omega) p, (dQ d).shaped hn xs, by rw [any_enc]; exact k⟩
theorem v_inD {α : Type} [DecidableEq α] {τ υ : Rep K α} (d : Dat τ) (d' : Dat υ) (he : d.enc = d'.enc) (hn : d.n + 1 ≤ 64) {p : α} {xs : List α} (ha : Val ta σ H x) (hb : Val tb σ H y) (h1 : υ.R H x p) (h2 : (qQ τ).R H y xs) : Val (tOp (rInD K) ta tb) σ H (.bl (xs.any fun z => decide (z = p))) := fun Q k => ha _ (hb _ (e_inD d d' he hn h1 h2 k))
theorem v_ninD {α : Type} [DecidableEq α] {τ υ : Rep K α} (d : Dat τ) (d' : Dat υ) (he : d.enc = d'.enc) (hn : d.n + 1 ≤ 64) {p : α} {xs : List α} (ha : Val ta σ H x) (hb : Val tb σ H y) (h1 : υ.R H x p) (h2 : (qQ τ).R H y xs) : Val (tOp (rNotInD K) ta tb) σ H (.bl (!xs.any fun z => decide (z = p))) := fun Q k => ha _ (hb _ (e_ninD d d' he hn h1 h2 k))
theorem OP.nameA {α : Type} {m : Option α} {A : α → Prop} (h : OP m A) : ∃ B : α → Prop, B = A ∧ OP m B := ⟨A, rfl, h⟩
theorem nxk {a bk ct : L2.St → Hp → Prop} {rt : VK} (q : a σ H) : ({ nx := a, rt := rt, bk := bk, ct := ct } : Ends).nx σ H := q
theorem OP.pr3 {α β γ δ : Type} {k : α → β → γ → Option δ} {a : α} {b : β} {c : γ} {A : δ → Prop} (h : OP (Z.lt (a, b, c).1 fun x => Z.lt (a, b, c).2.1 fun y => Z.lt (a, b, c).2.2 fun z => k x y z) A) : OP (k a b c) A := by
  unfold Z.lt at h; exact h
theorem OP.pr4 {α β γ δ ε : Type} {k : α → β → γ → δ → Option ε} {a : α} {b : β} {c : γ} {d : δ} {A : ε → Prop} (h : OP (Z.lt (a, b, c, d).1 fun x => Z.lt (a, b, c, d).2.1 fun y => Z.lt (a, b, c, d).2.2.1 fun z => Z.lt (a, b, c, d).2.2.2 fun u => k x y z u) A) : OP (k a b c d) A := by
  unfold Z.lt at h; exact h
theorem OP.pr5 {α β γ δ ε ζ : Type} {k : α → β → γ → δ → ε → Option ζ} {a : α} {b : β} {c : γ} {d : δ} {e : ε} {A : ζ → Prop} (h : OP (Z.lt (a, b, c, d, e).1 fun x => Z.lt (a, b, c, d, e).2.1 fun y => Z.lt (a, b, c, d, e).2.2.1 fun z => Z.lt (a, b, c, d, e).2.2.2.1 fun u => Z.lt (a, b, c, d, e).2.2.2.2 fun v => k x y z u v) A) : OP (k a b c d e) A := by
  unfold Z.lt at h; exact h
/-- a value that is dropped -/
def qA : Rep K Unit := ⟨fun _ _ _ => True, fun _ h => h⟩
end
end Z
namespace Z
open PySem PySem.Spec PyProof.Rows L2
theorem call_isESX {X : Cx} {a : Addr} {cls : Value} {d : Option Addr} {oe : Obj} (hp : (a, oe) ∈ X.pn) (hz : Zc cls d oe) (hf : ∃ vs, oe.data = .fields vs) : CallR X (.builtin "isinstance") (rIsES X.K cls d a) := fun pins s σ H xs us Q I r h => by
  obtain ⟨D, c, cv, b, rfl, rfl, C, rfl, kc, e, q⟩ := h
  obtain ⟨v1, v2, rfl, w1, w2⟩ := vals2 r
  have ev : v2 = cv := kc.eq w2
  subst ev
  cases (show v1 = _ from w1)
  exact PySem.W.kia_one (PySem.W.handS_kitx_exc C.hg C.hk C.hs C.hd C.ha C.hn C.ht C.hm) I.kIn (pinX hp I hz hf) e (fun z => nomatch z) fun tk => ⟨.bl b, H, I.kept (t' := tk) fun _ _ z => z, rfl, q⟩
end Z

namespace Z
open PySem PySem.Spec PyProof.Rows L2
/-! ### a diary's entries, and the end of a hunt -/
inductive EK | add | shut | push deriving DecidableEq
def EK.s : EK → Str
  | .add => "add"
  | .shut => "shut"
  | .push => "push"
structure Ent where
  t : EK
  k : Int
  b : Option (Int × Int)
deriving DecidableEq
def Ent.len (x : Ent) : Int := if x.b.isSome then 3 else 2
inductive FK | ever | never deriving DecidableEq
def FK.s : FK → Str
  | .ever => "ever"
  | .never => "never"
inductive FX | nums (xs : List Int) | prs (xs : List (Int × Int))
structure Fin_ where
  t : FK
  x : FX
def FX.getI : FX → Option (List Int)
  | .nums xs => some xs
  | .prs _ => none
def FX.getB : FX → Option (List (Int × Int))
  | .nums _ => none
  | .prs xs => some xs
theorem EK.inj {a b : EK} (h : a.s = b.s) : a = b := by
  cases a <;> cases b <;> first | rfl | (exact absurd h (by decide))
theorem EK.ok (a : EK) : PyData.strOk a.s = true := by cases a <;> decide +kernel
section
variable {K : PySem.W.Frag} {σ : L2.St} {S H : Hp} {v : V} {ta tb tc : TE}
def entR (K : PySem.W.Frag) (H : Hp) (v : V) (x : Ent) : Prop :=
  match x.b with
  | none => ∃ a, v = .ref a ∧ H a = some (.tup [.str x.t.s, .int x.k])
  | some b => ∃ a w, v = .ref a ∧ H a = some (.tup [.str x.t.s, .int x.k, w]) ∧ (qT2 (K := K) qI qI).R H w b
def qE : Rep K Ent := ⟨fun H v x => entR K H v x, fun {H H' v x} e h => by
  obtain ⟨t, k, b⟩ := x
  cases b with
  | none =>
    obtain ⟨a, h1, h2⟩ := h
    exact ⟨a, h1, e _ _ h2⟩
  | some b =>
    obtain ⟨a, w, h1, h2, h3⟩ := h
    exact ⟨a, w, h1, e _ _ h2, (qT2 (K := K) qI qI).mono e h3⟩⟩
theorem qE2 {t : EK} {s : Str} {i : Int} (h : (qT2 (K := K) qS qI).R S v (s, i)) (e : s = t.s) : (qE (K := K)).R S v ⟨t, i, none⟩ := by
  obtain ⟨a, w1, w2, rfl, h2, h3, h4⟩ := h
  cases (show w1 = .str s from h3)
  cases (show w2 = .int i from h4)
  subst e
  exact ⟨a, rfl, h2⟩
theorem qE3 {t : EK} {s : Str} {i : Int} {b : Int × Int} (h : (qT3 (K := K) qS qI (qT2 qI qI)).R S v (s, i, b)) (e : s = t.s) : (qE (K := K)).R S v ⟨t, i, some b⟩ := by
  obtain ⟨a, w1, w2, w3, rfl, h2, h3, h4, h5⟩ := h
  cases (show w1 = .str s from h3)
  cases (show w2 = .int i from h4)
  subst e
  exact ⟨a, w3, rfl, h2, h5⟩
/-- what an entry is, in the heap -/
theorem entR.tup {x : Ent} (h : entR K H v x) : ∃ a ws, v = .ref a ∧ H a = some (.tup (.str x.t.s :: .int x.k :: ws)) ∧ (ws.length : Int) + 2 = x.len ∧ ∀ w ∈ ws, ∃ p, w = .ref p ∧ ∃ us, H p = some (.tup us) := by
  obtain ⟨t, k, b⟩ := x
  cases b with
  | none =>
    obtain ⟨a, h1, h2⟩ := h
    exact ⟨a, [], h1, h2, rfl, fun w hw => nomatch hw⟩
  | some b =>
    obtain ⟨a, w, h1, h2, h3⟩ := h
    obtain ⟨p, w1, w2, e1, e2, _⟩ := h3
    refine ⟨a, [w], h1, h2, rfl, fun z hz => ?_⟩
    rw [List.mem_singleton.mp hz]
    exact ⟨p, e1, _, e2⟩
theorem nn_e {x : Ent} (h : (qE (K := K)).R H v x) : v ≠ .non := by
  obtain ⟨a, ws, rfl, _⟩ := entR.tup h
  exact fun z => nomatch z
theorem ty_e {x : Ent} (h : (qE (K := K)).R H v x) : TyX K H v (.type "tuple") := by
  obtain ⟨a, ws, rfl, h2, _⟩ := entR.tup h
  exact .base (.tup h2)
theorem v_lenE {x : Ent} (ha : Val ta σ H v) (h : (qE (K := K)).R H v x) : Val (tCB (rLenS K) (tCons ta tNil)) σ H (.int x.len) := by
  obtain ⟨a, ws, rfl, h2, h3, _⟩ := entR.tup h
  refine fun Q q => ha _ ⟨a, _, rfl, .inr (SqT.of h2), ?_⟩
  rw [List.length_cons, List.length_cons]
  have : ((ws.length + 1 + 1 : Nat) : Int) = x.len := by omega
  rw [this]
  exact q
theorem v_E0 {x : Ent} (ha : Val ta σ H v) (hb : Val tb σ H (.int 0)) (h : (qE (K := K)).R H v x) : Val (tOp (rIxT K) ta tb) σ H (.str x.t.s) := by
  obtain ⟨a, ws, rfl, h2, _⟩ := entR.tup h
  exact fun Q q => ha _ (hb _ ⟨a, _, 0, _, rfl, rfl, SqT.of h2, L2.atI_nat (j := 0) rfl, q⟩)
theorem v_E1 {x : Ent} (ha : Val ta σ H v) (hb : Val tb σ H (.int 1)) (h : (qE (K := K)).R H v x) : Val (tOp (rIxT K) ta tb) σ H (.int x.k) := by
  obtain ⟨a, ws, rfl, h2, _⟩ := entR.tup h
  exact fun Q q => ha _ (hb _ ⟨a, _, 1, _, rfl, rfl, SqT.of h2, L2.atI_nat (j := 1) rfl, q⟩)
theorem v_E2 {x : Ent} {y : Int × Int} (e : Same S H) (h : (qE (K := K)).R S v x) (hy : x.b = some y) : ∃ w, (∀ {σ : L2.St} {ta tb : TE}, Val ta σ H v → Val tb σ H (.int 2) → Val (tOp (rIxT K) ta tb) σ H w) ∧ (qT2 (K := K) qI qI).R S w y := by
  obtain ⟨t, k, b⟩ := x
  cases (show b = some y from hy)
  obtain ⟨a, w, rfl, h2, h3⟩ := h
  exact ⟨w, fun ha hb Q q => ha _ (hb _ ⟨a, _, 2, _, rfl, rfl, SqT.of (e _ _ h2), L2.atI_nat (j := 2) rfl, q⟩), h3⟩
/-- isinstance(x[k], bool) of an entry -/
theorem v_isEB {x : Ent} {k : Int} (ha : Val ta σ H v) (hb : Val tb σ H (.int k)) (h : (qE (K := K)).R H v x) (hk : 0 ≤ k ∧ k < x.len) : Val (tCB (rIsi K) (tCons (tOp (rIxT K) ta tb) (tCons (tC (.ty "bool")) tNil))) σ H (.bl false) := by
  obtain ⟨a, ws, rfl, h2, h3, h4⟩ := entR.tup h
  obtain ⟨j, rfl⟩ : ∃ j : Nat, k = (j : Int) := ⟨k.toNat, by omega⟩
  have hj : j < (V.str x.t.s :: V.int x.k :: ws).length := by rw [List.length_cons, List.length_cons]; omega
  have key : ∀ {w : V} {T : String}, (V.str x.t.s :: V.int x.k :: ws)[j]? = some w → TyX K H w (.type T) → kitB T "bool" = some false → Val (tCB (rIsi K) (tCons (tOp (rIxT K) ta tb) (tCons (tC (.ty "bool")) tNil))) σ H (.bl false) := by
    intro w T hw ty hk
    exact v_isi (fun Q q => ha _ (hb _ ⟨a, _, _, _, rfl, rfl, SqT.of h2, L2.atI_nat hw, q⟩)) ty hk
  match j, hj with
  | 0, _ => exact key rfl ty_str (by decide +kernel)
  | 1, _ => exact key rfl ty_int (by decide +kernel)
  | j + 2, hj =>
    have hj2 : j < ws.length := by rw [List.length_cons, List.length_cons] at hj; omega
    obtain ⟨p, hp, us, hu⟩ := h4 ws[j] (List.getElem_mem hj2)
    refine key (w := ws[j]) ?_ (T := "tuple") (by rw [hp]; exact .base (.tup hu)) (by decide +kernel)
    show ws[j]? = some ws[j]
    exact List.getElem?_eq_getElem hj2
def encE (x : Ent) : PyData := match x.b with
  | none => .tuple [.str x.t.s, .int x.k]
  | some b => .tuple [.str x.t.s, .int x.k, .tuple [.int b.1, .int b.2]]
def dE : Dat (K := K) qE := ⟨encE, fun {H v x} h => by
    obtain ⟨t, k, b⟩ := x
    cases b with
    | none =>
      obtain ⟨a, rfl, h2⟩ := h
      exact .tup (SqT.of h2) (.cons (.str _) (.cons (.int _) .nil))
    | some b =>
      obtain ⟨a, w, rfl, h2, h3⟩ := h
      exact .tup (SqT.of h2) (.cons (.str _) (.cons (.int _) (.cons ((dT2 (K := K) dI dI).dp h3) .nil))), fun x => by
    obtain ⟨t, k, b⟩ := x
    have := EK.ok t
    cases b with
    | none =>
      show PyData.canLayAll0 [.str t.s, .int k] = true
      simp [PyData.canLayAll0, PyData.canLay0, this]
    | some b =>
      show PyData.canLayAll0 [.str t.s, .int k, .tuple [.int b.1, .int b.2]] = true
      simp [PyData.canLayAll0, PyData.canLay0, this], 3, fun x => by
    obtain ⟨t, k, b⟩ := x
    cases b with
    | none => simp [encE, PyData.depth, PyData.depthAll]
    | some b => simp [encE, PyData.depth, PyData.depthAll], fun x y => by
    obtain ⟨t, k, b⟩ := x
    obtain ⟨t', k', b'⟩ := y
    have ib : ∀ a b : Int, (a == b) = decide (a = b) := fun a b => Bool.beq_eq_decide_eq a b
    have et : ∀ t t' : EK, (t.s == t'.s) = decide (t = t') := fun t t' => by
      rw [Bool.beq_eq_decide_eq]
      exact decide_eq_decide.mpr ⟨EK.inj, fun h => by rw [h]⟩
    cases b with
    | none =>
      cases b' with
      | none =>
        simp [encE, PyData.eqv, PyData.eqvAll, et, ib]
      | some b' => simp [encE, PyData.eqv, PyData.eqvAll, et, ib]
    | some b =>
      cases b' with
      | none => simp [encE, PyData.eqv, PyData.eqvAll, et, ib]
      | some b' =>
        obtain ⟨b1, b2⟩ := b
        obtain ⟨c1, c2⟩ := b'
        simp [encE, PyData.eqv, PyData.eqvAll, et, ib]⟩
theorem nnE : NN (K := K) dE := fun x => by
  obtain ⟨t, k, b⟩ := x
  cases b <;> exact ⟨rfl, rfl⟩
/-! the end -/
def fxR (K : PySem.W.Frag) (H : Hp) (v : V) : FX → Prop
  | .nums xs => (qL (K := K) qI).R H v xs
  | .prs xs => (qL (K := K) (qT2 qI qI)).R H v xs
def qX : Rep K FX := ⟨fun H v x => fxR K H v x, fun {H H' v x} e h => by
  cases x with
  | nums xs => exact (qL (K := K) qI).mono e h
  | prs xs => exact (qL (K := K) (qT2 qI qI)).mono e h⟩
def qF : Rep K Fin_ := ⟨fun H v x => ∃ a w, v = .ref a ∧ H a = some (.tup [.str x.t.s, w]) ∧ fxR K H w x.x, fun {H H' v x} e h => by
  obtain ⟨a, w, h1, h2, h3⟩ := h
  exact ⟨a, w, h1, e _ _ h2, qX.mono e h3⟩⟩
theorem qFi {t : FK} {s : Str} {xs : List Int} (h : (qT2 (K := K) qS (qL qI)).R S v (s, xs)) (e : s = t.s) : (qF (K := K)).R S v ⟨t, .nums xs⟩ := by
  obtain ⟨a, w1, w2, rfl, h2, h3, h4⟩ := h
  cases (show w1 = .str s from h3)
  subst e
  exact ⟨a, w2, rfl, h2, h4⟩
theorem qFb {t : FK} {s : Str} {xs : List (Int × Int)} (h : (qT2 (K := K) qS (qL (qT2 qI qI))).R S v (s, xs)) (e : s = t.s) : (qF (K := K)).R S v ⟨t, .prs xs⟩ := by
  obtain ⟨a, w1, w2, rfl, h2, h3, h4⟩ := h
  cases (show w1 = .str s from h3)
  subst e
  exact ⟨a, w2, rfl, h2, h4⟩
theorem qFx {t : FK} {s : Str} {x : FX} (h : (qT2 (K := K) qS qX).R S v (s, x)) (e : s = t.s) : (qF (K := K)).R S v ⟨t, x⟩ := by
  obtain ⟨a, w1, w2, rfl, h2, h3, h4⟩ := h
  cases (show w1 = .str s from h3)
  subst e
  exact ⟨a, w2, rfl, h2, h4⟩
theorem nn_f {x : Fin_} (h : (qF (K := K)).R H v x) : v ≠ .non := by
  obtain ⟨a, w, rfl, _⟩ := h
  exact fun z => nomatch z
theorem ty_f {x : Fin_} (h : (qF (K := K)).R H v x) : TyX K H v (.type "tuple") := by
  obtain ⟨a, w, rfl, h2, _⟩ := h
  exact .base (.tup h2)
theorem v_lenF {x : Fin_} (ha : Val ta σ H v) (h : (qF (K := K)).R H v x) : Val (tCB (rLenS K) (tCons ta tNil)) σ H (.int 2) := by
  obtain ⟨a, w, rfl, h2, _⟩ := h
  exact fun Q q => ha _ ⟨a, _, rfl, .inr (SqT.of h2), q⟩
theorem v_F0 {x : Fin_} (ha : Val ta σ H v) (hb : Val tb σ H (.int 0)) (h : (qF (K := K)).R H v x) : Val (tOp (rIxT K) ta tb) σ H (.str x.t.s) := by
  obtain ⟨a, w, rfl, h2, _⟩ := h
  exact fun Q q => ha _ (hb _ ⟨a, _, 0, _, rfl, rfl, SqT.of h2, L2.atI_nat (j := 0) rfl, q⟩)
theorem v_F1 {x : Fin_} (e : Same S H) (h : (qF (K := K)).R S v x) : ∃ w, (∀ {σ : L2.St} {ta tb : TE}, Val ta σ H v → Val tb σ H (.int 1) → Val (tOp (rIxT K) ta tb) σ H w) ∧ (qX (K := K)).R S w x.x := by
  obtain ⟨a, w, rfl, h2, h3⟩ := h
  exact ⟨w, fun ha hb Q q => ha _ (hb _ ⟨a, _, 1, _, rfl, rfl, SqT.of (e _ _ h2), L2.atI_nat (j := 1) rfl, q⟩), h3⟩
theorem fx_i {x : FX} {y : List Int} (h : (qX (K := K)).R S v x) (e : x.getI = some y) : (qL (K := K) qI).R S v y := by
  cases x with
  | nums xs => cases (show some xs = some y from e); exact h
  | prs xs => cases e
theorem fx_b {x : FX} {y : List (Int × Int)} (h : (qX (K := K)).R S v x) (e : x.getB = some y) : (qL (K := K) (qT2 qI qI)).R S v y := by
  cases x with
  | nums xs => cases e
  | prs xs => cases (show some xs = some y from e); exact h
end
end Z

namespace Z
open PySem PySem.Spec PyProof.Rows PySem.Calls PySem.W PyProof.V
/-! ### k in d.values(), the keys tuples, the values whole numbers -/
theorem noContains : typeLookup (.type "dict_values") "__contains__" = pure none := by rw [typeLookup_type, builtinLookup_eq_fast]; kernel_rfl
theorem entry_contains : entryFor table "proto.contains_iter" = some Builtin.«proto.contains_iter» := entryFor_of_fast (by kernel_rfl)
theorem plain_contains : plainId "proto.contains_iter" = true := by decide +kernel
section
variable {prog : Program} {w : World} {A : Around} {E : Value → Shared → Prop} {s : Shared}
theorem meetsVals {d : Addr} {es : Array DictEntry} {ep : Nat} (hd : (d == sysModules) = false) :
    MeetsIn prog w (Builtin.«dict.values» ⟨[.ref d], []⟩) (fun _ R s => DT.Raw s.heap d es ep ∧
      R (.ok (.ret (.ref s.heap.objs.size))) { s with heap := s.heap.push (DSub.viewOb "dict_values" d) }) :=
  .of_wp fun A R s ⟨hm, h⟩ => by
    unfold Builtin.«dict.values»
    refine wpAny_bind ?_
    unfold Builtin.Dict.noArgs
    refine wpAny_bind (wpAny_notOrdered_dict hm.typeIs ?_)
    show wpAny _ _ (pure d) _ _ s
    refine wpAny_pure ?_
    show wpAny _ _ (Builtin.Dict.showsAll d >>= _) _ _ s
    unfold Builtin.Dict.showsAll
    rw [if_neg (by rw [hd]; exact Bool.false_ne_true)]
    refine wpAny_bind (wpAny_pure ?_)
    exact wpAny_bind (wpAny_newObj_type (wpAny_pure ⟨_, rfl, h⟩))
theorem callVals {d : Addr} {es : Array DictEntry} {ep : Nat} {Q : Value → Shared → Prop} (hd : (d == sysModules) = false) (hm : DT.Raw s.heap d es ep)
    (h : Q (.ref s.heap.objs.size) { s with heap := s.heap.push (DSub.viewOb "dict_values" d) }) : wpAny (model prog w) A (call (.builtin "dict.values") [.ref d]) Q E s :=
  call_meetsIn PySem.F.slot_dict_values hm.typeIs PySem.F.entry_dict_values (PySem.F.args_dict_values_1 _) (meetsVals (es := es) (ep := ep) hd) ⟨hm, h⟩
/-- the search goes on from place i -/
theorem searchFrom {it d : Addr} {od : Obj} {es : Array DictEntry} {ep : Nat} {x : Int} {tx : Tok} {ns : List Int} (hh : A.handled = none) (hne : it ≠ d) (hdd : od.data = .dict es ep) (hns : ∀ (i : Nat) (e : DictEntry), es[i]? = some e → ∃ t, e.val = .int (ns.getD i 0) t) (hl : ns.length = es.size)
    {R : Result → Shared → Prop} {h0 : Heap} (hR : ∀ h' tk, (∀ b o, b ≠ it → h0.get? b = some o → h'.get? b = some o) → R (.ok (.ret (.bool (ns.any fun n => n == x)))) { s with heap := h', toks := tk }) :
    ∀ (m i : Nat) (h : Heap) (tk : Nat), es.size - i = m → i ≤ es.size → (∀ n ∈ ns.take i, n ≠ x) → h.get? it = some (DVw.valOb d i es.size ep) → h.get? d = some od → (∀ b o, b ≠ it → h0.get? b = some o → h.get? b = some o) →
      codeAny (model prog w) A (.builtin "proto.contains_iter" ⟨[.ref it, .int x tx], []⟩) R { s with heap := h, toks := tk } := by
  intro m
  induction m with
  | zero =>
    intro i h tk hm hi hno hit hd hk
    refine codeAny_builtin entry_contains ?_
    rw [Around.under_plainId plain_contains _]
    unfold Builtin.«proto.contains_iter»
    have hn : es[i]? = none := Array.getElem?_eq_none (by omega)
    refine wpAny_bind (DVw.val_end (A := A.in1) hh hit hd hdd rfl hn fun h' eb => ?_)
    refine wpAny_bind (wpAny_rule ?_)
    refine wpAny_pure ?_
    have : (ns.any fun n => n == x) = false := by
      rw [List.any_eq_false]
      intro n hn2
      have := hno n (by rw [List.take_of_length_le (by omega)]; exact hn2)
      simpa using this
    have q := hR h' tk fun b o hb e => eb b o hb (hk b o hb e)
    rw [this] at q
    exact q
  | succ m ih =>
    intro i h tk hm hi hno hit hd hk
    refine codeAny_builtin entry_contains ?_
    rw [Around.under_plainId plain_contains _]
    unfold Builtin.«proto.contains_iter»
    have hlt : i < es.size := by omega
    have he : es[i]? = some es[i] := Array.getElem?_eq_getElem hlt
    obtain ⟨t, ht⟩ := hns i es[i] he
    refine wpAny_bind (DVw.val_item (A := A.in1) hit hd hdd rfl he fun h' hit' sb => ?_)
    rw [ht]
    refine wpAny_bind (wpAny_eqBool_int ?_)
    have keep : ∀ b o, b ≠ it → h0.get? b = some o → h'.get? b = some o := fun b o hb e => (sb.2 b hb).trans (hk b o hb e)
    have hgi : ns.getD i 0 = ns[i]'(by omega) := by rw [List.getD_eq_getElem?_getD, List.getElem?_eq_getElem (by omega)]; rfl
    cases hx : (ns.getD i 0 == x) with
    | true =>
      rw [if_pos rfl]
      refine wpAny_bind (wpAny_rule ?_)
      refine wpAny_pure ?_
      have : (ns.any fun n => n == x) = true := List.any_eq_true.mpr ⟨_, List.getElem_mem (by omega : i < ns.length), by rw [← hgi]; exact hx⟩
      have q := hR h' tk keep
      rw [this] at q
      exact q
    | false =>
      rw [if_neg Bool.false_ne_true]
      refine wpAny_pure ⟨plainId_quiet plain_contains _, ih (i + 1) h' tk (by omega) (by omega) (fun n hn => ?_) hit' ((sb.2 d (Ne.symm hne)).trans hd) keep⟩
      rw [List.take_succ, List.mem_append] at hn
      rcases hn with hn | hn
      · exact hno n hn
      · rw [List.getElem?_eq_getElem (by omega : i < ns.length)] at hn
        have : n = ns[i]'(by omega) := by simpa using hn
        rw [this, ← hgi]
        simpa using hx
theorem containsVals {p d : Addr} {od : Obj} {es : Array DictEntry} {ep : Nat} {x : Int} {tx : Tok} {ns : List Int} {Q : Bool → Shared → Prop} (hh : A.handled = none) (hp : s.heap.get? p = some (DSub.viewOb "dict_values" d)) (hd : s.heap.get? d = some od) (hdd : od.data = .dict es ep)
    (hns : ∀ (i : Nat) (e : DictEntry), es[i]? = some e → ∃ t, e.val = .int (ns.getD i 0) t) (hl : ns.length = es.size)
    (h : ∀ h' tk, (∀ b o, s.heap.get? b = some o → h'.get? b = some o) → Q (ns.any fun n => n == x) { s with heap := h', toks := tk }) :
    wpAny (model prog w) A (PySem.contains (.ref p) (.int x tx)) Q E s := by
  have hT : s.TypeIs (.ref p) "dict_values" := ⟨_, hp, rfl⟩
  unfold PySem.contains
  refine wpAny_holding ?_
  rw [stdlibNamesSay?_ref]
  refine wpAny_bind (wpAny_specialOf hT noContains ?_)
  rw [if_neg (by decide)]
  refine wpAny_bind (wpAny_callSpecialUnlessNone?_none hT noContains ?_)
  refine wpAny_bind (wpAny_rule ?_)
  refine wpAny_bind (wpAny_tryCatch (DSub.iter_vals hp hd hdd ?_))
  have hlt : d < s.heap.objs.size := Heap.lt_size hd
  refine wpAny_bind (wpAny_runValue (searchFrom (s := s) (od := od) (es := es) (ep := ep) (ns := ns) hh (Nat.ne_of_gt hlt) hdd hns hl (h0 := s.heap) (fun h' tk hk => ?_) es.size 0 _ s.toks rfl (Nat.zero_le _) (fun n hn => absurd hn List.not_mem_nil) (Heap.get?_push_size _ rfl) (Heap.get?_push_of_some _ hd) fun b o _ e => Heap.get?_push_of_some _ e))
  exact wpAny_pure (h h' tk fun b o e => hk b o (Nat.ne_of_lt (Heap.lt_size e)) e)
end
end Z
namespace Z
open PySem PySem.Spec PyProof.Rows L2
def valsO (p d : Addr) : HO := .ext fun h => h.get? p = some (DSub.viewOb "dict_values" d)
theorem valsO_ok {P : Program} {w : World} {H : Hp} {h : Heap} {p d : Addr} (e : h.get? p = some (DSub.viewOb "dict_values" d)) : ObjOk P w H h p (valsO p d) := ⟨e, ⟨_, e⟩, fun h1 h2 q k => k _ q⟩
def rValsT : V → List V → Hp → VK → Prop := fun x xs H Q => ∃ (a : Addr) (kvs : List (List L2.Key × V)), x = .ref a ∧ xs = [] ∧ H a = some (.dT kvs) ∧ ∀ p, H p = none → Q (.ref p) (upd H p (valsO p a))
theorem mt_valsT {X : Cx} : MtR X "dict.values" rValsT := by
  intro pins s σ H x xs v us Q I rx rxs h
  obtain ⟨a, kvs, rfl, rfl, ha, q⟩ := h
  cases rx
  cases rxs
  obtain ⟨z, hd, xs', rel, o, es, ep, ho, hx, hdat, _⟩ := dt_of I.hok ha
  refine callVals (es := es) (ep := ep) hd ⟨o, ho, hx, hdat⟩ ?_
  have hf : H s.heap.objs.size = none := I.hok.fresh (Nat.le_refl _)
  exact ⟨.ref s.heap.objs.size, upd H s.heap.objs.size (valsO s.heap.objs.size a), I.laid (t' := s.toks) (fun b u e => Heap.get?_push_of_some _ e) (Nat.le_refl _) (valsO_ok (Heap.get?_push_size _ rfl)), rfl, q _ hf⟩
/-- the values are whole numbers -/
theorem valsOf {X : Cx} {H : Hp} {x : DT2} {xs : List (List Key × Addr × Value)} {es : Array DictEntry} (rel : KT H (dtm x) xs) (he : es.toList = xs.map (entryOfKey (tupleKind (mixKind X.prog X.w)))) :
    (∀ (i : Nat) (e : DictEntry), es[i]? = some e → ∃ t, e.val = .int ((x.map Prod.snd).getD i 0) t) ∧ (x.map Prod.snd).length = es.size := by
  have l1 : es.size = xs.length := size_of_entries he
  have l2 : (dtm x).length = xs.length := Paired.length rel
  have l3 : (dtm x).length = x.length := List.length_map _
  refine ⟨fun i e hi => ?_, by rw [List.length_map]; omega⟩
  have q := entry_at he i
  rw [hi] at q
  cases hb : xs[i]? with
  | none => rw [hb] at q; exact nomatch (show some e = none from q)
  | some b =>
    rw [hb] at q
    have e1 : e = entryOfKey (tupleKind (mixKind X.prog X.w)) b := Option.some.inj q
    have hlt : i < x.length := by
      have := List.getElem?_eq_some_iff.mp hb
      obtain ⟨h, _⟩ := this
      omega
    have hm : (dtm x)[i]? = some (kk x[i].1, .int x[i].2) := by
      unfold dtm
      rw [List.getElem?_map, List.getElem?_eq_getElem hlt]; rfl
    obtain ⟨b', hb', r1, r2, r3⟩ := L2.paired_get rel hm
    rw [hb] at hb'
    cases hb'
    obtain ⟨t, ht⟩ := (show ∃ t, b.2.2 = Value.int x[i].2 t from r3)
    refine ⟨t, ?_⟩
    rw [e1]
    have : (x.map Prod.snd).getD i 0 = x[i].2 := by rw [List.getD_eq_getElem?_getD, List.getElem?_map, List.getElem?_eq_getElem hlt]; rfl
    rw [this]
    exact ht
def rInV : R2 := fun x y H Q => ∃ (i : Int) (p a : Addr) (d : DT2), x = .int i ∧ y = .ref p ∧ H p = some (valsO p a) ∧ H a = some (.dT (dtm d)) ∧ Q (.bl ((d.map Prod.snd).any fun n => n == i)) H
theorem op_inV {X : Cx} (hc : X.calm = true) : OpR X (compareOp .In) rInV := by
  intro pins s σ H x y v u Q I rx ry h
  obtain ⟨i, p, a, d, rfl, rfl, hp, ha, q⟩ := h
  obtain ⟨tx, rfl⟩ := (show ∃ t, v = Value.int i t from rx)
  cases (show u = Value.ref p from ry)
  obtain ⟨z, hs, xs, rel, o, es, ep, ho, hx, hdt, he, hn⟩ := (show ObjOk X.prog X.w H s.heap a (.dT (dtm d)) from I.hok a _ ha)
  have hv : s.heap.get? p = some (DSub.viewOb "dict_values" a) := (show ObjOk X.prog X.w H s.heap p (valsO p a) from I.hok p _ hp).1
  obtain ⟨v1, v2⟩ := valsOf (X := X) rel he
  show wpAny _ _ (PySem.contains (.ref p) (.int i tx) >>= fun b => pure (Value.bool b)) _ _ s
  refine wpAny_bind (containsVals (I.ok.hd hc) hv ho hdt v1 v2 fun h' tk hk => wpAny_pure ?_)
  exact ⟨.bl _, H, I.kept (t' := tk) hk, rfl, q⟩
section
variable {K : PySem.W.Frag} {σ : L2.St} {H : Hp} {ta td : TE} {Q : VK}
theorem c_inV {i : Int} {l : Addr} {kvs : List (List Key × V)} {x : DT2} (ha : Val ta σ H (.int i)) (hd : Val td σ H (.ref l)) (h : H l = some (.dT kvs)) (r : TR kvs x)
    (k : ∀ H', Same H H' → Q (.bl ((x.map Prod.snd).any fun n => n == i)) H') : tOp rInV ta (tBM0 K "dict" rValsT td) σ H Q := by
  cases r
  refine ha _ (hd _ ⟨tyD h, l, dtm x, rfl, rfl, h, fun p hp => ⟨i, p, l, x, rfl, rfl, upd_same, ?_, k _ (same_upd hp)⟩⟩)
  exact same_upd hp _ _ h
end
end Z

namespace Z
open PySem PySem.Spec PyProof.Rows L2
/-! ### a module's text that has a name -/
theorem pe_globS {X : Cx} {x t : Str} {pos : Pos} (hm : ∃ u, X.mg x = some (Value.str t u)) (hg : Gl X x) (hd : (x == ("__debug__" : Str)) = false := by decide) : PE X (.Name x pos) (tC (.str t)) := by
  obtain ⟨u, h⟩ := hm
  exact pe_glob hg h ⟨u, rfl⟩ hd
end Z

namespace Z
open PySem PySem.Spec PyProof.Rows L2
/-! ### told tuples that hold lists of one's own -/
def FX.len : FX → Int
  | .nums xs => (xs.length : Int)
  | .prs xs => (xs.length : Int)
section
variable {K : PySem.W.Frag} {σ : L2.St} {S S1 H S0 H0 : Hp} {L L' : List Addr} {v : V} {ta tb : TE} {l : Addr} {ws : List V}
/-- a tuple of a text and what stands at an address -/
def qO : Rep K (Str × Addr) := ⟨fun H v x => ∃ q, v = .ref q ∧ H q = some (.tup [.str x.1, .ref x.2]), fun {H H' v x} e h => by
  obtain ⟨q, h1, h2⟩ := h
  exact ⟨q, h1, e _ _ h2⟩⟩
/-- what stands at an address -/
def qRf : Rep K Addr := ⟨fun _ v a => v = .ref a, fun _ h => h⟩
/-- a tuple of two things that stand at addresses -/
def qPP : Rep K (Addr × Addr) := ⟨fun H v x => ∃ q, v = .ref q ∧ H q = some (.tup [.ref x.1, .ref x.2]), fun {H H' v x} e h => by
  obtain ⟨q, h1, h2⟩ := h
  exact ⟨q, h1, e _ _ h2⟩⟩
theorem v_O0 {x : Str × Addr} (ha : Val ta σ H v) (hb : Val tb σ H (.int 0)) (h : (qO (K := K)).R H v x) : Val (tOp (rIxT K) ta tb) σ H (.str x.1) := by
  obtain ⟨q, rfl, h2⟩ := h
  exact fun Q r => ha _ (hb _ ⟨q, _, 0, _, rfl, rfl, SqT.of h2, L2.atI_nat (j := 0) rfl, r⟩)
theorem v_O1 {x : Str × Addr} (ha : Val ta σ H v) (hb : Val tb σ H (.int 1)) (h : (qO (K := K)).R H v x) : Val (tOp (rIxT K) ta tb) σ H (.ref x.2) := by
  obtain ⟨q, rfl, h2⟩ := h
  exact fun Q r => ha _ (hb _ ⟨q, _, 1, _, rfl, rfl, SqT.of h2, L2.atI_nat (j := 1) rfl, r⟩)
theorem ty_o {x : Str × Addr} (h : (qO (K := K)).R H v x) : TyX K H v (.type "tuple") := by
  obtain ⟨q, rfl, h2⟩ := h
  exact .base (.tup h2)
theorem v_lenO {x : Str × Addr} (ha : Val ta σ H v) (h : (qO (K := K)).R H v x) : Val (tCB (rLenS K) (tCons ta tNil)) σ H (.int 2) := by
  obtain ⟨q, rfl, h2⟩ := h
  exact fun Q r => ha _ ⟨q, _, rfl, .inr (SqT.of h2), r⟩
/-- a list of numbers, or of bars, one's own -/
def RX (K : PySem.W.Frag) (S : Hp) (ws : List V) : FX → Prop
  | .nums xs => RL (qI (K := K)) S ws xs
  | .prs xs => RL (qT2 (K := K) qI qI) S ws xs
theorem RX.mono {x : FX} (e : Same S S1) (h : RX K S ws x) : RX K S1 ws x := by
  cases x with
  | nums xs => exact RL.mono e h
  | prs xs => exact RL.mono e h
theorem rx_i {x : FX} {y : List Int} (h : RX K S ws x) (e : x.getI = some y) : RL (qI (K := K)) S ws y := by
  cases x with
  | nums xs => cases (show some xs = some y from e); exact h
  | prs xs => cases e
theorem rx_b {x : FX} {y : List (Int × Int)} (h : RX K S ws x) (e : x.getB = some y) : RL (qT2 (K := K) qI qI) S ws y := by
  cases x with
  | nums xs => cases e
  | prs xs => cases (show some xs = some y from e); exact h
theorem rl_len {α : Type} {τ : Rep K α} : ∀ {ws : List V} {xs : List α}, RL τ S ws xs → ws.length = xs.length
  | _, _, .nil => rfl
  | _, _, .cons _ t => by rw [List.length_cons, List.length_cons, rl_len t]
theorem RX.len {x : FX} (h : RX K S ws x) : (ws.length : Int) = x.len := by
  cases x with
  | nums xs => show (ws.length : Int) = (xs.length : Int); rw [rl_len h]
  | prs xs => show (ws.length : Int) = (xs.length : Int); rw [rl_len h]
theorem rl_any : ∀ ws : List V, RL (qA (K := K)) S ws (ws.map fun _ => ())
  | [] => .nil
  | _ :: ws => .cons trivial (rl_any ws)
theorem v_lenX {x : FX} (ha : Val ta σ H (.ref l)) (h : H l = some (.lst ws)) (r : RX K S ws x) : Val (tCB (rLenS K) (tCons ta tNil)) σ H (.int x.len) := by
  refine fun Q q => ha _ ⟨l, ws, rfl, .inl (SqL.of h), ?_⟩
  rw [r.len]
  exact q
/-- such a list, only read -/
def RdX (K : PySem.W.Frag) (L : List Addr) (S H0 : Hp) (v : V) : FX → Prop
  | .nums xs => RdL (qI (K := K)) L S H0 v xs
  | .prs xs => RdL (qT2 (K := K) qI qI) L S H0 v xs
theorem RdX.mono {x : FX} (e : Same S S1) (h : RdX K L S H0 v x) : RdX K L S1 H0 v x := by
  cases x with
  | nums xs => exact RdL.mono e h
  | prs xs => exact RdL.mono e h
theorem RdX.to {x : FX} (g : Grow L S0 H0 S H) (h : RdX K L S H0 v x) (hL : ∀ l ∈ L', H0 l = none ∨ l ∈ L) : RdX K L' S H v x := by
  cases x with
  | nums xs => exact RdL.to g h hL
  | prs xs => exact RdL.to g h hL
theorem RdX.ofC {x : FX} (h : H l = some (.lst ws)) (n : l ∉ L') (r : RX K S ws x) : RdX K L' S H (.ref l) x := by
  cases x with
  | nums xs => exact RdL.ofC h n r
  | prs xs => exact RdL.ofC h n r
theorem rdx_i {x : FX} {y : List Int} (h : RdX K L S H0 v x) (e : x.getI = some y) : RdL (qI (K := K)) L S H0 v y := by
  cases x with
  | nums xs => cases (show some xs = some y from e); exact h
  | prs xs => cases e
theorem rdx_b {x : FX} {y : List (Int × Int)} (h : RdX K L S H0 v x) (e : x.getB = some y) : RdL (qT2 (K := K) qI qI) L S H0 v y := by
  cases x with
  | nums xs => cases e
  | prs xs => cases (show some xs = some y from e); exact h
theorem os_dec {H : Hp} {x y : V} {a b : Option Str} (h1 : (qOpt (qS (K := K))).R H x a) (h2 : (qOpt (qS (K := K))).R H y b) : scal x y = true ∧ decide (x = y) = decide (a = b) := by
  cases a with
  | none =>
    cases (show x = .non from h1)
    cases b with
    | none => cases (show y = .non from h2); exact ⟨rfl, rfl⟩
    | some t => cases (show y = .str t from h2.2); exact ⟨rfl, rfl⟩
  | some s =>
    cases (show x = .str s from h1.2)
    cases b with
    | none => cases (show y = .non from h2); exact ⟨rfl, rfl⟩
    | some t =>
      cases (show y = .str t from h2.2)
      exact ⟨rfl, decide_eq_decide.mpr ⟨fun e => by rw [V.str.inj e], fun e => by rw [Option.some.inj e]⟩⟩
theorem e_neOS {H : Hp} {x y : V} {a b : Option Str} {Q : VK} (h1 : (qOpt (qS (K := K))).R H x a) (h2 : (qOpt (qS (K := K))).R H y b) (q : Q (.bl (!decide (a = b))) H) : rNe x y H Q := by
  obtain ⟨e1, e2⟩ := os_dec h1 h2
  exact ⟨e1, by rw [e2]; exact q⟩
theorem e_eqOS {H : Hp} {x y : V} {a b : Option Str} {Q : VK} (h1 : (qOpt (qS (K := K))).R H x a) (h2 : (qOpt (qS (K := K))).R H y b) (q : Q (.bl (decide (a = b))) H) : rEq x y H Q := by
  obtain ⟨e1, e2⟩ := os_dec h1 h2
  exact ⟨e1, by rw [e2]; exact q⟩
end
end Z

namespace Z
open PySem PySem.Spec PyProof.Rows L2 CwR
/-! ### more of texts: products, find, in lists, ==, dict displays -/
def gMulS (s : Str) (n : Int) : Prop := s.length ≤ 4096 ∧ -4611686018427387904 ≤ n ∧ n ≤ 4096
instance (s : Str) (n : Int) : Decidable (gMulS s n) := by unfold gMulS; infer_instance
def rMulS : R2 := fun x y H Q => ∃ s n, x = .str s ∧ y = .int n ∧ gMulS s n ∧ Q (.str (Txt.mul s n)) H
theorem mulOk {s : Str} {n : Int} (h : gMulS s n) : MulOk s n := by
  obtain ⟨h1, h2, h3⟩ := h
  have e63 : (2 : Int) ^ 63 = 9223372036854775808 := by decide
  refine ⟨?_, fun hn _ => ?_, fun hn _ => ?_⟩
  · rw [e63, decide_eq_false (by omega), decide_eq_false (by omega)]; rfl
  · have hq : (4096 : Int) ≤ (2 ^ 63 - 1) / n := by
      rw [e63]
      exact (Int.le_ediv_iff_mul_le (by omega)).mpr (by omega)
    omega
  · unfold Builtin.Str.tooLong
    rw [sizeLine_eq]
    refine decide_eq_false ?_
    have h4 : n.toNat ≤ 4096 := by omega
    have h5 : s.length * n.toNat ≤ 4096 * 4096 := Nat.mul_le_mul h1 h4
    omega
theorem op_mulS {X : Cx} : OpR X (binaryOp .Mult) rMulS := by
  intro pins s σ H x y v u Q I rx ry h
  obtain ⟨a, n, rfl, rfl, hz, q⟩ := h
  obtain ⟨t, rfl⟩ := rx
  obtain ⟨t', rfl⟩ := ry
  exact SB.mul (mulOk hz) (fun t' tk => ⟨.str (Txt.mul a n), H, I.tok _, ⟨_, rfl⟩, q⟩)
def rFindS : V → List V → Hp → VK → Prop := fun x xs H Q => ∃ a b, x = .str a ∧ xs = [.str b] ∧ Q (.int (Txt.find a b)) H
theorem pe_findS {X : Cx} {o e : Expr} {to te : TE} {apos pos : Pos} (ho : PE X o to) (he : PE X e te) (hs : starEach [e] X.env = [(false, eval e X.env)] := by rfl)
    (hbase : attributeBase o "find" X.env (eval o X.env) = eval o X.env := by rfl) (hline : (apos.endLine == pos.line) = true := by rfl) :
    PE X (.Call (.Attribute o "find" apos) [e] [] pos) (tM1 rFindS to te) := pe_m1 F.slot_str_find F.type_str_find mt_find ho he hs hbase hline
def kvS (l : List (Str × Int)) : List (Key × V) := l.map fun p => (.inr p.1, .int p.2)
def dspT (l : List (Str × Int)) : List (TE × TE) := l.map fun p => (tC (.str p.1), tC (.int p.2))
def gLS (xs : List Str) : Prop := (xs.all PyData.strOk) = true
instance (xs : List Str) : Decidable (gLS xs) := by unfold gLS; infer_instance
section
variable {K : PySem.W.Frag} {σ : L2.St} {S H S0 H0 : Hp} {L : List Addr} {ta tb ty tx : TE} {Q : VK} {v x y : V} {a b k : Str} {n d : Int}
theorem v_mulS (ha : Val ta σ H (.str a)) (hb : Val tb σ H (.int n)) (g : gMulS a n) : Val (tOp rMulS ta tb) σ H (.str (Txt.mul a n)) := fun Q q => ha _ (hb _ ⟨a, n, rfl, rfl, g, q⟩)
theorem e_mulS (g : gMulS a n) (q : Q (.str (Txt.mul a n)) H) : rMulS (.str a) (.int n) H Q := ⟨a, n, rfl, rfl, g, q⟩
theorem v_findS (ha : Val ta σ H (.str a)) (hb : Val tb σ H (.str b)) : Val (tM1 rFindS ta tb) σ H (.int (Txt.find a b)) := fun Q q => ha _ ⟨⟨a, rfl⟩, hb _ ⟨a, b, rfl, rfl, q⟩⟩
theorem c_m1 {r : V → List V → Hp → VK → Prop} (ha : Val ta σ H (.str a)) (h : tb σ H fun y H2 => r (.str a) [y] H2 Q) : tM1 r ta tb σ H Q := ha _ ⟨⟨a, rfl⟩, h⟩
theorem e_join {s : Str} {xs : List Str} (hr : (qQ (K := K) qS).R H v xs) (hz : gJoin s xs) (q : Q (.str (Txt.join s xs)) H) : rJoin K (.str s) [v] H Q := by
  have h := v_join (K := K) (σ := []) (ta := tC (.str s)) (tb := tC v) (fun Q q => q) (fun Q q => q) hr hz Q q
  exact h.2
/-! x in a list of texts -/
theorem ls_eq {ws : List V} {xs : List Str} (h : RL (qS (K := K)) H ws xs) : ws = xs.map V.str := RL.eqmap V.str (fun v x h => h) h
theorem e_inLS {ys : List Str} (h : (qQ (K := K) qS).R H v ys) (q : Q (.bl (ys.any fun y => decide (y = a))) H) : rIn K false (.str a) v H Q := by
  obtain ⟨p, ws, rfl, h2, h3⟩ := h
  have e := ls_eq h3
  subst e
  exact ⟨p, _, rfl, .inl h2, rfl, by rw [List.all_map]; exact List.all_eq_true.mpr fun _ _ => rfl, by
    show Q (.bl (inV _ _)) H
    rw [inV_str]; exact q⟩
theorem e_ninLS {ys : List Str} (h : (qQ (K := K) qS).R H v ys) (q : Q (.bl (!(ys.any fun y => decide (y = a)))) H) : rIn K true (.str a) v H Q := by
  obtain ⟨p, ws, rfl, h2, h3⟩ := h
  have e := ls_eq h3
  subst e
  exact ⟨p, _, rfl, .inl h2, rfl, by rw [List.all_map]; exact List.all_eq_true.mpr fun _ _ => rfl, by
    show Q (.bl (!inV _ _)) H
    rw [inV_str]; exact q⟩
theorem e_ninTS {p : Addr} {ys : List Str} (h : H p = some (.tup (ys.map V.str))) (q : Q (.bl (!(ys.any fun y => decide (y = a)))) H) : rIn K true (.str a) (.ref p) H Q :=
  ⟨p, _, rfl, .inr (SqT.of h), rfl, by rw [List.all_map]; exact List.all_eq_true.mpr fun _ _ => rfl, by
    show Q (.bl (!inV _ _)) H
    rw [inV_str]; exact q⟩
theorem v_inLS {ys : List Str} (ha : Val ta σ H (.str a)) (hb : Val tb σ H v) (h : (qQ (K := K) qS).R H v ys) : Val (tOp (rIn K false) ta tb) σ H (.bl (ys.any fun y => decide (y = a))) := fun Q q => ha _ (hb _ (e_inLS h q))
theorem v_ninLS {ys : List Str} (ha : Val ta σ H (.str a)) (hb : Val tb σ H v) (h : (qQ (K := K) qS).R H v ys) : Val (tOp (rIn K true) ta tb) σ H (.bl (!(ys.any fun y => decide (y = a)))) := fun Q q => ha _ (hb _ (e_ninLS h q))
/-! == of lists of texts -/
theorem dpAllS : ∀ xs : List Str, DpAll K H (xs.map V.str) (xs.map PyData.str)
  | [] => .nil
  | x :: xs => .cons (.str x) (dpAllS xs)
theorem layAllS : ∀ xs : List Str, xs.all PyData.strOk = true → PyData.canLayAll0 (xs.map PyData.str) = true
  | [], _ => rfl
  | x :: xs, h => by
    rw [List.all_cons, Bool.and_eq_true] at h
    show (PyData.canLay0 (.str x) && PyData.canLayAll0 (xs.map PyData.str)) = true
    rw [layAllS xs h.2]
    show (PyData.strOk x && true) = true
    rw [h.1]; rfl
theorem depAllS : ∀ xs : List Str, PyData.depthAll (xs.map PyData.str) ≤ 2
  | [] => by simp [PyData.depthAll]
  | x :: xs => by
    rw [List.map_cons]
    simp only [PyData.depthAll]
    have h2 := depAllS xs
    have h1 : PyData.depth (.str x) ≤ 2 := by simp [PyData.depth]
    omega
theorem eqvAllS : ∀ xs ys : List Str, PyData.eqvAll (xs.map PyData.str) (ys.map PyData.str) = decide (xs = ys)
  | [], [] => rfl
  | [], y :: ys => by simp [PyData.eqvAll]
  | x :: xs, [] => by simp [PyData.eqvAll]
  | x :: xs, y :: ys => by
    rw [List.map_cons, List.map_cons]
    simp only [PyData.eqvAll]
    rw [show PyData.eqv (.str x) (.str y) = decide (x = y) by show (x == y) = decide (x = y); rw [Bool.beq_eq_decide_eq], eqvAllS xs ys, ← Bool.decide_and]
    exact decide_eq_decide.mpr ⟨fun h => by rw [h.1, h.2], fun h => by injection h with h1 h2; exact ⟨h1, h2⟩⟩
theorem shapedS {xs : List Str} (h : gLS xs) : SeqAt.shaped (.list (xs.map PyData.str)) = true := by
  unfold SeqAt.shaped
  have h1 : PyData.canLay0 (.list (xs.map PyData.str)) = true := layAllS xs h
  have h2 := depAllS xs
  rw [h1, decide_eq_true (by simp only [PyData.depth]; omega)]; rfl
theorem dpLS {xs : List Str} (h : (qQ (K := K) qS).R H v xs) : Dp K H v (.list (xs.map PyData.str)) := by
  obtain ⟨p, ws, rfl, h2, h3⟩ := h
  have e := ls_eq h3
  subst e
  exact .lst h2 (dpAllS xs)
theorem e_eqLS {xs ys : List Str} (gx : gLS xs) (gy : gLS ys) (h1 : (qQ (K := K) qS).R H x xs) (h2 : (qQ (K := K) qS).R H y ys) (k : Q (.bl (decide (xs = ys))) H) : rEqD K x y H Q :=
  ⟨_, _, dpLS h1, dpLS h2, shapedS gx, shapedS gy, by
    show Q (.bl (PyData.eqvAll _ _)) H
    rw [eqvAllS]; exact k⟩
theorem e_neLS {xs ys : List Str} (gx : gLS xs) (gy : gLS ys) (h1 : (qQ (K := K) qS).R H x xs) (h2 : (qQ (K := K) qS).R H y ys) (k : Q (.bl (!decide (xs = ys))) H) : rNeD K x y H Q :=
  ⟨_, _, dpLS h1, dpLS h2, shapedS gx, shapedS gy, by
    show Q (.bl (!PyData.eqvAll _ _)) H
    rw [eqvAllS]; exact k⟩
theorem v_eqLS {xs ys : List Str} (gx : gLS xs) (gy : gLS ys) (ha : Val ta σ H x) (hb : Val tb σ H y) (h1 : (qQ (K := K) qS).R H x xs) (h2 : (qQ (K := K) qS).R H y ys) : Val (tOp (rEqD K) ta tb) σ H (.bl (decide (xs = ys))) := fun Q k => ha _ (hb _ (e_eqLS gx gy h1 h2 k))
theorem v_neLS {xs ys : List Str} (gx : gLS xs) (gy : gLS ys) (ha : Val ta σ H x) (hb : Val tb σ H y) (h1 : (qQ (K := K) qS).R H x xs) (h2 : (qQ (K := K) qS).R H y ys) : Val (tOp (rNeD K) ta tb) σ H (.bl (!decide (xs = ys))) := fun Q k => ha _ (hb _ (e_neLS gx gy h1 h2 k))
/-! max of a list -/
def maxI : List Int → Option Int
  | [] => none
  | x :: xs => some (xs.foldl max x)
theorem foldl_max_le : ∀ (xs : List Int) (x y : Int), y ≤ x → y ≤ xs.foldl max x
  | [], _, _, h => h
  | z :: xs, x, y, h => foldl_max_le xs (max x z) y (by omega)
theorem foldl_max_mem : ∀ (xs : List Int) (x : Int), xs.foldl max x = x ∨ xs.foldl max x ∈ xs
  | [], _ => .inl rfl
  | z :: xs, x => by
    rcases foldl_max_mem xs (max x z) with h | h
    · by_cases hz : z ≤ x
      · left; show xs.foldl max (max x z) = x; rw [h]; omega
      · right; show xs.foldl max (max x z) ∈ z :: xs; rw [h, show max x z = z by omega]; exact List.mem_cons_self
    · right; exact List.mem_cons_of_mem _ h
theorem foldl_max_ub : ∀ (xs : List Int) (x : Int), ∀ y ∈ xs, y ≤ xs.foldl max x
  | z :: xs, x, y, h => by
    rcases List.mem_cons.mp h with e | e
    · subst e; exact foldl_max_le xs (max x y) y (by omega)
    · exact foldl_max_ub xs (max x z) y e
theorem e_maxL {xs : List Int} {m : Int} (hr : (qQ (K := K) qI).R H v xs) (hm : maxI xs = some m) (q : Q (.int m) H) : rMax K [v] H Q := by
  obtain ⟨p, ws, rfl, h2, h3⟩ := hr
  have e : ws = xs.map V.int := RL.eqmap V.int (fun v x h => h) h3
  subst e
  cases xs with
  | nil => cases hm
  | cons x xs =>
    cases (show some (xs.foldl max x) = some m from hm)
    refine ⟨p, x :: xs, rfl, h2, by simp, fun m' h1 h4 => ?_⟩
    have u1 : m' ≤ xs.foldl max x := by
      rcases List.mem_cons.mp h1 with e | e
      · subst e; exact foldl_max_le xs m' m' (Int.le_refl _)
      · exact foldl_max_ub xs x m' e
    have u2 : xs.foldl max x ≤ m' := by
      rcases foldl_max_mem xs x with e | e
      · rw [e]; exact h4 x List.mem_cons_self
      · exact h4 _ (List.mem_cons_of_mem _ e)
    rw [show m' = xs.foldl max x by omega]
    exact q
/-! {text: number, ..}.get(text, number) -/
theorem tPairs_disp {l : List (Str × Int)} {q : List (V × V) → Hp → Prop} : ∀ {H : Hp}, q (l.map fun p => (.str p.1, .int p.2)) H → tPairs (dspT l) σ H q := by
  induction l generalizing q with
  | nil => exact fun h => h
  | cons p l ih => exact fun {H} h => ih (q := fun ps H3 => q ((.str p.1, .int p.2) :: ps) H3) h
theorem putK_new {kvs : List (Key × V)} {c : Key} {w : V} (h : ∀ p ∈ kvs, p.1 ≠ c) : putK kvs c w = kvs ++ [(c, w)] := by
  unfold putK
  rw [if_neg]
  intro q
  obtain ⟨p, hp, e⟩ := List.any_eq_true.mp q
  exact h p hp (of_decide_eq_true e)
theorem merge_new : ∀ (more kvs : List (Key × V)), ((kvs ++ more).map (·.1)).Nodup → mergeK kvs more = kvs ++ more
  | [], kvs, _ => by rw [List.append_nil]; rfl
  | p :: more, kvs, h => by
    show mergeK (putK kvs p.1 p.2) more = _
    rw [List.map_append, List.nodup_append] at h
    rw [putK_new (fun z hz e => h.2.2 z.1 (List.mem_map_of_mem hz) p.1 (by rw [List.map_cons]; exact List.mem_cons_self) e)]
    rw [merge_new more (kvs ++ [(p.1, p.2)]) (by
      rw [List.append_assoc]
      show ((kvs ++ (p :: more)).map (·.1)).Nodup
      rw [List.map_append, List.nodup_append]
      exact h)]
    rw [List.append_assoc]; rfl
theorem valV_kvS : ∀ (l : List (Str × Int)) (k : Str), valV (kvS l) (.inr k) = (l.lookup k).map V.int
  | [], _ => rfl
  | p :: l, k => by
    have ih := valV_kvS l k
    unfold valV at ih ⊢
    show Option.map _ (List.find? _ (((Sum.inr p.1 : Key), V.int p.2) :: kvS l)) = _
    by_cases e : p.1 = k
    · subst e
      rw [List.find?_cons_of_pos (by simp)]
      rw [show (p :: l) = (p.1, p.2) :: l from rfl, List.lookup_cons_self]
      rfl
    · rw [List.find?_cons_of_neg (by simp; exact fun z => e z)]
      rw [show (p :: l) = (p.1, p.2) :: l from rfl, List.lookup_cons, show (k == p.1) = false from by
        rw [beq_eq_false_iff_ne]; exact fun z => e z.symm]
      exact ih
def tGetAt (p : Addr) (ty tx : TE) : TE := fun σ H Q => ty σ H fun y H2 => tx σ H2 fun z H3 => ∃ o, DGet H3 p y o ∧ Q (o.getD z) H3
theorem c_dsg1 {l : List (Str × Int)} (hl : l.length ≤ 15) (hn : (l.map (·.1)).Nodup) (k : ∀ p H1, Same H H1 → H1 p = some (.dK (kvS l)) → tGetAt p ty tx σ H1 Q) : tDGet2 (tDisp (dspT l)) ty tx σ H Q := by
  refine fun p hp => tPairs_disp ⟨upd_same, kvS l, ?_, by unfold kvS; rw [List.length_map]; exact hl, p, rfl, .inl ⟨_, .inl upd_same⟩, ?_⟩
  · unfold kvS
    rw [List.map_map]; rfl
  · have e : mergeK [] (kvS l) = kvS l := by
      have : ((([] : List (Key × V)) ++ kvS l).map (·.1)).Nodup := by
        rw [List.nil_append]
        unfold kvS
        rw [List.map_map]
        rw [List.nodup_iff_pairwise_ne, List.pairwise_map] at hn ⊢
        exact hn.imp fun h e => h (Sum.inr.inj e)
      rw [merge_new _ _ this]; rfl
    rw [e]
    have h1 : upd (upd H p (.dK [])) p (.dK (kvS l)) p = some (.dK (kvS l)) := upd_same
    refine k p _ (fun a o ha => ?_) h1
    have : a ≠ p := ne_of_none ha hp
    rw [upd_ne this, upd_ne this]; exact ha
theorem c_dsg2 {l : List (Str × Int)} {p : Addr} (ep : H p = some (.dK (kvS l))) (hk : Val ty σ H (.str k)) (hd : Val tx σ H (.int d)) (q : Q (.int ((l.lookup k).getD d)) H) : tGetAt p ty tx σ H Q :=
  hk _ (hd _ ⟨_, DGet.k (k := .inr k) ep, by
    rw [valV_kvS]
    cases e : l.lookup k with
    | none => rw [e] at q; exact q
    | some n => rw [e] at q; exact q⟩)
/-! replace of written texts -/
theorem v_repl {z w : Str} (ha : Val ta σ H (.str a)) (g : a.length + (a.length + 1) * w.length ≤ 16777216) : Val (tReplC ta z w) σ H (.str (Txt.replace a z w)) := fun Q q => ha _ ⟨a, rfl, g, q⟩
end
section
variable {X : Cx} {e : Expr} {te : TE} {rest : List Stmt} {u : TS}
/-- an expression behind which a token is out -/
def GT (X : Cx) (e : Expr) (te : TE) : Prop := ∀ (pins : List (Addr × Obj)) (s : Shared) (σ : L2.St) (H : Hp) (Q : VK), Inv X pins σ H s → te σ H Q →
  wpAny (model X.prog X.w) X.A (eval e X.env) (fun v s' => 1 ≤ s'.toks ∧ EP X pins σ Q v s') (fun e' s' => 1 ≤ s'.toks ∧ X.xe e' s') s
theorem gt_join {c : Str} {j : Nat} {cpos apos pos : Pos} (he : PE X e te) (hs : starEach [e] X.env = [(false, eval e X.env)] := by rfl)
    (hbase : attributeBase (.Constant (.str c) j cpos) "join" X.env (eval (.Constant (.str c) j cpos) X.env) = eval (.Constant (.str c) j cpos) X.env := by rfl) (hline : (apos.endLine == pos.line) = true := by rfl) :
    GT X (.Call (.Attribute (.Constant (.str c) j cpos) "join" apos) [e] [] pos) (tM1 (rJoin X.K) (tC (.str c)) te) := by
  intro pins s σ H Q I h
  refine PySem.Call_method1 hbase hs hline (Calls.Constant_str ?_)
  obtain ⟨_, h⟩ := h
  refine ⟨"str", _, F.plainAttrs_str, F.slot_str_join, F.type_str_join, typeIs_str _ _ _, (fun _ e => nomatch e), PySem.wpAny_toks_of (n := 1) (by show 1 ≤ s.toks + 1; omega) (Calls.callWith_builtin rfl (Calls.evalArgs_plain (Calls.spliced_cons ?_)))⟩
  exact thn (he.run pins { s with toks := s.toks + 1 } σ H _ (I.tok _) h) fun u s2 ⟨y, H2, I2, r2, q2⟩ => Calls.spliced_nil (mt_join pins s2 σ H2 (V.str c) [y] (Value.str c s.toks) [u] Q I2 (show ∃ t, Value.str c s.toks = Value.str c t from ⟨s.toks, rfl⟩) (.cons r2 .nil) q2)
theorem pss_setGT {i : Nat} {x : Str} {pos' pos : Pos} (hN : X.N.Nodup) (hi : X.N[i]? = some x) (hx : Loc X.env.scope x) (he : GT X e te) (h2 : PSsT X rest u)
    (hs : swapsWith e (some (.Name x pos')) pos.line X.env = pure false := by rfl) (hf : X.fn x = true ∨ X.env.scope.names.lookup x = some .local := by first | exact .inl rfl | exact .inr rfl | assumption) :
    PSs X (.Assign [.Name x pos'] e pos :: rest) (tSeq (tAsg te (gName i)) u) := by
  refine ⟨fun pins s σ H D I h => ?_⟩
  refine wpAny_execs_cons (wpAny_Assign_Name (wpAny_mono (he pins s σ H _ I h) (fun v s1 q => ?_) fun _ _ z => z.2) hs)
  obtain ⟨hk1, x', H1, I1, r1, q1⟩ := q
  refine wpAny_mono (PySem.wpAny_toks (store_ok (v := x') (u := v) (Q := fun _ s2 => Inv X pins (σ.set i (some x')) H1 s2) I1 hN hi hx r1 (fun _ I2 => I2) hf)) (fun _ s2 q => ?_) fun _ _ z => z.2
  have hk : s1.toks ≤ s2.toks := q.1
  exact h2 pins s2 _ H1 D (by omega) q.2 q1
end
end Z

namespace Z
open PySem PySem.Spec PyProof.Rows L2 CwR
/-! ### tuples of three and four -/
section
variable {K : PySem.W.Frag} {σ : L2.St} {S H : Hp} {v : V} {ta tb : TE} {Q : VK}
def qT4 {α β γ δ : Type} (τ : Rep K α) (υ : Rep K β) (φ : Rep K γ) (χ : Rep K δ) : Rep K (α × β × γ × δ) := ⟨fun H v x => ∃ a w1 w2 w3 w4, v = .ref a ∧ H a = some (.tup [w1, w2, w3, w4]) ∧ τ.R H w1 x.1 ∧ υ.R H w2 x.2.1 ∧ φ.R H w3 x.2.2.1 ∧ χ.R H w4 x.2.2.2, fun {H H' v x} e h => by
  obtain ⟨a, w1, w2, w3, w4, h1, h2, h3, h4, h5, h6⟩ := h
  exact ⟨a, w1, w2, w3, w4, h1, e _ _ h2, τ.mono e h3, υ.mono e h4, φ.mono e h5, χ.mono e h6⟩⟩
theorem v_p30 {α β γ : Type} {τ : Rep K α} {υ : Rep K β} {φ : Rep K γ} {p : α × β × γ} (e : Same S H) (hr : (qT3 τ υ φ).R S v p) : ∃ w, (∀ {σ : L2.St} {ta tb : TE}, Val ta σ H v → Val tb σ H (.int 0) → Val (tOp (rIxT K) ta tb) σ H w) ∧ τ.R S w p.1 := by
  obtain ⟨a, w1, w2, w3, rfl, h2, r1, r2, r3⟩ := hr
  exact ⟨w1, fun ha hb Q q => ha _ (hb _ ⟨a, _, 0, _, rfl, rfl, SqT.of (e _ _ h2), rfl, q⟩), r1⟩
theorem e_p30 {α β γ : Type} {τ : Rep K α} {υ : Rep K β} {φ : Rep K γ} {p : α × β × γ} (e : Same S H) (hr : (qT3 τ υ φ).R S v p) (k : ∀ w, τ.R S w p.1 → Q w H) : rIxT K v (.int 0) H Q := by
  obtain ⟨a, w1, w2, w3, rfl, h2, r1, r2, r3⟩ := hr
  exact ⟨a, _, 0, _, rfl, rfl, SqT.of (e _ _ h2), rfl, k _ r1⟩
theorem v_t30S {β γ : Type} {υ : Rep K β} {φ : Rep K γ} {p : Str × β × γ} (ha : Val ta σ H v) (hb : Val tb σ H (.int 0)) (hr : (qT3 qS υ φ).R H v p) : Val (tOp (rIxT K) ta tb) σ H (.str p.1) := fun Q z => by
  obtain ⟨a, w1, w2, w3, rfl, h2, r1, r2, r3⟩ := hr
  cases (show w1 = .str p.1 from r1)
  exact ha _ (hb _ ⟨a, _, 0, _, rfl, rfl, SqT.of h2, rfl, z⟩)
theorem v_t30B {β γ : Type} {υ : Rep K β} {φ : Rep K γ} {p : Bool × β × γ} (ha : Val ta σ H v) (hb : Val tb σ H (.int 0)) (hr : (qT3 qB υ φ).R H v p) : Val (tOp (rIxT K) ta tb) σ H (.bl p.1) := fun Q z => by
  obtain ⟨a, w1, w2, w3, rfl, h2, r1, r2, r3⟩ := hr
  cases (show w1 = .bl p.1 from r1)
  exact ha _ (hb _ ⟨a, _, 0, _, rfl, rfl, SqT.of h2, rfl, z⟩)
theorem v_p31 {α β γ : Type} {τ : Rep K α} {υ : Rep K β} {φ : Rep K γ} {p : α × β × γ} (e : Same S H) (hr : (qT3 τ υ φ).R S v p) : ∃ w, (∀ {σ : L2.St} {ta tb : TE}, Val ta σ H v → Val tb σ H (.int 1) → Val (tOp (rIxT K) ta tb) σ H w) ∧ υ.R S w p.2.1 := by
  obtain ⟨a, w1, w2, w3, rfl, h2, r1, r2, r3⟩ := hr
  exact ⟨w2, fun ha hb Q q => ha _ (hb _ ⟨a, _, 1, _, rfl, rfl, SqT.of (e _ _ h2), rfl, q⟩), r2⟩
theorem e_p31 {α β γ : Type} {τ : Rep K α} {υ : Rep K β} {φ : Rep K γ} {p : α × β × γ} (e : Same S H) (hr : (qT3 τ υ φ).R S v p) (k : ∀ w, υ.R S w p.2.1 → Q w H) : rIxT K v (.int 1) H Q := by
  obtain ⟨a, w1, w2, w3, rfl, h2, r1, r2, r3⟩ := hr
  exact ⟨a, _, 1, _, rfl, rfl, SqT.of (e _ _ h2), rfl, k _ r2⟩
theorem v_t31S {α γ : Type} {τ : Rep K α} {φ : Rep K γ} {p : α × Str × γ} (ha : Val ta σ H v) (hb : Val tb σ H (.int 1)) (hr : (qT3 τ qS φ).R H v p) : Val (tOp (rIxT K) ta tb) σ H (.str p.2.1) := fun Q z => by
  obtain ⟨a, w1, w2, w3, rfl, h2, r1, r2, r3⟩ := hr
  cases (show w2 = .str p.2.1 from r2)
  exact ha _ (hb _ ⟨a, _, 1, _, rfl, rfl, SqT.of h2, rfl, z⟩)
theorem v_t31B {α γ : Type} {τ : Rep K α} {φ : Rep K γ} {p : α × Bool × γ} (ha : Val ta σ H v) (hb : Val tb σ H (.int 1)) (hr : (qT3 τ qB φ).R H v p) : Val (tOp (rIxT K) ta tb) σ H (.bl p.2.1) := fun Q z => by
  obtain ⟨a, w1, w2, w3, rfl, h2, r1, r2, r3⟩ := hr
  cases (show w2 = .bl p.2.1 from r2)
  exact ha _ (hb _ ⟨a, _, 1, _, rfl, rfl, SqT.of h2, rfl, z⟩)
theorem v_p32 {α β γ : Type} {τ : Rep K α} {υ : Rep K β} {φ : Rep K γ} {p : α × β × γ} (e : Same S H) (hr : (qT3 τ υ φ).R S v p) : ∃ w, (∀ {σ : L2.St} {ta tb : TE}, Val ta σ H v → Val tb σ H (.int 2) → Val (tOp (rIxT K) ta tb) σ H w) ∧ φ.R S w p.2.2 := by
  obtain ⟨a, w1, w2, w3, rfl, h2, r1, r2, r3⟩ := hr
  exact ⟨w3, fun ha hb Q q => ha _ (hb _ ⟨a, _, 2, _, rfl, rfl, SqT.of (e _ _ h2), rfl, q⟩), r3⟩
theorem e_p32 {α β γ : Type} {τ : Rep K α} {υ : Rep K β} {φ : Rep K γ} {p : α × β × γ} (e : Same S H) (hr : (qT3 τ υ φ).R S v p) (k : ∀ w, φ.R S w p.2.2 → Q w H) : rIxT K v (.int 2) H Q := by
  obtain ⟨a, w1, w2, w3, rfl, h2, r1, r2, r3⟩ := hr
  exact ⟨a, _, 2, _, rfl, rfl, SqT.of (e _ _ h2), rfl, k _ r3⟩
theorem v_t32S {α β : Type} {τ : Rep K α} {υ : Rep K β} {p : α × β × Str} (ha : Val ta σ H v) (hb : Val tb σ H (.int 2)) (hr : (qT3 τ υ qS).R H v p) : Val (tOp (rIxT K) ta tb) σ H (.str p.2.2) := fun Q z => by
  obtain ⟨a, w1, w2, w3, rfl, h2, r1, r2, r3⟩ := hr
  cases (show w3 = .str p.2.2 from r3)
  exact ha _ (hb _ ⟨a, _, 2, _, rfl, rfl, SqT.of h2, rfl, z⟩)
theorem v_t32B {α β : Type} {τ : Rep K α} {υ : Rep K β} {p : α × β × Bool} (ha : Val ta σ H v) (hb : Val tb σ H (.int 2)) (hr : (qT3 τ υ qB).R H v p) : Val (tOp (rIxT K) ta tb) σ H (.bl p.2.2) := fun Q z => by
  obtain ⟨a, w1, w2, w3, rfl, h2, r1, r2, r3⟩ := hr
  cases (show w3 = .bl p.2.2 from r3)
  exact ha _ (hb _ ⟨a, _, 2, _, rfl, rfl, SqT.of h2, rfl, z⟩)
theorem v_lenT3 {α β γ : Type} {τ : Rep K α} {υ : Rep K β} {φ : Rep K γ} {p : α × β × γ} (ha : Val ta σ H v) (hr : (qT3 τ υ φ).R H v p) : Val (tCB (rLenS K) (tCons ta tNil)) σ H (.int 3) := by
  obtain ⟨a, w1, w2, w3, rfl, h2, _⟩ := hr
  exact fun Q q => ha _ ⟨a, _, rfl, .inr (SqT.of h2), q⟩
theorem nn_t3 {α β γ : Type} {τ : Rep K α} {υ : Rep K β} {φ : Rep K γ} {p : α × β × γ} (h : (qT3 τ υ φ).R H v p) : v ≠ .non := by
  obtain ⟨a, w1, w2, w3, rfl, _⟩ := h
  exact fun z => nomatch z
theorem v_p40 {α β γ δ : Type} {τ : Rep K α} {υ : Rep K β} {φ : Rep K γ} {χ : Rep K δ} {p : α × β × γ × δ} (e : Same S H) (hr : (qT4 τ υ φ χ).R S v p) : ∃ w, (∀ {σ : L2.St} {ta tb : TE}, Val ta σ H v → Val tb σ H (.int 0) → Val (tOp (rIxT K) ta tb) σ H w) ∧ τ.R S w p.1 := by
  obtain ⟨a, w1, w2, w3, w4, rfl, h2, r1, r2, r3, r4⟩ := hr
  exact ⟨w1, fun ha hb Q q => ha _ (hb _ ⟨a, _, 0, _, rfl, rfl, SqT.of (e _ _ h2), rfl, q⟩), r1⟩
theorem e_p40 {α β γ δ : Type} {τ : Rep K α} {υ : Rep K β} {φ : Rep K γ} {χ : Rep K δ} {p : α × β × γ × δ} (e : Same S H) (hr : (qT4 τ υ φ χ).R S v p) (k : ∀ w, τ.R S w p.1 → Q w H) : rIxT K v (.int 0) H Q := by
  obtain ⟨a, w1, w2, w3, w4, rfl, h2, r1, r2, r3, r4⟩ := hr
  exact ⟨a, _, 0, _, rfl, rfl, SqT.of (e _ _ h2), rfl, k _ r1⟩
theorem v_t40 {β γ δ : Type} {υ : Rep K β} {φ : Rep K γ} {χ : Rep K δ} {p : Int × β × γ × δ} (ha : Val ta σ H v) (hb : Val tb σ H (.int 0)) (hr : (qT4 qI υ φ χ).R H v p) : Val (tOp (rIxT K) ta tb) σ H (.int p.1) := fun Q z => by
  obtain ⟨a, w1, w2, w3, w4, rfl, h2, r1, r2, r3, r4⟩ := hr
  cases (show w1 = .int p.1 from r1)
  exact ha _ (hb _ ⟨a, _, 0, _, rfl, rfl, SqT.of h2, rfl, z⟩)
theorem v_t40S {β γ δ : Type} {υ : Rep K β} {φ : Rep K γ} {χ : Rep K δ} {p : Str × β × γ × δ} (ha : Val ta σ H v) (hb : Val tb σ H (.int 0)) (hr : (qT4 qS υ φ χ).R H v p) : Val (tOp (rIxT K) ta tb) σ H (.str p.1) := fun Q z => by
  obtain ⟨a, w1, w2, w3, w4, rfl, h2, r1, r2, r3, r4⟩ := hr
  cases (show w1 = .str p.1 from r1)
  exact ha _ (hb _ ⟨a, _, 0, _, rfl, rfl, SqT.of h2, rfl, z⟩)
theorem v_t40B {β γ δ : Type} {υ : Rep K β} {φ : Rep K γ} {χ : Rep K δ} {p : Bool × β × γ × δ} (ha : Val ta σ H v) (hb : Val tb σ H (.int 0)) (hr : (qT4 qB υ φ χ).R H v p) : Val (tOp (rIxT K) ta tb) σ H (.bl p.1) := fun Q z => by
  obtain ⟨a, w1, w2, w3, w4, rfl, h2, r1, r2, r3, r4⟩ := hr
  cases (show w1 = .bl p.1 from r1)
  exact ha _ (hb _ ⟨a, _, 0, _, rfl, rfl, SqT.of h2, rfl, z⟩)
theorem v_p41 {α β γ δ : Type} {τ : Rep K α} {υ : Rep K β} {φ : Rep K γ} {χ : Rep K δ} {p : α × β × γ × δ} (e : Same S H) (hr : (qT4 τ υ φ χ).R S v p) : ∃ w, (∀ {σ : L2.St} {ta tb : TE}, Val ta σ H v → Val tb σ H (.int 1) → Val (tOp (rIxT K) ta tb) σ H w) ∧ υ.R S w p.2.1 := by
  obtain ⟨a, w1, w2, w3, w4, rfl, h2, r1, r2, r3, r4⟩ := hr
  exact ⟨w2, fun ha hb Q q => ha _ (hb _ ⟨a, _, 1, _, rfl, rfl, SqT.of (e _ _ h2), rfl, q⟩), r2⟩
theorem e_p41 {α β γ δ : Type} {τ : Rep K α} {υ : Rep K β} {φ : Rep K γ} {χ : Rep K δ} {p : α × β × γ × δ} (e : Same S H) (hr : (qT4 τ υ φ χ).R S v p) (k : ∀ w, υ.R S w p.2.1 → Q w H) : rIxT K v (.int 1) H Q := by
  obtain ⟨a, w1, w2, w3, w4, rfl, h2, r1, r2, r3, r4⟩ := hr
  exact ⟨a, _, 1, _, rfl, rfl, SqT.of (e _ _ h2), rfl, k _ r2⟩
theorem v_t41 {α γ δ : Type} {τ : Rep K α} {φ : Rep K γ} {χ : Rep K δ} {p : α × Int × γ × δ} (ha : Val ta σ H v) (hb : Val tb σ H (.int 1)) (hr : (qT4 τ qI φ χ).R H v p) : Val (tOp (rIxT K) ta tb) σ H (.int p.2.1) := fun Q z => by
  obtain ⟨a, w1, w2, w3, w4, rfl, h2, r1, r2, r3, r4⟩ := hr
  cases (show w2 = .int p.2.1 from r2)
  exact ha _ (hb _ ⟨a, _, 1, _, rfl, rfl, SqT.of h2, rfl, z⟩)
theorem v_t41S {α γ δ : Type} {τ : Rep K α} {φ : Rep K γ} {χ : Rep K δ} {p : α × Str × γ × δ} (ha : Val ta σ H v) (hb : Val tb σ H (.int 1)) (hr : (qT4 τ qS φ χ).R H v p) : Val (tOp (rIxT K) ta tb) σ H (.str p.2.1) := fun Q z => by
  obtain ⟨a, w1, w2, w3, w4, rfl, h2, r1, r2, r3, r4⟩ := hr
  cases (show w2 = .str p.2.1 from r2)
  exact ha _ (hb _ ⟨a, _, 1, _, rfl, rfl, SqT.of h2, rfl, z⟩)
theorem v_t41B {α γ δ : Type} {τ : Rep K α} {φ : Rep K γ} {χ : Rep K δ} {p : α × Bool × γ × δ} (ha : Val ta σ H v) (hb : Val tb σ H (.int 1)) (hr : (qT4 τ qB φ χ).R H v p) : Val (tOp (rIxT K) ta tb) σ H (.bl p.2.1) := fun Q z => by
  obtain ⟨a, w1, w2, w3, w4, rfl, h2, r1, r2, r3, r4⟩ := hr
  cases (show w2 = .bl p.2.1 from r2)
  exact ha _ (hb _ ⟨a, _, 1, _, rfl, rfl, SqT.of h2, rfl, z⟩)
theorem v_p42 {α β γ δ : Type} {τ : Rep K α} {υ : Rep K β} {φ : Rep K γ} {χ : Rep K δ} {p : α × β × γ × δ} (e : Same S H) (hr : (qT4 τ υ φ χ).R S v p) : ∃ w, (∀ {σ : L2.St} {ta tb : TE}, Val ta σ H v → Val tb σ H (.int 2) → Val (tOp (rIxT K) ta tb) σ H w) ∧ φ.R S w p.2.2.1 := by
  obtain ⟨a, w1, w2, w3, w4, rfl, h2, r1, r2, r3, r4⟩ := hr
  exact ⟨w3, fun ha hb Q q => ha _ (hb _ ⟨a, _, 2, _, rfl, rfl, SqT.of (e _ _ h2), rfl, q⟩), r3⟩
theorem e_p42 {α β γ δ : Type} {τ : Rep K α} {υ : Rep K β} {φ : Rep K γ} {χ : Rep K δ} {p : α × β × γ × δ} (e : Same S H) (hr : (qT4 τ υ φ χ).R S v p) (k : ∀ w, φ.R S w p.2.2.1 → Q w H) : rIxT K v (.int 2) H Q := by
  obtain ⟨a, w1, w2, w3, w4, rfl, h2, r1, r2, r3, r4⟩ := hr
  exact ⟨a, _, 2, _, rfl, rfl, SqT.of (e _ _ h2), rfl, k _ r3⟩
theorem v_t42 {α β δ : Type} {τ : Rep K α} {υ : Rep K β} {χ : Rep K δ} {p : α × β × Int × δ} (ha : Val ta σ H v) (hb : Val tb σ H (.int 2)) (hr : (qT4 τ υ qI χ).R H v p) : Val (tOp (rIxT K) ta tb) σ H (.int p.2.2.1) := fun Q z => by
  obtain ⟨a, w1, w2, w3, w4, rfl, h2, r1, r2, r3, r4⟩ := hr
  cases (show w3 = .int p.2.2.1 from r3)
  exact ha _ (hb _ ⟨a, _, 2, _, rfl, rfl, SqT.of h2, rfl, z⟩)
theorem v_t42S {α β δ : Type} {τ : Rep K α} {υ : Rep K β} {χ : Rep K δ} {p : α × β × Str × δ} (ha : Val ta σ H v) (hb : Val tb σ H (.int 2)) (hr : (qT4 τ υ qS χ).R H v p) : Val (tOp (rIxT K) ta tb) σ H (.str p.2.2.1) := fun Q z => by
  obtain ⟨a, w1, w2, w3, w4, rfl, h2, r1, r2, r3, r4⟩ := hr
  cases (show w3 = .str p.2.2.1 from r3)
  exact ha _ (hb _ ⟨a, _, 2, _, rfl, rfl, SqT.of h2, rfl, z⟩)
theorem v_t42B {α β δ : Type} {τ : Rep K α} {υ : Rep K β} {χ : Rep K δ} {p : α × β × Bool × δ} (ha : Val ta σ H v) (hb : Val tb σ H (.int 2)) (hr : (qT4 τ υ qB χ).R H v p) : Val (tOp (rIxT K) ta tb) σ H (.bl p.2.2.1) := fun Q z => by
  obtain ⟨a, w1, w2, w3, w4, rfl, h2, r1, r2, r3, r4⟩ := hr
  cases (show w3 = .bl p.2.2.1 from r3)
  exact ha _ (hb _ ⟨a, _, 2, _, rfl, rfl, SqT.of h2, rfl, z⟩)
theorem v_p43 {α β γ δ : Type} {τ : Rep K α} {υ : Rep K β} {φ : Rep K γ} {χ : Rep K δ} {p : α × β × γ × δ} (e : Same S H) (hr : (qT4 τ υ φ χ).R S v p) : ∃ w, (∀ {σ : L2.St} {ta tb : TE}, Val ta σ H v → Val tb σ H (.int 3) → Val (tOp (rIxT K) ta tb) σ H w) ∧ χ.R S w p.2.2.2 := by
  obtain ⟨a, w1, w2, w3, w4, rfl, h2, r1, r2, r3, r4⟩ := hr
  exact ⟨w4, fun ha hb Q q => ha _ (hb _ ⟨a, _, 3, _, rfl, rfl, SqT.of (e _ _ h2), rfl, q⟩), r4⟩
theorem e_p43 {α β γ δ : Type} {τ : Rep K α} {υ : Rep K β} {φ : Rep K γ} {χ : Rep K δ} {p : α × β × γ × δ} (e : Same S H) (hr : (qT4 τ υ φ χ).R S v p) (k : ∀ w, χ.R S w p.2.2.2 → Q w H) : rIxT K v (.int 3) H Q := by
  obtain ⟨a, w1, w2, w3, w4, rfl, h2, r1, r2, r3, r4⟩ := hr
  exact ⟨a, _, 3, _, rfl, rfl, SqT.of (e _ _ h2), rfl, k _ r4⟩
theorem v_t43 {α β γ : Type} {τ : Rep K α} {υ : Rep K β} {φ : Rep K γ} {p : α × β × γ × Int} (ha : Val ta σ H v) (hb : Val tb σ H (.int 3)) (hr : (qT4 τ υ φ qI).R H v p) : Val (tOp (rIxT K) ta tb) σ H (.int p.2.2.2) := fun Q z => by
  obtain ⟨a, w1, w2, w3, w4, rfl, h2, r1, r2, r3, r4⟩ := hr
  cases (show w4 = .int p.2.2.2 from r4)
  exact ha _ (hb _ ⟨a, _, 3, _, rfl, rfl, SqT.of h2, rfl, z⟩)
theorem v_t43S {α β γ : Type} {τ : Rep K α} {υ : Rep K β} {φ : Rep K γ} {p : α × β × γ × Str} (ha : Val ta σ H v) (hb : Val tb σ H (.int 3)) (hr : (qT4 τ υ φ qS).R H v p) : Val (tOp (rIxT K) ta tb) σ H (.str p.2.2.2) := fun Q z => by
  obtain ⟨a, w1, w2, w3, w4, rfl, h2, r1, r2, r3, r4⟩ := hr
  cases (show w4 = .str p.2.2.2 from r4)
  exact ha _ (hb _ ⟨a, _, 3, _, rfl, rfl, SqT.of h2, rfl, z⟩)
theorem v_t43B {α β γ : Type} {τ : Rep K α} {υ : Rep K β} {φ : Rep K γ} {p : α × β × γ × Bool} (ha : Val ta σ H v) (hb : Val tb σ H (.int 3)) (hr : (qT4 τ υ φ qB).R H v p) : Val (tOp (rIxT K) ta tb) σ H (.bl p.2.2.2) := fun Q z => by
  obtain ⟨a, w1, w2, w3, w4, rfl, h2, r1, r2, r3, r4⟩ := hr
  cases (show w4 = .bl p.2.2.2 from r4)
  exact ha _ (hb _ ⟨a, _, 3, _, rfl, rfl, SqT.of h2, rfl, z⟩)
theorem v_lenT4 {α β γ δ : Type} {τ : Rep K α} {υ : Rep K β} {φ : Rep K γ} {χ : Rep K δ} {p : α × β × γ × δ} (ha : Val ta σ H v) (hr : (qT4 τ υ φ χ).R H v p) : Val (tCB (rLenS K) (tCons ta tNil)) σ H (.int 4) := by
  obtain ⟨a, w1, w2, w3, w4, rfl, h2, _⟩ := hr
  exact fun Q q => ha _ ⟨a, _, rfl, .inr (SqT.of h2), q⟩
theorem nn_t4 {α β γ δ : Type} {τ : Rep K α} {υ : Rep K β} {φ : Rep K γ} {χ : Rep K δ} {p : α × β × γ × δ} (h : (qT4 τ υ φ χ).R H v p) : v ≠ .non := by
  obtain ⟨a, w1, w2, w3, w4, rfl, _⟩ := h
  exact fun z => nomatch z
theorem ty_t4 {α β γ δ : Type} {τ : Rep K α} {υ : Rep K β} {φ : Rep K γ} {χ : Rep K δ} {p : α × β × γ × δ} (hr : (qT4 τ υ φ χ).R H v p) : TyX K H v (.type "tuple") := by
  obtain ⟨a, w1, w2, w3, w4, rfl, h2, _⟩ := hr
  exact .base (.tup h2)
theorem g_tup4 {n : Nat} {α β γ δ : Type} {τ : Rep K α} {υ : Rep K β} {φ : Rep K γ} {χ : Rep K δ} {p : α × β × γ × δ} {t1 t2 t3 t4 : TG} {q : L2.St → Hp → Prop} (hn : 4 = n) (e : Same S H) (h : (qT4 τ υ φ χ).R S v p) (k : ∀ w1 w2 w3 w4, τ.R S w1 p.1 → υ.R S w2 p.2.1 → φ.R S w3 p.2.2.1 → χ.R S w4 p.2.2.2 → t1 w1 σ H fun σ1 H1 => gCons t2 (gCons t3 (gCons t4 gNil)) [w2, w3, w4] σ1 H1 q) : gTup K n (gCons t1 (gCons t2 (gCons t3 (gCons t4 gNil)))) v σ H q := by
  subst hn
  obtain ⟨a, w1, w2, w3, w4, rfl, h2, h3, h4, h5, h6⟩ := h
  exact ⟨a, _, rfl, SqT.of (e _ _ h2), rfl, w1, _, rfl, k w1 w2 w3 w4 h3 h4 h5 h6⟩
end
/-! ### trees: ("lamp", number), ("sure", truth), (word, [trees]) -/
inductive Tr | lamp (i : Int) | sure (b : Bool) | node (w : Str) (xs : List Tr)
mutual
inductive RTr (H : Hp) : V → Tr → Prop
  | lamp {a : Addr} {i : Int} : H a = some (.tup [.str "lamp", .int i]) → RTr H (.ref a) (.lamp i)
  | sure {a : Addr} {b : Bool} : H a = some (.tup [.str "sure", .bl b]) → RTr H (.ref a) (.sure b)
  | node {a l : Addr} {w : Str} {ws : List V} {xs : List Tr} : H a = some (.tup [.str w, .ref l]) → H l = some (.lst ws) → RTrs H ws xs → RTr H (.ref a) (.node w xs)
inductive RTrs (H : Hp) : List V → List Tr → Prop
  | nil : RTrs H [] []
  | cons {v : V} {x : Tr} {vs : List V} {xs : List Tr} : RTr H v x → RTrs H vs xs → RTrs H (v :: vs) (x :: xs)
end
mutual
theorem RTr.mono {H H' : Hp} (e : Same H H') : ∀ {v : V} {x : Tr}, RTr H v x → RTr H' v x
  | _, _, .lamp h => .lamp (e _ _ h)
  | _, _, .sure h => .sure (e _ _ h)
  | _, _, .node h1 h2 h3 => .node (e _ _ h1) (e _ _ h2) (RTrs.mono e h3)
theorem RTrs.mono {H H' : Hp} (e : Same H H') : ∀ {v : List V} {x : List Tr}, RTrs H v x → RTrs H' v x
  | _, _, .nil => .nil
  | _, _, .cons a b => .cons (RTr.mono e a) (RTrs.mono e b)
end
def Tr.word : Tr → Str
  | .lamp _ => "lamp"
  | .sure _ => "sure"
  | .node w _ => w
def Tr.getI : Tr → Option Int
  | .lamp i => some i
  | _ => none
def Tr.getB : Tr → Option Bool
  | .sure b => some b
  | _ => none
def Tr.getL : Tr → Option (List Tr)
  | .node _ xs => some xs
  | _ => none
section
variable {K : PySem.W.Frag} {σ : L2.St} {S H : Hp} {v : V} {ta tb tc : TE} {x : Tr}
def qTr : Rep K Tr := ⟨fun H v x => RTr H v x, fun e h => RTr.mono e h⟩
theorem RTrs.to : ∀ {ws : List V} {xs : List Tr}, RTrs H ws xs → RL (qTr (K := K)) H ws xs
  | _, _, .nil => .nil
  | _, _, .cons a b => .cons a b.to
theorem RTrs.of : ∀ {ws : List V} {xs : List Tr}, RL (qTr (K := K)) H ws xs → RTrs H ws xs
  | _, _, .nil => .nil
  | _, _, .cons a b => .cons a (RTrs.of b)
theorem nn_tr (h : (qTr (K := K)).R H v x) : v ≠ .non := by
  cases h <;> exact fun z => nomatch z
theorem qTrI {i : Int} (h : (qT2 (K := K) qS qI).R S v ("lamp", i)) : (qTr (K := K)).R S v (.lamp i) := by
  obtain ⟨a, w1, w2, rfl, h2, h3, h4⟩ := h
  cases (show w1 = .str "lamp" from h3)
  cases (show w2 = .int i from h4)
  exact .lamp h2
theorem qTrB {i : Bool} (h : (qT2 (K := K) qS qB).R S v ("sure", i)) : (qTr (K := K)).R S v (.sure i) := by
  obtain ⟨a, w1, w2, rfl, h2, h3, h4⟩ := h
  cases (show w1 = .str "sure" from h3)
  cases (show w2 = .bl i from h4)
  exact .sure h2
theorem qTrN {w : Str} {xs : List Tr} (h : (qT2 (K := K) qS (qL qTr)).R S v (w, xs)) : (qTr (K := K)).R S v (.node w xs) := by
  obtain ⟨a, w1, w2, rfl, h2, h3, h4⟩ := h
  cases (show w1 = .str w from h3)
  obtain ⟨l, ws, rfl, h5, h6⟩ := h4
  exact .node h2 h5 (RTrs.of h6)
theorem v_tr0 (ha : Val ta σ H v) (hb : Val tb σ H (.int 0)) (h : (qTr (K := K)).R H v x) : Val (tOp (rIxT K) ta tb) σ H (.str x.word) := by
  cases h with
  | lamp h => exact fun Q r => ha _ (hb _ ⟨_, _, 0, _, rfl, rfl, SqT.of h, L2.atI_nat (j := 0) rfl, r⟩)
  | sure h => exact fun Q r => ha _ (hb _ ⟨_, _, 0, _, rfl, rfl, SqT.of h, L2.atI_nat (j := 0) rfl, r⟩)
  | node h _ _ => exact fun Q r => ha _ (hb _ ⟨_, _, 0, _, rfl, rfl, SqT.of h, L2.atI_nat (j := 0) rfl, r⟩)
theorem v_trI {y : Int} (ha : Val ta σ H v) (hb : Val tb σ H (.int 1)) (h : (qTr (K := K)).R H v x) (e : x.getI = some y) : Val (tOp (rIxT K) ta tb) σ H (.int y) := by
  cases h with
  | lamp h =>
    cases Option.some.inj e
    exact fun Q r => ha _ (hb _ ⟨_, _, 1, _, rfl, rfl, SqT.of h, L2.atI_nat (j := 1) rfl, r⟩)
  | sure h => cases e
  | node h _ _ => cases e
theorem v_trB {y : Bool} (ha : Val ta σ H v) (hb : Val tb σ H (.int 1)) (h : (qTr (K := K)).R H v x) (e : x.getB = some y) : Val (tOp (rIxT K) ta tb) σ H (.bl y) := by
  cases h with
  | lamp h => cases e
  | sure h =>
    cases Option.some.inj e
    exact fun Q r => ha _ (hb _ ⟨_, _, 1, _, rfl, rfl, SqT.of h, L2.atI_nat (j := 1) rfl, r⟩)
  | node h _ _ => cases e
theorem v_trL {y : List Tr} (eS : Same S H) (h : (qTr (K := K)).R S v x) (e : x.getL = some y) : ∃ w, (∀ {σ : L2.St} {ta tb : TE}, Val ta σ H v → Val tb σ H (.int 1) → Val (tOp (rIxT K) ta tb) σ H w) ∧ (qL (qTr (K := K))).R S w y := by
  cases h with
  | lamp h => cases e
  | sure h => cases e
  | node h h2 h3 =>
    cases Option.some.inj e
    exact ⟨_, fun ha hb Q r => ha _ (hb _ ⟨_, _, 1, _, rfl, rfl, SqT.of (eS _ _ h), L2.atI_nat (j := 1) rfl, r⟩), _, _, rfl, h2, h3.to⟩
/-! ### a module's tuples of texts -/
theorem atI_map {α β : Type} (f : α → β) {xs : List α} {i : Int} {x : α} (h : L2.atI xs i = some x) : L2.atI (xs.map f) i = some (f x) := by
  unfold L2.atI at h ⊢
  rw [List.length_map]
  cases e : L2.ixN xs.length i with
  | none => rw [e] at h; cases h
  | some j =>
    rw [e] at h
    show (xs.map f)[j]? = _
    rw [List.getElem?_map]
    have h : xs[j]? = some x := h
    rw [h]; rfl
theorem sqt_K {H : Hp} {a : Addr} {od : Option Addr} {its : Array Value} {n : Nat} {sl : Array (Option Value)} {xs : List V} (h : K.lookup a = some ⟨.type "tuple", od, .seq its n, sl⟩) (hz : its.size ≤ 16) (r : Vals xs its.toList) : SqT K H a xs :=
  .inr ⟨_, its, n, h, rfl, rfl, Nat.le_trans hz (by rw [sizeLine_eq]; decide), r⟩
theorem v_lenC {a : Addr} {xs : List Str} (ha : Val ta σ H (.ref a)) (h : SqT K H a (xs.map V.str)) : Val (tCB (rLenS K) (tCons ta tNil)) σ H (.int (xs.length : Int)) := by
  refine fun Q q => ha _ ⟨a, _, rfl, .inr h, ?_⟩
  rw [List.length_map]; exact q
theorem v_ixC {a : Addr} {xs : List Str} {i : Int} {s : Str} (ha : Val ta σ H (.ref a)) (hb : Val tb σ H (.int i)) (h : SqT K H a (xs.map V.str)) (e : L2.atI xs i = some s) : Val (tOp (rIxT K) ta tb) σ H (.str s) :=
  fun Q r => ha _ (hb _ ⟨a, _, i, _, rfl, rfl, h, atI_map V.str e, r⟩)
theorem v_inC {a : Addr} {xs : List Str} {s : Str} (ha : Val ta σ H (.str s)) (hb : Val tb σ H (.ref a)) (h : SqT K H a (xs.map V.str)) : Val (tOp (rIn K false) ta tb) σ H (.bl (xs.any fun y => decide (y = s))) :=
  fun Q q => ha _ (hb _ ⟨a, _, rfl, .inr h, rfl, by rw [List.all_map]; exact List.all_eq_true.mpr fun _ _ => rfl, by
    show Q (.bl (inV _ _)) H
    rw [inV_str]; exact q⟩)
theorem v_ninC {a : Addr} {xs : List Str} {s : Str} (ha : Val ta σ H (.str s)) (hb : Val tb σ H (.ref a)) (h : SqT K H a (xs.map V.str)) : Val (tOp (rIn K true) ta tb) σ H (.bl (!(xs.any fun y => decide (y = s)))) :=
  fun Q q => ha _ (hb _ ⟨a, _, rfl, .inr h, rfl, by rw [List.all_map]; exact List.all_eq_true.mpr fun _ _ => rfl, by
    show Q (.bl (!inV _ _)) H
    rw [inV_str]; exact q⟩)
def idxN : List Str → Str → Option Nat
  | [], _ => none
  | x :: xs, s => if x = s then some 0 else (idxN xs s).map (· + 1)
def idxS (xs : List Str) (s : Str) : Option Int := (idxN xs s).map fun (n : Nat) => (n : Int)
theorem idxN_some : ∀ {xs : List Str} {s : Str} {j : Nat}, idxN xs s = some j → xs[j]? = some s ∧ ∀ m z, m < j → xs[m]? = some z → z ≠ s
  | [], _, _, h => by cases h
  | x :: xs, s, j, h => by
    unfold idxN at h
    split at h
    · rename_i e
      cases h
      exact ⟨by rw [e]; rfl, fun m z hm => by omega⟩
    · rename_i e
      obtain ⟨k, hk, rfl⟩ := Option.map_eq_some_iff.mp h
      obtain ⟨h1, h2⟩ := idxN_some hk
      refine ⟨by simpa using h1, fun m z hm hz => ?_⟩
      cases m with
      | zero => cases (show some x = some z from hz); exact e
      | succ m => exact h2 m z (by omega) (by simpa using hz)
theorem v_indexS {xs : List Str} {s : Str} {j : Int} (ha : Val ta σ H v) (hr : (qQ (K := K) qS).R H v xs) (hb : Val tb σ H (.str s)) (e : idxS xs s = some j) : Val (tBM K "list" (rIndex K) ta (tCons tb tNil)) σ H (.int j) := by
  obtain ⟨p, ws, rfl, h2, h3⟩ := hr
  have ew := ls_eq h3
  subst ew
  obtain ⟨n, en, rfl⟩ := Option.map_eq_some_iff.mp e
  obtain ⟨h4, h5⟩ := idxN_some en
  refine fun Q q => ha _ ⟨.inl ⟨rfl, _, h2⟩, hb _ ⟨p, _, .str s, n, .str s, rfl, rfl, h2, rfl, by rw [List.all_map]; exact List.all_eq_true.mpr fun _ _ => rfl, by rw [List.getElem?_map, h4]; rfl, ?_, fun m z hm hz => ?_, q⟩⟩
  · show (s == s) = true
    exact beq_self_eq_true s
  · rw [List.getElem?_map] at hz
    obtain ⟨y, hy, rfl⟩ := Option.map_eq_some_iff.mp hz
    show (y == s) = false
    exact beq_eq_false_iff_ne.mpr (h5 m y hm hy)
/-- a field of one's own += a number -/
theorem z_fldaug {D : Ends} {tu : TS} {tv : TE} {L : List Addr} {S0 H0 : Hp} {l C dx : Addr} {fs fs' : List (Str × V)} {f : Str} {i j n : Int} (g : Grow L S0 H0 S H) (cl : Cel L H0 S H l (.ins C dx fs)) (ho : Val ta σ H (.ref l)) (c : Cls K C) (nA : NoAttr K C f)
    (lk : fs.lookup f = some (.int i)) (hv : Val tv σ H (.int j)) (hn : fs.length < 1000) (e : i + j = n) (he : putF f (.int n) fs = fs')
    (k : ∀ H', Grow L S0 H0 S H' → Cel L H0 S H' l (.ins C dx fs') → (∀ l' o', l' ≠ l → Cel L H0 S H l' o' → Cel L H0 S H' l' o') → tu D σ H') : tSeq (sFldAug K ta tv rAdd f) tu D σ H := by
  subst e he
  exact ho _ ⟨l, C, dx, fs, _, rfl, cl.h, c, nA, lk, hv _ ⟨i, j, rfl, rfl, dx, fs, cl.h, hn, k _ (g.wr cl rfl) (cl.wr rfl) fun l' o' n c => c.wrn n⟩⟩
/-! ### a list of lists of one's own, of which nothing is to be known but that they are lists -/
structure LOX (L : List Addr) (H0 S H : Hp) (l : Addr) (as bs : List Addr) (n : Nat) : Prop where
  cel : ∀ b ∈ bs, ∃ ws, Cel L H0 S H b (.lst ws)
  zz : ∀ b ∈ bs, H0 b = none
  ne : ∀ b ∈ bs, b ≠ l
  len : (as ++ bs).length = n
/-- the new ones that a def has put there -/
def LXN (H S' H' : Hp) (bs : List Addr) : Prop := ∀ b ∈ bs, H b = none ∧ S' b = none ∧ ∃ ws, H' b = some (.lst ws)
variable {L L' : List Addr} {S0 H0 S' H' S1 : Hp} {l p : Addr} {as bs : List Addr} {n n' : Nat} {Q : VK}
theorem LOX.nil (h : as.length = n) : LOX L H0 S H l as [] n := ⟨fun _ h => (nomatch h), fun _ h => (nomatch h), fun _ h => (nomatch h), by rw [List.append_nil]; exact h⟩
theorem LOX.mlen (h : LOX L H0 S H l as bs n) : ((as ++ bs).map V.ref).length = n := by rw [List.length_map]; exact h.len
theorem LOX.ext (h : LOX L H0 S H l as bs n) (e : Same H H') : LOX L H0 S H' l as bs n := ⟨fun b hb => by
  obtain ⟨ws, c⟩ := h.cel b hb
  exact ⟨ws, c.ext e⟩, h.zz, h.ne, h.len⟩
theorem LOX.grow0 (h : LOX L H0 S H l as bs n) (g : Grow [] S H S1 H') : LOX L H0 S1 H' l as bs n := ⟨fun b hb => by
  obtain ⟨ws, c⟩ := h.cel b hb
  exact ⟨ws, c.call0 g⟩, h.zz, h.ne, h.len⟩
theorem LOX.grow (h : LOX L H0 S H l as bs n) (g : Grow L' S H S1 H') (hn : ∀ b ∈ bs, b ∉ L') : LOX L H0 S1 H' l as bs n := ⟨fun b hb => by
  obtain ⟨ws, c⟩ := h.cel b hb
  exact ⟨ws, c.call g (hn b hb)⟩, h.zz, h.ne, h.len⟩
theorem LOX.neN (h : LOX L H0 S H l as bs n) (hp : H p = none) : ∀ b ∈ bs, b ≠ p := fun b hb e => by
  obtain ⟨ws, c⟩ := h.cel b hb
  rw [← e, c.h] at hp; cases hp
theorem LOX.nei (h : LOX L H0 S H l as bs n) {C dx : Addr} {fs : List (Str × V)} (hp : H p = some (.ins C dx fs)) : ∀ b ∈ bs, b ≠ p := fun b hb e => by
  obtain ⟨ws, c⟩ := h.cel b hb
  have q := c.h
  rw [e, hp] at q; cases q
theorem LOX.out (t : ∀ b ∈ bs, b ∉ L') (h : ∀ b ∈ bs, b ≠ p) : ∀ b ∈ bs, b ∉ p :: L' := fun b m q => by
  rcases List.mem_cons.mp q with rfl | q
  · exact h _ m rfl
  · exact t b m q
/-- another list of one's own has changed, or an object -/
theorem LOX.wr (h : LOX L H0 S H l as bs n) (ot : ∀ l' o', l' ≠ p → Cel L H0 S H l' o' → Cel L H0 S1 H' l' o') (k : ∀ b ∈ bs, b = p → ∃ ws, Cel L H0 S1 H' b (.lst ws)) : LOX L H0 S1 H' l as bs n := ⟨fun b hb => by
  by_cases e : b = p
  · exact k b hb e
  · obtain ⟨ws, c⟩ := h.cel b hb
    exact ⟨ws, ot b _ e c⟩, h.zz, h.ne, h.len⟩
theorem LOX.wrL {ws : List V} (h : LOX L H0 S H l as bs n) (ot : ∀ l' o', l' ≠ p → Cel L H0 S H l' o' → Cel L H0 S1 H' l' o') (c : Cel L H0 S1 H' p (.lst ws)) : LOX L H0 S1 H' l as bs n := h.wr ot fun b _ e => ⟨ws, e ▸ c⟩
theorem LOX.wrO (h : LOX L H0 S H l as bs n) (ot : ∀ l' o', l' ≠ p → Cel L H0 S H l' o' → Cel L H0 S1 H' l' o') {C dx : Addr} {fs : List (Str × V)} (hp : H p = some (.ins C dx fs)) : LOX L H0 S1 H' l as bs n := h.wr ot fun b hb e => absurd e (h.nei hp b hb)
theorem LOX.snoc {ws : List V} (h : LOX L H0 S H l as bs n) (ot : ∀ l' o', l' ≠ l → Cel L H0 S H l' o' → Cel L H0 S H' l' o') (c : Cel L H0 S H' p (.lst ws)) (z : H0 p = none) (hp : p ≠ l) (e : n + 1 = n') : LOX L H0 S H' l as (bs ++ [p]) n' := ⟨fun b hb => by
  rcases List.mem_append.mp hb with hb | hb
  · obtain ⟨ws, c⟩ := h.cel b hb
    exact ⟨ws, ot b _ (h.ne b hb) c⟩
  · rw [List.mem_singleton.mp hb]; exact ⟨ws, c⟩, fun b hb => by
  rcases List.mem_append.mp hb with hb | hb
  · exact h.zz b hb
  · rw [List.mem_singleton.mp hb]; exact z, fun b hb => by
  rcases List.mem_append.mp hb with hb | hb
  · exact h.ne b hb
  · rw [List.mem_singleton.mp hb]; exact hp, by rw [← List.append_assoc, List.length_append, h.len]; exact e⟩
theorem LOX.more {cs : List Addr} {o : HO} (h : LOX L H0 S H l as bs n) (g : Grow L S0 H0 S H) (gc : Grow L' S H S' H') (hl : H l = some o) (hn : ∀ b ∈ bs, b ∉ L') (x : LXN H S' H' cs) (e : ((as ++ bs) ++ cs).length = n') : LOX L H0 S' H' l as (bs ++ cs) n' := ⟨fun b hb => by
  rcases List.mem_append.mp hb with hb | hb
  · obtain ⟨ws, c⟩ := h.cel b hb
    exact ⟨ws, c.call gc (hn b hb)⟩
  · obtain ⟨x1, x2, ws, x3⟩ := x b hb
    exact ⟨ws, x3, x2, .inl (g.hnone x1), rfl⟩, fun b hb => by
  rcases List.mem_append.mp hb with hb | hb
  · exact h.zz b hb
  · exact g.hnone (x b hb).1, fun b hb => by
  rcases List.mem_append.mp hb with hb | hb
  · exact h.ne b hb
  · exact ne_of_none' hl (x b hb).1, by rw [← List.append_assoc]; exact e⟩
where ne_of_none' {H : Hp} {a b : Addr} {o : HO} (h1 : H a = some o) (h2 : H b = none) : b ≠ a := fun e => by rw [e, h1] at h2; cases h2
theorem LOX.lxn (h : LOX L H0 S H l as bs n) : LXN H0 S H bs := fun b hb => by
  obtain ⟨ws, c⟩ := h.cel b hb
  exact ⟨h.zz b hb, c.s, ws, c.h⟩
theorem c_appB {ws : List V} (g : Grow L S0 H0 S H) (cl : Cel L H0 S H l (.lst ws)) (hz : ws.length < 16777216)
    (k : ∀ H', Grow L S0 H0 S H' → Cel L H0 S H' l (.lst (ws ++ [v])) → (∀ l' o', l' ≠ l → Cel L H0 S H l' o' → Cel L H0 S H' l' o') → Q .non H') : rAppend (.ref l) [v] H Q :=
  ⟨l, ws, v, rfl, rfl, cl.h, by exact hz, k _ (g.wr cl rfl) (cl.wr rfl) fun l' o' n c => c.wrn n⟩
theorem pairRef : ∀ (bs all : List Addr), (∀ b ∈ bs, b ∈ all) → Paired (fun (w : V) (b : Addr) => w = .ref b ∧ b ∈ all) (bs.map V.ref) bs
  | [], _, _ => .nil
  | b :: bs, all, h => .cons ⟨rfl, h b List.mem_cons_self⟩ (pairRef bs all fun c hc => h c (List.mem_cons_of_mem _ hc))
end
end Z

namespace Z
open PySem PySem.Spec PyProof.Rows L2
theorem ns_conj {M : Model} {Γ : PySem.Ctx} {a : Addr} {n : Str} {v : Value} {Q R : Unit → Pos → Shared → Prop} {E : Value → Pos → Shared → Prop} {p : Pos} {s : Shared}
    (h1 : Sem.wp M Γ (nsSet a n v) Q E p s) (h2 : Sem.wp M Γ (nsSet a n v) R E p s) : Sem.wp M Γ (nsSet a n v) (fun x p s => Q x p s ∧ R x p s) E p s := by
  have key : ∀ (h : Int) (k : Value) (s : Shared), (∃ o, s.heap.get? a = some o ∧ Sem.wp M Γ (match o.data with
      | .dict es _ => do
        if aRefKeyMayBeTheName n es then unsupported "namespace:key-that-is-no-exact-str"
        updatePart a (some (.str n 0)) (Obj.putName n h k v)
      | _ => unsupported "internal:write-to-non-dict") Q E p s) → (∃ o, s.heap.get? a = some o ∧ Sem.wp M Γ (match o.data with
      | .dict es _ => do
        if aRefKeyMayBeTheName n es then unsupported "namespace:key-that-is-no-exact-str"
        updatePart a (some (.str n 0)) (Obj.putName n h k v)
      | _ => unsupported "internal:write-to-non-dict") R E p s) → (∃ o, s.heap.get? a = some o ∧ Sem.wp M Γ (match o.data with
      | .dict es _ => do
        if aRefKeyMayBeTheName n es then unsupported "namespace:key-that-is-no-exact-str"
        updatePart a (some (.str n 0)) (Obj.putName n h k v)
      | _ => unsupported "internal:write-to-non-dict") (fun x p s => Q x p s ∧ R x p s) E p s) := by
    rintro h k s ⟨o, e, q⟩ ⟨o', e', q'⟩
    rw [e] at e'
    cases e'
    refine ⟨o, e, ?_⟩
    cases hd : o.data with
    | dict es m =>
      rw [hd] at q q'
      dsimp only at q q' ⊢
      by_cases hc : aRefKeyMayBeTheName n es = true
      · simp only [hc, if_true] at q
        exact False.elim q
      · simp only [hc] at q q' ⊢
        exact ⟨q.1, q.2, q'.2⟩
    | _ => rw [hd] at q; exact False.elim q
  exact key _ _ _ h1 h2
theorem store_look {X : Cx} {pins : List (Addr × Obj)} {σ : L2.St} {H : Hp} {s : Shared} {M : Model} {A : Around} {E : Value → Shared → Prop} {i : Nat} {x : Str} {v : V} {u : Value} (I : Inv X pins σ H s) (hN : X.N.Nodup) (hi : X.N[i]? = some x) (hk : X.env.scope.names.lookup x = some .local) (r : RelV v u) :
    wpAny M A (storeName X.env x u) (fun _ s' => Inv X pins (σ.set i (some v)) H s' ∧ ((∃ m, s'.heap.Ns X.env.locals m ∧ m x = some u) ∧ s'.toks = s.toks + 1)) E s := by
  have hcls : (X.env.scope.kind == .class || (X.env.scope.kind == .module && X.env.locals != X.env.globals)) = false := by rw [I.ok.kind]; rfl
  obtain ⟨m, hn, _⟩ := id I.loc
  have h1 : wpAny M A (storeName X.env x u) (fun _ s' => Inv X pins (σ.set i (some v)) H s') E s := store_ok I hN hi (.inl hk) r (fun _ z => z) (.inr hk)
  have h2 : wpAny M A (storeName X.env x u) (fun _ s' => (∃ m, s'.heap.Ns X.env.locals m ∧ m x = some u) ∧ s'.toks = s.toks + 1) E s :=
    wpAny_storeName_local hk hn (fun h' hn' _ => ⟨⟨_, hn', if_pos rfl⟩, rfl⟩) hcls
  rw [storeName_local hk hcls] at h1 h2 ⊢
  exact fun Γ p hΓ => ns_conj (h1 Γ p hΓ) (h2 Γ p hΓ)
/-- x.replace(c, " " + c + " ") for each sign c of a written text -/
def gRep (x z : Str) : Prop := x.length + (x.length + 1) * z.length ≤ 16777216
instance (x z : Str) : Decidable (gRep x z) := by unfold gRep; infer_instance
def spc (c : Str) : Str := ((" " : Str) ++ c) ++ (" " : Str)
def tForRep (it ix : Nat) (w : Str) : TS := fun D σ H => ∃ x y, σ[ix]? = some (some (.str x)) ∧ forO (fun c x => grd (gRep x (spc c)) <| some (Txt.replace x c (spc c))) (sgs w) x = some y ∧ ∀ u, D.nx ((σ.set it u).set ix (some (.str y))) H
theorem set4 {α : Type} {a b : Nat} (h : a ≠ b) (l : List α) (p q r t : α) : (((l.set a p).set b q).set a r).set b t = (l.set a r).set b t := by
  rw [List.set_comm q r h.symm, List.set_set, List.set_set]
theorem spc_ne (c : Nat) : ((⟨#[c]⟩ : Str) == spc ⟨#[c]⟩) = false := by
  refine beq_eq_false_iff_ne.mpr fun e => ?_
  have := congrArg (fun z : Str => z.length) e
  have h : (spc ⟨#[c]⟩).length = 3 := rfl
  have this : 1 = (spc ⟨#[c]⟩).length := this
  rw [h] at this
  exact absurd this (by decide)
section
variable {X : Cx} {it ix : Nat} {sg tx w : Str} {j : Nat} {p0 p1 p2 p3 p4 p5 p6 p7 p8 p9 pa pos pos2 pq : Pos}
/-- the body's value -/
theorem rep_value (hN : X.N.Nodup) (ht : X.N[it]? = some sg) (hx : X.N[ix]? = some tx) (kt : X.env.scope.names.lookup sg = some .local) (kx : X.env.scope.names.lookup tx = some .local)
    (d1 : (sg == ("__debug__" : Str)) = false) (d2 : (tx == ("__debug__" : Str)) = false)
    {pins : List (Addr × Obj)} {s : Shared} {σ : L2.St} {H : Hp} {x : Str} {c : Nat} {t : Nat} (I : Inv X pins σ H s) (ex : σ[ix]? = some (some (.str x))) (lk : ∃ m, s.heap.Ns X.env.locals m ∧ m sg = some (.str ⟨#[c]⟩ t)) (h0 : 0 < t) (h1 : t < s.toks)
    (hz : gRep x (spc ⟨#[c]⟩))
    (hst : starEach [.Name sg p3, .BinOp (.BinOp (.Constant (.str " ") 0 p4) .Add (.Name sg p5) p6) .Add (.Constant (.str " ") 0 p7) p8] X.env = [(false, eval (.Name sg p3) X.env), (false, eval (.BinOp (.BinOp (.Constant (.str " ") 0 p4) .Add (.Name sg p5) p6) .Add (.Constant (.str " ") 0 p7) p8) X.env)])
    (hbase : attributeBase (.Name tx p2) "replace" X.env (eval (.Name tx p2) X.env) = eval (.Name tx p2) X.env) (hline : (pa.endLine == p9.line) = true) :
    wpAny (model X.prog X.w) X.A (eval (.Call (.Attribute (.Name tx p2) "replace" pa) [.Name sg p3, .BinOp (.BinOp (.Constant (.str " ") 0 p4) .Add (.Name sg p5) p6) .Add (.Constant (.str " ") 0 p7) p8] [] p9) X.env)
      (fun v s' => Inv X pins σ H s' ∧ RelV (.str (Txt.replace x ⟨#[c]⟩ (spc ⟨#[c]⟩))) v) X.xe s := by
  obtain ⟨m, hn, hl⟩ := id I.loc
  obtain ⟨m2, hn2, hm2⟩ := lk
  obtain ⟨u, ru, lu⟩ := hl ix tx _ hx ex (.inl kx)
  obtain ⟨tt, rfl⟩ := ru
  have hm : m tx = some (.str x tt) := by
    rcases lu with ⟨_, q⟩ | ⟨q, _⟩
    · exact q
    · rcases q with q | q
      · rw [show X.env.kindOf tx = some .local from kx] at q; cases q
      · rw [show X.env.kindOf tx = some .local from kx] at q; cases q
  refine PySem.Call_method2 hbase hst hline (wpAny_Name (wpAny_loadName_local I.ok.kind kx hn hm ?_) d2)
  refine ⟨"str", _, PySem.F.plainAttrs_str, PySem.F.slot_str_replace, PySem.F.type_str_replace, typeIs_str _ _ _, (fun _ e => nomatch e), Calls.callWith_builtin rfl (Calls.evalArgs_plain (Calls.spliced_cons ?_))⟩
  refine wpAny_Name (wpAny_loadName_local I.ok.kind kt hn2 hm2 ?_) d1
  refine Calls.spliced_cons (wpAny_BinOp (wpAny_BinOp (Calls.Constant_str ?_)))
  refine wpAny_Name (wpAny_loadName_local (s := { s with toks := s.toks + 1 }) I.ok.kind kt hn2 hm2 ?_) d1
  refine P.add_str ?_
  show (Made.str ((" " : Str) ++ ⟨#[c]⟩)).post _ _
  refine ⟨by show 2 ≤ sizeLine; decide, Calls.Constant_str (P.add_str ?_)⟩
  show (Made.str (spc ⟨#[c]⟩)).post _ _
  refine ⟨by show 3 ≤ sizeLine; decide, Calls.spliced_nil ?_⟩
  exact PySem.SC.replace (show t ≠ 0 by omega) (show s.toks + 1 + 1 + 1 ≠ 0 by omega) (show t ≠ s.toks + 1 + 1 + 1 by omega) (spc_ne c) hz fun t' k => ⟨I.tok k, ⟨t', rfl⟩⟩
theorem ps_forRep (hN : X.N.Nodup) (ht : X.N[it]? = some sg) (hx : X.N[ix]? = some tx) (kt : X.env.scope.names.lookup sg = some .local) (kx : X.env.scope.names.lookup tx = some .local)
    (hp : PassesOwn (model X.prog X.w) X.A X.env X.xe) (hc : X.calm = true) (hne : it ≠ ix) (ha : w.cps.all (· < 128) = true)
    (d1 : (sg == ("__debug__" : Str)) = false := by decide) (d2 : (tx == ("__debug__" : Str)) = false := by decide)
    (hst : starEach [.Name sg p3, .BinOp (.BinOp (.Constant (.str " ") 0 p4) .Add (.Name sg p5) p6) .Add (.Constant (.str " ") 0 p7) p8] X.env = [(false, eval (.Name sg p3) X.env), (false, eval (.BinOp (.BinOp (.Constant (.str " ") 0 p4) .Add (.Name sg p5) p6) .Add (.Constant (.str " ") 0 p7) p8) X.env)] := by rfl)
    (hbase : attributeBase (.Name tx p2) "replace" X.env (eval (.Name tx p2) X.env) = eval (.Name tx p2) X.env := by rfl) (hline : (pa.endLine == p9.line) = true := by rfl)
    (hsw : swapsWith (.Call (.Attribute (.Name tx p2) "replace" pa) [.Name sg p3, .BinOp (.BinOp (.Constant (.str " ") 0 p4) .Add (.Name sg p5) p6) .Add (.Constant (.str " ") 0 p7) p8] [] p9) (some (.Name tx p1)) pq.line X.env = pure false := by rfl)
    (hs : ∀ x, foldedSetIterable (.Constant (.str w) j p0) X.env x = pure x := by intro _; rfl) :
    PS X (.For (.Name sg pos2) (.Constant (.str w) j p0) [.Assign [.Name tx p1] (.Call (.Attribute (.Name tx p2) "replace" pa) [.Name sg p3, .BinOp (.BinOp (.Constant (.str " ") 0 p4) .Add (.Name sg p5) p6) .Add (.Constant (.str " ") 0 p7) p8] [] p9) pq] [] pos) (tForRep it ix w) := by
  refine ⟨fun pins s σ H D I h => ?_⟩
  obtain ⟨x, y, ex, ef, hd⟩ := h
  refine wpAny_For (Calls.Constant_str (wpAny_pyIter_ascii ha ?_)) hs
  have T := turn_str (P := X.prog) (w := X.w) (K := X.K) (tg := .Name sg pos2) s.heap.objs.size w s.toks "str_ascii_iterator" (.inl rfl)
  have hix : ix < σ.length := by rw [I.len]; exact (List.getElem?_eq_some_iff.mp hx).1
  have hit : it < σ.length := by rw [I.len]; exact (List.getElem?_eq_some_iff.mp ht).1
  have I1 : Inv X pins σ H { s with heap := s.heap.push { cls := .type "str_ascii_iterator", data := .fields #[.str w s.toks, .int 0 0] }, toks := s.toks + 1 } := I.kept fun b u e => Heap.get?_push_of_some _ e
  have st0 : Heap.IsStrIter (s.heap.push { cls := .type "str_ascii_iterator", data := .fields #[.str w s.toks, .int 0 0] }) s.heap.objs.size "str_ascii_iterator" w s.toks 0 := ⟨_, Heap.get?_push_size _ rfl, rfl, rfl⟩
  have fp0 : FpOk X pins H s.heap.objs.size := I.fpOk (Nat.le_refl _) (I.hok.fresh (Nat.le_refl _))
  refine codeAny_forLoop_any (fun n s' => ∃ i u x', Inv X pins ((σ.set it u).set ix (some (.str x'))) H s' ∧ Heap.IsStrIter s'.heap s.heap.objs.size "str_ascii_iterator" w s.toks i ∧ i ≤ w.cps.size ∧ n = w.cps.size - i ∧ 0 < s'.toks ∧ forO (fun c x => grd (gRep x (spc c)) <| some (Txt.replace x c (spc c))) ((sgs w).drop i) x' = some y) ?_ (w.cps.size - 0) ⟨0, σ[it]'hit, x, ?_, st0, Nat.zero_le _, rfl, Nat.succ_pos _, ef⟩
  · rintro n s3 ⟨i, u3, x3, I3, st3, hi, rfl, tk3, f3⟩
    have hl : (sgs w).length = w.cps.size := by unfold sgs; rw [List.length_map, Array.length_toList]
    by_cases hlt : i < w.cps.size
    · have ec : w.cps[i]? = some w.cps[i] := Array.getElem?_eq_getElem hlt
      have edr : (sgs w).drop i = (⟨#[w.cps[i]]⟩ : Str) :: (sgs w).drop (i + 1) := by
        rw [List.drop_eq_getElem_cons (by rw [hl]; exact hlt)]
        congr 1
        unfold sgs
        rw [List.getElem_map, Array.getElem_toList]
      rw [edr, forO_cons] at f3
      refine wpAny_passesOwn hp (wpAny_pyNext_ascii_item st3 ec fun h' st' sb => ?_)
      obtain ⟨f0, f1, f2, f4, f5, f6⟩ := fp0
      have I4 : Inv X pins ((σ.set it u3).set ix (some (.str x3))) H { s3 with heap := h', toks := s3.toks + 1 } := I3.turned (fun b o hb e => (sb.2 b hb).trans e) f0 f1 f4 f5 f6
      obtain ⟨oi, e, cc, dd⟩ := id st'
      refine wpAny_passesOwn hp (go_of (s := { s3 with heap := h', toks := s3.toks + 1 }) e cc dd (by decide) ?_)
      have I5 := I4.pinned (fp := [s.heap.objs.size]) (fun b hb => by rw [List.mem_singleton.mp hb]; exact ⟨f0, f1, f2, f4, f5, f6⟩) (T.obj _ _ st')
      refine wpAny_passesOwn hp (wpAny_assign_Name (thn (store_look I5 hN ht kt (v := .str ⟨#[w.cps[i]]⟩) ⟨s3.toks, rfl⟩) fun _ s6 ⟨I6, lk6, tk6⟩ => ?_))
      have hg : gRep x3 (spc ⟨#[w.cps[i]]⟩) := by
        by_cases hg : gRep x3 (spc ⟨#[w.cps[i]]⟩)
        · exact hg
        · unfold grd at f3
          rw [if_neg hg] at f3
          cases f3
      rw [grd_of hg] at f3
      have f3 : forO (fun c x => grd (gRep x (spc c)) <| some (Txt.replace x c (spc c))) ((sgs w).drop (i + 1)) (Txt.replace x3 ⟨#[w.cps[i]]⟩ (spc ⟨#[w.cps[i]]⟩)) = some y := f3
      have ex6 : (((σ.set it u3).set ix (some (.str x3))).set it (some (.str ⟨#[w.cps[i]]⟩)))[ix]? = some (some (.str x3)) := by
        rw [List.getElem?_set_ne hne, List.getElem?_set_self (by rw [List.length_set]; exact hix)]
      refine wpAny_passesOwn hp (wpAny_execs_cons (wpAny_Assign_Name (thn (rep_value hN ht hx kt kx d1 d2 I6 ex6 lk6 tk3 (by rw [tk6]; show s3.toks < s3.toks + 1 + 1; omega) hg hst hbase hline) fun v s7 ⟨I7, r7⟩ => ?_) hsw))
      refine thn (store_look I7 hN hx kx r7) fun _ s8 ⟨I8, _, tk8⟩ => ?_
      refine wpAny_execs_nil ?_
      have esl : (((((σ.set it u3).set ix (some (.str x3))).set it (some (.str ⟨#[w.cps[i]]⟩))).set ix (some (.str (Txt.replace x3 ⟨#[w.cps[i]]⟩ (spc ⟨#[w.cps[i]]⟩)))))) = (σ.set it (some (.str ⟨#[w.cps[i]]⟩))).set ix (some (.str (Txt.replace x3 ⟨#[w.cps[i]]⟩ (spc ⟨#[w.cps[i]]⟩)))) := by
        exact set4 hne _ _ _ _ _
      rw [esl] at I8
      refine ⟨w.cps.size - (i + 1), by omega, i + 1, _, _, I8.unpinned, ?_, by omega, rfl, by rw [tk8]; exact Nat.succ_pos _, f3⟩
      exact T.keep _ _ _ st' fun b hb o e => (I8.pin (b, o) (List.mem_append_right _ (List.mem_append_right _ (mem_pinsAt hb e)))).1
    · have hstop : w.cps.size ≤ i := by omega
      refine wpAny_passesOwn hp (thn (T.done X rfl rfl rfl hc i pins s3 _ H X.xe I3 (fun b hb => by rw [List.mem_singleton.mp hb]; exact fp0) st3 hstop) fun r s4 ⟨hr, I4⟩ => ?_)
      subst hr
      rw [List.drop_eq_nil_of_le (by omega), forO_nil] at f3
      cases f3
      exact wpAny_execs_nil ⟨_, H, I4, hd u3⟩
  · have e1 : (σ.set it (σ[it]'hit)).set ix (some (.str x)) = σ := by
      rw [List.set_getElem_self]
      obtain ⟨hx', ex'⟩ := List.getElem?_eq_some_iff.mp ex
      rw [← ex', List.set_getElem_self]
    rw [e1]
    exact I1
end
theorem z_forRep {D : Ends} {β : Type} {σ : L2.St} {H : Hp} {tu : TS} {it ix : Nat} {x w : Str} {k : Str → Option β} {A : β → Prop} (ex : σ[ix]? = some (some (.str x))) (h : OP ((forO (fun c x => grd (gRep x (spc c)) <| some (Txt.replace x c (spc c))) (sgs w) x).bind k) A)
    (hs : ∀ y, OP (k y) A → ∀ u, tu D ((σ.set it u).set ix (some (.str y))) H) : tSeq (tForRep it ix w) tu D σ H := by
  obtain ⟨y, e, h⟩ := OP.bind h
  exact ⟨x, y, ex, e, fun u => hs y h u⟩
/-- a.split(written) -/
def rSplit : V → List V → Hp → VK → Prop := fun x xs H Q => ∃ a b, x = .str a ∧ xs = [.str b] ∧ (b.length == 0) = false ∧ a.length + 2 ≤ sizeLine ∧ rNewStrs (Txt.split a b) H Q
theorem l_split {K : PySem.W.Frag} {σ : L2.St} {H : Hp} {S : Hp} {Q : VK} {ta tb : TE} {a sep : Str} (ha : Val ta σ H (.str a)) (hb : Val tb σ H (.str sep)) (hs : (sep.length == 0) = false) (hz : a.length + 2 ≤ 16777216)
    (k : ∀ p ws H', Same H H' → H p = none → H' p = some (.lst ws) → RL (K := K) qS S ws (Txt.split a sep) → Q (.ref p) H') : tM1 rSplit ta tb σ H Q :=
  ha _ ⟨⟨a, rfl⟩, hb _ ⟨a, sep, rfl, rfl, hs, by rw [sizeLine_eq]; exact hz, fun p hp => k p _ _ (same_upd hp) hp upd_same (RL.map V.str (fun _ => rfl) _)⟩⟩
end Z

namespace E
open PySem PySem.Spec PyProof.Rows L2 Z
def top (i : Nat) : Stmt := PySem.Challenge.pw_evernever_k00_words.main.body.getD i (.Pass ⟨0, 0, 0, 0⟩)
structure Cl where
  mk ::
section
variable {P : Program} {w : World} {K : PySem.W.Frag} {mg : Str → Option Value} {base : Heap}

structure Tx (K : PySem.W.Frag) (mg : Str → Option Value) : Type where
  c : Cl
  f__law_cell_at : Addr
  d__law_cell_at : FuncData
  F__law_cell_at : Fun K "_law_cell_at" "_law_cell_at" (top 5) f__law_cell_at d__law_cell_at
  b__law_cell_at : Binds K d__law_cell_at ["_law_script", "_law_k"] []
  m__law_cell_at : mg "_law_cell_at" = some (.ref f__law_cell_at)
  f__law_cut : Addr
  d__law_cut : FuncData
  F__law_cut : Fun K "_law_cut" "_law_cut" (top 8) f__law_cut d__law_cut
  b__law_cut : Binds K d__law_cut ["_law_text"] []
  m__law_cut : mg "_law_cut" = some (.ref f__law_cut)
  f__law_other : Addr
  d__law_other : FuncData
  F__law_other : Fun K "_law_other" "_law_other" (top 7) f__law_other d__law_other
  b__law_other : Binds K d__law_other ["_law_cell"] []
  m__law_other : mg "_law_other" = some (.ref f__law_other)
  f__law_piece : Addr
  d__law_piece : FuncData
  F__law_piece : Fun K "_law_piece" "_law_piece" (top 6) f__law_piece d__law_piece
  b__law_piece : Binds K d__law_piece ["_law_cell"] []
  m__law_piece : mg "_law_piece" = some (.ref f__law_piece)
  f__law_same : Addr
  d__law_same : FuncData
  F__law_same : Fun K "_law_same" "_law_same" (top 9) f__law_same d__law_same
  b__law_same : Binds K d__law_same ["_law_found", "_law_due"] []
  m__law_same : mg "_law_same" = some (.ref f__law_same)
  f_words : Addr
  d_words : FuncData
  F_words : Fun K "words" "words" (top 3) f_words d_words
  b_words : Binds K d_words ["text"] []
  m_words : mg "words" = some (.ref f_words)
  f_law : Addr
  d_law : FuncData
  F_law : Fun K "law" "law" (top 10) f_law d_law
  b_law : Binds K d_law ["_law_script"] []
  m_law : mg "law" = some (.ref f_law)
  q_ALONE : ∃ u, mg "ALONE" = some (Value.str "()," u)
  q_LETTERS : ∃ u, mg "LETTERS" = some (Value.str "abcdefghijklmnopqrstuvwxyz" u)
  n_isinstance : mg "isinstance" = none
  n_len : mg "len" = none
  n_list : mg "list" = none
  n_range : mg "range" = none
  n_str : mg "str" = none


@[irreducible] def m__law_cell_at (script1 : (List Int)) (k4 : Int) : Option Int :=
ifo (decide (k4 < (script1.length : Int))) (
(atI script1 k4).bind fun i5 =>
some i5) (
some 0)
abbrev s__law_cell_at : Stmt := top 5
abbrev sn__law_cell_at : List Str := ["_law_script", "_law_k"]
theorem sc__law_cell_at : FnScope ["_law_script", "_law_k"] ["_law_script", "_law_k"] (defScope (s__law_cell_at)) := ⟨rfl, rfl, rfl, by decide +kernel, rfl, by decide +kernel, by decide +kernel⟩
def p__law_cell_at (K : PySem.W.Frag) (c : Cl) : Sp := fun vs H Q E => ∃ (v2 : V) (script1 : (List Int)) (k4 : Int), vs = [v2, .int k4] ∧ ((qQ (qI (K := K)))).R H v2 script1 ∧ OP (m__law_cell_at script1 k4) (fun r => Q (.int r) H)
theorem ok__law_cell_at (T : Tx K mg) : FnOk P w K mg base CX0 1 T.f__law_cell_at T.d__law_cell_at ["_law_script", "_law_k"] (p__law_cell_at K T.c) := by
  refine T.F__law_cell_at.ok sc__law_cell_at (fun vs H Q E h => by obtain ⟨v2, script1, k4, rfl, _⟩ := h; rfl) (fun cdv A outer s H vs Q E hr h => ?_)
  obtain ⟨v2, script1, k4, rfl, r3, h⟩ := h
  obtain ⟨A_, hA⟩ : ∃ A_, A_ = (fun r : Int => Q (.int r) H) := ⟨_, rfl⟩
  replace h : OP (m__law_cell_at script1 k4) A_ := hA ▸ h
  rw [m__law_cell_at] at h
  refine ⟨_, (pss_cons (ps_if (pt_cmpR op_lt (pe_var (i := 1) rfl (.inl rfl) rfl rfl) (pe_callB (show CallR _ (.builtin "len") (Z.rLenS K) from call_len_seq) rfl T.n_len bt_len (pa_cons (pe_var (i := 0) rfl (.inl rfl) rfl rfl) pa_nil)) (nomark _)) (pss_cons (ps_ret (pe_ix (show IxR _ (rIxL K) from ix_list) (pe_var (i := 0) rfl (.inl rfl) rfl rfl) (pe_var (i := 1) rfl (.inl rfl) rfl rfl) (fun _ _ => rfl)))
      pss_nil) pss_nil)
      (pss_cons (ps_ret pe_int)
      pss_nil)), ?_⟩
  refine z_start (σ := [some v2, some (.int k4)]) rfl ?_
  have g : Grow [] H H H H := Grow.refl (Same.refl _)
  refine z_if (v_test (v_o2 (val_var rfl) (v_len (val_var rfl) (Rep.mono _ g.sh r3)))) (fun hc => ?_) (fun hc => ?_)
  · replace h := OP.ite1 hc h
    obtain ⟨i5, ei5, h⟩ := OP.bind h
    refine z_ret (v_ixI (val_var rfl) (val_var rfl) (Rep.mono _ g.sh r3) ei5) ?_
    have h := OP.fin hA h
    exact h
  · replace h := OP.ite0 hc h
    refine z_nextR ?_
    refine z_ret val_c ?_
    have h := OP.fin hA h
    exact h

@[irreducible] def m__law_cut (text1 : Str) : Option (List Str) :=
(forO (fun c x => grd (gRep x (spc c)) <| some (Txt.replace x c (spc c))) (sgs "(),") text1).bind fun text2 =>
grd (text2.length + 2 ≤ 16777216) <|
(compO (fun zx4 =>
ifo (!(decide (zx4 = ("" : Str)))) (some (some zx4)) (some none)) ((Txt.split text2 " "))).bind fun ys19 =>
some ys19
abbrev s__law_cut : Stmt := top 8
abbrev sn__law_cut : List Str := ["_law_text", "_law_sign", "_law_word"]
theorem sc__law_cut : FnScope ["_law_text", "_law_sign", "_law_word"] ["_law_text"] (defScope (s__law_cut)) := ⟨rfl, rfl, rfl, by decide +kernel, rfl, by decide +kernel, by decide +kernel⟩
def p__law_cut (K : PySem.W.Frag) (c : Cl) : Sp := fun vs H Q E => ∃ (S : Hp) (text1 : Str), vs = [.str text1] ∧ Same S H ∧ OP (m__law_cut text1) (fun r => ∀ (S' H' : Hp) (p : Addr) (ws : List V), Grow [] S H S' H' → H p = none → H' p = some (.lst ws) → S' p = none → RL (qS (K := K)) S' ws r → Q (.ref p) H')
theorem ok__law_cut (T : Tx K mg) : FnOk P w K mg base CX0 1 T.f__law_cut T.d__law_cut ["_law_text"] (p__law_cut K T.c) := by
  refine T.F__law_cut.ok sc__law_cut (fun vs H Q E h => by obtain ⟨S, text1, rfl, _⟩ := h; rfl) (fun cdv A outer s H vs Q E hr h => ?_)
  obtain ⟨S, text1, rfl, gS, h⟩ := h
  obtain ⟨A_, hA⟩ : ∃ A_, A_ = (fun r : (List Str) => ∀ (S' H' : Hp) (p : Addr) (ws : List V), Grow [] S H S' H' → H p = none → H' p = some (.lst ws) → S' p = none → RL (qS (K := K)) S' ws r → Q (.ref p) H') := ⟨_, rfl⟩
  replace h : OP (m__law_cut text1) A_ := hA ▸ h
  rw [m__law_cut] at h
  refine ⟨_, (pss_cons (ps_forRep (it := 1) (ix := 0) (sg := "_law_sign") (tx := "_law_text") (w := "(),") sc__law_cut.nd rfl rfl rfl rfl PassesOwn.never rfl (by decide) (by decide +kernel))
      (pss_cons (ps_ret (pe_lc (own := [("_law_word", 2)]) (g := gName 2) rfl sc__law_cut.nd (pi_list (show PE _ _ (tM1 rSplit _ _) from pe_split (pe_var (i := 0) rfl (.inl rfl) rfl rfl) pe_str)) (blkOk_by (N := sn__law_cut) (sc := defScope s__law_cut) (by decide +kernel)) (fun _ _ _ _ _ => pg_name (i := 2) sc__law_cut.nd rfl (.inl rfl)) (fun _ _ _ _ _ => (pts_one (pt_cmpR op_ne (pe_var (i := 2) rfl (.inl rfl) rfl rfl) pe_str (nomark _)))) (fun _ _ _ _ _ => (pe_var (i := 2) rfl (.inl rfl) rfl rfl))))
      pss_nil)), ?_⟩
  refine z_start (σ := [some (.str text1), none, none]) rfl ?_
  have g : Grow [] S H S H := Grow.refl gS
  refine z_forRep (x := text1) (it := 1) (ix := 0) (w := "(),") rfl h fun text2 h u3 => ?_
  refine z_sl (σ' := [some (.str text2), u3, none]) rfl ?_
  refine z_retE ?_
  refine c_lcLE ?_
  obtain ⟨g5, h⟩ := OP.grd h
  refine c_rgE fun Q_6 hQ_6 => ?_
  refine (l_split (K := K) (S := S) (Q := Q_6) (sep := " ") (val_var rfl) val_c (by decide) g5 fun p7 ws8 H_9 e10 np11 ep12 rw13 => ?_)
  refine q_eq hQ_6 ?_
  have z15 := g.hnone np11
  have c_14 : Cel [] H S H_9 p7 (.lst ws8) := Cel.own g e10 np11 ep12 rfl
  replace g := g.ext e10
  obtain ⟨q16a, q16w, q16e, q16h, q16p⟩ := (LS.cel c_14.h rw13)
  obtain ⟨ys19, eys19, h⟩ := OP.bind h
  refine c_lcL (v_eq val_c q16e) q16h q16p eys19 (τ := (qS (K := K))) (S := S) (fun w zx4 H_17 rw_ e18 r_ hm => ?_) ?_
  · have g := g.ext e18
    cases (show w = (.str zx4) from rw_)
    refine ⟨_, (v_test (v_neS (val_var rfl) val_c)), fun hb => ?_, fun hb => ?_⟩
    · rw [ifo_t hb] at hm
      exact ⟨_, _, (Option.some.inj hm).symm, val_var rfl, rfl⟩
    · rw [ifo_f hb] at hm
      exact (Option.some.inj hm).symm
  intro p20 ws21 H_22 e23 np24 ep25 rw26
  have z28 := g.hnone np24
  have c_27 : Cel [] H S H_22 p20 (.lst ws21) := Cel.own g e23 np24 ep25 rfl
  replace g := g.ext e23
  have h := OP.fin hA h
  exact h _ _ _ _ g z28 c_27.h c_27.s rw26

@[irreducible] def m__law_other (cell1 : Int) : Option Str :=
lt ("ABCDEFGHIJKLMNOPQRSTUVWXYZ0123456789!\"#$&'*+-./:;<=>?\x40[\\]^_`{|}~\n\t" : Str) fun some2 =>
grd (some2.length ≤ 16777216) <|
grd (0 < (some2.length : Int)) <|
grd (some2.length ≤ 16777216) <|
(chS some2 (cell1 % (some2.length : Int))).bind fun i6 =>
some i6
abbrev s__law_other : Stmt := top 7
abbrev sn__law_other : List Str := ["_law_cell", "_law_some"]
theorem sc__law_other : FnScope ["_law_cell", "_law_some"] ["_law_cell"] (defScope (s__law_other)) := ⟨rfl, rfl, rfl, by decide +kernel, rfl, by decide +kernel, by decide +kernel⟩
def p__law_other (K : PySem.W.Frag) (c : Cl) : Sp := fun vs H Q E => ∃ (cell1 : Int), vs = [.int cell1] ∧ OP (m__law_other cell1) (fun r => Q (.str r) H)
theorem ok__law_other (T : Tx K mg) : FnOk P w K mg base CX0 1 T.f__law_other T.d__law_other ["_law_cell"] (p__law_other K T.c) := by
  refine T.F__law_other.ok sc__law_other (fun vs H Q E h => by obtain ⟨cell1, rfl, _⟩ := h; rfl) (fun cdv A outer s H vs Q E hr h => ?_)
  obtain ⟨cell1, rfl, h⟩ := h
  obtain ⟨A_, hA⟩ : ∃ A_, A_ = (fun r : Str => Q (.str r) H) := ⟨_, rfl⟩
  replace h : OP (m__law_other cell1) A_ := hA ▸ h
  rw [m__law_other] at h
  refine ⟨_, (pss_cons (ps_set (i := 1) sc__law_other.nd rfl (.inl rfl) pe_str)
      (pss_cons (ps_ret (pe_ix ix_str (pe_var (i := 1) rfl (.inl rfl) rfl rfl) (pe_op op_mod (pe_var (i := 0) rfl (.inl rfl) rfl rfl) (pe_callB call_len_str rfl T.n_len bt_len (pa_cons (pe_var (i := 1) rfl (.inl rfl) rfl rfl) pa_nil))) (fun _ _ => rfl)))
      pss_nil)), ?_⟩
  refine z_start (σ := [some (.int cell1), none]) rfl ?_
  have g : Grow [] H H H H := Grow.refl (Same.refl _)
  obtain ⟨some2, esome2, h⟩ := OP.lt h
  refine z_set (w := (.str some2)) (σ' := [some (.int cell1), some (.str some2)]) val_c (congrArg V.str esome2) rfl ?_
  obtain ⟨g3, h⟩ := OP.grd h
  obtain ⟨g4, h⟩ := OP.grd h
  obtain ⟨g5, h⟩ := OP.grd h
  obtain ⟨i6, ei6, h⟩ := OP.bind h
  refine z_ret (v_chr (val_var rfl) (v_o2c (val_var rfl) (v_lenS g3 (val_var rfl)) g4) g5 ei6) ?_
  have h := OP.fin hA h
  exact h

@[irreducible] def m__law_piece (cell1 : Int) : Option Str :=
lt (cell1 % 12) fun kind2 =>
lt (cell1 / 12) fun more3 =>
ifo (decide (kind2 < 6)) (
grd (("abcdefghijklmnopqrstuvwxyz" : Str).length ≤ 16777216) <|
(chS ("abcdefghijklmnopqrstuvwxyz" : Str) (more3 % 26)).bind fun i5 =>
grd (gMulS i5 (1 + ((more3 / 26) % 5))) <|
some (Txt.mul i5 (1 + ((more3 / 26) % 5)))) (
ifo (decide (kind2 < 9)) (
grd (gMulS (" " : Str) (1 + (more3 % 3))) <|
some (Txt.mul (" " : Str) (1 + (more3 % 3)))) (
grd (("()," : Str).length ≤ 16777216) <|
(chS ("()," : Str) (kind2 - 9)).bind fun i9 =>
some i9))
abbrev s__law_piece : Stmt := top 6
abbrev sn__law_piece : List Str := ["_law_cell", "_law_kind", "_law_more"]
theorem sc__law_piece : FnScope ["_law_cell", "_law_kind", "_law_more"] ["_law_cell"] (defScope (s__law_piece)) := ⟨rfl, rfl, rfl, by decide +kernel, rfl, by decide +kernel, by decide +kernel⟩
def p__law_piece (K : PySem.W.Frag) (c : Cl) : Sp := fun vs H Q E => ∃ (cell1 : Int), vs = [.int cell1] ∧ OP (m__law_piece cell1) (fun r => Q (.str r) H)
theorem ok__law_piece (T : Tx K mg) : FnOk P w K mg base CX0 1 T.f__law_piece T.d__law_piece ["_law_cell"] (p__law_piece K T.c) := by
  refine T.F__law_piece.ok sc__law_piece (fun vs H Q E h => by obtain ⟨cell1, rfl, _⟩ := h; rfl) (fun cdv A outer s H vs Q E hr h => ?_)
  obtain ⟨cell1, rfl, h⟩ := h
  obtain ⟨A_, hA⟩ : ∃ A_, A_ = (fun r : Str => Q (.str r) H) := ⟨_, rfl⟩
  replace h : OP (m__law_piece cell1) A_ := hA ▸ h
  rw [m__law_piece] at h
  refine ⟨_, (pss_cons (ps_set (i := 1) sc__law_piece.nd rfl (.inl rfl) (pe_op op_mod (pe_var (i := 0) rfl (.inl rfl) rfl rfl) pe_int))
      (pss_cons (ps_set (i := 2) sc__law_piece.nd rfl (.inl rfl) (pe_op op_fdiv (pe_var (i := 0) rfl (.inl rfl) rfl rfl) pe_int))
      (pss_cons (ps_if (pt_cmpR op_lt (pe_var (i := 1) rfl (.inl rfl) rfl rfl) pe_int (nomark _)) (pss_cons (ps_ret (pe_op op_mulS (pe_ix ix_str pe_str (pe_op op_mod (pe_var (i := 2) rfl (.inl rfl) rfl rfl) pe_int) (fun _ _ => rfl)) (pe_op op_add pe_int (pe_op op_mod (pe_op op_fdiv (pe_var (i := 2) rfl (.inl rfl) rfl rfl) pe_int) pe_int))))
      pss_nil) pss_nil)
      (pss_cons (ps_if (pt_cmpR op_lt (pe_var (i := 1) rfl (.inl rfl) rfl rfl) pe_int (nomark _)) (pss_cons (ps_ret (pe_op op_mulS pe_str (pe_op op_add pe_int (pe_op op_mod (pe_var (i := 2) rfl (.inl rfl) rfl rfl) pe_int))))
      pss_nil) pss_nil)
      (pss_cons (ps_ret (pe_ix ix_str pe_str (pe_op op_sub (pe_var (i := 1) rfl (.inl rfl) rfl rfl) pe_int) (fun _ _ => rfl)))
      pss_nil))))), ?_⟩
  refine z_start (σ := [some (.int cell1), none, none]) rfl ?_
  have g : Grow [] H H H H := Grow.refl (Same.refl _)
  obtain ⟨kind2, ekind2, h⟩ := OP.lt h
  refine z_set (w := (.int kind2)) (σ' := [some (.int cell1), some (.int kind2), none]) (v_o2c (val_var rfl) val_c (show (0 : Int) < 12 by decide)) (congrArg V.int ekind2) rfl ?_
  obtain ⟨more3, emore3, h⟩ := OP.lt h
  refine z_set (w := (.int more3)) (σ' := [some (.int cell1), some (.int kind2), some (.int more3)]) (v_o2c (val_var rfl) val_c ⟨by decide, by decide⟩) (congrArg V.int emore3) rfl ?_
  refine z_if (v_test (v_o2 (val_var rfl) val_c)) (fun hc => ?_) (fun hc => ?_)
  · replace h := OP.ite1 hc h
    obtain ⟨g4, h⟩ := OP.grd h
    obtain ⟨i5, ei5, h⟩ := OP.bind h
    obtain ⟨g6, h⟩ := OP.grd h
    refine z_ret (v_mulS (v_chr val_c (v_o2c (val_var rfl) val_c (show (0 : Int) < 26 by decide)) g4 ei5) (v_o2 val_c (v_o2c (v_o2c (val_var rfl) val_c ⟨by decide, by decide⟩) val_c (show (0 : Int) < 5 by decide))) g6) ?_
    have h := OP.fin hA h
    exact h
  · replace h := OP.ite0 hc h
    refine z_nextR ?_
    refine z_if (v_test (v_o2 (val_var rfl) val_c)) (fun hc => ?_) (fun hc => ?_)
    · replace h := OP.ite1 hc h
      obtain ⟨g7, h⟩ := OP.grd h
      refine z_ret (v_mulS val_c (v_o2 val_c (v_o2c (val_var rfl) val_c (show (0 : Int) < 3 by decide))) g7) ?_
      have h := OP.fin hA h
      exact h
    · replace h := OP.ite0 hc h
      refine z_nextR ?_
      obtain ⟨g8, h⟩ := OP.grd h
      obtain ⟨i9, ei9, h⟩ := OP.bind h
      refine z_ret (v_chr val_c (v_o2 (val_var rfl) val_c) g8 ei9) ?_
      have h := OP.fin hA h
      exact h

@[irreducible] def m__law_same (found1 : (Option (List Str))) (due4 : (List Str)) : Option Bool :=
(ifo (!found1.isSome) (some true) ((found1).bind fun y7 =>
some (!(decide ((y7.length : Int) = (due4.length : Int)))))).bind fun c_9 =>
ifo c_9 (
some false) (
grd (gR (due4.length : Int)) <|
brk (forR (fun k11 _ =>
(found1).bind fun y22 =>
(atI y22 k11).bind fun i24 =>
(ifo (!true) (some true) ((found1).bind fun y25 =>
(atI y25 k11).bind fun i27 =>
(atI due4 k11).bind fun i28 =>
some (!(decide (i27 = i28))))).bind fun c_29 =>
ifo c_29 (
some (.inr false)) (
some (.inl ()))) (rangeI 0 (Int.toNat (due4.length : Int))) ()) (fun _ =>
some true))
abbrev s__law_same : Stmt := top 9
abbrev sn__law_same : List Str := ["_law_found", "_law_due", "_law_k"]
theorem sc__law_same : FnScope ["_law_found", "_law_due", "_law_k"] ["_law_found", "_law_due"] (defScope (s__law_same)) := ⟨rfl, rfl, rfl, by decide +kernel, rfl, by decide +kernel, by decide +kernel⟩
def p__law_same (K : PySem.W.Frag) (c : Cl) : Sp := fun vs H Q E => ∃ (v2 : V) (found1 : (Option (List Str))) (v5 : V) (due4 : (List Str)), vs = [v2, v5] ∧ ((qOpt (qL (qS (K := K))))).R H v2 found1 ∧ ((qQ (qS (K := K)))).R H v5 due4 ∧ OP (m__law_same found1 due4) (fun r => Q (.bl r) H)
theorem ok__law_same (T : Tx K mg) : FnOk P w K mg base CX0 1 T.f__law_same T.d__law_same ["_law_found", "_law_due"] (p__law_same K T.c) := by
  refine T.F__law_same.ok sc__law_same (fun vs H Q E h => by obtain ⟨v2, found1, v5, due4, rfl, _⟩ := h; rfl) (fun cdv A outer s H vs Q E hr h => ?_)
  obtain ⟨v2, found1, v5, due4, rfl, r3, r6, h⟩ := h
  obtain ⟨A_, hA⟩ : ∃ A_, A_ = (fun r : Bool => Q (.bl r) H) := ⟨_, rfl⟩
  replace h : OP (m__law_same found1 due4) A_ := hA ▸ h
  rw [m__law_same] at h
  refine ⟨_, (pss_cons (ps_if (PW.pt (pw_or (pt_not (pt_val (pe_callB (show CallR _ (.builtin "isinstance") (rIsi K) from call_isi) rfl T.n_isinstance bt_isinstance (pa_cons (pe_var (i := 0) rfl (.inl rfl) rfl rfl) (pa_cons (pe_bltn (v := .ty "list") rfl T.n_list bt_list rfl) pa_nil))))) (pw_or1 (pt_cmpR op_ne (pe_callB (show CallR _ (.builtin "len") (Z.rLenS K) from call_len_seq) rfl T.n_len bt_len (pa_cons (pe_var (i := 0) rfl (.inl rfl) rfl rfl) pa_nil)) (pe_callB (show CallR _ (.builtin "len") (Z.rLenS K) from call_len_seq) rfl T.n_len bt_len (pa_cons (pe_var (i := 1) rfl (.inl rfl) rfl rfl) pa_nil)) (nomark _))))) (pss_cons (ps_ret pe_bl)
      pss_nil) pss_nil)
      (pss_cons (ps_for PassesOwn.never rfl (pi_range1 rfl T.n_range (pa_cons (pe_callB (show CallR _ (.builtin "len") (Z.rLenS K) from call_len_seq) rfl T.n_len bt_len (pa_cons (pe_var (i := 1) rfl (.inl rfl) rfl rfl) pa_nil)) pa_nil)) (pg_name (i := 2) sc__law_same.nd rfl (.inl rfl)) (pss_cons (ps_if (PW.pt (pw_or (pt_not (pt_val (pe_callB (show CallR _ (.builtin "isinstance") (rIsi K) from call_isi) rfl T.n_isinstance bt_isinstance (pa_cons (pe_ix (show IxR _ (rIxL K) from ix_list) (pe_var (i := 0) rfl (.inl rfl) rfl rfl) (pe_var (i := 2) rfl (.inl rfl) rfl rfl) (fun _ _ => rfl)) (pa_cons (pe_bltn (v := .ty "str") rfl T.n_str bt_str rfl) pa_nil))))) (pw_or1 (pt_cmpR op_ne (pe_ix (show IxR _ (rIxL K) from ix_list) (pe_var (i := 0) rfl (.inl rfl) rfl rfl) (pe_var (i := 2) rfl (.inl rfl) rfl rfl) (fun _ _ => rfl)) (pe_ix (show IxR _ (rIxL K) from ix_list) (pe_var (i := 1) rfl (.inl rfl) rfl rfl) (pe_var (i := 2) rfl (.inl rfl) rfl rfl) (fun _ _ => rfl)) (nomark _))))) (pss_cons (ps_ret pe_bl)
      pss_nil) pss_nil)
      pss_nil))
      (pss_cons (ps_ret pe_bl)
      pss_nil))), ?_⟩
  refine z_start (σ := [some v2, some v5, none]) rfl ?_
  have g : Grow [] H H H H := Grow.refl (Same.refl _)
  obtain ⟨c_9, ec_9, h⟩ := OP.bind h
  refine z_if (a_orP (a_not (v_B (v_isiO (val_var rfl) (Rep.mono _ g.sh r3) (fun hv => (ty_l hv)) (by decide +kernel) (by decide +kernel)))) ec_9 (fun hb hm => by
        obtain ⟨y7, ey7, hm⟩ := bind_some hm
        have r8 := opt_get r3 ey7
        exact (a_eq (v_test (v_neI (v_len (val_var rfl) (qL_qQ (Rep.mono _ g.sh r8))) (v_len (val_var rfl) (Rep.mono _ g.sh r6)))) (Option.some.inj hm)))) (fun hc => ?_) (fun hc => ?_)
  · replace h := OP.ite1 hc h
    refine z_ret val_c ?_
    have h := OP.fin hA h
    exact h
  · replace h := OP.ite0 hc h
    refine z_nextR ?_
    obtain ⟨g10, h⟩ := OP.grd h
    obtain ⟨B14, h, hB15⟩ := OP.brk h
    obtain ⟨F16, hF17, h⟩ := OP.nameR h
    refine z_for1 (j := (due4.length : Int)) (va_cons (v_len (val_var rfl) (Rep.mono _ g.sh r6)) va_nil) g10 (fun ys19 σ' H' => ∃ (u20 : Option V), σ' = [some v2, some v5, u20] ∧ H = H' ∧ OP (forR F16 ys19 ()) (SE B14 A_)) ⟨_, rfl, rfl, h⟩ (fun k11 ys19 σ' H_21 p N hN18 => ?_) ?_
    · obtain ⟨u20, rfl, rfl, h⟩ := p
      replace h := OP.forR h
      replace h := OP.fcall2 hF17 h
      refine g_name (σ' := [some v2, some v5, some (.int k11)]) rfl ?_
      obtain ⟨y22, ey22, h⟩ := OP.bind h
      have r23 := opt_get r3 ey22
      obtain ⟨i24, ei24, h⟩ := OP.bind h
      obtain ⟨c_29, ec_29, h⟩ := OP.bind h
      refine z_if (a_orP (a_not (v_B (v_isi (v_ixS (val_var rfl) (val_var rfl) (qL_qQ (Rep.mono _ g.sh r23)) ei24) ty_str (k := true) (by decide +kernel)))) ec_29 (fun hb hm => by
            obtain ⟨y25, ey25, hm⟩ := bind_some hm
            have r26 := opt_get r3 ey25
            obtain ⟨i27, ei27, hm⟩ := bind_some hm
            obtain ⟨i28, ei28, hm⟩ := bind_some hm
            exact (a_eq (v_test (v_neS (v_ixS (val_var rfl) (val_var rfl) (qL_qQ (Rep.mono _ g.sh r26)) ei27) (v_ixS (val_var rfl) (val_var rfl) (Rep.mono _ g.sh r6) ei28))) (Option.some.inj hm)))) (fun hc => ?_) (fun hc => ?_)
      · replace h := OP.ite1 hc h
        refine z_ret val_c ?_
        have h := OP.fin hA h
        exact h
      · replace h := OP.ite0 hc h
        refine z_nextR ?_
        refine z_next ?_
        exact hN18 _ _ ⟨_, rfl, rfl, h⟩
    · intro σ' H_30 p
      obtain ⟨u20, rfl, rfl, h⟩ := p
      replace h := hB15 _ (OP.forR_nil h)
      refine z_ret val_c ?_
      have h := OP.fin hA h
      exact h

@[irreducible] def m_words (text1 : Str) : Option (Option (List Str)) :=
lt ("" : Str) fun run11 =>
brk (forR (fun sign12 s =>
un2 (fun found24 run25 =>
ifo (inS sign12 ("abcdefghijklmnopqrstuvwxyz" : Str)) (
grd (run25.length + sign12.length ≤ 16777216) <|
lt (run25 ++ sign12) fun run31 =>
some (.inl (found24, run31))) (
(ifo (!(decide (run25 = ("" : Str)))) (
grd (found24.length < 16777216) <|
lt (found24 ++ [run25]) fun l52 =>
lt ("" : Str) fun run59 =>
some (l52, run59)) (
some (found24, run25))).bind (fun s => un2 (fun found37 run38 =>
ifo (inS sign12 ("()," : Str)) (
grd (found37.length < 16777216) <|
lt (found37 ++ [sign12]) fun l43 =>
some (.inl (l43, run38))) (
ifo (!(decide (sign12 = (" " : Str)))) (
some (.inr none)) (
some (.inl (found37, run38))))) s))) s) ((sgs text1)) (([] : List Str), run11)) (fun s => un2 (fun found24 run25 =>
(ifo (!(decide (run25 = ("" : Str)))) (
grd (found24.length < 16777216) <|
lt (found24 ++ [run25]) fun l72 =>
some l72) (
some found24)).bind (fun found66 =>
some (some found66))) s)
abbrev s_words : Stmt := top 3
abbrev sn_words : List Str := ["text", "found", "run", "sign"]
theorem sc_words : FnScope ["text", "found", "run", "sign"] ["text"] (defScope (s_words)) := ⟨rfl, rfl, rfl, by decide +kernel, rfl, by decide +kernel, by decide +kernel⟩
def p_words (K : PySem.W.Frag) (c : Cl) : Sp := fun vs H Q E => ∃ (S : Hp) (text1 : Str), vs = [.str text1] ∧ Same S H ∧ OP (m_words text1) (fun r => ∀ (S' H' : Hp) (v : V), Grow [] S H S' H' → OwnR (qS (K := K)) H S' H' v r → Q v H')
theorem ok_words (T : Tx K mg) : FnOk P w K mg base CX0 1 T.f_words T.d_words ["text"] (p_words K T.c) := by
  refine T.F_words.ok sc_words (fun vs H Q E h => by obtain ⟨S, text1, rfl, _⟩ := h; rfl) (fun cdv A outer s H vs Q E hr h => ?_)
  obtain ⟨S, text1, rfl, gS, h⟩ := h
  obtain ⟨A_, hA⟩ : ∃ A_, A_ = (fun r : (Option (List Str)) => ∀ (S' H' : Hp) (v : V), Grow [] S H S' H' → OwnR (qS (K := K)) H S' H' v r → Q v H') := ⟨_, rfl⟩
  replace h : OP (m_words text1) A_ := hA ▸ h
  rw [m_words] at h
  refine ⟨_, (pss_cons (ps_set (i := 1) sc_words.nd rfl (.inl rfl) (pe_lst pa_nil))
      (pss_cons (ps_set (i := 2) sc_words.nd rfl (.inl rfl) pe_str)
      (pss_cons (ps_for PassesOwn.never rfl (pi_str (pe_var (i := 0) rfl (.inl rfl) rfl rfl)) (pg_name (i := 3) sc_words.nd rfl (.inl rfl)) (pss_cons (ps_if (pt_cmpR (show OpR _ _ rInT from op_inT) (pe_var (i := 3) rfl (.inl rfl) rfl rfl) (pe_globS T.q_LETTERS rfl) rfl) (pss_cons (ps_aug (i := 2) sc_words.nd rfl (.inl rfl) (pe_var (i := 3) rfl (.inl rfl) rfl rfl) iop_add_str)
      (pss_cons ps_continue
      pss_nil)) pss_nil)
      (pss_cons (ps_if (pt_cmpR op_ne (pe_var (i := 2) rfl (.inl rfl) rfl rfl) pe_str (nomark _)) (pss_cons (ps_expr (pe_bm PySem.F.plainAttrs_list PySem.F.slot_list_append PySem.F.type_list_append mt_append (pe_var (i := 1) rfl (.inl rfl) rfl rfl) (pa_cons (pe_var (i := 2) rfl (.inl rfl) rfl rfl) pa_nil)))
      (pss_cons (ps_set (i := 2) sc_words.nd rfl (.inl rfl) pe_str)
      pss_nil)) pss_nil)
      (pss_cons (ps_if (pt_cmpR (show OpR _ _ rInT from op_inT) (pe_var (i := 3) rfl (.inl rfl) rfl rfl) (pe_globS T.q_ALONE rfl) rfl) (pss_cons (ps_expr (pe_bm PySem.F.plainAttrs_list PySem.F.slot_list_append PySem.F.type_list_append mt_append (pe_var (i := 1) rfl (.inl rfl) rfl rfl) (pa_cons (pe_var (i := 3) rfl (.inl rfl) rfl rfl) pa_nil)))
      pss_nil) (pss_cons (ps_if (pt_cmpR op_ne (pe_var (i := 3) rfl (.inl rfl) rfl rfl) pe_str (nomark _)) (pss_cons (ps_ret pe_non)
      pss_nil) pss_nil)
      pss_nil))
      pss_nil))))
      (pss_cons (ps_if (pt_cmpR op_ne (pe_var (i := 2) rfl (.inl rfl) rfl rfl) pe_str (nomark _)) (pss_cons (ps_expr (pe_bm PySem.F.plainAttrs_list PySem.F.slot_list_append PySem.F.type_list_append mt_append (pe_var (i := 1) rfl (.inl rfl) rfl rfl) (pa_cons (pe_var (i := 2) rfl (.inl rfl) rfl rfl) pa_nil)))
      pss_nil) pss_nil)
      (pss_cons (ps_ret (pe_var (i := 1) rfl (.inl rfl) rfl rfl))
      pss_nil))))), ?_⟩
  refine z_start (σ := [some (.str text1), none, none, none]) rfl ?_
  have g : Grow [] S H S H := Grow.refl gS
  refine z_setE ?_
  refine c_lstE fun Q_2 hQ_2 => ?_
  refine c_args va_nil ?_
  refine c_newlst (Q := Q_2) (vs := []) (show 0 ≤ 1000 by decide) fun p3 H_4 e5 np6 ep7 => ?_
  refine q_eq hQ_2 ?_
  have w_8 : RL (qS (K := K)) S [] ([] : List Str) := .nil
  have z10 := g.hnone np6
  have c_9 : Cel [] H S H_4 p3 (.lst []) := Cel.own g e5 np6 ep7 rfl
  replace g := g.ext e5
  refine g_name (σ' := [some (.str text1), some (.ref p3), none, none]) rfl ?_
  obtain ⟨run11, erun11, h⟩ := OP.lt h
  refine z_set (w := (.str run11)) (σ' := [some (.str text1), some (.ref p3), some (.str run11), none]) val_c (congrArg V.str erun11) rfl ?_
  obtain ⟨B15, h, hB16⟩ := OP.brk h
  obtain ⟨F17, hF18, h⟩ := OP.nameR h
  refine z_forS (val_var rfl) (fun ys20 σ' H' => ∃ (ws21 : List V) (found24 : (List Str)) (run25 : Str) (u26 : Option V) (S_27 : Hp), σ' = [some (.str text1), some (.ref p3), some (.str run25), u26] ∧ Grow [] S H S_27 H' ∧ Same S S_27 ∧ Cel [] H S_27 H' p3 (.lst ws21) ∧ RL (qS (K := K)) S_27 ws21 found24 ∧ OP (forR F17 ys20 (found24, run25)) (SE B15 A_)) ⟨_, _, _, _, _, rfl, g, (Same.refl _), c_9, w_8, h⟩ (fun sign12 ys20 σ' H_28 p N hN19 => ?_) ?_
  · obtain ⟨ws21, found24, run25, u26, S_27, rfl, gN, eS29, c_22N, r23N, h⟩ := p
    replace g := gN
    have c_22 := c_22N
    have r23 := r23N
    replace h := OP.forR h
    replace h := OP.fcall2 hF18 h
    replace h := OP.un2 h
    refine g_name (σ' := [some (.str text1), some (.ref p3), some (.str run25), some (.str sign12)]) rfl ?_
    refine z_if (v_test (v_inS (val_var rfl) val_c)) (fun hc => ?_) (fun hc => ?_)
    · replace h := OP.ite1 hc h
      obtain ⟨g30, h⟩ := OP.grd h
      obtain ⟨run31, erun31, h⟩ := OP.lt h
      refine z_augS (w := (.str run31)) (σ' := [some (.str text1), some (.ref p3), some (.str run31), some (.str sign12)]) rfl (val_var rfl) g30 (congrArg V.str erun31) rfl ?_
      refine z_cont ?_
      exact hN19 _ _ ⟨_, _, _, _, _, rfl, g, eS29, c_22, r23, h⟩
    · replace h := OP.ite0 hc h
      refine z_nextR ?_
      obtain ⟨B32, h, hB33⟩ := OP.cut h
      refine z_ifj (fun σ' H' => ∃ (ws34 : List V) (found37 : (List Str)) (run38 : Str) (S_39 : Hp), σ' = [some (.str text1), some (.ref p3), some (.str run38), some (.str sign12)] ∧ Grow [] S H S_39 H' ∧ Same S_27 S_39 ∧ Cel [] H S_39 H' p3 (.lst ws34) ∧ RL (qS (K := K)) S_39 ws34 found37 ∧ B32 (found37, run38)) (v_test (v_neS (val_var rfl) val_c)) ?_ (fun hc N hN => ?_) (fun hc N hN => ?_)
      · intro σ' H_40 p
        obtain ⟨ws34, found37, run38, S_39, rfl, gN, eS41, c_35N, r36N, h⟩ := p
        replace g := gN
        have c_35 := c_35N
        have r36 := r36N
        replace eS29 := eS29.trans eS41
        replace h := hB33 _ h
        replace h := OP.un2 h
        refine z_if (v_test (v_inS (val_var rfl) val_c)) (fun hc => ?_) (fun hc => ?_)
        · replace h := OP.ite1 hc h
          refine z_dropE ?_
          refine c_bm (val_var rfl) (tyL c_35.h) ?_
          refine c_args (va_cons (val_var rfl) va_nil) ?_
          obtain ⟨g42, h⟩ := OP.grd h
          obtain ⟨l43, el43, h⟩ := OP.lt h
          refine c_app g c_35 r36 rfl g42 el43 fun ws44 H_45 g46 c_47 w_48 ot49 => ?_
          replace g := g46
          refine z_nextR ?_
          refine z_next ?_
          exact hN19 _ _ ⟨_, _, _, _, _, rfl, g, eS29, c_47, w_48, h⟩
        · replace h := OP.ite0 hc h
          refine z_if (v_test (v_neS (val_var rfl) val_c)) (fun hc => ?_) (fun hc => ?_)
          · replace h := OP.ite1 hc h
            refine z_ret val_c ?_
            have h := OP.fin hA h
            exact h _ _ _ g rfl
          · replace h := OP.ite0 hc h
            refine z_nextR ?_
            refine z_nextR ?_
            refine z_next ?_
            exact hN19 _ _ ⟨_, _, _, _, _, rfl, g, eS29, c_35, r36, h⟩
      · replace h := OP.ite1 hc h
        have sn50 := Same.refl S_27
        refine z_dropE ?_
        refine c_bm (val_var rfl) (tyL c_22.h) ?_
        refine c_args (va_cons (val_var rfl) va_nil) ?_
        obtain ⟨g51, h⟩ := OP.grd h
        obtain ⟨l52, el52, h⟩ := OP.lt h
        refine c_app g c_22 r23 rfl g51 el52 fun ws53 H_54 g55 c_56 w_57 ot58 => ?_
        replace g := g55
        obtain ⟨run59, erun59, h⟩ := OP.lt h
        refine z_set (w := (.str run59)) (σ' := [some (.str text1), some (.ref p3), some (.str run59), some (.str sign12)]) val_c (congrArg V.str erun59) rfl ?_
        refine z_next ?_
        exact hN _ _ ⟨_, _, _, _, rfl, g, sn50, c_56, w_57, h⟩
      · replace h := OP.ite0 hc h
        have sn60 := Same.refl S_27
        refine z_next ?_
        exact hN _ _ ⟨_, _, _, _, rfl, g, sn60, c_22, r23, h⟩
  · intro σ' H_28 p
    obtain ⟨ws21, found24, run25, u26, S_27, rfl, gN, eS29, c_22N, r23N, h⟩ := p
    replace g := gN
    have c_22 := c_22N
    have r23 := r23N
    replace h := hB16 _ (OP.forR_nil h)
    replace h := OP.un2 h
    obtain ⟨B61, h, hB62⟩ := OP.cut h
    refine z_ifj (fun σ' H' => ∃ (ws63 : List V) (found66 : (List Str)) (S_67 : Hp), σ' = [some (.str text1), some (.ref p3), some (.str run25), u26] ∧ Grow [] S H S_67 H' ∧ Same S_27 S_67 ∧ Cel [] H S_67 H' p3 (.lst ws63) ∧ RL (qS (K := K)) S_67 ws63 found66 ∧ B61 found66) (v_test (v_neS (val_var rfl) val_c)) ?_ (fun hc N hN => ?_) (fun hc N hN => ?_)
    · intro σ' H_68 p
      obtain ⟨ws63, found66, S_67, rfl, gN, eS69, c_64N, r65N, h⟩ := p
      replace g := gN
      have c_64 := c_64N
      have r65 := r65N
      replace h := hB62 _ h
      refine z_ret (val_var rfl) ?_
      have h := OP.fin hA h
      exact h _ _ _ g ⟨_, _, rfl, z10, c_64.h, c_64.s, r65⟩
    · replace h := OP.ite1 hc h
      have sn70 := Same.refl S_27
      refine z_dropE ?_
      refine c_bm (val_var rfl) (tyL c_22.h) ?_
      refine c_args (va_cons (val_var rfl) va_nil) ?_
      obtain ⟨g71, h⟩ := OP.grd h
      obtain ⟨l72, el72, h⟩ := OP.lt h
      refine c_app g c_22 r23 rfl g71 el72 fun ws73 H_74 g75 c_76 w_77 ot78 => ?_
      replace g := g75
      refine z_next ?_
      exact hN _ _ ⟨_, _, _, rfl, g, sn70, c_76, w_77, h⟩
    · replace h := OP.ite0 hc h
      have sn79 := Same.refl S_27
      refine z_next ?_
      exact hN _ _ ⟨_, _, _, rfl, g, sn79, c_22, r23, h⟩

@[irreducible] def m_law (script1 : (List Int)) : Option Bool :=
lt ("" : Str) fun text4 =>
(forO (fun cell14 text23 =>
(m__law_piece cell14).bind fun v27 =>
grd (text23.length + v27.length ≤ 16777216) <|
lt (text23 ++ v27) fun text29 =>
some text29) ((cutI script1 (some 1) (some 701))) text4).bind (fun text23 =>
(m__law_cell_at script1 0).bind fun v31 =>
grd (text23.length ≤ 16777216) <|
grd (0 < ((text23.length : Int) + 1)) <|
lt ((v31 / 3) % ((text23.length : Int) + 1)) fun place34 =>
brk (ifo (decide ((v31 % 3) = 1)) (
grd (text23.length ≤ 16777216) <|
(m__law_other (v31 / 3)).bind fun v119 =>
grd ((cutS text23 none (some place34)).length + v119.length ≤ 16777216) <|
grd (text23.length ≤ 16777216) <|
grd (((cutS text23 none (some place34)) ++ v119).length + (cutS text23 (some place34) none).length ≤ 16777216) <|
lt (((cutS text23 none (some place34)) ++ v119) ++ (cutS text23 (some place34) none)) fun other_here123 =>
(m_words other_here123).bind fun v124 =>
ifo v124.isSome (
some (.inr false)) (
some (.inl ()))) (
some (.inl ()))) (fun _ =>
(m_words text23).bind fun v41 =>
optC v41 (
(m__law_cut text23).bind fun v50 =>
(m__law_same none v50).bind fun v68 =>
ifo (!v68) (
some false) (
none)) (fun found49 =>
(m__law_cut text23).bind fun v77 =>
(m__law_same (some found49) v77).bind fun v96 =>
ifo (!v96) (
some false) (
(m_words text23).bind fun v102 =>
(m__law_same v102 v77).bind fun v116 =>
some v116))))
abbrev s_law : Stmt := top 10
abbrev sn_law : List Str := ["_law_script", "_law_text", "_law_cell", "_law_first", "_law_place", "_law_other_here", "_law_found", "_law_due"]
theorem sc_law : FnScope ["_law_script", "_law_text", "_law_cell", "_law_first", "_law_place", "_law_other_here", "_law_found", "_law_due"] ["_law_script"] (defScope (s_law)) := ⟨rfl, rfl, rfl, by decide +kernel, rfl, by decide +kernel, by decide +kernel⟩
def p_law (K : PySem.W.Frag) (c : Cl) : Sp := fun vs H Q E => ∃ (S : Hp) (v2 : V) (script1 : (List Int)), vs = [v2] ∧ Same S H ∧ RdL (qI (K := K)) [] S H v2 script1 ∧ OP (m_law script1) (fun r => ∀ (S' H' : Hp), Grow [] S H S' H' → Q (.bl r) H')
theorem ok_law (T : Tx K mg) : FnOk P w K mg base CX0 2 T.f_law T.d_law ["_law_script"] (p_law K T.c) := by
  refine T.F_law.ok sc_law (fun vs H Q E h => by obtain ⟨S, v2, script1, rfl, _⟩ := h; rfl) (fun cdv A outer s H vs Q E hr h => ?_)
  obtain ⟨S, v2, script1, rfl, gS, r3, h⟩ := h
  obtain ⟨A_, hA⟩ : ∃ A_, A_ = (fun r : Bool => ∀ (S' H' : Hp), Grow [] S H S' H' → Q (.bl r) H') := ⟨_, rfl⟩
  replace h : OP (m_law script1) A_ := hA ▸ h
  rw [m_law] at h
  have hr1 : Room 1 _ := hr.mono (by decide)
  refine ⟨_, (pss_cons (ps_set (i := 1) sc_law.nd rfl (.inl rfl) pe_str)
      (pss_cons (ps_for PassesOwn.never rfl (pi_list (pe_slice sl_list (pe_var (i := 0) rfl (.inl rfl) rfl rfl) (po_some pe_int) (po_some pe_int))) (pg_name (i := 2) sc_law.nd rfl (.inl rfl)) (pss_cons (ps_set (i := 1) sc_law.nd rfl (.inl rfl) (pe_op op_add_str (pe_var (i := 1) rfl (.inl rfl) rfl rfl) (pe_call (ok__law_piece T) hr1 rfl T.m__law_piece T.F__law_piece.kp T.b__law_piece .nil pass0 (pa_cons (pe_var (i := 2) rfl (.inl rfl) rfl rfl) pa_nil))))
      pss_nil))
      (pss_cons (ps_set (i := 3) sc_law.nd rfl (.inl rfl) (pe_call (ok__law_cell_at T) hr1 rfl T.m__law_cell_at T.F__law_cell_at.kp T.b__law_cell_at .nil pass0 (pa_cons (pe_var (i := 0) rfl (.inl rfl) rfl rfl) (pa_cons pe_int pa_nil))))
      (pss_cons (ps_set (i := 4) sc_law.nd rfl (.inl rfl) (pe_op op_mod (pe_op op_fdiv (pe_var (i := 3) rfl (.inl rfl) rfl rfl) pe_int) (pe_op op_add (pe_callB call_len_str rfl T.n_len bt_len (pa_cons (pe_var (i := 1) rfl (.inl rfl) rfl rfl) pa_nil)) pe_int)))
      (pss_cons (ps_if (pt_cmpR op_eq (pe_op op_mod (pe_var (i := 3) rfl (.inl rfl) rfl rfl) pe_int) pe_int (nomark _)) (pss_cons (ps_set (i := 5) sc_law.nd rfl (.inl rfl) (pe_op op_add_str (pe_op op_add_str (pe_slice sl_str (pe_var (i := 1) rfl (.inl rfl) rfl rfl) po_none (po_some (pe_var (i := 4) rfl (.inl rfl) rfl rfl))) (pe_call (ok__law_other T) hr1 rfl T.m__law_other T.F__law_other.kp T.b__law_other .nil pass0 (pa_cons (pe_op op_fdiv (pe_var (i := 3) rfl (.inl rfl) rfl rfl) pe_int) pa_nil))) (pe_slice sl_str (pe_var (i := 1) rfl (.inl rfl) rfl rfl) (po_some (pe_var (i := 4) rfl (.inl rfl) rfl rfl)) po_none)))
      (pss_cons (ps_if (pt_cmpR op_notN1 (pe_call (ok_words T) hr1 rfl T.m_words T.F_words.kp T.b_words .nil pass0 (pa_cons (pe_var (i := 5) rfl (.inl rfl) rfl rfl) pa_nil)) pe_non (nomark _)) (pss_cons (ps_ret pe_bl)
      pss_nil) pss_nil)
      pss_nil)) pss_nil)
      (pss_cons (ps_set (i := 6) sc_law.nd rfl (.inl rfl) (pe_call (ok_words T) hr1 rfl T.m_words T.F_words.kp T.b_words .nil pass0 (pa_cons (pe_var (i := 1) rfl (.inl rfl) rfl rfl) pa_nil)))
      (pss_cons (ps_set (i := 7) sc_law.nd rfl (.inl rfl) (pe_call (ok__law_cut T) hr1 rfl T.m__law_cut T.F__law_cut.kp T.b__law_cut .nil pass0 (pa_cons (pe_var (i := 1) rfl (.inl rfl) rfl rfl) pa_nil)))
      (pss_cons (ps_if (pt_not (pt_val (pe_call (ok__law_same T) hr1 rfl T.m__law_same T.F__law_same.kp T.b__law_same .nil pass0 (pa_cons (pe_var (i := 6) rfl (.inl rfl) rfl rfl) (pa_cons (pe_var (i := 7) rfl (.inl rfl) rfl rfl) pa_nil))))) (pss_cons (ps_ret pe_bl)
      pss_nil) pss_nil)
      (pss_cons (ps_expr (pe_bm0 PySem.F.plainAttrs_list PySem.F.slot_list_clear PySem.F.type_list_clear mt_clear (pe_var (i := 6) rfl (.inl rfl) rfl rfl)))
      (pss_cons (ps_ret (pe_call (ok__law_same T) hr1 rfl T.m__law_same T.F__law_same.kp T.b__law_same .nil pass0 (pa_cons (pe_call (ok_words T) hr1 rfl T.m_words T.F_words.kp T.b_words .nil pass0 (pa_cons (pe_var (i := 1) rfl (.inl rfl) rfl rfl) pa_nil)) (pa_cons (pe_var (i := 7) rfl (.inl rfl) rfl rfl) pa_nil))))
      pss_nil)))))))))), ?_⟩
  refine z_start (σ := [some v2, none, none, none, none, none, none, none]) rfl ?_
  have g : Grow [] S H S H := Grow.refl gS
  obtain ⟨text4, etext4, h⟩ := OP.lt h
  refine z_set (w := (.str text4)) (σ' := [some v2, some (.str text4), none, none, none, none, none, none]) val_c (congrArg V.str etext4) rfl ?_
  refine z_forLE ?_
  refine c_slice (val_var rfl) (po1 val_c) (po1 val_c) ?_
  refine (l_slice (LS.rd g r3) fun p5 ws6 H_7 e8 np9 ep10 rw11 => ?_)
  have z13 := g.hnone np9
  have c_12 : Cel [] H S H_7 p5 (.lst ws6) := Cel.own g e8 np9 ep10 rfl
  replace g := g.ext e8
  obtain ⟨B17, h, hB18⟩ := OP.cut h
  obtain ⟨F19, hF20, h⟩ := OP.nameO h
  have q26e : ((.ref p5) : V) = (.ref p5) := rfl
  have q26p := rw11
  have q26h := SqL.of (K := K) c_12.h
  refine z_forL (v_eq val_c q26e) q26p (fun ys22 σ' H' => ∃ (text23 : Str) (u24 : Option V), σ' = [some v2, some (.str text23), u24, none, none, none, none, none] ∧ H_7 = H' ∧ OP (forO F19 ys22 text23) B17) ⟨_, _, rfl, rfl, h⟩ (fun ys σ' H' p => by obtain ⟨text23, u24, rfl, rfl, h⟩ := p; exact q26h) (fun w_15 cell14 ys22 σ' H_25 rw16 p N hN21 => ?_) ?_
  · obtain ⟨text23, u24, rfl, rfl, h⟩ := p
    replace h := OP.forO h
    replace h := OP.fcall2 hF20 h
    cases (show w_15 = (.int cell14) from rw16)
    refine g_name (σ' := [some v2, some (.str text23), some (.int cell14), none, none, none, none, none]) rfl ?_
    obtain ⟨v27, ev27, h⟩ := OP.bind h
    obtain ⟨g28, h⟩ := OP.grd h
    obtain ⟨text29, etext29, h⟩ := OP.lt h
    refine z_set (w := (.str text29)) (σ' := [some v2, some (.str text29), some (.int cell14), none, none, none, none, none]) (v_catS (val_var rfl) (v_call (va_cons (val_var rfl) va_nil) fun Q q => ⟨_, rfl, OP.mk ev27 q⟩) g28) (congrArg V.str etext29) rfl ?_
    refine z_next ?_
    exact hN21 _ _ ⟨_, _, rfl, rfl, h⟩
  · intro σ' H_30 p
    obtain ⟨text23, u24, rfl, rfl, h⟩ := p
    replace h := hB18 _ (OP.forO_nil h)
    obtain ⟨v31, ev31, h⟩ := OP.bind h
    refine z_set (w := (.int v31)) (σ' := [some v2, some (.str text23), u24, some (.int v31), none, none, none, none]) (v_call (va_cons (val_var rfl) (va_cons val_c va_nil)) fun Q q => ⟨_, _, _, rfl, (RdL.q g r3), OP.mk ev31 q⟩) rfl rfl ?_
    obtain ⟨g32, h⟩ := OP.grd h
    obtain ⟨g33, h⟩ := OP.grd h
    obtain ⟨place34, eplace34, h⟩ := OP.lt h
    refine z_set (w := (.int place34)) (σ' := [some v2, some (.str text23), u24, some (.int v31), some (.int place34), none, none, none]) (v_o2c (v_o2c (val_var rfl) val_c ⟨by decide, by decide⟩) (v_o2 (v_lenS g32 (val_var rfl)) val_c) g33) (congrArg V.int eplace34) rfl ?_
    obtain ⟨B35, h, hB36⟩ := OP.brk h
    refine z_ifj (fun σ' H' => ∃ (u37 : Option V) (S_38 : Hp), σ' = [some v2, some (.str text23), u24, some (.int v31), some (.int place34), u37, none, none] ∧ Grow [] S H S_38 H' ∧ Same S S_38 ∧ B35 ()) (v_test (v_eqI (v_o2c (val_var rfl) val_c (show (0 : Int) < 3 by decide)) val_c)) ?_ (fun hc N hN => ?_) (fun hc N hN => ?_)
    · intro σ' H_39 p
      obtain ⟨u37, S_38, rfl, gN, eS40, h⟩ := p
      replace g := gN
      replace r3 := RdL.mono eS40 r3
      replace h := hB36 _ h
      refine z_setE ?_
      refine c_call ?_
      refine c_args (va_cons (val_var rfl) va_nil) ?_
      have gL47 : ∀ l ∈ [], H l = none ∨ l ∈ [] := LM0
      refine ⟨S_38, _, rfl, g.sh, (OP.of h).mono fun v41 h S_42 H_43 v45 gc44 r46 => ?_⟩
      have gp48 := g
      replace r3 := RdL.mono gc44.ss r3
      replace g := g.call gc44 gL47
      cases v41
      case none =>
        replace h := OP.optN h
        cases (show v45 = .non from r46)
        refine g_name (σ' := [some v2, some (.str text23), u24, some (.int v31), some (.int place34), u37, some .non, none]) rfl ?_
        refine z_setE ?_
        refine c_call ?_
        refine c_args (va_cons (val_var rfl) va_nil) ?_
        have gL60 : ∀ l ∈ [], H l = none ∨ l ∈ [] := LM0
        refine ⟨S_42, _, rfl, g.sh, (OP.of h).mono fun v50 h S_51 H_52 p54 ws55 gc53 np56 hp57 sp58 wf59 => ?_⟩
        have z61 := g.hnone np56
        replace r3 := RdL.mono gc53.ss r3
        have c_62 : Cel [] H S_51 H_52 p54 (.lst ws55) := ⟨hp57, sp58, .inl z61, rfl⟩
        replace g := g.call gc53 gL60
        obtain ⟨S_63, g64, eS65, r66, ot67⟩ := c_freeze g c_62 z61 wf59
        replace r3 := RdL.mono eS65 r3
        replace g := g64
        refine g_name (σ' := [some v2, some (.str text23), u24, some (.int v31), some (.int place34), u37, some .non, some (.ref p54)]) rfl ?_
        obtain ⟨v68, ev68, h⟩ := OP.bind h
        refine z_if (a_not (v_B (v_call (va_cons (val_var rfl) (va_cons (val_var rfl) va_nil)) fun Q q => ⟨_, _, _, _, rfl, (Rep.mono _ g.sh (show ((qOpt (qL (qS (K := K))))).R S_63 .non none from rfl)), (qL_qQ (Rep.mono _ g.sh r66)), OP.mk ev68 q⟩))) (fun hc => ?_) (fun hc => ?_)
        · replace h := OP.ite1 hc h
          refine z_ret val_c ?_
          have h := OP.fin hA h
          exact h _ _ g
        · replace h := OP.ite0 hc h
          refine z_nextR ?_
          exact h.elim
      case some found49 =>
        replace h := OP.optS h
        obtain ⟨p69, ws70, rfl, np71, hp72, sp73, wf74⟩ := r46
        have z76 : H p69 = none := gp48.hnone np71
        have c_75 : Cel [] H S_42 H_43 p69 (.lst ws70) := ⟨hp72, sp73, .inl z76, rfl⟩
        refine g_name (σ' := [some v2, some (.str text23), u24, some (.int v31), some (.int place34), u37, some (.ref p69), none]) rfl ?_
        refine z_setE ?_
        refine c_call ?_
        refine c_args (va_cons (val_var rfl) va_nil) ?_
        have gL87 : ∀ l ∈ [], H l = none ∨ l ∈ [] := LM0
        refine ⟨S_42, _, rfl, g.sh, (OP.of h).mono fun v77 h S_78 H_79 p81 ws82 gc80 np83 hp84 sp85 wf86 => ?_⟩
        have ne88 := c_75.ne np83
        have z89 := g.hnone np83
        replace c_75 := c_75.call gc80 NM0
        replace r3 := RdL.mono gc80.ss r3
        replace wf74 := RL.mono gc80.ss wf74
        have c_90 : Cel [] H S_78 H_79 p81 (.lst ws82) := ⟨hp84, sp85, .inl z89, rfl⟩
        replace g := g.call gc80 gL87
        obtain ⟨S_91, g92, eS93, r94, ot95⟩ := c_freeze g c_90 z89 wf86
        replace c_75 := ot95 _ _ (by first | assumption | exact Ne.symm (by assumption)) c_75
        replace r3 := RdL.mono eS93 r3
        replace wf74 := RL.mono eS93 wf74
        replace g := g92
        refine g_name (σ' := [some v2, some (.str text23), u24, some (.int v31), some (.int place34), u37, some (.ref p69), some (.ref p81)]) rfl ?_
        obtain ⟨v96, ev96, h⟩ := OP.bind h
        refine z_if (a_not (v_B (v_call (va_cons (val_var rfl) (va_cons (val_var rfl) va_nil)) fun Q q => ⟨_, _, _, _, rfl, (show ((qOpt (qL (qS (K := K))))).R H_79 (.ref p69) (some found49) from ⟨(fun z => nomatch z), (qL_of c_75.h (RL.mono g.sh wf74))⟩), (qL_qQ (Rep.mono _ g.sh r94)), OP.mk ev96 q⟩))) (fun hc => ?_) (fun hc => ?_)
        · replace h := OP.ite1 hc h
          refine z_ret val_c ?_
          have h := OP.fin hA h
          exact h _ _ g
        · replace h := OP.ite0 hc h
          refine z_nextR ?_
          refine z_dropE ?_
          refine c_bm0 (val_var rfl) (tyL c_75.h) ?_
          refine c_clear (τ := (qS (K := K))) g c_75 fun H_97 g98 c_99 w_100 ot101 => ?_
          replace g := g98
          refine z_retE ?_
          refine c_call ?_
          refine c_cons ?_
          refine c_call ?_
          refine c_args (va_cons (val_var rfl) va_nil) ?_
          have gL108 : ∀ l ∈ [], H l = none ∨ l ∈ [] := LM0
          refine ⟨S_91, _, rfl, g.sh, (OP.of h).mono fun v102 h S_103 H_104 v106 gc105 r107 => ?_⟩
          have nz109 := sne c_99.h
          replace c_99 := c_99.call gc105 NM0
          replace r3 := RdL.mono gc105.ss r3
          replace w_100 := RL.mono gc105.ss w_100
          replace r94 := Rep.mono _ gc105.ss r94
          have gp110 := g
          replace g := g.call gc105 gL108
          obtain ⟨S_111, g112, eS113, r114, ot115⟩ := OwnR.frz g gp110 r107
          replace c_99 := ot115 _ _ (by assumption) c_99
          replace r3 := RdL.mono eS113 r3
          replace w_100 := RL.mono eS113 w_100
          replace r94 := Rep.mono _ eS113 r94
          replace g := g112
          refine c_cons ?_
          refine c_val (val_var rfl) ?_
          refine c_nil ?_
          obtain ⟨v116, ev116, h⟩ := OP.bind h
          refine ⟨_, _, _, _, rfl, (Rep.mono _ g.sh r114), (qL_qQ (Rep.mono _ g.sh r94)), OP.mk ev116 ?_⟩
          have h := OP.fin hA h
          exact h _ _ g
    · replace h := OP.ite1 hc h
      have sn117 := Same.refl S
      obtain ⟨g118, h⟩ := OP.grd h
      obtain ⟨v119, ev119, h⟩ := OP.bind h
      obtain ⟨g120, h⟩ := OP.grd h
      obtain ⟨g121, h⟩ := OP.grd h
      obtain ⟨g122, h⟩ := OP.grd h
      obtain ⟨other_here123, eother_here123, h⟩ := OP.lt h
      refine z_set (w := (.str other_here123)) (σ' := [some v2, some (.str text23), u24, some (.int v31), some (.int place34), some (.str other_here123), none, none]) (v_catS (v_catS (v_cutS (val_var rfl) po0 (po1 (val_var rfl)) g118) (v_call (va_cons (v_o2c (val_var rfl) val_c ⟨by decide, by decide⟩) va_nil) fun Q q => ⟨_, rfl, OP.mk ev119 q⟩) g120) (v_cutS (val_var rfl) (po1 (val_var rfl)) po0 g121) g122) (congrArg V.str eother_here123) rfl ?_
      refine z_ifE ?_
      refine c_test ?_
      refine c_op ?_
      refine c_call ?_
      refine c_args (va_cons (val_var rfl) va_nil) ?_
      have gL130 : ∀ l ∈ [], H l = none ∨ l ∈ [] := LM0
      refine ⟨S, _, rfl, g.sh, (OP.of h).mono fun v124 h S_125 H_126 v128 gc127 r129 => ?_⟩
      replace r3 := RdL.mono gc127.ss r3
      replace sn117 := sn117.trans gc127.ss
      have gp131 := g
      replace g := g.call gc127 gL130
      obtain ⟨S_132, g133, eS134, r135, ot136⟩ := OwnR.frz g gp131 r129
      replace r3 := RdL.mono eS134 r3
      replace sn117 := sn117.trans eS134
      replace g := g133
      refine c_val val_c ?_
      refine e_notN (opt_decN (Rep.mono _ g.sh r135)) ?_
      refine ⟨_, rfl, ?_⟩
      refine ifb (fun hc => ?_) (fun hc => ?_)
      · replace h := OP.ite1 hc h
        refine z_ret val_c ?_
        have h := OP.fin hA h
        exact h _ _ g
      · replace h := OP.ite0 hc h
        refine z_nextR ?_
        refine z_next ?_
        exact hN _ _ ⟨_, _, rfl, g, sn117, h⟩
    · replace h := OP.ite0 hc h
      have sn137 := Same.refl S
      refine z_next ?_
      exact hN _ _ ⟨_, _, rfl, g, sn137, h⟩
end
end E
namespace B
open PySem Z

/-! ### loops by an invariant -/
theorem forO_rng {σ : Type} {body : Int → σ → Option σ} (I : Nat → σ → Prop) : ∀ (n a : Nat) (s : σ), I a s → (∀ i s, a ≤ i → i < a + n → I i s → ∃ s', body (i : Int) s = some s' ∧ I (i + 1) s') → ∃ s', forO body (rangeI (a : Int) n) s = some s' ∧ I (a + n) s'
  | 0, a, s, h, _ => ⟨s, forO_nil, h⟩
  | n + 1, a, s, h, hs => by
    obtain ⟨s1, e1, h1⟩ := hs a s (Nat.le_refl _) (by omega) h
    obtain ⟨s2, e2, h2⟩ := forO_rng I n (a + 1) s1 h1 fun i s hi hj hI => hs i s (by omega) (by omega) hI
    refine ⟨s2, ?_, by rw [show a + (n + 1) = a + 1 + n by omega]; exact h2⟩
    rw [rangeI_succ, forO_cons, e1]
    show forO body (rangeI ((a : Int) + 1) n) s1 = some s2
    rw [show ((a : Int) + 1) = ((a + 1 : Nat) : Int) by omega]
    exact e2
theorem forR_rng {σ ρ : Type} {body : Int → σ → Option (σ ⊕ ρ)} (I : Nat → σ → Prop) : ∀ (n a : Nat) (s : σ), I a s → (∀ i s, a ≤ i → i < a + n → I i s → ∃ s', body (i : Int) s = some (.inl s') ∧ I (i + 1) s') → ∃ s', forR body (rangeI (a : Int) n) s = some (.inl s') ∧ I (a + n) s'
  | 0, a, s, h, _ => ⟨s, forR_nil, h⟩
  | n + 1, a, s, h, hs => by
    obtain ⟨s1, e1, h1⟩ := hs a s (Nat.le_refl _) (by omega) h
    obtain ⟨s2, e2, h2⟩ := forR_rng I n (a + 1) s1 h1 fun i s hi hj hI => hs i s (by omega) (by omega) hI
    refine ⟨s2, ?_, by rw [show a + (n + 1) = a + 1 + n by omega]; exact h2⟩
    rw [rangeI_succ, forR_cons, e1]
    show forR body (rangeI ((a : Int) + 1) n) s1 = some (.inl s2)
    rw [show ((a : Int) + 1) = ((a + 1 : Nat) : Int) by omega]
    exact e2
/-- over range(n) -/
theorem forO_r0 {σ : Type} {body : Int → σ → Option σ} (I : Nat → σ → Prop) {n : Nat} {s : σ} (h : I 0 s) (hs : ∀ i s, i < n → I i s → ∃ s', body (i : Int) s = some s' ∧ I (i + 1) s') : ∃ s', forO body (rangeI 0 n) s = some s' ∧ I n s' := by
  obtain ⟨s', e, i⟩ := forO_rng I n 0 s h fun i s _ hj hI => hs i s (by omega) hI
  rw [Nat.zero_add] at i
  exact ⟨s', e, i⟩
theorem forR_r0 {σ ρ : Type} {body : Int → σ → Option (σ ⊕ ρ)} (I : Nat → σ → Prop) {n : Nat} {s : σ} (h : I 0 s) (hs : ∀ i s, i < n → I i s → ∃ s', body (i : Int) s = some (.inl s') ∧ I (i + 1) s') : ∃ s', forR body (rangeI 0 n) s = some (.inl s') ∧ I n s' := by
  obtain ⟨s', e, i⟩ := forR_rng I n 0 s h fun i s _ hj hI => hs i s (by omega) hI
  rw [Nat.zero_add] at i
  exact ⟨s', e, i⟩
/-- a search: all turns pass, or the first that does not answers -/
theorem forR_all {ρ : Type} {body : Int → Unit → Option (Unit ⊕ ρ)} {v : ρ} (p : Nat → Bool) : ∀ (n a : Nat), (∀ i, a ≤ i → i < a + n → body (i : Int) () = some (if p i = true then .inl () else .inr v)) →
    forR body (rangeI (a : Int) n) () = some (if (List.range' a n).all p = true then .inl () else .inr v)
  | 0, a, _ => forR_nil
  | n + 1, a, h => by
    rw [rangeI_succ, forR_cons, h a (Nat.le_refl _) (by omega), List.range'_succ, List.all_cons]
    by_cases hp : p a = true
    · rw [if_pos hp, hp, Bool.true_and]
      show forR body (rangeI ((a : Int) + 1) n) () = _
      rw [show ((a : Int) + 1) = ((a + 1 : Nat) : Int) by omega]
      exact forR_all p n (a + 1) fun i h1 h2 => h i (by omega) (by omega)
    · rw [if_neg hp, if_neg]
      · rfl
      · rw [Bool.and_eq_true]; exact fun z => hp z.1
theorem forR_all0 {ρ : Type} {body : Int → Unit → Option (Unit ⊕ ρ)} {v : ρ} (p : Nat → Bool) {n : Nat} (h : ∀ i, i < n → body (i : Int) () = some (if p i = true then .inl () else .inr v)) :
    forR body (rangeI 0 n) () = some (if (List.range n).all p = true then .inl () else .inr v) := by
  have q := forR_all p n 0 fun i _ h2 => h i (by omega)
  rw [List.range_eq_range']
  exact q
theorem bind_eq {α β : Type} {m : Option α} {a : α} {k : α → Option β} (h : m = some a) : m.bind k = k a := by rw [h]; rfl
theorem brk_inl {σ ρ : Type} {m : Option (σ ⊕ ρ)} {s : σ} {k : σ → Option ρ} (h : m = some (.inl s)) : brk m k = k s := by rw [h]; rfl
theorem brk_inr {σ ρ : Type} {m : Option (σ ⊕ ρ)} {v : ρ} {k : σ → Option ρ} (h : m = some (.inr v)) : brk m k = some v := by rw [h]; rfl
theorem lt_eq {α β : Type} {e : α} {k : α → Option β} : lt e k = k e := rfl

/-! ### whole numbers that are no less than nought -/
theorem shl_nat (n k : Nat) : shl (n : Int) (k : Int) = ((n <<< k : Nat) : Int) := by
  show (n : Int) * 2 ^ (Int.toNat (k : Int)) = _
  rw [Int.toNat_natCast, Nat.shiftLeft_eq]
  push_cast
  rfl
theorem shl1_nat (k : Nat) : shl 1 (k : Int) = ((2 ^ k : Nat) : Int) := by
  have h := shl_nat 1 k
  rw [Nat.shiftLeft_eq, Nat.one_mul] at h
  exact h
theorem shr_nat (n k : Nat) : shr (n : Int) (k : Int) = ((n >>> k : Nat) : Int) := by
  show (n : Int) / 2 ^ (Int.toNat (k : Int)) = _
  rw [Int.toNat_natCast, Nat.shiftRight_eq_div_pow]
  push_cast
  rfl
theorem band_nat (a b : Nat) : band (a : Int) (b : Int) = ((a &&& b : Nat) : Int) := by
  show Builtin.bitAnd _ _ = _
  rw [PyProof.Rows.bitAnd_pp (by omega) (by omega)]
  rfl
theorem bor_nat (a b : Nat) : bor (a : Int) (b : Int) = ((a ||| b : Nat) : Int) := by
  show Builtin.bitOr _ _ = _
  rw [L2.bitOr_nn (by omega) (by omega)]
  rfl
theorem nat_xor_and (a b : Nat) : (a ^^^ b) + 2 * (a &&& b) = a + b := by
  have h1 := PyProof.Rows.nat_or_add_and a b
  have h2 := PyProof.Rows.nat_or_add_and (a ^^^ b) (a &&& b)
  have e1 : (a ^^^ b) ||| (a &&& b) = a ||| b := by
    apply Nat.eq_of_testBit_eq
    intro i
    simp only [Nat.testBit_or, Nat.testBit_xor, Nat.testBit_and]
    cases a.testBit i <;> cases b.testBit i <;> rfl
  have e2 : (a ^^^ b) &&& (a &&& b) = 0 := by
    apply Nat.eq_of_testBit_eq
    intro i
    simp only [Nat.testBit_xor, Nat.testBit_and, Nat.zero_testBit]
    cases a.testBit i <;> cases b.testBit i <;> rfl
  rw [e1, e2] at h2
  omega
theorem bxor_nat (a b : Nat) : bxor (a : Int) (b : Int) = ((a ^^^ b : Nat) : Int) := by
  show Builtin.bitXor _ _ = _
  rw [PyProof.Rows.bitXor_and]
  have h := nat_xor_and a b
  have q : Builtin.bitAnd (a : Int) (b : Int) = ((a &&& b : Nat) : Int) := band_nat a b
  rw [q]
  omega
/-- a without b -/
def andn (a b : Nat) : Nat := a ^^^ (a &&& b)
theorem testBit_andn (a b i : Nat) : (andn a b).testBit i = (a.testBit i && !b.testBit i) := by
  unfold andn
  simp only [Nat.testBit_xor, Nat.testBit_and]
  cases a.testBit i <;> cases b.testBit i <;> rfl
theorem bandn_nat (a b : Nat) : band (a : Int) (bnot (b : Int)) = ((andn a b : Nat) : Int) := by
  show Builtin.bitAnd (a : Int) (Builtin.bitNot (b : Int)) = _
  rw [PyProof.Rows.bitAnd_not]
  have q : Builtin.bitAnd (a : Int) (b : Int) = ((a &&& b : Nat) : Int) := band_nat a b
  rw [q]
  have h := nat_xor_and a (a &&& b)
  have e : a &&& (a &&& b) = a &&& b := by
    apply Nat.eq_of_testBit_eq
    intro i
    simp only [Nat.testBit_and]
    cases a.testBit i <;> cases b.testBit i <;> rfl
  rw [e] at h
  unfold andn
  omega
theorem gPow1 {k : Nat} (h : k ≤ 1000000) : gPow 1 (k : Int) := ⟨by omega, by omega, by decide⟩
theorem gPow_nat {n k : Nat} (h : k ≤ 1000000) (hn : n < 2 ^ 64) : gPow (n : Int) (k : Int) := ⟨by omega, by omega, by simpa using hn⟩
theorem gR_nat {n : Nat} (h : n < 2 ^ 62) : gR (n : Int) := ⟨by omega, by omega⟩
theorem gDiv_nat {n : Nat} (h0 : 0 < n) (h : n < 1073741824) : gDiv (n : Int) := ⟨by omega, by omega⟩

/-! ### a number by its bits -/
def mask : Nat → (Nat → Bool) → Nat
  | 0, _ => 0
  | n + 1, p => mask n p + if p n = true then 2 ^ n else 0
theorem mask_succ (n : Nat) (p : Nat → Bool) : mask (n + 1) p = mask n p + if p n = true then 2 ^ n else 0 := rfl
theorem mask_lt : ∀ (n : Nat) (p : Nat → Bool), mask n p < 2 ^ n
  | 0, _ => Nat.one_pos
  | n + 1, p => by
    have h := mask_lt n p
    unfold mask
    rw [Nat.pow_succ]
    split <;> omega
theorem testBit_mask : ∀ (n : Nat) (p : Nat → Bool) (i : Nat), (mask n p).testBit i = (decide (i < n) && p i)
  | 0, p, i => by simp [mask]
  | n + 1, p, i => by
    have h := testBit_mask n p i
    have hl := mask_lt n p
    unfold mask
    by_cases hp : p n = true
    · rw [if_pos hp, Nat.add_comm]
      have e := Nat.two_pow_add_eq_or_of_lt hl 1
      rw [Nat.mul_one] at e
      rw [e, Nat.testBit_or, h, Nat.testBit_two_pow]
      by_cases hi : i < n
      · simp [hi, Nat.lt_succ_of_lt hi, show ¬ n = i by omega]
      · by_cases he : n = i
        · subst he; simp [hp]
        · simp [hi, he, show ¬ i < n + 1 by omega]
    · rw [if_neg hp, Nat.add_zero, h]
      by_cases hi : i < n
      · simp [hi, Nat.lt_succ_of_lt hi]
      · by_cases he : n = i
        · subst he; simp [hp]
        · simp [hi, show ¬ i < n + 1 by omega]
theorem mask_ext {n : Nat} {p : Nat → Bool} {x : Nat} (hx : x < 2 ^ n) (h : ∀ i, i < n → x.testBit i = p i) : x = mask n p := by
  apply Nat.eq_of_testBit_eq
  intro i
  rw [testBit_mask]
  by_cases hi : i < n
  · simp [hi, h i hi]
  · simp only [hi, decide_false, Bool.false_and]
    exact Nat.testBit_lt_two_pow (Nat.lt_of_lt_of_le hx (Nat.pow_le_pow_right (by decide) (by omega)))
theorem mask_congr {n : Nat} {p q : Nat → Bool} (h : ∀ i, i < n → p i = q i) : mask n p = mask n q := mask_ext (mask_lt n p) fun i hi => by rw [testBit_mask, h i hi]; simp [hi]
end B
namespace B
open PySem Z
theorem forO_list {α σ : Type} {body : α → σ → Option σ} (g : σ → α → σ) (I : σ → Prop) : ∀ (xs : List α) (s : σ), I s → (∀ x ∈ xs, ∀ s, I s → body x s = some (g s x) ∧ I (g s x)) → forO body xs s = some (xs.foldl g s) ∧ I (xs.foldl g s)
  | [], s, h, _ => ⟨forO_nil, h⟩
  | x :: xs, s, h, hs => by
    obtain ⟨e, i⟩ := hs x List.mem_cons_self s h
    rw [forO_cons, e]
    exact forO_list g I xs (g s x) i fun y hy => hs y (List.mem_cons_of_mem _ hy)
theorem forR_list {α σ ρ : Type} {body : α → σ → Option (σ ⊕ ρ)} (g : σ → α → σ) (I : σ → Prop) : ∀ (xs : List α) (s : σ), I s → (∀ x ∈ xs, ∀ s, I s → body x s = some (.inl (g s x)) ∧ I (g s x)) → forR body xs s = some (.inl (xs.foldl g s)) ∧ I (xs.foldl g s)
  | [], s, h, _ => ⟨forR_nil, h⟩
  | x :: xs, s, h, hs => by
    obtain ⟨e, i⟩ := hs x List.mem_cons_self s h
    rw [forR_cons, e]
    exact forR_list g I xs (g s x) i fun y hy => hs y (List.mem_cons_of_mem _ hy)
/-- an invariant alone -/
theorem forO_inv {α σ : Type} {body : α → σ → Option σ} (I : σ → Prop) : ∀ (xs : List α) (s : σ), I s → (∀ x ∈ xs, ∀ s, I s → ∃ s', body x s = some s' ∧ I s') → ∃ s', forO body xs s = some s' ∧ I s'
  | [], s, h, _ => ⟨s, forO_nil, h⟩
  | x :: xs, s, h, hs => by
    obtain ⟨s1, e, i⟩ := hs x List.mem_cons_self s h
    rw [forO_cons, e]
    exact forO_inv I xs s1 i fun y hy => hs y (List.mem_cons_of_mem _ hy)
theorem forR_inv {α σ ρ : Type} {body : α → σ → Option (σ ⊕ ρ)} (I : σ → Prop) : ∀ (xs : List α) (s : σ), I s → (∀ x ∈ xs, ∀ s, I s → ∃ s', body x s = some (.inl s') ∧ I s') → ∃ s', forR body xs s = some (.inl s') ∧ I s'
  | [], s, h, _ => ⟨s, forR_nil, h⟩
  | x :: xs, s, h, hs => by
    obtain ⟨s1, e, i⟩ := hs x List.mem_cons_self s h
    rw [forR_cons, e]
    exact forR_inv I xs s1 i fun y hy => hs y (List.mem_cons_of_mem _ hy)
theorem mod_nat (v : Int) {n : Nat} (h : 0 < n) : ∃ k : Nat, k < n ∧ v % (n : Int) = (k : Int) := by
  refine ⟨(v % (n : Int)).toNat, ?_, ?_⟩
  · have h1 := Int.emod_lt_of_pos v (show (0 : Int) < (n : Int) by omega)
    have h0 := Int.emod_nonneg v (show (n : Int) ≠ 0 by omega)
    omega
  · have h0 := Int.emod_nonneg v (show (n : Int) ≠ 0 by omega)
    omega
theorem cutI_mem {α : Type} {xs : List α} {lo hi : Option Int} {x : α} (h : x ∈ cutI xs lo hi) : x ∈ xs := List.mem_of_mem_drop (List.mem_of_mem_take h)
theorem cutI_len {α : Type} {xs : List α} {lo hi : Option Int} : (cutI xs lo hi).length ≤ xs.length := by
  unfold cutI
  rw [List.length_take, List.length_drop]
  omega
theorem setI_nat {α : Type} {xs : List α} {k : Nat} {v : α} (h : k < xs.length) : setI xs (k : Int) v = some (xs.set k v) := by
  unfold setI L2.ixN
  rw [if_pos (by omega), if_pos (by omega), Int.toNat_natCast]
  rfl
theorem atI_nat' {α : Type} {xs : List α} {k : Nat} (h : k < xs.length) : L2.atI xs (k : Int) = some xs[k] := L2.atI_nat (List.getElem?_eq_getElem h)
end B
namespace B
open PySem Z
theorem un2_mk {α β γ : Type} {f : α → β → γ} {a : α} {b : β} : un2 f (a, b) = f a b := rfl
theorem un3_mk {α β γ δ : Type} {f : α → β → γ → δ} {a : α} {b : β} {c : γ} : un3 f (a, b, c) = f a b c := rfl
theorem un4_mk {α β γ δ ε : Type} {f : α → β → γ → δ → ε} {a : α} {b : β} {c : γ} {d : δ} : un4 f (a, b, c, d) = f a b c d := rfl
theorem nt : (!true) = false := rfl
theorem nf : (!false) = true := rfl
end B
namespace B
open PySem Z
/-- s lies in the bar -/
def inB (a l s : Nat) : Bool := s &&& a == l
def liesB (a l s : Nat) : Bool := (List.range 6).all fun k => !(a.testBit k) || (s.testBit k == l.testBit k)
theorem liesB_eq {a l s : Nat} (ha : a < 64) (hl : l < 64) (h : l &&& a = l) : liesB a l s = inB a l s := by
  unfold liesB inB
  by_cases e : s &&& a = l
  · rw [show (s &&& a == l) = true by simp [e]]
    rw [List.all_eq_true]
    intro k _
    have q := congrArg (fun x => x.testBit k) e
    simp only [Nat.testBit_and] at q
    cases ha : a.testBit k <;> simp_all
  · rw [show (s &&& a == l) = false by simp [e]]
    by_cases z : ((List.range 6).all fun k => !(a.testBit k) || (s.testBit k == l.testBit k)) = true
    · exfalso
      apply e
      rw [List.all_eq_true] at z
      apply Nat.eq_of_testBit_eq
      intro k
      rw [Nat.testBit_and]
      by_cases hk : k < 6
      · have q := z k (List.mem_range.mpr hk)
        have r := congrArg (fun x => x.testBit k) h
        simp only [Nat.testBit_and] at r
        cases ha : a.testBit k <;> simp_all
      · have h64 : (64 : Nat) ≤ 2 ^ k := Nat.pow_le_pow_right (n := 2) (by decide) (show 6 ≤ k by omega)
        rw [Nat.testBit_lt_two_pow (show a < 2 ^ k by omega), Nat.testBit_lt_two_pow (show l < 2 ^ k by omega), Bool.and_false]
    · simpa using z
theorem inB_of {a l s : Nat} : inB a l s = (s &&& a == l) := rfl
theorem and_full {m s : Nat} (hs : s < 2 ^ m) : s &&& (2 ^ m - 1) = s := by rw [Nat.and_two_pow_sub_one_eq_mod, Nat.mod_eq_of_lt hs]
/-- a loop over a list, its passes counted -/
theorem forO_cnt {α σ : Type} {body : α → σ → Option σ} (I : Nat → σ → Prop) : ∀ (xs : List α) (j : Nat) (s : σ), I j s → (∀ x ∈ xs, ∀ k s, k < j + xs.length → I k s → ∃ s', body x s = some s' ∧ I (k + 1) s') → ∃ s', forO body xs s = some s' ∧ I (j + xs.length) s'
  | [], _, s, h, _ => ⟨s, forO_nil, h⟩
  | x :: xs, j, s, h, hs => by
    have hl : (x :: xs).length = xs.length + 1 := rfl
    obtain ⟨s1, e, i⟩ := hs x List.mem_cons_self j s (by omega) h
    rw [forO_cons, e]
    obtain ⟨s2, e2, i2⟩ := forO_cnt I xs (j + 1) s1 i fun y hy k s hk hI => hs y (List.mem_cons_of_mem _ hy) k s (by omega) hI
    refine ⟨s2, e2, ?_⟩
    have : j + 1 + xs.length = j + (x :: xs).length := by omega
    rw [← this]; exact i2
theorem forR_cnt {α σ ρ : Type} {body : α → σ → Option (σ ⊕ ρ)} (I : Nat → σ → Prop) : ∀ (xs : List α) (j : Nat) (s : σ), I j s → (∀ x ∈ xs, ∀ k s, k < j + xs.length → I k s → ∃ s', body x s = some (.inl s') ∧ I (k + 1) s') → ∃ s', forR body xs s = some (.inl s') ∧ I (j + xs.length) s'
  | [], _, s, h, _ => ⟨s, forR_nil, h⟩
  | x :: xs, j, s, h, hs => by
    have hl : (x :: xs).length = xs.length + 1 := rfl
    obtain ⟨s1, e, i⟩ := hs x List.mem_cons_self j s (by omega) h
    rw [forR_cons, e]
    obtain ⟨s2, e2, i2⟩ := forR_cnt I xs (j + 1) s1 i fun y hy k s hk hI => hs y (List.mem_cons_of_mem _ hy) k s (by omega) hI
    refine ⟨s2, e2, ?_⟩
    have : j + 1 + xs.length = j + (x :: xs).length := by omega
    rw [← this]; exact i2
theorem ifo_nt {α : Type} {m n : Option α} : ifo (!true) m n = n := ifo_f rfl
theorem ifo_nf {α : Type} {m n : Option α} : ifo (!false) m n = m := ifo_t rfl
theorem ifo_tt {α : Type} {m n : Option α} : ifo true m n = m := ifo_t rfl
theorem ifo_ff {α : Type} {m n : Option α} : ifo false m n = n := ifo_f rfl
theorem sb {α β : Type} {a : α} {k : α → Option β} : (some a).bind k = k a := rfl
theorem one_and (n : Nat) : 1 &&& n = n % 2 := by rw [Nat.and_comm, Nat.and_one_is_mod]
end B

namespace B
open PySem Z L2
/-! ### the least bit -/
theorem neg_nat {c : Nat} (h : 0 < c) : (-(c : Int)) = bnot ((c - 1 : Nat) : Int) := by
  show _ = Builtin.bitNot _
  unfold Builtin.bitNot
  omega
theorem low_nat {c : Nat} (h : 0 < c) : band (c : Int) (-(c : Int)) = ((andn c (c - 1) : Nat) : Int) := by rw [neg_nat h, bandn_nat]
theorem tb_zero (c : Nat) : c.testBit 0 = decide (c % 2 = 1) := Nat.testBit_zero c
/-- there is a least bit -/
theorem least_bit : ∀ (c : Nat), 0 < c → ∃ k, c.testBit k = true ∧ (∀ i, i < k → c.testBit i = false) ∧ andn c (c - 1) = 2 ^ k := by
  intro c
  induction c using Nat.strongRecOn with
  | ind c ih =>
    intro h
    by_cases hp : c % 2 = 1
    · refine ⟨0, by rw [tb_zero, decide_eq_true hp], fun i hi => by omega, Nat.eq_of_testBit_eq fun i => ?_⟩
      rw [testBit_andn]
      cases i with
      | zero =>
        rw [tb_zero, tb_zero, decide_eq_true hp, decide_eq_false (by omega)]; rfl
      | succ i =>
        rw [Nat.testBit_succ, Nat.testBit_succ, show (c - 1) / 2 = c / 2 by omega, Nat.testBit_two_pow]
        rw [decide_eq_false (by omega)]
        cases (c / 2).testBit i <;> rfl
    · have h2 : 0 < c / 2 := by omega
      obtain ⟨k, k1, k2, k3⟩ := ih (c / 2) (by omega) h2
      refine ⟨k + 1, by rw [Nat.testBit_succ]; exact k1, fun i hi => ?_, Nat.eq_of_testBit_eq fun i => ?_⟩
      · cases i with
        | zero => rw [tb_zero, decide_eq_false hp]
        | succ i => rw [Nat.testBit_succ]; exact k2 i (by omega)
      · rw [testBit_andn]
        cases i with
        | zero =>
          rw [tb_zero, decide_eq_false hp, Nat.testBit_two_pow, decide_eq_false (by omega)]; rfl
        | succ i =>
          have e := congrArg (fun n => n.testBit i) k3
          simp only [testBit_andn, Nat.testBit_two_pow] at e
          rw [Nat.testBit_succ, Nat.testBit_succ, show (c - 1) / 2 = c / 2 - 1 by omega, e, Nat.testBit_two_pow]
          exact decide_eq_decide.mpr (by omega)
theorem blen_pow (k : Nat) : blen ((2 ^ k : Nat) : Int) = ((k + 1 : Nat) : Int) := by
  unfold blen Builtin.Int.intBits
  have h : ((((2 ^ k : Nat) : Int)) == 0) = false := by
    have := Nat.two_pow_pos k
    exact beq_eq_false_iff_ne.mpr (by omega)
  rw [h]
  show (((((2 ^ k : Nat) : Int).natAbs.log2 + 1 : Nat)) : Int) = _
  rw [Int.natAbs_natCast, Nat.log2_two_pow]
/-- the places of the bits, rising -/
def bitsL (n c : Nat) : List Nat := (List.range n).filter fun i => c.testBit i
theorem bitsL_zero (n : Nat) : bitsL n 0 = [] := by
  unfold bitsL
  rw [List.filter_eq_nil_iff]
  intro i _
  rw [Nat.zero_testBit]; exact Bool.false_ne_true
theorem mem_bitsL {n c i : Nat} : i ∈ bitsL n c ↔ i < n ∧ c.testBit i = true := by
  unfold bitsL
  rw [List.mem_filter, List.mem_range]
theorem bitsL_len (n c : Nat) : (bitsL n c).length ≤ n := by
  have := List.length_filter_le (fun i => c.testBit i) (List.range n)
  rwa [List.length_range] at this
theorem bitsL_cons {n c k : Nat} (hk : k < n) (h1 : c.testBit k = true) (h2 : ∀ i, i < k → c.testBit i = false) : bitsL n c = k :: bitsL n (c ^^^ 2 ^ k) := by
  have key : ∀ (p q : Nat → Bool) (m a : Nat), a ≤ k → k < a + m → p k = true → q k = false → (∀ i, i ≠ k → p i = q i) → (∀ i, i < k → p i = false) → (List.range' a m).filter p = k :: (List.range' a m).filter q := by
    intro p q m
    induction m with
    | zero => intro a h1 h2; omega
    | succ m ih =>
      intro a ha hm pk qk hpq hlo
      rw [List.range'_succ, List.filter_cons, List.filter_cons]
      by_cases e : a = k
      · subst e
        rw [if_pos pk, if_neg (by rw [qk]; exact Bool.false_ne_true)]
        congr 1
        apply List.filter_congr
        intro x hx
        rw [List.mem_range'_1] at hx
        exact hpq x (by omega)
      · have hlt : a < k := by omega
        rw [if_neg (by rw [hlo a hlt]; exact Bool.false_ne_true), if_neg (by rw [← hpq a e, hlo a hlt]; exact Bool.false_ne_true)]
        exact ih (a + 1) (by omega) (by omega) pk qk hpq hlo
  unfold bitsL
  rw [List.range_eq_range']
  refine key _ _ n 0 (by omega) (by omega) h1 ?_ (fun i hi => ?_) h2
  · rw [Nat.testBit_xor, Nat.testBit_two_pow, h1, decide_eq_true rfl]; rfl
  · rw [Nat.testBit_xor, Nat.testBit_two_pow, decide_eq_false (fun e => hi e.symm), Bool.xor_false]
theorem tb_lt {m a i : Nat} (h : a < 2 ^ m) (hi : a.testBit i = true) : i < m := by
  by_cases q : i < m
  · exact q
  · rw [Nat.testBit_lt_two_pow (Nat.lt_of_lt_of_le h (Nat.pow_le_pow_right (by decide) (by omega)))] at hi
    cases hi
theorem xor_lt {m a b : Nat} (ha : a < 2 ^ m) (hb : b < 2 ^ m) : a ^^^ b < 2 ^ m := Nat.xor_lt_two_pow ha hb
theorem bigN_eq' : bigN = 1000000 := Z.bigN_eq
/-! ### tables: lists told by a function -/
def zL (xs : List Nat) : List Int := xs.map fun (n : Nat) => (n : Int)
def tab (n : Nat) (f : Nat → Nat) : List Int := (List.range n).map fun i => ((f i : Nat) : Int)
theorem tab_len (n : Nat) (f : Nat → Nat) : (tab n f).length = n := by unfold tab; rw [List.length_map, List.length_range]
theorem tab_ext {n : Nat} {f g : Nat → Nat} (h : ∀ i, i < n → f i = g i) : tab n f = tab n g := by
  unfold tab
  apply List.map_congr_left
  intro i hi
  rw [h i (List.mem_range.mp hi)]
theorem tab_get {n : Nat} {f : Nat → Nat} {i : Nat} (h : i < n) : (tab n f)[i]? = some ((f i : Nat) : Int) := by
  unfold tab
  rw [List.getElem?_map, List.getElem?_range h]; rfl
theorem atI_tab {n : Nat} {f : Nat → Nat} {i : Nat} (h : i < n) : L2.atI (tab n f) (i : Int) = some ((f i : Nat) : Int) := L2.atI_nat (tab_get h)
def fup (f : Nat → Nat) (k v : Nat) : Nat → Nat := fun i => if i = k then v else f i
theorem tab_set {n : Nat} {f : Nat → Nat} {k v : Nat} : (tab n f).set k (v : Int) = tab n (fup f k v) := by
  apply List.ext_getElem?
  intro i
  rw [List.getElem?_set]
  by_cases hi : i < n
  · by_cases hk : k = i
    · subst hk
      rw [if_pos rfl, tab_len, if_pos hi, tab_get hi]
      unfold fup; rw [if_pos rfl]
    · rw [if_neg hk, tab_get hi, tab_get hi]
      unfold fup; rw [if_neg (fun e => hk e.symm)]
  · have e1 : (tab n f)[i]? = none := List.getElem?_eq_none (by rw [tab_len]; omega)
    have e2 : (tab n (fup f k v))[i]? = none := List.getElem?_eq_none (by rw [tab_len]; omega)
    rw [e1, e2]
    by_cases hk : k = i
    · subst hk; rw [if_pos rfl, tab_len, if_neg hi]
    · rw [if_neg hk]
theorem setI_tab {n : Nat} {f : Nat → Nat} {k v : Nat} (h : k < n) : setI (tab n f) (k : Int) (v : Int) = some (tab n (fup f k v)) := by
  rw [setI_nat (by rw [tab_len]; exact h), tab_set]
theorem mem_tab {n : Nat} {f : Nat → Nat} {x : Int} (h : x ∈ tab n f) : ∃ i, i < n ∧ x = ((f i : Nat) : Int) := by
  unfold tab at h
  rw [List.mem_map] at h
  obtain ⟨i, h1, h2⟩ := h
  exact ⟨i, List.mem_range.mp h1, h2.symm⟩
theorem mem_rangeI {n : Nat} {x : Int} : x ∈ rangeI 0 n → ∃ k : Nat, k < n ∧ x = (k : Int) := by
  intro h
  unfold rangeI at h
  rw [List.mem_map] at h
  obtain ⟨k, h1, h2⟩ := h
  exact ⟨k, List.mem_range.mp h1, by omega⟩
theorem rangeI_len {lo : Int} {n : Nat} : (rangeI lo n).length = n := by unfold rangeI; rw [List.length_map, List.length_range]
theorem rangeI_tab (n : Nat) : rangeI 0 n = tab n id := by
  unfold rangeI tab
  apply List.map_congr_left
  intro i _
  show (0 : Int) + (i : Int) = ((id i : Nat) : Int)
  rw [Int.zero_add]; rfl
theorem comp_const {α : Type} {xs : List α} {c : Int} (h : xs.length ≤ 16777216) : compO (fun _ => some (some c)) xs = some (xs.map fun _ => c) := by
  rw [compO_eq (g := fun _ => some c) h fun _ _ => rfl]
  congr 1
  clear h
  induction xs with
  | nil => rfl
  | cons x xs ih => rw [List.filterMap_cons, ih]; rfl
theorem map_zero_tab {α : Type} (xs : List α) {n : Nat} (h : xs.length = n) : (xs.map fun _ => (0 : Int)) = tab n fun _ => 0 := by
  subst h
  unfold tab
  induction xs with
  | nil => rfl
  | cons x xs ih =>
    rw [List.length_cons, List.range_succ_eq_map, List.map_cons, List.map_cons, List.map_map]
    rw [ih]
    rfl
theorem comp_zero {n : Nat} (h : n ≤ 16777216) : compO (fun _ => some (some 0)) (rangeI 0 n) = some (tab n fun _ => 0) := by
  rw [comp_const (by rw [rangeI_len]; exact h), map_zero_tab _ rangeI_len]
theorem comp_zeroL {xs : List Int} {n : Nat} (hl : xs.length = n) (h : n ≤ 16777216) : compO (fun _ => some (some 0)) xs = some (tab n fun _ => 0) := by
  rw [comp_const (by omega), map_zero_tab _ hl]
theorem tab_rev (n : Nat) (f : Nat → Nat) : (tab n f).reverse = tab n fun i => f (n - 1 - i) := by
  apply List.ext_getElem?
  intro i
  by_cases hi : i < n
  · rw [List.getElem?_reverse (by rw [tab_len]; exact hi), tab_len, tab_get (by omega), tab_get hi]
  · rw [List.getElem?_eq_none (by rw [List.length_reverse, tab_len]; omega), List.getElem?_eq_none (by rw [tab_len]; omega)]
theorem enumI_tab (n : Nat) (f : Nat → Nat) : enumI (tab n f) = (List.range n).map fun (i : Nat) => ((i : Int), ((f i : Nat) : Int)) := by
  apply List.ext_getElem?
  intro i
  unfold enumI
  by_cases hi : i < n
  · have := enumF_get (tab n f) 0 i _ (tab_get hi)
    rw [this, List.getElem?_map, List.getElem?_range hi, Nat.zero_add]; rfl
  · rw [List.getElem?_eq_none (by rw [enumF_len, tab_len]; omega), List.getElem?_eq_none (by rw [List.length_map, List.length_range]; omega)]
/-- a loop over the places below n, told as a list -/
theorem forO_map {α σ : Type} {body : α → σ → Option σ} {g : Nat → α} (I : Nat → σ → Prop) : ∀ (n : Nat) (s : σ), I 0 s → (∀ i s, i < n → I i s → ∃ s', body (g i) s = some s' ∧ I (i + 1) s') → ∃ s', forO body ((List.range n).map g) s = some s' ∧ I n s' := by
  have key : ∀ (n a : Nat) (s : σ), I a s → (∀ i s, a ≤ i → i < a + n → I i s → ∃ s', body (g i) s = some s' ∧ I (i + 1) s') → ∃ s', forO body ((List.range' a n).map g) s = some s' ∧ I (a + n) s' := by
    intro n
    induction n with
    | zero => intro a s h _; exact ⟨s, forO_nil, h⟩
    | succ n ih =>
      intro a s h hs
      obtain ⟨s1, e1, i1⟩ := hs a s (Nat.le_refl _) (by omega) h
      obtain ⟨s2, e2, i2⟩ := ih (a + 1) s1 i1 fun i s ha hi hI => hs i s (by omega) (by omega) hI
      refine ⟨s2, ?_, by rw [show a + (n + 1) = a + 1 + n by omega]; exact i2⟩
      rw [List.range'_succ, List.map_cons, forO_cons, e1]
      exact e2
  intro n s h hs
  obtain ⟨s', e, i⟩ := key n 0 s h fun i s _ hi hI => hs i s (by omega) hI
  rw [Nat.zero_add] at i
  exact ⟨s', by rw [List.range_eq_range']; exact e, i⟩
/-- a loop that asks the same of each, and passes -/
theorem forO_pass {α : Type} {body : α → Unit → Option Unit} : ∀ {xs : List α}, (∀ x ∈ xs, body x () = some ()) → forO body xs () = some ()
  | [], _ => forO_nil
  | x :: xs, h => by
    rw [forO_cons, h x List.mem_cons_self]
    exact forO_pass fun y hy => h y (List.mem_cons_of_mem _ hy)
theorem forR_pass {α ρ : Type} {body : α → Unit → Option (Unit ⊕ ρ)} : ∀ {xs : List α}, (∀ x ∈ xs, body x () = some (.inl ())) → forR body xs () = some (.inl ())
  | [], _ => forR_nil
  | x :: xs, h => by
    rw [forR_cons, h x List.mem_cons_self]
    exact forR_pass fun y hy => h y (List.mem_cons_of_mem _ hy)
theorem mask_or (i : Nat) (p : Nat → Bool) : mask i p ||| 2 ^ i = mask i p + 2 ^ i := by
  have h := mask_lt i p
  have e : mask i p + 2 ^ i = mask (i + 1) (fun j => if j = i then true else p j) := by
    rw [mask_succ, if_pos (by rw [if_pos rfl])]
    congr 1
    exact mask_congr fun j hj => by rw [if_neg (by omega)]
  rw [e]
  refine mask_ext (Nat.or_lt_two_pow (Nat.lt_of_lt_of_le h (Nat.pow_le_pow_right (by decide) (by omega))) (Nat.pow_lt_pow_right (by decide) (by omega))) fun j hj => ?_
  rw [Nat.testBit_or, testBit_mask, Nat.testBit_two_pow]
  by_cases e : j = i
  · subst e
    rw [if_pos rfl, decide_eq_true rfl, Bool.or_true]
  · rw [if_neg e, decide_eq_true (by omega), decide_eq_false (fun q => e q.symm), Bool.true_and, Bool.or_false]
/-- joined crowds -/
def orAll (f : Nat → Nat) : List Nat → Nat
  | [] => 0
  | x :: xs => f x ||| orAll f xs
theorem testBit_orAll (f : Nat → Nat) (i : Nat) : ∀ xs : List Nat, (orAll f xs).testBit i = xs.any fun x => (f x).testBit i
  | [] => by unfold orAll; rw [Nat.zero_testBit]; rfl
  | x :: xs => by
    unfold orAll
    rw [Nat.testBit_or, testBit_orAll f i xs, List.any_cons]
theorem orAll_lt {n : Nat} {f : Nat → Nat} : ∀ {xs : List Nat}, (∀ x ∈ xs, f x < 2 ^ n) → orAll f xs < 2 ^ n
  | [], _ => Nat.two_pow_pos n
  | x :: xs, h => Nat.or_lt_two_pow (h x List.mem_cons_self) (orAll_lt fun y hy => h y (List.mem_cons_of_mem _ hy))
theorem any_bitsL {n c : Nat} {p : Nat → Bool} : (bitsL n c).any p = (List.range n).any fun i => c.testBit i && p i := by
  unfold bitsL
  rw [List.any_filter]
theorem orAll_app (f : Nat → Nat) : ∀ xs ys : List Nat, orAll f (xs ++ ys) = orAll f xs ||| orAll f ys
  | [], ys => (Nat.zero_or _).symm
  | x :: xs, ys => by
    show f x ||| orAll f (xs ++ ys) = f x ||| orAll f xs ||| orAll f ys
    rw [orAll_app f xs ys, Nat.or_assoc]
theorem bitsL_succ (k c : Nat) : bitsL (k + 1) c = bitsL k c ++ if c.testBit k = true then [k] else [] := by
  unfold bitsL
  rw [List.range_succ, List.filter_append]
  congr 1
  rw [List.filter_cons]
  rfl
theorem and1_testBit (a k : Nat) : decide (((a >>> k &&& 1 : Nat) : Int) = 1) = a.testBit k := by
  rw [Nat.testBit, Nat.and_comm]
  have : (1 &&& a >>> k) = 0 ∨ (1 &&& a >>> k) = 1 := by
    rw [one_and]; omega
  rcases this with h | h <;> rw [h] <;> rfl
theorem asks1 (a k : Nat) : decide (band (shr (a : Int) (k : Int)) 1 = 1) = a.testBit k := by
  have o1 : ((1 : Nat) : Int) = 1 := rfl
  rw [shr_nat, ← o1, band_nat, o1, and1_testBit]
theorem pow_lt2 {k n : Nat} (h : k < n) : 2 ^ k < 2 ^ n := Nat.pow_lt_pow_right (by decide) h
theorem le64 {m : Nat} (hm : m ≤ 6) : 2 ^ m ≤ 64 := Nat.pow_le_pow_right (n := 2) (by decide) hm
/-! ### parts of lists -/
theorem cutI_from {α : Type} (xs : List α) (k : Nat) : cutI xs (some (k : Int)) none = xs.drop k := by
  unfold cutI
  rw [HT.sIx_nat, HT.sIx_none]
  by_cases h : k ≤ xs.length
  · rw [Nat.min_eq_left h, List.take_of_length_le (Nat.le_of_eq List.length_drop)]
  · rw [Nat.min_eq_right (by omega), List.drop_length, List.drop_eq_nil_of_le (i := k) (by omega), List.take_nil]
theorem cutI_to {α : Type} (xs : List α) (k : Nat) : cutI xs none (some (k : Int)) = xs.take k := by
  unfold cutI
  rw [HT.sIx_nat, HT.sIx_none, List.drop_zero, Nat.sub_zero]
  by_cases h : k ≤ xs.length
  · rw [Nat.min_eq_left h]
  · rw [Nat.min_eq_right (by omega), List.take_of_length_le (Nat.le_refl _), List.take_of_length_le (by omega)]
theorem cutI_init {α : Type} (xs : List α) : cutI xs none (some (-1)) = xs.dropLast := by
  unfold cutI
  rw [HT.sIx_none, List.drop_zero, Nat.sub_zero]
  have e : HT.sIx xs.length xs.length (some (-1)) = xs.length - 1 := by
    show (if (-1 : Int) < 0 then ((-1 : Int) + (xs.length : Int)).toNat else min (-1 : Int).toNat xs.length) = _
    rw [if_pos (by decide)]
    omega
  rw [e, List.dropLast_eq_take]
theorem atI_end {α : Type} {xs : List α} (h : xs ≠ []) : L2.atI xs (-1) = some (xs.getLast h) := by
  have e : xs = xs.dropLast ++ [xs.getLast h] := (List.dropLast_concat_getLast h).symm
  have := L2.atI_last xs.dropLast (xs.getLast h)
  rw [← e] at this
  exact this
theorem zL_len (xs : List Nat) : (zL xs).length = xs.length := by unfold zL; rw [List.length_map]
theorem atI_zL {xs : List Nat} {k : Nat} (h : k < xs.length) : L2.atI (zL xs) (k : Int) = some ((xs[k] : Nat) : Int) := by
  rw [atI_nat' (by rw [zL_len]; exact h)]
  unfold zL
  rw [List.getElem_map]
theorem atI_zLend {xs : List Nat} (h : xs ≠ []) : L2.atI (zL xs) (-1) = some ((xs.getLast h : Nat) : Int) := by
  have h' : zL xs ≠ [] := fun e => h (by unfold zL at e; exact List.map_eq_nil_iff.mp e)
  rw [atI_end h']
  exact congrArg some (List.getLast_map (f := fun (n : Nat) => (n : Int)) (l := xs) h')
theorem mem_zL {xs : List Nat} {x : Int} (h : x ∈ zL xs) : ∃ k, k ∈ xs ∧ x = (k : Int) := by
  unfold zL at h
  rw [List.mem_map] at h
  obtain ⟨k, h1, h2⟩ := h
  exact ⟨k, h1, h2.symm⟩
theorem zL_of {xs : List Int} {N : Nat} (h : ∀ x ∈ xs, ∃ k : Nat, k < N ∧ x = (k : Int)) : ∃ ws : List Nat, (∀ w ∈ ws, w < N) ∧ xs = zL ws := by
  induction xs with
  | nil => exact ⟨[], fun _ h => (by cases h), rfl⟩
  | cons x xs ih =>
    obtain ⟨k, hk, rfl⟩ := h x List.mem_cons_self
    obtain ⟨ws, h1, rfl⟩ := ih fun y hy => h y (List.mem_cons_of_mem _ hy)
    refine ⟨k :: ws, fun w hw => ?_, rfl⟩
    rcases List.mem_cons.mp hw with rfl | hw
    · exact hk
    · exact h1 w hw
/-! ### loops that ask -/
theorem forR_allL {α ρ : Type} {body : α → Unit → Option (Unit ⊕ ρ)} {v : ρ} (p : α → Bool) : ∀ {xs : List α}, (∀ x ∈ xs, body x () = some (if p x = true then .inl () else .inr v)) →
    forR body xs () = some (if xs.all p = true then .inl () else .inr v)
  | [], _ => by rw [forR_nil]; rfl
  | x :: xs, h => by
    rw [forR_cons, h x List.mem_cons_self, List.all_cons]
    cases p x with
    | false => rfl
    | true =>
      show forR body xs () = _
      rw [forR_allL p fun y hy => h y (List.mem_cons_of_mem _ hy)]
      rw [Bool.true_and]
theorem brk_if {ρ : Type} {b : Bool} {v : ρ} {k : Unit → Option ρ} : brk (some (if b = true then Sum.inl () else Sum.inr v)) k = if b = true then k () else some v := by
  cases b <;> rfl
theorem brk_eq {σ ρ : Type} {m n : Option (σ ⊕ ρ)} {k : σ → Option ρ} (h : m = n) : brk m k = brk n k := by rw [h]
theorem comp_map {α β : Type} {xs : List α} {f : α → Option (Option β)} {g : α → β} (hl : xs.length ≤ 16777216) (h : ∀ x ∈ xs, f x = some (some (g x))) : compO f xs = some (xs.map g) := by
  rw [compO_eq (g := fun x => some (g x)) hl h]
  congr 1
  clear h hl
  induction xs with
  | nil => rfl
  | cons x xs ih => rw [List.filterMap_cons, ih]; rfl
theorem tb_shr (a k : Nat) : decide (band (shr (a : Int) (k : Int)) 1 = 0) = !a.testBit k := by
  have h := asks1 a k
  have e : ∀ x : Nat, decide (((x &&& 1 : Nat) : Int) = 0) = !decide (((x &&& 1 : Nat) : Int) = 1) := fun x => by
    have : x &&& 1 = x % 2 := Nat.and_one_is_mod x
    rw [this, ← decide_not]
    exact decide_eq_decide.mpr (by omega)
  have o1 : ((1 : Nat) : Int) = 1 := rfl
  rw [shr_nat, ← o1, band_nat, o1] at h
  rw [shr_nat, ← o1, band_nat, e, h]
theorem tb_div (a k : Nat) : ((a : Int) / ((2 ^ k : Nat) : Int)) % 2 = if a.testBit k = true then 1 else 0 := by
  have e : ((a : Int) / ((2 ^ k : Nat) : Int)) % 2 = ((a / 2 ^ k % 2 : Nat) : Int) := by omega
  rw [e, Nat.testBit_eq_decide_div_mod_eq]
  by_cases h : a / 2 ^ k % 2 = 1
  · rw [h, if_pos (by rw [decide_eq_true rfl])]; rfl
  · rw [if_neg (by rw [decide_eq_false h]; exact Bool.false_ne_true)]; omega
theorem tb_div0 (a k : Nat) : decide (((a : Int) / ((2 ^ k : Nat) : Int)) % 2 = 0) = !a.testBit k := by rw [tb_div]; cases a.testBit k <;> rfl
theorem tb_div1 (a k : Nat) : decide (((a : Int) / ((2 ^ k : Nat) : Int)) % 2 = 1) = a.testBit k := by rw [tb_div]; cases a.testBit k <;> rfl
theorem pow_200 {k : Nat} (h : k < 200) : 2 ^ k < 2 ^ 200 := pow_lt2 h
theorem bitsL_pow {n k : Nat} (h : k < n) : bitsL n (2 ^ k) = [k] := by
  have := bitsL_cons (n := n) (c := 2 ^ k) h (by rw [Nat.testBit_two_pow, decide_eq_true rfl]) fun i hi => by rw [Nat.testBit_two_pow, decide_eq_false (by omega)]
  rw [this, Nat.xor_self, bitsL_zero]
theorem orAll_one (f : Nat → Nat) (k : Nat) : orAll f [k] = f k := Nat.or_zero _
theorem fup_lt {n N : Nat} {f : Nat → Nat} {k v : Nat} (hf : ∀ s, s < n → f s < N) (hv : v < N) : ∀ s, s < n → fup f k v s < N := fun s hs => by
  unfold fup
  by_cases e : s = k
  · rw [if_pos e]; exact hv
  · rw [if_neg e]; exact hf s hs
theorem andn_lt {m a b : Nat} (h : a < 2 ^ m) : andn a b < 2 ^ m := by
  unfold andn
  exact xor_lt h (Nat.lt_of_le_of_lt Nat.and_le_left h)
/-! ### how many bits -/
def cnt : Nat → Nat → Nat
  | 0, _ => 0
  | n + 1, c => cnt n c + if c.testBit n = true then 1 else 0
theorem cnt_le : ∀ (n c : Nat), cnt n c ≤ n
  | 0, _ => Nat.le_refl _
  | n + 1, c => by
    have := cnt_le n c
    unfold cnt
    split <;> omega
theorem cnt_mono {a b : Nat} (h : ∀ i, a.testBit i = true → b.testBit i = true) : ∀ n, cnt n a ≤ cnt n b
  | 0 => Nat.le_refl _
  | n + 1 => by
    have := cnt_mono h n
    unfold cnt
    by_cases q : a.testBit n = true
    · rw [if_pos q, if_pos (h n q)]; omega
    · rw [if_neg q]; split <;> omega
theorem cnt_lt {a b : Nat} (h : ∀ i, a.testBit i = true → b.testBit i = true) {k : Nat} (ka : a.testBit k = false) (kb : b.testBit k = true) : ∀ n, k < n → cnt n a < cnt n b
  | 0, hk => by omega
  | n + 1, hk => by
    unfold cnt
    by_cases e : k = n
    · subst e
      have := cnt_mono h k
      rw [if_neg (by rw [ka]; exact Bool.false_ne_true), if_pos kb]; omega
    · have := cnt_lt h ka kb n (by omega)
      by_cases q : a.testBit n = true
      · rw [if_pos q, if_pos (h n q)]; omega
      · rw [if_neg q]; split <;> omega
theorem cnt_grow {n a b : Nat} (hb : b < 2 ^ n) (h : ∀ i, a.testBit i = true → b.testBit i = true) (ne : b ≠ a) : cnt n a < cnt n b := by
  have : ∃ k, a.testBit k = false ∧ b.testBit k = true := Classical.byContradiction fun hn => ne (Nat.eq_of_testBit_eq fun i => by
    cases ea : a.testBit i with
    | true => exact h i ea
    | false =>
      cases eb : b.testBit i with
      | false => rfl
      | true => exact absurd ⟨i, ea, eb⟩ hn)
  obtain ⟨k, k1, k2⟩ := this
  exact cnt_lt h k1 k2 n (tb_lt hb k2)
/-! ### the flood, layer by layer -/
/-- a crowd and all to which a step leads from it -/
def nxt (n : Nat) (f : Nat → Nat) (c : Nat) : Nat := c ||| orAll f (bitsL n c)
theorem nxt_lt {n N : Nat} {f : Nat → Nat} (hf : ∀ s, s < n → f s < 2 ^ N) {c : Nat} (hc : c < 2 ^ N) : nxt n f c < 2 ^ N := Nat.or_lt_two_pow hc (orAll_lt fun x hx => hf x (mem_bitsL.mp hx).1)
theorem nxt_sub (n : Nat) (f : Nat → Nat) (c i : Nat) (h : c.testBit i = true) : (nxt n f c).testBit i = true := by
  unfold nxt
  rw [Nat.testBit_or, h]; rfl
def layF (n : Nat) (f : Nat → Nat) : Nat → Nat → List Nat
  | 0, c => [c]
  | k + 1, c => if nxt n f c = c then [c] else c :: layF n f k (nxt n f c)
/-- layers -/
def Lay (n : Nat) (f : Nat → Nat) : List Nat → Prop
  | [] => False
  | [c] => nxt n f c = c
  | c :: d :: l => d = nxt n f c ∧ d ≠ c ∧ Lay n f (d :: l)
theorem layF_head (n : Nat) (f : Nat → Nat) (k c : Nat) : ∃ l, layF n f k c = c :: l := by
  cases k with
  | zero => exact ⟨[], rfl⟩
  | succ k =>
    unfold layF
    split
    · exact ⟨[], rfl⟩
    · exact ⟨_, rfl⟩
theorem layF_lay {n : Nat} {f : Nat → Nat} (hf : ∀ s, s < n → f s < 2 ^ n) : ∀ (k c : Nat), c < 2 ^ n → n < cnt n c + k → Lay n f (layF n f k c)
  | 0, c, _, hk => by have := cnt_le n c; omega
  | k + 1, c, hc, hk => by
    unfold layF
    by_cases e : nxt n f c = c
    · rw [if_pos e]; exact e
    · rw [if_neg e]
      have hl := nxt_lt hf hc
      have g := cnt_grow hl (nxt_sub n f c) e
      obtain ⟨l, el⟩ := layF_head n f k (nxt n f c)
      have ih := layF_lay hf k (nxt n f c) hl (by omega)
      rw [el] at ih ⊢
      exact ⟨rfl, e, ih⟩
theorem layF_lt {n : Nat} {f : Nat → Nat} (hf : ∀ s, s < n → f s < 2 ^ n) : ∀ (k c : Nat), c < 2 ^ n → ∀ x ∈ layF n f k c, x < 2 ^ n
  | 0, c, hc, x, hx => by rw [List.mem_singleton.mp hx]; exact hc
  | k + 1, c, hc, x, hx => by
    unfold layF at hx
    split at hx
    · rw [List.mem_singleton.mp hx]; exact hc
    · rcases List.mem_cons.mp hx with rfl | hx
      · exact hc
      · exact layF_lt hf k _ (nxt_lt hf hc) x hx
theorem layF_len (n : Nat) (f : Nat → Nat) : ∀ (k c : Nat), (layF n f k c).length ≤ k + 1
  | 0, c => Nat.le_refl _
  | k + 1, c => by
    have := layF_len n f k (nxt n f c)
    unfold layF
    split
    · show 1 ≤ _; omega
    · rw [List.length_cons]; omega
theorem Lay.at {n : Nat} {f : Nat → Nat} : ∀ {L : List Nat}, Lay n f L → ∀ k, (h : k + 1 < L.length) → L[k + 1] = nxt n f L[k] ∧ L[k + 1] ≠ L[k]
  | [], h, _, _ => h.elim
  | [c], _, k, h => by simp at h
  | c :: d :: l, h, 0, _ => ⟨h.1, h.2.1⟩
  | c :: d :: l, h, k + 1, hk => Lay.at (L := d :: l) h.2.2 k (by simpa using hk)
theorem Lay.last {n : Nat} {f : Nat → Nat} : ∀ {L : List Nat}, Lay n f L → (hn : L ≠ []) → nxt n f (L.getLast hn) = L.getLast hn
  | [], h, _ => h.elim
  | [c], h, _ => h
  | c :: d :: l, h, _ => by
    rw [List.getLast_cons_cons]
    exact Lay.last (L := d :: l) h.2.2 _
theorem zL_tab (ws : List Nat) : zL ws = tab ws.length fun i => ws.getD i 0 := by
  apply List.ext_getElem?
  intro i
  by_cases hi : i < ws.length
  · have g : ws.getD i 0 = ws[i] := by rw [List.getD_eq_getElem?_getD, List.getElem?_eq_getElem hi]; rfl
    rw [tab_get hi, g]
    unfold zL
    rw [List.getElem?_map, List.getElem?_eq_getElem hi]; rfl
  · rw [List.getElem?_eq_none (by rw [zL_len]; omega), List.getElem?_eq_none (by rw [tab_len]; omega)]
theorem tab_of {xs : List Int} {n N : Nat} (hl : xs.length = n) (h : ∀ x ∈ xs, ∃ k : Nat, k < N ∧ x = (k : Int)) : ∃ f : Nat → Nat, (∀ s, s < n → f s < N) ∧ xs = tab n f := by
  obtain ⟨ws, h1, rfl⟩ := zL_of h
  rw [zL_len] at hl
  subst hl
  refine ⟨fun i => ws.getD i 0, fun s hs => ?_, zL_tab ws⟩
  show ws.getD s 0 < N
  rw [List.getD_eq_getElem?_getD, List.getElem?_eq_getElem hs]
  exact h1 _ (List.getElem_mem hs)
/-! ### ranges with a step -/
theorem rsize_le {i j c : Int} (h : 0 < c) : Builtin.Range.rangeSize i j c ≤ (if i < j then j - i else 0) := by
  unfold Builtin.Range.rangeSize
  rw [if_pos h]
  split
  · have : (j - i - 1) / c ≤ j - i - 1 := Int.ediv_le_self _ (by omega)
    omega
  · omega
theorem gR3_of {i j c : Int} (h1 : 0 ≤ i) (h2 : i ≤ 1000000) (h3 : 0 ≤ j) (h4 : j ≤ 1000000) (h5 : 0 < c) (h6 : c ≤ 1000000) : gR3 i j c := by
  refine ⟨h5, by omega, ?_⟩
  have a := rsize_nn (i := i) (j := j) h5
  have b := rsize_le (i := i) (j := j) h5
  unfold Builtin.Range.small
  obtain ⟨n, hn⟩ : ∃ n, n = Builtin.Range.rangeSize i j c := ⟨_, rfl⟩
  rw [← hn] at a b ⊢
  have hb : n ≤ 1000000 := by split at b <;> omega
  rw [if_pos (show c > 0 from h5)]
  simp only [Builtin.Range.rangeFitsLong, Bool.and_eq_true, Bool.or_eq_true, decide_eq_true_eq, beq_iff_eq]
  exact ⟨by omega, .inr (by omega)⟩
theorem mem_rangeS {i j c x : Int} (hc : 0 < c) (h : x ∈ rangeS i j c) : i ≤ x ∧ x < j := by
  unfold rangeS at h
  rw [List.mem_map] at h
  obtain ⟨k, hk, rfl⟩ := h
  rw [List.mem_range] at hk
  have h0 := Int.mul_nonneg (show (0 : Int) ≤ (k : Int) by omega) (show (0 : Int) ≤ c by omega)
  refine ⟨by omega, ?_⟩
  unfold Builtin.Range.rangeSize at hk
  rw [if_pos hc] at hk
  split at hk
  · have h1 : (k : Int) ≤ (j - i - 1) / c := by omega
    have h2 := (Int.le_ediv_iff_mul_le hc).mp h1
    omega
  · simp at hk
/-! ### floods by steps -/
theorem nodup_len : ∀ (n : Nat) (Q : List Nat), Q.Nodup → (∀ x ∈ Q, x < n) → Q.length ≤ n
  | 0, Q, _, h => by
    cases Q with
    | nil => exact Nat.le_refl _
    | cons x xs => exact absurd (h x List.mem_cons_self) (by omega)
  | n + 1, Q, hd, h => by
    have h2 := nodup_len n (Q.erase n) (hd.erase n) fun x hx => by
      have := (hd.mem_erase_iff).mp hx
      have := h x this.2
      omega
    have : Q.length ≤ (Q.erase n).length + 1 := by
      rw [List.length_erase]
      split <;> omega
    omega
def itN (n : Nat) (f : Nat → Nat) (st : Nat) : Nat → Nat
  | 0 => st
  | k + 1 => nxt n f (itN n f st k)
theorem itN_lt {n : Nat} {f : Nat → Nat} (hf : ∀ s, s < n → f s < 2 ^ n) {st : Nat} (h : st < 2 ^ n) : ∀ k, itN n f st k < 2 ^ n
  | 0 => h
  | k + 1 => nxt_lt hf (itN_lt hf h k)
theorem itN_sub {n : Nat} {f : Nat → Nat} {st : Nat} {t : Nat} : ∀ {j k : Nat}, j ≤ k → (itN n f st j).testBit t = true → (itN n f st k).testBit t = true := by
  intro j k h ht
  induction k with
  | zero => rw [show j = 0 by omega] at ht; exact ht
  | succ k ih =>
    by_cases e : j = k + 1
    · rw [← e]; exact ht
    · exact nxt_sub _ _ _ _ (ih (by omega))
theorem nxt_iff {n : Nat} {f : Nat → Nat} {c t : Nat} : (nxt n f c).testBit t = true ↔ c.testBit t = true ∨ ∃ u, u < n ∧ c.testBit u = true ∧ (f u).testBit t = true := by
  unfold nxt
  rw [Nat.testBit_or, testBit_orAll, Bool.or_eq_true, List.any_eq_true]
  constructor
  · intro h
    rcases h with h | ⟨u, h1, h2⟩
    · exact .inl h
    · obtain ⟨a, b⟩ := mem_bitsL.mp h1
      exact .inr ⟨u, a, b, h2⟩
  · intro h
    rcases h with h | ⟨u, h1, h2, h3⟩
    · exact .inl h
    · exact .inr ⟨u, mem_bitsL.mpr ⟨h1, h2⟩, h3⟩
theorem Lay.it {n : Nat} {f : Nat → Nat} {st : Nat} {L : List Nat} (h : Lay n f L) (h0 : ∃ l, L = st :: l) : ∀ i, (hi : i < L.length) → L[i] = itN n f st i
  | 0, hi => by obtain ⟨l, rfl⟩ := h0; rfl
  | i + 1, hi => by
    rw [(h.at i hi).1, Lay.it h h0 i (by omega)]; rfl
theorem Lay.end {n : Nat} {f : Nat → Nat} {st : Nat} {L : List Nat} (h : Lay n f L) (h0 : ∃ l, L = st :: l) (hne : L ≠ []) : ∀ k, L.length ≤ k + 1 → itN n f st k = L.getLast hne := by
  intro k
  induction k with
  | zero =>
    intro hk
    obtain ⟨l, rfl⟩ := h0
    have : l = [] := by
      cases l with
      | nil => rfl
      | cons a b => simp at hk
    subst this; rfl
  | succ k ih =>
    intro hk
    by_cases e : L.length ≤ k + 1
    · show nxt n f (itN n f st k) = _
      rw [ih e]; exact h.last hne
    · have e2 : L.length = k + 2 := by omega
      rw [List.getLast_eq_getElem, ← Lay.it h h0 (k + 1) (by omega)]
      congr 1
      omega
end B

namespace B
open PySem Z
/-! ### what an answer is wanted for, from the front -/
section
variable {α β σ ρ : Type} {A : β → Prop}
theorem W.bind {m : Option α} {k : α → Option β} {P : α → Prop} (h : OP m P) (hk : ∀ x, P x → OP (k x) A) : OP (m.bind k) A := by
  obtain ⟨x, rfl, hx⟩ := OP.get h
  exact hk x hx
theorem W.eq {m : Option α} {a : α} {k : α → Option β} (h : m = some a) (hk : OP (k a) A) : OP (m.bind k) A := by rw [h]; exact hk
theorem W.grd {c : Prop} {_ : Decidable c} {k : Option β} (h : c) (hk : OP k A) : OP (Z.grd c k) A := by rw [grd_of h]; exact hk
theorem W.lt {e : α} {k : α → Option β} (hk : OP (k e) A) : OP (Z.lt e k) A := hk
theorem W.ltx {e : α} {k : α → Option β} (hk : ∀ x, x = e → OP (k x) A) : OP (Z.lt e k) A := hk e rfl
theorem W.ite {c : Bool} {m n : Option β} (h1 : c = true → OP m A) (h2 : c = false → OP n A) : OP (ifo c m n) A := by
  cases c with
  | true => rw [ifo_t rfl]; exact h1 rfl
  | false => rw [ifo_f rfl]; exact h2 rfl
theorem W.t {c : Bool} {m n : Option β} (hc : c = true) (h : OP m A) : OP (ifo c m n) A := by rw [ifo_t hc]; exact h
theorem W.f {c : Bool} {m n : Option β} (hc : c = false) (h : OP n A) : OP (ifo c m n) A := by rw [ifo_f hc]; exact h
theorem W.ret {a : β} (h : A a) : OP (some a) A := h
theorem W.as {m : Option β} {P : β → Prop} (h : OP m P) (hk : ∀ x, P x → A x) : OP m A := h.mono hk
theorem W.got {m : Option β} {a : β} (h : OP m (· = a)) : m = some a := by
  obtain ⟨x, rfl, e⟩ := OP.get h
  rw [e]
theorem W.of {m : Option β} {a : β} (e : m = some a) (h : A a) : OP m A := OP.mk e h
theorem W.brk {m : Option (σ ⊕ β)} {k : σ → Option β} {P : σ → Prop} (h : OP m (SE P A)) (hk : ∀ s, P s → OP (k s) A) : OP (Z.brk m k) A := by
  obtain ⟨x, rfl, hx⟩ := OP.get h
  cases x with
  | inl s => exact hk s hx
  | inr v => exact hx
/-! loops -/
theorem W.for_inv {body : α → σ → Option σ} (I : σ → Prop) : ∀ {xs : List α} {s : σ}, I s → (∀ x ∈ xs, ∀ s, I s → OP (body x s) I) → OP (forO body xs s) I
  | [], s, h, _ => by rw [forO_nil]; exact h
  | x :: xs, s, h, hs => by
    rw [forO_cons]
    exact W.bind (hs x List.mem_cons_self s h) fun s' h' => W.for_inv I h' fun y hy => hs y (List.mem_cons_of_mem _ hy)
theorem W.for_pre {body : α → σ → Option σ} (I : List α → σ → Prop) {xs : List α} {s : σ} (h : I [] s) (hs : ∀ pre x suf s, xs = pre ++ x :: suf → I pre s → OP (body x s) (I (pre ++ [x]))) : OP (forO body xs s) (I xs) := by
  have key : ∀ (suf pre : List α) (s : σ), xs = pre ++ suf → I pre s → OP (forO body suf s) (I xs) := by
    intro suf
    induction suf with
    | nil => intro pre s e h; rw [forO_nil]; rw [e, List.append_nil]; exact h
    | cons x suf ih =>
      intro pre s e h
      rw [forO_cons]
      exact W.bind (hs pre x suf s e h) fun s' h' => ih (pre ++ [x]) s' (by rw [List.append_assoc]; exact e) h'
  exact key xs [] s rfl h
theorem W.for_rng {body : Int → σ → Option σ} (I : Nat → σ → Prop) : ∀ {n a : Nat} {s : σ}, I a s → (∀ i s, a ≤ i → i < a + n → I i s → OP (body (i : Int) s) (I (i + 1))) → OP (forO body (rangeI (a : Int) n) s) (I (a + n))
  | 0, a, s, h, _ => by rw [rangeI_zero, forO_nil]; exact h
  | n + 1, a, s, h, hs => by
    rw [rangeI_succ, forO_cons]
    refine W.bind (hs a s (Nat.le_refl _) (by omega) h) fun s' h' => ?_
    have := W.for_rng (body := body) I (n := n) (a := a + 1) h' fun i s h1 h2 => hs i s (by omega) (by omega)
    rw [show ((a : Int) + 1) = ((a + 1 : Nat) : Int) by omega, show a + (n + 1) = a + 1 + n by omega]
    exact this
theorem W.for_r {body : Int → σ → Option σ} (I : Nat → σ → Prop) {n : Nat} {s : σ} (h : I 0 s) (hs : ∀ i s, i < n → I i s → OP (body (i : Int) s) (I (i + 1))) : OP (forO body (rangeI 0 n) s) (I n) := by
  have := W.for_rng (body := body) I (n := n) (a := 0) h fun i s _ h2 => hs i s (by omega)
  rw [Nat.zero_add] at this
  exact this
theorem W.for_tab {body : Int → σ → Option σ} {f : Nat → Nat} (I : Nat → σ → Prop) {n : Nat} {s : σ} (h : I 0 s) (hs : ∀ i s, i < n → I i s → OP (body ((f i : Nat) : Int) s) (I (i + 1))) : OP (forO body (tab n f) s) (I n) := by
  obtain ⟨s', e, h'⟩ := forO_map (g := fun i => ((f i : Nat) : Int)) I n s h fun i s hi hI => by
    obtain ⟨x, e, hx⟩ := OP.get (hs i s hi hI)
    exact ⟨x, e, hx⟩
  exact OP.mk e h'
theorem W.for_map {body : α → σ → Option σ} {g : Nat → α} (I : Nat → σ → Prop) {n : Nat} {s : σ} (h : I 0 s) (hs : ∀ i s, i < n → I i s → OP (body (g i) s) (I (i + 1))) : OP (forO body ((List.range n).map g) s) (I n) := by
  obtain ⟨s', e, h'⟩ := forO_map (g := g) I n s h fun i s hi hI => by
    obtain ⟨x, e, hx⟩ := OP.get (hs i s hi hI)
    exact ⟨x, e, hx⟩
  exact OP.mk e h'
theorem W.forR_inv {body : α → σ → Option (σ ⊕ ρ)} (I : σ → Prop) (V : ρ → Prop) : ∀ {xs : List α} {s : σ}, I s → (∀ x ∈ xs, ∀ s, I s → OP (body x s) (SE I V)) → OP (forR body xs s) (SE I V)
  | [], s, h, _ => by rw [forR_nil]; exact h
  | x :: xs, s, h, hs => by
    rw [forR_cons]
    refine W.bind (hs x List.mem_cons_self s h) fun r hr => ?_
    cases r with
    | inl s' => exact W.forR_inv I V hr fun y hy => hs y (List.mem_cons_of_mem _ hy)
    | inr v => exact hr
theorem W.forR_pre {body : α → σ → Option (σ ⊕ ρ)} (I : List α → σ → Prop) (V : ρ → Prop) {xs : List α} {s : σ} (h : I [] s) (hs : ∀ pre x suf s, xs = pre ++ x :: suf → I pre s → OP (body x s) (SE (I (pre ++ [x])) V)) : OP (forR body xs s) (SE (I xs) V) := by
  have key : ∀ (suf pre : List α) (s : σ), xs = pre ++ suf → I pre s → OP (forR body suf s) (SE (I xs) V) := by
    intro suf
    induction suf with
    | nil => intro pre s e h; rw [forR_nil]; rw [e, List.append_nil]; exact h
    | cons x suf ih =>
      intro pre s e h
      rw [forR_cons]
      refine W.bind (hs pre x suf s e h) fun r hr => ?_
      cases r with
      | inl s' => exact ih (pre ++ [x]) s' (by rw [List.append_assoc]; exact e) hr
      | inr v => exact hr
  exact key xs [] s rfl h
theorem W.forR_rng {body : Int → σ → Option (σ ⊕ ρ)} (I : Nat → σ → Prop) (V : ρ → Prop) : ∀ {n a : Nat} {s : σ}, I a s → (∀ i s, a ≤ i → i < a + n → I i s → OP (body (i : Int) s) (SE (I (i + 1)) V)) → OP (forR body (rangeI (a : Int) n) s) (SE (I (a + n)) V)
  | 0, a, s, h, _ => by rw [rangeI_zero, forR_nil]; exact h
  | n + 1, a, s, h, hs => by
    rw [rangeI_succ, forR_cons]
    refine W.bind (hs a s (Nat.le_refl _) (by omega) h) fun r hr => ?_
    cases r with
    | inl s' =>
      have := W.forR_rng (body := body) I V (n := n) (a := a + 1) hr fun i s h1 h2 => hs i s (by omega) (by omega)
      rw [show ((a : Int) + 1) = ((a + 1 : Nat) : Int) by omega, show a + (n + 1) = a + 1 + n by omega]
      exact this
    | inr v => exact hr
theorem W.forR_r {body : Int → σ → Option (σ ⊕ ρ)} (I : Nat → σ → Prop) (V : ρ → Prop) {n : Nat} {s : σ} (h : I 0 s) (hs : ∀ i s, i < n → I i s → OP (body (i : Int) s) (SE (I (i + 1)) V)) : OP (forR body (rangeI 0 n) s) (SE (I n) V) := by
  have := W.forR_rng (body := body) I V (n := n) (a := 0) h fun i s _ h2 => hs i s (by omega)
  rw [Nat.zero_add] at this
  exact this
theorem W.forR_map {body : α → σ → Option (σ ⊕ ρ)} {g : Nat → α} (I : Nat → σ → Prop) (V : ρ → Prop) {n : Nat} {s : σ} (h : I 0 s) (hs : ∀ i s, i < n → I i s → OP (body (g i) s) (SE (I (i + 1)) V)) : OP (forR body ((List.range n).map g) s) (SE (I n) V) := by
  have key : ∀ (n a : Nat) (s : σ), I a s → (∀ i s, a ≤ i → i < a + n → I i s → OP (body (g i) s) (SE (I (i + 1)) V)) → OP (forR body ((List.range' a n).map g) s) (SE (I (a + n)) V) := by
    intro n
    induction n with
    | zero => intro a s h _; rw [List.range'_zero, List.map_nil, forR_nil]; exact h
    | succ n ih =>
      intro a s h hs
      rw [List.range'_succ, List.map_cons, forR_cons]
      refine W.bind (hs a s (Nat.le_refl _) (by omega) h) fun r hr => ?_
      cases r with
      | inl s' =>
        have := ih (a + 1) s' hr fun i s h1 h2 => hs i s (by omega) (by omega)
        rw [show a + (n + 1) = a + 1 + n by omega]
        exact this
      | inr v => exact hr
  have := key n 0 s h fun i s _ h2 => hs i s (by omega)
  rw [Nat.zero_add] at this
  rw [List.range_eq_range']
  exact this
/-- a while, by a measure -/
theorem W.while' {c : σ → Option Bool} {body : σ → Option σ} (I : σ → Prop) (μ : σ → Nat) (P : σ → Prop) : ∀ {fuel : Nat} {s : σ}, I s → μ s < fuel → (∀ s, I s → OP (c s) fun b => (b = true → OP (body s) fun s' => I s' ∧ μ s' < μ s) ∧ (b = false → P s)) → OP (whileO c body fuel s) P
  | 0, s, _, hm, _ => by omega
  | f + 1, s, h, hm, hs => by
    rw [whileO_succ]
    refine W.bind (hs s h) fun b hb => ?_
    cases b with
    | true =>
      rw [if_pos rfl]
      exact W.bind (hb.1 rfl) fun s' h' => W.while' I μ P h'.1 (by omega) hs
    | false =>
      rw [if_neg Bool.false_ne_true]
      exact hb.2 rfl
theorem W.whileR' {c : σ → Option Bool} {body : σ → Option (σ ⊕ ρ)} (I : σ → Prop) (μ : σ → Nat) (P : σ → Prop) (V : ρ → Prop) : ∀ {fuel : Nat} {s : σ}, I s → μ s < fuel → (∀ s, I s → OP (c s) fun b => (b = true → OP (body s) (SE (fun s' => I s' ∧ μ s' < μ s) V)) ∧ (b = false → P s)) → OP (whileR c body fuel s) (SE P V)
  | 0, s, _, hm, _ => by omega
  | f + 1, s, h, hm, hs => by
    rw [whileR_succ]
    refine W.bind (hs s h) fun b hb => ?_
    cases b with
    | true =>
      rw [if_pos rfl]
      refine W.bind (hb.1 rfl) fun r hr => ?_
      cases r with
      | inl s' => exact W.whileR' I μ P V hr.1 (by have := hr.2; omega) hs
      | inr v => exact hr
    | false =>
      rw [if_neg Bool.false_ne_true]
      exact hb.2 rfl
theorem W.while {c : σ → Option Bool} {body : σ → Option σ} (I : σ → Prop) (μ : σ → Nat) (P : σ → Prop) {s : σ} (h : I s) (hm : μ s < 1000000) (hs : ∀ s, I s → OP (c s) fun b => (b = true → OP (body s) fun s' => I s' ∧ μ s' < μ s) ∧ (b = false → P s)) : OP (whileO c body bigN s) P := W.while' I μ P h (by rw [bigN_eq']; exact hm) hs
theorem W.whileR {c : σ → Option Bool} {body : σ → Option (σ ⊕ ρ)} (I : σ → Prop) (μ : σ → Nat) (P : σ → Prop) (V : ρ → Prop) {s : σ} (h : I s) (hm : μ s < 1000000) (hs : ∀ s, I s → OP (c s) fun b => (b = true → OP (body s) (SE (fun s' => I s' ∧ μ s' < μ s) V)) ∧ (b = false → P s)) : OP (whileR c body bigN s) (SE P V) := W.whileR' I μ P V h (by rw [bigN_eq']; exact hm) hs
/-- a comprehension -/
theorem W.comp [Inhabited β] {f : α → Option (Option β)} {xs : List α} (P : α → β → Prop) (hl : xs.length ≤ 16777216) (h : ∀ x ∈ xs, OP (f x) fun r => ∃ y, r = some y ∧ P x y) : OP (compO f xs) fun ys => ∃ g : α → β, ys = xs.map g ∧ ∀ x ∈ xs, P x (g x) := by
  have : ∀ x : α, ∃ y : β, x ∈ xs → f x = some (some y) ∧ P x y := fun x => by
    by_cases hx : x ∈ xs
    · obtain ⟨r, e, y, rfl, hy⟩ := OP.get (h x hx)
      exact ⟨y, fun _ => ⟨e, hy⟩⟩
    · exact ⟨default, fun q => absurd q hx⟩
  obtain ⟨g, hg⟩ := Classical.axiomOfChoice this
  exact OP.mk (comp_map (g := g) hl fun x hx => (hg x hx).1) ⟨g, rfl, fun x hx => (hg x hx).2⟩
end
theorem comp_map2 {α β γ : Type} {xs : List γ} {h : γ → α} {f : α → Option (Option β)} {g : γ → β} (hl : xs.length ≤ 16777216) (hf : ∀ x ∈ xs, f (h x) = some (some (g x))) : compO f (xs.map h) = some (xs.map g) := by
  have key : ∀ ys : List γ, (∀ x ∈ ys, f (h x) = some (some (g x))) → compO' f (ys.map h) = some (ys.map g) := by
    intro ys
    induction ys with
    | nil => intro _; rfl
    | cons y ys ih =>
      intro hy
      rw [List.map_cons, List.map_cons]
      unfold compO'
      rw [hy y List.mem_cons_self, ih fun z hz => hy z (List.mem_cons_of_mem _ hz)]
      rfl
  unfold compO
  rw [if_pos (by rw [List.length_map]; exact hl)]
  exact key xs hf
theorem mask_eq' {n : Nat} {p : Nat → Bool} {x : Nat} (hx : x < 2 ^ n) (h : ∀ i, i < n → x.testBit i = p i) : mask n p = x := (mask_ext hx h).symm
/-! ### whole numbers within bounds -/
def In (x N : Int) : Prop := 0 ≤ x ∧ x < N
theorem In.nat {x : Int} {N : Nat} (h : In x (N : Int)) : ∃ k : Nat, k < N ∧ x = (k : Int) := ⟨x.toNat, by have := h.1; have := h.2; omega, by have := h.1; omega⟩
theorem In.of {k N : Nat} (h : k < N) : In (k : Int) (N : Int) := ⟨by omega, by omega⟩
theorem In.zero {N : Nat} (h : 0 < N) : In 0 (N : Int) := ⟨by omega, by omega⟩
theorem In.emod {v : Int} {N : Nat} (h : 0 < N) : In (v % (N : Int)) (N : Int) := ⟨Int.emod_nonneg v (by omega), Int.emod_lt_of_pos v (by omega)⟩
theorem In.emod' {v N : Int} (h : 0 < N) : In (v % N) N := ⟨Int.emod_nonneg v (by omega), Int.emod_lt_of_pos v (by omega)⟩
theorem In.shl1 {k : Int} {n : Nat} (h : In k (n : Int)) : In (shl 1 k) ((2 ^ n : Nat) : Int) := by
  obtain ⟨j, hj, rfl⟩ := h.nat
  rw [shl1_nat]
  exact In.of (pow_lt2 hj)
theorem In.bor {a b : Int} {n : Nat} (ha : In a ((2 ^ n : Nat) : Int)) (hb : In b ((2 ^ n : Nat) : Int)) : In (bor a b) ((2 ^ n : Nat) : Int) := by
  obtain ⟨j, hj, rfl⟩ := ha.nat
  obtain ⟨k, hk, rfl⟩ := hb.nat
  rw [bor_nat]
  exact In.of (Nat.or_lt_two_pow hj hk)
theorem In.bxor {a b : Int} {n : Nat} (ha : In a ((2 ^ n : Nat) : Int)) (hb : In b ((2 ^ n : Nat) : Int)) : In (bxor a b) ((2 ^ n : Nat) : Int) := by
  obtain ⟨j, hj, rfl⟩ := ha.nat
  obtain ⟨k, hk, rfl⟩ := hb.nat
  rw [bxor_nat]
  exact In.of (xor_lt hj hk)
theorem In.band {a b M N : Int} (ha : In a N) (hb : In b M) : In (band a b) N := by
  obtain ⟨j, rfl⟩ : ∃ j : Nat, a = (j : Int) := ⟨a.toNat, by have := ha.1; omega⟩
  obtain ⟨k, rfl⟩ : ∃ k : Nat, b = (k : Int) := ⟨b.toNat, by have := hb.1; omega⟩
  rw [band_nat]
  have : j &&& k ≤ j := Nat.and_le_left
  exact ⟨by omega, by have := ha.2; omega⟩
theorem In.bandn {a b M N : Int} (ha : In a N) (hb : In b M) : In (Z.band a (bnot b)) N := by
  obtain ⟨j, rfl⟩ : ∃ j : Nat, a = (j : Int) := ⟨a.toNat, by have := ha.1; omega⟩
  obtain ⟨k, rfl⟩ : ∃ k : Nat, b = (k : Int) := ⟨b.toNat, by have := hb.1; omega⟩
  rw [bandn_nat]
  have : andn j k ≤ j := by
    have h1 := nat_xor_and j (j &&& k)
    have h2 : j &&& (j &&& k) = j &&& k := by rw [← Nat.and_assoc, Nat.and_self]
    rw [h2] at h1
    have h3 : j &&& k ≤ j := Nat.and_le_left
    unfold andn
    omega
  exact ⟨by omega, by have := ha.2; omega⟩
theorem In.compl {a : Int} {n : Nat} (ha : In a ((2 ^ n : Nat) : Int)) : In (((2 ^ n : Nat) : Int) - 1 - a) ((2 ^ n : Nat) : Int) := ⟨by have := ha.2; omega, by have := ha.1; omega⟩
theorem In.full (n : Nat) : In (((2 ^ n : Nat) : Int) - 1) ((2 ^ n : Nat) : Int) := ⟨by have := Nat.two_pow_pos n; omega, by omega⟩
theorem In.tail {k : Int} {n : Nat} (h : In k (n : Int)) : In (((2 ^ n : Nat) : Int) - shl 1 k) ((2 ^ n : Nat) : Int) := by
  obtain ⟨j, hj, rfl⟩ := h.nat
  rw [shl1_nat]
  have := pow_lt2 hj
  have := Nat.two_pow_pos j
  exact ⟨by omega, by omega⟩
theorem In.le {x M N : Int} (h : In x M) (hl : M ≤ N) : In x N := ⟨h.1, by have := h.2; omega⟩
theorem gPow1I {x N : Int} (h : In x N) (hN : N ≤ 1000001) : gPow 1 x := ⟨h.1, by have := h.2; omega, by decide⟩
theorem gR_I {x N : Int} (h : In x N) (hN : N ≤ 2 ^ 62) : gR x := ⟨by have := h.1; omega, by have := h.2; omega⟩
end B

namespace B
open PySem Z
/-! ### tables of crowds, and steps that go by themselves -/
def Tb (m : Nat) (x : List Int) : Prop := ∃ f, x = tab (2 ^ m) f ∧ ∀ s, s < 2 ^ m → f s < 2 ^ 2 ^ m
theorem Tb.zero (m : Nat) : Tb m (tab (2 ^ m) fun _ => 0) := ⟨_, rfl, fun _ _ => Nat.two_pow_pos _⟩
theorem Tb.get {m : Nat} {x : List Int} {i : Int} (h : Tb m x) (hi : In i ((2 ^ m : Nat) : Int)) : ∃ v, L2.atI x i = some v ∧ In v ((2 ^ 2 ^ m : Nat) : Int) := by
  obtain ⟨f, rfl, hf⟩ := h
  obtain ⟨k, hk, rfl⟩ := hi.nat
  exact ⟨_, atI_tab hk, In.of (hf k hk)⟩
theorem Tb.set {m : Nat} {x : List Int} {i v : Int} (h : Tb m x) (hi : In i ((2 ^ m : Nat) : Int)) (hv : In v ((2 ^ 2 ^ m : Nat) : Int)) : ∃ y, setI x i v = some y ∧ Tb m y := by
  obtain ⟨f, rfl, hf⟩ := h
  obtain ⟨k, hk, rfl⟩ := hi.nat
  obtain ⟨c, hc, rfl⟩ := hv.nat
  exact ⟨_, setI_tab hk, _, rfl, fup_lt hf hc⟩
theorem Tb.len {m : Nat} {x : List Int} (h : Tb m x) : x.length = 2 ^ m := by obtain ⟨f, rfl, _⟩ := h; exact tab_len _ _
section
variable {β : Type} {A : β → Prop} {m : Nat} {x : List Int} {i v : Int}
theorem W.tget {k : Int → Option β} (h : Tb m x) (hi : In i ((2 ^ m : Nat) : Int)) (hk : ∀ v, In v ((2 ^ 2 ^ m : Nat) : Int) → OP (k v) A) : OP ((L2.atI x i).bind k) A := by
  obtain ⟨v, e, hv⟩ := h.get hi
  exact W.eq e (hk v hv)
theorem W.tset {k : List Int → Option β} (h : Tb m x) (hi : In i ((2 ^ m : Nat) : Int)) (hv : In v ((2 ^ 2 ^ m : Nat) : Int)) (hk : ∀ y, Tb m y → OP (k y) A) : OP ((setI x i v).bind k) A := by
  obtain ⟨y, e, hy⟩ := h.set hi hv
  exact W.eq e (hk y hy)
theorem W.some' {m : Option β} (h : OP m A) : OP (m.bind fun x => some x) A := W.bind h fun _ q => q
end
theorem gDivW2 {m : Nat} (hm : m ≤ 6) : gDivW ((2 ^ m : Nat) : Int) := gDivW_nat (Nat.two_pow_pos m) (by have := le64 hm; omega)
theorem pos2 (m : Nat) : (0 : Int) < ((2 ^ m : Nat) : Int) := by have := Nat.two_pow_pos m; omega
theorem gPow1_2 {m : Nat} (hm : m ≤ 6) : gPow 1 ((2 ^ m : Nat) : Int) := gPow1 (by have := le64 hm; omega)
theorem gR_2 {m : Nat} (hm : m ≤ 6) : gR ((2 ^ m : Nat) : Int) := gR_nat (by have := le64 hm; omega)
theorem In.band' {a b N : Int} (ha : In a N) (hb : 0 ≤ b) : In (Z.band a b) N := In.band (M := b + 1) ha ⟨hb, by omega⟩
theorem In.rest {a : Int} {m : Nat} {c : Nat} (h : In a ((2 ^ m : Nat) : Int)) (hc : c ≤ 64) (hm : 2 ^ m ≤ c) : In a (c : Int) := h.le (by omega)
theorem In.low {n : Nat} {v : Int} (h : 1 ≤ n) : In (v % 2) ((2 ^ n : Nat) : Int) := ⟨by omega, by have : 2 ^ 1 ≤ 2 ^ n := Nat.pow_le_pow_right (by decide) h; omega⟩
end B

local macro_rules
  | `(tactic| infer_instance) => `(tactic| first
    | assumption
    | exact B.In.zero (Nat.two_pow_pos _)
    | exact B.In.emod (Nat.two_pow_pos _)
    | exact B.In.emod' (B.pos2 _)
    | exact B.In.full _
    | (with_reducible apply B.In.of; assumption)
    | (with_reducible apply B.In.shl1; infer_instance)
    | (with_reducible apply B.In.bor <;> infer_instance)
    | (with_reducible apply B.In.bxor <;> infer_instance)
    | (with_reducible apply B.In.compl; infer_instance)
    | (with_reducible apply B.In.tail; infer_instance)
    | (with_reducible apply B.In.bandn <;> infer_instance)
    | (with_reducible apply B.In.band <;> infer_instance)
    | exact ⟨by omega, by omega⟩)
local macro_rules
  | `(tactic| contradiction) => `(tactic| first
    | with_reducible refine B.W.ite (fun _ => ?_) (fun _ => ?_)
    | with_reducible refine B.W.lt ?_
    | (with_reducible refine B.W.grd ?_ ?_
       · first
          | exact B.pos2 _
          | (with_reducible apply B.gDivW2; assumption)
          | (with_reducible apply B.gPow1_2; assumption)
          | (with_reducible apply B.gR_2; assumption)
          | (with_reducible apply B.gPow1I
             · infer_instance
             · omega)
          | (with_reducible apply B.gR_I
             · infer_instance
             · omega)
          | omega
          | exact ⟨by omega, by omega⟩)
    | (with_reducible apply B.W.tget
       · assumption
       · infer_instance
       intro _ _)
    | (with_reducible apply B.W.tset
       · assumption
       · infer_instance
       · infer_instance
       intro _ _)
    | (with_reducible refine B.W.ret ?_
       infer_instance))

namespace B
open PySem Z E L2
theorem cell_at_eq (ns : List Int) (k : Nat) : ∃ v, m__law_cell_at ns (k : Int) = some v := by
  unfold m__law_cell_at
  by_cases h : k < ns.length
  · rw [ifo_t (decide_eq_true (by omega))]
    rw [bind_eq (atI_nat' h)]
    first
      | exact ⟨_, rfl⟩
      | exact ⟨_, grd_of (by decide)⟩
  · rw [ifo_f (decide_eq_false (by omega))]
    exact ⟨0, rfl⟩
/-- the number of lamps -/
theorem many_of (v : Int) : ∃ m : Nat, 1 ≤ m ∧ m ≤ 6 ∧ (1 : Int) + v % 6 = (m : Int) := by
  obtain ⟨k, h1, h2⟩ := mod_nat v (n := 6) (by decide)
  have : v % ((6 : Nat) : Int) = v % 6 := rfl
  exact ⟨k + 1, by omega, by omega, by omega⟩
end B

namespace B
open PySem Z E L2
/-! ### texts as lists of signs -/
def St (l : List Nat) : Str := ⟨l.toArray⟩
theorem St_tl (s : Str) : St (TL.tl s) = s := TL.mk_tl s
theorem tl_St (l : List Nat) : TL.tl (St l) = l := rfl
theorem St_inj {a b : List Nat} (h : St a = St b) : a = b := by
  have := congrArg TL.tl h
  exact this
theorem St_app (a b : List Nat) : St a ++ St b = St (a ++ b) := TL.ext_tl (by rw [TL.tl_append, tl_St, tl_St, tl_St])
theorem St_len (l : List Nat) : (St l).length = l.length := by rw [TL.len_tl, tl_St]
theorem St_chS (l : List Nat) (i : Int) : chS (St l) i = (L2.atI l i).map fun c => St [c] := rfl
theorem St_cut (l : List Nat) (lo hi : Option Int) : cutS (St l) lo hi = St (cutI l lo hi) := by
  unfold cutS
  rw [St_len]
  rfl
theorem St_dec (a b : List Nat) : decide (St a = St b) = decide (a = b) := decide_eq_decide.mpr ⟨St_inj, fun h => by rw [h]⟩
theorem app_len (a b : Str) : (a ++ b).length = a.length + b.length := by rw [← St_tl a, ← St_tl b, St_app, St_len, St_len, St_len, List.length_append]
theorem app_assoc (a b c : Str) : (a ++ b) ++ c = a ++ (b ++ c) := by rw [← St_tl a, ← St_tl b, ← St_tl c, St_app, St_app, St_app, St_app, List.append_assoc]
theorem nil_app (a : Str) : ("" : Str) ++ a = a := by
  rw [show ("" : Str) = St [] from rfl, ← St_tl a, St_app, List.nil_append]
theorem len_zero {s : Str} (h : s.length = 0) : s = "" := by
  rw [← St_tl s, St_len] at h
  rw [← St_tl s, List.eq_nil_of_length_eq_zero h]; rfl
/-- small letters -/
def Low (l : List Nat) : Prop := ∀ c ∈ l, 97 ≤ c ∧ c < 123
theorem Low.app {a b : List Nat} (ha : Low a) (hb : Low b) : Low (a ++ b) := fun c hc => (List.mem_append.mp hc).elim (ha c) (hb c)
theorem Low.one {i : Nat} (h : i < 26) : Low [97 + i] := fun c hc => by rw [List.mem_singleton.mp hc]; omega
theorem Low.sub {a b : List Nat} (ha : Low a) (h : ∀ c ∈ b, c ∈ a) : Low b := fun c hc => ha c (h c hc)
theorem Low.ok {s : Str} (h : Low (TL.tl s)) : PyData.strOk s = true := by
  unfold PyData.strOk
  rw [← Array.all_toList]
  exact List.all_eq_true.mpr fun c hc => by
    have := h c hc
    exact decide_eq_true (by omega)
instance (l : List Nat) : Decidable (Low l) := List.decidableBAll (fun c => 97 ≤ c ∧ c < 123) l
abbrev lets : Str := "abcdefghijklmnopqrstuvwxyz"
theorem ch_let {i : Nat} (h : i < 26) : chS lets (i : Int) = some (St [97 + i]) := by
  have key : ((List.range 26).all fun i => decide (chS lets (i : Int) = some (St [97 + i]))) = true := by decide +kernel
  exact of_decide_eq_true (List.all_eq_true.mp key i (List.mem_range.mpr h))
theorem find_let {c : Nat} (h1 : 97 ≤ c) (h2 : c < 123) : Txt.find lets (St [c]) = ((c - 97 : Nat) : Int) := by
  have key : ((List.range 26).all fun i => decide (Txt.find lets (St [97 + i]) = (i : Int))) = true := by decide +kernel
  have := of_decide_eq_true (List.all_eq_true.mp key (c - 97) (List.mem_range.mpr (by omega)))
  rw [show 97 + (c - 97) = c by omega] at this
  exact this
theorem lets_len : lets.length = 26 := by decide +kernel
def KW : List Str := ["and", "or", "not", "either", "yes", "no", "then", "is"]
/-- a list without doubles within another one is no longer -/
theorem few_in {α : Type} [DecidableEq α] : ∀ (L M : List α), L.Nodup → (∀ x ∈ L, x ∈ M) → L.length ≤ M.length
  | [], _, _, _ => Nat.zero_le _
  | x :: L, M, hn, h => by
    have hx := h x List.mem_cons_self
    have hl := List.length_erase_of_mem hx
    have hp : 0 < M.length := List.length_pos_of_mem hx
    rw [List.nodup_cons] at hn
    have := few_in L (M.erase x) hn.2 fun y hy => (List.mem_erase_of_ne (fun e => hn.1 (by rw [← e]; exact hy))).mpr (h y (List.mem_cons_of_mem _ hy))
    rw [List.length_cons]
    omega
theorem any_dec {α : Type} [DecidableEq α] (xs : List α) (x : α) : (xs.any fun y => decide (y = x)) = decide (x ∈ xs) := by
  rw [Bool.eq_iff_iff, List.any_eq_true, decide_eq_true_iff]
  exact ⟨fun ⟨y, h1, h2⟩ => by rw [← of_decide_eq_true h2]; exact h1, fun h => ⟨x, h, decide_eq_true rfl⟩⟩
end B

namespace B
open PySem Z E L2
/-! ### a text and its words -/
def Pn (w : Str) : Prop := w = "(" ∨ w = ")" ∨ w = ","
instance (w : Str) : Decidable (Pn w) := by unfold Pn; exact inferInstance
def Gw (w : Str) : Prop := (Low (TL.tl w) ∧ TL.tl w ≠ []) ∨ Pn w
theorem Low.npn {w : Str} (h : Low (TL.tl w)) : ¬ Pn w := by
  rintro (rfl | rfl | rfl)
  · have := h 40 (by decide); omega
  · have := h 41 (by decide); omega
  · have := h 44 (by decide); omega
theorem inS_pn {w : Str} (h : Gw w) : inS w ("()," : Str) = decide (Pn w) := by
  rcases h with ⟨h, hne⟩ | h
  · rw [decide_eq_false h.npn]
    refine Bool.eq_false_iff.mpr fun q => ?_
    unfold inS at q
    obtain ⟨i, h1, h2⟩ := (PySem.StrLaws.found_iff _ _).mp q
    rw [PySem.StrLaws.subAt_eq, beq_iff_eq] at h2
    obtain ⟨c, hc⟩ := List.exists_mem_of_ne_nil _ hne
    have h3 : c ∈ TL.tl ("()," : Str) := List.mem_of_mem_drop (List.mem_of_mem_take (by rw [h2]; exact hc))
    have h4 : c ∈ [40, 41, 44] := h3
    have := h c hc
    simp only [List.mem_cons, List.not_mem_nil, or_false] at h4
    omega
  · rw [decide_eq_true h]
    rcases h with rfl | rfl | rfl <;> decide +kernel
theorem inS_let (c : Nat) : inS (St [c]) lets = decide (97 ≤ c ∧ c < 123) := by
  unfold inS
  rw [show St [c] = ⟨#[c]⟩ from rfl, PySem.StrLaws.found_one]
  refine decide_eq_decide.mpr ⟨fun h => ?_, fun h => ?_⟩
  · have key : ∀ c ∈ TL.tl lets, 97 ≤ c ∧ c < 123 := by decide +kernel
    exact key c h
  · have key : ∀ i ∈ List.range 26, 97 + i ∈ TL.tl lets := by decide +kernel
    have := key (c - 97) (List.mem_range.mpr (by omega))
    rw [show 97 + (c - 97) = c by omega] at this
    exact this
theorem inS_sg (c : Nat) : inS (St [c]) ("()," : Str) = decide (c = 40 ∨ c = 41 ∨ c = 44) := by
  unfold inS
  rw [show St [c] = ⟨#[c]⟩ from rfl, PySem.StrLaws.found_one]
  refine decide_eq_decide.mpr ⟨fun h => ?_, fun h => ?_⟩
  · have h : c ∈ [40, 41, 44] := h
    simpa using h
  · show c ∈ [40, 41, 44]
    simpa using h
/-- signs that a text may hold -/
def Ok (c : Nat) : Prop := (97 ≤ c ∧ c < 123) ∨ c = 32 ∨ c = 40 ∨ c = 41 ∨ c = 44
def flu (s : List Str × List Nat) : List Str := if s.2 = [] then s.1 else s.1 ++ [St s.2]
def stp (s : List Str × List Nat) (c : Nat) : List Str × List Nat := if 97 ≤ c ∧ c < 123 then (s.1, s.2 ++ [c]) else (flu s ++ (if c = 32 then [] else [St [c]]), [])
theorem St_nil {R : List Nat} : (St R = "") ↔ R = [] := ⟨fun h => St_inj (b := []) h, fun h => by rw [h]; rfl⟩
theorem stp_size : ∀ (l : List Nat) (s : List Str × List Nat), (l.foldl stp s).1.length + (l.foldl stp s).2.length ≤ s.1.length + s.2.length + l.length
  | [], s => Nat.le_refl _
  | c :: l, s => by
    rw [List.foldl_cons, List.length_cons]
    have h1 := stp_size l (stp s c)
    have h2 : (stp s c).1.length + (stp s c).2.length ≤ s.1.length + s.2.length + 1 := by
      unfold stp
      split
      · show _ + (s.2 ++ [c]).length ≤ _
        rw [List.length_append]; exact Nat.le_refl _
      · show (flu s ++ _).length + 0 ≤ _
        have hf : (flu s).length ≤ s.1.length + s.2.length := by
          unfold flu
          split
          · omega
          · rename_i hne
            have := List.length_pos_iff.mpr hne
            rw [List.length_append, List.length_singleton]; omega
        rw [List.length_append]
        split
        · show _ + 0 + 0 ≤ _; omega
        · rw [List.length_singleton]; omega
    omega
theorem words_fold {l : List Nat} (ho : ∀ c ∈ l, Ok c) (hz : l.length ≤ 1000000) : m_words (St l) = some (some (flu (l.foldl stp ([], [])))) := by
  refine W.got ?_
  unfold m_words
  refine W.lt ?_
  have e : sgs (St l) = l.map fun c => St [c] := rfl
  rw [e]
  refine W.brk (W.forR_pre (fun pre (s : List Str × Str) => ∃ p : List Nat, pre = (p.map fun c => St [c]) ∧ s = ((p.foldl stp ([], [])).1, St (p.foldl stp ([], [])).2)) _ ⟨[], rfl, rfl⟩ ?_) ?_
  · rintro pre x suf _ ex ⟨p, rfl, rfl⟩
    rw [un2_mk]
    obtain ⟨c, q, rfl, hl⟩ : ∃ c q, x = St [c] ∧ l = p ++ c :: q := by
      obtain ⟨a, b, e1, e2, e3⟩ := List.map_eq_append_iff.mp ex
      obtain ⟨c, q, f1, f2, f3⟩ := List.map_eq_cons_iff.mp e3
      have ea : a = p := by
        have hi : ∀ (a p : List Nat), (a.map fun c => St [c]) = (p.map fun c => St [c]) → a = p := by
          intro a
          induction a with
          | nil => intro p h; cases p with
            | nil => rfl
            | cons => exact absurd h (by simp)
          | cons x a ih => intro p h; cases p with
            | nil => exact absurd h (by simp)
            | cons y p =>
              rw [List.map_cons, List.map_cons] at h
              injection h with h1 h2
              have h1 := St_inj h1
              injection h1 with h1
              rw [h1, ih p h2]
        exact hi a p e2
      exact ⟨c, q, f2.symm, by rw [e1, ea, f1]⟩
    have hc : Ok c := ho c (by rw [hl]; exact List.mem_append_right _ List.mem_cons_self)
    have hb := stp_size p ([], [])
    have hpl : p.length + 1 ≤ 1000000 := by rw [hl, List.length_append, List.length_cons] at hz; omega
    have hb : (p.foldl stp ([], [])).1.length + (p.foldl stp ([], [])).2.length ≤ 0 + 0 + p.length := hb
    have en : (p ++ [c]).foldl stp ([], []) = stp (p.foldl stp ([], [])) c := by rw [List.foldl_append]; rfl
    have done : ∀ s' : List Str × List Nat, s' = stp (p.foldl stp ([], [])) c → ∃ p' : List Nat, ((p.map fun c => St [c]) ++ [St [c]]) = (p'.map fun c => St [c]) ∧ (s'.1, St s'.2) = ((p'.foldl stp ([], [])).1, St (p'.foldl stp ([], [])).2) := fun s' hs => ⟨p ++ [c], by rw [List.map_append]; rfl, by rw [en, hs]⟩
    generalize p.foldl stp ([], []) = s at hb done
    obtain ⟨F, R⟩ := s
    have hb : F.length + R.length ≤ 0 + 0 + p.length := hb
    refine W.ite (fun hq => ?_) fun hq => ?_
    · rw [inS_let] at hq
      have hq := of_decide_eq_true hq
      refine W.grd (by rw [St_len, St_len]; show _ + 1 ≤ _; omega) (W.lt ?_)
      have hd := done (F, R ++ [c]) (by unfold stp; rw [if_pos hq])
      show ∃ _, _
      rw [St_app]
      exact hd
    · rw [inS_let] at hq
      have hq := of_decide_eq_false hq
      refine W.eq (a := (flu (F, R), ("" : Str))) ?_ ?_
      · by_cases hR : R = []
        · subst hR
          exact (ifo_f (show (!decide (St [] = "")) = false from rfl)).trans rfl
        · refine (ifo_t (by rw [decide_eq_false (fun q => hR (St_nil.mp q))]; rfl)).trans ?_
          rw [grd_of (by omega)]
          show some (F ++ [St R], _) = _
          unfold flu
          rw [if_neg hR]
      · rw [un2_mk]
        refine W.ite (fun hp => ?_) fun hp => ?_
        · rw [inS_sg] at hp
          have hp := of_decide_eq_true hp
          have hfl : (flu (F, R)).length ≤ F.length + R.length := by
            unfold flu
            split
            · show F.length ≤ _; omega
            · rename_i hne
              have := List.length_pos_iff.mpr hne
              show (F ++ [_]).length ≤ _
              have this : 0 < R.length := this
              rw [List.length_append, List.length_singleton]; omega
          refine W.grd (by omega) (W.lt ?_)
          exact done (flu (F, R) ++ [St [c]], []) (by unfold stp; rw [if_neg hq, if_neg (by omega)])
        · rw [inS_sg] at hp
          have hp := of_decide_eq_false hp
          have h32 : c = 32 := by rcases hc with h | h | h | h | h <;> omega
          subst h32
          refine W.f (show (!decide (St [32] = " ")) = false by decide) ?_
          exact done (flu (F, R), []) (by unfold stp; rw [if_neg hq, if_pos rfl, List.append_nil])
  · rintro _ ⟨p, ep, rfl⟩
    have : p = l := by
      have h := congrArg (List.flatMap TL.tl) ep
      rw [List.flatMap_map, List.flatMap_map] at h
      simpa [tl_St] using h.symm
    subst this
    have hb := stp_size p ([], [])
    have hb : (p.foldl stp ([], [])).1.length + (p.foldl stp ([], [])).2.length ≤ 0 + 0 + p.length := hb
    generalize p.foldl stp ([], []) = s at hb
    obtain ⟨F, R⟩ := s
    have hb : F.length + R.length ≤ 0 + 0 + p.length := hb
    rw [un2_mk]
    refine W.eq (a := flu (F, R)) ?_ rfl
    by_cases hR : R = []
    · subst hR
      exact (ifo_f (show (!decide (St [] = "")) = false from rfl)).trans rfl
    · refine (ifo_t (by rw [decide_eq_false (fun q => hR (St_nil.mp q))]; rfl)).trans ?_
      rw [grd_of (by omega)]
      show some (F ++ [St R]) = _
      unfold flu
      rw [if_neg hR]
end B

namespace B
open PySem Z E L2 CwR PySem.StrLaws
instance (c : Nat) : Decidable (Ok c) := by unfold Ok; exact inferInstance
theorem chS_at0 {s : Str} {k : Nat} (h : k < (TL.tl s).length) : chS s (k : Int) = some (St [(TL.tl s)[k]]) := by
  unfold chS
  rw [show L2.atI s.cps.toList (k : Int) = some (TL.tl s)[k] from atI_nat' h]
  rfl
theorem words_bad {l : List Nat} (hz : l.length ≤ 1000000) {o : Nat} (ho : o ∈ l) (hb : ¬ Ok o) : m_words (St l) = some none := by
  refine W.got ?_
  unfold m_words
  refine W.lt ?_
  have e : sgs (St l) = l.map fun c => St [c] := rfl
  rw [e]
  refine W.brk (W.forR_pre (fun pre (s : List Str × Str) => ∃ p : List Nat, pre = (p.map fun c => St [c]) ∧ (∀ c ∈ p, Ok c) ∧ s = ((p.foldl stp ([], [])).1, St (p.foldl stp ([], [])).2)) _ ⟨[], rfl, fun c hc => absurd hc List.not_mem_nil, rfl⟩ ?_) ?_
  · rintro pre x suf _ ex ⟨p, rfl, hp, rfl⟩
    rw [un2_mk]
    obtain ⟨c, q, rfl, hl⟩ : ∃ c q, x = St [c] ∧ l = p ++ c :: q := by
      obtain ⟨a, b, e1, e2, e3⟩ := List.map_eq_append_iff.mp ex
      obtain ⟨c, q, f1, f2, f3⟩ := List.map_eq_cons_iff.mp e3
      have ea : a = p := by
        have h := congrArg (List.flatMap TL.tl) e2
        rw [List.flatMap_map, List.flatMap_map] at h
        simpa [tl_St] using h
      exact ⟨c, q, f2.symm, by rw [e1, ea, f1]⟩
    have hb := stp_size p ([], [])
    have hpl : p.length + 1 ≤ 1000000 := by rw [hl, List.length_append, List.length_cons] at hz; omega
    have hb : (p.foldl stp ([], [])).1.length + (p.foldl stp ([], [])).2.length ≤ 0 + 0 + p.length := hb
    have en : (p ++ [c]).foldl stp ([], []) = stp (p.foldl stp ([], [])) c := by rw [List.foldl_append]; rfl
    have done : Ok c → ∀ s' : List Str × List Nat, s' = stp (p.foldl stp ([], [])) c → ∃ p' : List Nat, ((p.map fun c => St [c]) ++ [St [c]]) = (p'.map fun c => St [c]) ∧ (∀ c ∈ p', Ok c) ∧ (s'.1, St s'.2) = ((p'.foldl stp ([], [])).1, St (p'.foldl stp ([], [])).2) := fun hc s' hs => ⟨p ++ [c], by rw [List.map_append]; rfl, fun z hz => (List.mem_append.mp hz).elim (hp z) fun q => by rw [List.mem_singleton.mp q]; exact hc, by rw [en, hs]⟩
    generalize p.foldl stp ([], []) = s at hb done
    obtain ⟨F, R⟩ := s
    have hb : F.length + R.length ≤ 0 + 0 + p.length := hb
    refine W.ite (fun hq => ?_) fun hq => ?_
    · rw [inS_let] at hq
      have hq := of_decide_eq_true hq
      refine W.grd (by rw [St_len, St_len]; show _ + 1 ≤ _; omega) (W.lt ?_)
      have hd := done (.inl hq) (F, R ++ [c]) (by unfold stp; rw [if_pos hq])
      show ∃ _, _
      rw [St_app]
      exact hd
    · rw [inS_let] at hq
      have hq := of_decide_eq_false hq
      refine W.eq (a := (flu (F, R), ("" : Str))) ?_ ?_
      · by_cases hR : R = []
        · subst hR
          exact (ifo_f (show (!decide (St [] = "")) = false from rfl)).trans rfl
        · refine (ifo_t (by rw [decide_eq_false (fun q => hR (St_nil.mp q))]; rfl)).trans ?_
          rw [grd_of (by omega)]
          show some (F ++ [St R], _) = _
          unfold flu
          rw [if_neg hR]
      · rw [un2_mk]
        refine W.ite (fun hp => ?_) fun hp => ?_
        · rw [inS_sg] at hp
          have hp := of_decide_eq_true hp
          have hfl : (flu (F, R)).length ≤ F.length + R.length := by
            unfold flu
            split
            · show F.length ≤ _; omega
            · rename_i hne
              have := List.length_pos_iff.mpr hne
              show (F ++ [_]).length ≤ _
              have this : 0 < R.length := this
              rw [List.length_append, List.length_singleton]; omega
          refine W.grd (by omega) (W.lt ?_)
          exact done (by unfold Ok; omega) (flu (F, R) ++ [St [c]], []) (by unfold stp; rw [if_neg hq, if_neg (by omega)])
        · rw [inS_sg] at hp
          have hp := of_decide_eq_false hp
          refine W.ite (fun hs => rfl) fun hs => ?_
          have hs : St [c] = " " := by
            by_cases h : St [c] = " "
            · exact h
            · rw [decide_eq_false h] at hs; exact absurd hs (by decide)
          have h32 : c = 32 := by
            have := St_inj (b := [32]) hs
            injection this
          subst h32
          exact done (.inr (.inl rfl)) (flu (F, R), []) (by unfold stp; rw [if_neg hq, if_pos rfl, List.append_nil])
  · rintro _ ⟨p, ep, hp, rfl⟩
    have : p = l := by
      have h := congrArg (List.flatMap TL.tl) ep
      rw [List.flatMap_map, List.flatMap_map] at h
      simpa [tl_St] using h.symm
    subst this
    exact absurd (hp o ho) hb
/-! the law's cut -/
def sp1 (c d : Nat) : List Nat := if d = c then [32, c, 32] else [d]
theorem repl_one (c : Nat) : ∀ l : List Nat, replL [c] [32, c, 32] l = l.flatMap (sp1 c)
  | [] => replL_nil
  | d :: l => by
    rw [List.flatMap_cons, ← repl_one c l]
    by_cases h : d = c
    · subst h
      rw [replL_hit (by simp) rfl]
      unfold sp1
      rw [if_pos rfl]; rfl
    · rw [replL_miss (by intro q; injection q with q; exact h q)]
      unfold sp1
      rw [if_neg h]; rfl
def sp (d : Nat) : List Nat := if d = 40 ∨ d = 41 ∨ d = 44 then [32, d, 32] else [d]
theorem sp_all (l : List Nat) : ((l.flatMap (sp1 40)).flatMap (sp1 41)).flatMap (sp1 44) = l.flatMap sp := by
  rw [List.flatMap_assoc, List.flatMap_assoc]
  congr 1
  funext d
  unfold sp sp1
  by_cases h1 : d = 40
  · subst h1; decide
  · by_cases h2 : d = 41
    · subst h2; decide
    · by_cases h3 : d = 44
      · subst h3; decide
      · rw [if_neg h1, if_neg (by omega)]
        simp [h2, h3]
theorem flat_len {f : Nat → List Nat} (h : ∀ d, (f d).length ≤ 3) : ∀ l : List Nat, (l.flatMap f).length ≤ 3 * l.length
  | [] => Nat.le_refl _
  | d :: l => by
    have := h d
    have := flat_len h l
    rw [List.flatMap_cons, List.length_append, List.length_cons]; omega
theorem cut_words : ∀ (l : List Nat) (F : List Str) (acc : List Nat), (∀ c ∈ l, Ok c) → F ++ ((TL.spl [32] 0 acc (l.flatMap sp)).filter fun x => !decide (x = [])).map St = flu (l.foldl stp (F, acc))
  | [], F, acc, _ => by
    rw [List.flatMap_nil, TL.spl_nil]
    show F ++ ([acc].filter _).map St = flu (F, acc)
    unfold flu
    by_cases h : acc = []
    · rw [if_pos h, List.filter_cons, if_neg (by rw [decide_eq_true h]; decide)]; exact List.append_nil _
    · rw [if_neg h, List.filter_cons, if_pos (by rw [decide_eq_false h]; rfl)]; rfl
  | c :: l, F, acc, ho => by
    have ih := fun F acc => cut_words l F acc fun x hx => ho x (List.mem_cons_of_mem _ hx)
    have hit : ∀ (acc r : List Nat), TL.spl [32] 0 acc (32 :: r) = acc :: TL.spl [32] 0 [] r := fun acc r => TL.spl_hit rfl
    have mis : ∀ (acc r : List Nat) (d : Nat), d ≠ 32 → TL.spl [32] 0 acc (d :: r) = TL.spl [32] 0 (acc ++ [d]) r := fun acc r d h => by
      show (if TL.pre [32] (d :: r) = true then _ else _) = _
      rw [if_neg]
      show ¬ (([d] == [32]) = true)
      rw [beq_iff_eq]
      intro q
      injection q with q
      exact h q
    have fil : ∀ (acc : List Nat) (X : List (List Nat)), F ++ ((acc :: X).filter fun x => !decide (x = [])).map St = flu (F, acc) ++ (X.filter fun x => !decide (x = [])).map St := fun acc X => by
      unfold flu
      by_cases h : acc = []
      · rw [if_pos h, List.filter_cons, if_neg (by rw [decide_eq_true h]; decide)]
      · rw [if_neg h, List.filter_cons, if_pos (by rw [decide_eq_false h]; rfl), List.map_cons, List.append_assoc]; rfl
    rw [List.flatMap_cons, List.foldl_cons]
    rcases ho c List.mem_cons_self with h | h
    · have e1 : sp c = [c] := by unfold sp; rw [if_neg (by omega)]
      have e2 : stp (F, acc) c = (F, acc ++ [c]) := by unfold stp; rw [if_pos h]
      rw [e1, e2, ← ih]
      show F ++ ((TL.spl [32] 0 acc (c :: l.flatMap sp)).filter _).map St = _
      rw [mis _ _ _ (by omega)]
    · rcases h with rfl | h
      · have e1 : sp 32 = [32] := by decide
        have e2 : stp (F, acc) 32 = (flu (F, acc), []) := by unfold stp; rw [if_neg (by omega), if_pos rfl, List.append_nil]
        rw [e1, e2, ← ih]
        show F ++ ((TL.spl [32] 0 acc (32 :: l.flatMap sp)).filter _).map St = _
        rw [hit, fil]
      · have e1 : sp c = [32, c, 32] := by unfold sp; rw [if_pos h]
        have e2 : stp (F, acc) c = (flu (F, acc) ++ [St [c]], []) := by unfold stp; rw [if_neg (by omega), if_neg (by omega)]
        rw [e1, e2, ← ih]
        show F ++ ((TL.spl [32] 0 acc (32 :: c :: 32 :: l.flatMap sp)).filter _).map St = _
        rw [hit, mis _ _ _ (by omega), hit, fil, List.append_assoc]
        rfl
theorem spl_len : ∀ (m acc : List Nat), (TL.spl [32] 0 acc m).length ≤ m.length + 1
  | [], acc => by rw [TL.spl_nil]; exact Nat.le_refl _
  | c :: m, acc => by
    show (if TL.pre [32] (c :: m) = true then acc :: TL.spl [32] 0 [] m else TL.spl [32] 0 (acc ++ [c]) m).length ≤ _
    split
    · have := spl_len m []
      rw [List.length_cons, List.length_cons]; omega
    · have := spl_len m (acc ++ [c])
      rw [List.length_cons]; omega
theorem fil_map : ∀ L : List (List Nat), (L.map St).filterMap (fun x : Str => if x = "" then none else some x) = (L.filter fun x => !decide (x = [])).map St
  | [] => rfl
  | a :: L => by
    rw [List.map_cons, List.filterMap_cons, List.filter_cons, fil_map L]
    by_cases h : a = []
    · rw [if_pos (St_nil.mpr h), if_neg (by rw [decide_eq_true h]; decide)]
    · rw [if_neg (fun q => h (St_nil.mp q)), if_pos (by rw [decide_eq_false h]; rfl)]; rfl
theorem cut_eq {l : List Nat} (ho : ∀ c ∈ l, Ok c) (hz : l.length ≤ 4000) : m__law_cut (St l) = some (flu (l.foldl stp ([], []))) := by
  have one : ∀ (c : Nat) (m : List Nat), m.length ≤ 200000 → (grd (gRep (St m) (spc (St [c]))) <| some (Txt.replace (St m) (St [c]) (spc (St [c])))) = some (St (m.flatMap (sp1 c))) := fun c m hm => by
    have es : spc (St [c]) = St [32, c, 32] := by
      unfold spc
      rw [show (" " : Str) = St [32] from rfl, St_app, St_app]; rfl
    rw [es, grd_of (by unfold gRep; rw [St_len, St_len]; show _ + (_ + 1) * 3 ≤ _; omega)]
    refine congrArg some (TL.ext_tl ?_)
    rw [tl_St, ← repl_one]
    exact replace_list (Nat.le_refl _)
  have s3 : ∀ c d, (sp1 c d).length ≤ 3 := fun c d => by unfold sp1; split <;> simp
  have l1 := flat_len (s3 40) l
  have l2 := flat_len (s3 41) (l.flatMap (sp1 40))
  have l3 := flat_len (s3 44) ((l.flatMap (sp1 40)).flatMap (sp1 41))
  unfold m__law_cut
  rw [show sgs ("()," : Str) = [St [40], St [41], St [44]] from rfl, forO_cons, one 40 l (by omega), sb, forO_cons, one 41 _ (by omega), sb, forO_cons, one 44 _ (by omega), sb, forO_nil, sb, sp_all]
  rw [sp_all] at l3
  rw [grd_of (by rw [St_len]; omega)]
  have es : Txt.split (St (l.flatMap sp)) " " = (TL.spl [32] 0 [] (l.flatMap sp)).map St := TL.map_tl_inj (by
    rw [TL.split_spl _ _ (by decide) (TL.kind_ok (by decide +kernel)), List.map_map, tl_St]
    exact (List.map_id _).symm)
  have hsl := spl_len (l.flatMap sp) []
  rw [es, compO_eq (g := fun x : Str => if x = "" then none else some x) (by rw [List.length_map]; omega) fun x _ => by
    by_cases h : x = ""
    · rw [if_pos h, ifo_f (by rw [decide_eq_true h]; rfl)]
    · rw [if_neg h, ifo_t (by rw [decide_eq_false h]; rfl)], sb, fil_map, ← cut_words l [] [] ho]
  rfl
/-! the pieces -/
theorem piece_ok (cell : Int) : OP (m__law_piece cell) fun s => ∃ l, s = St l ∧ (∀ c ∈ l, Ok c) ∧ l.length ≤ 5 := by
  unfold m__law_piece
  refine W.lt (W.lt ?_)
  obtain ⟨k, hk, ek⟩ := mod_nat cell (n := 12) (by decide)
  have ek : cell % 12 = (k : Int) := ek
  rw [ek]
  generalize cell / 12 = more
  refine W.ite (fun _ => ?_) fun h1 => W.ite (fun _ => ?_) fun h2 => ?_
  · obtain ⟨i, hi, ei⟩ := mod_nat more (n := 26) (by decide)
    have ei : more % 26 = (i : Int) := ei
    obtain ⟨g, hg, eg⟩ := mod_nat (more / 26) (n := 5) (by decide)
    have eg : more / 26 % 5 = (g : Int) := eg
    rw [ei, eg, show (1 : Int) + (g : Int) = ((g + 1 : Nat) : Int) by omega]
    refine W.grd (by decide) (W.eq (ch_let hi) (W.grd ⟨by rw [St_len]; show 1 ≤ 4096; decide, by omega, by omega⟩ ⟨List.replicate (g + 1) (97 + i), ?_, ?_, ?_⟩))
    · have key : ((List.range 26).all fun i => (List.range 5).all fun g => decide (Txt.mul (St [97 + i]) ((g + 1 : Nat) : Int) = St (List.replicate (g + 1) (97 + i)))) = true := by decide +kernel
      exact of_decide_eq_true (List.all_eq_true.mp (List.all_eq_true.mp key i (List.mem_range.mpr hi)) g (List.mem_range.mpr hg))
    · intro c hc
      rw [List.eq_of_mem_replicate hc]
      exact .inl (by omega)
    · rw [List.length_replicate]; omega
  · obtain ⟨g, hg, eg⟩ := mod_nat more (n := 3) (by decide)
    have eg : more % 3 = (g : Int) := eg
    rw [eg, show (1 : Int) + (g : Int) = ((g + 1 : Nat) : Int) by omega]
    refine W.grd ⟨by decide, by omega, by omega⟩ ⟨List.replicate (g + 1) 32, ?_, ?_, ?_⟩
    · have key : ((List.range 3).all fun g => decide (Txt.mul (" " : Str) ((g + 1 : Nat) : Int) = St (List.replicate (g + 1) 32))) = true := by decide +kernel
      exact of_decide_eq_true (List.all_eq_true.mp key g (List.mem_range.mpr hg))
    · intro c hc
      rw [List.eq_of_mem_replicate hc]
      exact .inr (.inl rfl)
    · rw [List.length_replicate]; omega
  · have h2 := of_decide_eq_false h2
    rw [show (k : Int) - 9 = ((k - 9 : Nat) : Int) by omega]
    have hj : k - 9 < 3 := by omega
    generalize k - 9 = j at hj
    refine W.grd (by decide) ?_
    match j, hj with
    | 0, _ => exact W.eq (a := St [40]) (by decide) ⟨[40], rfl, by decide, by decide⟩
    | 1, _ => exact W.eq (a := St [41]) (by decide) ⟨[41], rfl, by decide, by decide⟩
    | 2, _ => exact W.eq (a := St [44]) (by decide) ⟨[44], rfl, by decide, by decide⟩
def oth : Str := "ABCDEFGHIJKLMNOPQRSTUVWXYZ0123456789!\"#$&'*+-./:;<=>?\x40[\\]^_`{|}~\n\t"
theorem other_ok (cell : Int) : OP (m__law_other cell) fun s => ∃ o, s = St [o] ∧ ¬ Ok o := by
  unfold m__law_other
  refine W.lt ?_
  show OP (grd (oth.length ≤ 16777216) <| grd (0 < (oth.length : Int)) <| grd (oth.length ≤ 16777216) <| (chS oth (cell % (oth.length : Int))).bind fun i6 => some i6) _
  have hl : oth.length = (TL.tl oth).length := TL.len_tl oth
  have hp : 0 < oth.length := by decide +kernel
  have hs : oth.length ≤ 1000 := by decide +kernel
  obtain ⟨k, hk, ek⟩ := mod_nat cell (n := oth.length) hp
  rw [ek]
  refine W.grd (by omega) (W.grd (by omega) (W.grd (by omega) (W.eq (chS_at0 (by omega)) ⟨_, rfl, ?_⟩)))
  have key : ∀ c ∈ TL.tl oth, ¬ Ok c := by decide +kernel
  exact key _ (List.getElem_mem _)
theorem same_ok (a : List Str) (hl : a.length ≤ 1000000) : m__law_same (some a) a = some true := by
  refine W.got ?_
  unfold m__law_same
  refine W.eq (a := false) ?_ (W.f rfl (W.grd (gR_nat (by omega)) ?_))
  · refine (ifo_f rfl).trans ?_
    show some (!decide _) = _
    rw [decide_eq_true rfl]; rfl
  · rw [Int.toNat_natCast]
    refine W.brk (W.forR_r (fun _ _ => True) _ trivial fun i _ hi _ => ?_) fun _ _ => rfl
    refine W.eq rfl (W.eq (atI_nat' hi) (W.eq (a := false) ?_ (W.f rfl trivial)))
    refine (ifo_f rfl).trans ?_
    rw [sb, atI_nat' hi, sb, sb, decide_eq_true rfl]; rfl
theorem law_true (ns : List Int) (_hn : ns.length ≤ 63) : m_law ns = some true := by
  obtain ⟨v0, t0⟩ := cell_at_eq ns 0
  refine W.got ?_
  unfold m_law
  refine W.lt (W.bind (P := fun s => ∃ l, s = St l ∧ (∀ c ∈ l, Ok c) ∧ l.length ≤ 3500) ?_ ?_)
  · have hc : (cutI ns (some 1) (some 701)).length ≤ 700 := by
      rw [show (1 : Int) = ((1 : Nat) : Int) from rfl, show (701 : Int) = ((701 : Nat) : Int) from rfl]
      unfold cutI
      rw [HT.sIx_nat, HT.sIx_nat, List.length_take]
      omega
    refine W.as (W.for_pre (fun pre (s : Str) => ∃ l, s = St l ∧ (∀ c ∈ l, Ok c) ∧ l.length ≤ 5 * pre.length) ⟨[], rfl, fun c hc => absurd hc List.not_mem_nil, Nat.le_refl _⟩ ?_) ?_
    · rintro pre x suf _ e ⟨l, rfl, h1, h2⟩
      have hpl := congrArg List.length e
      rw [List.length_append, List.length_cons] at hpl
      refine W.bind (piece_ok x) ?_
      rintro _ ⟨m, rfl, m1, m2⟩
      refine W.grd (by rw [St_len, St_len]; omega) (W.lt ⟨l ++ m, St_app _ _, fun c hc => (List.mem_append.mp hc).elim (h1 c) (m1 c), ?_⟩)
      rw [List.length_append, List.length_append, List.length_singleton]; omega
    · rintro s ⟨l, e, h1, h2⟩
      exact ⟨l, e, h1, by omega⟩
  · rintro _ ⟨l, rfl, h1, h2⟩
    refine W.eq t0 ?_
    have hfl : (flu (l.foldl stp ([], []))).length ≤ 1000000 := by
      have hb := stp_size l ([], [])
      have hb : (l.foldl stp ([], [])).1.length + (l.foldl stp ([], [])).2.length ≤ 0 + 0 + l.length := hb
      unfold flu
      split
      · omega
      · rw [List.length_append, List.length_singleton]; omega
    have ew := words_fold h1 (by omega)
    have ec := cut_eq h1 (by omega)
    generalize flu (l.foldl stp ([], [])) = F at ew ec hfl
    refine W.grd (by rw [St_len]; omega) (W.grd (by omega) ?_)
    rw [St_len]
    obtain ⟨p, hp, ep⟩ := mod_nat (v0 / 3) (n := l.length + 1) (by omega)
    have ep : v0 / 3 % ((l.length : Int) + 1) = (p : Int) := ep
    rw [ep]
    refine W.lt (W.brk (P := fun _ => True) (W.ite (fun _ => ?_) fun _ => trivial) fun _ _ => ?_)
    · refine W.grd (by omega) (W.bind (other_ok _) ?_)
      rintro _ ⟨o, rfl, ho⟩
      rw [St_cut, St_cut, cutI_to, cutI_from, St_app, St_app]
      refine W.grd (by rw [St_len, St_len, List.length_take]; show _ + 1 ≤ _; omega) (W.grd (by omega) (W.grd (by rw [St_len, St_len, List.length_append, List.length_take, List.length_drop]; show _ + 1 + _ ≤ _; omega) (W.lt ?_)))
      refine W.eq (words_bad (o := o) (by rw [List.length_append, List.length_append, List.length_take, List.length_drop]; show _ + 1 + _ ≤ _; omega) (by simp) ho) (W.f rfl trivial)
    · refine W.eq ew ?_
      show OP (Option.bind _ _) _
      refine W.eq ec (W.eq (same_ok F hfl) (W.f rfl (W.eq ew (W.eq (same_ok F hfl) rfl))))
end B

namespace E
open PySem PySem.Spec PyProof.Rows L2 Z
def spLaw (K : PySem.W.Frag) : Sp := fun vs H Q _ => ∃ (a : Addr) (ns : List Int), vs = [.ref a] ∧ SqL K H a (ns.map V.int) ∧ ns.length ≤ 63 ∧ ∀ H', Q (.bl true) H'
theorem law_ok {P : Program} {w : World} {K : PySem.W.Frag} {mg : Str → Option Value} {base : Heap} (T : Tx K mg) : FnOk P w K mg base CX0 2 T.f_law T.d_law ["_law_script"] (spLaw K) :=
  (ok_law T).imp fun vs H Q E h => by
    obtain ⟨a, ns, rfl, hS, hl, k⟩ := h
    exact ⟨H, _, ns, rfl, Same.refl _, RdL.start hS (RL.map V.int (fun _ => rfl) ns), OP.mk (B.law_true ns hl) fun _ H' _ => k H'⟩
theorem all_mk {l : PySem.W.OpenLaw} {w : World} {K : PySem.W.Frag} {h : Heap} {mg : Str → Option Value} {fa : Addr} (X : K.In h) (G : h.Ns mainGlobals mg) (hfa : mg "law" = some (.ref fa))
    {f0 f1 f2 f3 f4 f5 f6 : Addr}
    {od0 an0 : Option Addr} {sl0 : Array (Option Value)} {oc0 kV0 dc0 pm0 cd0 ct0 : Value}
    (a0 : PySem.W.nsIn K mainGlobals "_law_cell_at" = some (some (.ref f0)))
    {od1 an1 : Option Addr} {sl1 : Array (Option Value)} {oc1 kV1 dc1 pm1 cd1 ct1 : Value}
    (a1 : PySem.W.nsIn K mainGlobals "_law_cut" = some (some (.ref f1)))
    {od2 an2 : Option Addr} {sl2 : Array (Option Value)} {oc2 kV2 dc2 pm2 cd2 ct2 : Value}
    (a2 : PySem.W.nsIn K mainGlobals "_law_other" = some (some (.ref f2)))
    {od3 an3 : Option Addr} {sl3 : Array (Option Value)} {oc3 kV3 dc3 pm3 cd3 ct3 : Value}
    (a3 : PySem.W.nsIn K mainGlobals "_law_piece" = some (some (.ref f3)))
    {od4 an4 : Option Addr} {sl4 : Array (Option Value)} {oc4 kV4 dc4 pm4 cd4 ct4 : Value}
    (a4 : PySem.W.nsIn K mainGlobals "_law_same" = some (some (.ref f4)))
    {od5 an5 : Option Addr} {sl5 : Array (Option Value)} {oc5 kV5 dc5 pm5 cd5 ct5 : Value}
    (a5 : PySem.W.nsIn K mainGlobals "words" = some (some (.ref f5)))
    {od6 an6 : Option Addr} {sl6 : Array (Option Value)} {oc6 kV6 dc6 pm6 cd6 ct6 : Value}
    (a6 : PySem.W.nsIn K mainGlobals "law" = some (some (.ref f6)))
    (l0 : K.lookup f0 = some ⟨oc0, od0, .func (PySem.W.fnOf "_law_cell_at" "_law_cell_at" (defArgs (top 5)) (defBody (top 5)) (defScope (top 5)) .none kV0 dc0 pm0 an0 cd0 ct0), sl0⟩) (c0 : PySem.W.codeIn K cd0 "_law_cell_at" = true) (k0 : PySem.W.keepIn K (.ref f0) = true)
    (l1 : K.lookup f1 = some ⟨oc1, od1, .func (PySem.W.fnOf "_law_cut" "_law_cut" (defArgs (top 8)) (defBody (top 8)) (defScope (top 8)) .none kV1 dc1 pm1 an1 cd1 ct1), sl1⟩) (c1 : PySem.W.codeIn K cd1 "_law_cut" = true) (k1 : PySem.W.keepIn K (.ref f1) = true)
    (l2 : K.lookup f2 = some ⟨oc2, od2, .func (PySem.W.fnOf "_law_other" "_law_other" (defArgs (top 7)) (defBody (top 7)) (defScope (top 7)) .none kV2 dc2 pm2 an2 cd2 ct2), sl2⟩) (c2 : PySem.W.codeIn K cd2 "_law_other" = true) (k2 : PySem.W.keepIn K (.ref f2) = true)
    (l3 : K.lookup f3 = some ⟨oc3, od3, .func (PySem.W.fnOf "_law_piece" "_law_piece" (defArgs (top 6)) (defBody (top 6)) (defScope (top 6)) .none kV3 dc3 pm3 an3 cd3 ct3), sl3⟩) (c3 : PySem.W.codeIn K cd3 "_law_piece" = true) (k3 : PySem.W.keepIn K (.ref f3) = true)
    (l4 : K.lookup f4 = some ⟨oc4, od4, .func (PySem.W.fnOf "_law_same" "_law_same" (defArgs (top 9)) (defBody (top 9)) (defScope (top 9)) .none kV4 dc4 pm4 an4 cd4 ct4), sl4⟩) (c4 : PySem.W.codeIn K cd4 "_law_same" = true) (k4 : PySem.W.keepIn K (.ref f4) = true)
    (l5 : K.lookup f5 = some ⟨oc5, od5, .func (PySem.W.fnOf "words" "words" (defArgs (top 3)) (defBody (top 3)) (defScope (top 3)) .none kV5 dc5 pm5 an5 cd5 ct5), sl5⟩) (c5 : PySem.W.codeIn K cd5 "words" = true) (k5 : PySem.W.keepIn K (.ref f5) = true)
    (l6 : K.lookup f6 = some ⟨oc6, od6, .func (PySem.W.fnOf "law" "law" (defArgs (top 10)) (defBody (top 10)) (defScope (top 10)) .none kV6 dc6 pm6 an6 cd6 ct6), sl6⟩) (c6 : PySem.W.codeIn K cd6 "law" = true) (k6 : PySem.W.keepIn K (.ref f6) = true)
    {tk_ALONE : Tok} (q_ALONE : PySem.W.nsIn K mainGlobals "ALONE" = some (some (Value.str "()," tk_ALONE)))
    {tk_LETTERS : Tok} (q_LETTERS : PySem.W.nsIn K mainGlobals "LETTERS" = some (some (Value.str "abcdefghijklmnopqrstuvwxyz" tk_LETTERS)))
    (z_isinstance : PySem.W.nsIn K mainGlobals "isinstance" = some none)
    (z_len : PySem.W.nsIn K mainGlobals "len" = some none)
    (z_list : PySem.W.nsIn K mainGlobals "list" = some none)
    (z_range : PySem.W.nsIn K mainGlobals "range" = some none)
    (z_str : PySem.W.nsIn K mainGlobals "str" = some none) :
    ∃ fd : FuncData, (∀ (s : Shared) (v : Value), BindsTo s fd ⟨[v], []⟩ [("_law_script", v)]) ∧ ∀ base : Heap, K.In base → base.Ns mainGlobals mg → FnOk l.prog w K mg base CX0 2 fa fd ["_law_script"] (spLaw K) := by
  have e := hfa.symm.trans (PySem.W.mg_of X G a6)
  cases e
  exact ⟨_, fun s v => .of_eq rfl, fun base _ _ => law_ok (T := {
    c := (⟨⟩),
    m__law_cell_at := (PySem.W.mg_of X G a0),
    m__law_cut := (PySem.W.mg_of X G a1),
    m__law_other := (PySem.W.mg_of X G a2),
    m__law_piece := (PySem.W.mg_of X G a3),
    m__law_same := (PySem.W.mg_of X G a4),
    m_words := (PySem.W.mg_of X G a5),
    m_law := (PySem.W.mg_of X G a6),
    f__law_cell_at := (_),
    d__law_cell_at := (_),
    F__law_cell_at := (fun_mk (st := (top 5)) l0 c0 k0),
    b__law_cell_at := ((fun_mk (st := (top 5)) l0 c0 k0).binds (ps := ["_law_script", "_law_k"]) fun _ _ _ _ _ _ us hl => match us, hl with | [_, _], _ => rfl),
    f__law_cut := (_),
    d__law_cut := (_),
    F__law_cut := (fun_mk (st := (top 8)) l1 c1 k1),
    b__law_cut := ((fun_mk (st := (top 8)) l1 c1 k1).binds (ps := ["_law_text"]) fun _ _ _ _ _ _ us hl => match us, hl with | [_], _ => rfl),
    f__law_other := (_),
    d__law_other := (_),
    F__law_other := (fun_mk (st := (top 7)) l2 c2 k2),
    b__law_other := ((fun_mk (st := (top 7)) l2 c2 k2).binds (ps := ["_law_cell"]) fun _ _ _ _ _ _ us hl => match us, hl with | [_], _ => rfl),
    f__law_piece := (_),
    d__law_piece := (_),
    F__law_piece := (fun_mk (st := (top 6)) l3 c3 k3),
    b__law_piece := ((fun_mk (st := (top 6)) l3 c3 k3).binds (ps := ["_law_cell"]) fun _ _ _ _ _ _ us hl => match us, hl with | [_], _ => rfl),
    f__law_same := (_),
    d__law_same := (_),
    F__law_same := (fun_mk (st := (top 9)) l4 c4 k4),
    b__law_same := ((fun_mk (st := (top 9)) l4 c4 k4).binds (ps := ["_law_found", "_law_due"]) fun _ _ _ _ _ _ us hl => match us, hl with | [_, _], _ => rfl),
    f_words := (_),
    d_words := (_),
    F_words := (fun_mk (st := (top 3)) l5 c5 k5),
    b_words := ((fun_mk (st := (top 3)) l5 c5 k5).binds (ps := ["text"]) fun _ _ _ _ _ _ us hl => match us, hl with | [_], _ => rfl),
    f_law := (_),
    d_law := (_),
    F_law := (fun_mk (st := (top 10)) l6 c6 k6),
    b_law := ((fun_mk (st := (top 10)) l6 c6 k6).binds (ps := ["_law_script"]) fun _ _ _ _ _ _ us hl => match us, hl with | [_], _ => rfl),
    q_ALONE := (⟨_, PySem.W.mg_of X G q_ALONE⟩),
    q_LETTERS := (⟨_, PySem.W.mg_of X G q_LETTERS⟩),
    n_isinstance := (PySem.W.mg_none_of X G z_isinstance),
    n_len := (PySem.W.mg_none_of X G z_len),
    n_list := (PySem.W.mg_none_of X G z_list),
    n_range := (PySem.W.mg_none_of X G z_range),
    n_str := (PySem.W.mg_none_of X G z_str) })⟩
end E
open PySem PySem.W PyProof.Rows
set_option maxRecDepth 100000 in
set_option maxHeartbeats 0 in
theorem PySem.Challenge.cw_evernever_k00_words_holds : PySem.Challenge.rw_evernever_k00_words.Holds := by
  w_on; o_law; k_head; (case hw => w_witness2)
  k_fill
  refine L2.walk_of (l := PySem.Challenge.rw_evernever_k00_words) (n := 63) (k := 2) (x := "_law_script") (CX := fun _ => L2.CX0) (sp := fun w => E.spLaw _) rfl (by decide) rfl ⟨rfl, by decide, by decide⟩ (fun w h Y => PySem.W.kIn_of Y) ?F (fun _ _ a ns hl _ hS => ⟨a, ns, rfl, hS, hl, fun _ => rfl⟩) (fun _ _ _ _ _ h => h)
  case F =>
    intro w mg fa h KX G hmg
    refine' E.all_mk KX G hmg ?a0 ?a1 ?a2 ?a3 ?a4 ?a5 ?a6 ?l0 ?c0 ?k0 ?l1 ?c1 ?k1 ?l2 ?c2 ?k2 ?l3 ?c3 ?k3 ?l4 ?c4 ?k4 ?l5 ?c5 ?k5 ?l6 ?c6 ?k6 ?q_ALONE ?q_LETTERS ?z_isinstance ?z_len ?z_list ?z_range ?z_str
    (case a0 => k_is)
    (case a1 => k_is)
    (case a2 => k_is)
    (case a3 => k_is)
    (case a4 => k_is)
    (case a5 => k_is)
    (case a6 => k_is)
    (case l0 => k_is)
    (case c0 => k_is)
    (case k0 => k_is)
    (case l1 => k_is)
    (case c1 => k_is)
    (case k1 => k_is)
    (case l2 => k_is)
    (case c2 => k_is)
    (case k2 => k_is)
    (case l3 => k_is)
    (case c3 => k_is)
    (case k3 => k_is)
    (case l4 => k_is)
    (case c4 => k_is)
    (case k4 => k_is)
    (case l5 => k_is)
    (case c5 => k_is)
    (case k5 => k_is)
    (case l6 => k_is)
    (case c6 => k_is)
    (case k6 => k_is)
    (case q_ALONE => k_is)
    (case q_LETTERS => k_is)
    (case z_isinstance => k_is)
    (case z_len => k_is)
    (case z_list => k_is)
    (case z_range => k_is)
    (case z_str => k_is)
#print axioms PySem.Challenge.cw_evernever_k00_words_holds
