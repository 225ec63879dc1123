import PyProof.Rows.All
import Wide.All
import OpenK.AllK
import Wide.FinOn
import HandS.ForMost
import HandS.ForExc
import HandS.ExcIs
import HandS.Small
import HandS.Text
import HandS.Conv
import HandS.HotCalls
import PyProof.Draws
import KE.KDictSum
import HandS.IsInst
import HandS.WideBits
import HandS.Wide
import HandS.WideMore
import HandS.Steps
import HandS.SortRule
import HandS.SortInts
import HandS.TupLe
import HandS.RevTup
import HandS.Rev
import HandS.Iter
import KE.KDictList
import HandS.DictTup
import HandS.SortOrd
import HandS.Deep
import HandS.DictSubView
import HandS.ReplaceLit
import HandS.ReplaceList
import KE.KStateDown
import HandS.Head0
import HandS.Head1
import HandS.Head2
import HandS.HeadEnd
import HandS.HeadHook1
import HandS.HeadHook2
import PySem.Challenge.RW_evernever_k10_no_chart
set_option Elab.async false
set_option linter.all false
set_option maxRecDepth 100000
set_option maxHeartbeats 8000000
namespace Z
open PySem PySem.Spec PyProof.Rows L2

/-! ### Option as the monad of a mirror: what an answer is wanted for -/
def OP {α : Type} (m : Option α) (A : α → Prop) : Prop := match m with
  | some a => A a
  | none => False
theorem OP.bind {α β : Type} {m : Option α} {k : α → Option β} {A : β → Prop} (h : OP (m.bind k) A) : ∃ x, m = some x ∧ OP (k x) A := by
  cases m with
  | none => exact h.elim
  | some x => exact ⟨x, rfl, h⟩
theorem OP.of {α β : Type} {m : Option α} {k : α → Option β} {A : β → Prop} (h : OP (m.bind k) A) : OP m (fun x => OP (k x) A) := by
  cases m with
  | none => exact h.elim
  | some x => exact h
theorem OP.some {α : Type} {a : α} {A : α → Prop} (h : OP (some a) A) : A a := h
theorem OP.get {α : Type} {m : Option α} {A : α → Prop} (h : OP m A) : ∃ a, m = .some a ∧ A a := by
  cases m with
  | none => exact h.elim
  | some x => exact ⟨x, rfl, h⟩
theorem OP.mk {α : Type} {m : Option α} {a : α} {A : α → Prop} (e : m = .some a) (h : A a) : OP m A := by subst e; exact h
theorem OP.mono {α : Type} {m : Option α} {A B : α → Prop} (h : OP m A) (f : ∀ a, A a → B a) : OP m B := by
  cases m with
  | none => exact h.elim
  | some x => exact f _ h
/-- a guard -/
@[irreducible] def grd {β : Type} (c : Prop) [Decidable c] (k : Option β) : Option β := if c then k else none
theorem OP.grd {β : Type} {c : Prop} {_ : Decidable c} {k : Option β} {A : β → Prop} (h : OP (Z.grd c k) A) : c ∧ OP k A := by
  unfold Z.grd at h
  by_cases hc : c
  · rw [if_pos hc] at h
    exact ⟨hc, h⟩
  · rw [if_neg hc] at h
    exact h.elim
theorem grd_some {β : Type} {c : Prop} {_ : Decidable c} {k : Option β} {r : β} (h : Z.grd c k = some r) : c ∧ k = some r := by
  unfold Z.grd at h
  by_cases hc : c
  · rw [if_pos hc] at h
    exact ⟨hc, h⟩
  · rw [if_neg hc] at h
    cases h
theorem grd_of {β : Type} {c : Prop} [Decidable c] {k : Option β} (h : c) : Z.grd c k = k := by
  unfold Z.grd
  rw [if_pos h]
theorem bind_some {α β : Type} {m : Option α} {k : α → Option β} {r : β} (h : m.bind k = some r) : ∃ x, m = some x ∧ k x = some r := by
  cases m with
  | none => cases h
  | some x => exact ⟨x, rfl, h⟩
/-- a mirror's test -/
@[irreducible] def ifo {α : Type} (c : Bool) (m n : Option α) : Option α := if c = true then m else n
theorem ifo_eq {α : Type} (c : Bool) (m n : Option α) : ifo c m n = if c = true then m else n := by unfold ifo; rfl
theorem ifo_t {α : Type} {c : Bool} {m n : Option α} (h : c = true) : ifo c m n = m := by rw [ifo_eq, if_pos h]
theorem ifo_f {α : Type} {c : Bool} {m n : Option α} (h : c = false) : ifo c m n = n := by rw [ifo_eq, if_neg (by rw [h]; exact Bool.false_ne_true)]
/-- a mirror's loops: without, with an early answer -/
def forO' {α σ : Type} (body : α → σ → Option σ) : List α → σ → Option σ
  | [], s => some s
  | x :: xs, s => (body x s).bind fun s' => forO' body xs s'
@[irreducible] def forO {α σ : Type} (body : α → σ → Option σ) (xs : List α) (s : σ) : Option σ := forO' body xs s
def forR' {α σ ρ : Type} (body : α → σ → Option (σ ⊕ ρ)) : List α → σ → Option (σ ⊕ ρ)
  | [], s => some (.inl s)
  | x :: xs, s => (body x s).bind fun r => match r with
    | .inl s' => forR' body xs s'
    | .inr v => some (.inr v)
@[irreducible] def forR {α σ ρ : Type} (body : α → σ → Option (σ ⊕ ρ)) (xs : List α) (s : σ) : Option (σ ⊕ ρ) := forR' body xs s
def whileO' {σ : Type} (c : σ → Option Bool) (body : σ → Option σ) : Nat → σ → Option σ
  | 0, _ => none
  | n + 1, s => (c s).bind fun b => if b = true then (body s).bind fun s' => whileO' c body n s' else some s
@[irreducible] def whileO {σ : Type} (c : σ → Option Bool) (body : σ → Option σ) (n : Nat) (s : σ) : Option σ := whileO' c body n s
def whileR' {σ ρ : Type} (c : σ → Option Bool) (body : σ → Option (σ ⊕ ρ)) : Nat → σ → Option (σ ⊕ ρ)
  | 0, _ => none
  | n + 1, s => (c s).bind fun b => if b = true then (body s).bind fun r => match r with
    | .inl s' => whileR' c body n s'
    | .inr v => some (.inr v) else some (.inl s)
@[irreducible] def whileR {σ ρ : Type} (c : σ → Option Bool) (body : σ → Option (σ ⊕ ρ)) (n : Nat) (s : σ) : Option (σ ⊕ ρ) := whileR' c body n s
theorem forO_nil {α σ : Type} {body : α → σ → Option σ} {s : σ} : forO body [] s = some s := by unfold forO; rfl
theorem forO_cons {α σ : Type} {body : α → σ → Option σ} {x : α} {xs : List α} {s : σ} : forO body (x :: xs) s = (body x s).bind fun s' => forO body xs s' := by unfold forO; rfl
theorem forR_nil {α σ ρ : Type} {body : α → σ → Option (σ ⊕ ρ)} {s : σ} : forR body [] s = some (.inl s) := by unfold forR; rfl
theorem forR_cons {α σ ρ : Type} {body : α → σ → Option (σ ⊕ ρ)} {x : α} {xs : List α} {s : σ} : forR body (x :: xs) s = (body x s).bind fun r => match r with
    | .inl s' => forR body xs s'
    | .inr v => some (.inr v) := by unfold forR; rfl
theorem whileO_zero {σ : Type} {c : σ → Option Bool} {body : σ → Option σ} {s : σ} : whileO c body 0 s = none := by unfold whileO; rfl
theorem whileO_succ {σ : Type} {c : σ → Option Bool} {body : σ → Option σ} {n : Nat} {s : σ} : whileO c body (n + 1) s = (c s).bind fun b => if b = true then (body s).bind fun s' => whileO c body n s' else some s := by unfold whileO; rfl
theorem whileR_zero {σ ρ : Type} {c : σ → Option Bool} {body : σ → Option (σ ⊕ ρ)} {s : σ} : whileR c body 0 s = none := by unfold whileR; rfl
theorem whileR_succ {σ ρ : Type} {c : σ → Option Bool} {body : σ → Option (σ ⊕ ρ)} {n : Nat} {s : σ} : whileR c body (n + 1) s = (c s).bind fun b => if b = true then (body s).bind fun r => match r with
    | .inl s' => whileR c body n s'
    | .inr v => some (.inr v) else some (.inl s) := by unfold whileR; rfl
def rangeI (lo : Int) (n : Nat) : List Int := (List.range n).map fun (i : Nat) => lo + (i : Int)

/-! ### a datum of Lean's at a value of the heap -/
structure Rep (K : PySem.W.Frag) (α : Type) where
  R : Hp → V → α → Prop
  mono : ∀ {H H' : Hp} {v : V} {x : α}, Same H H' → R H v x → R H' v x
abbrev RL {K : PySem.W.Frag} {α : Type} (τ : Rep K α) (H : Hp) (ws : List V) (xs : List α) : Prop := Paired (τ.R H) ws xs
theorem RL.mono {K : PySem.W.Frag} {α : Type} {τ : Rep K α} {H H' : Hp} (e : Same H H') : ∀ {ws : List V} {xs : List α}, RL τ H ws xs → RL τ H' ws xs
  | _, _, .nil => .nil
  | _, _, .cons a b => .cons (τ.mono e a) (RL.mono e b)
theorem RL.length {K : PySem.W.Frag} {α : Type} {τ : Rep K α} {H : Hp} {ws : List V} {xs : List α} (h : RL τ H ws xs) : ws.length = xs.length := Paired.length h
theorem RL.app {K : PySem.W.Frag} {α : Type} {τ : Rep K α} {H : Hp} : ∀ {ws ws' : List V} {xs xs' : List α}, RL τ H ws xs → RL τ H ws' xs' → RL τ H (ws ++ ws') (xs ++ xs')
  | _, _, _, _, .nil, s => s
  | _, _, _, _, .cons a b, s => .cons a (RL.app b s)
theorem RL.get {K : PySem.W.Frag} {α : Type} {τ : Rep K α} {H : Hp} : ∀ {ws : List V} {xs : List α} {i : Nat} {x : α}, RL τ H ws xs → xs[i]? = some x → ∃ w, ws[i]? = some w ∧ τ.R H w x
  | _, _, _, _, .nil, e => by simp at e
  | _, _, 0, _, .cons r _, e => by simp at e; subst e; exact ⟨_, rfl, r⟩
  | _, _, i + 1, x, .cons _ t, e => by
    obtain ⟨w, h1, h2⟩ := RL.get (i := i) (x := x) t (by simpa using e)
    exact ⟨w, by simpa using h1, h2⟩
theorem RL.set {K : PySem.W.Frag} {α : Type} {τ : Rep K α} {H : Hp} {v : V} {x : α} (r : τ.R H v x) : ∀ {ws : List V} {xs : List α} (i : Nat), RL τ H ws xs → RL τ H (ws.set i v) (xs.set i x)
  | _, _, _, .nil => .nil
  | _, _, 0, .cons _ t => .cons r t
  | _, _, i + 1, .cons q t => .cons q (RL.set r i t)
theorem RL.drop {K : PySem.W.Frag} {α : Type} {τ : Rep K α} {H : Hp} : ∀ {ws : List V} {xs : List α} (n : Nat), RL τ H ws xs → RL τ H (ws.drop n) (xs.drop n)
  | _, _, 0, r => r
  | _, _, _ + 1, .nil => .nil
  | _, _, n + 1, .cons _ t => RL.drop n t
theorem RL.take {K : PySem.W.Frag} {α : Type} {τ : Rep K α} {H : Hp} : ∀ {ws : List V} {xs : List α} (n : Nat), RL τ H ws xs → RL τ H (ws.take n) (xs.take n)
  | _, _, 0, _ => .nil
  | _, _, _ + 1, .nil => .nil
  | _, _, n + 1, .cons r t => .cons r (RL.take n t)
theorem RL.dropLast {K : PySem.W.Frag} {α : Type} {τ : Rep K α} {H : Hp} {ws : List V} {xs : List α} (h : RL τ H ws xs) : RL τ H ws.dropLast xs.dropLast := by
  rw [List.dropLast_eq_take, List.dropLast_eq_take, h.length]
  exact h.take _
theorem RL.reverse {K : PySem.W.Frag} {α : Type} {τ : Rep K α} {H : Hp} : ∀ {ws : List V} {xs : List α}, RL τ H ws xs → RL τ H ws.reverse xs.reverse
  | _, _, .nil => .nil
  | _, _, .cons r t => by
    rw [List.reverse_cons, List.reverse_cons]
    exact (RL.reverse t).app (.cons r .nil)
theorem RL.map {K : PySem.W.Frag} {α : Type} {τ : Rep K α} {H : Hp} (f : α → V) (hf : ∀ x, τ.R H (f x) x) : ∀ xs : List α, RL τ H (xs.map f) xs
  | [] => .nil
  | x :: xs => .cons (hf x) (RL.map f hf xs)
theorem RL.eqmap {K : PySem.W.Frag} {α : Type} {τ : Rep K α} {H : Hp} (f : α → V) (hf : ∀ v x, τ.R H v x → v = f x) : ∀ {ws : List V} {xs : List α}, RL τ H ws xs → ws = xs.map f
  | _, _, .nil => rfl
  | _, _, .cons r t => by
    rw [List.map_cons, hf _ _ r, RL.eqmap f hf t]

section
variable {K : PySem.W.Frag}
def qI : Rep K Int := ⟨fun _ v x => v = .int x, fun _ h => h⟩
def qB : Rep K Bool := ⟨fun _ v x => v = .bl x, fun _ h => h⟩
def qS : Rep K Str := ⟨fun _ v x => v = .str x, fun _ h => h⟩
def qU : Rep K Unit := ⟨fun _ v _ => v = .non, fun _ h => h⟩
def qOpt {α : Type} (τ : Rep K α) : Rep K (Option α) := ⟨fun H v x => match x with | none => v = .non | some y => v ≠ .non ∧ τ.R H v y, fun {H H' v x} e h => by
  cases x with
  | none => exact h
  | some y => exact ⟨h.1, τ.mono e h.2⟩⟩
def qT2 {α β : Type} (τ : Rep K α) (υ : Rep K β) : Rep K (α × β) := ⟨fun H v x => ∃ a w1 w2, v = .ref a ∧ H a = some (.tup [w1, w2]) ∧ τ.R H w1 x.1 ∧ υ.R H w2 x.2, fun {H H' v x} e h => by
  obtain ⟨a, w1, w2, h1, h2, h3, h4⟩ := h
  exact ⟨a, w1, w2, h1, e _ _ h2, τ.mono e h3, υ.mono e h4⟩⟩
def qT3 {α β γ : Type} (τ : Rep K α) (υ : Rep K β) (φ : Rep K γ) : Rep K (α × β × γ) := ⟨fun H v x => ∃ a w1 w2 w3, v = .ref a ∧ H a = some (.tup [w1, w2, w3]) ∧ τ.R H w1 x.1 ∧ υ.R H w2 x.2.1 ∧ φ.R H w3 x.2.2, fun {H H' v x} e h => by
  obtain ⟨a, w1, w2, w3, h1, h2, h3, h4, h5⟩ := h
  exact ⟨a, w1, w2, w3, h1, e _ _ h2, τ.mono e h3, υ.mono e h4, φ.mono e h5⟩⟩
/-- a list that is tracked -/
def qL {α : Type} (τ : Rep K α) : Rep K (List α) := ⟨fun H v x => ∃ a ws, v = .ref a ∧ H a = some (.lst ws) ∧ RL τ H ws x, fun {H H' v x} e h => by
  obtain ⟨a, ws, h1, h2, h3⟩ := h
  exact ⟨a, ws, h1, e _ _ h2, RL.mono e h3⟩⟩
/-- a list that is to be read (the script) -/
def qQ {α : Type} (τ : Rep K α) : Rep K (List α) := ⟨fun H v x => ∃ a ws, v = .ref a ∧ SqL K H a ws ∧ RL τ H ws x, fun {H H' v x} e h => by
  obtain ⟨a, ws, h1, h2, h3⟩ := h
  exact ⟨a, ws, h1, e.seq h2, RL.mono e h3⟩⟩
theorem qL_qQ {α : Type} {τ : Rep K α} {H : Hp} {v : V} {x : List α} (h : (qL τ).R H v x) : (qQ τ).R H v x := by
  obtain ⟨a, ws, h1, h2, h3⟩ := h
  exact ⟨a, ws, h1, SqL.of h2, h3⟩
end

/-! ### heaps: S what stands for good, H the whole; L the lists that a def may change -/
/-- what may change -/
def mo : HO → Bool
  | .tup _ => false
  | _ => true
structure Grow (L : List Addr) (S0 H0 S H : Hp) : Prop where
  ss : Same S0 S
  sh : Same S H
  hh : ∀ a o, a ∉ L → H0 a = some o → H a = some o
  fr : ∀ a o, S0 a = none → H0 a = some o → mo o = true → S a = none
  ne : ∀ a o, H0 a = some o → ∃ o', H a = some o' ∧ (mo o = true → mo o' = true)
/-- a cell: an object that may change -/
structure Cel (L : List Addr) (H0 S H : Hp) (l : Addr) (o : HO) : Prop where
  h : H l = some o
  s : S l = none
  z : H0 l = none ∨ l ∈ L
  m : mo o = true
section
variable {L L' : List Addr} {S0 H0 S H S' H' : Hp} {p l l' : Addr} {o o' : HO}
theorem sne {x : HO} {H : Hp} {a : Addr} (h : H a = some x) : H a ≠ none := by rw [h]; exact fun q => by cases q
theorem Grow.refl (h : Same S H) : Grow L S H S H := ⟨Same.refl _, h, fun _ _ _ e => e, fun _ _ e _ _ => e, fun _ o e => ⟨o, e, id⟩⟩
theorem Grow.ext (g : Grow L S0 H0 S H) (e : Same H H') : Grow L S0 H0 S H' :=
  ⟨g.ss, g.sh.trans e, fun a o hl ha => e _ _ (g.hh a o hl ha), g.fr, fun a o ha => by
    obtain ⟨o', h1, h2⟩ := g.ne a o ha
    exact ⟨o', e _ _ h1, h2⟩⟩
theorem Grow.snone (g : Grow L S0 H0 S H) (hp : H p = none) : S p = none := g.sh.free hp
theorem Grow.hnone (g : Grow L S0 H0 S H) (hp : H p = none) : H0 p = none := by
  cases z : H0 p with
  | none => rfl
  | some x =>
    obtain ⟨o', h1, _⟩ := g.ne p x z
    rw [hp] at h1; cases h1
theorem Grow.imm (g : Grow L S0 H0 S H) (hp : H p = none) : Grow L S0 H0 (upd S p o) (upd H p o) where
  ss := fun a x e => by rw [upd_ne (ne_of_none (g.ss a x e) (g.snone hp))]; exact g.ss a x e
  sh := fun a x e => by
    by_cases h : a = p
    · subst h
      rw [upd_same] at e ⊢
      exact e
    · rw [upd_ne h] at e ⊢
      exact g.sh a x e
  hh := fun a x hl e => by rw [upd_ne (ne_of_none (g.hh a x hl e) hp)]; exact g.hh a x hl e
  fr := fun a x e h m => by
    have n : a ≠ p := fun q => by subst q; rw [g.hnone hp] at h; cases h
    rw [upd_ne n]
    exact g.fr a x e h m
  ne := fun a x h => by
    have n : a ≠ p := fun q => by subst q; rw [g.hnone hp] at h; cases h
    rw [upd_ne n]; exact g.ne a x h
theorem Grow.cell (g : Grow L S0 H0 S H) (hp : H p = none) : Grow L S0 H0 S (upd H p o) := g.ext fun a x e => by rw [upd_ne (ne_of_none e hp)]; exact e
/-- a tuple that stands may be kept for good -/
theorem Grow.tup (g : Grow L S0 H0 S H) {ws : List V} (hp : H p = some (.tup ws)) : Grow L S0 H0 (upd S p (.tup ws)) H where
  ss := fun a x e => by
    by_cases h : a = p
    · subst h
      have q := g.sh _ _ (g.ss _ _ e)
      rw [hp] at q; cases q
      exact upd_same
    · rw [upd_ne h]; exact g.ss a x e
  sh := fun a x e => by
    by_cases h : a = p
    · subst h; rw [upd_same] at e; cases e; exact hp
    · rw [upd_ne h] at e; exact g.sh a x e
  hh := g.hh
  fr := fun a x e h m => by
    have n : a ≠ p := fun q => by
      subst q
      obtain ⟨o', h1, h2⟩ := g.ne _ _ h
      rw [hp] at h1; cases h1
      exact absurd (h2 m) Bool.false_ne_true
    rw [upd_ne n]; exact g.fr a x e h m
  ne := g.ne
theorem Grow.wr (g : Grow L S0 H0 S H) (c : Cel L H0 S H l o') (hm : mo o = true) : Grow L S0 H0 S (upd H l o) where
  ss := g.ss
  sh := fun a x e => by
    have n : a ≠ l := fun q => by subst q; rw [c.s] at e; cases e
    rw [upd_ne n]
    exact g.sh a x e
  hh := fun a x hl e => by
    have n : a ≠ l := fun q => by
      subst q
      rcases c.z with z | z
      · rw [z] at e; cases e
      · exact hl z
    rw [upd_ne n]
    exact g.hh a x hl e
  fr := g.fr
  ne := fun a x h => by
    by_cases q : a = l
    · subst q; exact ⟨o, upd_same, fun _ => hm⟩
    · rw [upd_ne q]; exact g.ne a x h
theorem Grow.call (g : Grow L S0 H0 S H) (c : Grow L' S H S' H') (hL : ∀ l ∈ L', H0 l = none ∨ l ∈ L) : Grow L S0 H0 S' H' where
  ss := g.ss.trans c.ss
  sh := c.sh
  hh := fun a x hl e => c.hh a x (fun q => by
    rcases hL a q with z | z
    · rw [z] at e; cases e
    · exact hl z) (g.hh a x hl e)
  fr := fun a x e h m => by
    obtain ⟨o', h1, h2⟩ := g.ne a x h
    exact c.fr a o' (g.fr a x e h m) h1 (h2 m)
  ne := fun a x h => by
    obtain ⟨o', h1, h2⟩ := g.ne a x h
    obtain ⟨o2, h3, h4⟩ := c.ne a o' h1
    exact ⟨o2, h3, fun m => h4 (h2 m)⟩
theorem Grow.call0 (g : Grow L S0 H0 S H) (c : Grow [] S H S' H') : Grow L S0 H0 S' H' := g.call c fun _ q => by cases q
theorem Grow.same0 (c : Grow [] S H S' H') : Same H H' := fun a o e => c.hh a o (fun q => by cases q) e
/-- a cell that is not to change any more -/
theorem Grow.freeze (g : Grow L S0 H0 S H) (c : Cel L H0 S H l o) (hl : H0 l = none) : Grow L S0 H0 (upd S l o) H where
  ss := fun a x e => by
    have q := g.ss a x e
    rw [upd_ne (ne_of_none q c.s)]; exact q
  sh := fun a x e => by
    by_cases h : a = l
    · subst h; rw [upd_same] at e; cases e; exact c.h
    · rw [upd_ne h] at e; exact g.sh a x e
  hh := g.hh
  fr := fun a x e h m => by
    have n : a ≠ l := fun q => by subst q; rw [hl] at h; cases h
    rw [upd_ne n]
    exact g.fr a x e h m
  ne := g.ne
theorem Cel.own (g : Grow L S0 H0 S H) (e : Same H H') (hp : H p = none) (hp' : H' p = some o) (hm : mo o = true) : Cel L H0 S H' p o := ⟨hp', g.snone hp, .inl (g.hnone hp), hm⟩
theorem Cel.ext (c : Cel L H0 S H l o) (e : Same H H') : Cel L H0 S H' l o := ⟨e _ _ c.h, c.s, c.z, c.m⟩
theorem Cel.wr (c : Cel L H0 S H l o) (hm : mo o' = true) : Cel L H0 S (upd H l o') l o' := ⟨upd_same, c.s, c.z, hm⟩
theorem Cel.wrn (c : Cel L H0 S H l o) (n : l ≠ l') : Cel L H0 S (upd H l' o') l o := ⟨by rw [upd_ne n]; exact c.h, c.s, c.z, c.m⟩
theorem Cel.call (c : Cel L H0 S H l o) (g : Grow L' S H S' H') (n : l ∉ L') : Cel L H0 S' H' l o := ⟨g.hh _ _ n c.h, g.fr _ _ c.s c.h c.m, c.z, c.m⟩
theorem Cel.call0 (c : Cel L H0 S H l o) (g : Grow [] S H S' H') : Cel L H0 S' H' l o := c.call g fun q => by cases q
theorem Cel.mut (c : Cel L H0 S H l o) (g : Grow L' S H S' H') (h : H' l = some o') (hm : mo o' = true) : Cel L H0 S' H' l o' := ⟨h, g.fr _ _ c.s c.h c.m, c.z, hm⟩
theorem Cel.freeze (c : Cel L H0 S H l o) (n : l ≠ l') : Cel L H0 (upd S l' o') H l o := ⟨c.h, by rw [upd_ne n]; exact c.s, c.z, c.m⟩
theorem Cel.ne (c : Cel L H0 S H l o) (hp : H p = none) : l ≠ p := ne_of_none c.h hp
theorem Cel.z0 (c : Cel [] H0 S H l o) : H0 l = none := c.z.elim id fun q => by cases q
theorem same_upd {H : Hp} {p : Addr} {o : HO} (h : H p = none) : Same H (upd H p o) := fun b x e => by
  rw [upd_ne (ne_of_none e h)]
  exact e
end
end Z

namespace Z
open PySem PySem.Spec PyProof.Rows L2

/-! ### the mirror's words -/
def lt {α β : Type} (e : α) (k : α → Option β) : Option β := k e
theorem OP.lt {α β : Type} {e : α} {k : α → Option β} {A : β → Prop} (h : OP (Z.lt e k) A) : ∃ x, e = x ∧ OP (k x) A := ⟨e, rfl, h⟩
theorem lt_some {α β : Type} {e : α} {k : α → Option β} {r : β} (h : Z.lt e k = some r) : ∃ x, e = x ∧ k x = some r := ⟨e, rfl, h⟩
theorem OP.cut {α β : Type} {m : Option α} {k : α → Option β} {A : β → Prop} (h : OP (m.bind k) A) : ∃ B : α → Prop, OP m B ∧ ∀ x, B x → OP (k x) A := ⟨_, OP.of h, fun _ z => z⟩
/-- an early answer, or what follows -/
def SE {σ ρ : Type} (B : σ → Prop) (A : ρ → Prop) : σ ⊕ ρ → Prop
  | .inl s => B s
  | .inr v => A v
def brk {σ ρ : Type} (m : Option (σ ⊕ ρ)) (k : σ → Option ρ) : Option ρ := m.bind fun r => match r with
  | .inl s => k s
  | .inr v => some v
theorem OP.brk {σ ρ : Type} {m : Option (σ ⊕ ρ)} {k : σ → Option ρ} {A : ρ → Prop} (h : OP (Z.brk m k) A) : ∃ B : σ → Prop, OP m (SE B A) ∧ ∀ x, B x → OP (k x) A := by
  refine ⟨fun x => OP (k x) A, ?_, fun _ z => z⟩
  cases m with
  | none => exact h.elim
  | some r => cases r with
    | inl s => exact h
    | inr v => exact h
def un2 {α β γ : Type} (f : α → β → γ) (s : α × β) : γ := f s.1 s.2
def un3 {α β γ δ : Type} (f : α → β → γ → δ) (s : α × β × γ) : δ := f s.1 s.2.1 s.2.2
def un4 {α β γ δ ε : Type} (f : α → β → γ → δ → ε) (s : α × β × γ × δ) : ε := f s.1 s.2.1 s.2.2.1 s.2.2.2
def un5 {α β γ δ ε ζ : Type} (f : α → β → γ → δ → ε → ζ) (s : α × β × γ × δ × ε) : ζ := f s.1 s.2.1 s.2.2.1 s.2.2.2.1 s.2.2.2.2
def un6 {α β γ δ ε ζ η : Type} (f : α → β → γ → δ → ε → ζ → η) (s : α × β × γ × δ × ε × ζ) : η := f s.1 s.2.1 s.2.2.1 s.2.2.2.1 s.2.2.2.2.1 s.2.2.2.2.2
def un0 {γ : Type} (f : γ) (_ : Unit) : γ := f
theorem OP.un0 {γ : Type} {f : Option γ} {u : Unit} {A : γ → Prop} (h : OP (Z.un0 f u) A) : OP f A := h
theorem OP.un2 {α β γ : Type} {f : α → β → Option γ} {a : α} {b : β} {A : γ → Prop} (h : OP (Z.un2 f (a, b)) A) : OP (f a b) A := h
theorem OP.un3 {α β γ δ : Type} {f : α → β → γ → Option δ} {a : α} {b : β} {c : γ} {A : δ → Prop} (h : OP (Z.un3 f (a, b, c)) A) : OP (f a b c) A := h
theorem OP.un4 {α β γ δ ε : Type} {f : α → β → γ → δ → Option ε} {a : α} {b : β} {c : γ} {d : δ} {A : ε → Prop} (h : OP (Z.un4 f (a, b, c, d)) A) : OP (f a b c d) A := h
theorem OP.un5 {α β γ δ ε ζ : Type} {f : α → β → γ → δ → ε → Option ζ} {a : α} {b : β} {c : γ} {d : δ} {e : ε} {A : ζ → Prop} (h : OP (Z.un5 f (a, b, c, d, e)) A) : OP (f a b c d e) A := h
theorem OP.un6 {α β γ δ ε ζ η : Type} {f : α → β → γ → δ → ε → ζ → Option η} {a : α} {b : β} {c : γ} {d : δ} {e : ε} {z : ζ} {A : η → Prop} (h : OP (Z.un6 f (a, b, c, d, e, z)) A) : OP (f a b c d e z) A := h
theorem OP.ite1 {α : Type} {c : Bool} {m n : Option α} {A : α → Prop} (hc : c = true) (h : OP (ifo c m n) A) : OP m A := by rw [ifo_t hc] at h; exact h
theorem OP.ite0 {α : Type} {c : Bool} {m n : Option α} {A : α → Prop} (hc : c = false) (h : OP (ifo c m n) A) : OP n A := by rw [ifo_f hc] at h; exact h
theorem OP.forO {α σ : Type} {body : α → σ → Option σ} {x : α} {xs : List α} {s : σ} {A : σ → Prop} (h : OP (Z.forO body (x :: xs) s) A) : OP (body x s) (fun s' => OP (Z.forO body xs s') A) := by
  rw [forO_cons] at h
  exact OP.of h
theorem OP.forO_nil {α σ : Type} {body : α → σ → Option σ} {s : σ} {A : σ → Prop} (h : OP (Z.forO body [] s) A) : A s := by
  rw [Z.forO_nil] at h
  exact h
theorem OP.forR {α σ ρ : Type} {body : α → σ → Option (σ ⊕ ρ)} {x : α} {xs : List α} {s : σ} {B : σ → Prop} {A : ρ → Prop} (h : OP (Z.forR body (x :: xs) s) (SE B A)) : OP (body x s) (SE (fun s' => OP (Z.forR body xs s') (SE B A)) A) := by
  rw [forR_cons] at h
  have q := OP.of h
  cases e : body x s with
  | none => rw [e] at q; exact q.elim
  | some r =>
    rw [e] at q
    cases r with
    | inl s' => exact q
    | inr v => exact q
theorem OP.forR_nil {α σ ρ : Type} {body : α → σ → Option (σ ⊕ ρ)} {s : σ} {B : σ → Prop} {A : ρ → Prop} (h : OP (Z.forR body [] s) (SE B A)) : B s := by
  rw [Z.forR_nil] at h
  exact h
theorem OP.whileO {σ : Type} {c : σ → Option Bool} {body : σ → Option σ} {n : Nat} {s : σ} {A : σ → Prop} (h : OP (Z.whileO c body n s) A) :
    ∃ n', n = n' + 1 ∧ OP (c s) (fun b => if b = true then OP (body s) (fun s' => OP (Z.whileO c body n' s') A) else A s) := by
  cases n with
  | zero => rw [whileO_zero] at h; exact h.elim
  | succ n' =>
    refine ⟨n', rfl, ?_⟩
    rw [whileO_succ] at h
    have q := OP.of h
    refine q.mono fun b z => ?_
    cases b with
    | true => exact OP.of z
    | false => exact z
theorem OP.whileR {σ ρ : Type} {c : σ → Option Bool} {body : σ → Option (σ ⊕ ρ)} {n : Nat} {s : σ} {B : σ → Prop} {A : ρ → Prop} (h : OP (Z.whileR c body n s) (SE B A)) :
    ∃ n', n = n' + 1 ∧ OP (c s) (fun b => if b = true then OP (body s) (SE (fun s' => OP (Z.whileR c body n' s') (SE B A)) A) else B s) := by
  cases n with
  | zero => rw [whileR_zero] at h; exact h.elim
  | succ n' =>
    refine ⟨n', rfl, ?_⟩
    rw [whileR_succ] at h
    have q := OP.of h
    refine q.mono fun b z => ?_
    cases b with
    | true =>
      have z' := OP.of z
      show OP (body s) _
      refine z'.mono fun r y => ?_
      cases r with
      | inl s' => exact y
      | inr v => exact y
    | false => exact z
@[irreducible] def bigN : Nat := 1000000
theorem bigN_eq : bigN = 1000000 := by unfold bigN; rfl

/-! ### ints -/
abbrev shl (i j : Int) : Int := i * 2 ^ j.toNat
abbrev shr (i j : Int) : Int := i / 2 ^ j.toNat
abbrev band (i j : Int) : Int := Builtin.bitAnd i j
abbrev bor (i j : Int) : Int := Builtin.bitOr i j
abbrev bxor (i j : Int) : Int := Builtin.bitXor i j
abbrev bnot (i : Int) : Int := Builtin.bitNot i
def blen (i : Int) : Int := ((Builtin.Int.intBits i : Nat) : Int)

/-! ### values of expressions that leave the heap as it is -/
section
variable {K : PySem.W.Frag} {σ σ' : L2.St} {H : Hp} {ta tb te : TE} {t u : TT} {x y z v : V} {i j : Int} {b c : Bool}
theorem v_eq {v w : V} (h : Val te σ H v) (e : v = w) : Val te σ H w := e ▸ h
theorem v_o2 {g : Int → Int → V} (ha : Val ta σ H (.int i)) (hb : Val tb σ H (.int j)) : Val (tOp (rI0 g) ta tb) σ H (g i j) := fun Q q => ha _ (hb _ ⟨i, j, rfl, rfl, q⟩)
theorem v_o2c {C : Int → Int → Prop} {g : Int → Int → V} (ha : Val ta σ H (.int i)) (hb : Val tb σ H (.int j)) (hc : C i j) : Val (tOp (rI C g) ta tb) σ H (g i j) := fun Q q => ha _ (hb _ ⟨i, j, rfl, rfl, hc, q⟩)
theorem v_u {g : Int → V} (ha : Val ta σ H (.int i)) : Val (tUn (rU g) ta) σ H (g i) := fun Q q => ha _ ⟨i, rfl, q⟩
theorem dec_int : decide (V.int i = V.int j) = decide (i = j) := decide_eq_decide.mpr ⟨V.int.inj, fun e => by rw [e]⟩
theorem dec_str {s t : Str} : decide (V.str s = V.str t) = decide (s = t) := decide_eq_decide.mpr ⟨V.str.inj, fun e => by rw [e]⟩
theorem dec_bl : decide (V.bl b = V.bl c) = decide (b = c) := decide_eq_decide.mpr ⟨V.bl.inj, fun e => by rw [e]⟩
theorem v_eqI (ha : Val ta σ H (.int i)) (hb : Val tb σ H (.int j)) : Val (tOp rEq ta tb) σ H (.bl (decide (i = j))) := fun Q q => ha _ (hb _ ⟨rfl, by rw [dec_int]; exact q⟩)
theorem v_neI (ha : Val ta σ H (.int i)) (hb : Val tb σ H (.int j)) : Val (tOp rNe ta tb) σ H (.bl (!decide (i = j))) := fun Q q => ha _ (hb _ ⟨rfl, by rw [dec_int]; exact q⟩)
theorem v_eqS {s t : Str} (ha : Val ta σ H (.str s)) (hb : Val tb σ H (.str t)) : Val (tOp rEq ta tb) σ H (.bl (decide (s = t))) := fun Q q => ha _ (hb _ ⟨rfl, by rw [dec_str]; exact q⟩)
theorem v_neS {s t : Str} (ha : Val ta σ H (.str s)) (hb : Val tb σ H (.str t)) : Val (tOp rNe ta tb) σ H (.bl (!decide (s = t))) := fun Q q => ha _ (hb _ ⟨rfl, by rw [dec_str]; exact q⟩)
theorem v_eqB (ha : Val ta σ H (.bl b)) (hb : Val tb σ H (.bl c)) : Val (tOp rEq ta tb) σ H (.bl (decide (b = c))) := fun Q q => ha _ (hb _ ⟨rfl, by rw [dec_bl]; exact q⟩)
theorem v_neB (ha : Val ta σ H (.bl b)) (hb : Val tb σ H (.bl c)) : Val (tOp rNe ta tb) σ H (.bl (!decide (b = c))) := fun Q q => ha _ (hb _ ⟨rfl, by rw [dec_bl]; exact q⟩)
theorem v_test (h : Val te σ H (.bl b)) : Ans (tTest te) σ H b := fun Q q => h _ ⟨b, rfl, q⟩
theorem v_B (h : Val te σ H (.bl b)) : Ans (tB te) σ H b := fun Q q => h _ ⟨b, rfl, q⟩
theorem a_eq (h : Ans t σ H b) (e : b = c) : Ans t σ H c := e ▸ h
theorem a_not (h : Ans t σ H b) : Ans (tNot t) σ H (!b) := fun Q q => h _ q
theorem a_and (h1 : Ans t σ H b) (h2 : Ans u σ H c) : Ans (tAnd t u) σ H (b && c) := fun Q q => h1 _ (by
  cases b with
  | true => exact (show (if true = true then u σ H Q else Q false H) from h2 _ q)
  | false => exact (show (if false = true then u σ H Q else Q false H) from q))
theorem a_or (h1 : Ans t σ H b) (h2 : Ans u σ H c) : Ans (tOr t u) σ H (b || c) := fun Q q => h1 _ (by
  cases b with
  | true => exact (show (if true = true then Q true H else u σ H Q) from q)
  | false => exact (show (if false = true then Q true H else u σ H Q) from h2 _ q))
theorem a_andP {m : Option Bool} (h1 : Ans t σ H b) (hm : ifo b m (some false) = some c) (h2 : b = true → m = some c → Ans u σ H c) : Ans (tAnd t u) σ H c := fun Q q => h1 _ (by
  cases b with
  | true => exact (show (if true = true then u σ H Q else Q false H) from h2 rfl (by first | (rw [ifo_t rfl] at hm; exact hm) | (rw [ifo_f rfl] at hm; exact hm)) _ q)
  | false =>
    have e : false = c := by rw [ifo_f rfl] at hm; exact Option.some.inj hm
    subst e
    exact (show (if false = true then u σ H Q else Q false H) from q))
theorem a_orP {m : Option Bool} (h1 : Ans t σ H b) (hm : ifo b (some true) m = some c) (h2 : b = false → m = some c → Ans u σ H c) : Ans (tOr t u) σ H c := fun Q q => h1 _ (by
  cases b with
  | true =>
    have e : true = c := by rw [ifo_t rfl] at hm; exact Option.some.inj hm
    subst e
    exact (show (if true = true then Q true H else u σ H Q) from q)
  | false => exact (show (if false = true then Q true H else u σ H Q) from h2 rfl (by first | (rw [ifo_t rfl] at hm; exact hm) | (rw [ifo_f rfl] at hm; exact hm)) _ q))
theorem v_and (h1 : Val ta σ H (.bl b)) (h2 : Val tb σ H (.bl c)) : Val (tAndV ta tb) σ H (.bl (b && c)) := fun Q q => h1 _ ⟨b, rfl, by
  cases b with
  | true => exact (show (if true = true then tb σ H Q else Q (.bl false) H) from h2 _ q)
  | false => exact (show (if false = true then tb σ H Q else Q (.bl false) H) from q)⟩
theorem v_or (h1 : Val ta σ H (.bl b)) (h2 : Val tb σ H (.bl c)) : Val (tOrV ta tb) σ H (.bl (b || c)) := fun Q q => h1 _ ⟨b, rfl, by
  cases b with
  | true => exact (show (if true = true then Q (.bl true) H else tb σ H Q) from q)
  | false => exact (show (if false = true then Q (.bl true) H else tb σ H Q) from h2 _ q)⟩
theorem v_not (h : Val ta σ H (.bl b)) : Val (tNotV ta) σ H (.bl (!b)) := fun Q q => h _ ⟨b, rfl, q⟩
theorem v_andP {m : Option Bool} (h1 : Val ta σ H (.bl b)) (hm : ifo b m (some false) = some c) (h2 : b = true → m = some c → Val tb σ H (.bl c)) : Val (tAndV ta tb) σ H (.bl c) := fun Q q => h1 _ ⟨b, rfl, by
  cases b with
  | true => exact (show (if true = true then tb σ H Q else Q (.bl false) H) from h2 rfl (by first | (rw [ifo_t rfl] at hm; exact hm) | (rw [ifo_f rfl] at hm; exact hm)) _ q)
  | false =>
    have e : false = c := by rw [ifo_f rfl] at hm; exact Option.some.inj hm
    subst e
    exact (show (if false = true then tb σ H Q else Q (.bl false) H) from q)⟩
theorem v_orP {m : Option Bool} (h1 : Val ta σ H (.bl b)) (hm : ifo b (some true) m = some c) (h2 : b = false → m = some c → Val tb σ H (.bl c)) : Val (tOrV ta tb) σ H (.bl c) := fun Q q => h1 _ ⟨b, rfl, by
  cases b with
  | true =>
    have e : true = c := by rw [ifo_t rfl] at hm; exact Option.some.inj hm
    subst e
    exact (show (if true = true then Q (.bl true) H else tb σ H Q) from q)
  | false => exact (show (if false = true then Q (.bl true) H else tb σ H Q) from h2 rfl (by first | (rw [ifo_t rfl] at hm; exact hm) | (rw [ifo_f rfl] at hm; exact hm)) _ q)⟩
/-- t[0], t[1] of a pair, xs[i] -/
theorem v_t20 {β : Type} {υ : Rep K β} {p : Int × β} (ha : Val ta σ H v) (hb : Val tb σ H (.int 0)) (hr : (qT2 qI υ).R H v p) : Val (tOp (rIxT K) ta tb) σ H (.int p.1) := by
  obtain ⟨a, w1, w2, rfl, h2, h3, _⟩ := hr
  cases (show w1 = .int p.1 from h3)
  exact fun Q q => ha _ (hb _ ⟨a, _, 0, _, rfl, rfl, SqT.of h2, rfl, q⟩)
theorem v_t21 {α : Type} {τ : Rep K α} {p : α × Int} (ha : Val ta σ H v) (hb : Val tb σ H (.int 1)) (hr : (qT2 τ qI).R H v p) : Val (tOp (rIxT K) ta tb) σ H (.int p.2) := by
  obtain ⟨a, w1, w2, rfl, h2, _, h3⟩ := hr
  cases (show w2 = .int p.2 from h3)
  exact fun Q q => ha _ (hb _ ⟨a, _, 1, _, rfl, rfl, SqT.of h2, rfl, q⟩)
theorem atI_get {α β : Type} {R : α → β → Prop} {ws : List α} {xs : List β} {k : Int} {x : β} (hl : ws.length = xs.length) (hg : ∀ (j : Nat), xs[j]? = some x → ∃ w, ws[j]? = some w ∧ R w x) (h : atI xs k = some x) : ∃ w, atI ws k = some w ∧ R w x := by
  unfold atI at h ⊢
  rw [hl]
  cases e : ixN xs.length k with
  | none => rw [e] at h; cases h
  | some j => rw [e] at h; exact hg j h
theorem RL.at {α : Type} {τ : Rep K α} {ws : List V} {xs : List α} {k : Int} {x : α} (r : RL τ H ws xs) (h : atI xs k = some x) : ∃ w, atI ws k = some w ∧ τ.R H w x := atI_get r.length (fun _ e => r.get e) h
theorem v_ixq {α : Type} {τ : Rep K α} {xs : List α} {q : α} (ha : Val ta σ H v) (hb : Val tb σ H (.int i)) (hr : (qQ τ).R H v xs) (hx : atI xs i = some q) : ∃ w, Val (tOp (rIxL K) ta tb) σ H w ∧ τ.R H w q := by
  obtain ⟨a, ws, rfl, h2, h3⟩ := hr
  obtain ⟨w, e, r⟩ := h3.at hx
  exact ⟨w, fun Q z => ha _ (hb _ ⟨a, ws, i, w, rfl, rfl, h2, e, z⟩), r⟩
theorem v_ixI {xs : List Int} {q : Int} (ha : Val ta σ H v) (hb : Val tb σ H (.int i)) (hr : (qQ (K := K) qI).R H v xs) (hx : atI xs i = some q) : Val (tOp (rIxL K) ta tb) σ H (.int q) := by
  obtain ⟨w, h, r⟩ := v_ixq ha hb hr hx
  cases (show w = .int q from r)
  exact h
theorem v_ixB {xs : List Bool} {q : Bool} (ha : Val ta σ H v) (hb : Val tb σ H (.int i)) (hr : (qQ (K := K) qB).R H v xs) (hx : atI xs i = some q) : Val (tOp (rIxL K) ta tb) σ H (.bl q) := by
  obtain ⟨w, h, r⟩ := v_ixq ha hb hr hx
  cases (show w = .bl q from r)
  exact h
theorem v_ixS {xs : List Str} {q : Str} (ha : Val ta σ H v) (hb : Val tb σ H (.int i)) (hr : (qQ (K := K) qS).R H v xs) (hx : atI xs i = some q) : Val (tOp (rIxL K) ta tb) σ H (.str q) := by
  obtain ⟨w, h, r⟩ := v_ixq ha hb hr hx
  cases (show w = .str q from r)
  exact h
/-- what a list's length, a tuple's length tells -/
def rLenS (K : PySem.W.Frag) : List V → Hp → VK → Prop := fun xs H Q => ∃ p ys, xs = [.ref p] ∧ (SqL K H p ys ∨ SqT K H p ys) ∧ Q (.int ys.length) H
theorem v_len {α : Type} {τ : Rep K α} {xs : List α} (ha : Val ta σ H v) (hr : (qQ τ).R H v xs) : Val (tCB (rLenS K) (tCons ta tNil)) σ H (.int (xs.length : Int)) := by
  obtain ⟨a, ws, rfl, h2, h3⟩ := hr
  rw [← h3.length]
  exact fun Q q => ha _ ⟨a, ws, rfl, .inl h2, q⟩
theorem v_lenT2 {α β : Type} {τ : Rep K α} {υ : Rep K β} {p : α × β} (ha : Val ta σ H v) (hr : (qT2 τ υ).R H v p) : Val (tCB (rLenS K) (tCons ta tNil)) σ H (.int 2) := by
  obtain ⟨a, w1, w2, rfl, h2, _⟩ := hr
  exact fun Q q => ha _ ⟨a, _, rfl, .inr (SqT.of h2), q⟩
theorem v_isi {T n : String} {k : Bool} (ha : Val ta σ H x) (ty : TyX K H x (.type T)) (hk : kitB T n = some k) : Val (tCB (rIsi K) (tCons ta (tCons (tC (.ty n)) tNil))) σ H (.bl k) := fun Q q => ha _ ⟨x, .ty n, _, _, k, rfl, .ty n, ty, kit_ty hk, q⟩
theorem ty_int : TyX K H (.int i) (.type "int") := .base (.int i)
theorem ty_bl : TyX K H (.bl b) (.type "bool") := .base (.bl b)
theorem ty_str {s : Str} : TyX K H (.str s) (.type "str") := .base (.str s)
theorem ty_non : TyX K H .non (.type "NoneType") := .base .non
theorem ty_t2 {α β : Type} {τ : Rep K α} {υ : Rep K β} {p : α × β} (hr : (qT2 τ υ).R H v p) : TyX K H v (.type "tuple") := by
  obtain ⟨a, w1, w2, rfl, h2, _⟩ := hr
  exact .base (.tup h2)
theorem ty_t3 {α β γ : Type} {τ : Rep K α} {υ : Rep K β} {φ : Rep K γ} {p : α × β × γ} (hr : (qT3 τ υ φ).R H v p) : TyX K H v (.type "tuple") := by
  obtain ⟨a, w1, w2, w3, rfl, h2, _⟩ := hr
  exact .base (.tup h2)
theorem ty_l {α : Type} {τ : Rep K α} {xs : List α} (hr : (qL τ).R H v xs) : TyX K H v (.type "list") := by
  obtain ⟨a, ws, rfl, h2, _⟩ := hr
  exact .base (.lst h2)
/-- arguments -/
def VA (ta : TA) (σ : L2.St) (H : Hp) (vs : List V) : Prop := ∀ Q : List V → Hp → Prop, Q vs H → ta σ H Q
theorem va_nil : VA tNil σ H [] := fun _ q => q
theorem va_cons {tr : TA} {vs : List V} (ha : Val ta σ H x) (hr : VA tr σ H vs) : VA (tCons ta tr) σ H (x :: vs) := fun _ q => ha _ (hr _ q)
theorem v_call {sp : Sp} {dvs vs : List V} {E : XK} {tr : TA} (ha : VA tr σ H vs) (hs : ∀ Q : VK, Q z H → sp (vs ++ dvs) H Q E) : Val (tCall sp dvs E tr) σ H z := fun Q q => ha _ (hs Q q)
theorem v_cb {r : List V → Hp → VK → Prop} {vs : List V} {tr : TA} (ha : VA tr σ H vs) (hs : ∀ Q : VK, Q z H → r vs H Q) : Val (tCB r tr) σ H z := fun Q q => ha _ (hs Q q)
theorem v_bits (ha : Val ta σ H (.int i)) : Val (tBits ta) σ H (.int (blen i)) := fun Q q => ha _ ⟨i, rfl, q⟩
theorem v_isN (ha : Val ta σ H x) (e : decide (x = .non) = b) : Val (tOp rIsN ta (tC .non)) σ H (.bl b) := fun Q q => ha _ ⟨rfl, by rw [e]; exact q⟩
theorem v_notN (ha : Val ta σ H x) (e : (!decide (x = .non)) = b) : Val (tOp rNotN ta (tC .non)) σ H (.bl b) := fun Q q => ha _ ⟨rfl, by rw [e]; exact q⟩
theorem opt_dec {α : Type} {τ : Rep K α} {o : Option α} (hr : (qOpt τ).R H v o) : decide (v = .non) = o.isNone := by
  cases o with
  | none => exact decide_eq_true hr
  | some y => exact decide_eq_false hr.1
theorem opt_decN {α : Type} {τ : Rep K α} {o : Option α} (hr : (qOpt τ).R H v o) : (!decide (v = .non)) = o.isSome := by
  rw [opt_dec hr]
  cases o <;> rfl
theorem opt_get {α : Type} {τ : Rep K α} {o : Option α} {y : α} (hr : (qOpt τ).R H v o) (e : o = some y) : τ.R H v y := by
  subst e
  exact hr.2

/-! ### statements -/
variable {D : Ends} {t1 t2 ts tu : TS} {w : V} {k n : Nat}
theorem z_next (q : D.nx σ H) : tNext D σ H := q
theorem z_set (hv : Val te σ H v) (he : v = w) (hs : σ.set k (some w) = σ') (q : tu D σ' H) : tSeq (tAsg te (gName k)) tu D σ H := hv _ (by
  subst he; subst hs
  exact q)
theorem z_aug {ti : TIp} (hx : σ[k]? = some (some x)) (hv : Val te σ H y) (hr : ∀ Q : VK, Q v H → ti x y H Q) (he : v = w) (hs : σ.set k (some w) = σ') (q : tu D σ' H) : tSeq (tAug k te ti) tu D σ H := by
  subst he; subst hs
  exact ⟨x, hx, hv _ (hr _ q)⟩
theorem z_augI {g : Int → Int → V} (hx : σ[k]? = some (some (.int i))) (hv : Val te σ H (.int j)) (he : g i j = w) (hs : σ.set k (some w) = σ') (q : tu D σ' H) : tSeq (tAug k te (rI0 g)) tu D σ H :=
  z_aug hx hv (fun _ q => ⟨i, j, rfl, rfl, q⟩) he hs q
theorem z_augC {C : Int → Int → Prop} {g : Int → Int → V} (hx : σ[k]? = some (some (.int i))) (hv : Val te σ H (.int j)) (hc : C i j) (he : g i j = w) (hs : σ.set k (some w) = σ') (q : tu D σ' H) : tSeq (tAug k te (rI C g)) tu D σ H :=
  z_aug hx hv (fun _ q => ⟨i, j, rfl, rfl, hc, q⟩) he hs q
theorem z_ret (hv : Val te σ H v) (q : D.rt v H) : tSeq (tRet te) tu D σ H := hv _ q
theorem z_if {c : Bool} {tc : TT} (hc : Ans tc σ H c) (h1 : c = true → t1 { D with nx := tu D } σ H) (h2 : c = false → t2 { D with nx := tu D } σ H) : tSeq (tIfS tc t1 t2) tu D σ H := hc _ (by
  cases c with
  | true => exact (show (if true = true then t1 { D with nx := tu D } σ H else t2 { D with nx := tu D } σ H) from h1 rfl)
  | false => exact (show (if false = true then t1 { D with nx := tu D } σ H else t2 { D with nx := tu D } σ H) from h2 rfl))
theorem z_ifj {c : Bool} {tc : TT} (P : L2.St → Hp → Prop) (hc : Ans tc σ H c) (hP : ∀ σ' H', P σ' H' → tu D σ' H')
    (h1 : c = true → ∀ N : L2.St → Hp → Prop, (∀ σ' H', P σ' H' → N σ' H') → t1 { D with nx := N } σ H) (h2 : c = false → ∀ N : L2.St → Hp → Prop, (∀ σ' H', P σ' H' → N σ' H') → t2 { D with nx := N } σ H) : tSeq (tIfS tc t1 t2) tu D σ H :=
  z_if hc (fun e => h1 e _ hP) (fun e => h2 e _ hP)
theorem rangeI_zero {lo : Int} : rangeI lo 0 = [] := rfl
theorem rangeI_succ {lo : Int} {n : Nat} : rangeI lo (n + 1) = lo :: rangeI (lo + 1) n := by
  unfold rangeI
  rw [List.range_succ_eq_map, List.map_cons, List.map_map]
  congr 1
  · exact Int.add_zero lo
  · refine List.map_congr_left fun a _ => ?_
    show lo + ((a + 1 : Nat) : Int) = lo + 1 + (a : Int)
    omega
/-- the turns over a range, by what is left -/
theorem turns_range {lo : Int} {n : Nat} {g : TG} {tb : TS} (Pv : List Int → L2.St → Hp → Prop) (h0 : Pv (rangeI lo n) σ H)
    (hs : ∀ x xs σ' H', Pv (x :: xs) σ' H' → ∀ N : L2.St → Hp → Prop, (∀ σ'' H'', Pv xs σ'' H'' → N σ'' H'') → g (.int x) σ' H' fun σ2 H2 => tb { D with nx := N, ct := N, bk := D.nx } σ2 H2) (hd : ∀ σ' H', Pv [] σ' H' → D.nx σ' H') :
    ∃ W : Nat → Nat → L2.St → Hp → Prop, (∃ m, W 0 m σ H) ∧ ∀ i m σ H, W i m σ H →
      ((Itr lo n).stop i H ∧ D.nx σ H) ∨ ((Itr lo n).go i H ∧ ∃ N : L2.St → Hp → Prop, (∀ σ' H', N σ' H' → ∃ m', m' < m ∧ W (i + 1) m' σ' H') ∧ ∀ x H', (Itr lo n).yld i H x H' → g x σ H' fun σ2 H2 => tb { D with nx := N, ct := N, bk := D.nx } σ2 H2) := by
  refine for_range (fun i σ H => i ≤ n ∧ Pv (rangeI (lo + (i : Int)) (n - i)) σ H) ⟨Nat.zero_le _, by
    rw [show lo + ((0 : Nat) : Int) = lo from Int.add_zero lo]; exact h0⟩ (fun i σ' H' hi p => ?_) (fun σ' H' p => hd _ _ (by
    have q := p.2
    rw [Nat.sub_self] at q
    exact q))
  have e : n - i = (n - (i + 1)) + 1 := by omega
  have q := p.2
  rw [e, rangeI_succ] at q
  refine hs _ _ σ' H' q _ fun σ'' H'' r => ⟨hi, ?_⟩
  rw [show lo + ((i + 1 : Nat) : Int) = lo + (i : Int) + 1 by omega]
  exact r
theorem z_for1 {ta : TA} {g : TG} {tb : TS} {j : Int} (ha : VA ta σ H [.int j]) (hj : -(2 ^ 62) ≤ j ∧ j < 2 ^ 62) (Pv : List Int → L2.St → Hp → Prop) (h0 : Pv (rangeI 0 j.toNat) σ H)
    (hs : ∀ x xs σ' H', Pv (x :: xs) σ' H' → ∀ N : L2.St → Hp → Prop, (∀ σ'' H'', Pv xs σ'' H'' → N σ'' H'') → g (.int x) σ' H' fun σ2 H2 => tb { D with nx := N, ct := N, bk := tu D } σ2 H2) (hd : ∀ σ' H', Pv [] σ' H' → tu D σ' H') :
    tSeq (tFor (iRng1 ta) g tb) tu D σ H := ha _ ⟨j, rfl, hj.1, hj.2, turns_range (D := { D with nx := tu D }) Pv h0 hs hd⟩
theorem z_for2 {ta : TA} {g : TG} {tb : TS} {i j : Int} (ha : VA ta σ H [.int i, .int j]) (hj : -(2 ^ 62) ≤ i ∧ i < 2 ^ 62 ∧ -(2 ^ 62) ≤ j ∧ j < 2 ^ 62) (Pv : List Int → L2.St → Hp → Prop) (h0 : Pv (rangeI i (j - i).toNat) σ H)
    (hs : ∀ x xs σ' H', Pv (x :: xs) σ' H' → ∀ N : L2.St → Hp → Prop, (∀ σ'' H'', Pv xs σ'' H'' → N σ'' H'') → g (.int x) σ' H' fun σ2 H2 => tb { D with nx := N, ct := N, bk := tu D } σ2 H2) (hd : ∀ σ' H', Pv [] σ' H' → tu D σ' H') :
    tSeq (tFor (iRng2 ta) g tb) tu D σ H := ha _ ⟨i, j, rfl, hj, turns_range (D := { D with nx := tu D }) Pv h0 hs hd⟩
/-- the turns over a list that stands, by what is left -/
theorem turns_list {α : Type} {R : V → α → Prop} {a : Addr} {ws : List V} {xs : List α} {g : TG} {tb : TS} (hp : Paired R ws xs) (Pv : List α → L2.St → Hp → Prop) (h0 : Pv xs σ H) (hl : ∀ ys σ' H', Pv ys σ' H' → SqL K H' a ws)
    (hs : ∀ w y ys σ' H', R w y → Pv (y :: ys) σ' H' → ∀ N : L2.St → Hp → Prop, (∀ σ'' H'', Pv ys σ'' H'' → N σ'' H'') → g w σ' H' fun σ2 H2 => tb { D with nx := N, ct := N, bk := D.nx } σ2 H2) (hd : ∀ σ' H', Pv [] σ' H' → D.nx σ' H') :
    ∃ W : Nat → Nat → L2.St → Hp → Prop, (∃ m, W 0 m σ H) ∧ ∀ i m σ H, W i m σ H →
      ((Itl K a).stop i H ∧ D.nx σ H) ∨ ((Itl K a).go i H ∧ ∃ N : L2.St → Hp → Prop, (∀ σ' H', N σ' H' → ∃ m', m' < m ∧ W (i + 1) m' σ' H') ∧ ∀ x H', (Itl K a).yld i H x H' → g x σ H' fun σ2 H2 => tb { D with nx := N, ct := N, bk := D.nx } σ2 H2) := by
  have hlen := Paired.length hp
  refine for_list (K := K) (a := a) (xs := ws) (fun i σ H => i ≤ ws.length ∧ ∃ ys, Paired R (ws.drop i) ys ∧ Pv ys σ H) ⟨Nat.zero_le _, xs, hp, h0⟩ (fun i σ' H' _ p => ?_) (fun i x σ' H' hx p => ?_) (fun σ' H' p => ?_)
  · obtain ⟨_, ys, _, q⟩ := p
    exact hl _ _ _ q
  · obtain ⟨_, ys, r, q⟩ := p
    have hi : i < ws.length := (List.getElem?_eq_some_iff.mp hx).1
    have e : ws.drop i = x :: ws.drop (i + 1) := by
      rw [List.drop_eq_getElem_cons hi]
      rw [(List.getElem?_eq_some_iff.mp hx).2]
    rw [e] at r
    cases r with
    | cons a b => exact hs _ _ _ σ' H' a q _ fun σ'' H'' z => ⟨hi, _, b, z⟩
  · obtain ⟨_, ys, r, q⟩ := p
    rw [List.drop_length] at r
    cases r
    exact hd _ _ q
theorem z_forL {α : Type} {R : V → α → Prop} {a : Addr} {ws : List V} {xs : List α} {tl : TE} {g : TG} {tb : TS} (ha : Val tl σ H (.ref a)) (hp : Paired R ws xs) (Pv : List α → L2.St → Hp → Prop) (h0 : Pv xs σ H) (hl : ∀ ys σ' H', Pv ys σ' H' → SqL K H' a ws)
    (hs : ∀ w y ys σ' H', R w y → Pv (y :: ys) σ' H' → ∀ N : L2.St → Hp → Prop, (∀ σ'' H'', Pv ys σ'' H'' → N σ'' H'') → g w σ' H' fun σ2 H2 => tb { D with nx := N, ct := N, bk := tu D } σ2 H2) (hd : ∀ σ' H', Pv [] σ' H' → tu D σ' H') :
    tSeq (tFor (iList K tl) g tb) tu D σ H := ha _ ⟨a, rfl, ⟨ws, hl _ _ _ h0⟩, turns_list (D := { D with nx := tu D }) hp Pv h0 hl hs hd⟩
theorem g_name {q : L2.St → Hp → Prop} (hs : σ.set k (some v) = σ') (h : q σ' H) : gName k v σ H q := by
  subst hs
  exact h
/-- a while with a test that leaves the heap as it is -/
theorem z_while {tc : TT} {tb : TS} {n0 : Nat} (Pv : Nat → L2.St → Hp → Prop) (h0 : Pv n0 σ H)
    (hs : ∀ n σ' H', Pv n σ' H' → ∃ b, Ans tc σ' H' b ∧ (b = true → ∃ n', n = n' + 1 ∧ ∀ N : L2.St → Hp → Prop, (∀ σ'' H'', Pv n' σ'' H'' → N σ'' H'') → tb { D with nx := N, ct := N, bk := tu D } σ' H') ∧ (b = false → tu D σ' H')) :
    tSeq (tWhile tc tb) tu D σ H := by
  refine ⟨Pv, ⟨n0, h0⟩, fun m σ' H' w => ?_⟩
  obtain ⟨b, hb, h1, h2⟩ := hs m σ' H' w
  refine hb _ ?_
  cases b with
  | true =>
    obtain ⟨n', e, h⟩ := h1 rfl
    exact (show (if true = true then _ else _) from ⟨Pv n', fun σ'' H'' p => ⟨n', by omega, p⟩, h _ fun _ _ z => z⟩)
  | false => exact (show (if false = true then _ else _) from h2 rfl)
end
/-! ### facts of the builtins' table -/
theorem bt_int : bootBuiltins "int" = some (.type "int") := by decide +kernel
theorem bt_bool : bootBuiltins "bool" = some (.type "bool") := by decide +kernel
theorem bt_str : bootBuiltins "str" = some (.type "str") := by decide +kernel
theorem bt_list : bootBuiltins "list" = some (.type "list") := by decide +kernel
theorem bt_tuple : bootBuiltins "tuple" = some (.type "tuple") := by decide +kernel
theorem bt_isinstance : bootBuiltins "isinstance" = some (.builtin "isinstance") := by decide +kernel
theorem bt_len : bootBuiltins "len" = some (.builtin "len") := by decide +kernel
end Z

namespace Z
open PySem PySem.Spec PyProof.Rows L2

theorem OP.nameO {α σ : Type} {f : α → σ → Option σ} {xs : List α} {s : σ} {A : σ → Prop} (h : OP (Z.forO f xs s) A) : ∃ F, F = f ∧ OP (Z.forO F xs s) A := ⟨f, rfl, h⟩
theorem OP.nameR {α σ ρ : Type} {f : α → σ → Option (σ ⊕ ρ)} {xs : List α} {s : σ} {A : σ ⊕ ρ → Prop} (h : OP (Z.forR f xs s) A) : ∃ F, F = f ∧ OP (Z.forR F xs s) A := ⟨f, rfl, h⟩
theorem OP.fcall2 {α σ τ : Type} {F f : α → σ → Option τ} {x : α} {s : σ} {A : τ → Prop} (e : F = f) (h : OP (F x s) A) : OP (f x s) A := e ▸ h
theorem OP.fcall1 {σ τ : Type} {F f : σ → Option τ} {s : σ} {A : τ → Prop} (e : F = f) (h : OP (F s) A) : OP (f s) A := e ▸ h
def gMul (i j : Int) : Prop := (-(2 ^ 64) < i ∧ i < 2 ^ 64) ∨ (-(2 ^ 64) < j ∧ j < 2 ^ 64)
def gDiv (j : Int) : Prop := 0 < j ∧ j < 1073741824
def gPow (i j : Int) : Prop := 0 ≤ j ∧ j ≤ 1000000 ∧ i.natAbs < 2 ^ 64
def gR (j : Int) : Prop := -(2 ^ 62) ≤ j ∧ j < 2 ^ 62
def gR2 (i j : Int) : Prop := -(2 ^ 62) ≤ i ∧ i < 2 ^ 62 ∧ -(2 ^ 62) ≤ j ∧ j < 2 ^ 62
instance (i j : Int) : Decidable (gMul i j) := by unfold gMul; infer_instance
instance (j : Int) : Decidable (gDiv j) := by unfold gDiv; infer_instance
instance (i j : Int) : Decidable (gPow i j) := by unfold gPow; infer_instance
instance (j : Int) : Decidable (gR j) := by unfold gR; infer_instance
instance (i j : Int) : Decidable (gR2 i j) := by unfold gR2; infer_instance
abbrev ipow (i j : Int) : Int := i ^ j.toNat
def setI {α : Type} (xs : List α) (i : Int) (v : α) : Option (List α) := (ixN xs.length i).bind fun j => some (xs.set j v)

/-! ### data that == compares -/
structure Dat {K : PySem.W.Frag} {α : Type} [DecidableEq α] (τ : Rep K α) where
  enc : α → PyData
  dp : ∀ {H : Hp} {v : V} {x : α}, τ.R H v x → Dp K H v (enc x)
  lay : ∀ x, (enc x).canLay0 = true
  n : Nat
  dep : ∀ x, (enc x).depth ≤ n
  eqv : ∀ x y, PyData.eqv (enc x) (enc y) = decide (x = y)
section
variable {K : PySem.W.Frag}
theorem Dat.shaped {α : Type} [DecidableEq α] {τ : Rep K α} (d : Dat τ) (hn : d.n ≤ 64) (x : α) : SeqAt.shaped (d.enc x) = true := by
  unfold SeqAt.shaped
  rw [d.lay x, decide_eq_true (Nat.le_trans (d.dep x) hn)]
  rfl
def dI : Dat (K := K) qI := ⟨.int, fun {H v x} h => by cases (show v = .int x from h); exact .int x, fun _ => rfl, 1, fun x => by show PyData.depth (.int x) ≤ 1; simp [PyData.depth], fun x y => by
  show (x == y) = decide (x = y)
  rw [Bool.beq_eq_decide_eq]⟩
def dB : Dat (K := K) qB := ⟨.bool, fun {H v x} h => by cases (show v = .bl x from h); exact .bl x, fun _ => rfl, 1, fun x => by show PyData.depth (.bool x) ≤ 1; simp [PyData.depth], fun x y => by
  show (x == y) = decide (x = y)
  rw [Bool.beq_eq_decide_eq]⟩
theorem eqvAll2 {a b c d : PyData} : PyData.eqv (.tuple [a, b]) (.tuple [c, d]) = (PyData.eqv a c && PyData.eqv b d) := by
  simp [PyData.eqv, PyData.eqvAll]
def dT2 {α β : Type} [DecidableEq α] [DecidableEq β] {τ : Rep K α} {υ : Rep K β} (a : Dat τ) (b : Dat υ) : Dat (qT2 τ υ) := ⟨fun x => .tuple [a.enc x.1, b.enc x.2], fun {H v x} h => by
    obtain ⟨p, w1, w2, rfl, h2, h3, h4⟩ := h
    exact .tup (SqT.of h2) (.cons (a.dp h3) (.cons (b.dp h4) .nil)), fun x => by
    show PyData.canLayAll0 [a.enc x.1, b.enc x.2] = true
    simp [PyData.canLayAll0, a.lay, b.lay], max a.n b.n + 1, fun x => by
    have h1 := a.dep x.1
    have h2 := b.dep x.2
    show PyData.depth (.tuple [a.enc x.1, b.enc x.2]) ≤ _
    simp only [PyData.depth, PyData.depthAll]
    omega, fun x y => by
    rw [eqvAll2, a.eqv, b.eqv, ← Bool.decide_and]
    exact decide_eq_decide.mpr ⟨fun h => Prod.ext h.1 h.2, fun h => by rw [h]; exact ⟨rfl, rfl⟩⟩⟩
theorem dpAll {α : Type} [DecidableEq α] {τ : Rep K α} (a : Dat τ) {H : Hp} : ∀ {ws : List V} {xs : List α}, RL τ H ws xs → DpAll K H ws (xs.map a.enc)
  | _, _, .nil => .nil
  | _, _, .cons r t => .cons (a.dp r) (dpAll a t)
theorem layAll {α : Type} [DecidableEq α] {τ : Rep K α} (a : Dat τ) : ∀ xs : List α, PyData.canLayAll0 (xs.map a.enc) = true
  | [] => rfl
  | x :: xs => by
    show (PyData.canLay0 (a.enc x) && PyData.canLayAll0 (xs.map a.enc)) = true
    rw [a.lay, layAll a xs]
    rfl
theorem depAll {α : Type} [DecidableEq α] {τ : Rep K α} (a : Dat τ) : ∀ xs : List α, PyData.depthAll (xs.map a.enc) ≤ a.n
  | [] => by simp [PyData.depthAll]
  | x :: xs => by
    rw [List.map_cons]
    simp only [PyData.depthAll]
    have h1 := a.dep x
    have h2 := depAll a xs
    omega
theorem eqvAllD {α : Type} [DecidableEq α] {τ : Rep K α} (a : Dat τ) : ∀ xs ys : List α, PyData.eqvAll (xs.map a.enc) (ys.map a.enc) = decide (xs = ys)
  | [], [] => rfl
  | [], y :: ys => by simp [PyData.eqvAll]
  | x :: xs, [] => by simp [PyData.eqvAll]
  | x :: xs, y :: ys => by
    rw [List.map_cons, List.map_cons]
    simp only [PyData.eqvAll]
    rw [a.eqv, eqvAllD a xs ys, ← Bool.decide_and]
    exact decide_eq_decide.mpr ⟨fun h => by rw [h.1, h.2], fun h => by injection h with h1 h2; exact ⟨h1, h2⟩⟩
def dQ {α : Type} [DecidableEq α] {τ : Rep K α} (a : Dat τ) : Dat (qQ τ) := ⟨fun xs => .list (xs.map a.enc), fun {H v x} h => by
    obtain ⟨p, ws, rfl, h2, h3⟩ := h
    exact .lst h2 (dpAll a h3), fun xs => layAll a xs, a.n + 1, fun xs => by
    have h := depAll a xs
    show PyData.depth (.list (xs.map a.enc)) ≤ _
    simp only [PyData.depth]
    omega, fun x y => by
    show PyData.eqvAll (x.map a.enc) (y.map a.enc) = _
    exact eqvAllD a x y⟩
def dL {α : Type} [DecidableEq α] {τ : Rep K α} (a : Dat τ) : Dat (qL τ) := ⟨(dQ a).enc, fun h => (dQ a).dp (qL_qQ h), (dQ a).lay, (dQ a).n, (dQ a).dep, (dQ a).eqv⟩
end

/-! ### values that move the heap: the goal goes from te σ H Q to Q v H' -/
section
variable {K : PySem.W.Frag} {σ σ' : L2.St} {S H S0 H0 : Hp} {L : List Addr} {ta tb te : TE} {t u tc : TT} {tr : TA} {x y z v : V} {i j : Int} {b c : Bool} {Q : VK} {D : Ends} {t1 t2 tu : TS} {g : TG} {vs ws : List V}
theorem c_val (h : Val te σ H v) (q : Q v H) : te σ H Q := h _ q
theorem c_op {r : R2} (h : ta σ H fun x H1 => tb σ H1 fun y H2 => r x y H2 Q) : tOp r ta tb σ H Q := h
theorem c_un {r : V → Hp → VK → Prop} (h : ta σ H fun x H1 => r x H1 Q) : tUn r ta σ H Q := h
theorem c_cons {q : List V → Hp → Prop} (h : ta σ H fun x H1 => tr σ H1 fun xs H2 => q (x :: xs) H2) : tCons ta tr σ H q := h
theorem c_nil {q : List V → Hp → Prop} (h : q [] H) : tNil σ H q := h
theorem c_args {q : List V → Hp → Prop} (ha : VA tr σ H vs) (h : q vs H) : tr σ H q := ha _ h
theorem c_tup (h : tr σ H fun xs H1 => xs.length ≤ sizeLine ∧ ∀ p, H1 p = none → Q (.ref p) (upd H1 p (.tup xs))) : tTup tr σ H Q := h
theorem c_lst (h : tr σ H fun xs H1 => xs.length ≤ sizeLine ∧ ∀ p, H1 p = none → Q (.ref p) (upd H1 p (.lst xs))) : tLst tr σ H Q := h
theorem c_tupE (h : ∀ Q' : VK, Q' = Q → tr σ H fun xs H1 => xs.length ≤ sizeLine ∧ ∀ p, H1 p = none → Q' (.ref p) (upd H1 p (.tup xs))) : tTup tr σ H Q := h _ rfl
theorem c_lstE (h : ∀ Q' : VK, Q' = Q → tr σ H fun xs H1 => xs.length ≤ sizeLine ∧ ∀ p, H1 p = none → Q' (.ref p) (upd H1 p (.lst xs))) : tLst tr σ H Q := h _ rfl
theorem c_cbE {r : List V → Hp → VK → Prop} (h : ∀ Q' : VK, Q' = Q → tr σ H fun vs H1 => r vs H1 Q') : tCB r tr σ H Q := h _ rfl
theorem q_eq {Q' : VK} (e : Q' = Q) (h : Q v H) : Q' v H := e ▸ h
theorem c_call {sp : Sp} {dvs : List V} {E : XK} (h : tr σ H fun vs H1 => sp (vs ++ dvs) H1 Q E) : tCall sp dvs E tr σ H Q := h
theorem c_cb {r : List V → Hp → VK → Prop} (h : tr σ H fun vs H1 => r vs H1 Q) : tCB r tr σ H Q := h
theorem c_newtup (e : Same S H) (hl : vs.length ≤ 1000) (k : ∀ p S' H', Grow [] S H S' H' → S' p = some (.tup vs) → Q (.ref p) H') : vs.length ≤ sizeLine ∧ ∀ p, H p = none → Q (.ref p) (upd H p (.tup vs)) :=
  ⟨Nat.le_trans hl (by decide), fun p hp => k p _ _ ((Grow.refl e).imm hp) upd_same⟩
theorem c_newlst (hl : vs.length ≤ 1000) (k : ∀ p H', Same H H' → H p = none → H' p = some (.lst vs) → Q (.ref p) H') : vs.length ≤ sizeLine ∧ ∀ p, H p = none → Q (.ref p) (upd H p (.lst vs)) :=
  ⟨Nat.le_trans hl (by decide), fun p hp => k p _ (same_upd hp) hp upd_same⟩
theorem c_not {q : Bool → Hp → Prop} (h : t σ H fun b H1 => q (!b) H1) : tNot t σ H q := h
theorem c_test {q : Bool → Hp → Prop} (h : te σ H fun x H' => ∃ k, x = .bl k ∧ q k H') : tTest te σ H q := h
theorem c_B {q : Bool → Hp → Prop} (h : te σ H fun x H' => ∃ k, x = .bl k ∧ q k H') : tB te σ H q := h
theorem c_ans {q : Bool → Hp → Prop} (h : Ans t σ H b) (k : q b H) : t σ H q := h _ k
theorem c_bl {q : Bool → Hp → Prop} (h : q b H) : ∃ k, V.bl b = .bl k ∧ q k H := ⟨b, rfl, h⟩
theorem c_and {q : Bool → Hp → Prop} (h : t σ H fun c H1 => if c = true then u σ H1 q else q false H1) : tAnd t u σ H q := h
theorem c_or {q : Bool → Hp → Prop} (h : t σ H fun c H1 => if c = true then q true H1 else u σ H1 q) : tOr t u σ H q := h
theorem c_andV (h : ta σ H fun x H1 => ∃ c, x = .bl c ∧ if c = true then tb σ H1 Q else Q (.bl false) H1) : tAndV ta tb σ H Q := h
theorem c_orV (h : ta σ H fun x H1 => ∃ c, x = .bl c ∧ if c = true then Q (.bl true) H1 else tb σ H1 Q) : tOrV ta tb σ H Q := h
theorem c_cutT {q : Bool → Hp → Prop} (P : Bool → Hp → Prop) (hc : ∀ q' : Bool → Hp → Prop, (∀ b H', P b H' → q' b H') → t σ H q') (hP : ∀ b H', P b H' → q b H') : t σ H q := hc _ hP
theorem c_cutV (P : Bool → Hp → Prop) (hc : ∀ q' : VK, (∀ b H', P b H' → q' (.bl b) H') → te σ H q') (hP : ∀ b H', P b H' → Q (.bl b) H') : te σ H Q := hc _ hP
theorem ifb {A B : Prop} (h1 : c = true → A) (h2 : c = false → B) : if c = true then A else B := by
  cases c with
  | true => exact (show (if true = true then A else B) from h1 rfl)
  | false => exact (show (if false = true then A else B) from h2 rfl)
/-- the ends of the operators -/
theorem e_o2 {g : Int → Int → V} (q : Q (g i j) H) : rI0 g (.int i) (.int j) H Q := ⟨i, j, rfl, rfl, q⟩
theorem e_o2c {C : Int → Int → Prop} {g : Int → Int → V} (hc : C i j) (q : Q (g i j) H) : rI C g (.int i) (.int j) H Q := ⟨i, j, rfl, rfl, hc, q⟩
theorem e_u {g : Int → V} (q : Q (g i) H) : rU g (.int i) H Q := ⟨i, rfl, q⟩
theorem e_eqI (q : Q (.bl (decide (i = j))) H) : rEq (.int i) (.int j) H Q := ⟨rfl, by rw [dec_int]; exact q⟩
theorem e_neI (q : Q (.bl (!decide (i = j))) H) : rNe (.int i) (.int j) H Q := ⟨rfl, by rw [dec_int]; exact q⟩
theorem e_eqS {s t : Str} (q : Q (.bl (decide (s = t))) H) : rEq (.str s) (.str t) H Q := ⟨rfl, by rw [dec_str]; exact q⟩
theorem e_neS {s t : Str} (q : Q (.bl (!decide (s = t))) H) : rNe (.str s) (.str t) H Q := ⟨rfl, by rw [dec_str]; exact q⟩
theorem e_eqB (q : Q (.bl (decide (b = c))) H) : rEq (.bl b) (.bl c) H Q := ⟨rfl, by rw [dec_bl]; exact q⟩
theorem e_neB (q : Q (.bl (!decide (b = c))) H) : rNe (.bl b) (.bl c) H Q := ⟨rfl, by rw [dec_bl]; exact q⟩
theorem e_eqD {α : Type} [DecidableEq α] {τ υ : Rep K α} (d : Dat τ) (d' : Dat υ) (he : d.enc = d'.enc) (hn : d.n ≤ 64) {p q : α} (h1 : τ.R H x p) (h2 : υ.R H y q) (k : Q (.bl (decide (p = q))) H) : rEqD K x y H Q :=
  ⟨d.enc p, d.enc q, d.dp h1, by rw [he]; exact d'.dp h2, d.shaped hn p, d.shaped hn q, by rw [d.eqv]; exact k⟩
theorem e_neD {α : Type} [DecidableEq α] {τ υ : Rep K α} (d : Dat τ) (d' : Dat υ) (he : d.enc = d'.enc) (hn : d.n ≤ 64) {p q : α} (h1 : τ.R H x p) (h2 : υ.R H y q) (k : Q (.bl (!decide (p = q))) H) : rNeD K x y H Q :=
  ⟨d.enc p, d.enc q, d.dp h1, by rw [he]; exact d'.dp h2, d.shaped hn p, d.shaped hn q, by rw [d.eqv]; exact k⟩
theorem v_eqD {α : Type} [DecidableEq α] {τ υ : Rep K α} (d : Dat τ) (d' : Dat υ) (he : d.enc = d'.enc) (hn : d.n ≤ 64) {p q : α} (ha : Val ta σ H x) (hb : Val tb σ H y) (h1 : τ.R H x p) (h2 : υ.R H y q) : Val (tOp (rEqD K) ta tb) σ H (.bl (decide (p = q))) :=
  fun Q k => ha _ (hb _ (e_eqD d d' he hn h1 h2 k))
theorem v_neD {α : Type} [DecidableEq α] {τ υ : Rep K α} (d : Dat τ) (d' : Dat υ) (he : d.enc = d'.enc) (hn : d.n ≤ 64) {p q : α} (ha : Val ta σ H x) (hb : Val tb σ H y) (h1 : τ.R H x p) (h2 : υ.R H y q) : Val (tOp (rNeD K) ta tb) σ H (.bl (!decide (p = q))) :=
  fun Q k => ha _ (hb _ (e_neD d d' he hn h1 h2 k))
/-- a shallow datum: tuples of scalars; it may be kept for good -/
def Shal {α : Type} (τ : Rep K α) : Prop := ∀ {S H : Hp} {v : V} {x : α}, Same S H → τ.R H v x → ∃ S', Grow [] S H S' H ∧ τ.R S' v x
theorem shI : Shal (K := K) qI := fun e h => ⟨_, Grow.refl e, h⟩
theorem shB : Shal (K := K) qB := fun e h => ⟨_, Grow.refl e, h⟩
theorem shS : Shal (K := K) qS := fun e h => ⟨_, Grow.refl e, h⟩
theorem shU : Shal (K := K) qU := fun e h => ⟨_, Grow.refl e, h⟩
theorem shOpt {α : Type} {τ : Rep K α} (a : Shal τ) : Shal (qOpt τ) := fun {S H v x} e h => by
  cases x with
  | none => exact ⟨_, Grow.refl e, h⟩
  | some y =>
    obtain ⟨S', g, r⟩ := a e h.2
    exact ⟨S', g, h.1, r⟩
theorem shT2 {α β : Type} {τ : Rep K α} {υ : Rep K β} (a : Shal τ) (b : Shal υ) : Shal (qT2 τ υ) := fun {S H v x} e h => by
  obtain ⟨p, w1, w2, rfl, h2, h3, h4⟩ := h
  obtain ⟨S1, g1, r1⟩ := a e h3
  obtain ⟨S2, g2, r2⟩ := b g1.sh h4
  have g3 := (g1.call0 g2).tup h2
  have e3 : Same S2 (upd S2 p (.tup [w1, w2])) := ((Grow.refl (L := []) g2.sh).tup h2).ss
  exact ⟨_, g3, p, w1, w2, rfl, upd_same, τ.mono (g2.ss.trans e3) r1, υ.mono e3 r2⟩
theorem shL {α : Type} {τ : Rep K α} (a : Shal τ) {S H : Hp} : ∀ {ws : List V} {xs : List α}, Same S H → RL τ H ws xs → ∃ S', Grow [] S H S' H ∧ RL τ S' ws xs
  | _, _, e, .nil => ⟨_, Grow.refl e, .nil⟩
  | _, _, e, .cons r t => by
    obtain ⟨S1, g1, r1⟩ := a e r
    obtain ⟨S2, g2, r2⟩ := shL a g1.sh t
    exact ⟨S2, g1.call0 g2, .cons (τ.mono g2.ss r1) r2⟩
theorem RL.sc {α : Type} {τ : Rep K α} {H H' : Hp} (f : α → V) (hf : ∀ {H v x}, τ.R H v x ↔ v = f x) : ∀ {ws : List V} {xs : List α}, RL τ H ws xs → RL τ H' ws xs
  | _, _, .nil => .nil
  | _, _, .cons r t => .cons (hf.mpr (hf.mp r)) (RL.sc f hf t)
theorem RL.scI {H H' : Hp} {ws : List V} {xs : List Int} (h : RL (K := K) qI H ws xs) : RL (K := K) qI H' ws xs := RL.sc V.int Iff.rfl h
theorem RL.scB {H H' : Hp} {ws : List V} {xs : List Bool} (h : RL (K := K) qB H ws xs) : RL (K := K) qB H' ws xs := RL.sc V.bl Iff.rfl h
theorem RL.scS {H H' : Hp} {ws : List V} {xs : List Str} (h : RL (K := K) qS H ws xs) : RL (K := K) qS H' ws xs := RL.sc V.str Iff.rfl h
/-- where a new list comes from -/
theorem e_listQ {α : Type} {τ : Rep K α} {xs : List α} (h : (qQ τ).R H v xs) (k : ∀ p ws H', Same H H' → H p = none → H' p = some (.lst ws) → RL τ H ws xs → Q (.ref p) H') :
    ∃ p ys, [v] = [.ref p] ∧ (SqL K H p ys ∨ SqT K H p ys) ∧ ∀ l, H l = none → Q (.ref l) (upd H l (.lst ys)) := by
  obtain ⟨a, ws, rfl, h2, h3⟩ := h
  exact ⟨a, ws, rfl, .inl h2, fun l hl => k l ws _ (same_upd hl) hl upd_same h3⟩
theorem RL.cut {α : Type} {τ : Rep K α} {ws : List V} {xs : List α} (h : RL τ H ws xs) (lo hi : Option Int) : RL τ H (cutV ws lo hi) ((xs.drop (HT.sIx xs.length 0 lo)).take (HT.sIx xs.length xs.length hi - HT.sIx xs.length 0 lo)) := by
  unfold cutV
  rw [h.length]
  exact (h.drop _).take _
def cutI {α : Type} (xs : List α) (lo hi : Option Int) : List α := (xs.drop (HT.sIx xs.length 0 lo)).take (HT.sIx xs.length xs.length hi - HT.sIx xs.length 0 lo)
theorem e_slice {α : Type} {τ : Rep K α} {xs : List α} {lo hi : Option Int} (h : (qQ τ).R H v xs) (k : ∀ p ws H', Same H H' → H p = none → H' p = some (.lst ws) → RL τ H ws (cutI xs lo hi) → Q (.ref p) H') : rSlL K v lo hi H Q := by
  obtain ⟨a, ws, rfl, h2, h3⟩ := h
  exact ⟨a, ws, rfl, h2, fun l hl => k l _ _ (same_upd hl) hl upd_same (h3.cut lo hi)⟩
theorem c_slice {r : V → Option Int → Option Int → Hp → VK → Prop} {tl th : TO} {lo hi : Option Int} (ha : Val te σ H v) (hl : ∀ q : Option Int → Hp → Prop, q lo H → tl σ H q) (hh : ∀ q : Option Int → Hp → Prop, q hi H → th σ H q) (k : r v lo hi H Q) : tSl r te tl th σ H Q := ha _ (hl _ (hh _ k))
theorem po0 : ∀ q : Option Int → Hp → Prop, q none H → tNoPart σ H q := fun _ z => z
theorem po1 (h : Val te σ H (.int i)) : ∀ q : Option Int → Hp → Prop, q (some i) H → tPart te σ H q := fun _ z => h _ ⟨i, rfl, z⟩
theorem e_cat {α : Type} {τ : Rep K α} {xs ys : List α} (h1 : (qL τ).R H x xs) (h2 : (qL τ).R H y ys) (hz : xs.length + ys.length ≤ 16777216) (k : ∀ p ws H', Same H H' → H p = none → H' p = some (.lst ws) → RL τ H ws (xs ++ ys) → Q (.ref p) H') : rCat x y H Q := by
  obtain ⟨a, ws, rfl, ha, ra⟩ := h1
  obtain ⟨b, us, rfl, hb, rb⟩ := h2
  exact ⟨a, b, ws, us, rfl, rfl, ha, hb, by rw [ra.length, rb.length]; exact hz, fun p hp => k p _ _ (same_upd hp) hp upd_same (ra.app rb)⟩

/-! ### statements -/
theorem z_start {N : List Str} {t : TS} (hs : start N vs = σ) (q : t D σ H) : t D (start N vs) H := hs ▸ q
theorem z_nextR (q : tu D σ H) : tNext { D with nx := tu D } σ H := q
theorem z_setE {k : Nat} (h : te σ H fun v H' => gName k v σ H' (tu D)) : tSeq (tAsg te (gName k)) tu D σ H := h
theorem z_asgE (h : te σ H fun v H' => g v σ H' (tu D)) : tSeq (tAsg te g) tu D σ H := h
theorem z_retE (h : te σ H D.rt) : tSeq (tRet te) tu D σ H := h
theorem z_retN (h : D.rt .non H) : tSeq tRetN tu D σ H := h
theorem z_pass (h : tu D σ H) : tSeq tNext tu D σ H := h
theorem z_cont (h : D.ct σ H) : tSeq tCont tu D σ H := h
theorem z_brk (h : D.bk σ H) : tSeq tBreak tu D σ H := h
theorem z_dropE (h : te σ H fun _ H' => tu D σ H') : tSeq (tDrop te) tu D σ H := h
theorem z_ifE (h : tc σ H fun b H1 => if b = true then t1 { D with nx := tu D } σ H1 else t2 { D with nx := tu D } σ H1) : tSeq (tIfS tc t1 t2) tu D σ H := h
theorem z_ifbj (P : L2.St → Hp → Prop) (hP : ∀ σ' H', P σ' H' → tu D σ' H')
    (h1 : c = true → ∀ N : L2.St → Hp → Prop, (∀ σ' H', P σ' H' → N σ' H') → t1 { D with nx := N } σ H) (h2 : c = false → ∀ N : L2.St → Hp → Prop, (∀ σ' H', P σ' H' → N σ' H') → t2 { D with nx := N } σ H) : if c = true then t1 { D with nx := tu D } σ H else t2 { D with nx := tu D } σ H :=
  ifb (fun e => h1 e _ hP) (fun e => h2 e _ hP)
/-- xs.append(v) -/
theorem c_app {α : Type} {τ : Rep K α} {l : Addr} {xs ys : List α} {q : α} (g : Grow L S0 H0 S H) (cl : Cel L H0 S H l (.lst ws)) (r : RL τ S ws xs) (rv : τ.R S v q) (hz : xs.length < 16777216) (he : xs ++ [q] = ys)
    (k : ∀ ws' H', Grow L S0 H0 S H' → Cel L H0 S H' l (.lst ws') → RL τ S ws' ys → (∀ l' o', l' ≠ l → Cel L H0 S H l' o' → Cel L H0 S H' l' o') → Q .non H') : rAppend (.ref l) [v] H Q := by
  subst he
  exact ⟨l, ws, v, rfl, rfl, cl.h, by rw [r.length]; exact hz, k _ _ (g.wr cl rfl) (cl.wr rfl) (r.app (.cons rv .nil)) fun l' o' n c => c.wrn n⟩
theorem c_bm {T : String} {r : V → List V → Hp → VK → Prop} {l : Addr} (ha : Val ta σ H (.ref l)) (h : tyV K T (.ref l) H) (k : tr σ H fun xs H2 => r (.ref l) xs H2 Q) : tBM K T r ta tr σ H Q := ha _ ⟨h, k⟩
theorem c_bm0 {T : String} {r : V → List V → Hp → VK → Prop} {l : Addr} (ha : Val ta σ H (.ref l)) (h : tyV K T (.ref l) H) (k : r (.ref l) [] H Q) : tBM0 K T r ta σ H Q := ha _ ⟨h, k⟩
theorem tyL {l : Addr} (h : H l = some (.lst ws)) : tyV K "list" (.ref l) H := .inl ⟨rfl, _, SqL.of h⟩
/-- xs[i] = v -/
theorem c_setL {α : Type} {τ : Rep K α} {l : Addr} {xs ys : List α} {q : α} (g : Grow L S0 H0 S H) (cl : Cel L H0 S H l (.lst ws)) (r : RL τ S ws xs) (rv : τ.R S v q) (ho : Val ta σ H (.ref l)) (hi : Val tb σ H (.int i)) (he : setI xs i q = some ys)
    (k : ∀ ws' H', Grow L S0 H0 S H' → Cel L H0 S H' l (.lst ws') → RL τ S ws' ys → (∀ l' o', l' ≠ l → Cel L H0 S H l' o' → Cel L H0 S H' l' o') → tu D σ H') : gSub ta tb rSetL v σ H (tu D) := by
  unfold setI at he
  cases e : ixN xs.length i with
  | none => rw [e] at he; cases he
  | some j =>
    rw [e] at he
    cases (Option.some.inj he)
    exact ho _ (hi _ ⟨l, ws, i, j, rfl, rfl, cl.h, by rw [r.length]; exact e, k _ _ (g.wr cl rfl) (cl.wr rfl) (r.set rv j) fun l' o' n c => c.wrn n⟩)
theorem c_clear {α : Type} {τ : Rep K α} {l : Addr} (g : Grow L S0 H0 S H) (cl : Cel L H0 S H l (.lst ws))
    (k : ∀ H', Grow L S0 H0 S H' → Cel L H0 S H' l (.lst []) → RL τ S [] ([] : List α) → (∀ l' o', l' ≠ l → Cel L H0 S H l' o' → Cel L H0 S H' l' o') → Q .non H') : rClear (.ref l) [] H Q :=
  ⟨l, ws, rfl, rfl, cl.h, k _ (g.wr cl rfl) (cl.wr rfl) .nil fun l' o' n c => c.wrn n⟩
theorem v_chain {g g' : Int → Int → V} {p q : Int → Int → Bool} {k l m : Int} (ha : Val ta σ H (.int k)) (hb : Val tb σ H (.int l)) (hc : Val te σ H (.int m)) (h1 : g k l = .bl b) (h2 : g' l m = .bl c) : Val (tChain (rI0 g) (rI0 g') ta tb te) σ H (.bl (b && c)) := fun Q z => ha _ (hb _ ⟨k, l, rfl, rfl, b, h1, by
  cases b with
  | true => exact (show (if true = true then _ else _) from hc _ ⟨l, m, rfl, rfl, by rw [h2]; exact z⟩)
  | false => exact (show (if false = true then _ else _) from z)⟩)
theorem Same.seqt {H H' : Hp} {a : Addr} {xs : List V} (e : Same H H') (h : SqT K H a xs) : SqT K H' a xs := by
  rcases h with (h | ⟨o, h⟩) | h
  · exact .inl (.inl (e _ _ h))
  · exact .inl (.inr ⟨o, e _ _ h⟩)
  · exact .inr h
theorem turns_tup {α : Type} {R : V → α → Prop} {a : Addr} {ws : List V} {xs : List α} {g : TG} {tb : TS} (hp : Paired R ws xs) (Pv : List α → L2.St → Hp → Prop) (h0 : Pv xs σ H) (hl : ∀ ys σ' H', Pv ys σ' H' → SqT K H' a ws)
    (hs : ∀ w y ys σ' H', R w y → Pv (y :: ys) σ' H' → ∀ N : L2.St → Hp → Prop, (∀ σ'' H'', Pv ys σ'' H'' → N σ'' H'') → g w σ' H' fun σ2 H2 => tb { D with nx := N, ct := N, bk := D.nx } σ2 H2) (hd : ∀ σ' H', Pv [] σ' H' → D.nx σ' H') :
    ∃ W : Nat → Nat → L2.St → Hp → Prop, (∃ m, W 0 m σ H) ∧ ∀ i m σ H, W i m σ H →
      ((Itt K a).stop i H ∧ D.nx σ H) ∨ ((Itt K a).go i H ∧ ∃ N : L2.St → Hp → Prop, (∀ σ' H', N σ' H' → ∃ m', m' < m ∧ W (i + 1) m' σ' H') ∧ ∀ x H', (Itt K a).yld i H x H' → g x σ H' fun σ2 H2 => tb { D with nx := N, ct := N, bk := D.nx } σ2 H2) := by
  refine for_tup (K := K) (a := a) (xs := ws) (fun i σ H => i ≤ ws.length ∧ ∃ ys, Paired R (ws.drop i) ys ∧ Pv ys σ H) ⟨Nat.zero_le _, xs, hp, h0⟩ (fun i σ' H' _ p => ?_) (fun i x σ' H' hx p => ?_) (fun σ' H' p => ?_)
  · obtain ⟨_, ys, _, q⟩ := p
    exact hl _ _ _ q
  · obtain ⟨_, ys, r, q⟩ := p
    have hi : i < ws.length := (List.getElem?_eq_some_iff.mp hx).1
    have e : ws.drop i = x :: ws.drop (i + 1) := by
      rw [List.drop_eq_getElem_cons hi]
      rw [(List.getElem?_eq_some_iff.mp hx).2]
    rw [e] at r
    cases r with
    | cons a b => exact hs _ _ _ σ' H' a q _ fun σ'' H'' z => ⟨hi, _, b, z⟩
  · obtain ⟨_, ys, r, q⟩ := p
    rw [List.drop_length] at r
    cases r
    exact hd _ _ q
theorem z_forT {α : Type} {R : V → α → Prop} {a : Addr} {ws : List V} {xs : List α} {tl : TE} {g : TG} {tb : TS} (ha : Val tl σ H (.ref a)) (hp : Paired R ws xs) (Pv : List α → L2.St → Hp → Prop) (h0 : Pv xs σ H) (hl : ∀ ys σ' H', Pv ys σ' H' → SqT K H' a ws)
    (hs : ∀ w y ys σ' H', R w y → Pv (y :: ys) σ' H' → ∀ N : L2.St → Hp → Prop, (∀ σ'' H'', Pv ys σ'' H'' → N σ'' H'') → g w σ' H' fun σ2 H2 => tb { D with nx := N, ct := N, bk := tu D } σ2 H2) (hd : ∀ σ' H', Pv [] σ' H' → tu D σ' H') :
    tSeq (tFor (iTup K tl) g tb) tu D σ H := ha _ ⟨a, rfl, ⟨ws, hl _ _ _ h0⟩, turns_tup (D := { D with nx := tu D }) hp Pv h0 hl hs hd⟩
end
theorem bt_min : bootBuiltins "min" = some (.builtin "min") := by decide +kernel
theorem bt_max : bootBuiltins "max" = some (.builtin "max") := by decide +kernel
end Z

namespace Z
open PySem PySem.Spec PyProof.Rows L2

/-! ### comprehensions -/
def consO {β : Type} (r : Option β) (ys : List β) : List β := match r with
  | some y => y :: ys
  | none => ys
def compO' {α β : Type} (f : α → Option (Option β)) : List α → Option (List β)
  | [] => some []
  | x :: xs => (f x).bind fun r => (compO' f xs).bind fun ys => some (consO r ys)
@[irreducible] def compO {α β : Type} (f : α → Option (Option β)) (xs : List α) : Option (List β) := if xs.length ≤ 16777216 then compO' f xs else none
theorem compO_some {α β : Type} {f : α → Option (Option β)} {xs : List α} {ys : List β} (h : compO f xs = some ys) : xs.length ≤ 16777216 ∧ compO' f xs = some ys := by
  unfold compO at h
  split at h
  · rename_i q; exact ⟨q, h⟩
  · cases h
theorem compO_eq {α β : Type} {f : α → Option (Option β)} {g : α → Option β} {xs : List α} (hl : xs.length ≤ 16777216) (h : ∀ x ∈ xs, f x = some (g x)) : compO f xs = some (xs.filterMap g) := by
  unfold compO
  rw [if_pos hl]
  clear hl
  induction xs with
  | nil => rfl
  | cons x xs ih =>
    unfold compO'
    rw [h x (List.mem_cons_self), ih fun y hy => h y (List.mem_cons_of_mem _ hy), List.filterMap_cons]
    cases g x <;> rfl
section
variable {K : PySem.W.Frag} {σ : L2.St} {S H : Hp} {ta tl te : TE} {tt : TT} {tr : TA} {v : V} {Q : VK} {D : Ends} {tu : TS}
theorem wipe_one (j : Nat) : wipe σ [j] = σ.set j none := rfl
theorem wipe_again (j : Nat) (v : V) : wipe ((wipe σ [j]).set j (some v)) [j] = wipe σ [j] := by
  rw [wipe_one, wipe_one, List.set_set, List.set_set]
theorem turnsC_range {lo : Int} {n : Nat} {g : TG} {vs : List Nat} {H1 : Hp} {P : Addr} {Qd : Hp → Prop} (Pv : List Int → Hp → Prop) (h0 : Pv (rangeI lo n) (upd H1 P (.lst [])))
    (hs : ∀ x xs H', Pv (x :: xs) H' → ∀ N : Hp → Prop, (∀ H'', Pv xs H'' → N H'') → g (.int x) (wipe σ vs) H' fun σ2 H2 => wipe σ2 vs = wipe σ vs ∧ tt σ2 H2 fun b H3 =>
      if b = true then te σ2 H3 fun y H4 => ∃ acc, H4 P = some (.lst acc) ∧ acc.length < sizeLine ∧ N (upd H4 P (.lst (acc ++ [y]))) else N H3) (hd : ∀ H', Pv [] H' → Qd H') :
    ∃ W : Nat → Nat → Hp → Prop, (∃ m, W 0 m (upd H1 P (.lst []))) ∧ ∀ i m H, W i m H →
      ((Itr lo n).stop i H ∧ Qd H) ∨ ((Itr lo n).go i H ∧ ∃ Nx : Hp → Prop, (∀ H', Nx H' → ∃ m', m' < m ∧ W (i + 1) m' H') ∧ ∀ x H', (Itr lo n).yld i H x H' → g x (wipe σ vs) H' fun σ2 H2 => wipe σ2 vs = wipe σ vs ∧ tt σ2 H2 fun b H3 =>
        if b = true then te σ2 H3 fun y H4 => ∃ acc, H4 P = some (.lst acc) ∧ acc.length < sizeLine ∧ Nx (upd H4 P (.lst (acc ++ [y]))) else Nx H3) := by
  refine lc_range (fun i H => i ≤ n ∧ Pv (rangeI (lo + (i : Int)) (n - i)) H) ⟨Nat.zero_le _, by
    rw [show lo + ((0 : Nat) : Int) = lo from Int.add_zero lo]; exact h0⟩ (fun i H' hi p => ?_) (fun H' p => hd _ (by
    have q := p.2
    rw [Nat.sub_self] at q
    exact q))
  have e : n - i = (n - (i + 1)) + 1 := by omega
  have q := p.2
  rw [e, rangeI_succ] at q
  refine hs _ _ H' q (fun H => i + 1 ≤ n ∧ Pv (rangeI (lo + ((i + 1 : Nat) : Int)) (n - (i + 1))) H) fun H'' z => ⟨hi, ?_⟩
  rw [show lo + ((i + 1 : Nat) : Int) = lo + (i : Int) + 1 by omega]
  exact z
theorem turnsC_list {α : Type} {R : V → α → Prop} {a : Addr} {ws : List V} {xs : List α} {g : TG} {vs : List Nat} {H1 : Hp} {P : Addr} {Qd : Hp → Prop} (hp : Paired R ws xs) (Pv : List α → Hp → Prop) (h0 : Pv xs (upd H1 P (.lst []))) (hl : ∀ ys H', Pv ys H' → SqL K H' a ws)
    (hs : ∀ w x xs H', R w x → Pv (x :: xs) H' → ∀ N : Hp → Prop, (∀ H'', Pv xs H'' → N H'') → g w (wipe σ vs) H' fun σ2 H2 => wipe σ2 vs = wipe σ vs ∧ tt σ2 H2 fun b H3 =>
      if b = true then te σ2 H3 fun y H4 => ∃ acc, H4 P = some (.lst acc) ∧ acc.length < sizeLine ∧ N (upd H4 P (.lst (acc ++ [y]))) else N H3) (hd : ∀ H', Pv [] H' → Qd H') :
    ∃ W : Nat → Nat → Hp → Prop, (∃ m, W 0 m (upd H1 P (.lst []))) ∧ ∀ i m H, W i m H →
      ((Itl K a).stop i H ∧ Qd H) ∨ ((Itl K a).go i H ∧ ∃ Nx : Hp → Prop, (∀ H', Nx H' → ∃ m', m' < m ∧ W (i + 1) m' H') ∧ ∀ x H', (Itl K a).yld i H x H' → g x (wipe σ vs) H' fun σ2 H2 => wipe σ2 vs = wipe σ vs ∧ tt σ2 H2 fun b H3 =>
        if b = true then te σ2 H3 fun y H4 => ∃ acc, H4 P = some (.lst acc) ∧ acc.length < sizeLine ∧ Nx (upd H4 P (.lst (acc ++ [y]))) else Nx H3) := by
  refine lc_list (K := K) (a := a) (xs := ws) (fun i H => i ≤ ws.length ∧ ∃ ys, Paired R (ws.drop i) ys ∧ Pv ys H) ⟨Nat.zero_le _, xs, hp, h0⟩ (fun i H' _ p => ?_) (fun i x H' hx p => ?_) (fun H' p => ?_)
  · obtain ⟨_, ys, _, q⟩ := p
    exact hl _ _ q
  · obtain ⟨_, ys, r, q⟩ := p
    have hi : i < ws.length := (List.getElem?_eq_some_iff.mp hx).1
    have e : ws.drop i = x :: ws.drop (i + 1) := by
      rw [List.drop_eq_getElem_cons hi]
      rw [(List.getElem?_eq_some_iff.mp hx).2]
    rw [e] at r
    cases r with
    | cons a b => exact hs _ _ _ H' a q (fun H => i + 1 ≤ ws.length ∧ ∃ ys, Paired R (ws.drop (i + 1)) ys ∧ Pv ys H) fun H'' z => ⟨hi, _, b, z⟩
  · obtain ⟨_, ys, r, q⟩ := p
    rw [List.drop_length] at r
    cases r
    exact hd _ q
/-- what holds between two turns of a comprehension whose parts leave the heap as it is: P the new list, zs what is left -/
def CPv {α β : Type} (τ : Rep K β) (S H : Hp) (P : Addr) (f : α → Option (Option β)) (ys : List β) (zs : List α) (H' : Hp) : Prop :=
  ∃ acc ys1 ys2, H' P = some (.lst acc) ∧ RL τ S acc ys1 ∧ Same H H' ∧ compO' f zs = some ys2 ∧ ys1 ++ ys2 = ys ∧ acc.length + zs.length ≤ 16777216
theorem CPv.start {α β : Type} {τ : Rep K β} {P : Addr} {f : α → Option (Option β)} {ys : List β} {zs : List α} (hP : H P = none) (h : compO f zs = some ys) : CPv τ S H P f ys zs (upd H P (.lst [])) := by
  obtain ⟨h1, h2⟩ := compO_some h
  exact ⟨[], [], ys, upd_same, .nil, same_upd hP, h2, rfl, by simpa using h1⟩
theorem CPv.turn {α β : Type} {τ : Rep K β} {P : Addr} {f : α → Option (Option β)} {ys : List β} {x : α} {zs : List α} {H' : Hp} {j : Nat} {w : V} {σx : L2.St} (hP : H P = none) (hσ : σ.set j (some w) = σx)
    (turn : ∀ H', Same H H' → ∀ r, f x = some r → ∃ b, Ans tt σx H' b ∧ (b = true → ∃ v y, r = some y ∧ Val te σx H' v ∧ τ.R S v y) ∧ (b = false → r = none))
    (p : CPv τ S H P f ys (x :: zs) H') (N : Hp → Prop) (hN : ∀ H'', CPv τ S H P f ys zs H'' → N H'') :
    gName j w (wipe σ [j]) H' fun σ2 H2 => wipe σ2 [j] = wipe σ [j] ∧ tt σ2 H2 fun b H3 =>
      if b = true then te σ2 H3 fun y H4 => ∃ acc, H4 P = some (.lst acc) ∧ acc.length < sizeLine ∧ N (upd H4 P (.lst (acc ++ [y]))) else N H3 := by
  obtain ⟨acc, ys1, ys2, h1, h2, h3, h4, h5, h6⟩ := p
  have e : (wipe σ [j]).set j (some w) = σx := by rw [wipe_one, List.set_set]; exact hσ
  have e2 : wipe σx [j] = wipe σ [j] := by rw [← e]; exact wipe_again j w
  unfold compO' at h4
  cases hf : f x with
  | none => rw [hf] at h4; cases h4
  | some r =>
    rw [hf] at h4
    cases hr : compO' f zs with
    | none => rw [hr] at h4; cases h4
    | some ys3 =>
      rw [hr] at h4
      have h4 : consO r ys3 = ys2 := Option.some.inj h4
      obtain ⟨b, ha, ht, hn⟩ := turn H' h3 r hf
      refine g_name e ?_
      refine ⟨e2, ha _ ?_⟩
      cases b with
      | true =>
        obtain ⟨v, y, rfl, hv, hR⟩ := ht rfl
        refine (show (if true = true then _ else _) from hv _ ⟨acc, h1, ?_, hN _ ⟨acc ++ [v], ys1 ++ [y], ys3, upd_same, h2.app (.cons hR .nil), fun a o q => ?_, hr, ?_, ?_⟩⟩)
        · rw [sizeLine_eq]; simp only [List.length_cons] at h6; omega
        · rw [upd_ne (ne_of_none q hP)]; exact h3 a o q
        · rw [← h5, ← h4, List.append_assoc]; rfl
        · rw [List.length_append]; simp only [List.length_cons, List.length_nil] at h6 ⊢; omega
      | false =>
        have hn := hn rfl
        subst hn
        refine (show (if false = true then _ else _) from hN _ ⟨acc, ys1, ys3, h1, h2, h3, hr, ?_, ?_⟩)
        · rw [← h5, ← h4]; rfl
        · simp only [List.length_cons] at h6; omega
theorem CPv.done {α β : Type} {τ : Rep K β} {P : Addr} {f : α → Option (Option β)} {ys : List β} {H' : Hp} (p : CPv τ S H P f ys [] H') : ∃ acc, H' P = some (.lst acc) ∧ RL τ S acc ys ∧ Same H H' := by
  obtain ⟨acc, ys1, ys2, h1, h2, h3, h4, h5, _⟩ := p
  have : ys2 = [] := (Option.some.inj h4).symm
  subst this
  rw [List.append_nil] at h5
  subst h5
  exact ⟨acc, h1, h2, h3⟩
theorem c_lcR1 {β : Type} {τ : Rep K β} {n : Int} {f : Int → Option (Option β)} {ys : List β} {j : Nat} (ha : VA tr σ H [.int n]) (hj : gR n) (h : compO f (rangeI 0 n.toNat) = some ys)
    (turn : ∀ x H', Same H H' → ∀ r, f x = some r → ∃ b, Ans tt (σ.set j (some (.int x))) H' b ∧ (b = true → ∃ v y, r = some y ∧ Val te (σ.set j (some (.int x))) H' v ∧ τ.R S v y) ∧ (b = false → r = none))
    (k : ∀ p ws H', Same H H' → H p = none → H' p = some (.lst ws) → RL τ S ws ys → Q (.ref p) H') : tLc (iRng1 tr) (gName j) tt te [j] σ H Q :=
  ha _ ⟨n, rfl, hj.1, hj.2, fun P hP => turnsC_range (CPv τ S H P f ys) (CPv.start hP h) (fun x xs H' p N hN => CPv.turn hP rfl (fun H' e r hr => turn x H' e r hr) p N hN) fun H' p => by
    obtain ⟨acc, h1, h2, h3⟩ := p.done
    exact k P acc H' h3 hP h1 h2⟩
theorem c_lcR2 {β : Type} {τ : Rep K β} {m n : Int} {f : Int → Option (Option β)} {ys : List β} {j : Nat} (ha : VA tr σ H [.int m, .int n]) (hj : gR2 m n) (h : compO f (rangeI m (n - m).toNat) = some ys)
    (turn : ∀ x H', Same H H' → ∀ r, f x = some r → ∃ b, Ans tt (σ.set j (some (.int x))) H' b ∧ (b = true → ∃ v y, r = some y ∧ Val te (σ.set j (some (.int x))) H' v ∧ τ.R S v y) ∧ (b = false → r = none))
    (k : ∀ p ws H', Same H H' → H p = none → H' p = some (.lst ws) → RL τ S ws ys → Q (.ref p) H') : tLc (iRng2 tr) (gName j) tt te [j] σ H Q :=
  ha _ ⟨m, n, rfl, hj, fun P hP => turnsC_range (CPv τ S H P f ys) (CPv.start hP h) (fun x xs H' p N hN => CPv.turn hP rfl (fun H' e r hr => turn x H' e r hr) p N hN) fun H' p => by
    obtain ⟨acc, h1, h2, h3⟩ := p.done
    exact k P acc H' h3 hP h1 h2⟩
theorem c_lcL {α β : Type} {τ : Rep K β} {R : V → α → Prop} {a : Addr} {us : List V} {xs : List α} {f : α → Option (Option β)} {ys : List β} {j : Nat} (ha : Val tl σ H (.ref a)) (hq : SqL K H a us) (hp : Paired R us xs) (h : compO f xs = some ys)
    (turn : ∀ w x H', R w x → Same H H' → ∀ r, f x = some r → ∃ b, Ans tt (σ.set j (some w)) H' b ∧ (b = true → ∃ v y, r = some y ∧ Val te (σ.set j (some w)) H' v ∧ τ.R S v y) ∧ (b = false → r = none))
    (k : ∀ p ws H', Same H H' → H p = none → H' p = some (.lst ws) → RL τ S ws ys → Q (.ref p) H') : tLc (iList K tl) (gName j) tt te [j] σ H Q :=
  ha _ ⟨a, rfl, ⟨us, hq⟩, fun P hP => turnsC_list hp (CPv τ S H P f ys) (CPv.start hP h) (fun zs H' p => by
    obtain ⟨_, _, _, _, _, e, _⟩ := p
    exact e.seq hq) (fun w x xs H' rw_ p N hN => CPv.turn hP rfl (fun H' e r hr => turn w x H' rw_ e r hr) p N hN) fun H' p => by
    obtain ⟨acc, h1, h2, h3⟩ := p.done
    exact k P acc H' h3 hP h1 h2⟩
theorem a_yes {b : Bool} (h : b = true) : Ans tYes σ H b := by subst h; exact fun _ q => q

/-! ### further forms of loops -/
theorem z_forLE {g : TG} {tb : TS} (h : tl σ H fun x H1 => tSeq (tFor (iList K (tC x)) g tb) tu D σ H1) : tSeq (tFor (iList K tl) g tb) tu D σ H := h
theorem c_lcLE {g : TG} {vs : List Nat} (h : tl σ H fun x H1 => tLc (iList K (tC x)) g tt te vs σ H1 Q) : tLc (iList K tl) g tt te vs σ H Q := h
theorem v_ixq2 {α : Type} {τ : Rep K α} {xs : List α} {q : α} {i : Int} (e : Same S H) (hr : (qQ τ).R S v xs) (hx : atI xs i = some q) : ∃ w, (∀ {σ : L2.St} {ta tb : TE}, Val ta σ H v → Val tb σ H (.int i) → Val (tOp (rIxL K) ta tb) σ H w) ∧ τ.R S w q := by
  obtain ⟨a, ws, rfl, h2, h3⟩ := hr
  obtain ⟨w, ew, r⟩ := h3.at hx
  exact ⟨w, fun ha hb Q z => ha _ (hb _ ⟨a, ws, i, w, rfl, rfl, e.seq h2, ew, z⟩), r⟩
theorem v_ixc {α : Type} {τ : Rep K α} {l : Addr} {ws : List V} {xs : List α} {q : α} {i : Int} (hl : H l = some (.lst ws)) (hr : RL τ S ws xs) (hx : atI xs i = some q) : ∃ w, (∀ {σ : L2.St} {ta tb : TE}, Val ta σ H (.ref l) → Val tb σ H (.int i) → Val (tOp (rIxL K) ta tb) σ H w) ∧ τ.R S w q := by
  obtain ⟨w, ew, r⟩ := hr.at hx
  exact ⟨w, fun ha hb Q z => ha _ (hb _ ⟨l, ws, i, w, rfl, rfl, SqL.of hl, ew, z⟩), r⟩
/-- a part of a tuple -/
theorem v_p20 {α β : Type} {τ : Rep K α} {υ : Rep K β} {p : α × β} (e : Same S H) (hr : (qT2 τ υ).R S v p) : ∃ w, (∀ {σ : L2.St} {ta tb : TE}, Val ta σ H v → Val tb σ H (.int 0) → Val (tOp (rIxT K) ta tb) σ H w) ∧ τ.R S w p.1 := by
  obtain ⟨a, w1, w2, rfl, h2, h3, _⟩ := hr
  exact ⟨w1, fun ha hb Q q => ha _ (hb _ ⟨a, _, 0, _, rfl, rfl, SqT.of (e _ _ h2), rfl, q⟩), h3⟩
theorem v_p21 {α β : Type} {τ : Rep K α} {υ : Rep K β} {p : α × β} (e : Same S H) (hr : (qT2 τ υ).R S v p) : ∃ w, (∀ {σ : L2.St} {ta tb : TE}, Val ta σ H v → Val tb σ H (.int 1) → Val (tOp (rIxT K) ta tb) σ H w) ∧ υ.R S w p.2 := by
  obtain ⟨a, w1, w2, rfl, h2, _, h3⟩ := hr
  exact ⟨w2, fun ha hb Q q => ha _ (hb _ ⟨a, _, 1, _, rfl, rfl, SqT.of (e _ _ h2), rfl, q⟩), h3⟩
theorem eun2 {α β γ : Type} {f : α → β → γ} {a : α} {b : β} {r : γ} (h : un2 f (a, b) = r) : f a b = r := h
theorem eun3 {α β γ δ : Type} {f : α → β → γ → δ} {a : α} {b : β} {c : γ} {r : δ} (h : un3 f (a, b, c) = r) : f a b c = r := h
theorem eun4 {α β γ δ ε : Type} {f : α → β → γ → δ → ε} {a : α} {b : β} {c : γ} {d : δ} {r : ε} (h : un4 f (a, b, c, d) = r) : f a b c d = r := h
theorem eun5 {α β γ δ ε ζ : Type} {f : α → β → γ → δ → ε → ζ} {a : α} {b : β} {c : γ} {d : δ} {e : ε} {r : ζ} (h : un5 f (a, b, c, d, e) = r) : f a b c d e = r := h
theorem OP.nameW {σ : Type} {c : σ → Option Bool} {f : σ → Option σ} {n : Nat} {s : σ} {A : σ → Prop} (h : OP (Z.whileO c f n s) A) : ∃ C F, C = c ∧ F = f ∧ OP (Z.whileO C F n s) A := ⟨c, f, rfl, rfl, h⟩
theorem OP.nameX {σ ρ : Type} {c : σ → Option Bool} {f : σ → Option (σ ⊕ ρ)} {n : Nat} {s : σ} {A : σ ⊕ ρ → Prop} (h : OP (Z.whileR c f n s) A) : ∃ C F, C = c ∧ F = f ∧ OP (Z.whileR C F n s) A := ⟨c, f, rfl, rfl, h⟩
theorem fcall {σ τ : Type} {F f : σ → Option τ} {s : σ} {r : τ} (e : F = f) (h : F s = some r) : f s = some r := e ▸ h
theorem nn_t2 {α β : Type} {τ : Rep K α} {υ : Rep K β} {p : α × β} (hr : (qT2 τ υ).R H v p) : v ≠ .non := by
  obtain ⟨a, w1, w2, rfl, _⟩ := hr
  exact fun z => nomatch z
theorem nn_l {α : Type} {τ : Rep K α} {xs : List α} (hr : (qL τ).R H v xs) : v ≠ .non := by
  obtain ⟨a, ws, rfl, _⟩ := hr
  exact fun z => nomatch z
theorem v_isiO {T n : String} {α : Type} {τ : Rep K α} {o : Option α} (ha : Val ta σ H v) (hr : (qOpt τ).R H v o) (ty : ∀ {y : α}, τ.R H v y → TyX K H v (.type T)) (hk : kitB T n = some true) (hn : kitB "NoneType" n = some false) : Val (tCB (rIsi K) (tCons ta (tCons (tC (.ty n)) tNil))) σ H (.bl o.isSome) := by
  cases o with
  | none =>
    cases (show v = .non from hr)
    exact v_isi ha ty_non hn
  | some y => exact v_isi ha (ty hr.2) hk
theorem v_isiN {T n : String} {α : Type} {τ : Rep K α} {o : Option α} (ha : Val ta σ H v) (hr : (qOpt τ).R H v o) (ty : ∀ {y : α}, τ.R H v y → TyX K H v (.type T)) (hk : kitB T n = some false) (hn : kitB "NoneType" n = some false) : Val (tCB (rIsi K) (tCons ta (tCons (tC (.ty n)) tNil))) σ H (.bl false) := by
  cases o with
  | none =>
    cases (show v = .non from hr)
    exact v_isi ha ty_non hn
  | some y => exact v_isi ha (ty hr.2) hk
end
end Z

namespace Z
open PySem PySem.Spec PyProof.Rows L2

/-! ### answers -/
theorem OP.fin {α : Type} {A F : α → Prop} {x : α} (hA : A = F) (h : OP (Option.some x) A) : F x := hA ▸ h
def EXP {α : Type} (r : Except Nat α) (P : α → Prop) (N : Nat → Prop) : Prop := match r with
  | .ok x => P x
  | .error c => N c
theorem EXP.ok {α : Type} {x : α} {P : α → Prop} {N : Nat → Prop} (h : EXP (.ok x) P N) : P x := h
theorem EXP.er {α : Type} {c : Nat} {P : α → Prop} {N : Nat → Prop} (h : EXP (.error c) P N) : N c := h
theorem LM0 {P : Addr → Prop} : ∀ l ∈ ([] : List Addr), P l := fun _ h => nomatch h
theorem LM1 {P : Addr → Prop} {a : Addr} {as : List Addr} (h : P a) (t : ∀ l ∈ as, P l) : ∀ l ∈ a :: as, P l := fun l q => by
  cases q with
  | head => exact h
  | tail _ q => exact t l q
theorem NM0 {a : Addr} : a ∉ ([] : List Addr) := fun h => nomatch h
theorem NM1 {a b : Addr} {bs : List Addr} (h : a ≠ b) (t : a ∉ bs) : a ∉ b :: bs := fun q => by
  cases q with
  | head => exact h rfl
  | tail _ q => exact t q

section
variable {K : PySem.W.Frag} {σ σ' : L2.St} {S S1 H S0 H0 : Hp} {L L' : List Addr} {ta tb te tl : TE} {t u tc : TT} {tr : TA} {x y z v : V} {i j : Int} {b c : Bool} {Q : VK} {D : Ends} {t1 t2 tu : TS} {g : TG} {vs ws : List V}

/-! ### lists that are only read -/
/-- a list written by the top -/
def Wr (K : PySem.W.Frag) (a : Addr) (xs : List V) : Prop := ∃ (o : Obj) (its : Array Value) (n : Nat), K.lookup a = some o ∧ o.cls = .type "list" ∧ o.dict = none ∧ o.data = .seq its n ∧ its.size ≤ sizeLine ∧ Vals xs its.toList
def StL (K : PySem.W.Frag) (L : List Addr) (H0 : Hp) (a : Addr) (ws : List V) : Prop := ((H0 a = some (.lst ws) ∨ ∃ o, H0 a = some (.frz o (.lst ws))) ∧ a ∉ L) ∨ Wr K a ws
theorem StL.sq {a : Addr} (h : StL K L H0 a ws) : SqL K H0 a ws := by
  rcases h with ⟨h | ⟨o, h⟩, _⟩ | h
  · exact .inl (.inl h)
  · exact .inl (.inr ⟨o, h⟩)
  · exact .inr h
theorem Grow.st {a : Addr} (g : Grow L S0 H0 S H) (h : StL K L H0 a ws) : StL K L H a ws := by
  rcases h with ⟨h | ⟨o, h⟩, n⟩ | h
  · exact .inl ⟨.inl (g.hh _ _ n h), n⟩
  · exact .inl ⟨.inr ⟨o, g.hh _ _ n h⟩, n⟩
  · exact .inr h
theorem Grow.sq {a : Addr} (g : Grow L S0 H0 S H) (h : StL K L H0 a ws) : SqL K H a ws := (g.st h).sq
theorem StL.to {a : Addr} (h : StL K L H0 a ws) (g : Grow L S0 H0 S H) (hL : ∀ l ∈ L', H0 l = none ∨ l ∈ L) : StL K L' H a ws := by
  rcases h with ⟨q, n⟩ | q
  · rcases g.st (.inl ⟨q, n⟩ : StL K L H0 a ws) with ⟨q', _⟩ | q'
    · refine .inl ⟨q', fun m => ?_⟩
      rcases hL a m with z | z
      · rcases q with q | ⟨o, q⟩
        · rw [z] at q; cases q
        · rw [z] at q; cases q
      · exact n z
    · exact .inr q'
  · exact .inr q
def RdL {α : Type} (τ : Rep K α) (L : List Addr) (S H0 : Hp) (v : V) (x : List α) : Prop := ∃ a ws, v = .ref a ∧ StL K L H0 a ws ∧ RL τ S ws x
/-- what a loop, a slice .. reads -/
def LS {α : Type} (τ : Rep K α) (S H : Hp) (v : V) (x : List α) : Prop := ∃ a ws, v = .ref a ∧ SqL K H a ws ∧ RL τ S ws x
def LP {α : Type} (τ : Rep K α) (S H : Hp) (v : V) (x : List α) : Prop := ∃ a ws, v = .ref a ∧ H a = some (.lst ws) ∧ RL τ S ws x
section
variable {α : Type} {τ : Rep K α} {xs ys : List α} {l : Addr} {o o' : HO}
theorem RdL.mono (e : Same S S1) (h : RdL τ L S H0 v xs) : RdL τ L S1 H0 v xs := by
  obtain ⟨a, ws, rfl, h1, h2⟩ := h
  exact ⟨a, ws, rfl, h1, RL.mono e h2⟩
theorem RdL.q (g : Grow L S0 H0 S H) (h : RdL τ L S H0 v xs) : (qQ τ).R H v xs := by
  obtain ⟨a, ws, rfl, h1, h2⟩ := h
  exact ⟨a, ws, rfl, g.sq h1, RL.mono g.sh h2⟩
theorem RdL.to (g : Grow L S0 H0 S H) (h : RdL τ L S H0 v xs) (hL : ∀ l ∈ L', H0 l = none ∨ l ∈ L) : RdL τ L' S H v xs := by
  obtain ⟨a, ws, rfl, h1, h2⟩ := h
  exact ⟨a, ws, rfl, h1.to g hL, h2⟩
theorem RdL.ofL (e : Same S H) (h : (qL τ).R S v xs) (hL : ∀ l ∈ L', S l = none) : RdL τ L' S H v xs := by
  obtain ⟨a, ws, rfl, h1, h2⟩ := h
  exact ⟨a, ws, rfl, .inl ⟨.inl (e _ _ h1), fun m => by rw [hL a m] at h1; cases h1⟩, h2⟩
theorem RdL.ofC (h : H l = some (.lst ws)) (n : l ∉ L') (r : RL τ S ws xs) : RdL τ L' S H (.ref l) xs := ⟨l, ws, rfl, .inl ⟨.inl h, n⟩, r⟩
theorem RdL.start {a : Addr} (h : SqL K H a ws) (r : RL τ S ws xs) : RdL τ [] S H (.ref a) xs := by
  refine ⟨a, ws, rfl, ?_, r⟩
  rcases h with (h | ⟨o, h⟩) | h
  · exact .inl ⟨.inl h, NM0⟩
  · exact .inl ⟨.inr ⟨o, h⟩, NM0⟩
  · exact .inr h
theorem RdL.ofQ (e : Same S H) (h : (qQ τ).R S v xs) (_ : ∀ l ∈ ([] : List Addr), S l = none) : RdL τ [] S H v xs := by
  obtain ⟨a, ws, rfl, h1, h2⟩ := h
  exact RdL.start (e.seq h1) h2
theorem qL_of (h : H l = some (.lst ws)) (r : RL τ H ws xs) : (qL τ).R H (.ref l) xs := ⟨l, ws, rfl, h, r⟩
theorem LS.ofL (e : Same S H) (h : (qL τ).R S v xs) : LS τ S H v xs := by
  obtain ⟨a, ws, rfl, h1, h2⟩ := h
  exact ⟨a, ws, rfl, SqL.of (e _ _ h1), h2⟩
theorem LS.ofQ (e : Same S H) (h : (qQ τ).R S v xs) : LS τ S H v xs := by
  obtain ⟨a, ws, rfl, h1, h2⟩ := h
  exact ⟨a, ws, rfl, e.seq h1, h2⟩
theorem LS.rd (g : Grow L S0 H0 S H) (h : RdL τ L S H0 v xs) : LS τ S H v xs := by
  obtain ⟨a, ws, rfl, h1, h2⟩ := h
  exact ⟨a, ws, rfl, g.sq h1, h2⟩
theorem LS.cel (h : H l = some (.lst ws)) (r : RL τ S ws xs) : LS τ S H (.ref l) xs := ⟨l, ws, rfl, SqL.of h, r⟩
theorem LP.ofL (e : Same S H) (h : (qL τ).R S v xs) : LP τ S H v xs := by
  obtain ⟨a, ws, rfl, h1, h2⟩ := h
  exact ⟨a, ws, rfl, e _ _ h1, h2⟩
theorem LP.cel (h : H l = some (.lst ws)) (r : RL τ S ws xs) : LP τ S H (.ref l) xs := ⟨l, ws, rfl, h, r⟩
theorem c_freeze (g : Grow L S0 H0 S H) (c : Cel L H0 S H l (.lst ws)) (z : H0 l = none) (r : RL τ S ws xs) :
    ∃ S1, Grow L S0 H0 S1 H ∧ Same S S1 ∧ (qL τ).R S1 (.ref l) xs ∧ ∀ l' o', l' ≠ l → Cel L H0 S H l' o' → Cel L H0 S1 H l' o' :=
  ⟨_, g.freeze c z, same_upd c.s, ⟨l, ws, rfl, upd_same, RL.mono (same_upd c.s) r⟩, fun _ _ n c' => c'.freeze n⟩
theorem look_none {ns : List Str} {fs : List (Str × V)} {m : Str} (e : fs.map (·.1) = ns) (h : m ∉ ns) : fs.lookup m = none := by
  subst e
  induction fs with
  | nil => rfl
  | cons p fs ih =>
    obtain ⟨k, w⟩ := p
    rw [List.map_cons, List.mem_cons, not_or] at h
    rw [List.lookup_cons]
    have : (m == k) = false := beq_eq_false_iff_ne.mpr h.1
    rw [this]
    exact ih h.2

/-! ### values -/
theorem nn_q (h : (qQ τ).R H v xs) : v ≠ .non := by
  obtain ⟨a, ws, rfl, _⟩ := h
  exact fun z => nomatch z
theorem ty_q (h : (qQ τ).R H v xs) : TyX K H v (.type "list") := by
  obtain ⟨a, ws, rfl, h, _⟩ := h
  rcases h with (h | ⟨o, h⟩) | ⟨o, its, n, h, c, _⟩
  · exact .base (.lst h)
  · exact .base (.frz h)
  · exact .kList h c
theorem dec_nn (h : v ≠ .non) : decide (v = .non) = false := decide_eq_false h
theorem dec_nnN (h : v ≠ .non) : (!decide (v = .non)) = true := by rw [decide_eq_false h]; rfl
theorem ty_scI (h : (qI (K := K)).R H v i) : TyX K H v (.type "int") := by cases h; exact ty_int
theorem ty_scB (h : (qB (K := K)).R H v b) : TyX K H v (.type "bool") := by cases h; exact ty_bl
theorem ty_scS {s : Str} (h : (qS (K := K)).R H v s) : TyX K H v (.type "str") := by cases h; exact ty_str
theorem v_catS {s t : Str} (ha : Val ta σ H (.str s)) (hb : Val tb σ H (.str t)) (hz : s.length + t.length ≤ 16777216) : Val (tOp (fun x y H Q => ∃ i j, x = .str i ∧ y = .str j ∧ i.length + j.length ≤ sizeLine ∧ Q (.str (i ++ j)) H) ta tb) σ H (.str (s ++ t)) := fun Q q => ha _ (hb _ ⟨s, t, rfl, rfl, hz, q⟩)
theorem e_catS {s t : Str} (hz : s.length + t.length ≤ 16777216) (q : Q (.str (s ++ t)) H) : (fun (x y : V) (H : Hp) (Q : VK) => ∃ i j, x = .str i ∧ y = .str j ∧ i.length + j.length ≤ sizeLine ∧ Q (.str (i ++ j)) H) (.str s) (.str t) H Q := ⟨s, t, rfl, rfl, hz, q⟩
theorem v_lenS {s : Str} (hz : s.length ≤ 16777216) (ha : Val ta σ H (.str s)) : Val (tCB (fun xs H Q => ∃ z, xs = [.str z] ∧ z.length ≤ sizeLine ∧ Q (.int z.length) H) (tCons ta tNil)) σ H (.int (s.length : Int)) := fun Q q => ha _ ⟨s, rfl, hz, q⟩
theorem e_len (h : (qQ τ).R H v xs) (q : Q (.int (xs.length : Int)) H) : rLenS K [v] H Q := by
  obtain ⟨a, ws, rfl, h2, h3⟩ := h
  exact ⟨a, ws, rfl, .inl h2, by rw [h3.length]; exact q⟩
theorem ints_of {xs : List Int} : ∀ {ws : List V}, RL (K := K) qI H ws xs → ws = xs.map V.int := fun h => RL.eqmap V.int (fun _ _ q => q) h
theorem e_sum {xs : List Int} (h : (qQ (K := K) qI).R H v xs) (q : Q (.int xs.sum) H) : rSum K [v] H Q := by
  obtain ⟨a, ws, rfl, h2, h3⟩ := h
  exact ⟨a, xs, rfl, by rw [← ints_of h3]; exact h2, q⟩
theorem v_sum {xs : List Int} (ha : Val ta σ H v) (h : (qQ (K := K) qI).R H v xs) : Val (tCB (rSum K) (tCons ta tNil)) σ H (.int xs.sum) := fun Q q => ha _ (e_sum h q)
theorem e_isN (e : decide (x = .non) = b) (q : Q (.bl b) H) : rIsN x .non H Q := ⟨rfl, by rw [e]; exact q⟩
theorem e_notN (e : (!decide (x = .non)) = b) (q : Q (.bl b) H) : rNotN x .non H Q := ⟨rfl, by rw [e]; exact q⟩
/-- pairs of whole numbers in order -/
def ltP2 (p q : Int × Int) : Bool := SrtO.lexB p q
theorem lex2 (p q : Int × Int) : HT.lexLt [p.1, p.2] [q.1, q.2] = ltP2 p q := by
  unfold ltP2 SrtO.lexB
  rw [HT.lexLt_cons, HT.lexLt_cons, HT.lexLt_nil_nil]
  by_cases h1 : p.1 = q.1
  · rw [if_pos h1, if_pos h1]
    by_cases h2 : p.2 = q.2
    · rw [if_pos h2, h2]; simp
    · rw [if_neg h2]
  · rw [if_neg h1, if_neg h1]
def rPair (f : Int × Int → Int × Int → Bool) (K : PySem.W.Frag) : R2 := fun x y H Q => ∃ (a b : Addr) (p q : Int × Int), x = .ref a ∧ y = .ref b ∧ SqT K H a [.int p.1, .int p.2] ∧ SqT K H b [.int q.1, .int q.2] ∧ Q (.bl (f p q)) H
theorem op_ltP {X : Cx} (hu : X.A.units < cLine) : OpR X (compareOp .Lt) (rPair ltP2 X.K) := fun pins s σ H x y v u Q I rx ry h => by
  obtain ⟨a, b, p, q, rfl, rfl, ha, hb, k⟩ := h
  exact op_ltT hu pins s σ H _ _ v u Q I rx ry ⟨a, b, [p.1, p.2], [q.1, q.2], rfl, rfl, ha, hb, by rw [lex2]; exact k⟩
theorem op_geP {X : Cx} (hu : X.A.units < cLine) : OpR X (compareOp .GtE) (rPair (fun p q => !ltP2 p q) X.K) := by
  intro pins s σ H x y v u Q I rx ry h
  obtain ⟨a, b, p, q, rfl, rfl, ha, hb, k⟩ := h
  cases rx
  cases ry
  obtain ⟨its, r1, p1, _⟩ := I.tuple ha
  obtain ⟨its2, r2, p2, _⟩ := I.tuple hb
  obtain ⟨ns, ens⟩ : ∃ ns, ns = [p.1, p.2] := ⟨_, rfl⟩
  obtain ⟨ms, ems⟩ : ∃ ms, ms = [q.1, q.2] := ⟨_, rfl⟩
  have i1 : IntsAre its ns := by rw [ens]; exact Vals.ints (ns := [p.1, p.2]) r1
  have i2 : IntsAre its2 ms := by rw [ems]; exact Vals.ints (ns := [q.1, q.2]) r2
  have e1 : its.toArray.size = ns.length := by rw [List.size_toArray]; exact i1.length
  have e2 : its2.toArray.size = ms.length := by rw [List.size_toArray]; exact i2.length
  have at1 : ∀ j (h1 : j < its.toArray.size), ∃ t, its.toArray[j] = .int (ns.getD j 0) t := fun j h1 => PyProof.Rows.IntsAre.int_at i1 _ _ (by simp at h1; simp [h1])
  have at2 : ∀ j (h1 : j < its2.toArray.size), ∃ t, its2.toArray[j] = .int (ms.getD j 0) t := fun j h1 => PyProof.Rows.IntsAre.int_at i2 _ _ (by simp at h1; simp [h1])
  have R := Ob.RcOp.tuples_ge (A := X.A) (s := s) (e := fun j => decide (ns.getD j 0 = ms.getD j 0)) (r := fun j => decide (ms.getD j 0 ≤ ns.getD j 0)) p1 p2 hu (fun j h1 h2 => by
    obtain ⟨t, et⟩ := at1 j h1
    obtain ⟨t', et'⟩ := at2 j h2
    rw [et, et']
    have z : (ns.getD j 0 == ms.getD j 0) = decide (ns.getD j 0 = ms.getD j 0) := by
      by_cases q : ns.getD j 0 = ms.getD j 0
      · rw [decide_eq_true q]; exact beq_iff_eq.mpr q
      · rw [decide_eq_false q]; exact beq_eq_false_iff_ne.mpr q
    rw [← z]
    exact SeqAt.EqAt.int_int _ _ _ _) (fun j h1 h2 _ => by
    obtain ⟨t, et⟩ := at1 j h1
    obtain ⟨t', et'⟩ := at2 j h2
    rw [et, et']
    exact Ob.RcOp.ge_int _ _ _ _)
  rw [e1, e2] at R
  have key : Ob.lexAt (fun j => decide (ns.getD j 0 = ms.getD j 0)) (fun j => decide (ms.getD j 0 ≤ ns.getD j 0)) (decide (ns.length ≥ ms.length)) 0 (min ns.length ms.length) = !ltP2 p q := by
    subst ens; subst ems
    show Ob.lexAt _ _ _ 0 2 = _
    rw [Ob.lexAt_succ, Ob.lexAt_succ, Ob.lexAt_zero]
    unfold ltP2 SrtO.lexB
    simp only [List.getD_cons_zero, List.getD_cons_succ, decide_eq_true_iff]
    by_cases h1 : p.1 = q.1
    · rw [if_pos h1, if_pos h1]
      by_cases h2 : p.2 = q.2
      · rw [if_pos h2, h2]; simp
      · rw [if_neg h2]
        have : decide (q.2 ≤ p.2) = !decide (p.2 < q.2) := by rw [← decide_not]; exact decide_eq_decide.mpr (by omega)
        rw [this]
    · rw [if_neg h1, if_neg h1]
      have : decide (q.1 ≤ p.1) = !decide (p.1 < q.1) := by rw [← decide_not]; exact decide_eq_decide.mpr (by omega)
      rw [this]
  rw [key] at R
  have z : wpAny (model X.prog X.w) X.A (compareOp .GtE (.ref a) (.ref b)) (EP X pins σ Q) X.xe s := R X.prog X.w X.xe (EP X pins σ Q) ⟨.bl _, H, I, rfl, k⟩
  exact z
theorem e_P2 {f : Int × Int → Int × Int → Bool} {p q : Int × Int} (h1 : (qT2 (K := K) qI qI).R H x p) (h2 : (qT2 (K := K) qI qI).R H y q) (k : Q (.bl (f p q)) H) : rPair f K x y H Q := by
  obtain ⟨a, w1, w2, rfl, ha, rfl, rfl⟩ := h1
  obtain ⟨b, u1, u2, rfl, hb, rfl, rfl⟩ := h2
  exact ⟨a, b, p, q, rfl, rfl, SqT.of ha, SqT.of hb, k⟩
theorem v_P2 {f : Int × Int → Int × Int → Bool} {p q : Int × Int} (ha : Val ta σ H x) (hb : Val tb σ H y) (h1 : (qT2 (K := K) qI qI).R H x p) (h2 : (qT2 (K := K) qI qI).R H y q) : Val (tOp (rPair f K) ta tb) σ H (.bl (f p q)) := fun Q k => ha _ (hb _ (e_P2 h1 h2 k))

/-! ### new lists -/
theorem l_slice {lo hi : Option Int} (h : LS τ S H v xs) (k : ∀ p ws H', Same H H' → H p = none → H' p = some (.lst ws) → RL τ S ws (cutI xs lo hi) → Q (.ref p) H') : rSlL K v lo hi H Q := by
  obtain ⟨a, ws, rfl, h2, h3⟩ := h
  exact ⟨a, ws, rfl, h2, fun l hl => k l _ _ (same_upd hl) hl upd_same (h3.cut lo hi)⟩
theorem l_list (h : LS τ S H v xs) (k : ∀ p ws H', Same H H' → H p = none → H' p = some (.lst ws) → RL τ S ws xs → Q (.ref p) H') :
    ∃ p ys, [v] = [.ref p] ∧ (SqL K H p ys ∨ SqT K H p ys) ∧ ∀ l, H l = none → Q (.ref l) (upd H l (.lst ys)) := by
  obtain ⟨a, ws, rfl, h2, h3⟩ := h
  exact ⟨a, ws, rfl, .inl h2, fun l hl => k l ws _ (same_upd hl) hl upd_same h3⟩
theorem l_cat (h1 : LP τ S H x xs) (h2 : LP τ S H y ys) (hz : xs.length + ys.length ≤ 16777216) (k : ∀ p ws H', Same H H' → H p = none → H' p = some (.lst ws) → RL τ S ws (xs ++ ys) → Q (.ref p) H') : rCat x y H Q := by
  obtain ⟨a, ws, rfl, ha, ra⟩ := h1
  obtain ⟨b, us, rfl, hb, rb⟩ := h2
  exact ⟨a, b, ws, us, rfl, rfl, ha, hb, by rw [ra.length, rb.length]; exact hz, fun p hp => k p _ _ (same_upd hp) hp upd_same (ra.app rb)⟩
/-- rising, by insertion -/
def insB {β : Type} (lt : β → β → Bool) (x : β) : List β → List β
  | [] => [x]
  | y :: ys => if lt y x = true then y :: insB lt x ys else x :: y :: ys
def sortB {β : Type} (lt : β → β → Bool) : List β → List β
  | [] => []
  | x :: xs => insB lt x (sortB lt xs)
theorem insB_perm {β : Type} {lt : β → β → Bool} {x : β} : ∀ ys : List β, (insB lt x ys).Perm (x :: ys)
  | [] => .refl _
  | y :: ys => by
    unfold insB
    split
    · exact ((insB_perm ys).cons y).trans (.swap x y ys)
    · exact .refl _
theorem sortB_perm {β : Type} {lt : β → β → Bool} : ∀ xs : List β, (sortB lt xs).Perm xs
  | [] => .refl _
  | x :: xs => (insB_perm _).trans ((sortB_perm xs).cons x)
theorem insB_srt {β : Type} {lt : β → β → Bool} (asy : ∀ a b, lt a b = true → lt b a = false) (tr : ∀ a b c, lt b a = false → lt c b = false → lt c a = false) {x : β} : ∀ {ys : List β}, SrtO.Srtd lt ys → SrtO.Srtd lt (insB lt x ys)
  | [], _ => List.pairwise_singleton _ _
  | y :: ys, h => by
    unfold insB
    obtain ⟨h1, h2⟩ := List.pairwise_cons.mp h
    split
    · rename_i q
      refine List.pairwise_cons.mpr ⟨fun z hz => ?_, insB_srt asy tr h2⟩
      rcases List.mem_cons.mp ((insB_perm ys).mem_iff.mp hz) with rfl | hz
      · exact asy _ _ q
      · exact h1 z hz
    · rename_i q
      have q : lt y x = false := by cases e : lt y x <;> simp_all
      refine List.pairwise_cons.mpr ⟨fun z hz => ?_, h⟩
      rcases List.mem_cons.mp hz with rfl | hz
      · exact q
      · exact tr _ _ _ q (h1 z hz)
theorem sortB_srt {β : Type} {lt : β → β → Bool} (asy : ∀ a b, lt a b = true → lt b a = false) (tr : ∀ a b c, lt b a = false → lt c b = false → lt c a = false) : ∀ xs : List β, SrtO.Srtd lt (sortB lt xs)
  | [] => List.Pairwise.nil
  | x :: xs => insB_srt asy tr (sortB_srt asy tr xs)
/-- two rising lists of the same things are one, where neither-below is equal -/
theorem srt_uniq {β : Type} {lt : β → β → Bool} (tot : ∀ a b, lt a b = false → lt b a = false → a = b) : ∀ {xs ys : List β}, xs.Perm ys → SrtO.Srtd lt xs → SrtO.Srtd lt ys → xs = ys
  | [], ys, p, _, _ => (List.Perm.nil_eq p)
  | x :: xs, [], p, _, _ => absurd p.length_eq (by simp)
  | x :: xs, y :: ys, p, h1, h2 => by
    obtain ⟨a1, a2⟩ := List.pairwise_cons.mp h1
    obtain ⟨b1, b2⟩ := List.pairwise_cons.mp h2
    have e : x = y := by
      rcases List.mem_cons.mp (p.mem_iff.mp List.mem_cons_self) with e | hx
      · exact e
      · rcases List.mem_cons.mp (p.mem_iff.mpr List.mem_cons_self) with e | hy
        · exact e.symm
        · exact tot x y (b1 x hx) (a1 y hy)
    subst e
    rw [srt_uniq tot (p.cons_inv) a2 b2]
abbrev sortP (xs : List (Int × Int)) : List (Int × Int) := sortB ltP2 xs
abbrev ltI (a b : Int) : Bool := decide (a < b)
abbrev sortI (xs : List Int) : List Int := sortB ltI xs
theorem ltP2_iff {p q : Int × Int} : ltP2 p q = true ↔ p.1 < q.1 ∨ (p.1 = q.1 ∧ p.2 < q.2) := SrtO.lexB_iff
theorem ltP2_no {p q : Int × Int} : ltP2 p q = false ↔ ¬ (p.1 < q.1 ∨ (p.1 = q.1 ∧ p.2 < q.2)) := SrtO.lexB_no
theorem ltP2_tot (a b : Int × Int) (h1 : ltP2 a b = false) (h2 : ltP2 b a = false) : a = b := by
  rw [ltP2_no] at h1 h2
  exact Prod.ext (by omega) (by omega)
theorem ltP2_asy (a b : Int × Int) (h : ltP2 a b = true) : ltP2 b a = false := by
  rw [ltP2_iff] at h
  rw [ltP2_no]; omega
theorem ltP2_tr (a b c : Int × Int) (h1 : ltP2 b a = false) (h2 : ltP2 c b = false) : ltP2 c a = false := by
  rw [ltP2_no] at h1 h2 ⊢; omega
theorem ltI_tot (a b : Int) (h1 : ltI a b = false) (h2 : ltI b a = false) : a = b := by
  have := of_decide_eq_false h1
  have := of_decide_eq_false h2
  omega
theorem ltI_asy (a b : Int) (h : ltI a b = true) : ltI b a = false := by
  have := of_decide_eq_true h
  exact decide_eq_false (by omega)
theorem ltI_tr (a b c : Int) (h1 : ltI b a = false) (h2 : ltI c b = false) : ltI c a = false := by
  have := of_decide_eq_false h1
  have := of_decide_eq_false h2
  exact decide_eq_false (by omega)
theorem RL.perm : ∀ {ws : List V} {xs : List α} {ws' : List V}, RL τ H ws xs → ws'.Perm ws → ∃ xs', xs'.Perm xs ∧ RL τ H ws' xs' := by
  intro ws xs ws' r p
  induction p generalizing xs with
  | nil => exact ⟨xs, .refl _, r⟩
  | cons x p ih =>
    cases r with
    | cons a b =>
      obtain ⟨ys, q, s⟩ := ih b
      exact ⟨_ :: ys, q.cons _, .cons a s⟩
  | swap x y l =>
    cases r with
    | cons a b =>
      cases b with
      | cons b c => exact ⟨_, .swap _ _ _, .cons b (.cons a c)⟩
  | trans p q ih1 ih2 =>
    obtain ⟨ys, q1, s1⟩ := ih2 r
    obtain ⟨zs, q2, s2⟩ := ih1 s1
    exact ⟨zs, q2.trans q1, s2⟩
/-- the pair that stands at a value -/
def pairAt (H : Hp) (v : V) : Int × Int := match v with
  | .ref a => match H a with
    | some (.tup [.int i, .int j]) => (i, j)
    | _ => (0, 0)
  | _ => (0, 0)
theorem pairAt_of {p : Int × Int} (h : (qT2 (K := K) qI qI).R H v p) : pairAt H v = p := by
  obtain ⟨a, w1, w2, rfl, h2, rfl, rfl⟩ := h
  simp only [pairAt, h2]
theorem l_sortP {xs : List (Int × Int)} (e : Same S H) (h : LS (qT2 (K := K) qI qI) S H v xs) (k : ∀ p ws H', Same H H' → H p = none → H' p = some (.lst ws) → RL (qT2 (K := K) qI qI) S ws (sortP xs) → Q (.ref p) H') : rSortedPO K [v] H Q := by
  obtain ⟨a, ws, rfl, h2, h3⟩ := h
  have all : ∀ {us : List V} {ys : List (Int × Int)}, RL (qT2 (K := K) qI qI) S us ys → us.map (pairAt H) = ys := by
    intro us ys r
    induction r with
    | nil => rfl
    | cons a _ ih => rw [List.map_cons, ih, pairAt_of (Rep.mono _ e a)]
  refine ⟨a, ws, pairAt H, rfl, h2, fun x hx => ?_, fun ys p h4 h5 hp => ?_⟩
  · clear all k h2
    revert hx
    induction h3 with
    | nil => intro hx; cases hx
    | cons a _ ih =>
      intro hx
      rcases List.mem_cons.mp hx with rfl | hx
      · have r := Rep.mono _ e a
        have z := pairAt_of r
        obtain ⟨t, w1, w2, rfl, ht, rfl, rfl⟩ := r
        exact ⟨t, rfl, by rw [z]; exact ht⟩
      · exact ih hx
  · obtain ⟨zs, q, r⟩ := RL.perm h3 h5.perm
    have ez : zs = ys.map (pairAt H) := (all r).symm
    have s1 : SrtO.Srtd ltP2 zs := by
      rw [ez]
      exact List.pairwise_map.mpr h4
    have : zs = sortP xs := srt_uniq ltP2_tot (q.trans (sortB_perm xs).symm) s1 (sortB_srt ltP2_asy ltP2_tr xs)
    exact k p ys _ (same_upd hp) hp upd_same (this ▸ r)
theorem l_sortI {xs : List Int} (e : Same S H) (h : LS (K := K) qI S H v xs) (k : ∀ p ws H', Same H H' → H p = none → H' p = some (.lst ws) → RL (K := K) qI S ws (sortI xs) → Q (.ref p) H') : rSortedI K [v] H Q := by
  obtain ⟨a, ws, rfl, h2, h3⟩ := h
  refine ⟨a, xs, rfl, by rw [← ints_of h3]; exact h2, fun ns p q h4 hp => ?_⟩
  have s1 : SrtO.Srtd ltI ns := h4.imp fun h => decide_eq_false (by omega)
  have : ns = sortI xs := srt_uniq ltI_tot (q.trans (sortB_perm xs).symm) s1 (sortB_srt ltI_asy ltI_tr xs)
  subst this
  exact k p _ _ (same_upd hp) hp upd_same (RL.map V.int (fun _ => rfl) _)
theorem c_sliceE {r : V → Option Int → Option Int → Hp → VK → Prop} {tl th : TO} (h : te σ H fun x H1 => tSl r (tC x) tl th σ H1 Q) : tSl r te tl th σ H Q := h
theorem c_slice2 {r : V → Option Int → Option Int → Hp → VK → Prop} {tl th : TO} {lo hi : Option Int} (hl : ∀ q : Option Int → Hp → Prop, q lo H → tl σ H q) (hh : ∀ q : Option Int → Hp → Prop, q hi H → th σ H q) (k : r v lo hi H Q) : tSl r (tC v) tl th σ H Q := hl _ (hh _ k)
/-! ### parts -/
theorem e_ix {q : α} (h : LS τ S H v xs) (hx : atI xs i = some q) (k : ∀ w, τ.R S w q → Q w H) : rIxL K v (.int i) H Q := by
  obtain ⟨a, ws, rfl, h2, h3⟩ := h
  obtain ⟨w, ew, r⟩ := h3.at hx
  exact ⟨a, ws, i, w, rfl, rfl, h2, ew, k w r⟩
theorem v_ixr {q : α} (g : Grow L S0 H0 S H) (h : RdL τ L S H0 v xs) (hx : atI xs i = some q) : ∃ w, (∀ {σ : L2.St} {ta tb : TE}, Val ta σ H v → Val tb σ H (.int i) → Val (tOp (rIxL K) ta tb) σ H w) ∧ τ.R S w q := by
  obtain ⟨a, ws, rfl, h2, h3⟩ := LS.rd g h
  obtain ⟨w, ew, r⟩ := h3.at hx
  exact ⟨w, fun ha hb Q z => ha _ (hb _ ⟨a, ws, i, w, rfl, rfl, h2, ew, z⟩), r⟩
end
section
variable {α β γ : Type} {τ : Rep K α} {υ : Rep K β} {φ : Rep K γ}
theorem e_p20 {p : α × β} (e : Same S H) (h : (qT2 τ υ).R S v p) (k : ∀ w, τ.R S w p.1 → Q w H) : rIxT K v (.int 0) H Q := by
  obtain ⟨a, w1, w2, rfl, h2, h3, h4⟩ := h
  exact ⟨a, _, 0, _, rfl, rfl, SqT.of (e _ _ h2), rfl, k w1 h3⟩
theorem e_p21 {p : α × β} (e : Same S H) (h : (qT2 τ υ).R S v p) (k : ∀ w, υ.R S w p.2 → Q w H) : rIxT K v (.int 1) H Q := by
  obtain ⟨a, w1, w2, rfl, h2, h3, h4⟩ := h
  exact ⟨a, _, 1, _, rfl, rfl, SqT.of (e _ _ h2), rfl, k w2 h4⟩
theorem g_tup2 {n : Nat} {p : α × β} {t1 t2 : TG} {q : L2.St → Hp → Prop} (hn : 2 = n) (e : Same S H) (h : (qT2 τ υ).R S v p) (k : ∀ w1 w2, τ.R S w1 p.1 → υ.R S w2 p.2 → t1 w1 σ H fun σ1 H1 => gCons t2 gNil [w2] σ1 H1 q) : gTup K n (gCons t1 (gCons t2 gNil)) v σ H q := by
  subst hn
  obtain ⟨a, w1, w2, rfl, h2, h3, h4⟩ := h
  exact ⟨a, _, rfl, SqT.of (e _ _ h2), rfl, w1, _, rfl, k w1 w2 h3 h4⟩
theorem g_tup3 {n : Nat} {p : α × β × γ} {t1 t2 t3 : TG} {q : L2.St → Hp → Prop} (hn : 3 = n) (e : Same S H) (h : (qT3 τ υ φ).R S v p) (k : ∀ w1 w2 w3, τ.R S w1 p.1 → υ.R S w2 p.2.1 → φ.R S w3 p.2.2 → t1 w1 σ H fun σ1 H1 => gCons t2 (gCons t3 gNil) [w2, w3] σ1 H1 q) : gTup K n (gCons t1 (gCons t2 (gCons t3 gNil))) v σ H q := by
  subst hn
  obtain ⟨a, w1, w2, w3, rfl, h2, h3, h4, h5⟩ := h
  exact ⟨a, _, rfl, SqT.of (e _ _ h2), rfl, w1, _, rfl, k w1 w2 w3 h3 h4 h5⟩
end
theorem g_next {t : TG} {u : TGs} {q : L2.St → Hp → Prop} (k : t v σ H fun σ' H' => u vs σ' H' q) : gCons t u (v :: vs) σ H q := ⟨v, vs, rfl, k⟩
theorem g_end {q : L2.St → Hp → Prop} (k : q σ H) : gNil [] σ H q := ⟨rfl, k⟩
/-- a new pair that is put apart at once -/
theorem g_pair {n : Nat} {p : Addr} {H2 : Hp} {t1 t2 : TG} {w1 w2 : V} {q : L2.St → Hp → Prop} (e : H2 = upd H p (.tup [w1, w2])) (h : H2 p = some (.tup [w1, w2])) (hn : 2 = n) (k : t1 w1 σ H2 fun σ1 H1 => gCons t2 gNil [w2] σ1 H1 q) : gTup K n (gCons t1 (gCons t2 gNil)) (.ref p) σ (upd H p (.tup [w1, w2])) q := by
  subst e; subst hn
  exact ⟨p, _, rfl, SqT.of h, rfl, w1, _, rfl, k⟩

/-! ### loops -/
section
variable {α β : Type} {R : V → α → Prop} {R2 : V → β → Prop} {a : Addr} {us : List V} {xs : List α} {ys : List β}
theorem paired_get {R : V → α → Prop} : ∀ {ws : List V} {xs : List α}, Paired R ws xs → ∀ {i : Nat} {w : V}, ws[i]? = some w → ∃ x, xs[i]? = some x ∧ R w x
  | _, _, .nil, i, w, h => by cases h
  | _, _, .cons r t, 0, w, h => by
    cases h
    exact ⟨_, rfl, r⟩
  | _, _, .cons r t, i + 1, w, h => paired_get t (i := i) h
/-- for x in reversed(xs) -/
theorem z_forV {ws : List V} {tl : TE} {g : TG} {tb : TS} (ha : Val tl σ H (.ref a)) (hp : Paired R ws xs) (Pv : List α → L2.St → Hp → Prop) (h0 : Pv xs.reverse σ H) (hl : ∀ ys σ' H', Pv ys σ' H' → SqL K H' a ws)
    (hs : ∀ w y ys σ' H', R w y → Pv (y :: ys) σ' H' → ∀ N : L2.St → Hp → Prop, (∀ σ'' H'', Pv ys σ'' H'' → N σ'' H'') → g w σ' H' fun σ2 H2 => tb { D with nx := N, ct := N, bk := tu D } σ2 H2) (hd : ∀ σ' H', Pv [] σ' H' → tu D σ' H') :
    tSeq (tFor (iRev K (tCons tl tNil)) g tb) tu D σ H := ha _ ⟨a, ws, rfl, hl _ _ _ h0, by
  have hlen := Paired.length hp
  refine ⟨fun i m σ H => m = ws.length - i ∧ i ≤ ws.length ∧ Pv (xs.reverse.drop i) σ H, ⟨_, rfl, Nat.zero_le _, h0⟩, ?_⟩
  rintro i m σ' H' ⟨rfl, hi, p⟩
  by_cases hlt : i < ws.length
  · have hj : ws.length - 1 - i < ws.length := by omega
    have hx : ws[ws.length - 1 - i]? = some ws[ws.length - 1 - i] := List.getElem?_eq_getElem hj
    refine .inr ⟨⟨hlt, ws, _, hl _ _ _ p, hx⟩, fun σ'' H'' => Pv (xs.reverse.drop (i + 1)) σ'' H'', fun σ'' H'' p' => ⟨ws.length - (i + 1), by omega, rfl, hlt, p'⟩, fun x H'' y => ?_⟩
    obtain ⟨rfl, f1⟩ := y
    have e1 := f1 ws (hl _ _ _ p)
    obtain ⟨q, hq, r⟩ := paired_get hp e1
    have e2 : xs.reverse[i]? = some q := by rw [List.getElem?_reverse (by omega), ← hlen]; exact hq
    have e3 : xs.reverse.drop i = q :: xs.reverse.drop (i + 1) := by
      have hi2 := (List.getElem?_eq_some_iff.mp e2)
      obtain ⟨h1, h2⟩ := hi2
      rw [List.drop_eq_getElem_cons h1, h2]
    rw [e3] at p
    exact hs x q _ σ' H'' r p _ fun _ _ z => z
  · refine .inl ⟨by show ws.length ≤ i; omega, hd σ' H' ?_⟩
    have : xs.reverse.drop i = [] := List.drop_eq_nil_of_le (by rw [List.length_reverse]; omega)
    rw [this] at p
    exact p⟩
def enumF {α : Type} : Nat → List α → List (Int × α)
  | _, [] => []
  | k, x :: xs => ((k : Nat), x) :: enumF (k + 1) xs
def enumI {α : Type} (xs : List α) : List (Int × α) := enumF 0 xs
theorem enumF_len : ∀ (xs : List α) (k : Nat), (enumF k xs).length = xs.length
  | [], _ => rfl
  | _ :: xs, k => congrArg (· + 1) (enumF_len xs (k + 1))
theorem enumF_get : ∀ (xs : List α) (k i : Nat) (x : α), xs[i]? = some x → (enumF k xs)[i]? = some (((k + i : Nat) : Int), x)
  | [], _, i, x, h => by cases h
  | y :: ys, k, 0, x, h => by cases h; rfl
  | y :: ys, k, i + 1, x, h => by
    have := enumF_get ys (k + 1) i x h
    rw [show k + (i + 1) = k + 1 + i by omega]
    exact this
/-- for i, x in enumerate(xs) -/
theorem z_forN {ws : List V} {tl : TE} {g : TG} {tb : TS} (ha : Val tl σ H (.ref a)) (hp : Paired R ws xs) (Pv : List (Int × α) → L2.St → Hp → Prop) (h0 : Pv (enumI xs) σ H) (hl : ∀ ys σ' H', Pv ys σ' H' → SqL K H' a ws)
    (hs : ∀ w (y : Int × α) ys σ' H', R w y.2 → Pv (y :: ys) σ' H' → ∀ N : L2.St → Hp → Prop, (∀ σ'' H'', Pv ys σ'' H'' → N σ'' H'') → ∀ t, H' t = none → g (.ref t) σ' (upd H' t (.tup [.int y.1, w])) fun σ2 H2 => tb { D with nx := N, ct := N, bk := tu D } σ2 H2) (hd : ∀ σ' H', Pv [] σ' H' → tu D σ' H') :
    tSeq (tFor (iEnum K (tCons tl tNil)) g tb) tu D σ H := ha _ ⟨a, ws, rfl, hl _ _ _ h0, by
  have hlen := Paired.length hp
  refine ⟨fun i m σ H => m = ws.length - i ∧ i ≤ ws.length ∧ Pv ((enumI xs).drop i) σ H, ⟨_, rfl, Nat.zero_le _, h0⟩, ?_⟩
  rintro i m σ' H' ⟨rfl, hi, p⟩
  by_cases hlt : i < ws.length
  · have hx : ws[i]? = some ws[i] := List.getElem?_eq_getElem hlt
    refine .inr ⟨⟨ws, _, hl _ _ _ p, hx⟩, fun σ'' H'' => Pv ((enumI xs).drop (i + 1)) σ'' H'', fun σ'' H'' p' => ⟨ws.length - (i + 1), by omega, rfl, hlt, p'⟩, fun x H'' y => ?_⟩
    obtain ⟨t, w, rfl, ht, rfl, f1⟩ := y
    have e1 := f1 ws (hl _ _ _ p)
    obtain ⟨q, hq, r⟩ := paired_get hp e1
    have e2 : (enumI xs)[i]? = some ((i : Int), q) := by
      have := enumF_get xs 0 i q hq
      rw [Nat.zero_add] at this
      exact this
    have e3 : (enumI xs).drop i = ((i : Int), q) :: (enumI xs).drop (i + 1) := by
      obtain ⟨h1, h2⟩ := List.getElem?_eq_some_iff.mp e2
      rw [List.drop_eq_getElem_cons h1, h2]
    rw [e3] at p
    exact hs w _ _ σ' H' r p _ (fun _ _ z => z) t ht
  · refine .inl ⟨⟨ws, hl _ _ _ p, by omega⟩, hd σ' H' ?_⟩
    have : (enumI xs).drop i = [] := List.drop_eq_nil_of_le (by unfold enumI; rw [enumF_len]; omega)
    rw [this] at p
    exact p⟩
/-- for x, y in zip(xs, ys) -/
theorem z_forZ {b : Addr} {ws vs : List V} {tl tl2 : TE} {g : TG} {tb : TS} (ha : Val tl σ H (.ref a)) (hb : Val tl2 σ H (.ref b)) (hp : Paired R ws xs) (hp2 : Paired R2 vs ys) (Pv : List (α × β) → L2.St → Hp → Prop) (h0 : Pv (List.zip xs ys) σ H) (hl : ∀ zs σ' H', Pv zs σ' H' → SqL K H' a ws ∧ SqL K H' b vs)
    (hs : ∀ w w2 (y : α × β) zs σ' H', R w y.1 → R2 w2 y.2 → Pv (y :: zs) σ' H' → ∀ N : L2.St → Hp → Prop, (∀ σ'' H'', Pv zs σ'' H'' → N σ'' H'') → ∀ t, H' t = none → g (.ref t) σ' (upd H' t (.tup [w, w2])) fun σ2 H2 => tb { D with nx := N, ct := N, bk := tu D } σ2 H2) (hd : ∀ σ' H', Pv [] σ' H' → tu D σ' H') :
    tSeq (tFor (iZip K (tCons tl (tCons tl2 tNil))) g tb) tu D σ H := ha _ (hb _ ⟨a, b, ws, vs, rfl, (hl _ _ _ h0).1, (hl _ _ _ h0).2, by
  have hlen := Paired.length hp
  have hlen2 := Paired.length hp2
  refine ⟨fun i m σ H => m = ws.length - i ∧ Pv ((List.zip xs ys).drop i) σ H, ⟨_, rfl, h0⟩, ?_⟩
  rintro i m σ' H' ⟨rfl, p⟩
  obtain ⟨qx, qy⟩ := hl _ _ _ p
  by_cases hlt : i < ws.length ∧ i < vs.length
  · obtain ⟨l1, l2⟩ := hlt
    refine .inr ⟨⟨ws, vs, _, _, qx, qy, List.getElem?_eq_getElem l1, List.getElem?_eq_getElem l2⟩, fun σ'' H'' => Pv ((List.zip xs ys).drop (i + 1)) σ'' H'', fun σ'' H'' p' => ⟨ws.length - (i + 1), by omega, rfl, p'⟩, fun x H'' y => ?_⟩
    obtain ⟨t, w, w2, rfl, ht, rfl, f1, f2⟩ := y
    obtain ⟨q, hq, r⟩ := paired_get hp (f1 ws qx)
    obtain ⟨q2, hq2, r2⟩ := paired_get hp2 (f2 vs qy)
    have e2 : (List.zip xs ys)[i]? = some (q, q2) := by rw [List.getElem?_zip_eq_some]; exact ⟨hq, hq2⟩
    have e3 : (List.zip xs ys).drop i = (q, q2) :: (List.zip xs ys).drop (i + 1) := by
      obtain ⟨h1, h2⟩ := List.getElem?_eq_some_iff.mp e2
      rw [List.drop_eq_getElem_cons h1, h2]
    rw [e3] at p
    exact hs w w2 _ _ σ' H' r r2 p _ (fun _ _ z => z) t ht
  · refine .inl ⟨⟨ws, vs, qx, qy, by omega⟩, hd σ' H' ?_⟩
    have : (List.zip xs ys).drop i = [] := List.drop_eq_nil_of_le (by rw [List.length_zip]; omega)
    rw [this] at p
    exact p⟩)
theorem z_forreversedE {g : TG} {tb : TS} (h : tl σ H fun x H1 => tSeq (tFor (iRev K (tCons (tC x) tNil)) g tb) tu D σ H1) : tSeq (tFor (iRev K (tCons tl tNil)) g tb) tu D σ H := h
theorem z_forenumerateE {g : TG} {tb : TS} (h : tl σ H fun x H1 => tSeq (tFor (iEnum K (tCons (tC x) tNil)) g tb) tu D σ H1) : tSeq (tFor (iEnum K (tCons tl tNil)) g tb) tu D σ H := h
theorem z_forzipE {tl2 : TE} {g : TG} {tb : TS} (h : tl σ H fun x H1 => tl2 σ H1 fun y H2 => tSeq (tFor (iZip K (tCons (tC x) (tCons (tC y) tNil))) g tb) tu D σ H2) : tSeq (tFor (iZip K (tCons tl (tCons tl2 tNil))) g tb) tu D σ H := h
end

/-! ### objects, calls -/
theorem v_fld {l C dx : Addr} {fs : List (Str × V)} {f : Str} {w : V} (ha : Val ta σ H (.ref l)) (h : H l = some (.ins C dx fs)) (c : Cls K C) (n : NoAttr K C f) (hf : fs.lookup f = some w) : Val (tFld K ta f) σ H w := fun Q q => ha _ ⟨l, C, dx, fs, w, rfl, h, c, n, hf, q⟩
theorem c_methO {l C dx : Addr} {fs : List (Str × V)} {m : Str} {sp : Sp} {dvs : List V} {E : XK} {t : TA} (ha : Val ta σ H (.ref l)) (h : H l = some (.ins C dx fs)) (hm : fs.lookup m = none) (k : t σ H fun vs H2 => sp (.ref l :: (vs ++ dvs)) H2 Q E) : tMeth C m sp dvs E ta t σ H Q := ha _ ⟨l, dx, fs, rfl, h, hm, k⟩
theorem c_meth {C : Addr} {ns : List Str} {m : Str} {sp : Sp} {dvs : List V} {E : XK} {t : TA} (ha : Val ta σ H v) (h : ∃ (l dx : Addr) (fs : List (Str × V)), v = .ref l ∧ H l = some (.ins C dx fs) ∧ ∀ m : Str, m ∉ ns → fs.lookup m = none) (hm : m ∉ ns) (k : t σ H fun vs H2 => sp (v :: (vs ++ dvs)) H2 Q E) : tMeth C m sp dvs E ta t σ H Q := by
  obtain ⟨l, dx, fs, rfl, h1, h2⟩ := h
  exact ha _ ⟨l, dx, fs, rfl, h1, h2 m hm, k⟩
theorem v_methO {l C dx : Addr} {fs : List (Str × V)} {m : Str} {sp : Sp} {dvs : List V} {E : XK} {t : TA} {vs : List V} (ha : Val ta σ H (.ref l)) (h : H l = some (.ins C dx fs)) (hm : fs.lookup m = none) (ht : VA t σ H vs) (hs : ∀ Q : VK, Q z H → sp (.ref l :: (vs ++ dvs)) H Q E) : Val (tMeth C m sp dvs E ta t) σ H z := fun Q q => c_methO ha h hm (ht _ (hs Q q))
theorem v_meth {C : Addr} {ns : List Str} {m : Str} {sp : Sp} {dvs : List V} {E : XK} {t : TA} {vs : List V} (ha : Val ta σ H v) (h : ∃ (l dx : Addr) (fs : List (Str × V)), v = .ref l ∧ H l = some (.ins C dx fs) ∧ ∀ m : Str, m ∉ ns → fs.lookup m = none) (hm : m ∉ ns) (ht : VA t σ H vs) (hs : ∀ Q : VK, Q z H → sp (v :: (vs ++ dvs)) H Q E) : Val (tMeth C m sp dvs E ta t) σ H z := fun Q q => c_meth ha h hm (ht _ (hs Q q))
theorem c_make {C : Addr} {sp : Sp} {dvs : List V} {E : XK} {t : TA} (h : t σ H fun vs H1 => ∀ x dx, H1 x = none → H1 dx = none → dx ≠ x →
    sp (.ref x :: (vs ++ dvs)) (upd (upd H1 dx (.own x)) x (.ins C dx [])) (fun v H2 => v = .non ∧ Q (.ref x) H2) E) : tMake C sp dvs E t σ H Q := h
theorem make_in {C : Addr} {vs : List V} {sp : Sp} {Qf : Addr → VK} {E : XK} (h : ∀ x dx H', Same H H' → H x = none → H' x = some (.ins C dx []) → sp (.ref x :: vs) H' (Qf x) E) : ∀ x dx, H x = none → H dx = none → dx ≠ x → sp (.ref x :: vs) (upd (upd H dx (.own x)) x (.ins C dx [])) (Qf x) E :=
  fun x dx hx hdx n => h x dx _ ((same_upd hdx).trans (same_upd (by rw [upd_ne n.symm]; exact hx))) hx upd_same
theorem v_chn {g g' : Int → Int → V} {k l m : Int} (ha : Val ta σ H (.int k)) (hb : Val tb σ H (.int l)) (hc : Val te σ H (.int m)) (h1 : g k l = .bl b) (h2 : g' l m = .bl c) : Val (tChain (rI0 g) (rI0 g') ta tb te) σ H (.bl (b && c)) := v_chain (p := fun _ _ => b) (q := fun _ _ => c) ha hb hc h1 h2
theorem z_fldE {f : Str} (h : te σ H fun y H1 => ta σ H1 fun x H2 => ∃ a C dx fs, x = .ref a ∧ H2 a = some (.ins C dx fs) ∧ Cls K C ∧ NoAttr K C f ∧ fs.length < 1000 ∧ tu D σ (upd H2 a (.ins C dx (putF f y fs)))) : tSeq (sFld K ta te f) tu D σ H := h
theorem c_setF {l C dx : Addr} {fs fs' : List (Str × V)} {f : Str} (g : Grow L S0 H0 S H) (cl : Cel L H0 S H l (.ins C dx fs)) (ho : Val ta σ H (.ref l)) (c : Cls K C) (n : NoAttr K C f) (hn : fs.length < 1000) (he : putF f y fs = fs')
    (k : ∀ H', Grow L S0 H0 S H' → Cel L H0 S H' l (.ins C dx fs') → (∀ l' o', l' ≠ l → Cel L H0 S H l' o' → Cel L H0 S H' l' o') → tu D σ H') :
    ta σ H fun x H2 => ∃ a C dx fs, x = .ref a ∧ H2 a = some (.ins C dx fs) ∧ Cls K C ∧ NoAttr K C f ∧ fs.length < 1000 ∧ tu D σ (upd H2 a (.ins C dx (putF f y fs))) := by
  subst he
  exact ho _ ⟨l, C, dx, fs, rfl, cl.h, c, n, hn, k _ (g.wr cl rfl) (cl.wr rfl) fun l' o' n c => c.wrn n⟩

def gDivW (j : Int) : Prop := 0 < j ∧ j < 2 ^ 200
instance (j : Int) : Decidable (gDivW j) := by unfold gDivW; infer_instance
theorem gDivW.ok {i j : Int} (h : gDivW j) : CDivW i j := wide_div (b := 200) h.1 (by
  have h1 := h.1
  have h2 := h.2
  omega) (by decide) (by decide)
theorem gDivW_nat {n : Nat} (h0 : 0 < n) (h : n < 2 ^ 200) : gDivW (n : Int) := ⟨by omega, by omega⟩
/-! ### more of lists -/
section
variable {α : Type} {τ : Rep K α} {l : Addr} {xs ys : List α}
theorem c_rev (g : Grow L S0 H0 S H) (cl : Cel L H0 S H l (.lst ws)) (r : RL τ S ws xs)
    (k : ∀ H', Grow L S0 H0 S H' → Cel L H0 S H' l (.lst ws.reverse) → RL τ S ws.reverse xs.reverse → (∀ l' o', l' ≠ l → Cel L H0 S H l' o' → Cel L H0 S H' l' o') → Q .non H') : rReverse (.ref l) [] H Q :=
  ⟨l, ws, rfl, rfl, cl.h, k _ (g.wr cl rfl) (cl.wr rfl) r.reverse fun l' o' n c => c.wrn n⟩
theorem c_pop {q : α} (g : Grow L S0 H0 S H) (cl : Cel L H0 S H l (.lst ws)) (r : RL τ S ws xs) (he : xs.getLast? = some q)
    (k : ∀ w, τ.R S w q → ∀ ws' H', Grow L S0 H0 S H' → Cel L H0 S H' l (.lst ws') → RL τ S ws' xs.dropLast → (∀ l' o', l' ≠ l → Cel L H0 S H l' o' → Cel L H0 S H' l' o') → Q w H') : rPop (.ref l) [] H Q := by
  rw [List.getLast?_eq_getElem?] at he
  obtain ⟨w, ew, rw_⟩ := r.get he
  exact ⟨l, ws, w, rfl, rfl, cl.h, by rw [r.length]; exact ew, k w rw_ _ _ (g.wr cl rfl) (cl.wr rfl) r.dropLast fun l' o' n c => c.wrn n⟩
theorem c_setL2 {q : α} {P : Hp → Prop} (g : Grow L S0 H0 S H) (cl : Cel L H0 S H l (.lst ws)) (r : RL τ S ws xs) (rv : τ.R S v q) (he : setI xs i q = some ys)
    (k : ∀ ws' H', Grow L S0 H0 S H' → Cel L H0 S H' l (.lst ws') → RL τ S ws' ys → (∀ l' o', l' ≠ l → Cel L H0 S H l' o' → Cel L H0 S H' l' o') → P H') : rSetL (.ref l) (.int i) v H P := by
  unfold setI at he
  cases e : ixN xs.length i with
  | none => rw [e] at he; cases he
  | some j =>
    rw [e] at he
    cases (Option.some.inj he)
    exact ⟨l, ws, i, j, rfl, rfl, cl.h, by rw [r.length]; exact e, k _ _ (g.wr cl rfl) (cl.wr rfl) (r.set rv j) fun l' o' n c => c.wrn n⟩
end
/-- xs[i] op= e -/
def sXAug (td ty tv : TE) (ri : R2) (rd : TIp) (t : TSet) : TS := fun D σ H => td σ H fun x H1 => ty σ H1 fun y H2 => ri x y H2 fun v H3 => tv σ H3 fun y2 H4 => rd v y2 H4 fun z H5 => t x y z H5 fun H6 => D.nx σ H6
theorem get_list {X : Cx} {pins : List (Addr × Obj)} {s : Shared} {u w : Value} (I : Inv X pins σ H s) (rx : RelV x u) (ry : RelV y w) (h : rIxL X.K x y H Q) : wpAny (model X.prog X.w) X.A (getItem u w) (EP X pins σ Q) X.xe s := by
  obtain ⟨p, xs, i, z, rfl, rfl, hq, he, q⟩ := h
  cases rx
  obtain ⟨t, rfl⟩ := ry
  obtain ⟨its, r, pl, hz⟩ := I.list hq
  obtain ⟨j, h1, h2, h3, h4, h5⟩ := L2.atI_get he
  obtain ⟨w, ew, rw'⟩ := r.get h2
  have hl := r.length
  have hn := line63
  have fin : EP X pins σ Q w s := ⟨z, H, I, rw', q⟩
  by_cases h0 : 0 ≤ i
  · have hj : i.toNat = j := by
      rw [seqIndex_of h0 h5] at h1
      exact Option.some.inj h1
    exact wpAny_getItem_list pl.isList h0 (by omega) (by rw [hj]; simpa using ew) fin
  · have hj : (i + (its.toArray.size : Int)).toNat = j := by
      rw [seqIndex_neg (by omega) h4] at h1
      rw [List.size_toArray, ← hl]
      exact Option.some.inj h1
    exact wpAny_getItem_list_neg pl.isList (by omega) (by rw [List.size_toArray] <;> omega) (by omega) (by rw [hj]; simpa using ew) fin
theorem ps_xaug {X : Cx} {o i value : Expr} {tpos pos : Pos} {op : Operator} {td ty tv : TE} {rd : TIp} (ho : PE X o td) (hi : PE X i ty) (hv : PE X value tv) (hop : PIp X op rd)
    (ha : ∀ ov iv new, augStore i ov iv new = (do holding [new, ov, iv] (setItem ov iv new); release [new, ov, iv] []; pure .next)) : PS X (.AugAssign (.Subscript o i tpos) op value pos) (sXAug td ty tv (rIxL X.K) rd rSetL) := by
  refine ⟨fun pins s σ H D I h => ?_⟩
  refine wpAny_AugAssign_SubscriptAny (thn (ho.run pins s σ H _ I h) fun u s1 ⟨x, H1, I1, rx, q1⟩ => thn (hi.run pins s1 σ H1 _ I1 q1) fun iv s2 ⟨y, H2, I2, ry, q2⟩ => ?_) ha
  refine thn (get_list I2 rx ry q2) fun w' s3 ⟨v, H3, I3, rw', q3⟩ => thn (hv.run pins s3 σ H3 _ I3 q3) fun w2 s4 ⟨y2, H4, I4, ry2, q4⟩ => thn (hop pins s4 σ H4 v y2 w' w2 _ I4 rw' ry2 q4) fun w3 s5 ⟨z, H5, I5, rz, q5⟩ => ?_
  exact thn (set_list pins s5 σ H5 x y z u iv w3 _ I5 rx ry rz q5) fun _ s6 ⟨H6, I6, q6⟩ => ⟨σ, H6, I6, q6⟩
theorem z_xaug {α : Type} {τ : Rep K α} {l : Addr} {xs : List α} {q : α} {rd : TIp} {t : TSet} {f : α → V} (ho : Val ta σ H (.ref l)) (hi : Val tb σ H (.int i)) (h : H l = some (.lst ws)) (r : RL τ S ws xs) (hx : atI xs i = some q)
    (k : ∀ w, τ.R S w q → te σ H fun y2 H4 => rd w y2 H4 fun z H5 => t (.ref l) (.int i) z H5 fun H6 => tu D σ H6) : tSeq (sXAug ta tb te (rIxL K) rd t) tu D σ H := by
  obtain ⟨w, ew, rw_⟩ := r.at hx
  exact ho _ (hi _ ⟨l, ws, i, w, rfl, rfl, SqL.of h, ew, k w rw_⟩)
theorem z_xaugI {l : Addr} {xs : List Int} {q : Int} {rd : TIp} {t : TSet} (ho : Val ta σ H (.ref l)) (hi : Val tb σ H (.int i)) (h : H l = some (.lst ws)) (r : RL (K := K) qI S ws xs) (hx : atI xs i = some q)
    (k : te σ H fun y2 H4 => rd (.int q) y2 H4 fun z H5 => t (.ref l) (.int i) z H5 fun H6 => tu D σ H6) : tSeq (sXAug ta tb te (rIxL K) rd t) tu D σ H :=
  z_xaug (τ := qI) (f := V.int) ho hi h r hx fun w e => by cases e; exact k
theorem z_augE {k : Nat} {ti : TIp} (hx : σ[k]? = some (some x)) (h : te σ H fun y H1 => ti x y H1 fun v H2 => tu D (σ.set k (some v)) H2) : tSeq (tAug k te ti) tu D σ H := ⟨x, hx, h⟩
theorem q_set {k : Nat} {w : V} (e : v = w) (hs : σ.set k (some w) = σ') (q : tu D σ' H) : tu D (σ.set k (some v)) H := by subst e; subst hs; exact q
theorem z_augS {k : Nat} {w : V} {s r : Str} (hx : σ[k]? = some (some (.str s))) (hv : Val te σ H (.str r)) (hz : s.length + r.length ≤ 16777216) (he : V.str (s ++ r) = w) (hs : σ.set k (some w) = σ') (q : tu D σ' H) :
    tSeq (tAug k te (fun x y H Q => ∃ i j, x = .str i ∧ y = .str j ∧ i.length + j.length ≤ sizeLine ∧ Q (.str (i ++ j)) H)) tu D σ H :=
  z_aug hx hv (fun _ q => ⟨s, r, rfl, rfl, hz, q⟩) he hs q
theorem c_bits (h : te σ H fun x H1 => ∃ i, x = .int i ∧ Q (.int (Builtin.Int.intBits i : Nat)) H1) : tBits te σ H Q := h
theorem c_notV (h : ta σ H fun x H1 => ∃ c, x = .bl c ∧ Q (.bl (!c)) H1) : tNotV ta σ H Q := h
theorem c_chain {r r' : R2} (h : ta σ H fun x H1 => tb σ H1 fun y H2 => r x y H2 fun z H3 => ∃ k, z = .bl k ∧ if k = true then te σ H3 fun w' H4 => r' y w' H4 Q else Q (.bl false) H3) : tChain r r' ta tb te σ H Q := h
theorem e_chain {g g' : Int → Int → V} {k l m : Int} (hc : Val te σ H (.int m)) (h1 : g k l = .bl b) (h2 : g' l m = .bl c) (q : Q (.bl (b && c)) H) : rI0 g (.int k) (.int l) H fun z H3 => ∃ k, z = .bl k ∧ if k = true then te σ H3 fun w' H4 => rI0 g' (.int l) w' H4 Q else Q (.bl false) H3 := ⟨k, l, rfl, rfl, b, h1, by
  cases b with
  | true => exact (show (if true = true then _ else _) from hc _ ⟨l, m, rfl, rfl, by rw [h2]; exact q⟩)
  | false => exact (show (if false = true then _ else _) from q)⟩
end
/-! ### classes of errors -/
structure ExF (K : PySem.W.Frag) (C : Addr) : Prop where
  x : PySem.W.excIn K C [.type "ValueError", .type "Exception", .type "BaseException", .type "object"] "ValueError.__new__" = true
  k : PySem.W.keepIn K (.ref C) = true
  b : PySem.W.subIn K (.ref C) (.type "BaseException") = some true
  t : PySem.W.typeIn K (.ref C) = some (.type "type")
theorem bt_sorted : bootBuiltins "sorted" = some (.builtin "sorted") := by decide +kernel
theorem bt_sum : bootBuiltins "sum" = some (.builtin "sum") := by decide +kernel
end Z

namespace Z
open PySem PySem.Spec PyProof.Rows L2 RT
/-! ### list(reversed(xs)) -/
section
variable {prog : Program} {w : World} {A : Around} {E : Value → Shared → Prop} {s : Shared} {it l : Addr} {items : Array Value}
abbrev RvOf (items : Array Value) : Nat → Value → Prop := fun i v => items[items.size - 1 - i]? = some v
theorem rl_extend {R : Result → Shared → Prop} (hh : A.handled = none) (hit : s.heap.IsRevIter it l ((items.size : Int) - 1)) (hl : s.heap.IsList l items) (hne : l ≠ it) (hn : items.size ≤ sizeLine)
    (S : Addr) (hSi : S ≠ it) (hSl : S ≠ l) (res : Value) (c₀ : Nat) (hS : s.heap.get? S = some { cls := .type "list", data := .seq #[] c₀ })
    (hR : ∀ h' tk acc' c', (∀ b o, b ≠ S → b ≠ it → s.heap.get? b = some o → h'.get? b = some o) → h'.get? S = some { cls := .type "list", dict := none, data := .seq acc' c', slots := #[] } → ItemsOf (RvOf items) acc' items.size → R (.ok (.ret res)) { s with heap := h', toks := tk }) :
    wpAny (model prog w) A.in1 (Builtin.List.listExtendWith (.ref S) (.ref it) res)
      (fun fin s' => match fin with | .done f => R (.ok f) s' | .again c' => c'.quiet = true ∧ codeAny (model prog w) A c' R s') (fun e s' => R (.error e) s') s := by
  have W := (Walks.listRev (prog := prog) (w := w) (A := A.in1) hh it l hne items).toS
  have hSf : S ∉ [it, l] := by simp only [List.mem_cons, List.not_mem_nil, or_false, not_or]; exact ⟨hSi, hSl⟩
  have hT : s.TypeIs (.ref it) "list_reverseiterator" := Heap.IsRevIter.typeIs (s := s) hit
  have h1 : Builtin.List.listSameRef (.ref S) (.ref it) = false := by simp [Builtin.List.listSameRef, hSi]
  unfold Builtin.List.listExtendWith
  refine wpAny_bind (wpAny_typeOf hT ?_)
  rw [if_neg (by rw [h1]; decide)]
  refine wpAny_bind (wpAny_pyIter_revIter hit ?_)
  refine wpAny_bind (wpAny_holding ?_)
  unfold Builtin.List.listLengthHint
  refine wpAny_bind (wpAny_specialOf hT nolen_lri ?_)
  show wpAny _ A.in1 (specialOf (Value.ref it) (Str.ofString "__length_hint__") >>= _) _ _ _
  refine wpAny_bind (wpAny_specialOf hT hint_lri ?_)
  generalize hid : ("list_reverseiterator.__length_hint__" : String) = id0
  wp_delta
  rw [show splitId id0 = some ("list_reverseiterator", "__length_hint__") from by subst hid; decide +kernel]
  subst hid
  refine wpAny_bind (wpAny_isInstance (b := true) hT (by rw [isSubtype_type]; kernel_rfl) ?_)
  refine wpAny_pure ?_
  rw [if_neg (by decide)]
  have e0 : ((items.size : Nat) : Int) - 1 - ((0 : Nat) : Int) = (items.size : Int) - 1 := by omega
  refine wpAny_pure ⟨plainId_quiet PySem.F.plain_extend_loop _, codeAny_extend_loopS W hn _ hSf _ items.size 0 _ _ _ rfl (Nat.zero_le _) ⟨Nat.zero_le _, by rw [e0]; exact hit, hl⟩ hS (ItemsOf.nil _) fun s' acc' c' hm hS' hacc => ?_⟩
  rw [Moved.eq_with hm]
  refine hR s'.heap s'.toks acc' c' (fun b o hb hb2 e => hm.heap b o (fun hmem => ?_) e) hS' hacc
  rcases List.mem_cons.mp hmem with e' | hmem
  · exact hb e'
  · exact hb2 (List.mem_singleton.mp hmem)
theorem rl_init {R : Result → Shared → Prop} (hh : A.handled = none) (hit : s.heap.IsRevIter it l ((items.size : Int) - 1)) (hl : s.heap.IsList l items) (hne : l ≠ it) (hn : items.size ≤ sizeLine)
    (S : Addr) (hSi : S ≠ it) (hSl : S ≠ l) (hS : s.heap.get? S = some { cls := .type "list", data := .seq #[] })
    (hR : ∀ h' tk acc' c', (∀ b o, b ≠ S → b ≠ it → s.heap.get? b = some o → h'.get? b = some o) → h'.get? S = some { cls := .type "list", dict := none, data := .seq acc' c', slots := #[] } → ItemsOf (RvOf items) acc' items.size → R (.ok (.ret .none)) { s with heap := h', toks := tk }) :
    wpAny (model prog w) A.in1 (Builtin.«list.__init__» ⟨[.ref S, .ref it], []⟩)
      (fun fin s' => match fin with | .done f => R (.ok f) s' | .again c' => c'.quiet = true ∧ codeAny (model prog w) A c' R s') (fun e s' => R (.error e) s') s := by
  show wpAny _ _ (do let old ← Builtin.List.listItems (.ref S); Builtin.List.listUpdate (.ref S) (fun _ => #[]); letGo old.toList.reverse; Builtin.List.listExtendWith (.ref S) (.ref it) .none) _ _ s
  refine wpAny_bind ?_
  unfold Builtin.List.listItems
  refine wpAny_bind (wpAny_seqItems hS rfl (wpAny_pure ?_))
  show wpAny _ _ (updateSeq S (fun _ => #[]) >>= fun _ => letGo (#[] : Array Value).toList.reverse >>= fun _ => Builtin.List.listExtendWith (.ref S) (.ref it) .none) _ _ s
  refine wpAny_bind (wpAny_updateSeq hS rfl ?_)
  have hS₂ := Heap.get?_update_self (Obj.mapSeq (fun _ => (#[] : Array Value))) hS rfl
  have oth : ∀ b o, b ≠ S → s.heap.get? b = some o → (s.heap.update S (Obj.mapSeq (fun _ => (#[] : Array Value)))).get? b = some o :=
    fun b o hb e => (Heap.get?_update_other _ _ (Ne.symm hb)).trans e
  refine wpAny_bind (wpAny_letGo ?_)
  refine rl_extend (s := { s with heap := s.heap.update S (Obj.mapSeq (fun _ => (#[] : Array Value))) }) hh (hit.at fun o e => oth it o hSi.symm e) (hl.at fun o e => oth l o hSl.symm e) hne hn S hSi hSl .none _ hS₂ (fun h' tk acc' c' hk hS' hacc => ?_)
  exact hR h' tk acc' c' (fun b o hb hb2 e => hk b o hb hb2 (oth b o hb e)) hS' hacc
theorem call_list_rev {Q : Value → Shared → Prop} (hh : A.handled = none) (hit : s.heap.IsRevIter it l ((items.size : Int) - 1)) (hl : s.heap.IsList l items) (hne : l ≠ it) (hn : items.size ≤ sizeLine)
    (hQ : ∀ h' tk acc' c', (∀ b o, b ≠ it → s.heap.get? b = some o → h'.get? b = some o) → h'.get? s.heap.objs.size = some { cls := .type "list", dict := none, data := .seq acc' c', slots := #[] } → ItemsOf (RvOf items) acc' items.size → Q (.ref s.heap.objs.size) { s with heap := h', toks := tk }) :
    wpAny (model prog w) A (call (.type "list") [.ref it]) Q E s := by
  refine callType_codes (Q₁ := fun obj s₁ => obj = .ref s.heap.objs.size ∧ s₁ = { s with heap := s.heap.push { cls := .type "list", data := .seq #[] } }) PySem.F.called_list (PySem.F.typeCall_list_1 _) PySem.F.entry_list_init
    (code_list_new _ ⟨rfl, rfl⟩) fun obj s₁ h₁ => ?_
  obtain ⟨rfl, rfl⟩ := h₁
  have hS : (s.heap.push { cls := .type "list", data := .seq #[] }).get? s.heap.objs.size = some { cls := .type "list", data := .seq #[] } := Heap.get?_push_size _ rfl
  obtain ⟨oi, hoi, _⟩ := id hit
  obtain ⟨ol, hol, _⟩ := id hl
  refine ⟨⟨_, hS, rfl⟩, PySem.F.args_list_init_2 _ _, rl_init (A := A.in1) (s := { s with heap := s.heap.push { cls := .type "list", data := .seq #[] } }) hh (hit.at fun o e => Heap.get?_push_of_some _ e) (hl.push _) hne hn _ (Nat.ne_of_gt (Heap.lt_size hoi)) (Nat.ne_of_gt (Heap.lt_size hol)) hS (fun h' tk acc' c' hk hS' hacc => ?_)⟩
  exact ⟨rfl, hQ h' tk acc' c' (fun b o hb e => hk b o (Nat.ne_of_lt (Heap.lt_size e)) hb (Heap.get?_push_of_some _ e)) hS' hacc⟩
end
def rListRev (K : PySem.W.Frag) (v : V) (H : Hp) (Q : VK) : Prop := ∃ (a : Addr) (xs : List V), v = .ref a ∧ SqL K H a xs ∧ ∀ q, H q = none → Q (.ref q) (upd H q (.lst xs.reverse))
def tListRev (K : PySem.W.Frag) (te : TE) : TE := fun σ H Q => te σ H fun v H1 => rListRev K v H1 Q
theorem pe_listRev {X : Cx} {e : Expr} {te : TE} {p p2 pos pos2 : Pos} (hc : X.calm = true) (hg : Gl X "list") (hm : X.mg "list" = none) (hg2 : Gl X "reversed") (hm2 : X.mg "reversed" = none) (he : PE X e te)
    (hs : starEach [e] X.env = (false, eval e X.env) :: starEach [] X.env := by rfl)
    (hs2 : starEach [.Call (.Name "reversed" p2) [e] [] pos2] X.env = (false, eval (.Call (.Name "reversed" p2) [e] [] pos2) X.env) :: starEach [] X.env := by rfl) :
    PE X (.Call (.Name "list" p) [.Call (.Name "reversed" p2) [e] [] pos2] [] pos) (tListRev X.K te) := by
  refine ⟨fun pins s σ H Q I h => ?_⟩
  refine Call_ (ld_blt I hg hm bt_list (PyProof.Rows.callWith_type1 (args_cons (Call_ (ld_blt I hg2 hm2 PyProof.Rows.boot_reversed (PyProof.Rows.callWith_type1 (args_cons (thn (he.run pins s σ H _ I h) fun u s1 ⟨v, H1, I1, r1, q1⟩ => args_nil ?_) hs) hs rfl))) hs2) hs2 rfl))
  obtain ⟨a, xs, ev, hq, q⟩ := q1
  subst ev
  obtain rfl : u = Value.ref a := r1
  obtain ⟨its, rv, p', hz⟩ := I1.list hq
  refine call_reversed_list p'.isList (args_nil ?_)
  have k0 : ∀ b o, s1.heap.get? b = some o → (s1.heap.push (revObj a ((its.toArray.size : Int) - 1))).get? b = some o := fun b o e => Heap.get?_push_of_some _ e
  have I2 : Inv X pins σ H1 { s1 with heap := s1.heap.push (revObj a ((its.toArray.size : Int) - 1)) } := I1.kept (t' := s1.toks) k0
  obtain ⟨f0, f1, f2, f3, f4, f5⟩ := I1.fpOk (H' := H1) (b := s1.heap.objs.size) (Nat.le_refl _) (I1.hok.fresh (Nat.le_refl _))
  have hl := p'.isList
  obtain ⟨ol, hol, _⟩ := id hl
  have hne : a ≠ s1.heap.objs.size := Nat.ne_of_lt (Heap.lt_size hol)
  have hn : its.toArray.size ≤ sizeLine := by rw [List.size_toArray, ← rv.length]; exact hz
  refine call_list_rev (s := { s1 with heap := s1.heap.push (revObj a ((its.toArray.size : Int) - 1)) }) (I1.ok.hd hc) ⟨_, Heap.get?_push_size _ rfl, rfl, rfl⟩ (hl.push _) hne hn fun h' tk acc c' hk hS hi => ?_
  refine ⟨.ref _, upd H1 _ (.lst xs.reverse), I2.turnedNew (t' := tk) (ch := [s1.heap.objs.size]) (fun b o hb e => hk b o (fun z => hb (by rw [z]; exact List.mem_singleton.mpr rfl)) e) (fun b hb => by cases List.mem_singleton.mp hb; exact ⟨f0, f1, f2, f3, f4, f5⟩) (Nat.le_refl _) (show ObjOk X.prog X.w _ h' _ (.lst xs.reverse) from ⟨by rw [List.length_reverse]; exact hz, acc.toList, c', vals_rev rv hi, by rw [Array.toArray_toList]; exact hS⟩), rfl, q _ (I2.hok.fresh (Nat.le_refl _))⟩
section
variable {K : PySem.W.Frag} {σ : L2.St} {S H : Hp} {te : TE} {v : V} {Q : VK} {α : Type} {τ : Rep K α} {xs : List α}
theorem c_lrE (h : ∀ Q' : VK, Q' = Q → te σ H fun v H1 => rListRev K v H1 Q') : tListRev K te σ H Q := h _ rfl
theorem l_listRev (h : LS τ S H v xs) (k : ∀ p ws H', Same H H' → H p = none → H' p = some (.lst ws) → RL τ S ws xs.reverse → Q (.ref p) H') : rListRev K v H Q := by
  obtain ⟨a, ws, rfl, h2, h3⟩ := h
  exact ⟨a, ws, rfl, h2, fun l hl => k l _ _ (same_upd hl) hl upd_same h3.reverse⟩
end
end Z

namespace Z
open PySem PySem.Spec PyProof.Rows L2
section
variable {K : PySem.W.Frag}
theorem enc_lay_none : (PyData.none).canLay0 = true := rfl
/-- what is never None -/
def NN {α : Type} [DecidableEq α] {τ : Rep K α} (d : Dat τ) : Prop := ∀ x, PyData.eqv .none (d.enc x) = false ∧ PyData.eqv (d.enc x) .none = false
def dOpt {α : Type} [DecidableEq α] {τ : Rep K α} (d : Dat τ) (hn : NN d) : Dat (qOpt τ) := ⟨fun o => match o with
    | none => .none
    | some x => d.enc x, fun {H v o} h => by
    cases o with
    | none => cases (show v = .non from h); exact .non
    | some x => exact d.dp h.2, fun o => by
    cases o with
    | none => rfl
    | some x => exact d.lay x, max d.n 1, fun o => by
    cases o with
    | none => show PyData.depth .none ≤ _; simp [PyData.depth]
    | some x => exact Nat.le_trans (d.dep x) (Nat.le_max_left _ _), fun a b => by
    cases a with
    | none =>
      cases b with
      | none => rfl
      | some y => exact (hn y).1.trans (decide_eq_false (fun e => nomatch e)).symm
    | some x =>
      cases b with
      | none => exact (hn x).2.trans (decide_eq_false (fun e => nomatch e)).symm
      | some y =>
        show PyData.eqv (d.enc x) (d.enc y) = _
        rw [d.eqv]
        exact decide_eq_decide.mpr ⟨fun e => by rw [e], fun e => Option.some.inj e⟩⟩
theorem nnI : NN (K := K) dI := fun _ => ⟨rfl, rfl⟩
theorem nnB : NN (K := K) dB := fun _ => ⟨rfl, rfl⟩
theorem nnL {α : Type} [DecidableEq α] {τ : Rep K α} (d : Dat τ) : NN (dL d) := fun _ => ⟨rfl, rfl⟩
theorem nnQ {α : Type} [DecidableEq α] {τ : Rep K α} (d : Dat τ) : NN (dQ d) := fun _ => ⟨rfl, rfl⟩
theorem nnT2 {α β : Type} [DecidableEq α] [DecidableEq β] {τ : Rep K α} {υ : Rep K β} (a : Dat τ) (b : Dat υ) : NN (dT2 a b) := fun _ => ⟨rfl, rfl⟩
theorem eqvAll3 {a b c a' b' c' : PyData} : PyData.eqv (.tuple [a, b, c]) (.tuple [a', b', c']) = (PyData.eqv a a' && (PyData.eqv b b' && PyData.eqv c c')) := by
  simp [PyData.eqv, PyData.eqvAll]
def dT3 {α β γ : Type} [DecidableEq α] [DecidableEq β] [DecidableEq γ] {τ : Rep K α} {υ : Rep K β} {φ : Rep K γ} (a : Dat τ) (b : Dat υ) (c : Dat φ) : Dat (qT3 τ υ φ) := ⟨fun x => .tuple [a.enc x.1, b.enc x.2.1, c.enc x.2.2], fun {H v x} h => by
    obtain ⟨p, w1, w2, w3, rfl, h2, h3, h4, h5⟩ := h
    exact .tup (SqT.of h2) (.cons (a.dp h3) (.cons (b.dp h4) (.cons (c.dp h5) .nil))), fun x => by
    show PyData.canLayAll0 [a.enc x.1, b.enc x.2.1, c.enc x.2.2] = true
    simp [PyData.canLayAll0, a.lay, b.lay, c.lay], max a.n (max b.n c.n) + 1, fun x => by
    have h1 := a.dep x.1
    have h2 := b.dep x.2.1
    have h3 := c.dep x.2.2
    show PyData.depth (.tuple [a.enc x.1, b.enc x.2.1, c.enc x.2.2]) ≤ _
    simp only [PyData.depth, PyData.depthAll]
    omega, fun x y => by
    rw [eqvAll3, a.eqv, b.eqv, c.eqv, ← Bool.decide_and, ← Bool.decide_and]
    exact decide_eq_decide.mpr ⟨fun h => Prod.ext h.1 (Prod.ext h.2.1 h.2.2), fun h => by rw [h]; exact ⟨rfl, rfl, rfl⟩⟩⟩
theorem nnT3 {α β γ : Type} [DecidableEq α] [DecidableEq β] [DecidableEq γ] {τ : Rep K α} {υ : Rep K β} {φ : Rep K γ} (a : Dat τ) (b : Dat υ) (c : Dat φ) : NN (dT3 a b c) := fun _ => ⟨rfl, rfl⟩
end
end Z
namespace Z
open PySem PySem.Spec PyProof.Rows L2
/-! ### range with a step -/
def gR3 (i j c : Int) : Prop := 0 < c ∧ c < 1073741824 ∧ Builtin.Range.small i j c = true
instance (i j c : Int) : Decidable (gR3 i j c) := by unfold gR3; infer_instance
def rangeS (i j c : Int) : List Int := (List.range (Builtin.Range.rangeSize i j c).toNat).map fun (k : Nat) => i + (k : Int) * c
theorem rsize_nn {i j c : Int} (h : 0 < c) : 0 ≤ Builtin.Range.rangeSize i j c := by
  unfold Builtin.Range.rangeSize
  rw [if_pos h]
  split
  · have := Int.ediv_nonneg (show 0 ≤ j - i - 1 by omega) (show 0 ≤ c by omega)
    omega
  · omega
section
variable {K : PySem.W.Frag} {σ : L2.St} {H : Hp} {ta : TA} {D : Ends} {tu : TS}
theorem z_for3 {g : TG} {tb : TS} {i j c : Int} (ha : VA ta σ H [.int i, .int j, .int c]) (hj : gR3 i j c) (Pv : List Int → L2.St → Hp → Prop) (h0 : Pv (rangeS i j c) σ H)
    (hs : ∀ x xs σ' H', Pv (x :: xs) σ' H' → ∀ N : L2.St → Hp → Prop, (∀ σ'' H'', Pv xs σ'' H'' → N σ'' H'') → g (.int x) σ' H' fun σ2 H2 => tb { D with nx := N, ct := N, bk := tu D } σ2 H2) (hd : ∀ σ' H', Pv [] σ' H' → tu D σ' H') :
    tSeq (tFor (iRng3 ta) g tb) tu D σ H := ha _ ⟨i, j, c, (Builtin.Range.rangeSize i j c).toNat, rfl, ⟨by have := hj.1; omega, by have h1 := hj.1; have h2 := hj.2.1; omega, hj.2.2, by have := rsize_nn (i := i) (j := j) hj.1; omega⟩, by
  obtain ⟨n, hn⟩ : ∃ n, n = (Builtin.Range.rangeSize i j c).toNat := ⟨_, rfl⟩
  have h0' : Pv ((List.range n).map fun (k : Nat) => i + (k : Int) * c) σ H := by rw [hn]; exact h0
  rw [← hn]
  have hlen : ((List.range n).map fun (k : Nat) => i + (k : Int) * c).length = n := by rw [List.length_map, List.length_range]
  refine for_rangeC (D := { D with nx := tu D }) (fun k σ H => k ≤ n ∧ Pv (((List.range n).map fun (k : Nat) => i + (k : Int) * c).drop k) σ H) ⟨Nat.zero_le _, h0'⟩ (fun k σ' H' hk p => ?_) (fun σ' H' p => hd _ _ (by
    have q := p.2
    rw [List.drop_eq_nil_of_le (by omega)] at q
    exact q))
  have e : ((List.range n).map fun (k : Nat) => i + (k : Int) * c).drop k = (i + (k : Int) * c) :: ((List.range n).map fun (k : Nat) => i + (k : Int) * c).drop (k + 1) := by
    rw [List.drop_eq_getElem_cons (by omega), List.getElem_map, List.getElem_range]
  have q := p.2
  rw [e] at q
  exact hs _ _ σ' H' q _ fun σ'' H'' r => ⟨hk, r⟩⟩
end
/-! ### a list of one's own, or None -/
def optC {α β : Type} (o : Option α) (n : Option β) (s : α → Option β) : Option β := match o with
  | none => n
  | some x => s x
section
variable {K : PySem.W.Frag} {α : Type} {τ : Rep K α}
/-- what a call hands back then: H ahead of it, S' H' behind it -/
def OwnR (τ : Rep K α) (H S' H' : Hp) (v : V) (r : Option (List α)) : Prop := match r with
  | none => v = .non
  | some x => ∃ p ws, v = .ref p ∧ H p = none ∧ H' p = some (.lst ws) ∧ S' p = none ∧ RL τ S' ws x
theorem OwnR.frz {L : List Addr} {S0 H0 S H Sp Hp : L2.Hp} {v : V} {r : Option (List α)} (g : Grow L S0 H0 S H) (gp : Grow L S0 H0 Sp Hp) (h : OwnR τ Hp S H v r) :
    ∃ S1, Grow L S0 H0 S1 H ∧ Same S S1 ∧ (qOpt (qL τ)).R S1 v r ∧ ∀ l' o', Hp l' ≠ none → Cel L H0 S H l' o' → Cel L H0 S1 H l' o' := by
  cases r with
  | none => exact ⟨S, g, Same.refl _, h, fun _ _ _ c => c⟩
  | some x =>
    obtain ⟨p, ws, rfl, h1, h2, h3, h4⟩ := h
    have c : Cel L H0 S H p (.lst ws) := ⟨h2, h3, .inl (gp.hnone h1), rfl⟩
    obtain ⟨S1, a, b, d, e⟩ := c_freeze g c (gp.hnone h1) h4
    exact ⟨S1, a, b, ⟨(fun z => nomatch z), d⟩, fun l' o' n c' => e l' o' (fun q => n (q ▸ h1)) c'⟩
theorem OP.optN {β : Type} {n : Option β} {s : α → Option β} {A : β → Prop} (h : OP (optC none n s) A) : OP n A := h
theorem OP.optS {β : Type} {x : α} {n : Option β} {s : α → Option β} {A : β → Prop} (h : OP (optC (Option.some x) n s) A) : OP (s x) A := h
end
end Z

namespace Z
open PySem PySem.Spec PyProof.Rows L2
/-! ### one of several readings -/
def tAlt (t u : TE) : TE := fun σ H Q => t σ H Q ∨ u σ H Q
theorem pe_alt {X : Cx} {e : Expr} {t u : TE} (h : PE X e t) (g : PE X e u) : PE X e (tAlt t u) := ⟨fun pins s σ H Q I q => by
  rcases q with q | q
  · exact h.run pins s σ H Q I q
  · exact g.run pins s σ H Q I q⟩
theorem fn_none {P : Program} {w : World} {K : PySem.W.Frag} {mg : Str → Option Value} {base : Heap} {CX : CXT} {k : Nat} {f : Addr} {fd : FuncData} {ps : List Str} {sp : Sp} (h : ∀ vs H Q E, ¬ sp vs H Q E) : FnOk P w K mg base CX k f fd ps sp :=
  ⟨fun vs H Q E q => absurd q (h vs H Q E), fun A outer s H args us vs Q E _ _ _ _ q => absurd q (h vs H Q E)⟩
/-- what isinstance asks of an own class -/
structure InsH (K : PySem.W.Frag) (C : Addr) : Prop where
  ha : PySem.W.findIn K (.ref C) "__class__" = some (some (.builtin "object.__class__"))
  hn : PySem.W.specialIn K (.builtin "object.__class__") "__get__" = some (some (.builtin "getset_descriptor.__get__"))
  htk : PySem.W.takesIn K (.builtin "object.__class__") = some true
  hm : PySem.W.mroIn K C (.type "object") = some true
theorem v_isO {K : PySem.W.Frag} {σ : L2.St} {H : Hp} {ta : TE} {l C D dx : Addr} {fs : List (Str × V)} {b : Bool} (ha : Val ta σ H (.ref l)) (hp : H l = some (.ins C dx fs)) (cl : Cls K C) (i : InsH K C) (e : PySem.W.kitOne K (.ref C) (.ref D) = some b) : Val (tCB (rIsi K) (tCons ta (tCons (tC (.ref D)) tNil))) σ H (.bl b) :=
  fun Q q => ha _ ⟨_, .ref D, _, _, _, rfl, .own D, .base (TyOf.ins hp cl i.ha i.hn i.htk i.hm), e, q⟩
theorem kit_t {K : PySem.W.Frag} {C D : Addr} (i : PySem.W.isClsIn K D = true) (t : PySem.W.typeIn K (.ref D) = some (.type "type")) (s : PySem.W.subIn K (.ref C) (.ref D) = some true) : PySem.W.kitOne K (.ref C) (.ref D) = some true := by
  unfold PySem.W.kitOne
  split
  · rfl
  · unfold PySem.W.kitCls
    show (if ((PySem.W.clsIn K D).isSome && PySem.W.typeIn K (.ref D) == some (.type "type")) = true then PySem.W.subIn K (.ref C) (.ref D) else none) = _
    have i' : (PySem.W.clsIn K D).isSome = true := i
    rw [i', t, if_pos, s]
    simp
theorem kit_f {K : PySem.W.Frag} {C D : Addr} (i : PySem.W.isClsIn K D = true) (t : PySem.W.typeIn K (.ref D) = some (.type "type")) (s : PySem.W.subIn K (.ref C) (.ref D) = some false) (sd : PySem.W.subIn K (.ref D) (.ref D) = some true) : PySem.W.kitOne K (.ref C) (.ref D) = some false := by
  unfold PySem.W.kitOne
  split
  · rename_i h
    have : (Value.ref C) = .ref D := beq_iff_eq.mp h
    rw [this] at s
    rw [s] at sd
    cases sd
  · unfold PySem.W.kitCls
    show (if ((PySem.W.clsIn K D).isSome && PySem.W.typeIn K (.ref D) == some (.type "type")) = true then PySem.W.subIn K (.ref C) (.ref D) else none) = _
    have i' : (PySem.W.clsIn K D).isSome = true := i
    rw [i', t, if_pos, s]
    simp

/-! ### comprehensions whose parts change the heap -/
section
variable {K : PySem.W.Frag} {σ : L2.St} {S H S0 H0 : Hp} {L : List Addr} {ta tl te : TE} {tt : TT} {tr : TA} {v : V} {Q : VK} {g : TG} {vs : List Nat}
theorem c_lcGL {α : Type} {R : V → α → Prop} {a : Addr} {us : List V} {xs : List α} (ha : Val tl σ H (.ref a)) (hp : Paired R us xs) (hq : SqL K H a us)
    (k : ∀ P, H P = none → ∃ Pv : List α → Hp → Prop, Pv xs (upd H P (.lst [])) ∧ (∀ ys H', Pv ys H' → SqL K H' a us) ∧ (∀ w x xs H', R w x → Pv (x :: xs) H' → ∀ N : Hp → Prop, (∀ H'', Pv xs H'' → N H'') → g w (wipe σ vs) H' fun σ2 H2 => wipe σ2 vs = wipe σ vs ∧ tt σ2 H2 fun b H3 =>
      if b = true then te σ2 H3 fun y H4 => ∃ acc, H4 P = some (.lst acc) ∧ acc.length < sizeLine ∧ N (upd H4 P (.lst (acc ++ [y]))) else N H3) ∧ ∀ H', Pv [] H' → Q (.ref P) H') : tLc (iList K tl) g tt te vs σ H Q :=
  ha _ ⟨a, rfl, ⟨us, hq⟩, fun P hP => by
    obtain ⟨Pv, h0, hl, hs, hd⟩ := k P hP
    exact turnsC_list hp Pv h0 hl hs hd⟩
theorem c_lcGR1 {n : Int} (ha : VA tr σ H [.int n]) (hj : gR n)
    (k : ∀ P, H P = none → ∃ Pv : List Int → Hp → Prop, Pv (rangeI 0 n.toNat) (upd H P (.lst [])) ∧ (∀ x xs H', Pv (x :: xs) H' → ∀ N : Hp → Prop, (∀ H'', Pv xs H'' → N H'') → g (.int x) (wipe σ vs) H' fun σ2 H2 => wipe σ2 vs = wipe σ vs ∧ tt σ2 H2 fun b H3 =>
      if b = true then te σ2 H3 fun y H4 => ∃ acc, H4 P = some (.lst acc) ∧ acc.length < sizeLine ∧ N (upd H4 P (.lst (acc ++ [y]))) else N H3) ∧ ∀ H', Pv [] H' → Q (.ref P) H') : tLc (iRng1 tr) g tt te vs σ H Q :=
  ha _ ⟨n, rfl, hj.1, hj.2, fun P hP => by
    obtain ⟨Pv, h0, hs, hd⟩ := k P hP
    exact turnsC_range Pv h0 hs hd⟩
theorem c_lcGR2 {m n : Int} (ha : VA tr σ H [.int m, .int n]) (hj : gR2 m n)
    (k : ∀ P, H P = none → ∃ Pv : List Int → Hp → Prop, Pv (rangeI m (n - m).toNat) (upd H P (.lst [])) ∧ (∀ x xs H', Pv (x :: xs) H' → ∀ N : Hp → Prop, (∀ H'', Pv xs H'' → N H'') → g (.int x) (wipe σ vs) H' fun σ2 H2 => wipe σ2 vs = wipe σ vs ∧ tt σ2 H2 fun b H3 =>
      if b = true then te σ2 H3 fun y H4 => ∃ acc, H4 P = some (.lst acc) ∧ acc.length < sizeLine ∧ N (upd H4 P (.lst (acc ++ [y]))) else N H3) ∧ ∀ H', Pv [] H' → Q (.ref P) H') : tLc (iRng2 tr) g tt te vs σ H Q :=
  ha _ ⟨m, n, rfl, hj, fun P hP => by
    obtain ⟨Pv, h0, hs, hd⟩ := k P hP
    exact turnsC_range Pv h0 hs hd⟩
theorem c_yes {q : Bool → Hp → Prop} (h : q true H) : tYes σ H q := h
theorem c_yesE {Z Z' : Prop} {q : Bool → Hp → Prop} (e : q true H = if true = true then Z else Z') (h : Z) : tYes σ H q := by
  show q true H
  rw [e, if_pos rfl]
  exact h
theorem ift {A B : Prop} (h : A) : if true = true then A else B := by rw [if_pos rfl]; exact h
theorem c_acc {α : Type} {τ : Rep K α} {l : Addr} {ws : List V} {xs ys : List α} {q : α} {N : Hp → Prop} (g : Grow L S0 H0 S H) (cl : Cel L H0 S H l (.lst ws)) (r : RL τ S ws xs) (rv : τ.R S v q) (hz : xs.length < 16777216) (he : xs ++ [q] = ys)
    (k : ∀ ws' H', Grow L S0 H0 S H' → Cel L H0 S H' l (.lst ws') → RL τ S ws' ys → (∀ l' o', l' ≠ l → Cel L H0 S H l' o' → Cel L H0 S H' l' o') → N H') : ∃ acc, H l = some (.lst acc) ∧ acc.length < sizeLine ∧ N (upd H l (.lst (acc ++ [v]))) := by
  subst he
  exact ⟨ws, cl.h, by rw [r.length, sizeLine_eq]; exact hz, k _ _ (g.wr cl rfl) (cl.wr rfl) (r.app (.cons rv .nil)) fun l' o' n c => c.wrn n⟩
end
end Z

namespace Z
open PySem PySem.Spec PyProof.Rows L2
/-! ### a fault: a text of three, and numbers -/
inductive Tag | start | step | bad deriving DecidableEq
def Tag.s : Tag → Str
  | .start => "start"
  | .step => "step"
  | .bad => "bad"
structure VT where
  t : Tag
  ns : List Int
deriving DecidableEq
theorem Tag.inj {a b : Tag} (h : a.s = b.s) : a = b := by
  cases a <;> cases b <;> first | rfl | (exact absurd h (by decide))
theorem Tag.ok (a : Tag) : PyData.strOk a.s = true := by cases a <;> decide +kernel
section
variable {K : PySem.W.Frag} {σ : L2.St} {S H : Hp} {v : V} {ta tb tc : TE}
def qV : Rep K VT := ⟨fun H v x => ∃ a, v = .ref a ∧ H a = some (.tup (.str x.t.s :: x.ns.map .int)), fun {H H' v x} e h => by
  obtain ⟨a, h1, h2⟩ := h
  exact ⟨a, h1, e _ _ h2⟩⟩
def qN : Rep K (List Int) := ⟨fun H v x => ∃ a, v = .ref a ∧ H a = some (.tup (x.map .int)), fun {H H' v x} e h => by
  obtain ⟨a, h1, h2⟩ := h
  exact ⟨a, h1, e _ _ h2⟩⟩
theorem qV1 {t : Tag} {s : Str} {i : Int} (h : (qT2 (K := K) qS qI).R S v (s, i)) (e : s = t.s) : (qV (K := K)).R S v ⟨t, [i]⟩ := by
  obtain ⟨a, w1, w2, rfl, h2, h3, h4⟩ := h
  cases (show w1 = .str s from h3)
  cases (show w2 = .int i from h4)
  exact ⟨a, rfl, by rw [h2, e]; rfl⟩
theorem qV2 {t : Tag} {s : Str} {i j : Int} (h : (qT3 (K := K) qS qI qI).R S v (s, i, j)) (e : s = t.s) : (qV (K := K)).R S v ⟨t, [i, j]⟩ := by
  obtain ⟨a, w1, w2, w3, rfl, h2, h3, h4, h5⟩ := h
  cases (show w1 = .str s from h3)
  cases (show w2 = .int i from h4)
  cases (show w3 = .int j from h5)
  exact ⟨a, rfl, by rw [h2, e]; rfl⟩
theorem nn_v {x : VT} (h : (qV (K := K)).R H v x) : v ≠ .non := by
  obtain ⟨a, rfl, _⟩ := h
  exact fun z => nomatch z
theorem ty_v {x : VT} (h : (qV (K := K)).R H v x) : TyX K H v (.type "tuple") := by
  obtain ⟨a, rfl, h2⟩ := h
  exact .base (.tup h2)
theorem v_lenV {x : VT} (ha : Val ta σ H v) (h : (qV (K := K)).R H v x) : Val (tCB (rLenS K) (tCons ta tNil)) σ H (.int ((x.ns.length : Int) + 1)) := by
  obtain ⟨a, rfl, h2⟩ := h
  refine fun Q q => ha _ ⟨a, _, rfl, .inr (SqT.of h2), ?_⟩
  rw [List.length_cons, List.length_map]
  exact q
theorem v_V0 {x : VT} (ha : Val ta σ H v) (hb : Val tb σ H (.int 0)) (h : (qV (K := K)).R H v x) : Val (tOp (rIxT K) ta tb) σ H (.str x.t.s) := by
  obtain ⟨a, rfl, h2⟩ := h
  exact fun Q q => ha _ (hb _ ⟨a, _, 0, _, rfl, rfl, SqT.of h2, L2.atI_nat (j := 0) rfl, q⟩)
theorem dpInts {H : Hp} : ∀ xs : List Int, DpAll K H (xs.map .int) (xs.map .int)
  | [] => .nil
  | x :: xs => .cons (.int x) (dpInts xs)
def dV : Dat (K := K) qV := ⟨fun x => .tuple (.str x.t.s :: x.ns.map .int), fun {H v x} h => by
    obtain ⟨a, rfl, h2⟩ := h
    exact .tup (SqT.of h2) (.cons (.str _) (dpInts _)), fun x => by
    show PyData.canLayAll0 (.str x.t.s :: x.ns.map .int) = true
    have h : ∀ xs : List Int, PyData.canLayAll0 (xs.map .int) = true := fun xs => layAll (K := K) dI xs
    show (PyData.canLay0 (.str x.t.s) && PyData.canLayAll0 (x.ns.map .int)) = true
    rw [h, Bool.and_true]
    exact x.t.ok, 2, fun x => by
    have h : PyData.depthAll (x.ns.map .int) ≤ 1 := depAll (K := K) dI x.ns
    show PyData.depth (.tuple (.str x.t.s :: x.ns.map .int)) ≤ _
    simp only [PyData.depth, PyData.depthAll]
    omega, fun x y => by
    have h : PyData.eqvAll (x.ns.map .int) (y.ns.map .int) = decide (x.ns = y.ns) := eqvAllD (K := K) dI x.ns y.ns
    show PyData.eqvAll (.str x.t.s :: x.ns.map .int) (.str y.t.s :: y.ns.map .int) = _
    simp only [PyData.eqvAll]
    rw [h]
    have e : PyData.eqv (.str x.t.s) (.str y.t.s) = decide (x.t.s = y.t.s) := by
      show (x.t.s == y.t.s) = _
      rw [Bool.beq_eq_decide_eq]
    rw [e, ← Bool.decide_and]
    exact decide_eq_decide.mpr ⟨fun h => by
      cases x; cases y
      rw [VT.mk.injEq]
      exact ⟨Tag.inj h.1, h.2⟩, fun h => by rw [h]; exact ⟨rfl, rfl⟩⟩⟩
theorem nnV : NN (K := K) dV := fun _ => ⟨rfl, rfl⟩
/-- x[1:] of a fault -/
theorem e_tailV {x : VT} {Q : VK} (h : (qV (K := K)).R H v x) (k : ∀ p H', Same H H' → H p = none → H' p = some (.tup (x.ns.map .int)) → Q (.ref p) H') : rSlT K v (some 1) none H Q := by
  obtain ⟨a, rfl, h2⟩ := h
  have e : HT.sIx (V.str x.t.s :: x.ns.map .int).length 0 (some 1) = 1 := by
    rw [List.length_cons]
    show HT.sIx _ 0 (some ((1 : Nat) : Int)) = 1
    rw [HT.sIx_nat]
    omega
  refine ⟨a, _, rfl, SqT.of h2, fun z => ?_, fun p hp => ?_⟩
  · rw [e] at z
    exact absurd z.1 (by decide)
  · refine k p _ (same_upd hp) hp ?_
    rw [show cutV (V.str x.t.s :: x.ns.map .int) (some 1) none = x.ns.map .int from ?_]
    · exact upd_same
    · unfold cutV
      rw [e]
      show (List.drop 1 _).take ((V.str x.t.s :: x.ns.map .int).length - 1) = _
      rw [List.drop_one, List.tail_cons, List.length_cons, Nat.add_sub_cancel, List.take_length]
theorem z_forTE {D : Ends} {g : TG} {tb : TS} {tl : TE} {tu : TS} (h : tl σ H fun x H1 => tSeq (tFor (iTup K (tC x)) g tb) tu D σ H1) : tSeq (tFor (iTup K tl) g tb) tu D σ H := h
end
end Z

namespace Z
open PySem PySem.Spec PyProof.Rows L2
/-! ### errors told -/
def exE {α β : Type} (r : Except Nat α) (er : Nat → Option β) (ok : α → Option β) : Option β := match r with
  | .ok x => ok x
  | .error c => er c
theorem OP.exO {α β : Type} {x : α} {er : Nat → Option β} {ok : α → Option β} {A : β → Prop} (h : OP (exE (.ok x) er ok) A) : OP (ok x) A := h
theorem OP.exR {α β : Type} {c : Nat} {er : Nat → Option β} {ok : α → Option β} {A : β → Prop} (h : OP (exE (.error c) er ok) A) : OP (er c) A := h
theorem takesN {X : Cx} : Takes X (fun _ _ _ _ => False) := fun _ _ ⟨_, _, _, _, _, _, _, _, _, _, _, _, _, _, _, _, z⟩ => z.elim
theorem passL {X : Cx} : Passes (L2.CX X.prog X.w) X (fun _ _ _ => False) := passes_call takesN (fun _ _ _ _ h => h)
theorem z_cutj {σ : L2.St} {H : Hp} {D : Ends} {t tu : TS} (P : L2.St → Hp → Prop) (hP : ∀ σ' H', P σ' H' → tu D σ' H') (h : ∀ N : L2.St → Hp → Prop, (∀ σ' H', P σ' H' → N σ' H') → t { D with nx := N } σ H) : tSeq t tu D σ H := h _ hP
/-- the first clause, with a name, takes what the body raises -/
def wA1 (K : PySem.W.Frag) (c : Value) (i : Nat) (ts : Addr → Value → Option Addr → TS) (D : Ends) : WX := fun cls d σ H =>
  PySem.W.exmOne K cls c = some true ∧ ∀ a, H a = none → ts a cls d { nx := fun σ1 H1 => D.nx (σ1.set i none) H1, rt := D.rt, bk := fun σ1 H1 => D.bk (σ1.set i none) H1, ct := fun σ1 H1 => D.ct (σ1.set i none) H1 } (σ.set i (some (.ref a))) H
section
variable {X : Cx} {x n : Str} {c : Value} {i : Nat} {bd su : List Stmt} {st0 : Stmt} {hds : List ExceptHandler} {q1 q2 q3 : Pos} {tb : WX → TS} {ts : Addr → Value → Option Addr → TS}
theorem ps_tryA (eS : X.stack = X.env :: X.outer) (eF : X.env.frame = some X.env.locals) (nd : X.N.Nodup) (gi : X.N[i]? = some n) (lc : X.env.kindOf n = some .local) (nm : Names X x c)
    (hbd : ∀ (W : WX) (pn : List (Addr × Obj)) (xe : Value → Shared → Prop), Takes (X.tr pn xe) W → PassesOwn (model X.prog X.w) X.A X.env xe → PSs (X.tr pn xe) bd (tb W))
    (hs : ∀ (a : Addr) (oe : Obj) (cls : Value) (d : Option Addr) (pn : List (Addr × Obj)), Zc cls d oe → (∃ vs, oe.data = .fields vs) → PSs (X.suite a ((a, oe) :: pn)) (st0 :: su) (ts a cls d)) :
    PS X (.Try bd (.ExceptHandler (some (.Name x q1)) (some n) (st0 :: su) q2 :: hds) [] [] q3) (fun D σ H => tb (wA1 X.K c i ts D) D σ H) := ⟨fun pins s σ H D I h => by
  have okI := I.ok
  have frm : X.A.frames = some (X.env :: X.outer) := okI.frames.trans (congrArg some eS)
  refine wpAny_Try_except (wpAny_mono ((hbd (wA1 X.K c i ts D) (X.pn ++ pins) (fun e s₁ => wpAny (model X.prog X.w) X.A (noteFrame e X.env) (fun _ s₂ => wpAny (model X.prog X.w) X.A (setFlight e none) (fun _ s₃ => wpAny (model X.prog X.w) X.A (handleBy e X.env (.ExceptHandler (some (.Name x q1)) (some n) (st0 :: su) q2 :: hds)) (SP X pins D) X.xe s₃) X.xe s₂) X.xe s₁) (fun u t1 air => ?_) PassesOwn.looking).run [] s σ H D (I.toTry _) h) (fun fl t1 sp => ?_) fun e t1 z => z)
  · obtain ⟨ea, Bd, sB, pinsB, σB, HB, cls, dd, rfl, IB', nbB, upB, sky0, naB, osB, agB, em, wsh⟩ := air
    have IB : Inv X pins σB HB sB := Inv.ofTry IB' okI
    have sky1 : Sky Bd (X.env :: X.outer) ea (Zc cls dd) X.env.locals t1.heap := eS ▸ sky0
    show wpAny (model X.prog X.w) X.A (noteFrame (Value.ref ea) X.env) _ _ _
    refine Sky.land Zc.steady frm eF sky1 fun hA flA upA => ?_
    have IA : Inv X pins σB HB { t1 with heap := hA } := Inv.landed IB nbB flA.1 (upB.trans upA) osB agB
    obtain ⟨oA, vA, getA, zA, datA⟩ := flA.there
    have noF : ea ∉ frs (X.env :: X.outer) := fun hm => by
      obtain ⟨_, o', e', hnf⟩ := (flA.2.2.1).mem hm
      rw [getA] at e'; cases e'
      exact hnf _ datA
    have n1 : ea ≠ X.env.locals := fun z => noF (List.mem_filterMap.mpr ⟨X.env, List.mem_cons_self, by rw [eF, z]⟩)
    have n2 : ea ∉ X.fs := fun hm => by
      obtain ⟨e, he, q⟩ := List.mem_filterMap.mp hm
      exact noF (List.mem_filterMap.mpr ⟨e, List.mem_cons_of_mem _ he, q⟩)
    have SA := Inv.suite IA getA datA naB n1 n2
    refine wpAny_handleBy_cons (codeAny_handlers_test ?_) (fun q => by cases q)
    have lookT : PySem.W.Looks (model X.prog X.w) hA (typeOf (.ref ea)) cls := fun A Q E s k q => wpAny_typeOf_ref (k _ _ getA) (by rw [zA.1]; exact q)
    have lookM := PySem.W.exm_one (M := model X.prog X.w) IA.kIn lookT em
    have tst : ∀ {Q E : Value → Shared → Prop}, Q c { t1 with heap := hA } → wpAny (model X.prog X.w) (X.A.mark (some (.ref ea))) (eval (.Name x q1) X.env) Q E { t1 with heap := hA } := fun {Q E} q => by
      rcases nm with ⟨hg, hdbg, hm | ⟨hm, hv, hnn⟩⟩
      · exact ld_glob (X := X.suite ea ((ea, oA) :: (X.pn ++ pins))) SA hg hm q hdbg
      · exact ld_blt (X := X.suite ea ((ea, oA) :: (X.pn ++ pins))) SA hg hm hv q hnn hdbg
    refine tst (lookM.here (codeAny_handlers_suite_as (HandSPX.lands_againZ flA fun hC flC upC => ?_)))
    have IC : Inv X pins σB HB { t1 with heap := hC } := Inv.landed IB nbB flC.1 ((upB.trans upA).trans upC) osB agB
    obtain ⟨oC, vC, getC, zC, datC⟩ := flC.there
    refine store_ok (X := X.suite ea ((ea, oC) :: (X.pn ++ pins))) (v := .ref ea) (Inv.suite IC getC datC naB n1 n2) nd gi (.inl lc) rfl (fun s5 S5 => ?_) (.inr lc)
    refine wpAny_mono ((hs ea oC cls dd (X.pn ++ pins) zC ⟨_, datC⟩).run [] s5 _ HB _ S5 (wsh ea naB)) (fun fl s6 sp => ?_) fun _ _ z => z.elim
    have gone : ∀ {σ6 : L2.St} {H6 : Hp} {Q : Shared → Prop}, Inv (X.suite ea ((ea, oC) :: (X.pn ++ pins))) [] σ6 H6 s6 → (∀ s7, Inv X pins (σ6.set i none) H6 s7 → Q s7) →
        wpAny (model X.prog X.w) X.A (do bindName X.env n .none; unbindBehindTheSuite X.env n q2) (fun _ s7 => Q s7) X.xe s6 := fun {σ6 H6 Q} S6 hq => gone_ok (S6.unsuite okI) nd gi lc hq
    cases fl with
    | next =>
      obtain ⟨σ6, H6, S6, k6⟩ := sp
      exact gone S6 fun s7 J7 => ⟨_, _, J7, k6⟩
    | brk =>
      obtain ⟨σ6, H6, S6, k6⟩ := sp
      exact gone S6 fun s7 J7 => ⟨_, _, J7, k6⟩
    | cont =>
      obtain ⟨σ6, H6, S6, k6⟩ := sp
      exact gone S6 fun s7 J7 => ⟨_, _, J7, k6⟩
    | ret u =>
      obtain ⟨v6, σ6, H6, S6, r6, k6⟩ := sp
      exact gone S6 fun s7 J7 => ⟨_, _, _, J7, r6, k6⟩
  · cases fl with
    | next =>
      obtain ⟨σ1, H1, J1, k⟩ := sp
      exact wpAny_execs_nil ⟨σ1, H1, J1.ofTry okI, k⟩
    | brk =>
      obtain ⟨σ1, H1, J1, k⟩ := sp
      exact ⟨σ1, H1, J1.ofTry okI, k⟩
    | cont =>
      obtain ⟨σ1, H1, J1, k⟩ := sp
      exact ⟨σ1, H1, J1.ofTry okI, k⟩
    | ret u =>
      obtain ⟨v, σ1, H1, J1, r, k⟩ := sp
      exact ⟨v, σ1, H1, J1.ofTry okI, r, k⟩⟩
end
theorem EXP.sp {α β : Type} {x : Except Nat α} {P : α → Prop} {N : Nat → Prop} {er : Nat → Option β} {ok : α → Option β} {A : β → Prop} (h : OP (exE x er ok) A) (hr : ∀ c, x = .error c → OP (er c) A → N c) (ho : ∀ v, x = .ok v → OP (ok v) A → P v) : EXP x P N := by
  cases x with
  | ok v => exact ho v rfl h
  | error c => exact hr c rfl h
theorem z_seqE {σ : L2.St} {H : Hp} {D : Ends} {t tu : TS} (h : t { D with nx := tu D } σ H) : tSeq t tu D σ H := h
theorem z_sl {σ σ' : L2.St} {H : Hp} {D : Ends} {tu : TS} (e : σ = σ') (h : tu D σ' H) : tu D σ H := e ▸ h
/-- isinstance(e, c), isinstance(e, (c1, c2, ..)), e the exception that the suite holds -/
def rIsES (K : PySem.W.Frag) (cls : Value) (d : Option Addr) (a : Addr) : List V → Hp → VK → Prop := fun xs H Q => ∃ (D : Addr) (c : V) (cv : Value) (b : Bool), cls = .ref D ∧ d = none ∧ ExcC K D ∧ xs = [.ref a, c] ∧ ClsV c cv ∧ PySem.W.kitOne K (.ref D) cv = some b ∧ Q (.bl b) H
def rIsET (K : PySem.W.Frag) (cls : Value) (d : Option Addr) (a : Addr) : List V → Hp → VK → Prop := fun xs H Q => ∃ (D tp : Addr) (cs : List V) (us : List Value) (b : Bool), cls = .ref D ∧ d = none ∧ ExcC K D ∧ xs = [.ref a, .ref tp] ∧ H tp = some (.tup cs) ∧ Paired ClsV cs us ∧ PySem.W.kitAny K (.ref D) us = some b ∧ Q (.bl b) H
theorem pin_inst {X : Cx} {a D : Addr} {oe : Obj} {pn pins : List (Addr × Obj)} {σ : L2.St} {H : Hp} {s : Shared} (I : Inv (X.suite a ((a, oe) :: pn)) pins σ H s) (hz : Zc (.ref D) none oe) (hf : ∃ vs, oe.data = .fields vs) : PySem.W.InstAt s.heap a oe D none := by
  obtain ⟨gt, _⟩ := I.pin (a, oe) (List.mem_append.mpr (.inl List.mem_cons_self))
  obtain ⟨vs, hv⟩ := hf
  obtain ⟨oc, od, oda, osl⟩ := oe
  obtain ⟨z1, z2⟩ := hz
  dsimp only at z1 z2 hv
  subst z1 z2 hv
  exact ⟨gt, rfl, rfl, trivial⟩
theorem call_isES {X : Cx} {a : Addr} {cls : Value} {d : Option Addr} {oe : Obj} {pn : List (Addr × Obj)} (hz : Zc cls d oe) (hf : ∃ vs, oe.data = .fields vs) : CallR (X.suite a ((a, oe) :: pn)) (.builtin "isinstance") (rIsES X.K cls d a) := by
  intro pins s σ H xs us Q I r h
  obtain ⟨D, c, cv, b, rfl, rfl, C, rfl, kc, e, q⟩ := h
  exact call_isE C hz hf pins s σ H _ us Q I r ⟨c, cv, b, rfl, fun u ru => kc.eq ru, e, q⟩
theorem call_isET {X : Cx} {a : Addr} {cls : Value} {d : Option Addr} {oe : Obj} {pn : List (Addr × Obj)} (hz : Zc cls d oe) (hf : ∃ vs, oe.data = .fields vs) : CallR (X.suite a ((a, oe) :: pn)) (.builtin "isinstance") (rIsET X.K cls d a) := by
  intro pins s σ H xs us Q I r h
  obtain ⟨D, tp, cs, ws, b, rfl, rfl, C, rfl, hT, k, e, q⟩ := h
  obtain ⟨u1, u2, rfl, r1, r2⟩ := vals2 r
  cases (show u2 = Value.ref tp from r2)
  cases (show u1 = Value.ref a from r1)
  have J := pin_inst I hz hf
  obtain ⟨_, its, rv, o, h1, h2, n, h3⟩ := I.hok tp _ hT
  have e3 := ClsV.all k rv
  subst e3
  obtain ⟨oc, od, dt, sl⟩ := o
  simp only at h2 h3
  subst h2 h3
  exact PySem.W.kia_tup (PySem.W.handS_kitx_exc C.hg C.hk C.hs C.hd C.ha C.hn C.ht C.hm) I.kIn J h1 e (fun z => nomatch z) fun tk => ⟨.bl b, H, I.kept (t' := tk) fun _ _ z => z, rfl, q⟩
section
variable {K : PySem.W.Frag} {σ : L2.St} {H : Hp} {ta tb : TE} {a D : Addr} {c : V} {cv : Value} {b : Bool}
theorem v_isE (C : ExcC K D) (ha : Val ta σ H (.ref a)) (hb : Val tb σ H c) (kc : ClsV c cv) (e : PySem.W.kitOne K (.ref D) cv = some b) : Val (tCB (rIsES K (.ref D) none a) (tCons ta (tCons tb tNil))) σ H (.bl b) :=
  fun Q q => ha _ (hb _ ⟨D, c, cv, b, rfl, rfl, C, rfl, kc, e, q⟩)
end
theorem kit_bt {K : PySem.W.Frag} {D : Addr} {T : String} {b : Bool} (m : PySem.W.kitMeta T = true) (s : PySem.W.subIn K (.ref D) (.type T) = some b) : PySem.W.kitOne K (.ref D) (.type T) = some b := by
  unfold PySem.W.kitOne
  have hne : ((Value.ref D : Value) == Value.type T) = false := by
    cases e : ((Value.ref D : Value) == Value.type T) with
    | false => rfl
    | true => cases beq_iff_eq.mp e
  rw [hne, if_neg Bool.false_ne_true]
  unfold PySem.W.kitCls
  show (if PySem.W.kitMeta T = true then PySem.W.subIn K (.ref D) (.type T) else none) = _
  rw [if_pos m, s]
theorem bt_ValueError : bootBuiltins "ValueError" = some (.type "ValueError") := by decide +kernel
theorem meta_ValueError : PySem.W.kitMeta "ValueError" = true := by decide +kernel
/-- o.m(e, ..), where what is raised is wished for at the slots -/
def tMethX (C : Addr) (m : Str) (sp : Sp) (E : L2.St → XK) (ta : TE) (t : TA) : TE := fun σ H Q => ta σ H fun x H1 => ∃ a dx fs, x = .ref a ∧ H1 a = some (.ins C dx fs) ∧ fs.lookup m = none ∧ t σ H1 fun vs H2 => sp (x :: vs) H2 Q (E σ)
theorem pe_methX {X : Cx} {CX : CXT} {k : Nat} {f C : Addr} {fd : FuncData} {ps : List Str} {sp : Sp} {E : L2.St → XK} {m : Str} {pos apos : Pos} {e o : Expr} {es : List Expr} {ta : TE} {t : TA} {pl : Sem Bool} (he : PE X o ta) (c : Cls X.K C) (hm : Meth X.K C m f) (F : FnOk X.prog X.w X.K X.mg X.base CX k f fd ps sp) (hr : Room k X.A) (hb : Binds X.K fd ps []) (hx : ∀ σ, PassesAt CX X σ (E σ)) (ha : PA X (e :: es) t)
    (hst : starEach (e :: es) X.env = (false, eval e X.env) :: starEach es X.env := by rfl) (hpl : (backTo pos (starEach es X.env)).any (·.1) = false := by rfl)
    (ht : eval (.Call (.Attribute o m apos) (e :: es) [] pos) X.env = (eval o X.env >>= fun ov => standAt apos.atName >>= fun _ => holding [ov] (getMethod ov m pl) >>= fun z => callWith pos z.1 z.2 (backTo pos (starEach (e :: es) X.env)) (backToKw pos (keywordEach [] X.env))) := by rfl) :
    PE X (.Call (.Attribute o m apos) (e :: es) [] pos) (tMethX C m sp E ta t) := ⟨fun pins s σ H Q I h => by
  refine PySem.W.methodCall_KW (pl := pl) (thn (he.run pins s σ H _ I h) fun u s1 ⟨x, H1, I1, rx, a, dx, fs, ex, ea, l, q⟩ => ?_) ht
  cases ex
  cases (show u = Value.ref a from rx)
  refine getmeth_ok I1 ea c hm l (PySem.W.callWith_K (first := [.ref a]) (h₀ := X.base) I.ok.mod.kin hm.kp (thn (ha.run pos pins s1 σ H1 _ I1 q) fun us s2 ⟨vs, H2, I2, r, q2⟩ => ⟨I2.kIn, ?_⟩) hst hpl)
  exact run_fnS (us := .ref a :: us) (vs := .ref a :: vs) F hr hb (hx σ) I2 (.cons rfl r) q2⟩
theorem kitAny_f {K : PySem.W.Frag} {t c : Value} {r : List Value} {b : Bool} (h : PySem.W.kitOne K t c = some false) (k : PySem.W.kitAny K t r = some b) : PySem.W.kitAny K t (c :: r) = some b := by
  unfold PySem.W.kitAny
  rw [h]
  exact k
theorem kitAny_t {K : PySem.W.Frag} {t c : Value} {r : List Value} (h : PySem.W.kitOne K t c = some true) : PySem.W.kitAny K t (c :: r) = some true := by
  unfold PySem.W.kitAny
  rw [h]
end Z
namespace Z
open PySem PySem.Spec PyProof.Rows L2
theorem z_suite {σ σ' : L2.St} {H : Hp} {D : Ends} {t tu : TS} {i : Nat} {a : Addr} (e : σ.set i (some (.ref a)) = σ') (h : ∀ (N Bk Ct : L2.St → Hp → Prop), (∀ σ1 H1, tu D (σ1.set i none) H1 → N σ1 H1) → t { nx := N, rt := D.rt, bk := Bk, ct := Ct } σ' H) :
    t { nx := fun σ1 H1 => (tu D) (σ1.set i none) H1, rt := D.rt, bk := fun σ1 H1 => D.bk (σ1.set i none) H1, ct := fun σ1 H1 => D.ct (σ1.set i none) H1 } (σ.set i (some (.ref a))) H := e ▸ h _ _ _ fun _ _ z => z
end Z
namespace Z
open PySem PySem.Spec PyProof.Rows L2
theorem c_callS {sp : Sp} {E : L2.St → XK} {tr : TA} {σ : L2.St} {H : Hp} {Q : VK} (h : tr σ H fun vs H1 => sp vs H1 Q (E σ)) : tCallS sp E tr σ H Q := h
end Z

namespace Z
open PySem PySem.Spec PyProof.Rows L2 PySem.Calls
/-! ### sorted(d.keys()) -/
def tSortKeys (te : TE) : TE := fun σ H Q => te σ H fun v H1 => ∃ (a : Addr) (kvs : List (Key × V)) (ks : List Int), v = .ref a ∧ H1 a = some (.dK kvs) ∧ kvs.map (·.1) = ks.map .inl ∧
  ∀ (zs : List Int) (p : Addr), zs.Perm ks → zs.Pairwise (· ≤ ·) → H1 p = none → Q (.ref p) (upd H1 p (.lst (zs.map V.int)))
theorem kv_keys : ∀ {kvs : List (Key × V)} {vs : List (Key × Value)}, KV kvs vs → kvs.map (·.1) = vs.map (·.1)
  | _, _, .nil => rfl
  | _, _, .cons a b => by rw [List.map_cons, List.map_cons, a.1, kv_keys b]
theorem keysInts {P : Program} {w : World} : ∀ {us : List Value} {ks : List Int} {vs : List (Key × Value)}, us.length = vs.length → (∀ (i : Nat) (v : Value), us[i]? = some v → ∃ k x, vs[i]? = some (k, x) ∧ (mixKind P w).is k v = true) → vs.map (·.1) = ks.map .inl → IntsAre us ks
  | [], ks, vs, hl, _, hk => by
    cases vs with
    | nil =>
      cases ks with
      | nil => exact .nil
      | cons => cases hk
    | cons => cases hl
  | u :: us, ks, vs, hl, h, hk => by
    cases vs with
    | nil => cases hl
    | cons q vs =>
      cases ks with
      | nil => cases hk
      | cons n ks =>
        rw [List.map_cons, List.map_cons] at hk
        injection hk with h1 h2
        obtain ⟨k, x, e, i⟩ := h 0 u rfl
        rw [List.getElem?_cons_zero] at e
        cases e
        rw [mixKind_is] at i
        have h1' : k = Sum.inl n := h1
        subst h1'
        rcases keyIs_shape i with ⟨j, t, e1, e2⟩ | ⟨y, t, e1, e2⟩
        · cases e1
          subst e2
          exact .cons n t (keysInts (P := P) (w := w) (by simpa using hl) (fun i v e => h (i + 1) v (by rw [List.getElem?_cons_succ]; exact e)) h2)
        · cases e1
theorem pe_sortedKeys {X : Cx} {e : Expr} {te : TE} {p pos apos cpos : Pos} (hc : X.calm = true) (hg : Gl X "sorted") (hm : X.mg "sorted" = none) (he : PE X e te)
    (hbase : attributeBase e "keys" X.env (eval e X.env) = eval e X.env := by rfl) (hline : (apos.endLine == cpos.line) = true := by rfl)
    (hs : starEach [.Call (.Attribute e "keys" apos) [] [] cpos] X.env = (false, eval (.Call (.Attribute e "keys" apos) [] [] cpos) X.env) :: starEach [] X.env := by rfl) :
    PE X (.Call (.Name "sorted" p) [.Call (.Attribute e "keys" apos) [] [] cpos] [] pos) (tSortKeys te) := by
  refine ⟨fun pins s σ H Q I h => ?_⟩
  refine wpAny_Call_Name_kw (ld_blt I hg hm bt_sorted ?_)
  refine PyProof.Rows.callWith_builtin1 (args_cons ?_ hs) hs rfl
  refine wpAny_Call_method (T := "dict") (id := "dict.keys") hbase rfl hline F.plainAttrs_dict F.slot_dict_keys F.type_dict_keys (thn (he.run pins s σ H _ I h) fun u s1 ⟨x, H1, I1, rx, d, kvs, ks, ex, hd, hks, q⟩ => ?_)
  subst ex
  obtain rfl : u = Value.ref d := rx
  obtain ⟨hz, hgd, vs, kv, hm⟩ := I1.hok d _ hd
  have hl : kvs.length = vs.length := Paired.length kv
  refine ⟨hm.typeIs, hm.mapOf.noDict, ?_⟩
  have I2 : Inv X pins σ H1 { s1 with heap := s1.heap.push { cls := .type "dict_keys", data := .fields #[.ref d] } } := I1.kept (t' := s1.toks) fun b ob q => Heap.get?_push_of_some _ q
  have fin : wpAny (model X.prog X.w) X.A (call (.builtin "sorted") [.ref s1.heap.objs.size]) (EP X pins σ Q) X.xe { s1 with heap := s1.heap.push { cls := .type "dict_keys", data := .fields #[.ref d] } } := by
    obtain ⟨ep, hat⟩ := hm.dictAt
    have hat2 := hat.push { cls := .type "dict_keys", data := .fields #[.ref d] }
    refine call_function_entry kind_sorted plain_sorted entry_sorted (args_sorted1 _) ?_
    unfold Builtin.«sorted»
    refine wpAny_bind (m := checkCount "sorted" 1 1 _) (wpAny_pure ?_)
    refine wpAny_bind (PySem.W.kdu_collect (A := X.A.in1) (PySem.W.kdl_keys (knd := mixKind X.prog X.w) (kvs := vs) (ep := ep)) (I1.ok.hd hc) ⟨⟨_, Heap.get?_push_size _ rfl, rfl, rfl⟩, hat2⟩ (by rw [← hl]; exact hz) fun h' tk acc hk hacc => ?_)
    have hlen : acc.toList.length = vs.length := by rw [Array.length_toList]; exact hacc.1
    refine wpAny_bind (wpAny_newList ?_ (by rw [hlen, ← hl]; exact hz))
    have hi : IntsAre acc.toList ks := keysInts (P := X.prog) (w := X.w) hlen (fun j v e => hacc.2 j v (by rw [← Array.getElem?_toList]; exact e)) ((kv_keys kv).symm.trans hks)
    have hzz : acc.toList.length ≤ sizeLine := by rw [hlen, ← hl]; exact hz
    have hob : (h'.push { cls := .type "list", data := .seq acc.toList.toArray }).get? h'.objs.size = some { cls := .type "list", data := .seq acc.toList.toArray } := Heap.get?_push_size _ rfl
    refine wpAny_bind (wpAny_holding (wpAny_call_entry slot_list_sort ⟨_, hob, rfl⟩ entry_list_sort (SrtO.list_sort_ord SrtO.swo_int hob hzz (fun h2 => SrtO.ints_sortable hi h2) fun out h1 h2 => ⟨_, rfl, ?_⟩) (args_list_sort _)))
    refine wpAny_pure ⟨_, rfl, ?_⟩
    obtain ⟨k1, k2, k3⟩ := SrtO.ints_out hi h1 h2
    obtain ⟨ep2, he'⟩ := PyProof.Rows.sortedHeap_at (vs := acc.toList) (out := out.toArray) hob
    have hlo : ((out.map SrtO.iv).map V.int).length ≤ sizeLine := by
      rw [List.length_map, k2.length_eq]
      have := congrArg List.length hks
      rw [List.length_map, List.length_map] at this
      rw [← this]; exact hz
    have old : ∀ b u, (s1.heap.push { cls := .type "dict_keys", data := .fields #[.ref d] }).get? b = some u → (sortedHeap (h'.push { cls := .type "list", data := .seq acc.toList.toArray }) h'.objs.size acc.toList out.toArray).get? b = some u := fun b u hu => by
      have h3 := hk b u hu
      have h4 : (h'.push { cls := .type "list", data := .seq acc.toList.toArray }).get? b = some u := Heap.get?_push_of_some _ h3
      rw [PyProof.Rows.sortedHeap_old (Nat.ne_of_lt (Heap.lt_size h3)) (Heap.lt_size h4)]
      exact h4
    have hsz : s1.heap.objs.size + 1 ≤ h'.objs.size := by
      have h3 := hk s1.heap.objs.size _ (Heap.get?_push_size _ rfl)
      exact Heap.lt_size h3
    have hpz : (s1.heap.push { cls := .type "dict_keys", data := .fields #[.ref d] }).objs.size ≤ h'.objs.size := by rw [size_push']; exact hsz
    exact ⟨.ref _, upd H1 h'.objs.size (.lst ((out.map SrtO.iv).map V.int)), I2.laid (t' := tk) old hpz ⟨hlo, out, ep2, vals_of_ints k1, he'⟩, rfl, q _ _ k2 k3 (I2.hok.fresh hpz)⟩
  show wpAny _ _ (callWith cpos (.builtin "dict.keys") [.ref d] [] []) _ _ s1
  exact method_meetsIn F.slot_dict_keys F.entry_dict_keys rfl (PySem.evalArgs_none ⟨rfl, hm.typeIs, F.args_dict_keys_1 _, _, PySem.W.kdl_meets_keys (mixKind X.prog X.w) d hgd, ⟨vs, hm⟩, args_nil fin⟩)
end Z
namespace Z
open PySem PySem.Spec PyProof.Rows L2
/-! ### dicts of one's own, keys ints -/
section
variable {K : PySem.W.Frag} {σ : L2.St} {S H S0 H0 : Hp} {L : List Addr} {ta tb te : TE} {β : Type} {Q : VK} {v : V} {D : Ends} {tu : TS}
def kvD (vf : β → V) (x : List (Int × β)) : List (Key × V) := x.map fun p => (.inl p.1, vf p.2)
def KR (vf : β → V) (kvs : List (Key × V)) (x : List (Int × β)) : Prop := kvs = kvD vf x
def putD (x : List (Int × β)) (k : Int) (v : β) : List (Int × β) := if (x.any fun p => decide (p.1 = k)) = true then x.map (fun p => if p.1 = k then (p.1, v) else p) else x ++ [(k, v)]
theorem KR.nil {vf : β → V} : KR vf [] [] := rfl
theorem KR.length {vf : β → V} {kvs : List (Key × V)} {x : List (Int × β)} (h : KR vf kvs x) : kvs.length = x.length := by rw [h]; unfold kvD; rw [List.length_map]
theorem KR.keys {vf : β → V} {kvs : List (Key × V)} {x : List (Int × β)} (h : KR vf kvs x) : kvs.map (·.1) = (x.map (·.1)).map .inl := by
  rw [h]
  unfold kvD
  rw [List.map_map, List.map_map]
  rfl
theorem KR.put {vf : β → V} {kvs : List (Key × V)} {x : List (Int × β)} (h : KR vf kvs x) (k : Int) (v : β) : KR vf (putK kvs (.inl k) (vf v)) (putD x k v) := by
  have inl : ∀ a : Int, decide ((Sum.inl a : Key) = .inl k) = decide (a = k) := fun a => decide_eq_decide.mpr ⟨fun e => Sum.inl.inj e, fun e => by rw [e]⟩
  have e1 : (kvs.any fun kv => decide (kv.1 = (.inl k : Key))) = x.any fun p => decide (p.1 = k) := by
    rw [h]
    unfold kvD
    rw [List.any_map]
    congr 1
    funext p
    exact inl p.1
  unfold KR putK putD
  rw [e1]
  split
  · rw [h]
    unfold kvD
    rw [List.map_map, List.map_map]
    apply List.map_congr_left
    intro p _
    show (if (Sum.inl p.1 : Key) = .inl k then ((Sum.inl p.1 : Key), vf v) else (.inl p.1, vf p.2)) = _
    by_cases e : p.1 = k
    · rw [if_pos (by rw [e])]
      show _ = ((.inl (if p.1 = k then (p.1, v) else p).1 : Key), vf (if p.1 = k then (p.1, v) else p).2)
      rw [if_pos e]
    · rw [if_neg (fun q => e (Sum.inl.inj q))]
      show _ = ((.inl (if p.1 = k then (p.1, v) else p).1 : Key), vf (if p.1 = k then (p.1, v) else p).2)
      rw [if_neg e]
  · rw [h]
    unfold kvD
    rw [List.map_append]
    rfl
theorem c_newdK (k : ∀ p H', Same H H' → H p = none → H' p = some (.dK []) → Q (.ref p) H') : tDNewK σ H Q := fun p hp => k p _ (same_upd hp) hp upd_same
theorem c_dnE (h : ∀ Q' : VK, Q' = Q → tDNewK σ H Q') : tDNewK σ H Q := h _ rfl
theorem c_setD {vf : β → V} {l : Addr} {kvs : List (Key × V)} {x : List (Int × β)} {i : Int} {q : β} (g : Grow L S0 H0 S H) (cl : Cel L H0 S H l (.dK kvs)) (r : KR vf kvs x) (ho : Val ta σ H (.ref l)) (hi : Val tb σ H (.int i)) (hz : x.length < 16777216)
    (k : ∀ kvs' H', Grow L S0 H0 S H' → Cel L H0 S H' l (.dK kvs') → KR vf kvs' (putD x i q) → (∀ l' o', l' ≠ l → Cel L H0 S H l' o' → Cel L H0 S H' l' o') → tu D σ H') : gSub ta tb rSetD (vf q) σ H (tu D) :=
  ho _ (hi _ ⟨l, _, rfl, DPut.k (k := .inl i) cl.h (by rw [r.length]; show _ < sizeLine; rw [sizeLine_eq]; exact hz), k _ _ (g.wr cl rfl) (cl.wr rfl) (r.put i q) fun l' o' n c => c.wrn n⟩)
theorem c_skE (h : ∀ Q' : VK, Q' = Q → tSortKeys te σ H Q') : tSortKeys te σ H Q := h _ rfl
theorem l_sortKeys {vf : β → V} {l : Addr} {kvs : List (Key × V)} {x : List (Int × β)} (ha : Val te σ H (.ref l)) (cl : Cel L H0 S H l (.dK kvs)) (r : KR vf kvs x) (k : ∀ p ws H', Same H H' → H p = none → H' p = some (.lst ws) → RL (K := K) qI S ws (sortI (x.map (·.1))) → Q (.ref p) H') : tSortKeys te σ H Q :=
  ha _ ⟨l, kvs, x.map (·.1), rfl, cl.h, r.keys, fun zs p h1 h2 hp => by
    have s1 : SrtO.Srtd ltI zs := h2.imp fun h => decide_eq_false (by omega)
    have : zs = sortI (x.map (·.1)) := srt_uniq ltI_tot (h1.trans (sortB_perm _).symm) s1 (sortB_srt ltI_asy ltI_tr _)
    subst this
    exact k p _ _ (same_upd hp) hp upd_same (RL.map V.int (fun _ => rfl) _)⟩
end
end Z

namespace Z
open PySem PySem.Spec PyProof.Rows L2
/-! ### texts -/
section
variable {K : PySem.W.Frag} {σ : L2.St} {S H S0 H0 : Hp} {L : List Addr} {ta tb te : TE} {Q : VK} {v : V} {D : Ends} {tu : TS}
def chS (s : Str) (i : Int) : Option Str := (L2.atI s.cps.toList i).map fun c => ⟨#[c]⟩
theorem v_chr {s c : Str} {i : Int} (ha : Val ta σ H (.str s)) (hb : Val tb σ H (.int i)) (hz : s.length ≤ 16777216) (he : chS s i = some c) : Val (tOp rIxS ta tb) σ H (.str c) := fun Q q => by
  unfold chS at he
  obtain ⟨n, e1, rfl⟩ := Option.map_eq_some_iff.mp he
  exact ha _ (hb _ ⟨s, i, n, rfl, rfl, hz, e1, q⟩)
@[irreducible] def inS (a b : Str) : Bool := !(Builtin.Str.occurrences b a 0 b.length 1).isEmpty
def rInT : R2 := fun x y H Q => ∃ i j, x = .str i ∧ y = .str j ∧ Q (.bl (!(Builtin.Str.occurrences j i 0 j.length 1).isEmpty)) H
def rNinT : R2 := fun x y H Q => ∃ i j, x = .str i ∧ y = .str j ∧ Q (.bl (!(!(Builtin.Str.occurrences j i 0 j.length 1).isEmpty))) H
theorem op_inT {X : Cx} : OpR X (compareOp .In) rInT := op_in_str
theorem op_ninT {X : Cx} : OpR X (compareOp .NotIn) rNinT := op_notin_str
theorem v_inS {a b : Str} (ha : Val ta σ H (.str a)) (hb : Val tb σ H (.str b)) : Val (tOp rInT ta tb) σ H (.bl (inS a b)) := fun Q q => ha _ (hb _ ⟨a, b, rfl, rfl, by unfold inS at q; exact q⟩)
theorem v_ninS {a b : Str} (ha : Val ta σ H (.str a)) (hb : Val tb σ H (.str b)) : Val (tOp rNinT ta tb) σ H (.bl (!(inS a b))) := fun Q q => ha _ (hb _ ⟨a, b, rfl, rfl, by unfold inS at q; exact q⟩)
theorem v_cutS {s : Str} {tl th : TO} {lo hi : Option Int} (ha : Val te σ H (.str s)) (hl : ∀ q : Option Int → Hp → Prop, q lo H → tl σ H q) (hh : ∀ q : Option Int → Hp → Prop, q hi H → th σ H q) (hz : s.length ≤ 16777216) :
    Val (tSl rSlS te tl th) σ H (.str (cutS s lo hi)) := fun Q q => c_slice ha hl hh ⟨s, rfl, hz, q⟩
def gStr (i : Int) : Prop := i.natAbs < 1073741824
instance (i : Int) : Decidable (gStr i) := by unfold gStr; infer_instance
def strI (i : Int) : Str := (toString i : String)
theorem v_strI {i : Int} (ha : Val ta σ H (.int i)) (hz : gStr i) : Val (tCB (fun xs H Q => ∃ i, xs = [.int i] ∧ i.natAbs.log2 < 1920 ∧ Q (.str (toString i)) H) (tCons ta tNil)) σ H (.str (strI i)) := fun Q q => ha _ ⟨i, rfl, by
  unfold gStr at hz
  by_cases h0 : i.natAbs = 0
  · rw [h0]; decide
  · have := Nat.log2_lt (n := i.natAbs) (k := 30) h0
    have h2 : i.natAbs.log2 < 30 := this.mpr hz
    omega, q⟩
/-! a text's sgs -/
def sgs (x : Str) : List Str := x.cps.toList.map fun c => ⟨#[c]⟩
theorem z_forS {x : Str} {te : TE} {g : TG} {tb : TS} (ha : Val te σ H (.str x)) (Pv : List Str → L2.St → Hp → Prop) (h0 : Pv (sgs x) σ H)
    (hs : ∀ y ys σ' H', Pv (y :: ys) σ' H' → ∀ N : L2.St → Hp → Prop, (∀ σ'' H'', Pv ys σ'' H'' → N σ'' H'') → g (.str y) σ' H' fun σ2 H2 => tb { D with nx := N, ct := N, bk := tu D } σ2 H2) (hd : ∀ σ' H', Pv [] σ' H' → tu D σ' H') :
    tSeq (tFor (iStr te) g tb) tu D σ H := ha _ ⟨x, rfl, by
  refine ⟨fun i m σ H => i ≤ x.cps.size ∧ m = x.cps.size - i ∧ Pv ((sgs x).drop i) σ H, ⟨_, Nat.zero_le _, rfl, h0⟩, fun i m σ H h => ?_⟩
  obtain ⟨hi, rfl, hp⟩ := h
  have hl : (sgs x).length = x.cps.size := by unfold sgs; rw [List.length_map, Array.length_toList]
  by_cases hc : i < x.cps.size
  · refine .inr ⟨hc, fun σ' H' => Pv ((sgs x).drop (i + 1)) σ' H', fun σ' H' q => ⟨x.cps.size - (i + 1), by omega, by omega, rfl, q⟩, fun v H' hy => ?_⟩
    obtain ⟨rfl, c, ec, rfl⟩ := hy
    have e : (sgs x).drop i = (⟨#[c]⟩ : Str) :: (sgs x).drop (i + 1) := by
      rw [List.drop_eq_getElem_cons (by rw [hl]; exact hc)]
      congr 1
      unfold sgs
      rw [List.getElem_map, Array.getElem_toList]
      rw [Array.getElem?_eq_getElem hc] at ec
      rw [Option.some.inj ec]
    rw [e] at hp
    exact hs _ _ σ H' hp _ fun σ'' H'' z => z
  · refine .inl ⟨by show x.cps.size ≤ i; omega, ?_⟩
    rw [List.drop_eq_nil_of_le (by omega)] at hp
    exact hd _ _ hp⟩
/-! x in a new tuple of texts -/
theorem inV_str (x : Str) : ∀ ys : List Str, inV (.str x) (ys.map V.str) = ys.any fun y => decide (y = x)
  | [] => rfl
  | y :: ys => by
    show (y == x || inV (.str x) (ys.map V.str)) = _
    rw [inV_str x ys, List.any_cons]
    congr 1
theorem e_inTS {x : Str} {p : Addr} {ys : List Str} (h : H p = some (.tup (ys.map V.str))) (q : Q (.bl (ys.any fun y => decide (y = x))) H) : rIn K false (.str x) (.ref p) H Q :=
  ⟨p, _, rfl, .inr (SqT.of h), rfl, by rw [List.all_map]; exact List.all_eq_true.mpr fun _ _ => rfl, by
    show Q (.bl (inV _ _)) H
    rw [inV_str]; exact q⟩
end
end Z
namespace Z
open PySem PySem.Spec PyProof.Rows L2
/-! ### enumerate(text) -/
theorem draws_str {prog : Program} {w : World} {A : Around} (hh : A.handled = none) (it : Addr) (x : Str) (t : Tok) :
    Draws prog w A it [it] x.cps.size (fun i v => ∃ c u, x.cps[i]? = some c ∧ v = .str ⟨#[c]⟩ u) (fun i h => h.IsStrIter it (strIterType x) x t i) := by
  unfold strIterType
  split
  · exact Draws.strAscii hh it x t
  · exact Draws.strWide hh it x t
def Iten (x : Str) : It :=
  ⟨fun i _ => i < x.cps.size, fun i H v H' => ∃ T c, v = .ref T ∧ H T = none ∧ H' = upd H T (.tup [.int (i : Nat), .str ⟨#[c]⟩]) ∧ x.cps[i]? = some c, fun i _ => x.cps.size ≤ i⟩
theorem turn_enumS {P : Program} {w : World} {K : PySem.W.Frag} {elts : List Expr} {kk : Nat} {tpos : Pos} (x : Str) (t : Tok) (e it : Addr) :
    Turn P w K (.Tuple elts kk tpos) (Iten x) [e, it] e (fun i h => (∃ old, IsEnum h e it ((i : Nat) : Int) old) ∧ h.IsStrIter it (strIterType x) x t i ∧ e ≠ it ∧ i ≤ x.cps.size) where
  mem := by simp
  obj := fun i h st b hb => by
    obtain ⟨⟨old, he⟩, ⟨o, ho, hc, hd⟩, _⟩ := st
    have e' : b = e ∨ b = it := by simpa using hb
    rcases e' with z | z
    · rw [z]; exact ⟨_, he, fun v q => nomatch q⟩
    · rw [z]; exact ⟨o, ho, fun v q => by rw [hd] at q; cases q⟩
  keep := fun i h h' st k => let ⟨⟨old, he⟩, ⟨o, ho, r⟩, hne⟩ := st; ⟨⟨old, k e (by simp) _ he⟩, ⟨o, k it (by simp) o ho, r⟩, hne⟩
  item := by
    intro X hP hw hK hc i pins s σ H E I hf st hg
    subst hP hw hK
    obtain ⟨⟨old, he⟩, hit, hne, hsz0⟩ := st
    have hel : e < s.heap.objs.size := Heap.lt_size he
    have hil : it < s.heap.objs.size := by obtain ⟨_, q, _⟩ := hit; exact Heap.lt_size q
    refine wpAny_pyNext_enum_itemD (draws_str (show X.A.in1.handled = none from I.ok.hd hc) it x t) he hit hg hne (by simp [hne]) fun v h' tk hv ho hit' hT hsz hk => ?_
    obtain ⟨c, u, hcx, rfl⟩ := hv
    refine ⟨_, rfl, wpAny_letOwnedTupleGo_enum (s := { s with heap := h', toks := tk + 1 }) ho fun h'' he' sb => ?_⟩
    have hT2 : h''.get? s.heap.objs.size = some { cls := .type "tuple", data := .seq #[.int i tk, .str ⟨#[c]⟩ u] } := (sb.2 _ (Nat.ne_of_gt hel)).trans hT
    have new : ObjOk X.prog X.w (upd H s.heap.objs.size (.tup [.int (i : Nat), .str ⟨#[c]⟩])) h'' s.heap.objs.size (.tup [.int (i : Nat), .str ⟨#[c]⟩]) :=
      ⟨by show 2 ≤ sizeLine; decide, [.int i tk, .str ⟨#[c]⟩ u], .cons ⟨_, rfl⟩ (.cons ⟨_, rfl⟩ .nil), ⟨_, hT2, rfl, _, rfl⟩⟩
    have I1 : Inv X pins σ (upd H s.heap.objs.size (.tup [.int (i : Nat), .str ⟨#[c]⟩])) { s with heap := h'', toks := tk + 1 } :=
      I.turnedNew (ch := [e, it]) (fun b ob hb q => (sb.2 b (fun z => hb (by simp [z]))).trans (hk b ob (fun z => hb (by simp [z])) (fun z => hb (by simp [z])) q)) hf (Nat.le_refl _) new
    have hit2 : h''.IsStrIter it (strIterType x) x t (i + 1) := by
      obtain ⟨o, q1, q2⟩ := hit'
      exact ⟨o, (sb.2 it (Ne.symm hne)).trans q1, q2⟩
    refine ⟨.ref s.heap.objs.size, _, I1, rfl, ⟨_, c, rfl, I.hok.fresh (Nat.le_refl _), rfl, hcx⟩, ⟨⟨Value.str ⟨#[c]⟩ u, ?_⟩, hit2, hne, hg⟩, fun b hb => ?_⟩
    · have e1 : ((i + 1 : Nat) : Int) = (i : Int) + 1 := by omega
      rw [e1]; exact he'
    · have hb' : b < s.heap.objs.size := by
        have e' : b = e ∨ b = it := by simpa using hb
        rcases e' with z | z
        · rw [z]; exact hel
        · rw [z]; exact hil
      rw [upd_ne (Nat.ne_of_lt hb')]
      exact (hf b hb).1
  done := by
    intro X hP hw hK hc i pins s σ H E I hf st hg
    subst hP hw hK
    obtain ⟨⟨old, he⟩, hit, hne, hsz0⟩ := st
    obtain ⟨f0, f1, f2, f3, f4, f5⟩ := hf it (by simp)
    obtain rfl : i = x.cps.size := Nat.le_antisymm hsz0 hg
    exact wpAny_pyNext_enum_endD (draws_str (show X.A.in1.handled = none from I.ok.hd hc) it x t) he hit fun h' eb => ⟨rfl, I.turned (t' := s.toks) (fun b o hb q => eb b o hb q) f0 f1 f3 f4 f5⟩
  self := fun A i s Q E st h => let ⟨⟨_, he⟩, _⟩ := st; wpAny_pyIter_enum he h
def iEnumS (ta : TA) : TI := fun σ H R => ta σ H fun vs H1 => ∃ x, vs = [.str x] ∧ R (Iten x) H1
theorem pi_enumS {X : Cx} {e : Expr} {ta : TA} {p pos tpos : Pos} {elts : List Expr} {kk : Nat} (hg : Gl X "enumerate") (hm : X.mg "enumerate" = none) (ha : PA X [e] ta) (hs : starEach [e] X.env = [(false, eval e X.env)] := by rfl) :
    PI X (.Tuple elts kk tpos) (.Call (.Name "enumerate" p) [e] [] pos) (iEnumS ta) := by
  refine ⟨fun pins s σ H R I h => ?_⟩
  refine Call_ (ld_blt I hg hm boot_enumerate (PyProof.Rows.callWith_type1 (thn (ha.run pos pins s σ H _ I h) fun us s1 ⟨vs, H1, I1, r1, q1⟩ => ?_) hs rfl))
  obtain ⟨x, ex, q⟩ := q1
  subst ex
  cases r1 with
  | cons r rr =>
    cases rr
    obtain ⟨t, rfl⟩ := r
    refine call_enumerate_str fun h' he hit hsz hk => wpAny_pyIter_enum he ?_
    have I2 : Inv X pins σ H1 { s1 with heap := h' } := I1.kept (t' := s1.toks) hk
    refine ⟨s1.heap.objs.size + 1, [s1.heap.objs.size + 1, s1.heap.objs.size], _, _, H1, rfl, I2, turn_enumS x t (s1.heap.objs.size + 1) s1.heap.objs.size, ⟨⟨.none, he⟩, hit, Nat.succ_ne_self _, Nat.zero_le _⟩, fun b hb => ?_, q⟩
    have e' : b = s1.heap.objs.size + 1 ∨ b = s1.heap.objs.size := by simpa using hb
    have hle : s1.heap.objs.size ≤ b := by
      rcases e' with z | z
      · rw [z]; exact Nat.le_add_right _ _
      · rw [z]; exact Nat.le_refl _
    exact I1.fpOk hle (I1.hok.fresh hle)
section
variable {K : PySem.W.Frag} {σ : L2.St} {H : Hp} {te : TE} {D : Ends} {tu : TS}
theorem z_forNS {x : Str} {g : TG} {tb : TS} (ha : Val te σ H (.str x)) (Pv : List (Int × Str) → L2.St → Hp → Prop) (h0 : Pv (enumI (sgs x)) σ H)
    (hs : ∀ (y : Int × Str) ys σ' H', Pv (y :: ys) σ' H' → ∀ N : L2.St → Hp → Prop, (∀ σ'' H'', Pv ys σ'' H'' → N σ'' H'') → ∀ t, H' t = none → g (.ref t) σ' (upd H' t (.tup [.int y.1, .str y.2])) fun σ2 H2 => tb { D with nx := N, ct := N, bk := tu D } σ2 H2) (hd : ∀ σ' H', Pv [] σ' H' → tu D σ' H') :
    tSeq (tFor (iEnumS (tCons te tNil)) g tb) tu D σ H := ha _ ⟨x, rfl, by
  have hl : (sgs x).length = x.cps.size := by unfold sgs; rw [List.length_map, Array.length_toList]
  refine ⟨fun i m σ H => i ≤ x.cps.size ∧ m = x.cps.size - i ∧ Pv ((enumI (sgs x)).drop i) σ H, ⟨_, Nat.zero_le _, rfl, h0⟩, fun i m σ H h => ?_⟩
  obtain ⟨hi, rfl, hp⟩ := h
  by_cases hc : i < x.cps.size
  · refine .inr ⟨hc, fun σ' H' => Pv ((enumI (sgs x)).drop (i + 1)) σ' H', fun σ' H' q => ⟨x.cps.size - (i + 1), by omega, by omega, rfl, q⟩, fun v H' hy => ?_⟩
    obtain ⟨T, c, rfl, hT, rfl, ec⟩ := hy
    have e2 : (enumI (sgs x))[i]? = some ((i : Int), (⟨#[c]⟩ : Str)) := by
      have := enumF_get (sgs x) 0 i ⟨#[c]⟩ (by
        unfold sgs
        rw [List.getElem?_map, Array.getElem?_toList, ec]; rfl)
      rw [Nat.zero_add] at this
      exact this
    have e3 : (enumI (sgs x)).drop i = ((i : Int), (⟨#[c]⟩ : Str)) :: (enumI (sgs x)).drop (i + 1) := by
      obtain ⟨h1, h2⟩ := List.getElem?_eq_some_iff.mp e2
      rw [List.drop_eq_getElem_cons h1, h2]
    rw [e3] at hp
    exact hs _ _ σ H hp _ (fun _ _ z => z) T hT
  · refine .inl ⟨by show x.cps.size ≤ i; omega, ?_⟩
    rw [List.drop_eq_nil_of_le (by unfold enumI; rw [enumF_len]; omega)] at hp
    exact hd _ _ hp⟩
end
end Z
namespace Z
open PySem PySem.Spec PyProof.Rows L2
/-! ### a list and an empty one: ==, whatever the items are -/
def rEqE (K : PySem.W.Frag) : R2 := fun x y H Q => ∃ (p q : Addr) (xs ys : List V), x = .ref p ∧ y = .ref q ∧ SqL K H p xs ∧ SqL K H q ys ∧ ys.length = 0 ∧ Q (.bl (decide (xs.length = 0))) H
theorem op_eqE {X : Cx} (hu : X.A.units < cLine) : OpR X (compareOp .Eq) (rEqE X.K) := by
  intro pins s σ H x y v u Q I rx ry h
  obtain ⟨p, q, xs, ys, rfl, rfl, h1, h2, h3, k⟩ := h
  cases rx
  cases ry
  obtain ⟨is1, r1, p1, z1⟩ := I.list h1
  obtain ⟨is2, r2, p2, z2⟩ := I.list h2
  have l1 := r1.length
  have l2 := r2.length
  by_cases e : xs.length = 0
  · rw [decide_eq_true e] at k
    refine SeqAt.eq_listAt (e := fun _ => true) p1.isList p2.isList (by simp; omega) hu (fun j hj1 hj2 => absurd hj2 (by simp; omega)) ⟨.bl true, H, I, ?_, k⟩
    rw [show (List.range is1.toArray.size).all (fun _ => true) = true from List.all_eq_true.mpr fun _ _ => rfl]
    rfl
  · rw [decide_eq_false e] at k
    exact SeqAt.eq_list_lengthsAt p1.isList p2.isList (by simp; omega) hu ⟨.bl false, H, I, rfl, k⟩
section
variable {K : PySem.W.Frag} {σ : L2.St} {H : Hp} {ta tb te : TE} {Q : VK} {x y v : V} {α β : Type} {τ : Rep K α} {υ : Rep K β}
theorem e_eqE {xs : List α} {ys : List β} (h1 : (qQ τ).R H x xs) (h2 : (qQ υ).R H y ys) (hz : ys.length = 0) (q : Q (.bl (decide (xs.length = 0))) H) : rEqE K x y H Q := by
  obtain ⟨a, ws, rfl, h3, h4⟩ := h1
  obtain ⟨b, us, rfl, h5, h6⟩ := h2
  exact ⟨a, b, ws, us, rfl, rfl, h3, h5, by rw [h6.length]; exact hz, by rw [h4.length]; exact q⟩
def gJoin (s : Str) (xs : List Str) : Prop := (xs.map (·.length)).sum + xs.length * s.length ≤ 16777216
instance (s : Str) (xs : List Str) : Decidable (gJoin s xs) := by unfold gJoin; infer_instance
theorem strs_of {xs : List Str} : ∀ {ws : List V}, RL (K := K) qS H ws xs → ws = xs.map V.str := fun h => RL.eqmap V.str (fun _ _ q => q) h
def rJoin (K : PySem.W.Frag) : V → List V → Hp → VK → Prop := fun x xs H Q => ∃ a p, ∃ ys : List Str, x = .str a ∧ xs = [.ref p] ∧ (SqL K H p (ys.map V.str) ∨ SqT K H p (ys.map V.str)) ∧
      (ys.map (·.length)).sum + ys.length * a.length ≤ 16777216 ∧ Q (.str (Txt.join a ys)) H
theorem v_join {s : Str} {xs : List Str} (ha : Val ta σ H (.str s)) (hb : Val tb σ H v) (hr : (qQ (K := K) qS).R H v xs) (hz : gJoin s xs) : Val (tM1 (rJoin K) ta tb) σ H (.str (Txt.join s xs)) := fun Q q => by
  obtain ⟨a, ws, rfl, h3, h4⟩ := hr
  exact ha _ ⟨⟨_, rfl⟩, hb _ ⟨s, a, xs, rfl, rfl, .inl (by rw [← strs_of h4]; exact h3), hz, q⟩⟩
theorem c_methE {C : Addr} {m : Str} {sp : Sp} {dvs : List V} {E : XK} {t : TA} (h : ta σ H fun x H1 => tMeth C m sp dvs E (tC x) t σ H1 Q) : tMeth C m sp dvs E ta t σ H Q := h
end
end Z

namespace Z
open PySem PySem.Spec PyProof.Rows L2
/-! ### walks over range(e), e with effects -/
section
variable {K : PySem.W.Frag} {σ : L2.St} {S H S0 H0 : Hp} {L : List Addr} {ta tb te : TE} {Q : VK} {v : V} {D : Ends} {tu : TS}
def kTA (us : List V) : TA := fun _ H q => q us H
theorem va_k {us : List V} : VA (kTA us) σ H us := fun _ q => q
theorem z_rng1E {tr : TA} {g : TG} {tb : TS} (h : tr σ H fun us H1 => tSeq (tFor (iRng1 (kTA us)) g tb) tu D σ H1) : tSeq (tFor (iRng1 tr) g tb) tu D σ H := h
theorem c_lcR1E {tr : TA} {g : TG} {tt : TT} {vs : List Nat} (h : tr σ H fun us H1 => tLc (iRng1 (kTA us)) g tt te vs σ H1 Q) : tLc (iRng1 tr) g tt te vs σ H Q := h
theorem OP.pr2 {α β γ : Type} {k : α → β → Option γ} {a : α} {b : β} {A : γ → Prop} (h : OP (Z.lt (a, b).1 fun x => Z.lt (a, b).2 fun y => k x y) A) : OP (k a b) A := h
/-- list(range(n)) -/
def gRg (n : Int) : Prop := 0 ≤ n ∧ n ≤ 16777216
instance (n : Int) : Decidable (gRg n) := by unfold gRg; infer_instance
theorem l_listRg {n : Int} (ha : Val te σ H (.int n)) (hj : gRg n) (k : ∀ p ws H', Same H H' → H p = none → H' p = some (.lst ws) → RL (K := K) qI S ws (rangeI 0 n.toNat) → Q (.ref p) H') : tLstRg (tRg1 te) σ H Q :=
  ha _ ⟨n, rfl, .of_le (by decide) hj.2 (by decide) hj.1, fun p hp => k p _ _ (same_upd hp) hp upd_same (by
    have e : rgV 0 n = (rangeI 0 n.toNat).map V.int := by
      unfold rgV rangeI
      rw [List.map_map, Int.sub_zero]; rfl
    rw [e]
    exact RL.map V.int (fun _ => rfl) _)⟩
theorem c_rgE (h : ∀ Q' : VK, Q' = Q → te σ H Q') : te σ H Q := h _ rfl
/-- xs.pop(i) -/
def gIx (i : Int) : Prop := -(2 ^ 63) ≤ i ∧ i < 2 ^ 63
instance (i : Int) : Decidable (gIx i) := by unfold gIx; infer_instance
def popI {α : Type} (xs : List α) (i : Int) : Option (α × List α) := (seqIndex? i xs.length).bind fun k => (xs[k]?).map fun y => (y, xs.eraseIdx k)
theorem RL.erase {α : Type} {τ : Rep K α} : ∀ {ws : List V} {xs : List α} (_ : RL τ S ws xs) (k : Nat), RL τ S (ws.eraseIdx k) (xs.eraseIdx k)
  | _, _, .nil, _ => .nil
  | _, _, .cons _ b, 0 => b
  | _, _, .cons a b, k + 1 => .cons a (RL.erase b k)
theorem c_popAt {α : Type} {τ : Rep K α} {l : Addr} {ws : List V} {xs : List α} {r : α × List α} {i : Int} (g : Grow L S0 H0 S H) (cl : Cel L H0 S H l (.lst ws)) (h : RL τ S ws xs) (hi : gIx i) (he : popI xs i = some r)
    (k : ∀ w, τ.R S w r.1 → ∀ ws' H', Grow L S0 H0 S H' → Cel L H0 S H' l (.lst ws') → RL τ S ws' r.2 → (∀ l' o', l' ≠ l → Cel L H0 S H l' o' → Cel L H0 S H' l' o') → Q w H') : rPopAt (.ref l) [.int i] H Q := by
  unfold popI at he
  obtain ⟨j, ej, h2⟩ := Option.bind_eq_some_iff.mp he
  obtain ⟨y, ey, rfl⟩ := Option.map_eq_some_iff.mp h2
  obtain ⟨w, ew, rw_⟩ := h.get ey
  exact ⟨l, ws, i, j, w, rfl, rfl, cl.h, hi.1, hi.2, by rw [h.length]; exact ej, ew, k w rw_ _ _ (g.wr cl rfl) (cl.wr rfl) (RL.erase h j) fun l' o' n c => c.wrn n⟩
/-- an item of a list whose items are known -/
theorem v_ixl {l : Addr} {ws : List V} {w : V} {i : Int} (hl : H l = some (.lst ws)) (hx : L2.atI ws i = some w) (ha : Val ta σ H (.ref l)) (hb : Val tb σ H (.int i)) : Val (tOp (rIxL K) ta tb) σ H w :=
  fun Q q => ha _ (hb _ ⟨l, ws, i, w, rfl, rfl, SqL.of hl, hx, q⟩)
end
end Z
namespace Z
open PySem PySem.Spec PyProof.Rows L2
section
variable {K : PySem.W.Frag} {σ : L2.St} {S H S0 H0 : Hp} {L : List Addr} {ta tb te : TE} {Q : VK} {v : V}
/-! rows of a list of lists -/
theorem v_lenRow {n : Int} (ha : Val ta σ H v) (h : ∃ (l : Addr) (ws : List V), v = .ref l ∧ H l = some (.lst ws) ∧ (ws.length : Int) = n) : Val (tCB (rLenS K) (tCons ta tNil)) σ H (.int n) := fun Q q => by
  obtain ⟨l, ws, rfl, h1, rfl⟩ := h
  exact ha _ ⟨l, ws, rfl, .inl (SqL.of h1), q⟩
theorem lenRow {α : Type} {τ : Rep K α} {l : Addr} {ws : List V} {xs : List α} (h : H l = some (.lst ws)) (r : RL τ S ws xs) : ∃ (l' : Addr) (ws' : List V), (V.ref l) = .ref l' ∧ H l' = some (.lst ws') ∧ (ws'.length : Int) = (xs.length : Int) := ⟨l, ws, rfl, h, by rw [r.length]⟩
theorem c_clearR {l : Addr} {ws : List V} (ha : Val ta σ H (.ref l)) (h : H l = some (.lst ws)) (q : Q .non (upd H l (.lst []))) : tBM0 K "list" rClear ta σ H Q := ha _ ⟨tyL h, l, ws, rfl, rfl, h, q⟩
theorem eqsL : ∀ ws : List V, Paired (fun (a b : V) => a = b) ws ws
  | [] => .nil
  | _ :: ws => .cons rfl (eqsL ws)
end
end Z

namespace Z
open PySem PySem.Spec PyProof.Rows L2
/-! ### the error that is handled, handed to a def of one's own -/
/-- called with the handled error (of class D) alone, the def answers what its mirror answers -/
structure FnE (P : Program) (w : World) (K : PySem.W.Frag) (mg : Str → Option Value) (base : Heap) (k : Nat) (f : Addr) (fd : FuncData) (pn : Str) (D : Addr) (mir : Option Bool) : Prop where
  run : ∀ (A : Around) (outer : List Env) (s : Shared) (H : Hp) (args : Args) (Q : VK) (E : XK) (a : Addr) (oe : Obj), L2H.RoomH k A → L2H.PinOk outer H s (a, oe) → Zc (.ref D) none oe → (∃ vs, oe.data = .fields vs) →
    Env0 P w K mg base A outer s H → BindsTo s fd args ([pn].zip [.ref a]) → (∃ S, Same S H ∧ OP mir fun r => ∀ S' H', Grow [] S H S' H' → Q (.bl r) H') → codeAny (model P w) A (.call (.ref f) args) (CR CX0 outer P w H s Q E) s
theorem FnE.mono {P : Program} {w : World} {K : PySem.W.Frag} {mg : Str → Option Value} {base : Heap} {j k : Nat} {f : Addr} {fd : FuncData} {pn : Str} {D : Addr} {mir : Option Bool} (F : FnE P w K mg base j f fd pn D mir) (h : j ≤ k) : FnE P w K mg base k f fd pn D mir :=
  ⟨fun A outer s H args Q E a oe hr => F.run A outer s H args Q E a oe (hr.mono h)⟩
theorem fnE_of {P : Program} {w : World} {K : PySem.W.Frag} {mg : Str → Option Value} {base : Heap} {x qual : Str} {st : Stmt} {f : Addr} {fd : FuncData} {N : List Str} {pn : Str} {k : Nat} {D : Addr} {mir : Option Bool} (F : Fun K x qual st f fd) (S : FnScope N [pn] (defScope st))
    (hbody : ∀ (cdv : Value) (A : Around) (outer : List Env) (s : Shared) (H : Hp) (Q : VK) (E : XK) (a : Addr) (oe : Obj) (S0 : Hp), Zc (.ref D) none oe → (∃ vs, oe.data = .fields vs) → Same S0 H → OP mir (fun r => ∀ S' H', Grow [] S0 H S' H' → Q (.bl r) H') →
      ∃ t, PSs (L2H.cxH CX0 P w K mg base N qual (defScope st) f cdv A outer s H E (a, oe)).nox (defBody st) t ∧ t { nx := fun _ H' => Q .non H', rt := Q } (start N [.ref a]) H) : FnE P w K mg base (k + 1) f fd pn D mir := ⟨by
  intro A outer s H args Q E a oe hr pin hz hf e0 hb hm
  obtain ⟨S0, hS, ho⟩ := hm
  obtain ⟨oc, od, kV, doc, pm, an, cdv, ct, osl, rfl, lk, hcd⟩ := F.ex
  have kin := e0.mod.kin.keeps fun b o q => (e0.bs b o q).1
  have kinds : ∀ y ∈ [pn].zip [Value.ref a], (defScope st).names.lookup y.1 = some .local ∨ ((defScope st).names.lookup y.1 = some .cell ∧ ((cellsFrom (s.heap.objs.size + 1) (defScope st).names []).lookup y.1).isSome = true) := by
    rintro ⟨n, v⟩ hy
    exact (S.par n (List.of_mem_zip hy).1).imp id fun q => ⟨q, PySem.W.cellsFrom_some _ _ _ (.inl q)⟩
  refine codeAny_call_function hr.depth (kin _ _ lk) rfl S.co S.gen rfl (PySem.W.codeRec_of kin hcd) (hb _ _ _ _ (wpAny_newFunctionEnv_cells S.kind kinds fun env he s1 x => ?_))
  subst he
  obtain ⟨t, ht, hq⟩ := hbody cdv A outer s H Q E a oe S0 hz hf hS ho
  refine ⟨(e0.mod.nolimit.keeps fun b o q => (e0.bs b o q).1).keeps x.toInCall.keep, codeAny_func (wpAny_mono (ht.nox.run [] s1 (start N [.ref a]) H _ (L2H.inv_startH (E := E) S pin e0 rfl (.cons rfl .nil) x) hq) (fun fl s' hs => ?_) fun _ _ z => z)⟩
  cases fl with
  | ret u =>
    obtain ⟨v, σ', H', J, rv, q⟩ := hs
    exact ⟨v, H', J.os, J.bare, J.base, J.hok, rv, q⟩
  | next =>
    obtain ⟨σ', H', J, q⟩ := hs
    exact ⟨V.non, H', J.os, J.bare, J.base, J.hok, rfl, q⟩
  | brk => exact hs.elim fun _ z => z.elim fun _ z => z.2.elim
  | cont => exact hs.elim fun _ z => z.elim fun _ z => z.2.elim⟩
/-- such a call -/
def tCallE (mir : Option Bool) (a D : Addr) (cls : Value) (d : Option Addr) (t : TA) : TE := fun σ H Q => t σ H fun vs H1 => vs = [.ref a] ∧ cls = .ref D ∧ d = none ∧ ∃ S, Same S H1 ∧ OP mir fun r => ∀ S' H', Grow [] S H1 S' H' → Q (.bl r) H'
theorem pe_callE {X : Cx} {k : Nat} {f D a : Addr} {cls : Value} {d : Option Addr} {oe : Obj} {fd : FuncData} {pn x : Str} {mir : Option Bool} {q pos : Pos} {e : Expr} {t : TA} (F : FnE X.prog X.w X.K X.mg X.base k f fd pn D mir) (hr : L2H.RoomH k X.A) (hp : (a, oe) ∈ X.pn) (hz : Zc cls d oe) (hf : ∃ vs, oe.data = .fields vs)
    (hg : Gl X x) (hm : X.mg x = some (.ref f)) (hk : PySem.W.keepIn X.K (.ref f) = true) (hb : Binds X.K fd [pn] []) (ha : PA X [e] t) (hdb : (x == ("__debug__" : Str)) = false := by decide) (he : starEach [e] X.env = (false, eval e X.env) :: starEach [] X.env := by rfl) (hpl : (backTo pos (starEach [] X.env)).any (·.1) = false := by rfl) :
    PE X (.Call (.Name x q) [e] [] pos) (tCallE mir a D cls d t) := ⟨fun pins s σ H Q I h =>
  wpAny_Call_Name_kw (ld_glob I hg hm (PySem.W.callWith_K (h₀ := X.base) I.ok.mod.kin hk (thn (ha.run pos pins s σ H _ I h) fun us s1 ⟨vs, H1, J, r, ev, ec, ed, h2⟩ => ⟨J.kIn, by
    subst ev ec ed
    cases r with
    | cons r0 rr =>
      cases rr
      cases (show _ = Value.ref a from r0)
      have P1 := J.pin (a, oe) (List.mem_append_left _ hp)
      refine wpAny_call (codeAny_mono (F.run X.A X.stack s1 H1 ⟨[.ref a], []⟩ Q (fun _ _ _ => False) a oe hr ⟨P1.1, P1.2.1, fun hm2 => (List.mem_cons.mp (J.stkSub a hm2)).elim P1.2.2.1 P1.2.2.2.1, P1.2.2.2.2⟩ hz hf J.env0 (hb s1 [.ref a] J.kIn rfl) h2) fun res s' hq => ?_)
      cases res with
      | error e1 => exact absurd hq (by exact fun z => z)
      | ok fl =>
        cases fl with
        | ret u => exact J.after hq
        | next => exact hq.elim
        | brk => exact hq.elim
        | cont => exact hq.elim⟩) he hpl) hdb)⟩
section
variable {K : PySem.W.Frag} {σ : L2.St} {S H : Hp} {ta : TE} {a D : Addr} {mir : Option Bool} {Q : VK}
theorem c_callE (ha : Val ta σ H (.ref a)) (e : Same S H) (h : OP mir fun r => ∀ S' H', Grow [] S H S' H' → Q (.bl r) H') : tCallE mir a D (.ref D) none (tCons ta tNil) σ H Q := ha _ ⟨rfl, rfl, rfl, S, e, h⟩
end
/-- isinstance of the handled error, wherever its place is known -/
theorem pinX {X : Cx} {a D : Addr} {oe : Obj} {pins : List (Addr × Obj)} {σ : L2.St} {H : Hp} {s : Shared} (hp : (a, oe) ∈ X.pn) (I : Inv X pins σ H s) (hz : Zc (.ref D) none oe) (hf : ∃ vs, oe.data = .fields vs) : PySem.W.InstAt s.heap a oe D none := by
  obtain ⟨gt, _⟩ := I.pin (a, oe) (List.mem_append_left _ hp)
  obtain ⟨vs, hv⟩ := hf
  obtain ⟨c1, c2, c3, c4⟩ := oe
  obtain ⟨z1, z2⟩ := hz
  dsimp only at z1 z2 hv
  subst z1 z2 hv
  exact ⟨gt, rfl, rfl, trivial⟩
theorem call_isETX {X : Cx} {a : Addr} {cls : Value} {d : Option Addr} {oe : Obj} (hp : (a, oe) ∈ X.pn) (hz : Zc cls d oe) (hf : ∃ vs, oe.data = .fields vs) : CallR X (.builtin "isinstance") (rIsET X.K cls d a) := fun pins s σ H xs us Q I r h => by
  obtain ⟨D, tp, cs, ws, b, rfl, rfl, C, rfl, hT, k, e, q⟩ := h
  obtain ⟨v1, v2, rfl, w1, w2⟩ := vals2 r
  cases (show v2 = _ from w2)
  cases (show v1 = _ from w1)
  have J := pinX hp I hz hf
  obtain ⟨_, its, rv, ⟨oc, od, dt, sl⟩, h1, h2, n, h3⟩ := I.hok tp _ hT
  cases ClsV.all k rv
  cases h2
  cases h3
  exact PySem.W.kia_tup (PySem.W.handS_kitx_exc C.hg C.hk C.hs C.hd C.ha C.hn C.ht C.hm) I.kIn J h1 e (fun z => nomatch z) fun tk => ⟨.bl b, H, I.kept (t' := tk) fun _ _ z => z, rfl, q⟩
section
variable {K : PySem.W.Frag} {σ : L2.St} {H : Hp} {ta : TE} {v : V} {Q : VK}
theorem c_methX {C : Addr} {ns : List Str} {m : Str} {sp : Sp} {E : L2.St → XK} {t : TA} (ha : Val ta σ H v) (h : ∃ (l dx : Addr) (fs : List (Str × V)), v = .ref l ∧ H l = some (.ins C dx fs) ∧ ∀ m : Str, m ∉ ns → fs.lookup m = none) (hm : m ∉ ns) (k : t σ H fun vs H2 => sp (v :: vs) H2 Q (E σ)) : tMethX C m sp E ta t σ H Q := by
  obtain ⟨l, dx, fs, rfl, h1, h2⟩ := h
  exact ha _ ⟨l, dx, fs, rfl, h1, h2 m hm, k⟩
end
section
variable {K : PySem.W.Frag} {σ : L2.St} {H : Hp} {ta tb : TE} {v : V} {α β γ : Type} {τ : Rep K α} {υ : Rep K β} {φ : Rep K γ}
theorem v_t30 {p : Int × β × γ} (ha : Val ta σ H v) (hb : Val tb σ H (.int 0)) (hr : (qT3 qI υ φ).R H v p) : Val (tOp (rIxT K) ta tb) σ H (.int p.1) := fun Q q => by
  obtain ⟨a, w1, w2, w3, rfl, h2, h3, h4, h5⟩ := hr
  cases (show w1 = .int p.1 from h3)
  exact ha _ (hb _ ⟨a, [.int p.1, w2, w3], 0, .int p.1, rfl, rfl, SqT.of h2, rfl, q⟩)
theorem v_t31 {p : α × Int × γ} (ha : Val ta σ H v) (hb : Val tb σ H (.int 1)) (hr : (qT3 τ qI φ).R H v p) : Val (tOp (rIxT K) ta tb) σ H (.int p.2.1) := fun Q q => by
  obtain ⟨a, w1, w2, w3, rfl, h2, h3, h4, h5⟩ := hr
  cases (show w2 = .int p.2.1 from h4)
  exact ha _ (hb _ ⟨a, [w1, .int p.2.1, w3], 1, .int p.2.1, rfl, rfl, SqT.of h2, rfl, q⟩)
theorem v_t32 {p : α × β × Int} (ha : Val ta σ H v) (hb : Val tb σ H (.int 2)) (hr : (qT3 τ υ qI).R H v p) : Val (tOp (rIxT K) ta tb) σ H (.int p.2.2) := fun Q q => by
  obtain ⟨a, w1, w2, w3, rfl, h2, h3, h4, h5⟩ := hr
  cases (show w3 = .int p.2.2 from h5)
  exact ha _ (hb _ ⟨a, [w1, w2, .int p.2.2], 2, .int p.2.2, rfl, rfl, SqT.of h2, rfl, q⟩)
end
def rListO (K : PySem.W.Frag) : List V → Hp → VK → Prop := fun xs H Q => ∃ (p : Addr) (ys : List V), xs = [.ref p] ∧ (SqL K H p ys ∨ SqT K H p ys) ∧ ∀ l, H l = none → Q (.ref l) (upd H l (.lst ys))
/-! ### leaving a loop by break -/
def brkB {σ ρ : Type} (m : Option (σ ⊕ (σ ⊕ ρ))) (k : σ → Option ρ) : Option ρ := m.bind fun r => match r with
  | .inl s => k s
  | .inr (.inl s) => k s
  | .inr (.inr v) => some v
theorem z_cutS {σ : L2.St} {H : Hp} {D : Ends} {t tu : TS} (P : L2.St → Hp → Prop) (hP : ∀ σ' H', P σ' H' → tu D σ' H') (h : ∀ N : L2.St → Hp → Prop, (∀ σ' H', P σ' H' → N σ' H') → tSeq t (fun _ => N) D σ H) : tSeq t tu D σ H := h _ hP
end Z
theorem Z.OP.brkB {σ ρ : Type} {m : Option (σ ⊕ (σ ⊕ ρ))} {k : σ → Option ρ} {A : ρ → Prop} (h : Z.OP (Z.brkB m k) A) : ∃ B : σ → Prop, Z.OP m (Z.SE B (Z.SE B A)) ∧ ∀ s, B s → Z.OP (k s) A := by
  refine ⟨fun s => Z.OP (k s) A, ?_, fun _ h => h⟩
  cases m with
  | none => exact h.elim
  | some r =>
    cases r with
    | inl s => exact h
    | inr r =>
      cases r with
      | inl s => exact h
      | inr v => exact h

namespace Z
open PySem PySem.Spec PyProof.Rows L2
/-! ### dicts of one's own, keys pairs of ints -/
abbrev DT2 := List ((Int × Int) × Int)
def kk (p : Int × Int) : List Key := [.inl p.1, .inl p.2]
def dtm (x : DT2) : List (List Key × V) := x.map fun p => (kk p.1, .int p.2)
def TR (kvs : List (List Key × V)) (x : DT2) : Prop := kvs = dtm x
def putT (x : DT2) (k : Int × Int) (v : Int) : DT2 := if (x.any fun p => decide (p.1 = k)) = true then x.map (fun p => if p.1 = k then (p.1, v) else p) else x ++ [(k, v)]
def getT (x : DT2) (k : Int × Int) : Option Int := (x.find? fun p => decide (p.1 = k)).map (·.2)
def keysT (x : DT2) : List (Int × Int) := x.map Prod.fst
def dropT (x : DT2) (k : Int × Int) : DT2 := x.filter fun p => decide (p.1 ≠ k)
theorem kk_iff {a b : Int × Int} : kk a = kk b ↔ a = b := by
  obtain ⟨a1, a2⟩ := a
  obtain ⟨b1, b2⟩ := b
  unfold kk
  constructor
  · intro h
    injection h with h1 h2
    injection h2 with h2 _
    rw [show a1 = b1 from Sum.inl.inj h1, show a2 = b2 from Sum.inl.inj h2]
  · intro h; rw [h]
theorem kk_dec (a b : Int × Int) : decide (kk a = kk b) = decide (a = b) := decide_eq_decide.mpr kk_iff
theorem TR.nil : TR [] [] := rfl
theorem TR.length {kvs : List (List Key × V)} {x : DT2} (h : TR kvs x) : kvs.length = x.length := by rw [h]; unfold dtm; rw [List.length_map]
theorem TR.val {kvs : List (List Key × V)} {x : DT2} (h : TR kvs x) (k : Int × Int) : valV kvs (kk k) = (getT x k).map V.int := by
  rw [h]
  unfold valV getT dtm
  rw [List.find?_map, Option.map_map, Option.map_map]
  have : ((fun kv : List Key × V => decide (kv.1 = kk k)) ∘ fun p : (Int × Int) × Int => (kk p.1, V.int p.2)) = fun p => decide (p.1 = k) := by
    funext p; exact kk_dec _ _
  rw [this]
  rfl
theorem TR.put {kvs : List (List Key × V)} {x : DT2} (h : TR kvs x) (k : Int × Int) (v : Int) : TR (putK kvs (kk k) (.int v)) (putT x k v) := by
  have e1 : (kvs.any fun kv => decide (kv.1 = kk k)) = x.any fun p => decide (p.1 = k) := by
    rw [h]; unfold dtm
    rw [List.any_map]; congr 1; funext p; exact kk_dec _ _
  unfold TR putK putT
  rw [e1]
  split
  · rw [h]; unfold dtm
    rw [List.map_map, List.map_map]
    apply List.map_congr_left
    intro p _
    show (if kk p.1 = kk k then (kk p.1, V.int v) else (kk p.1, V.int p.2)) = (kk (if p.1 = k then (p.1, v) else p).1, V.int (if p.1 = k then (p.1, v) else p).2)
    by_cases e : p.1 = k
    · rw [if_pos (kk_iff.mpr e), if_pos e]
    · rw [if_neg (fun q => e (kk_iff.mp q)), if_neg e]
  · rw [h]; unfold dtm
    rw [List.map_append]; rfl
theorem TR.drop {kvs : List (List Key × V)} {x : DT2} (h : TR kvs x) (k : Int × Int) : TR (dropK kvs (kk k)) (dropT x k) := by
  unfold TR dropK dropT
  rw [h]; unfold dtm
  rw [List.filter_map]
  congr 1
  apply List.filter_congr
  intro p _
  show decide (kk p.1 ≠ kk k) = decide (p.1 ≠ k)
  exact decide_eq_decide.mpr (not_congr kk_iff)
section
variable {K : PySem.W.Frag} {σ σ' : L2.St} {S S1 H S0 H0 : Hp} {L L' : List Addr} {ta tb te tl : TE} {tu : TS} {Q : VK} {D : Ends} {v y : V} {l : Addr} {kvs : List (List Key × V)} {x : DT2} {p : Int × Int} {n : Int}
theorem tup_key (h : (qT2 (K := K) qI qI).R H v p) : ∃ b, v = .ref b ∧ H b = some (.tup ((kk p).map kV)) := by
  obtain ⟨a, w1, w2, rfl, h2, rfl, rfl⟩ := h
  exact ⟨a, rfl, h2⟩
theorem key_tup {b : Addr} (h : H b = some (.tup ((kk p).map kV))) : (qT2 (K := K) qI qI).R H (.ref b) p := ⟨b, _, _, rfl, h, rfl, rfl⟩
/-- a dict that is read -/
def DS (H : Hp) (v : V) (x : DT2) : Prop := ∃ a, v = .ref a ∧ Rd H a (.dT (dtm x))
/-- a dict that is only read -/
def RdD (L : List Addr) (S0 H0 : Hp) (v : V) (x : DT2) : Prop := ∃ a, v = .ref a ∧ H0 a = some (.dT (dtm x)) ∧ a ∉ L ∧ S0 a = none
/-- an object that is only read -/
def RdC (L : List Addr) (H0 : Hp) (a : Addr) (o : HO) : Prop := H0 a = some o ∧ a ∉ L
theorem RdC.h {o : HO} (q : RdC L H0 l o) (g : Grow L S0 H0 S H) : H l = some o := g.hh _ _ q.2 q.1
theorem RdC.to {o : HO} (q : RdC L H0 l o) (g : Grow L S0 H0 S H) (hL : ∀ a ∈ L', H0 a = none ∨ a ∈ L) : RdC L' H l o := ⟨q.h g, fun m => by
  rcases hL l m with z | z
  · rw [q.1] at z; cases z
  · exact q.2 z⟩
theorem RdC.ofC {o : HO} (c : Cel L H0 S H l o) (n : l ∉ L') : RdC L' H l o := ⟨c.h, n⟩
theorem RdD.ds (g : Grow L S0 H0 S H) (h : RdD L S0 H0 v x) : DS H v x := by
  obtain ⟨a, rfl, h1, h2, _⟩ := h
  exact ⟨a, rfl, .inl (g.hh _ _ h2 h1)⟩
theorem RdD.to (h : RdD L S0 H0 v x) (g : Grow L S0 H0 S H) (hL : ∀ a ∈ L', H0 a = none ∨ a ∈ L) : RdD L' S H v x := by
  obtain ⟨a, rfl, h1, h2, h3⟩ := h
  have q := (show RdC L H0 a _ from ⟨h1, h2⟩).to g hL
  exact ⟨a, rfl, q.1, q.2, g.fr _ _ h3 h1 rfl⟩
theorem RdD.ofC (c : Cel L H0 S H l (.dT kvs)) (r : TR kvs x) (n : l ∉ L') : RdD L' S H (.ref l) x := by
  subst r
  exact ⟨l, rfl, c.h, n, c.s⟩
theorem DS.cel (c : Cel L H0 S H l (.dT kvs)) (r : TR kvs x) : DS H (.ref l) x := by
  subst r
  exact ⟨l, rfl, .inl c.h⟩
theorem DS.celF {o : Obj} (c : Cel L H0 S H l (.frz o (.dT kvs))) (r : TR kvs x) : DS H (.ref l) x := by
  subst r
  exact ⟨l, rfl, .inr ⟨o, c.h⟩⟩
theorem DS.get (h : DS H v x) (hk : (qT2 (K := K) qI qI).R H y p) : ∃ a, v = .ref a ∧ DGet H a y ((getT x p).map V.int) := by
  obtain ⟨a, rfl, r⟩ := h
  obtain ⟨b, rfl, hb⟩ := tup_key hk
  exact ⟨a, rfl, .inr ⟨_, kk p, b, r, rfl, hb, (TR.val (kvs := dtm x) rfl p).symm⟩⟩
/-- d[k] -/
theorem v_getT (ha : Val ta σ H v) (hb : Val tb σ H y) (h : DS H v x) (hk : (qT2 (K := K) qI qI).R H y p) (e : getT x p = some n) : Val (tDGet ta tb) σ H (.int n) := fun Q q => by
  obtain ⟨a, rfl, g⟩ := h.get hk
  rw [e] at g
  exact ha _ (hb _ ⟨a, _, rfl, g, q⟩)
theorem e_getT (h : DS H v x) (hk : (qT2 (K := K) qI qI).R H y p) (e : getT x p = some n) (q : Q (.int n) H) : ∃ a w, v = .ref a ∧ DGet H a y (some w) ∧ Q w H := by
  obtain ⟨a, rfl, g⟩ := h.get hk
  rw [e] at g
  exact ⟨a, _, rfl, g, q⟩
/-- d.get(k, i) -/
theorem DS.isD (h : DS H v x) : ∃ a, v = .ref a ∧ IsD H a := by
  obtain ⟨a, rfl, r⟩ := h
  exact ⟨a, rfl, .inr ⟨_, r⟩⟩
theorem v_getTd {tx : TE} {m : Int} (ha : Val ta σ H v) (hb : Val tb σ H y) (hc : Val tx σ H (.int m)) (h : DS H v x) (hk : (qT2 (K := K) qI qI).R H y p) : Val (tDGet2 ta tb tx) σ H (.int ((getT x p).getD m)) := fun Q q => by
  obtain ⟨a, rfl, g⟩ := h.get hk
  refine ha _ ⟨a, rfl, ?_, hb _ (hc _ ⟨_, g, ?_⟩)⟩
  · obtain ⟨a', e, i⟩ := h.isD
    cases e; exact i
  · cases z : getT x p with
    | none => rw [z] at q; exact q
    | some w => rw [z] at q; exact q
theorem c_newdT (k : ∀ p H', Same H H' → H p = none → H' p = some (.dT []) → Q (.ref p) H') : tDNewT σ H Q := fun p hp => k p _ (same_upd hp) hp upd_same
theorem c_dtE (h : ∀ Q' : VK, Q' = Q → tDNewT σ H Q') : tDNewT σ H Q := h _ rfl
theorem c_setT (g : Grow L S0 H0 S H) (cl : Cel L H0 S H l (.dT kvs)) (r : TR kvs x) (ho : Val ta σ H (.ref l)) (hi : Val tb σ H y) (hk : (qT2 (K := K) qI qI).R H y p) (hz : x.length < 16777216)
    (k : ∀ kvs' H', Grow L S0 H0 S H' → Cel L H0 S H' l (.dT kvs') → TR kvs' (putT x p n) → (∀ l' o', l' ≠ l → Cel L H0 S H l' o' → Cel L H0 S H' l' o') → tu D σ H') : gSub ta tb rSetD (.int n) σ H (tu D) := by
  obtain ⟨b, rfl, hb⟩ := tup_key hk
  exact ho _ (hi _ ⟨l, _, rfl, DPut.t (k := kk p) cl.h hb (by rw [r.length]; show _ < sizeLine; rw [sizeLine_eq]; exact hz), k _ _ (g.wr cl rfl) (cl.wr rfl) (r.put p n) fun l' o' n c => c.wrn n⟩)
/-- d.pop(k), k there -/
def rPopT1 : V → List V → Hp → VK → Prop := fun x xs H Q => ∃ (a : Addr) (kvs : List (List L2.Key × V)) (k : List L2.Key) (b : Addr) (v : V), x = .ref a ∧ xs = [.ref b] ∧ H a = some (.dT kvs) ∧ H b = some (.tup (k.map kV)) ∧ valV kvs k = some v ∧ Q v (upd H a (.dT (dropK kvs k)))
theorem tyD (h : H l = some (.dT kvs)) : tyV K "dict" (.ref l) H := .inr (.inr (.inl ⟨rfl, .inr ⟨_, h⟩⟩))
theorem c_popT (g : Grow L S0 H0 S H) (cl : Cel L H0 S H l (.dT kvs)) (r : TR kvs x) (hk : (qT2 (K := K) qI qI).R H y p) (e : getT x p = some n)
    (k : ∀ kvs' H', Grow L S0 H0 S H' → Cel L H0 S H' l (.dT kvs') → TR kvs' (dropT x p) → (∀ l' o', l' ≠ l → Cel L H0 S H l' o' → Cel L H0 S H' l' o') → Q (.int n) H') : rPopT1 (.ref l) [y] H Q := by
  obtain ⟨b, rfl, hb⟩ := tup_key hk
  exact ⟨l, kvs, kk p, b, .int n, rfl, rfl, cl.h, hb, by rw [r.val, e]; rfl, k _ _ (g.wr cl rfl) (cl.wr rfl) (r.drop p) fun l' o' n c => c.wrn n⟩
end
end Z
namespace Z.DP
open PySem PySem.W PySem.Calls PyProof.Rows PyProof.V PySem.Spec
section
variable {κ : Type} [DecidableEq κ] {prog : Program} {w : World} {knd : HeapKind prog w κ} {A : Around} {E : Value → Shared → Prop} {s : Shared}
theorem meetsPop1 {d b : Addr} {k : κ} (hd : (d == sysModules) = false) :
    MeetsIn prog w (Builtin.«dict.pop» ⟨[.ref d, .ref b], []⟩) (fun A R s => ∃ xs p, knd.room A.in1 ∧ knd.is s.heap k b ∧ s.heap.DictOfH knd d xs ∧ xs.length ≤ sizeLine ∧
      atKey xs k = some p ∧ ∀ h' tk, h'.DictOfH knd d (DT.dropH xs k) → Heap.SameBut d s.heap h' → R (.ok (.ret p.2)) { s with heap := h', toks := tk }) :=
  .of_wp fun A R s ⟨xs, p, hu, hkey, hm, hsz, hp, hq⟩ => by
    obtain ⟨o, es, ep, ho, hc, hdat, he, his, hn⟩ := id hm
    have hes : es.size = xs.length := size_of_entries he
    have hpart : (keyPart (Value.ref b)).isSome = false := rfl
    unfold Builtin.«dict.pop»
    refine wpAny_bind ?_; unfold Builtin.Dict.keyAndDefault
    refine wpAny_bind (wpAny_notOrdered_dict hm.typeIs ?_)
    show wpAny _ _ (pure (d, Value.ref b, (none : Option Value))) _ _ s
    refine wpAny_pure ?_
    simp only [hpart, Bool.false_eq_true, if_false]
    refine wpAny_bind (wpAny_dictEntries ho hdat (wpAny_bind (wpAny_pure ?_)))
    have hem : es.isEmpty = false := by
      cases z : es.isEmpty with
      | false => rfl
      | true =>
        have z2 : es.size = 0 := by simpa using z
        have : xs = [] := List.length_eq_zero_iff.mp (by omega)
        rw [this] at hp; cases hp
    rw [hem]
    simp only [Bool.false_eq_true, if_false]
    refine wpAny_bind (DT.takeH hu hkey hm hsz (fun hno => ?_) fun p' e hp' hev h' hm' hs' => ?_)
    · rw [hp] at hno; cases hno
    · rw [hp] at hp'; cases hp'
      simp only [Option.isNone_some, Bool.false_eq_true, if_false]
      exact wpAny_bind (wpAny_letGo (wpAny_pure ⟨e.val, rfl, by rw [hev]; exact hq h' _ hm' hs'⟩))
end
end Z.DP
namespace Z
open PySem PySem.Spec PyProof.Rows L2 L2.DX
theorem mt_popT1 {X : Cx} (hu : X.A.units + 1 < cLine) : MtR X "dict.pop" rPopT1 := by
  intro pins s σ H x xs v us Q I rx rxs h
  obtain ⟨a, kvs, k, b, v0, rfl, rfl, ha, hb, hv, q⟩ := h
  cases rx
  obtain ⟨u1, rfl, r1⟩ := rxs.one
  cases r1
  obtain ⟨z, hd, xs', rel, dd⟩ := dt_of I.hok ha
  have hz : xs'.length ≤ sizeLine := by rw [← Paired.length rel]; exact z
  have r := rel.val k
  rw [hv] at r
  cases ep : atKey xs' k with
  | none => rw [ep] at r; exact (show False from r).elim
  | some p =>
    rw [ep] at r
    refine call_meetsIn F.slot_dict_pop dd.typeIs F.entry_dict_pop (F.args_dict_pop_2 _ _) (Z.DP.meetsPop1 (knd := tupleKind (mixKind X.prog X.w)) (k := k) hd)
      ⟨xs', p, tupleKind_room_in1 hu, key_of I.hok hb, dd, hz, ep, fun h' tk dd' hs => ?_⟩
    obtain ⟨o, es, ep', hq, h2, h3, h4, _, h5⟩ := dd'
    have I2 : Inv X pins σ (upd H a (.dT (dropK kvs k))) { s with heap := h', toks := tk } := d_write I (by rw [ha]; exact True.intro) hs ⟨o, hq⟩ ⟨Nat.le_trans (dropK_le kvs k) z, hd, _, (KT_drop k rel).keeps (fun c ys ec => by
      rw [upd_ne (ne_of ec ha (fun z => nomatch z))]; exact ec), o, es, ep', hq, h2, h3, h4, h5⟩
    show EP X pins σ Q p.2 _
    exact ⟨v0, _, I2, r, q⟩
end Z

namespace Z
open PySem PySem.Spec PyProof.Rows L2
/-! ### for k, v in d.items(), the dict locked, its keys tuples -/
section
variable {X : Cx} {pins : List (Addr × Obj)} {σ : L2.St} {H : Hp} {s : Shared} {d : Addr} {o : Obj} {kvs : List (List Key × V)}
theorem frzTV (I : Inv X pins σ H s) (h : H d = some (.frz o (.dT kvs))) :
    (d == sysModules) = false ∧ s.heap.get? d = some o ∧ o.ExactDict ∧ ∃ (es : Array DictEntry) (ep : Nat), o.data = .dict es ep ∧ es.size = kvs.length ∧
      ∀ (i : Nat) (k : List Key) (v : V), kvs[i]? = some (k, v) → ∃ (en : DictEntry) (q : Addr), es[i]? = some en ∧ en.key = .ref q ∧ H q = some (.tup (k.map kV)) ∧ RelV v en.val := by
  obtain ⟨hd, z, hs, xs, pr, o', es, ep, ho, hx, hdt, he, _⟩ := I.hok d _ h
  rw [hd] at ho; cases ho
  have l1 : es.size = xs.length := size_of_entries he
  have l2 : kvs.length = xs.length := Paired.length pr
  refine ⟨hs, hd, hx, es, ep, hdt, by omega, fun i k v e => ?_⟩
  obtain ⟨b, hb, e1, e2, e3⟩ := L2.paired_get pr e
  have q := entry_at he i
  rw [hb] at q
  exact ⟨_, b.2.1, q, rfl, e2, e3⟩
def Itit (d : Addr) (o : Obj) (kvs : List (List Key × V)) : It :=
  ⟨fun i H => H d = some (.frz o (.dT kvs)) ∧ i < kvs.length, fun i H x H' => ∃ (T q : Addr) (k : List Key) (v : V), kvs[i]? = some (k, v) ∧ x = .ref T ∧ H T = none ∧ H q = some (.tup (k.map kV)) ∧ H' = upd H T (.tup [.ref q, v]), fun i H => H d = some (.frz o (.dT kvs)) ∧ kvs.length ≤ i⟩
theorem turn_itemsT {P : Program} {w : World} {K : PySem.W.Frag} {es : Array DictEntry} {ep : Nat} {elts : List Expr} {kk : Nat} {tpos : Pos} (it : Addr) (hod : o.data = .dict es ep) :
    Turn P w K (.Tuple elts kk tpos) (Itit d o kvs) [it] it (fun i h => ∃ ok ov, IsItemIter h it d i kvs.length ep ok ov) where
  mem := by simp
  obj := fun i h st b hb => by
    cases (show b = it by simpa using hb)
    obtain ⟨ok, ov, e⟩ := st
    exact ⟨_, e, fun v z => nomatch z⟩
  keep := fun i h h' st k => let ⟨ok, ov, e⟩ := st; ⟨ok, ov, k it (by simp) _ e⟩
  item := by
    intro X hP hw hK hc i pins s σ H E I hf st hg; subst hP hw hK
    obtain ⟨hd, hi⟩ := hg
    obtain ⟨hs, hgd, hx, es', ep', hdt, hsz, ent⟩ := frzTV I hd
    obtain ⟨rfl, rfl⟩ := dict_ep hod hdt
    obtain ⟨⟨k, v⟩, hkv⟩ : ∃ p, kvs[i]? = some p := ⟨kvs[i], List.getElem?_eq_getElem hi⟩
    obtain ⟨en, q, hen, hkey, hq, rv⟩ := ent i k v hkv
    obtain ⟨ok, ov, he⟩ := st
    have hlt : it < s.heap.objs.size := Heap.lt_size he
    have hie : i < es'.size := by omega
    have hen' : es'[i] = en := by
      have := Array.getElem?_eq_getElem hie
      rw [hen] at this; exact (Option.some.inj this).symm
    rw [← hsz] at he
    refine DT.nextI he ⟨o, hgd, hx, hod⟩ hie fun h' ho hT hz hk => ?_
    rw [hen', hkey] at hT ho
    refine ⟨_, rfl, wpAny_letOwnedTupleGo_items (s := { s with heap := h' }) ho fun h'' he' sb => ?_⟩
    have hT2 : h''.get? s.heap.objs.size = some { cls := .type "tuple", data := .seq #[.ref q, en.val] } := (sb.2 _ (Nat.ne_of_gt hlt)).trans hT
    have new : ObjOk X.prog X.w (upd H s.heap.objs.size (.tup [.ref q, v])) h'' s.heap.objs.size (.tup [.ref q, v]) := ⟨by show 2 ≤ sizeLine; decide, [.ref q, en.val], .cons rfl (.cons rv .nil), ⟨_, hT2, rfl, _, rfl⟩⟩
    have I1 : Inv X pins σ (upd H s.heap.objs.size (.tup [.ref q, v])) { s with heap := h'' } :=
      I.turnedNew (t' := s.toks) (ch := [it]) (fun b ob hb e => (sb.2 b (by simpa using hb)).trans (hk b ob (by simpa using hb) e)) hf (Nat.le_refl _) new
    refine ⟨.ref s.heap.objs.size, _, I1, rfl, ⟨_, q, k, v, hkv, rfl, I.hok.fresh (Nat.le_refl _), hq, rfl⟩, ⟨.ref q, en.val, ?_⟩, fun b hb => ?_⟩
    · rw [← hsz]; exact he'
    · cases (show b = it by simpa using hb)
      rw [upd_ne (Nat.ne_of_lt hlt)]; exact (hf it (by simp)).1
  done := by
    intro X hP hw hK hc i pins s σ H E I hf st hg; subst hP hw hK
    obtain ⟨hd, hi⟩ := hg
    obtain ⟨hs, hgd, hx, es', ep', hdt, hsz, ent⟩ := frzTV I hd
    obtain ⟨rfl, rfl⟩ := dict_ep hod hdt
    obtain ⟨f0, f1, f2, f3, f4, f5⟩ := hf it (by simp)
    obtain ⟨ok, ov, he⟩ := st
    rw [← hsz] at he
    exact DT.endI (I.ok.hd hc) he ⟨o, hgd, hx, hod⟩ (by omega) fun h' eb => ⟨rfl, I.turned (t' := s.toks) (fun b ob hb e => eb b ob hb e) f0 f1 f3 f4 f5⟩
  self := fun A i s Q E st h => let ⟨_, _, e⟩ := st; PySem.W.kcp_self e h
def iItemsT (td : TE) : TI := fun σ H R => td σ H fun x H1 => ∃ d o kvs, x = .ref d ∧ H1 d = some (.frz o (.dT kvs)) ∧ R (Itit d o kvs) H1
theorem pi_itemsT {e : Expr} {td : TE} {apos cpos tpos : Pos} {elts : List Expr} {kk : Nat} (he : PE X e td) (hbase : attributeBase e "items" X.env (eval e X.env) = eval e X.env := by rfl) (hline : (apos.endLine == cpos.line) = true := by rfl) :
    PI X (.Tuple elts kk tpos) (.Call (.Attribute e "items" apos) [] [] cpos) (iItemsT td) := by
  refine ⟨fun pins s σ H R I h => ?_⟩
  refine wpAny_Call_method (T := "dict") (id := "dict.items") hbase rfl hline F.plainAttrs_dict F.slot_dict_items F.type_dict_items (thn (he.run pins s σ H _ I h) fun u s1 ⟨x, H1, I1, rx, d, o, kvs, ex, hd, q⟩ => ?_)
  subst ex
  cases (show u = Value.ref d from rx)
  obtain ⟨hs, hgd, hx, es, ep, hdt, hsz, ent⟩ := frzTV I1 hd
  have raw : DT.Raw s1.heap d es ep := ⟨o, hgd, hx, hdt⟩
  refine ⟨raw.typeIs, fun a ea => by
    cases ea
    exact ⟨o, hgd, hx.2.1⟩, ?_⟩
  have I2 : Inv X pins σ H1 { s1 with heap := s1.heap.push { cls := .type "dict_items", data := .fields #[.ref d] } } := I1.kept (t' := s1.toks) fun b ob q => Heap.get?_push_of_some _ q
  have fin : wpAny (model X.prog X.w) X.A (pyIter (.ref s1.heap.objs.size)) (PIE X pins σ (.Tuple elts kk tpos) R) X.xe { s1 with heap := s1.heap.push { cls := .type "dict_items", data := .fields #[.ref d] } } := by
    refine DT.iterI (d := d) ⟨_, Heap.get?_push_size _ rfl, rfl, rfl⟩ (raw.push _) (pi_one (tk := s1.toks) I2 _ (turn_itemsT _ hdt) ⟨.none, .none, ?_⟩ q)
    rw [hsz]; exact Heap.get?_push_size _ rfl
  show wpAny _ _ (callWith cpos (.builtin "dict.items") [.ref d] [] []) _ X.xe s1
  exact method_meetsIn F.slot_dict_items F.entry_dict_items rfl (PySem.evalArgs_none ⟨rfl, raw.typeIs, F.args_dict_items_1 _, _, DT.meetsItems (es := es) (ep := ep) hs, ⟨raw, fin⟩⟩)
end
end Z

namespace Z
open PySem PySem.Spec PyProof.Rows L2
section
variable {K : PySem.W.Frag} {σ σ' : L2.St} {S S1 H S0 H0 : Hp} {L L' : List Addr} {ta tb te tl td : TE} {tu t : TS} {Q : VK} {D : Ends} {v y : V} {l : Addr} {kvs : List (List Key × V)} {x : DT2} {p : Int × Int} {n : Int} {g : TG}
/-- the ends within a lock -/
def LkE (D : Ends) (l : Addr) (od : Obj) (u : HO) : Ends := ⟨fun σ' H' => H' l = some (.frz od u) ∧ D.nx σ' (upd H' l u), fun v H' => H' l = some (.frz od u) ∧ D.rt v (upd H' l u), fun σ' H' => H' l = some (.frz od u) ∧ D.bk σ' (upd H' l u), fun σ' H' => H' l = some (.frz od u) ∧ D.ct σ' (upd H' l u)⟩
theorem z_lockD (gr : Grow L S0 H0 S H) (cl : Cel L H0 S H l (.dT kvs)) (k : ∀ od Hl, Grow L S0 H0 S Hl → Cel L H0 S Hl l (.frz od (.dT kvs)) → (∀ l' o', l' ≠ l → Cel L H0 S H l' o' → Cel L H0 S Hl l' o') → t (LkE { D with nx := tu D } l od (.dT kvs)) σ Hl) : tSeq (tLock t) tu D σ H :=
  ⟨l, _, cl.h, True.intro, fun od => k od _ (gr.wr cl rfl) (cl.wr rfl) fun l' o' n c => c.wrn n⟩
theorem unlk {P : Hp → Prop} {od : Obj} (gr : Grow L S0 H0 S H) (cl : Cel L H0 S H l (.frz od (.dT kvs))) (k : ∀ H2, Grow L S0 H0 S H2 → Cel L H0 S H2 l (.dT kvs) → (∀ l' o', l' ≠ l → Cel L H0 S H l' o' → Cel L H0 S H2 l' o') → P H2) : H l = some (.frz od (.dT kvs)) ∧ P (upd H l (.dT kvs)) :=
  ⟨cl.h, k _ (gr.wr cl rfl) (cl.wr rfl) fun l' o' n c => c.wrn n⟩
theorem dtm_get {x : DT2} {i : Nat} {k : List Key} {v : V} (h : (dtm x)[i]? = some (k, v)) : ∃ e, x[i]? = some e ∧ k = Z.kk e.1 ∧ v = .int e.2 := by
  unfold dtm at h
  rw [List.getElem?_map] at h
  cases e : x[i]? with
  | none => rw [e] at h; cases h
  | some q => rw [e] at h; cases h; exact ⟨q, rfl, rfl, rfl⟩
theorem keysT_len {x : DT2} : (keysT x).length = x.length := List.length_map _
theorem keysT_at {x : DT2} {i : Nat} {h : i < (keysT x).length} : (keysT x)[i] = (x[i]'(by rw [keysT_len] at h; exact h)).1 := List.getElem_map _
theorem dtm_len {x : DT2} : (dtm x).length = x.length := by unfold dtm; rw [List.length_map]
theorem z_forD {tb : TS} {od : Obj} (ha : Val td σ H (.ref l)) (r : TR kvs x) (Pv : List (Int × Int) → L2.St → Hp → Prop) (h0 : Pv (keysT x) σ H) (hl : ∀ ys σ' H', Pv ys σ' H' → H' l = some (.frz od (.dT kvs)))
    (hs : ∀ w y ys σ' H', (qT2 (K := K) qI qI).R H' w y → Pv (y :: ys) σ' H' → ∀ N : L2.St → Hp → Prop, (∀ σ'' H'', Pv ys σ'' H'' → N σ'' H'') → g w σ' H' fun σ2 H2 => tb { D with nx := N, ct := N, bk := D.nx } σ2 H2) (hd : ∀ σ' H', Pv [] σ' H' → D.nx σ' H') :
    tFor (iKeys td) g tb D σ H := by
  subst r
  refine ha _ ⟨l, od, rfl, .inr ⟨dtm x, hl _ _ _ h0, fun i m σ H => m = x.length - i ∧ i ≤ x.length ∧ Pv ((keysT x).drop i) σ H, ⟨_, rfl, Nat.zero_le _, h0⟩, fun i m σ' H' w => ?_⟩⟩
  obtain ⟨hm, hi, pv⟩ := w
  by_cases e : i < x.length
  · refine .inr ⟨⟨hl _ _ _ pv, by rw [dtm_len]; exact e⟩, fun σ' H' => ∃ m', m' < m ∧ m' = x.length - (i + 1) ∧ i + 1 ≤ x.length ∧ Pv ((keysT x).drop (i + 1)) σ' H', fun σ' H' q => q, fun w H2 yl => ?_⟩
    obtain ⟨rfl, k, v, q, hk, rfl, hq⟩ := yl
    obtain ⟨e1, h1, rfl, rfl⟩ := dtm_get hk
    have hx : (keysT x).drop i = e1.1 :: (keysT x).drop (i + 1) := by
      rw [List.drop_eq_getElem_cons (by rw [keysT_len]; exact e), keysT_at]
      have := List.getElem?_eq_getElem e
      rw [h1] at this
      rw [← Option.some.inj this]
    rw [hx] at pv
    exact hs _ _ _ _ _ (key_tup hq) pv _ fun σ'' H'' z => ⟨_, by omega, rfl, e, z⟩
  · have : i = x.length := by omega
    subst this
    rw [← keysT_len, List.drop_length] at pv
    exact .inl ⟨⟨hl _ _ _ pv, by rw [dtm_len]; exact Nat.le_refl _⟩, hd _ _ pv⟩
theorem z_forDI {tb : TS} {od : Obj} (ha : Val td σ H (.ref l)) (r : TR kvs x) (Pv : DT2 → L2.St → Hp → Prop) (h0 : Pv x σ H) (hl : ∀ ys σ' H', Pv ys σ' H' → H' l = some (.frz od (.dT kvs)))
    (hs : ∀ w y ys σ' H', (qT2 (K := K) qI qI).R H' w y.1 → Pv (y :: ys) σ' H' → ∀ N : L2.St → Hp → Prop, (∀ σ'' H'', Pv ys σ'' H'' → N σ'' H'') → ∀ T, H' T = none → g (.ref T) σ' (upd H' T (.tup [w, .int y.2])) fun σ2 H2 => tb { D with nx := N, ct := N, bk := D.nx } σ2 H2) (hd : ∀ σ' H', Pv [] σ' H' → D.nx σ' H') :
    tFor (iItemsT td) g tb D σ H := by
  subst r
  refine ha _ ⟨l, od, dtm x, rfl, hl _ _ _ h0, fun i m σ H => m = x.length - i ∧ i ≤ x.length ∧ Pv (x.drop i) σ H, ⟨_, rfl, Nat.zero_le _, h0⟩, fun i m σ' H' w => ?_⟩
  obtain ⟨hm, hi, pv⟩ := w
  by_cases e : i < x.length
  · refine .inr ⟨⟨hl _ _ _ pv, by rw [dtm_len]; exact e⟩, fun σ' H' => ∃ m', m' < m ∧ m' = x.length - (i + 1) ∧ i + 1 ≤ x.length ∧ Pv (x.drop (i + 1)) σ' H', fun σ' H' q => q, fun w H2 yl => ?_⟩
    obtain ⟨T, q, k, v, hk, rfl, hT, hq, rfl⟩ := yl
    obtain ⟨e1, h1, rfl, rfl⟩ := dtm_get hk
    have hx : x.drop i = e1 :: x.drop (i + 1) := by
      rw [List.drop_eq_getElem_cons e]
      have := List.getElem?_eq_getElem e
      rw [h1] at this
      rw [← Option.some.inj this]
    rw [hx] at pv
    exact hs _ _ _ _ _ (key_tup hq) pv _ (fun σ'' H'' z => ⟨_, by omega, rfl, e, z⟩) T hT
  · have : i = x.length := by omega
    subst this
    rw [List.drop_length] at pv
    exact .inl ⟨⟨hl _ _ _ pv, by rw [dtm_len]; exact Nat.le_refl _⟩, hd _ _ pv⟩
/-! ### [k for k in d if ..] -/
theorem c_lcD {β : Type} {τ : Rep K β} {tt : TT} {f : Int × Int → Option (Option β)} {ys : List β} {j : Nat} (sh : Shal τ) (hH : H l = some (.dT (dtm x))) (hS : S l = none) (e : Same S H)
    (ha : ∀ od, Val td σ (upd H l (.frz od (.dT (dtm x)))) (.ref l)) (h : compO f (keysT x) = some ys)
    (turn : ∀ w q H', (qT2 (K := K) qI qI).R H' w q → (∀ a o, a ≠ l → H a = some o → H' a = some o) → DS H' (.ref l) x → ∀ r, f q = some r → ∃ b, Ans tt (σ.set j (some w)) H' b ∧ (b = true → ∃ v y, r = some y ∧ Val te (σ.set j (some w)) H' v ∧ τ.R H' v y) ∧ (b = false → r = none))
    (k : ∀ P ws S1 H1, Grow [] S H S1 H1 → H P = none → H1 P = some (.lst ws) → S1 P = none → RL τ S1 ws ys → Q (.ref P) H1) : tLockE (tLc (iKeys td) (gName j) tt te [j]) σ H Q := by
  refine ⟨l, _, hH, True.intro, fun od => ha od _ ⟨l, od, rfl, .inr ⟨dtm x, upd_same, fun P hP => ?_⟩⟩⟩
  obtain ⟨hz, hc⟩ := compO_some h
  rw [keysT_len] at hz
  have nP : P ≠ l := fun q => by subst q; rw [upd_same] at hP; cases hP
  have hPH : H P = none := by rw [upd_ne nP] at hP; exact hP
  have eL : Same S (upd H l (.frz od (.dT (dtm x)))) := fun a o q => by
    have : a ≠ l := fun z => by subst z; rw [hS] at q; cases q
    rw [upd_ne this]; exact e a o q
  refine ⟨fun i m H' => m = x.length - i ∧ i ≤ x.length ∧ ∃ T acc ys1 ys2, Grow [] S (upd H l (.frz od (.dT (dtm x)))) T H' ∧ Cel [] (upd H l (.frz od (.dT (dtm x)))) T H' P (.lst acc) ∧ RL τ T acc ys1 ∧ compO' f ((keysT x).drop i) = some ys2 ∧ ys1 ++ ys2 = ys ∧ acc.length + (x.length - i) ≤ 16777216, ⟨_, rfl, Nat.zero_le _, S, [], [], ys, (Grow.refl eL).ext (same_upd hP), Cel.own (Grow.refl eL) (same_upd hP) hP upd_same rfl, .nil, hc, rfl, by simpa using hz⟩, fun i m H' w => ?_⟩
  obtain ⟨hm, hi, T, acc, ys1, ys2, g, c, r, h1, h2, h3⟩ := w
  have hl' : H' l = some (.frz od (.dT (dtm x))) := g.hh _ _ (fun z => nomatch z) upd_same
  by_cases ei : i < x.length
  · refine .inr ⟨⟨hl', by rw [dtm_len]; exact ei⟩, fun H'' => ∃ m', m' < m ∧ m' = x.length - (i + 1) ∧ i + 1 ≤ x.length ∧ ∃ T acc ys1 ys2, Grow [] S (upd H l (.frz od (.dT (dtm x)))) T H'' ∧ Cel [] (upd H l (.frz od (.dT (dtm x)))) T H'' P (.lst acc) ∧ RL τ T acc ys1 ∧ compO' f ((keysT x).drop (i + 1)) = some ys2 ∧ ys1 ++ ys2 = ys ∧ acc.length + (x.length - (i + 1)) ≤ 16777216, fun H'' q => q, fun w H2 yl => ?_⟩
    obtain ⟨rfl, kx, v, q, hk, rfl, hq⟩ := yl
    obtain ⟨e1, h5, rfl, rfl⟩ := dtm_get hk
    have hx : (keysT x).drop i = e1.1 :: (keysT x).drop (i + 1) := by
      rw [List.drop_eq_getElem_cons (by rw [keysT_len]; exact ei), keysT_at]
      have := List.getElem?_eq_getElem ei
      rw [h5] at this
      rw [← Option.some.inj this]
    rw [hx] at h1
    unfold compO' at h1
    obtain ⟨rr, hr, h1⟩ := bind_some h1
    obtain ⟨ys3, hr3, h1⟩ := bind_some h1
    have h1 : consO rr ys3 = ys2 := Option.some.inj h1
    obtain ⟨b, hA, ht, hn⟩ := turn (.ref q) e1.1 H2 (key_tup hq) (fun a o na ea => g.hh _ _ (fun z => nomatch z) (by rw [upd_ne na]; exact ea)) ⟨l, rfl, .inr ⟨od, hl'⟩⟩ rr hr
    have e3 : (wipe σ [j]).set j (some (.ref q)) = σ.set j (some (.ref q)) := by rw [wipe_one, List.set_set]
    refine g_name e3 ⟨by rw [← e3]; exact wipe_again j _, hA _ ?_⟩
    cases b with
    | true =>
      obtain ⟨v, y, rfl, hv, hR⟩ := ht rfl
      obtain ⟨T2, g2, hR2⟩ := sh g.sh hR
      have g3 := g.call0 g2
      have c3 := c.call0 g2
      refine (show (if true = true then _ else _) from hv _ ⟨acc, c.h, by rw [sizeLine_eq]; omega, _, by omega, rfl, ei, T2, acc ++ [v], ys1 ++ [y], ys3, g3.wr c3 rfl, c3.wr rfl, (RL.mono g2.ss r).app (.cons hR2 .nil), hr3, ?_, ?_⟩)
      · rw [← h2, ← h1, List.append_assoc]; rfl
      · rw [List.length_append, List.length_singleton]; omega
    | false =>
      have hn := hn rfl
      subst hn
      refine (show (if false = true then _ else _) from ⟨_, by omega, rfl, ei, T, acc, ys1, ys3, g, c, r, hr3, ?_, by omega⟩)
      rw [← h2, ← h1]; rfl
  · have : i = x.length := by omega
    subst this
    rw [← keysT_len, List.drop_length] at h1
    have : ys2 = [] := (Option.some.inj h1).symm
    subst this
    rw [List.append_nil] at h2
    subst h2
    refine .inl ⟨⟨hl', by rw [dtm_len]; exact Nat.le_refl _⟩, hl', ?_⟩
    have hTl : T l = none := g.fr _ _ hS upd_same rfl
    refine k P acc T _ ⟨g.ss, fun a o q => ?_, fun a o _ q => ?_, fun a o q1 q2 q3 => ?_, fun a o q => ?_⟩ hPH (by rw [upd_ne nP]; exact c.h) c.s r
    · have : a ≠ l := fun z => by subst z; rw [hTl] at q; cases q
      rw [upd_ne this]; exact g.sh _ _ q
    · by_cases z : a = l
      · subst z; rw [hH] at q; cases q; exact upd_same
      · rw [upd_ne z]; exact g.hh _ _ (fun z => nomatch z) (by rw [upd_ne z]; exact q)
    · by_cases z : a = l
      · subst z; exact hTl
      · exact g.fr _ _ q1 (by rw [upd_ne z]; exact q2) q3
    · by_cases z : a = l
      · subst z; rw [hH] at q; cases q; exact ⟨_, upd_same, fun _ => rfl⟩
      · rw [upd_ne z]; exact g.ne _ _ (by rw [upd_ne z]; exact q)
end
end Z

namespace Z
open PySem PySem.Spec PyProof.Rows PySem.Calls PySem.W PyProof.V
section
variable {prog : Program} {w : World} {A : Around} {E : Value → Shared → Prop} {s : Shared} {T : String} {r d : Addr} {n : Nat} {P : Nat → Value → Prop} {OK : Heap → Prop}
theorem collectZ {R : List Value → Shared → Prop} (Kd : KdlSrc prog w T r d n P OK) (hh : A.handled = none) (hok : OK s.heap) (hn : n ≤ sizeLine)
    (h : ∀ (h' : Heap) (tk : Nat) (acc : Array Value), (∀ b o, s.heap.get? b = some o → h'.get? b = some o) → s.heap.objs.size < h'.objs.size → ItemsOf P acc n → R acc.toList { s with heap := h', toks := tk }) : wpAny (model prog w) A (collect (.ref r)) R E s := by
  have hlt := Kd.there _ hok
  unfold collect; refine wpAny_bind (wpAny_runValue (codeAny_builtin entry_proto_collect' ?_)); rw [Around.under_plainId PySem.F.plain_proto_collect _]
  show wpAny _ A.in1 (newList [] >>= fun l => again (.builtin "list.__iadd__" ⟨[l, .ref r], []⟩)) _ _ s; refine wpAny_bind (wpAny_newObj_type ?_)
  refine wpAny_pure ⟨plainId_quiet PySem.F.plain_list_iadd _, codeAny_builtin entry_list_iadd' ?_⟩; rw [Around.under_plainId PySem.F.plain_list_iadd _]
  have hS1 : (s.heap.push { cls := .type "list", data := .seq ([] : List Value).toArray }).get? s.heap.objs.size = some { cls := .type "list", data := .seq #[] } := Heap.get?_push_size _ rfl
  show wpAny _ A.in1 (Builtin.List.listExtendWith (.ref s.heap.objs.size) (.ref r) (.ref s.heap.objs.size)) _ _ _
  refine wpAny_mono (kdl_extend (A := A) (s := { s with heap := s.heap.push { cls := .type "list", data := .seq ([] : List Value).toArray } })
    (R := fun (q : Result) (s' : Shared) => ∃ (h' : Heap) (tk : Nat) (acc : Array Value) (c : Nat), q = .ok (.ret (.ref s.heap.objs.size)) ∧ s' = { s with heap := h', toks := tk } ∧ (∀ b o, s.heap.get? b = some o → h'.get? b = some o) ∧ h'.get? s.heap.objs.size = some { cls := .type "list", dict := none, data := .seq acc c, slots := #[] } ∧ ItemsOf P acc n)
    Kd hh (Kd.keep _ _ hok fun b _ o e => Heap.get?_push_of_some _ e) s.heap.objs.size (Nat.ne_of_gt hlt.1) (Nat.ne_of_gt hlt.2) (.ref s.heap.objs.size) 0 hS1
    (fun h' tk acc c hk hS' hacc => ⟨h', tk, acc, c, rfl, rfl, fun b o e => hk b o (Nat.ne_of_lt (Heap.lt_size e)) (Heap.get?_push_of_some _ e), hS', hacc⟩) hn) (fun fn s' x => ?_) fun e s' x => ?_
  · cases fn with
    | done f =>
      obtain ⟨h', tk, acc, c, e, rfl, hk, hS', hacc⟩ := x; cases e
      show wpAny _ A (load s.heap.objs.size >>= _) _ _ _; exact wpAny_bind (wpAny_load hS' (wpAny_pure (h h' tk acc hk (Heap.lt_size hS') hacc)))
    | again c1 =>
      refine ⟨x.1, codeAny_mono x.2 fun q s2 y => ?_⟩
      obtain ⟨h', tk, acc, c, rfl, rfl, hk, hS', hacc⟩ := y
      show wpAny _ A (load s.heap.objs.size >>= _) _ _ _; exact wpAny_bind (wpAny_load hS' (wpAny_pure (h h' tk acc hk (Heap.lt_size hS') hacc)))
  · obtain ⟨_, _, _, _, e', _⟩ := x
    cases e'
end
end Z
namespace Z
open PySem PySem.Spec PyProof.Rows L2 PySem.Calls
/-! ### sorted(d), list(d): keys pairs of ints -/
def KeyV (H : Hp) (u : Value) (p : Int × Int) : Prop := ∃ b, u = Value.ref b ∧ H b = some (.tup ((Z.kk p).map kV))
theorem keysOf {X : Cx} {pins : List (Addr × Obj)} {σ : L2.St} {H : Hp} {s : Shared} {x : DT2} {xs : List (List Key × Addr × Value)} {es : Array DictEntry} {us : List Value} (rel : KT H (dtm x) xs) (he : es.toList = xs.map (entryOfKey (tupleKind (mixKind X.prog X.w))))
    (hl : us.length = xs.length) (hu : ∀ (i : Nat) (v : Value), us[i]? = some v → ∃ en : DictEntry, es[i]? = some en ∧ v = en.key) : Paired (KeyV H) us (keysT x) := by
  have e1 : us = xs.map fun q => Value.ref q.2.1 := by
    apply List.ext_getElem?
    intro j
    rw [List.getElem?_map]
    cases hj : us[j]? with
    | none => rw [List.getElem?_eq_none (by have := List.getElem?_eq_none_iff.mp hj; omega)]; rfl
    | some v =>
      obtain ⟨en, hen, hv⟩ := hu j v hj
      have qe := entry_at he j
      rw [hen] at qe
      cases hb : xs[j]? with
      | none => rw [hb] at qe; exact nomatch (show some en = none from qe)
      | some b => rw [hb] at qe; rw [hv, Option.some.inj qe]; rfl
  subst e1
  clear hu he hl
  have all : ∀ {d : List (List Key × V)} {m : List (List Key × Addr × Value)}, KT H d m → ∀ y : DT2, d = dtm y → Paired (KeyV H) (m.map fun q => Value.ref q.2.1) (keysT y) := by
    intro d m r
    induction r with
    | nil =>
      intro y ey
      cases y with
      | nil => exact .nil
      | cons _ _ => cases ey
    | cons h t ih =>
      intro y ey
      cases y with
      | nil => cases ey
      | cons e y =>
        injection ey with e1 e2
        refine .cons ⟨_, rfl, ?_⟩ (ih y e2)
        have := h.2.1
        rw [e1] at this; exact this
  exact all rel x rfl
theorem KeyV.uniq {H : Hp} {u : Value} {p q : Int × Int} (h : KeyV H u p) (g : KeyV H u q) : p = q := by
  obtain ⟨b, rfl, h1⟩ := h
  obtain ⟨b', e, h2⟩ := g
  cases e
  rw [h1] at h2
  obtain ⟨p1, p2⟩ := p
  obtain ⟨q1, q2⟩ := q
  unfold kk at h2
  cases h2; rfl
def pairV (H : Hp) (u : Value) : Int × Int := pairAt H (backV u)
theorem KeyV.pair {H : Hp} {u : Value} {p : Int × Int} {K : PySem.W.Frag} (h : KeyV H u p) : pairV H u = p := by
  obtain ⟨b, rfl, h1⟩ := h
  exact pairAt_of (K := K) (key_tup h1)
def rSortedDT (K : PySem.W.Frag) : List V → Hp → VK → Prop := fun vs H Q => ∃ (a : Addr) (x : DT2), vs = [V.ref a] ∧ H a = some (.dT (dtm x)) ∧ ∀ (ws : List V) (p : Addr), RL (qT2 (K := K) qI qI) H ws (sortP (keysT x)) → H p = none → Q (.ref p) (upd H p (.lst ws))
theorem keyV_rl {K : PySem.W.Frag} {H : Hp} : ∀ {us : List Value} {ps : List (Int × Int)}, Paired (KeyV H) us ps → RL (qT2 (K := K) qI qI) H (us.map backV) ps ∧ Vals (us.map backV) us
  | _, _, .nil => ⟨.nil, .nil⟩
  | _, _, .cons h t => by
    obtain ⟨b, rfl, h1⟩ := h
    obtain ⟨a1, a2⟩ := keyV_rl (K := K) t
    exact ⟨.cons (key_tup h1) a1, .cons rfl a2⟩
theorem keyV_map {K : PySem.W.Frag} {H : Hp} : ∀ {us : List Value} {ps : List (Int × Int)}, Paired (KeyV H) us ps → us.map (pairV H) = ps
  | _, _, .nil => rfl
  | _, _, .cons h t => by rw [List.map_cons, keyV_map (K := K) t, KeyV.pair (K := K) h]
theorem keyV_perm {H : Hp} {us out : List Value} {ps : List (Int × Int)} (h : Paired (KeyV H) us ps) (hp : out.Perm us) : ∃ qs, Paired (KeyV H) out qs ∧ qs.Perm ps := by
  induction hp generalizing ps with
  | nil => cases h; exact ⟨[], .nil, List.Perm.nil⟩
  | cons x _ ih =>
    cases h with
    | cons a b =>
      obtain ⟨qs, h1, h2⟩ := ih b
      exact ⟨_ :: qs, .cons a h1, h2.cons _⟩
  | swap x y l =>
    cases h with
    | cons a b =>
      cases b with
      | cons c d => exact ⟨_, .cons c (.cons a d), List.Perm.swap _ _ _⟩
  | trans _ _ ih1 ih2 =>
    obtain ⟨qs, h1, h2⟩ := ih2 h
    obtain ⟨rs, h3, h4⟩ := ih1 h1
    exact ⟨rs, h3, h4.trans h2⟩
theorem pairAtHeap {X : Cx} {pins : List (Addr × Obj)} {σ : L2.St} {H : Hp} {s : Shared} {v : Value} {p : Int × Int} (I : Inv X pins σ H s) (h : KeyV H v p) : Srt.IsPair s.heap v p.1 p.2 := by
  obtain ⟨b, rfl, hb⟩ := h
  obtain ⟨_, its2, r2, oo, ho2, hc2, n2, hd2⟩ := (show ObjOk X.prog X.w H s.heap b (.tup ((Z.kk p).map kV)) from I.hok b _ hb)
  obtain ⟨u1, u2, rfl, ri, rj⟩ := vals2 r2
  obtain ⟨t1, rfl⟩ := ri
  obtain ⟨t2, rfl⟩ := rj
  exact ⟨b, oo, t1, t2, n2, rfl, ho2, hc2, hd2⟩
theorem cr_sortedDT {X : Cx} (hc : X.calm = true) : CallR X (.builtin "sorted") (rSortedDT X.K) := by
  intro pins s σ H vs us Q I r h
  obtain ⟨a, x, rfl, ha, q⟩ := h
  obtain ⟨u, rfl, ru⟩ := r.one
  cases (show u = Value.ref a from ru)
  obtain ⟨z, hs, xs, rel, o, es, ep, ho, hx, hdt, he, hn⟩ := (show ObjOk X.prog X.w H s.heap a (.dT (dtm x)) from I.hok a _ ha)
  have l1 : es.size = xs.length := size_of_entries he
  have l2 : (dtm x).length = xs.length := Paired.length rel
  refine call_function_entry kind_sorted plain_sorted entry_sorted (args_sorted1 _) ?_; unfold Builtin.«sorted»
  refine wpAny_bind (m := checkCount "sorted" 1 1 _) (wpAny_pure ?_)
  refine wpAny_bind (Z.collectZ (A := X.A.in1) (kdl_raw hs hx hdt) (I.ok.hd hc) ho (by omega) fun h' tk acc hk hsz0 hacc => ?_)
  have hlen : acc.toList.length = xs.length := by rw [Array.length_toList, hacc.1]; exact l1
  have hzz : acc.toList.length ≤ sizeLine := by omega
  refine wpAny_bind (wpAny_newList ?_ hzz)
  have ky : Paired (KeyV H) acc.toList (keysT x) := keysOf (X := X) (pins := pins) (σ := σ) (s := s) rel he hlen fun j v e => hacc.2 j v (by rw [← Array.getElem?_toList]; exact e)
  have hob : (h'.push { cls := .type "list", data := .seq acc.toList.toArray }).get? h'.objs.size = some { cls := .type "list", data := .seq acc.toList.toArray } := Heap.get?_push_size _ rfl
  have isP : ∀ v ∈ acc.toList, Srt.IsPair s.heap v (pairV H v).1 (pairV H v).2 := by
    intro v hv
    have all : ∀ {us : List Value} {ps : List (Int × Int)}, Paired (KeyV H) us ps → v ∈ us → ∃ p, KeyV H v p := by
      intro us ps r
      induction r with
      | nil => intro m; cases m
      | cons a _ ih =>
        intro m
        rcases List.mem_cons.mp m with rfl | m
        · exact ⟨_, a⟩
        · exact ih m
    obtain ⟨p, hp⟩ := all ky hv
    rw [KeyV.pair (K := X.K) hp]
    exact pairAtHeap I hp
  refine wpAny_bind (wpAny_holding (wpAny_call_entry slot_list_sort ⟨_, hob, rfl⟩ entry_list_sort (SrtO.list_sort_ord (SrtO.swo_lex (pairV H)) hob hzz (fun h2 => SrtO.pairs_sortableO (by omega) (fun v hv => (isP v hv).keeps fun b oo e _ => Heap.get?_push_of_some _ (hk b oo e)) fun oo e => ?_) fun out h1 h2 => ⟨_, rfl, ?_⟩) (args_list_sort _)))
  · have e' : some oo = some (seqObj "list" acc.toList.toArray 0) := e.symm.trans hob
    cases e'
    intro c
    exact absurd (Value.type.inj c) (by decide)
  refine wpAny_pure ⟨_, rfl, ?_⟩
  obtain ⟨ep2, he'⟩ := PyProof.Rows.sortedHeap_at (vs := acc.toList) (out := out.toArray) hob
  obtain ⟨qs, k1, k2⟩ := keyV_perm ky h2.perm
  have hq : qs = sortP (keysT x) := by
    have s1 : SrtO.Srtd ltP2 qs := by
      rw [← keyV_map (K := X.K) k1]
      exact List.pairwise_map.mpr h1
    exact srt_uniq ltP2_tot (k2.trans (sortB_perm _).symm) s1 (sortB_srt ltP2_asy ltP2_tr _)
  subst hq
  obtain ⟨k3, k4⟩ := keyV_rl (K := X.K) k1
  have hlo : (out.map backV).length ≤ sizeLine := by rw [List.length_map, h2.perm.length_eq]; exact hzz
  have old : ∀ b u, s.heap.get? b = some u → (sortedHeap (h'.push { cls := .type "list", data := .seq acc.toList.toArray }) h'.objs.size acc.toList out.toArray).get? b = some u := fun b u hu => by
    have h3 := hk b u hu
    have h4 : (h'.push { cls := .type "list", data := .seq acc.toList.toArray }).get? b = some u := Heap.get?_push_of_some _ h3
    rw [PyProof.Rows.sortedHeap_old (Nat.ne_of_lt (Heap.lt_size h3)) (Heap.lt_size h4)]; exact h4
  have hsz : s.heap.objs.size ≤ h'.objs.size := Nat.le_of_lt hsz0
  exact ⟨.ref _, upd H h'.objs.size (.lst (out.map backV)), I.laid (t' := tk) old hsz ⟨hlo, out, ep2, k4, he'⟩, rfl, q _ _ k3 (I.hok.fresh hsz)⟩
end Z

namespace Z
open PySem PySem.Spec PyProof.Rows L2
section
variable {K : PySem.W.Frag} {σ σ' : L2.St} {S S1 S' H H' S0 H0 : Hp} {L L' : List Addr} {ta tb te tl td : TE} {tu t : TS} {Q : VK} {D : Ends} {v y : V} {l : Addr} {x : DT2} {g : TG} {vs : List Nat}
abbrev qP : Rep K (Int × Int) := qT2 qI qI
theorem keys_rl {bs : List Addr} : ∀ {x : DT2}, IsKeys H (dtm x) bs → RL (K := K) qP H (bs.map V.ref) (keysT x) := by
  intro x
  induction bs generalizing x with
  | nil => intro h; cases x with
    | nil => exact .nil
    | cons e x => cases h
  | cons b bs ih => intro h; cases x with
    | nil => cases h
    | cons e x => cases h with
      | cons h1 h2 => exact .cons (key_tup h1) (ih h2)
/-- a list new at H, its items told there: at S, widened -/
theorem toS {α : Type} {τ : Rep K α} {ws : List V} {xs : List α} {p : Addr} (sh : Shal τ) (e : Same S H) (hp : H p = none) (r : RL τ H ws xs)
    (k : ∀ S1 H1, Grow [] S H S1 H1 → H1 p = some (.lst ws) → S1 p = none → RL τ S1 ws xs → Q (.ref p) H1) : Q (.ref p) (upd H p (.lst ws)) := by
  obtain ⟨S1, g1, r1⟩ := shL sh e r
  exact k S1 _ (g1.ext (same_upd hp)) upd_same (g1.sh.free hp) r1
theorem shP : Shal (K := K) qP := shT2 shI shI
theorem l_listD (e : Same S H) (h : DS H v x) (k : ∀ p ws S1 H1, Grow [] S H S1 H1 → H p = none → H1 p = some (.lst ws) → S1 p = none → RL (K := K) qP S1 ws (keysT x) → Q (.ref p) H1) :
    ∃ d kvs, [v] = [V.ref d] ∧ Rd H d (.dT kvs) ∧ ∀ p bs, H p = none → IsKeys H kvs bs → Q (.ref p) (upd H p (.lst (bs.map V.ref))) := by
  obtain ⟨a, rfl, r⟩ := h
  exact ⟨a, _, rfl, r, fun p bs hp hk => toS shP e hp (keys_rl hk) fun S1 H1 g1 h1 h2 h3 => k p _ S1 H1 g1 hp h1 h2 h3⟩
theorem l_sortD (e : Same S H) (h : ∃ a, v = .ref a ∧ H a = some (.dT (dtm x))) (k : ∀ p ws S1 H1, Grow [] S H S1 H1 → H p = none → H1 p = some (.lst ws) → S1 p = none → RL (K := K) qP S1 ws (sortP (keysT x)) → Q (.ref p) H1) : rSortedDT K [v] H Q := by
  obtain ⟨a, rfl, r⟩ := h
  exact ⟨a, x, rfl, r, fun ws p hr hp => toS shP e hp hr fun S1 H1 g1 h1 h2 h3 => k p _ S1 H1 g1 hp h1 h2 h3⟩
theorem RdD.at (q : RdD L S0 H0 v x) (gr : Grow L S0 H0 S H) : ∃ a, v = .ref a ∧ H a = some (.dT (dtm x)) := by
  obtain ⟨a, rfl, h1, h2, _⟩ := q
  exact ⟨a, rfl, gr.hh _ _ h2 h1⟩
theorem celD {kvs : List (List Key × V)} (c : Cel L H0 S H l (.dT kvs)) (r : TR kvs x) : ∃ a, V.ref l = .ref a ∧ H a = some (.dT (dtm x)) := ⟨l, rfl, r ▸ c.h⟩
theorem RdD.none (q : RdD L S0 H0 v x) (gr : Grow L S0 H0 S H) : ∃ a, v = .ref a ∧ H a = some (.dT (dtm x)) ∧ S a = Option.none := by
  obtain ⟨a, rfl, h1, h2, h3⟩ := q
  exact ⟨a, rfl, gr.hh _ _ h2 h1, gr.fr _ _ h3 h1 rfl⟩
/-! ### while, its test with effects -/
theorem z_whileE {tc : TT} {tb : TS} {n0 : Nat} (Pv : Nat → L2.St → Hp → Prop) (h0 : Pv n0 σ H)
    (hs : ∀ n σ' H', Pv n σ' H' → tc σ' H' fun b H1 => if b = true then ∃ N : L2.St → Hp → Prop, (∀ σ2 H2, N σ2 H2 → ∃ m', m' < n ∧ Pv m' σ2 H2) ∧ tb { D with nx := N, ct := N, bk := tu D } σ' H1 else tu D σ' H1) : tSeq (tWhile tc tb) tu D σ H := ⟨Pv, ⟨n0, h0⟩, hs⟩
theorem whN {n n1 : Nat} {Pv : Nat → L2.St → Hp → Prop} {P : (L2.St → Hp → Prop) → Prop} (e : n = n1 + 1) (h : ∀ N : L2.St → Hp → Prop, (∀ σ2 H2, Pv n1 σ2 H2 → N σ2 H2) → P N) : ∃ N : L2.St → Hp → Prop, (∀ σ2 H2, N σ2 H2 → ∃ m', m' < n ∧ Pv m' σ2 H2) ∧ P N :=
  ⟨Pv n1, fun σ2 H2 p => ⟨n1, by omega, p⟩, h _ fun _ _ p => p⟩
/-! ### a list of lists of one's own -/
structure LOD {α : Type} (τ : Rep K α) (L : List Addr) (H0 S H : Hp) (as : List Addr) (xss : List (List α)) : Prop where
  nd : as.Nodup
  c : Paired (fun a xs => ∃ ws, Cel L H0 S H a (.lst ws) ∧ RL τ S ws xs) as xss
section
variable {α : Type} {τ : Rep K α} {as : List Addr} {xss : List (List α)}
theorem LOD.map (h : LOD τ L H0 S H as xss) {L1 : List Addr} {H1 S2 H2 : Hp} (f : ∀ a ∈ as, ∀ ws xs, Cel L H0 S H a (.lst ws) → RL τ S ws xs → Cel L1 H1 S2 H2 a (.lst ws) ∧ RL τ S2 ws xs) : LOD τ L1 H1 S2 H2 as xss := by
  refine ⟨h.nd, ?_⟩
  have all : ∀ {as : List Addr} {xss : List (List α)}, Paired (fun a xs => ∃ ws, Cel L H0 S H a (.lst ws) ∧ RL τ S ws xs) as xss → (∀ a ∈ as, ∀ ws xs, Cel L H0 S H a (.lst ws) → RL τ S ws xs → Cel L1 H1 S2 H2 a (.lst ws) ∧ RL τ S2 ws xs) →
      Paired (fun a xs => ∃ ws, Cel L1 H1 S2 H2 a (.lst ws) ∧ RL τ S2 ws xs) as xss := by
    intro as xss r
    induction r with
    | nil => intro _; exact .nil
    | cons a _ ih =>
      intro f
      obtain ⟨ws, c1, r1⟩ := a
      exact .cons ⟨ws, f _ (List.mem_cons_self) _ _ c1 r1⟩ (ih fun b m => f b (List.mem_cons_of_mem _ m))
  exact all h.c f
theorem LOD.ext (h : LOD τ L H0 S H as xss) (e : Same H H') : LOD τ L H0 S H' as xss := h.map fun _ _ _ _ c r => ⟨c.ext e, r⟩
theorem LOD.grow (h : LOD τ L H0 S H as xss) (gr : Grow L' S H S' H') (n : ∀ a ∈ as, a ∉ L') : LOD τ L H0 S' H' as xss := h.map fun a m _ _ c r => ⟨c.call gr (n a m), RL.mono gr.ss r⟩
theorem LOD.grow0 (h : LOD τ L H0 S H as xss) (gr : Grow [] S H S' H') : LOD τ L H0 S' H' as xss := h.grow gr fun _ _ z => nomatch z
theorem LOD.ot (h : LOD τ L H0 S H as xss) (eS : Same S S') (ot : ∀ l' o', l' ≠ l → Cel L H0 S H l' o' → Cel L H0 S' H' l' o') (n : ∀ a ∈ as, a ≠ l) : LOD τ L H0 S' H' as xss := h.map fun a m _ _ c r => ⟨ot _ _ (n a m) c, RL.mono eS r⟩
theorem LOD.len (h : LOD τ L H0 S H as xss) : as.length = xss.length := Paired.length h.c
theorem LOD.ne (h : LOD τ L H0 S H as xss) {p : Addr} (hp : H p = none) : ∀ a ∈ as, a ≠ p := by
  have all : ∀ {as : List Addr} {xss : List (List α)}, Paired (fun a xs => ∃ ws, Cel L H0 S H a (.lst ws) ∧ RL τ S ws xs) as xss → ∀ a ∈ as, a ≠ p := by
    intro as xss r
    induction r with
    | nil => intro a m; cases m
    | cons a _ ih =>
      intro b m
      obtain ⟨ws, c1, _⟩ := a
      rcases List.mem_cons.mp m with rfl | m
      · exact c1.ne hp
      · exact ih b m
  exact all h.c
theorem LOD.notin {h : ∀ a ∈ as, a ≠ l} (t : ∀ a ∈ as, a ∉ L') : ∀ a ∈ as, a ∉ l :: L' := fun a m q => by
  rcases List.mem_cons.mp q with rfl | q
  · exact h _ m rfl
  · exact t a m q
theorem paired_at {β γ : Type} {R : β → γ → Prop} : ∀ {xs : List β} {ys : List γ}, Paired R xs ys → ∀ {j : Nat} {z : γ}, ys[j]? = some z → ∃ b, xs[j]? = some b ∧ R b z
  | _, _, .nil, j, z, h => by simp at h
  | _, _, .cons a t, 0, z, h => by simp at h; subst h; exact ⟨_, rfl, a⟩
  | _, _, .cons a t, j + 1, z, h => by
    obtain ⟨b, h1, h2⟩ := paired_at t (j := j) (by simpa using h)
    exact ⟨b, by simpa using h1, h2⟩
/-- a row of it -/
theorem LOD.at (h : LOD τ L H0 S H as xss) {i : Int} {xs : List α} (hx : atI xss i = some xs) : ∃ (a : Addr) (ws : List V) (j : Nat), L2.atI (as.map V.ref) i = some (.ref a) ∧ Cel L H0 S H a (.lst ws) ∧ RL τ S ws xs ∧ ixN xss.length i = some j ∧ as[j]? = some a ∧ a ∈ as := by
  unfold atI at hx
  cases e : ixN xss.length i with
  | none => rw [e] at hx; cases hx
  | some j =>
    rw [e] at hx
    obtain ⟨a, h1, ws, c, r⟩ := paired_at h.c (show xss[j]? = some xs from hx)
    refine ⟨a, ws, j, ?_, c, r, rfl, h1, List.mem_of_getElem? h1⟩
    unfold L2.atI
    rw [List.length_map, h.len, e]
    show (as.map V.ref)[j]? = _
    rw [List.getElem?_map, h1]; rfl
theorem LOD.set (h : LOD τ L H0 S H as xss) {j : Nat} {a : Addr} {ws : List V} {ys : List α} {H1 : Hp} (ha : as[j]? = some a) (ot : ∀ l' o', l' ≠ a → Cel L H0 S H l' o' → Cel L H0 S H1 l' o') (c : Cel L H0 S H1 a (.lst ws)) (r : RL τ S ws ys) : LOD τ L H0 S H1 as (xss.set j ys) := by
  refine ⟨h.nd, ?_⟩
  have all : ∀ {as : List Addr} {xss : List (List α)} {j : Nat}, as.Nodup → as[j]? = some a → Paired (fun a xs => ∃ ws, Cel L H0 S H a (.lst ws) ∧ RL τ S ws xs) as xss →
      Paired (fun a xs => ∃ ws, Cel L H0 S H1 a (.lst ws) ∧ RL τ S ws xs) as (xss.set j ys) := by
    intro as xss j nd ha p
    induction p generalizing j with
    | nil => simp at ha
    | @cons b xs as' xss' q t ih =>
      obtain ⟨nb, nt⟩ := List.nodup_cons.mp nd
      cases j with
      | zero =>
        simp at ha; subst ha
        refine .cons ⟨ws, c, r⟩ ?_
        have keep : ∀ {bs : List Addr} {yss : List (List α)}, b ∉ bs → Paired (fun a xs => ∃ ws, Cel L H0 S H a (.lst ws) ∧ RL τ S ws xs) bs yss → Paired (fun a xs => ∃ ws, Cel L H0 S H1 a (.lst ws) ∧ RL τ S ws xs) bs yss := by
          intro bs yss nm p
          induction p with
          | nil => exact .nil
          | cons q _ ih2 =>
            obtain ⟨w2, c2, r2⟩ := q
            rw [List.mem_cons, not_or] at nm
            exact .cons ⟨w2, ot _ _ (fun z => nm.1 z.symm) c2, r2⟩ (ih2 nm.2)
        exact keep nb t
      | succ j =>
        have ha' : as'[j]? = some a := by simpa using ha
        obtain ⟨w2, c2, r2⟩ := q
        refine .cons ⟨w2, ot _ _ (fun z => ?_) c2, r2⟩ (ih nt ha')
        subst z; exact nb (List.mem_of_getElem? ha')
  exact all h.nd ha h.c
/-- owned[i].append(v) -/
theorem c_appLod {i : Int} {q : α} {xs : List α} {yss : List (List α)} {a : Addr} {ws : List V} {j : Nat} (gr : Grow L S0 H0 S H) (h : LOD τ L H0 S H as xss) (cl : Cel L H0 S H a (.lst ws)) (r : RL τ S ws xs) (hj : ixN xss.length i = some j) (ha : as[j]? = some a) (rv : τ.R S v q) (hz : xs.length < 16777216) (he : setI xss i (xs ++ [q]) = some yss)
    (k : ∀ H', Grow L S0 H0 S H' → LOD τ L H0 S H' as yss → (∀ l' o', l' ≠ a → Cel L H0 S H l' o' → Cel L H0 S H' l' o') → Q .non H') : rAppend (.ref a) [v] H Q := by
  unfold setI at he
  rw [hj] at he
  have he : xss.set j (xs ++ [q]) = yss := Option.some.inj he
  refine ⟨a, ws, v, rfl, rfl, cl.h, by rw [r.length, sizeLine_eq]; exact hz, k _ (gr.wr cl rfl) ?_ fun l' o' n c => c.wrn n⟩
  rw [← he]
  exact h.set ha (fun l' o' n c => c.wrn n) (cl.wr rfl) (r.app (.cons rv .nil))
/-- [[] for x in xs] -/
theorem c_lodNew {a : Addr} {us : List V} {β : Type} {R : V → β → Prop} {xs : List β} {j : Nat} (gr : Grow L S0 H0 S H) (ha : Val tl σ H (.ref a)) (hq : SqL K H a us) (hp : Paired R us xs)
    (k : ∀ P as H', Same H H' → H P = none → (∀ a ∈ as, H a = none) → (∀ a ∈ as, a ≠ P) → H' P = some (.lst (as.map V.ref)) → LOD τ L H0 S H' as (xs.map fun _ => ([] : List α)) → xs.length ≤ 16777216 → Q (.ref P) H') (hz : xs.length ≤ 16777216) :
    tLc (iList K tl) (gName j) tYes (tLst tNil) [j] σ H Q :=
  ha _ ⟨a, rfl, ⟨us, hq⟩, fun P hP => by
    refine turnsC_list hp (fun ys H' => ∃ as, Same H H' ∧ H' P = some (.lst (as.map V.ref)) ∧ (∀ a ∈ as, H a = none ∧ a ≠ P ∧ H' a = some (.lst [])) ∧ as.Nodup ∧ as.length + ys.length = xs.length) ⟨[], same_upd hP, upd_same, (fun _ z => nomatch z), List.nodup_nil, by simp⟩ (fun zs H' p => ?_) (fun w x zs H' rw_ p N hN => ?_) fun H' p => ?_
    · obtain ⟨_, e, _⟩ := p
      exact e.seq hq
    · obtain ⟨as, e, h1, h2, h3, h4⟩ := p
      refine g_name (σ' := σ.set j (some w)) (by rw [wipe_one, List.set_set]) ⟨by rw [show σ.set j (some w) = (wipe σ [j]).set j (some w) by rw [wipe_one, List.set_set]]; exact wipe_again j w, c_yes ?_⟩
      refine ift ⟨by rw [sizeLine_eq]; exact Nat.zero_le _, fun p hp => ⟨as.map V.ref, ?_, ?_, hN _ ⟨as ++ [p], fun b o q => ?_, ?_, fun b hb => ?_, ?_, ?_⟩⟩⟩
      · rw [upd_ne (fun z => by subst z; rw [h1] at hp; cases hp)]; exact h1
      · rw [List.length_map, sizeLine_eq]; simp only [List.length_cons] at h4; omega
      · have n1 : b ≠ P := ne_of_none q hP
        have n2 : b ≠ p := ne_of_none (e _ _ q) hp
        rw [upd_ne n1, upd_ne n2]; exact e _ _ q
      · rw [upd_same, List.map_append]; rfl
      · have n1 : p ≠ P := fun z => by subst z; rw [h1] at hp; cases hp
        rcases List.mem_append.mp hb with hb | hb
        · obtain ⟨h5, h6, h7⟩ := h2 b hb
          have n2 : b ≠ p := fun z => by subst z; rw [hp] at h7; cases h7
          exact ⟨h5, h6, by rw [upd_ne h6, upd_ne n2]; exact h7⟩
        · cases List.mem_singleton.mp hb
          exact ⟨e.free hp, n1, by rw [upd_ne n1]; exact upd_same⟩
      · refine List.nodup_append.mpr ⟨h3, by simp, fun b hb c hc z => ?_⟩
        cases List.mem_singleton.mp hc
        subst z
        obtain ⟨_, _, h7⟩ := h2 b hb
        rw [hp] at h7; cases h7
      · rw [List.length_append, List.length_singleton]; simp only [List.length_cons] at h4; omega
    · obtain ⟨as, e, h1, h2, h3, h4⟩ := p
      refine k P as H' e hP (fun b hb => (h2 b hb).1) (fun b hb => (h2 b hb).2.1) h1 ⟨h3, ?_⟩ hz
      have all : ∀ {as : List Addr} {xs : List β}, (∀ b ∈ as, H b = none ∧ b ≠ P ∧ H' b = some (.lst [])) → as.length = xs.length → Paired (fun a ys => ∃ ws, Cel L H0 S H' a (.lst ws) ∧ RL τ S ws ys) as (xs.map fun _ => ([] : List α)) := by
        intro as
        induction as with
        | nil => intro xs _ hl; cases xs with
          | nil => exact .nil
          | cons => cases hl
        | cons b as ih => intro xs hb hl; cases xs with
          | nil => cases hl
          | cons y xs =>
            obtain ⟨h5, h6, h7⟩ := hb b (List.mem_cons_self)
            exact .cons ⟨[], Cel.own gr e h5 h7 rfl, .nil⟩ (ih (fun c hc => hb c (List.mem_cons_of_mem _ hc)) (by simpa using hl))
      exact all h2 (by simpa using h4)⟩
end
/-! ### an own part of an object, handed back: where it stood, or new -/
theorem reb_ne {o : HO} {l l' c : Addr} (h : l' = l ∨ H l' = none) (hc : H c = some o) (n : c ≠ l) : c ≠ l' := by
  rcases h with rfl | h
  · exact n
  · exact ne_of_none hc h
theorem reb_z {o : HO} {l l' : Addr} (gr : Grow L S0 H0 S H) (h : l' = l ∨ H l' = none) (c : Cel L H0 S H l o) : H0 l' = none ∨ l' ∈ L := by
  rcases h with rfl | h
  · exact c.z
  · exact .inl (gr.hnone h)
theorem mut_reb {o : HO} {l l' : Addr} (gr : Grow L S0 H0 S H) (h : l' = l ∨ H l' = none) (c : Cel L H0 S H l o) {S2 H2 : Hp} {o' : HO} (h2 : H2 l' = some o') (s2 : S2 l' = none) (m : mo o' = true) : Cel L H0 S2 H2 l' o' := ⟨h2, s2, reb_z gr h c, m⟩
end
end Z
namespace Z
open PySem PySem.Spec PyProof.Rows L2
section
variable {K : PySem.W.Frag} {σ σ' : L2.St} {S S1 S' H H' S0 H0 : Hp} {L L' : List Addr} {ta tb te tl td : TE} {Q : VK} {l l' l0 : Addr}
theorem reb_z0 (gr : Grow L S0 H0 S H) (h : l' = l ∨ H l' = none) (z : H0 l = none) : H0 l' = none := by
  rcases h with rfl | h
  · exact z
  · exact gr.hnone h
theorem reb_rb (gr : Grow L S0 H0 S H) (h : l' = l ∨ H l' = none) (r : l = l0 ∨ H0 l = none) : l' = l0 ∨ H0 l' = none := by
  rcases h with rfl | h
  · exact r
  · exact .inr (gr.hnone h)
theorem c_methXO {C dx : Addr} {fs : List (Str × V)} {m : Str} {sp : Sp} {E : L2.St → XK} {t : TA} (ha : Val ta σ H (.ref l)) (h : H l = some (.ins C dx fs)) (hm : fs.lookup m = none) (k : t σ H fun vs H2 => sp (.ref l :: vs) H2 Q (E σ)) : tMethX C m sp E ta t σ H Q :=
  ha _ ⟨l, dx, fs, rfl, h, hm, k⟩
end
end Z

namespace Z
open PySem PySem.Spec PyProof.Rows L2
section
variable {K : PySem.W.Frag} {σ : L2.St} {S H S0 H0 : Hp} {L : List Addr} {ta tb te : TE} {Q : VK} {x y v : V}
theorem room65 {k : Nat} {A : Around} (r : Room k A) : A.units + 65 < cLine := by have := r.un; omega
theorem any_enc {α : Type} [DecidableEq α] {τ : Rep K α} (d : Dat τ) (p : α) (xs : List α) : ((xs.map d.enc).any fun z => PyData.eqv z (d.enc p)) = xs.any fun z => decide (z = p) := by
  rw [List.any_map]; congr 1; funext z; exact d.eqv z p
theorem e_inD {α : Type} [DecidableEq α] {τ υ : Rep K α} (d : Dat τ) (d' : Dat υ) (he : d.enc = d'.enc) (hn : d.n + 1 ≤ 64) {p : α} {xs : List α} (h1 : υ.R H x p) (h2 : (qQ τ).R H y xs) (k : Q (.bl (xs.any fun z => decide (z = p))) H) : rInD K x y H Q :=
  ⟨d.enc p, xs.map d.enc, by rw [he]; exact d'.dp h1, (dQ d).dp h2, d.shaped (by omega) p, (dQ d).shaped hn xs, by rw [any_enc]; exact k⟩
theorem e_ninD {α : Type} [DecidableEq α] {τ υ : Rep K α} (d : Dat τ) (d' : Dat υ) (he : d.enc = d'.enc) (hn : d.n + 1 ≤ 64) {p : α} {xs : List α} (h1 : υ.R H x p) (h2 : (qQ τ).R H y xs) (k : Q (.bl (!xs.any fun z => decide (z = p))) H) : rNotInD K x y H Q :=
  ⟨d.enc p, xs.map d.enc, by rw [he]; exact d'.dp h1, (dQ d).dp h2, d.shaped (by omega) p, (dQ d).shaped hn xs, by rw [any_enc]; exact k⟩
theorem v_inD {α : Type} [DecidableEq α] {τ υ : Rep K α} (d : Dat τ) (d' : Dat υ) (he : d.enc = d'.enc) (hn : d.n + 1 ≤ 64) {p : α} {xs : List α} (ha : Val ta σ H x) (hb : Val tb σ H y) (h1 : υ.R H x p) (h2 : (qQ τ).R H y xs) : Val (tOp (rInD K) ta tb) σ H (.bl (xs.any fun z => decide (z = p))) := fun Q k => ha _ (hb _ (e_inD d d' he hn h1 h2 k))
theorem v_ninD {α : Type} [DecidableEq α] {τ υ : Rep K α} (d : Dat τ) (d' : Dat υ) (he : d.enc = d'.enc) (hn : d.n + 1 ≤ 64) {p : α} {xs : List α} (ha : Val ta σ H x) (hb : Val tb σ H y) (h1 : υ.R H x p) (h2 : (qQ τ).R H y xs) : Val (tOp (rNotInD K) ta tb) σ H (.bl (!xs.any fun z => decide (z = p))) := fun Q k => ha _ (hb _ (e_ninD d d' he hn h1 h2 k))
theorem OP.nameA {α : Type} {m : Option α} {A : α → Prop} (h : OP m A) : ∃ B : α → Prop, B = A ∧ OP m B := ⟨A, rfl, h⟩
theorem nxk {a bk ct : L2.St → Hp → Prop} {rt : VK} (q : a σ H) : ({ nx := a, rt := rt, bk := bk, ct := ct } : Ends).nx σ H := q
theorem OP.pr3 {α β γ δ : Type} {k : α → β → γ → Option δ} {a : α} {b : β} {c : γ} {A : δ → Prop} (h : OP (Z.lt (a, b, c).1 fun x => Z.lt (a, b, c).2.1 fun y => Z.lt (a, b, c).2.2 fun z => k x y z) A) : OP (k a b c) A := by
  unfold Z.lt at h; exact h
theorem OP.pr4 {α β γ δ ε : Type} {k : α → β → γ → δ → Option ε} {a : α} {b : β} {c : γ} {d : δ} {A : ε → Prop} (h : OP (Z.lt (a, b, c, d).1 fun x => Z.lt (a, b, c, d).2.1 fun y => Z.lt (a, b, c, d).2.2.1 fun z => Z.lt (a, b, c, d).2.2.2 fun u => k x y z u) A) : OP (k a b c d) A := by
  unfold Z.lt at h; exact h
theorem OP.pr5 {α β γ δ ε ζ : Type} {k : α → β → γ → δ → ε → Option ζ} {a : α} {b : β} {c : γ} {d : δ} {e : ε} {A : ζ → Prop} (h : OP (Z.lt (a, b, c, d, e).1 fun x => Z.lt (a, b, c, d, e).2.1 fun y => Z.lt (a, b, c, d, e).2.2.1 fun z => Z.lt (a, b, c, d, e).2.2.2.1 fun u => Z.lt (a, b, c, d, e).2.2.2.2 fun v => k x y z u v) A) : OP (k a b c d e) A := by
  unfold Z.lt at h; exact h
/-- a value that is dropped -/
def qA : Rep K Unit := ⟨fun _ _ _ => True, fun _ h => h⟩
end
end Z
namespace Z
open PySem PySem.Spec PyProof.Rows L2
theorem call_isESX {X : Cx} {a : Addr} {cls : Value} {d : Option Addr} {oe : Obj} (hp : (a, oe) ∈ X.pn) (hz : Zc cls d oe) (hf : ∃ vs, oe.data = .fields vs) : CallR X (.builtin "isinstance") (rIsES X.K cls d a) := fun pins s σ H xs us Q I r h => by
  obtain ⟨D, c, cv, b, rfl, rfl, C, rfl, kc, e, q⟩ := h
  obtain ⟨v1, v2, rfl, w1, w2⟩ := vals2 r
  have ev : v2 = cv := kc.eq w2
  subst ev
  cases (show v1 = _ from w1)
  exact PySem.W.kia_one (PySem.W.handS_kitx_exc C.hg C.hk C.hs C.hd C.ha C.hn C.ht C.hm) I.kIn (pinX hp I hz hf) e (fun z => nomatch z) fun tk => ⟨.bl b, H, I.kept (t' := tk) fun _ _ z => z, rfl, q⟩
end Z

namespace Z
open PySem PySem.Spec PyProof.Rows L2
/-! ### a diary's entries, and the end of a hunt -/
inductive EK | add | shut | push deriving DecidableEq
def EK.s : EK → Str
  | .add => "add"
  | .shut => "shut"
  | .push => "push"
structure Ent where
  t : EK
  k : Int
  b : Option (Int × Int)
deriving DecidableEq
def Ent.len (x : Ent) : Int := if x.b.isSome then 3 else 2
inductive FK | ever | never deriving DecidableEq
def FK.s : FK → Str
  | .ever => "ever"
  | .never => "never"
inductive FX | nums (xs : List Int) | prs (xs : List (Int × Int))
structure Fin_ where
  t : FK
  x : FX
def FX.getI : FX → Option (List Int)
  | .nums xs => some xs
  | .prs _ => none
def FX.getB : FX → Option (List (Int × Int))
  | .nums _ => none
  | .prs xs => some xs
theorem EK.inj {a b : EK} (h : a.s = b.s) : a = b := by
  cases a <;> cases b <;> first | rfl | (exact absurd h (by decide))
theorem EK.ok (a : EK) : PyData.strOk a.s = true := by cases a <;> decide +kernel
section
variable {K : PySem.W.Frag} {σ : L2.St} {S H : Hp} {v : V} {ta tb tc : TE}
def entR (K : PySem.W.Frag) (H : Hp) (v : V) (x : Ent) : Prop :=
  match x.b with
  | none => ∃ a, v = .ref a ∧ H a = some (.tup [.str x.t.s, .int x.k])
  | some b => ∃ a w, v = .ref a ∧ H a = some (.tup [.str x.t.s, .int x.k, w]) ∧ (qT2 (K := K) qI qI).R H w b
def qE : Rep K Ent := ⟨fun H v x => entR K H v x, fun {H H' v x} e h => by
  obtain ⟨t, k, b⟩ := x
  cases b with
  | none =>
    obtain ⟨a, h1, h2⟩ := h
    exact ⟨a, h1, e _ _ h2⟩
  | some b =>
    obtain ⟨a, w, h1, h2, h3⟩ := h
    exact ⟨a, w, h1, e _ _ h2, (qT2 (K := K) qI qI).mono e h3⟩⟩
theorem qE2 {t : EK} {s : Str} {i : Int} (h : (qT2 (K := K) qS qI).R S v (s, i)) (e : s = t.s) : (qE (K := K)).R S v ⟨t, i, none⟩ := by
  obtain ⟨a, w1, w2, rfl, h2, h3, h4⟩ := h
  cases (show w1 = .str s from h3)
  cases (show w2 = .int i from h4)
  subst e
  exact ⟨a, rfl, h2⟩
theorem qE3 {t : EK} {s : Str} {i : Int} {b : Int × Int} (h : (qT3 (K := K) qS qI (qT2 qI qI)).R S v (s, i, b)) (e : s = t.s) : (qE (K := K)).R S v ⟨t, i, some b⟩ := by
  obtain ⟨a, w1, w2, w3, rfl, h2, h3, h4, h5⟩ := h
  cases (show w1 = .str s from h3)
  cases (show w2 = .int i from h4)
  subst e
  exact ⟨a, w3, rfl, h2, h5⟩
/-- what an entry is, in the heap -/
theorem entR.tup {x : Ent} (h : entR K H v x) : ∃ a ws, v = .ref a ∧ H a = some (.tup (.str x.t.s :: .int x.k :: ws)) ∧ (ws.length : Int) + 2 = x.len ∧ ∀ w ∈ ws, ∃ p, w = .ref p ∧ ∃ us, H p = some (.tup us) := by
  obtain ⟨t, k, b⟩ := x
  cases b with
  | none =>
    obtain ⟨a, h1, h2⟩ := h
    exact ⟨a, [], h1, h2, rfl, fun w hw => nomatch hw⟩
  | some b =>
    obtain ⟨a, w, h1, h2, h3⟩ := h
    obtain ⟨p, w1, w2, e1, e2, _⟩ := h3
    refine ⟨a, [w], h1, h2, rfl, fun z hz => ?_⟩
    rw [List.mem_singleton.mp hz]
    exact ⟨p, e1, _, e2⟩
theorem nn_e {x : Ent} (h : (qE (K := K)).R H v x) : v ≠ .non := by
  obtain ⟨a, ws, rfl, _⟩ := entR.tup h
  exact fun z => nomatch z
theorem ty_e {x : Ent} (h : (qE (K := K)).R H v x) : TyX K H v (.type "tuple") := by
  obtain ⟨a, ws, rfl, h2, _⟩ := entR.tup h
  exact .base (.tup h2)
theorem v_lenE {x : Ent} (ha : Val ta σ H v) (h : (qE (K := K)).R H v x) : Val (tCB (rLenS K) (tCons ta tNil)) σ H (.int x.len) := by
  obtain ⟨a, ws, rfl, h2, h3, _⟩ := entR.tup h
  refine fun Q q => ha _ ⟨a, _, rfl, .inr (SqT.of h2), ?_⟩
  rw [List.length_cons, List.length_cons]
  have : ((ws.length + 1 + 1 : Nat) : Int) = x.len := by omega
  rw [this]
  exact q
theorem v_E0 {x : Ent} (ha : Val ta σ H v) (hb : Val tb σ H (.int 0)) (h : (qE (K := K)).R H v x) : Val (tOp (rIxT K) ta tb) σ H (.str x.t.s) := by
  obtain ⟨a, ws, rfl, h2, _⟩ := entR.tup h
  exact fun Q q => ha _ (hb _ ⟨a, _, 0, _, rfl, rfl, SqT.of h2, L2.atI_nat (j := 0) rfl, q⟩)
theorem v_E1 {x : Ent} (ha : Val ta σ H v) (hb : Val tb σ H (.int 1)) (h : (qE (K := K)).R H v x) : Val (tOp (rIxT K) ta tb) σ H (.int x.k) := by
  obtain ⟨a, ws, rfl, h2, _⟩ := entR.tup h
  exact fun Q q => ha _ (hb _ ⟨a, _, 1, _, rfl, rfl, SqT.of h2, L2.atI_nat (j := 1) rfl, q⟩)
theorem v_E2 {x : Ent} {y : Int × Int} (e : Same S H) (h : (qE (K := K)).R S v x) (hy : x.b = some y) : ∃ w, (∀ {σ : L2.St} {ta tb : TE}, Val ta σ H v → Val tb σ H (.int 2) → Val (tOp (rIxT K) ta tb) σ H w) ∧ (qT2 (K := K) qI qI).R S w y := by
  obtain ⟨t, k, b⟩ := x
  cases (show b = some y from hy)
  obtain ⟨a, w, rfl, h2, h3⟩ := h
  exact ⟨w, fun ha hb Q q => ha _ (hb _ ⟨a, _, 2, _, rfl, rfl, SqT.of (e _ _ h2), L2.atI_nat (j := 2) rfl, q⟩), h3⟩
/-- isinstance(x[k], bool) of an entry -/
theorem v_isEB {x : Ent} {k : Int} (ha : Val ta σ H v) (hb : Val tb σ H (.int k)) (h : (qE (K := K)).R H v x) (hk : 0 ≤ k ∧ k < x.len) : Val (tCB (rIsi K) (tCons (tOp (rIxT K) ta tb) (tCons (tC (.ty "bool")) tNil))) σ H (.bl false) := by
  obtain ⟨a, ws, rfl, h2, h3, h4⟩ := entR.tup h
  obtain ⟨j, rfl⟩ : ∃ j : Nat, k = (j : Int) := ⟨k.toNat, by omega⟩
  have hj : j < (V.str x.t.s :: V.int x.k :: ws).length := by rw [List.length_cons, List.length_cons]; omega
  have key : ∀ {w : V} {T : String}, (V.str x.t.s :: V.int x.k :: ws)[j]? = some w → TyX K H w (.type T) → kitB T "bool" = some false → Val (tCB (rIsi K) (tCons (tOp (rIxT K) ta tb) (tCons (tC (.ty "bool")) tNil))) σ H (.bl false) := by
    intro w T hw ty hk
    exact v_isi (fun Q q => ha _ (hb _ ⟨a, _, _, _, rfl, rfl, SqT.of h2, L2.atI_nat hw, q⟩)) ty hk
  match j, hj with
  | 0, _ => exact key rfl ty_str (by decide +kernel)
  | 1, _ => exact key rfl ty_int (by decide +kernel)
  | j + 2, hj =>
    have hj2 : j < ws.length := by rw [List.length_cons, List.length_cons] at hj; omega
    obtain ⟨p, hp, us, hu⟩ := h4 ws[j] (List.getElem_mem hj2)
    refine key (w := ws[j]) ?_ (T := "tuple") (by rw [hp]; exact .base (.tup hu)) (by decide +kernel)
    show ws[j]? = some ws[j]
    exact List.getElem?_eq_getElem hj2
def encE (x : Ent) : PyData := match x.b with
  | none => .tuple [.str x.t.s, .int x.k]
  | some b => .tuple [.str x.t.s, .int x.k, .tuple [.int b.1, .int b.2]]
def dE : Dat (K := K) qE := ⟨encE, fun {H v x} h => by
    obtain ⟨t, k, b⟩ := x
    cases b with
    | none =>
      obtain ⟨a, rfl, h2⟩ := h
      exact .tup (SqT.of h2) (.cons (.str _) (.cons (.int _) .nil))
    | some b =>
      obtain ⟨a, w, rfl, h2, h3⟩ := h
      exact .tup (SqT.of h2) (.cons (.str _) (.cons (.int _) (.cons ((dT2 (K := K) dI dI).dp h3) .nil))), fun x => by
    obtain ⟨t, k, b⟩ := x
    have := EK.ok t
    cases b with
    | none =>
      show PyData.canLayAll0 [.str t.s, .int k] = true
      simp [PyData.canLayAll0, PyData.canLay0, this]
    | some b =>
      show PyData.canLayAll0 [.str t.s, .int k, .tuple [.int b.1, .int b.2]] = true
      simp [PyData.canLayAll0, PyData.canLay0, this], 3, fun x => by
    obtain ⟨t, k, b⟩ := x
    cases b with
    | none => simp [encE, PyData.depth, PyData.depthAll]
    | some b => simp [encE, PyData.depth, PyData.depthAll], fun x y => by
    obtain ⟨t, k, b⟩ := x
    obtain ⟨t', k', b'⟩ := y
    have ib : ∀ a b : Int, (a == b) = decide (a = b) := fun a b => Bool.beq_eq_decide_eq a b
    have et : ∀ t t' : EK, (t.s == t'.s) = decide (t = t') := fun t t' => by
      rw [Bool.beq_eq_decide_eq]
      exact decide_eq_decide.mpr ⟨EK.inj, fun h => by rw [h]⟩
    cases b with
    | none =>
      cases b' with
      | none =>
        simp [encE, PyData.eqv, PyData.eqvAll, et, ib]
      | some b' => simp [encE, PyData.eqv, PyData.eqvAll, et, ib]
    | some b =>
      cases b' with
      | none => simp [encE, PyData.eqv, PyData.eqvAll, et, ib]
      | some b' =>
        obtain ⟨b1, b2⟩ := b
        obtain ⟨c1, c2⟩ := b'
        simp [encE, PyData.eqv, PyData.eqvAll, et, ib]⟩
theorem nnE : NN (K := K) dE := fun x => by
  obtain ⟨t, k, b⟩ := x
  cases b <;> exact ⟨rfl, rfl⟩
/-! the end -/
def fxR (K : PySem.W.Frag) (H : Hp) (v : V) : FX → Prop
  | .nums xs => (qL (K := K) qI).R H v xs
  | .prs xs => (qL (K := K) (qT2 qI qI)).R H v xs
def qX : Rep K FX := ⟨fun H v x => fxR K H v x, fun {H H' v x} e h => by
  cases x with
  | nums xs => exact (qL (K := K) qI).mono e h
  | prs xs => exact (qL (K := K) (qT2 qI qI)).mono e h⟩
def qF : Rep K Fin_ := ⟨fun H v x => ∃ a w, v = .ref a ∧ H a = some (.tup [.str x.t.s, w]) ∧ fxR K H w x.x, fun {H H' v x} e h => by
  obtain ⟨a, w, h1, h2, h3⟩ := h
  exact ⟨a, w, h1, e _ _ h2, qX.mono e h3⟩⟩
theorem qFi {t : FK} {s : Str} {xs : List Int} (h : (qT2 (K := K) qS (qL qI)).R S v (s, xs)) (e : s = t.s) : (qF (K := K)).R S v ⟨t, .nums xs⟩ := by
  obtain ⟨a, w1, w2, rfl, h2, h3, h4⟩ := h
  cases (show w1 = .str s from h3)
  subst e
  exact ⟨a, w2, rfl, h2, h4⟩
theorem qFb {t : FK} {s : Str} {xs : List (Int × Int)} (h : (qT2 (K := K) qS (qL (qT2 qI qI))).R S v (s, xs)) (e : s = t.s) : (qF (K := K)).R S v ⟨t, .prs xs⟩ := by
  obtain ⟨a, w1, w2, rfl, h2, h3, h4⟩ := h
  cases (show w1 = .str s from h3)
  subst e
  exact ⟨a, w2, rfl, h2, h4⟩
theorem qFx {t : FK} {s : Str} {x : FX} (h : (qT2 (K := K) qS qX).R S v (s, x)) (e : s = t.s) : (qF (K := K)).R S v ⟨t, x⟩ := by
  obtain ⟨a, w1, w2, rfl, h2, h3, h4⟩ := h
  cases (show w1 = .str s from h3)
  subst e
  exact ⟨a, w2, rfl, h2, h4⟩
theorem nn_f {x : Fin_} (h : (qF (K := K)).R H v x) : v ≠ .non := by
  obtain ⟨a, w, rfl, _⟩ := h
  exact fun z => nomatch z
theorem ty_f {x : Fin_} (h : (qF (K := K)).R H v x) : TyX K H v (.type "tuple") := by
  obtain ⟨a, w, rfl, h2, _⟩ := h
  exact .base (.tup h2)
theorem v_lenF {x : Fin_} (ha : Val ta σ H v) (h : (qF (K := K)).R H v x) : Val (tCB (rLenS K) (tCons ta tNil)) σ H (.int 2) := by
  obtain ⟨a, w, rfl, h2, _⟩ := h
  exact fun Q q => ha _ ⟨a, _, rfl, .inr (SqT.of h2), q⟩
theorem v_F0 {x : Fin_} (ha : Val ta σ H v) (hb : Val tb σ H (.int 0)) (h : (qF (K := K)).R H v x) : Val (tOp (rIxT K) ta tb) σ H (.str x.t.s) := by
  obtain ⟨a, w, rfl, h2, _⟩ := h
  exact fun Q q => ha _ (hb _ ⟨a, _, 0, _, rfl, rfl, SqT.of h2, L2.atI_nat (j := 0) rfl, q⟩)
theorem v_F1 {x : Fin_} (e : Same S H) (h : (qF (K := K)).R S v x) : ∃ w, (∀ {σ : L2.St} {ta tb : TE}, Val ta σ H v → Val tb σ H (.int 1) → Val (tOp (rIxT K) ta tb) σ H w) ∧ (qX (K := K)).R S w x.x := by
  obtain ⟨a, w, rfl, h2, h3⟩ := h
  exact ⟨w, fun ha hb Q q => ha _ (hb _ ⟨a, _, 1, _, rfl, rfl, SqT.of (e _ _ h2), L2.atI_nat (j := 1) rfl, q⟩), h3⟩
theorem fx_i {x : FX} {y : List Int} (h : (qX (K := K)).R S v x) (e : x.getI = some y) : (qL (K := K) qI).R S v y := by
  cases x with
  | nums xs => cases (show some xs = some y from e); exact h
  | prs xs => cases e
theorem fx_b {x : FX} {y : List (Int × Int)} (h : (qX (K := K)).R S v x) (e : x.getB = some y) : (qL (K := K) (qT2 qI qI)).R S v y := by
  cases x with
  | nums xs => cases e
  | prs xs => cases (show some xs = some y from e); exact h
end
end Z

namespace Z
open PySem PySem.Spec PyProof.Rows PySem.Calls PySem.W PyProof.V
/-! ### k in d.values(), the keys tuples, the values whole numbers -/
theorem noContains : typeLookup (.type "dict_values") "__contains__" = pure none := by rw [typeLookup_type, builtinLookup_eq_fast]; kernel_rfl
theorem entry_contains : entryFor table "proto.contains_iter" = some Builtin.«proto.contains_iter» := entryFor_of_fast (by kernel_rfl)
theorem plain_contains : plainId "proto.contains_iter" = true := by decide +kernel
section
variable {prog : Program} {w : World} {A : Around} {E : Value → Shared → Prop} {s : Shared}
theorem meetsVals {d : Addr} {es : Array DictEntry} {ep : Nat} (hd : (d == sysModules) = false) :
    MeetsIn prog w (Builtin.«dict.values» ⟨[.ref d], []⟩) (fun _ R s => DT.Raw s.heap d es ep ∧
      R (.ok (.ret (.ref s.heap.objs.size))) { s with heap := s.heap.push (DSub.viewOb "dict_values" d) }) :=
  .of_wp fun A R s ⟨hm, h⟩ => by
    unfold Builtin.«dict.values»
    refine wpAny_bind ?_
    unfold Builtin.Dict.noArgs
    refine wpAny_bind (wpAny_notOrdered_dict hm.typeIs ?_)
    show wpAny _ _ (pure d) _ _ s
    refine wpAny_pure ?_
    show wpAny _ _ (Builtin.Dict.showsAll d >>= _) _ _ s
    unfold Builtin.Dict.showsAll
    rw [if_neg (by rw [hd]; exact Bool.false_ne_true)]
    refine wpAny_bind (wpAny_pure ?_)
    exact wpAny_bind (wpAny_newObj_type (wpAny_pure ⟨_, rfl, h⟩))
theorem callVals {d : Addr} {es : Array DictEntry} {ep : Nat} {Q : Value → Shared → Prop} (hd : (d == sysModules) = false) (hm : DT.Raw s.heap d es ep)
    (h : Q (.ref s.heap.objs.size) { s with heap := s.heap.push (DSub.viewOb "dict_values" d) }) : wpAny (model prog w) A (call (.builtin "dict.values") [.ref d]) Q E s :=
  call_meetsIn PySem.F.slot_dict_values hm.typeIs PySem.F.entry_dict_values (PySem.F.args_dict_values_1 _) (meetsVals (es := es) (ep := ep) hd) ⟨hm, h⟩
/-- the search goes on from place i -/
theorem searchFrom {it d : Addr} {od : Obj} {es : Array DictEntry} {ep : Nat} {x : Int} {tx : Tok} {ns : List Int} (hh : A.handled = none) (hne : it ≠ d) (hdd : od.data = .dict es ep) (hns : ∀ (i : Nat) (e : DictEntry), es[i]? = some e → ∃ t, e.val = .int (ns.getD i 0) t) (hl : ns.length = es.size)
    {R : Result → Shared → Prop} {h0 : Heap} (hR : ∀ h' tk, (∀ b o, b ≠ it → h0.get? b = some o → h'.get? b = some o) → R (.ok (.ret (.bool (ns.any fun n => n == x)))) { s with heap := h', toks := tk }) :
    ∀ (m i : Nat) (h : Heap) (tk : Nat), es.size - i = m → i ≤ es.size → (∀ n ∈ ns.take i, n ≠ x) → h.get? it = some (DVw.valOb d i es.size ep) → h.get? d = some od → (∀ b o, b ≠ it → h0.get? b = some o → h.get? b = some o) →
      codeAny (model prog w) A (.builtin "proto.contains_iter" ⟨[.ref it, .int x tx], []⟩) R { s with heap := h, toks := tk } := by
  intro m
  induction m with
  | zero =>
    intro i h tk hm hi hno hit hd hk
    refine codeAny_builtin entry_contains ?_
    rw [Around.under_plainId plain_contains _]
    unfold Builtin.«proto.contains_iter»
    have hn : es[i]? = none := Array.getElem?_eq_none (by omega)
    refine wpAny_bind (DVw.val_end (A := A.in1) hh hit hd hdd rfl hn fun h' eb => ?_)
    refine wpAny_bind (wpAny_rule ?_)
    refine wpAny_pure ?_
    have : (ns.any fun n => n == x) = false := by
      rw [List.any_eq_false]
      intro n hn2
      have := hno n (by rw [List.take_of_length_le (by omega)]; exact hn2)
      simpa using this
    have q := hR h' tk fun b o hb e => eb b o hb (hk b o hb e)
    rw [this] at q
    exact q
  | succ m ih =>
    intro i h tk hm hi hno hit hd hk
    refine codeAny_builtin entry_contains ?_
    rw [Around.under_plainId plain_contains _]
    unfold Builtin.«proto.contains_iter»
    have hlt : i < es.size := by omega
    have he : es[i]? = some es[i] := Array.getElem?_eq_getElem hlt
    obtain ⟨t, ht⟩ := hns i es[i] he
    refine wpAny_bind (DVw.val_item (A := A.in1) hit hd hdd rfl he fun h' hit' sb => ?_)
    rw [ht]
    refine wpAny_bind (wpAny_eqBool_int ?_)
    have keep : ∀ b o, b ≠ it → h0.get? b = some o → h'.get? b = some o := fun b o hb e => (sb.2 b hb).trans (hk b o hb e)
    have hgi : ns.getD i 0 = ns[i]'(by omega) := by rw [List.getD_eq_getElem?_getD, List.getElem?_eq_getElem (by omega)]; rfl
    cases hx : (ns.getD i 0 == x) with
    | true =>
      rw [if_pos rfl]
      refine wpAny_bind (wpAny_rule ?_)
      refine wpAny_pure ?_
      have : (ns.any fun n => n == x) = true := List.any_eq_true.mpr ⟨_, List.getElem_mem (by omega : i < ns.length), by rw [← hgi]; exact hx⟩
      have q := hR h' tk keep
      rw [this] at q
      exact q
    | false =>
      rw [if_neg Bool.false_ne_true]
      refine wpAny_pure ⟨plainId_quiet plain_contains _, ih (i + 1) h' tk (by omega) (by omega) (fun n hn => ?_) hit' ((sb.2 d (Ne.symm hne)).trans hd) keep⟩
      rw [List.take_succ, List.mem_append] at hn
      rcases hn with hn | hn
      · exact hno n hn
      · rw [List.getElem?_eq_getElem (by omega : i < ns.length)] at hn
        have : n = ns[i]'(by omega) := by simpa using hn
        rw [this, ← hgi]
        simpa using hx
theorem containsVals {p d : Addr} {od : Obj} {es : Array DictEntry} {ep : Nat} {x : Int} {tx : Tok} {ns : List Int} {Q : Bool → Shared → Prop} (hh : A.handled = none) (hp : s.heap.get? p = some (DSub.viewOb "dict_values" d)) (hd : s.heap.get? d = some od) (hdd : od.data = .dict es ep)
    (hns : ∀ (i : Nat) (e : DictEntry), es[i]? = some e → ∃ t, e.val = .int (ns.getD i 0) t) (hl : ns.length = es.size)
    (h : ∀ h' tk, (∀ b o, s.heap.get? b = some o → h'.get? b = some o) → Q (ns.any fun n => n == x) { s with heap := h', toks := tk }) :
    wpAny (model prog w) A (PySem.contains (.ref p) (.int x tx)) Q E s := by
  have hT : s.TypeIs (.ref p) "dict_values" := ⟨_, hp, rfl⟩
  unfold PySem.contains
  refine wpAny_holding ?_
  rw [stdlibNamesSay?_ref]
  refine wpAny_bind (wpAny_specialOf hT noContains ?_)
  rw [if_neg (by decide)]
  refine wpAny_bind (wpAny_callSpecialUnlessNone?_none hT noContains ?_)
  refine wpAny_bind (wpAny_rule ?_)
  refine wpAny_bind (wpAny_tryCatch (DSub.iter_vals hp hd hdd ?_))
  have hlt : d < s.heap.objs.size := Heap.lt_size hd
  refine wpAny_bind (wpAny_runValue (searchFrom (s := s) (od := od) (es := es) (ep := ep) (ns := ns) hh (Nat.ne_of_gt hlt) hdd hns hl (h0 := s.heap) (fun h' tk hk => ?_) es.size 0 _ s.toks rfl (Nat.zero_le _) (fun n hn => absurd hn List.not_mem_nil) (Heap.get?_push_size _ rfl) (Heap.get?_push_of_some _ hd) fun b o _ e => Heap.get?_push_of_some _ e))
  exact wpAny_pure (h h' tk fun b o e => hk b o (Nat.ne_of_lt (Heap.lt_size e)) e)
end
end Z
namespace Z
open PySem PySem.Spec PyProof.Rows L2
def valsO (p d : Addr) : HO := .ext fun h => h.get? p = some (DSub.viewOb "dict_values" d)
theorem valsO_ok {P : Program} {w : World} {H : Hp} {h : Heap} {p d : Addr} (e : h.get? p = some (DSub.viewOb "dict_values" d)) : ObjOk P w H h p (valsO p d) := ⟨e, ⟨_, e⟩, fun h1 h2 q k => k _ q⟩
def rValsT : V → List V → Hp → VK → Prop := fun x xs H Q => ∃ (a : Addr) (kvs : List (List L2.Key × V)), x = .ref a ∧ xs = [] ∧ H a = some (.dT kvs) ∧ ∀ p, H p = none → Q (.ref p) (upd H p (valsO p a))
theorem mt_valsT {X : Cx} : MtR X "dict.values" rValsT := by
  intro pins s σ H x xs v us Q I rx rxs h
  obtain ⟨a, kvs, rfl, rfl, ha, q⟩ := h
  cases rx
  cases rxs
  obtain ⟨z, hd, xs', rel, o, es, ep, ho, hx, hdat, _⟩ := dt_of I.hok ha
  refine callVals (es := es) (ep := ep) hd ⟨o, ho, hx, hdat⟩ ?_
  have hf : H s.heap.objs.size = none := I.hok.fresh (Nat.le_refl _)
  exact ⟨.ref s.heap.objs.size, upd H s.heap.objs.size (valsO s.heap.objs.size a), I.laid (t' := s.toks) (fun b u e => Heap.get?_push_of_some _ e) (Nat.le_refl _) (valsO_ok (Heap.get?_push_size _ rfl)), rfl, q _ hf⟩
/-- the values are whole numbers -/
theorem valsOf {X : Cx} {H : Hp} {x : DT2} {xs : List (List Key × Addr × Value)} {es : Array DictEntry} (rel : KT H (dtm x) xs) (he : es.toList = xs.map (entryOfKey (tupleKind (mixKind X.prog X.w)))) :
    (∀ (i : Nat) (e : DictEntry), es[i]? = some e → ∃ t, e.val = .int ((x.map Prod.snd).getD i 0) t) ∧ (x.map Prod.snd).length = es.size := by
  have l1 : es.size = xs.length := size_of_entries he
  have l2 : (dtm x).length = xs.length := Paired.length rel
  have l3 : (dtm x).length = x.length := List.length_map _
  refine ⟨fun i e hi => ?_, by rw [List.length_map]; omega⟩
  have q := entry_at he i
  rw [hi] at q
  cases hb : xs[i]? with
  | none => rw [hb] at q; exact nomatch (show some e = none from q)
  | some b =>
    rw [hb] at q
    have e1 : e = entryOfKey (tupleKind (mixKind X.prog X.w)) b := Option.some.inj q
    have hlt : i < x.length := by
      have := List.getElem?_eq_some_iff.mp hb
      obtain ⟨h, _⟩ := this
      omega
    have hm : (dtm x)[i]? = some (kk x[i].1, .int x[i].2) := by
      unfold dtm
      rw [List.getElem?_map, List.getElem?_eq_getElem hlt]; rfl
    obtain ⟨b', hb', r1, r2, r3⟩ := L2.paired_get rel hm
    rw [hb] at hb'
    cases hb'
    obtain ⟨t, ht⟩ := (show ∃ t, b.2.2 = Value.int x[i].2 t from r3)
    refine ⟨t, ?_⟩
    rw [e1]
    have : (x.map Prod.snd).getD i 0 = x[i].2 := by rw [List.getD_eq_getElem?_getD, List.getElem?_map, List.getElem?_eq_getElem hlt]; rfl
    rw [this]
    exact ht
def rInV : R2 := fun x y H Q => ∃ (i : Int) (p a : Addr) (d : DT2), x = .int i ∧ y = .ref p ∧ H p = some (valsO p a) ∧ H a = some (.dT (dtm d)) ∧ Q (.bl ((d.map Prod.snd).any fun n => n == i)) H
theorem op_inV {X : Cx} (hc : X.calm = true) : OpR X (compareOp .In) rInV := by
  intro pins s σ H x y v u Q I rx ry h
  obtain ⟨i, p, a, d, rfl, rfl, hp, ha, q⟩ := h
  obtain ⟨tx, rfl⟩ := (show ∃ t, v = Value.int i t from rx)
  cases (show u = Value.ref p from ry)
  obtain ⟨z, hs, xs, rel, o, es, ep, ho, hx, hdt, he, hn⟩ := (show ObjOk X.prog X.w H s.heap a (.dT (dtm d)) from I.hok a _ ha)
  have hv : s.heap.get? p = some (DSub.viewOb "dict_values" a) := (show ObjOk X.prog X.w H s.heap p (valsO p a) from I.hok p _ hp).1
  obtain ⟨v1, v2⟩ := valsOf (X := X) rel he
  show wpAny _ _ (PySem.contains (.ref p) (.int i tx) >>= fun b => pure (Value.bool b)) _ _ s
  refine wpAny_bind (containsVals (I.ok.hd hc) hv ho hdt v1 v2 fun h' tk hk => wpAny_pure ?_)
  exact ⟨.bl _, H, I.kept (t' := tk) hk, rfl, q⟩
section
variable {K : PySem.W.Frag} {σ : L2.St} {H : Hp} {ta td : TE} {Q : VK}
theorem c_inV {i : Int} {l : Addr} {kvs : List (List Key × V)} {x : DT2} (ha : Val ta σ H (.int i)) (hd : Val td σ H (.ref l)) (h : H l = some (.dT kvs)) (r : TR kvs x)
    (k : ∀ H', Same H H' → Q (.bl ((x.map Prod.snd).any fun n => n == i)) H') : tOp rInV ta (tBM0 K "dict" rValsT td) σ H Q := by
  cases r
  refine ha _ (hd _ ⟨tyD h, l, dtm x, rfl, rfl, h, fun p hp => ⟨i, p, l, x, rfl, rfl, upd_same, ?_, k _ (same_upd hp)⟩⟩)
  exact same_upd hp _ _ h
end
end Z

namespace Z
open PySem PySem.Spec PyProof.Rows L2
/-! ### a module's text that has a name -/
theorem pe_globS {X : Cx} {x t : Str} {pos : Pos} (hm : ∃ u, X.mg x = some (Value.str t u)) (hg : Gl X x) (hd : (x == ("__debug__" : Str)) = false := by decide) : PE X (.Name x pos) (tC (.str t)) := by
  obtain ⟨u, h⟩ := hm
  exact pe_glob hg h ⟨u, rfl⟩ hd
end Z

namespace Z
open PySem PySem.Spec PyProof.Rows L2
/-! ### told tuples that hold lists of one's own -/
def FX.len : FX → Int
  | .nums xs => (xs.length : Int)
  | .prs xs => (xs.length : Int)
section
variable {K : PySem.W.Frag} {σ : L2.St} {S S1 H S0 H0 : Hp} {L L' : List Addr} {v : V} {ta tb : TE} {l : Addr} {ws : List V}
/-- a tuple of a text and what stands at an address -/
def qO : Rep K (Str × Addr) := ⟨fun H v x => ∃ q, v = .ref q ∧ H q = some (.tup [.str x.1, .ref x.2]), fun {H H' v x} e h => by
  obtain ⟨q, h1, h2⟩ := h
  exact ⟨q, h1, e _ _ h2⟩⟩
/-- what stands at an address -/
def qRf : Rep K Addr := ⟨fun _ v a => v = .ref a, fun _ h => h⟩
/-- a tuple of two things that stand at addresses -/
def qPP : Rep K (Addr × Addr) := ⟨fun H v x => ∃ q, v = .ref q ∧ H q = some (.tup [.ref x.1, .ref x.2]), fun {H H' v x} e h => by
  obtain ⟨q, h1, h2⟩ := h
  exact ⟨q, h1, e _ _ h2⟩⟩
theorem v_O0 {x : Str × Addr} (ha : Val ta σ H v) (hb : Val tb σ H (.int 0)) (h : (qO (K := K)).R H v x) : Val (tOp (rIxT K) ta tb) σ H (.str x.1) := by
  obtain ⟨q, rfl, h2⟩ := h
  exact fun Q r => ha _ (hb _ ⟨q, _, 0, _, rfl, rfl, SqT.of h2, L2.atI_nat (j := 0) rfl, r⟩)
theorem v_O1 {x : Str × Addr} (ha : Val ta σ H v) (hb : Val tb σ H (.int 1)) (h : (qO (K := K)).R H v x) : Val (tOp (rIxT K) ta tb) σ H (.ref x.2) := by
  obtain ⟨q, rfl, h2⟩ := h
  exact fun Q r => ha _ (hb _ ⟨q, _, 1, _, rfl, rfl, SqT.of h2, L2.atI_nat (j := 1) rfl, r⟩)
theorem ty_o {x : Str × Addr} (h : (qO (K := K)).R H v x) : TyX K H v (.type "tuple") := by
  obtain ⟨q, rfl, h2⟩ := h
  exact .base (.tup h2)
theorem v_lenO {x : Str × Addr} (ha : Val ta σ H v) (h : (qO (K := K)).R H v x) : Val (tCB (rLenS K) (tCons ta tNil)) σ H (.int 2) := by
  obtain ⟨q, rfl, h2⟩ := h
  exact fun Q r => ha _ ⟨q, _, rfl, .inr (SqT.of h2), r⟩
/-- a list of numbers, or of bars, one's own -/
def RX (K : PySem.W.Frag) (S : Hp) (ws : List V) : FX → Prop
  | .nums xs => RL (qI (K := K)) S ws xs
  | .prs xs => RL (qT2 (K := K) qI qI) S ws xs
theorem RX.mono {x : FX} (e : Same S S1) (h : RX K S ws x) : RX K S1 ws x := by
  cases x with
  | nums xs => exact RL.mono e h
  | prs xs => exact RL.mono e h
theorem rx_i {x : FX} {y : List Int} (h : RX K S ws x) (e : x.getI = some y) : RL (qI (K := K)) S ws y := by
  cases x with
  | nums xs => cases (show some xs = some y from e); exact h
  | prs xs => cases e
theorem rx_b {x : FX} {y : List (Int × Int)} (h : RX K S ws x) (e : x.getB = some y) : RL (qT2 (K := K) qI qI) S ws y := by
  cases x with
  | nums xs => cases e
  | prs xs => cases (show some xs = some y from e); exact h
theorem rl_len {α : Type} {τ : Rep K α} : ∀ {ws : List V} {xs : List α}, RL τ S ws xs → ws.length = xs.length
  | _, _, .nil => rfl
  | _, _, .cons _ t => by rw [List.length_cons, List.length_cons, rl_len t]
theorem RX.len {x : FX} (h : RX K S ws x) : (ws.length : Int) = x.len := by
  cases x with
  | nums xs => show (ws.length : Int) = (xs.length : Int); rw [rl_len h]
  | prs xs => show (ws.length : Int) = (xs.length : Int); rw [rl_len h]
theorem rl_any : ∀ ws : List V, RL (qA (K := K)) S ws (ws.map fun _ => ())
  | [] => .nil
  | _ :: ws => .cons trivial (rl_any ws)
theorem v_lenX {x : FX} (ha : Val ta σ H (.ref l)) (h : H l = some (.lst ws)) (r : RX K S ws x) : Val (tCB (rLenS K) (tCons ta tNil)) σ H (.int x.len) := by
  refine fun Q q => ha _ ⟨l, ws, rfl, .inl (SqL.of h), ?_⟩
  rw [r.len]
  exact q
/-- such a list, only read -/
def RdX (K : PySem.W.Frag) (L : List Addr) (S H0 : Hp) (v : V) : FX → Prop
  | .nums xs => RdL (qI (K := K)) L S H0 v xs
  | .prs xs => RdL (qT2 (K := K) qI qI) L S H0 v xs
theorem RdX.mono {x : FX} (e : Same S S1) (h : RdX K L S H0 v x) : RdX K L S1 H0 v x := by
  cases x with
  | nums xs => exact RdL.mono e h
  | prs xs => exact RdL.mono e h
theorem RdX.to {x : FX} (g : Grow L S0 H0 S H) (h : RdX K L S H0 v x) (hL : ∀ l ∈ L', H0 l = none ∨ l ∈ L) : RdX K L' S H v x := by
  cases x with
  | nums xs => exact RdL.to g h hL
  | prs xs => exact RdL.to g h hL
theorem RdX.ofC {x : FX} (h : H l = some (.lst ws)) (n : l ∉ L') (r : RX K S ws x) : RdX K L' S H (.ref l) x := by
  cases x with
  | nums xs => exact RdL.ofC h n r
  | prs xs => exact RdL.ofC h n r
theorem rdx_i {x : FX} {y : List Int} (h : RdX K L S H0 v x) (e : x.getI = some y) : RdL (qI (K := K)) L S H0 v y := by
  cases x with
  | nums xs => cases (show some xs = some y from e); exact h
  | prs xs => cases e
theorem rdx_b {x : FX} {y : List (Int × Int)} (h : RdX K L S H0 v x) (e : x.getB = some y) : RdL (qT2 (K := K) qI qI) L S H0 v y := by
  cases x with
  | nums xs => cases e
  | prs xs => cases (show some xs = some y from e); exact h
theorem os_dec {H : Hp} {x y : V} {a b : Option Str} (h1 : (qOpt (qS (K := K))).R H x a) (h2 : (qOpt (qS (K := K))).R H y b) : scal x y = true ∧ decide (x = y) = decide (a = b) := by
  cases a with
  | none =>
    cases (show x = .non from h1)
    cases b with
    | none => cases (show y = .non from h2); exact ⟨rfl, rfl⟩
    | some t => cases (show y = .str t from h2.2); exact ⟨rfl, rfl⟩
  | some s =>
    cases (show x = .str s from h1.2)
    cases b with
    | none => cases (show y = .non from h2); exact ⟨rfl, rfl⟩
    | some t =>
      cases (show y = .str t from h2.2)
      exact ⟨rfl, decide_eq_decide.mpr ⟨fun e => by rw [V.str.inj e], fun e => by rw [Option.some.inj e]⟩⟩
theorem e_neOS {H : Hp} {x y : V} {a b : Option Str} {Q : VK} (h1 : (qOpt (qS (K := K))).R H x a) (h2 : (qOpt (qS (K := K))).R H y b) (q : Q (.bl (!decide (a = b))) H) : rNe x y H Q := by
  obtain ⟨e1, e2⟩ := os_dec h1 h2
  exact ⟨e1, by rw [e2]; exact q⟩
theorem e_eqOS {H : Hp} {x y : V} {a b : Option Str} {Q : VK} (h1 : (qOpt (qS (K := K))).R H x a) (h2 : (qOpt (qS (K := K))).R H y b) (q : Q (.bl (decide (a = b))) H) : rEq x y H Q := by
  obtain ⟨e1, e2⟩ := os_dec h1 h2
  exact ⟨e1, by rw [e2]; exact q⟩
end
end Z

namespace Z
open PySem PySem.Spec PyProof.Rows L2 CwR
/-! ### more of texts: products, find, in lists, ==, dict displays -/
def gMulS (s : Str) (n : Int) : Prop := s.length ≤ 4096 ∧ -4611686018427387904 ≤ n ∧ n ≤ 4096
instance (s : Str) (n : Int) : Decidable (gMulS s n) := by unfold gMulS; infer_instance
def rMulS : R2 := fun x y H Q => ∃ s n, x = .str s ∧ y = .int n ∧ gMulS s n ∧ Q (.str (Txt.mul s n)) H
theorem mulOk {s : Str} {n : Int} (h : gMulS s n) : MulOk s n := by
  obtain ⟨h1, h2, h3⟩ := h
  have e63 : (2 : Int) ^ 63 = 9223372036854775808 := by decide
  refine ⟨?_, fun hn _ => ?_, fun hn _ => ?_⟩
  · rw [e63, decide_eq_false (by omega), decide_eq_false (by omega)]; rfl
  · have hq : (4096 : Int) ≤ (2 ^ 63 - 1) / n := by
      rw [e63]
      exact (Int.le_ediv_iff_mul_le (by omega)).mpr (by omega)
    omega
  · unfold Builtin.Str.tooLong
    rw [sizeLine_eq]
    refine decide_eq_false ?_
    have h4 : n.toNat ≤ 4096 := by omega
    have h5 : s.length * n.toNat ≤ 4096 * 4096 := Nat.mul_le_mul h1 h4
    omega
theorem op_mulS {X : Cx} : OpR X (binaryOp .Mult) rMulS := by
  intro pins s σ H x y v u Q I rx ry h
  obtain ⟨a, n, rfl, rfl, hz, q⟩ := h
  obtain ⟨t, rfl⟩ := rx
  obtain ⟨t', rfl⟩ := ry
  exact SB.mul (mulOk hz) (fun t' tk => ⟨.str (Txt.mul a n), H, I.tok _, ⟨_, rfl⟩, q⟩)
def rFindS : V → List V → Hp → VK → Prop := fun x xs H Q => ∃ a b, x = .str a ∧ xs = [.str b] ∧ Q (.int (Txt.find a b)) H
theorem pe_findS {X : Cx} {o e : Expr} {to te : TE} {apos pos : Pos} (ho : PE X o to) (he : PE X e te) (hs : starEach [e] X.env = [(false, eval e X.env)] := by rfl)
    (hbase : attributeBase o "find" X.env (eval o X.env) = eval o X.env := by rfl) (hline : (apos.endLine == pos.line) = true := by rfl) :
    PE X (.Call (.Attribute o "find" apos) [e] [] pos) (tM1 rFindS to te) := pe_m1 F.slot_str_find F.type_str_find mt_find ho he hs hbase hline
def kvS (l : List (Str × Int)) : List (Key × V) := l.map fun p => (.inr p.1, .int p.2)
def dspT (l : List (Str × Int)) : List (TE × TE) := l.map fun p => (tC (.str p.1), tC (.int p.2))
def gLS (xs : List Str) : Prop := (xs.all PyData.strOk) = true
instance (xs : List Str) : Decidable (gLS xs) := by unfold gLS; infer_instance
section
variable {K : PySem.W.Frag} {σ : L2.St} {S H S0 H0 : Hp} {L : List Addr} {ta tb ty tx : TE} {Q : VK} {v x y : V} {a b k : Str} {n d : Int}
theorem v_mulS (ha : Val ta σ H (.str a)) (hb : Val tb σ H (.int n)) (g : gMulS a n) : Val (tOp rMulS ta tb) σ H (.str (Txt.mul a n)) := fun Q q => ha _ (hb _ ⟨a, n, rfl, rfl, g, q⟩)
theorem e_mulS (g : gMulS a n) (q : Q (.str (Txt.mul a n)) H) : rMulS (.str a) (.int n) H Q := ⟨a, n, rfl, rfl, g, q⟩
theorem v_findS (ha : Val ta σ H (.str a)) (hb : Val tb σ H (.str b)) : Val (tM1 rFindS ta tb) σ H (.int (Txt.find a b)) := fun Q q => ha _ ⟨⟨a, rfl⟩, hb _ ⟨a, b, rfl, rfl, q⟩⟩
theorem c_m1 {r : V → List V → Hp → VK → Prop} (ha : Val ta σ H (.str a)) (h : tb σ H fun y H2 => r (.str a) [y] H2 Q) : tM1 r ta tb σ H Q := ha _ ⟨⟨a, rfl⟩, h⟩
theorem e_join {s : Str} {xs : List Str} (hr : (qQ (K := K) qS).R H v xs) (hz : gJoin s xs) (q : Q (.str (Txt.join s xs)) H) : rJoin K (.str s) [v] H Q := by
  have h := v_join (K := K) (σ := []) (ta := tC (.str s)) (tb := tC v) (fun Q q => q) (fun Q q => q) hr hz Q q
  exact h.2
/-! x in a list of texts -/
theorem ls_eq {ws : List V} {xs : List Str} (h : RL (qS (K := K)) H ws xs) : ws = xs.map V.str := RL.eqmap V.str (fun v x h => h) h
theorem e_inLS {ys : List Str} (h : (qQ (K := K) qS).R H v ys) (q : Q (.bl (ys.any fun y => decide (y = a))) H) : rIn K false (.str a) v H Q := by
  obtain ⟨p, ws, rfl, h2, h3⟩ := h
  have e := ls_eq h3
  subst e
  exact ⟨p, _, rfl, .inl h2, rfl, by rw [List.all_map]; exact List.all_eq_true.mpr fun _ _ => rfl, by
    show Q (.bl (inV _ _)) H
    rw [inV_str]; exact q⟩
theorem e_ninLS {ys : List Str} (h : (qQ (K := K) qS).R H v ys) (q : Q (.bl (!(ys.any fun y => decide (y = a)))) H) : rIn K true (.str a) v H Q := by
  obtain ⟨p, ws, rfl, h2, h3⟩ := h
  have e := ls_eq h3
  subst e
  exact ⟨p, _, rfl, .inl h2, rfl, by rw [List.all_map]; exact List.all_eq_true.mpr fun _ _ => rfl, by
    show Q (.bl (!inV _ _)) H
    rw [inV_str]; exact q⟩
theorem e_ninTS {p : Addr} {ys : List Str} (h : H p = some (.tup (ys.map V.str))) (q : Q (.bl (!(ys.any fun y => decide (y = a)))) H) : rIn K true (.str a) (.ref p) H Q :=
  ⟨p, _, rfl, .inr (SqT.of h), rfl, by rw [List.all_map]; exact List.all_eq_true.mpr fun _ _ => rfl, by
    show Q (.bl (!inV _ _)) H
    rw [inV_str]; exact q⟩
theorem v_inLS {ys : List Str} (ha : Val ta σ H (.str a)) (hb : Val tb σ H v) (h : (qQ (K := K) qS).R H v ys) : Val (tOp (rIn K false) ta tb) σ H (.bl (ys.any fun y => decide (y = a))) := fun Q q => ha _ (hb _ (e_inLS h q))
theorem v_ninLS {ys : List Str} (ha : Val ta σ H (.str a)) (hb : Val tb σ H v) (h : (qQ (K := K) qS).R H v ys) : Val (tOp (rIn K true) ta tb) σ H (.bl (!(ys.any fun y => decide (y = a)))) := fun Q q => ha _ (hb _ (e_ninLS h q))
/-! == of lists of texts -/
theorem dpAllS : ∀ xs : List Str, DpAll K H (xs.map V.str) (xs.map PyData.str)
  | [] => .nil
  | x :: xs => .cons (.str x) (dpAllS xs)
theorem layAllS : ∀ xs : List Str, xs.all PyData.strOk = true → PyData.canLayAll0 (xs.map PyData.str) = true
  | [], _ => rfl
  | x :: xs, h => by
    rw [List.all_cons, Bool.and_eq_true] at h
    show (PyData.canLay0 (.str x) && PyData.canLayAll0 (xs.map PyData.str)) = true
    rw [layAllS xs h.2]
    show (PyData.strOk x && true) = true
    rw [h.1]; rfl
theorem depAllS : ∀ xs : List Str, PyData.depthAll (xs.map PyData.str) ≤ 2
  | [] => by simp [PyData.depthAll]
  | x :: xs => by
    rw [List.map_cons]
    simp only [PyData.depthAll]
    have h2 := depAllS xs
    have h1 : PyData.depth (.str x) ≤ 2 := by simp [PyData.depth]
    omega
theorem eqvAllS : ∀ xs ys : List Str, PyData.eqvAll (xs.map PyData.str) (ys.map PyData.str) = decide (xs = ys)
  | [], [] => rfl
  | [], y :: ys => by simp [PyData.eqvAll]
  | x :: xs, [] => by simp [PyData.eqvAll]
  | x :: xs, y :: ys => by
    rw [List.map_cons, List.map_cons]
    simp only [PyData.eqvAll]
    rw [show PyData.eqv (.str x) (.str y) = decide (x = y) by show (x == y) = decide (x = y); rw [Bool.beq_eq_decide_eq], eqvAllS xs ys, ← Bool.decide_and]
    exact decide_eq_decide.mpr ⟨fun h => by rw [h.1, h.2], fun h => by injection h with h1 h2; exact ⟨h1, h2⟩⟩
theorem shapedS {xs : List Str} (h : gLS xs) : SeqAt.shaped (.list (xs.map PyData.str)) = true := by
  unfold SeqAt.shaped
  have h1 : PyData.canLay0 (.list (xs.map PyData.str)) = true := layAllS xs h
  have h2 := depAllS xs
  rw [h1, decide_eq_true (by simp only [PyData.depth]; omega)]; rfl
theorem dpLS {xs : List Str} (h : (qQ (K := K) qS).R H v xs) : Dp K H v (.list (xs.map PyData.str)) := by
  obtain ⟨p, ws, rfl, h2, h3⟩ := h
  have e := ls_eq h3
  subst e
  exact .lst h2 (dpAllS xs)
theorem e_eqLS {xs ys : List Str} (gx : gLS xs) (gy : gLS ys) (h1 : (qQ (K := K) qS).R H x xs) (h2 : (qQ (K := K) qS).R H y ys) (k : Q (.bl (decide (xs = ys))) H) : rEqD K x y H Q :=
  ⟨_, _, dpLS h1, dpLS h2, shapedS gx, shapedS gy, by
    show Q (.bl (PyData.eqvAll _ _)) H
    rw [eqvAllS]; exact k⟩
theorem e_neLS {xs ys : List Str} (gx : gLS xs) (gy : gLS ys) (h1 : (qQ (K := K) qS).R H x xs) (h2 : (qQ (K := K) qS).R H y ys) (k : Q (.bl (!decide (xs = ys))) H) : rNeD K x y H Q :=
  ⟨_, _, dpLS h1, dpLS h2, shapedS gx, shapedS gy, by
    show Q (.bl (!PyData.eqvAll _ _)) H
    rw [eqvAllS]; exact k⟩
theorem v_eqLS {xs ys : List Str} (gx : gLS xs) (gy : gLS ys) (ha : Val ta σ H x) (hb : Val tb σ H y) (h1 : (qQ (K := K) qS).R H x xs) (h2 : (qQ (K := K) qS).R H y ys) : Val (tOp (rEqD K) ta tb) σ H (.bl (decide (xs = ys))) := fun Q k => ha _ (hb _ (e_eqLS gx gy h1 h2 k))
theorem v_neLS {xs ys : List Str} (gx : gLS xs) (gy : gLS ys) (ha : Val ta σ H x) (hb : Val tb σ H y) (h1 : (qQ (K := K) qS).R H x xs) (h2 : (qQ (K := K) qS).R H y ys) : Val (tOp (rNeD K) ta tb) σ H (.bl (!decide (xs = ys))) := fun Q k => ha _ (hb _ (e_neLS gx gy h1 h2 k))
/-! max of a list -/
def maxI : List Int → Option Int
  | [] => none
  | x :: xs => some (xs.foldl max x)
theorem foldl_max_le : ∀ (xs : List Int) (x y : Int), y ≤ x → y ≤ xs.foldl max x
  | [], _, _, h => h
  | z :: xs, x, y, h => foldl_max_le xs (max x z) y (by omega)
theorem foldl_max_mem : ∀ (xs : List Int) (x : Int), xs.foldl max x = x ∨ xs.foldl max x ∈ xs
  | [], _ => .inl rfl
  | z :: xs, x => by
    rcases foldl_max_mem xs (max x z) with h | h
    · by_cases hz : z ≤ x
      · left; show xs.foldl max (max x z) = x; rw [h]; omega
      · right; show xs.foldl max (max x z) ∈ z :: xs; rw [h, show max x z = z by omega]; exact List.mem_cons_self
    · right; exact List.mem_cons_of_mem _ h
theorem foldl_max_ub : ∀ (xs : List Int) (x : Int), ∀ y ∈ xs, y ≤ xs.foldl max x
  | z :: xs, x, y, h => by
    rcases List.mem_cons.mp h with e | e
    · subst e; exact foldl_max_le xs (max x y) y (by omega)
    · exact foldl_max_ub xs (max x z) y e
theorem e_maxL {xs : List Int} {m : Int} (hr : (qQ (K := K) qI).R H v xs) (hm : maxI xs = some m) (q : Q (.int m) H) : rMax K [v] H Q := by
  obtain ⟨p, ws, rfl, h2, h3⟩ := hr
  have e : ws = xs.map V.int := RL.eqmap V.int (fun v x h => h) h3
  subst e
  cases xs with
  | nil => cases hm
  | cons x xs =>
    cases (show some (xs.foldl max x) = some m from hm)
    refine ⟨p, x :: xs, rfl, h2, by simp, fun m' h1 h4 => ?_⟩
    have u1 : m' ≤ xs.foldl max x := by
      rcases List.mem_cons.mp h1 with e | e
      · subst e; exact foldl_max_le xs m' m' (Int.le_refl _)
      · exact foldl_max_ub xs x m' e
    have u2 : xs.foldl max x ≤ m' := by
      rcases foldl_max_mem xs x with e | e
      · rw [e]; exact h4 x List.mem_cons_self
      · exact h4 _ (List.mem_cons_of_mem _ e)
    rw [show m' = xs.foldl max x by omega]
    exact q
/-! {text: number, ..}.get(text, number) -/
theorem tPairs_disp {l : List (Str × Int)} {q : List (V × V) → Hp → Prop} : ∀ {H : Hp}, q (l.map fun p => (.str p.1, .int p.2)) H → tPairs (dspT l) σ H q := by
  induction l generalizing q with
  | nil => exact fun h => h
  | cons p l ih => exact fun {H} h => ih (q := fun ps H3 => q ((.str p.1, .int p.2) :: ps) H3) h
theorem putK_new {kvs : List (Key × V)} {c : Key} {w : V} (h : ∀ p ∈ kvs, p.1 ≠ c) : putK kvs c w = kvs ++ [(c, w)] := by
  unfold putK
  rw [if_neg]
  intro q
  obtain ⟨p, hp, e⟩ := List.any_eq_true.mp q
  exact h p hp (of_decide_eq_true e)
theorem merge_new : ∀ (more kvs : List (Key × V)), ((kvs ++ more).map (·.1)).Nodup → mergeK kvs more = kvs ++ more
  | [], kvs, _ => by rw [List.append_nil]; rfl
  | p :: more, kvs, h => by
    show mergeK (putK kvs p.1 p.2) more = _
    rw [List.map_append, List.nodup_append] at h
    rw [putK_new (fun z hz e => h.2.2 z.1 (List.mem_map_of_mem hz) p.1 (by rw [List.map_cons]; exact List.mem_cons_self) e)]
    rw [merge_new more (kvs ++ [(p.1, p.2)]) (by
      rw [List.append_assoc]
      show ((kvs ++ (p :: more)).map (·.1)).Nodup
      rw [List.map_append, List.nodup_append]
      exact h)]
    rw [List.append_assoc]; rfl
theorem valV_kvS : ∀ (l : List (Str × Int)) (k : Str), valV (kvS l) (.inr k) = (l.lookup k).map V.int
  | [], _ => rfl
  | p :: l, k => by
    have ih := valV_kvS l k
    unfold valV at ih ⊢
    show Option.map _ (List.find? _ (((Sum.inr p.1 : Key), V.int p.2) :: kvS l)) = _
    by_cases e : p.1 = k
    · subst e
      rw [List.find?_cons_of_pos (by simp)]
      rw [show (p :: l) = (p.1, p.2) :: l from rfl, List.lookup_cons_self]
      rfl
    · rw [List.find?_cons_of_neg (by simp; exact fun z => e z)]
      rw [show (p :: l) = (p.1, p.2) :: l from rfl, List.lookup_cons, show (k == p.1) = false from by
        rw [beq_eq_false_iff_ne]; exact fun z => e z.symm]
      exact ih
def tGetAt (p : Addr) (ty tx : TE) : TE := fun σ H Q => ty σ H fun y H2 => tx σ H2 fun z H3 => ∃ o, DGet H3 p y o ∧ Q (o.getD z) H3
theorem c_dsg1 {l : List (Str × Int)} (hl : l.length ≤ 15) (hn : (l.map (·.1)).Nodup) (k : ∀ p H1, Same H H1 → H1 p = some (.dK (kvS l)) → tGetAt p ty tx σ H1 Q) : tDGet2 (tDisp (dspT l)) ty tx σ H Q := by
  refine fun p hp => tPairs_disp ⟨upd_same, kvS l, ?_, by unfold kvS; rw [List.length_map]; exact hl, p, rfl, .inl ⟨_, .inl upd_same⟩, ?_⟩
  · unfold kvS
    rw [List.map_map]; rfl
  · have e : mergeK [] (kvS l) = kvS l := by
      have : ((([] : List (Key × V)) ++ kvS l).map (·.1)).Nodup := by
        rw [List.nil_append]
        unfold kvS
        rw [List.map_map]
        rw [List.nodup_iff_pairwise_ne, List.pairwise_map] at hn ⊢
        exact hn.imp fun h e => h (Sum.inr.inj e)
      rw [merge_new _ _ this]; rfl
    rw [e]
    have h1 : upd (upd H p (.dK [])) p (.dK (kvS l)) p = some (.dK (kvS l)) := upd_same
    refine k p _ (fun a o ha => ?_) h1
    have : a ≠ p := ne_of_none ha hp
    rw [upd_ne this, upd_ne this]; exact ha
theorem c_dsg2 {l : List (Str × Int)} {p : Addr} (ep : H p = some (.dK (kvS l))) (hk : Val ty σ H (.str k)) (hd : Val tx σ H (.int d)) (q : Q (.int ((l.lookup k).getD d)) H) : tGetAt p ty tx σ H Q :=
  hk _ (hd _ ⟨_, DGet.k (k := .inr k) ep, by
    rw [valV_kvS]
    cases e : l.lookup k with
    | none => rw [e] at q; exact q
    | some n => rw [e] at q; exact q⟩)
/-! replace of written texts -/
theorem v_repl {z w : Str} (ha : Val ta σ H (.str a)) (g : a.length + (a.length + 1) * w.length ≤ 16777216) : Val (tReplC ta z w) σ H (.str (Txt.replace a z w)) := fun Q q => ha _ ⟨a, rfl, g, q⟩
end
section
variable {X : Cx} {e : Expr} {te : TE} {rest : List Stmt} {u : TS}
/-- an expression behind which a token is out -/
def GT (X : Cx) (e : Expr) (te : TE) : Prop := ∀ (pins : List (Addr × Obj)) (s : Shared) (σ : L2.St) (H : Hp) (Q : VK), Inv X pins σ H s → te σ H Q →
  wpAny (model X.prog X.w) X.A (eval e X.env) (fun v s' => 1 ≤ s'.toks ∧ EP X pins σ Q v s') (fun e' s' => 1 ≤ s'.toks ∧ X.xe e' s') s
theorem gt_join {c : Str} {j : Nat} {cpos apos pos : Pos} (he : PE X e te) (hs : starEach [e] X.env = [(false, eval e X.env)] := by rfl)
    (hbase : attributeBase (.Constant (.str c) j cpos) "join" X.env (eval (.Constant (.str c) j cpos) X.env) = eval (.Constant (.str c) j cpos) X.env := by rfl) (hline : (apos.endLine == pos.line) = true := by rfl) :
    GT X (.Call (.Attribute (.Constant (.str c) j cpos) "join" apos) [e] [] pos) (tM1 (rJoin X.K) (tC (.str c)) te) := by
  intro pins s σ H Q I h
  refine PySem.Call_method1 hbase hs hline (Calls.Constant_str ?_)
  obtain ⟨_, h⟩ := h
  refine ⟨"str", _, F.plainAttrs_str, F.slot_str_join, F.type_str_join, typeIs_str _ _ _, (fun _ e => nomatch e), PySem.wpAny_toks_of (n := 1) (by show 1 ≤ s.toks + 1; omega) (Calls.callWith_builtin rfl (Calls.evalArgs_plain (Calls.spliced_cons ?_)))⟩
  exact thn (he.run pins { s with toks := s.toks + 1 } σ H _ (I.tok _) h) fun u s2 ⟨y, H2, I2, r2, q2⟩ => Calls.spliced_nil (mt_join pins s2 σ H2 (V.str c) [y] (Value.str c s.toks) [u] Q I2 (show ∃ t, Value.str c s.toks = Value.str c t from ⟨s.toks, rfl⟩) (.cons r2 .nil) q2)
theorem pss_setGT {i : Nat} {x : Str} {pos' pos : Pos} (hN : X.N.Nodup) (hi : X.N[i]? = some x) (hx : Loc X.env.scope x) (he : GT X e te) (h2 : PSsT X rest u)
    (hs : swapsWith e (some (.Name x pos')) pos.line X.env = pure false := by rfl) (hf : X.fn x = true ∨ X.env.scope.names.lookup x = some .local := by first | exact .inl rfl | exact .inr rfl | assumption) :
    PSs X (.Assign [.Name x pos'] e pos :: rest) (tSeq (tAsg te (gName i)) u) := by
  refine ⟨fun pins s σ H D I h => ?_⟩
  refine wpAny_execs_cons (wpAny_Assign_Name (wpAny_mono (he pins s σ H _ I h) (fun v s1 q => ?_) fun _ _ z => z.2) hs)
  obtain ⟨hk1, x', H1, I1, r1, q1⟩ := q
  refine wpAny_mono (PySem.wpAny_toks (store_ok (v := x') (u := v) (Q := fun _ s2 => Inv X pins (σ.set i (some x')) H1 s2) I1 hN hi hx r1 (fun _ I2 => I2) hf)) (fun _ s2 q => ?_) fun _ _ z => z.2
  have hk : s1.toks ≤ s2.toks := q.1
  exact h2 pins s2 _ H1 D (by omega) q.2 q1
end
end Z

namespace Z
open PySem PySem.Spec PyProof.Rows L2 CwR
/-! ### tuples of three and four -/
section
variable {K : PySem.W.Frag} {σ : L2.St} {S H : Hp} {v : V} {ta tb : TE} {Q : VK}
def qT4 {α β γ δ : Type} (τ : Rep K α) (υ : Rep K β) (φ : Rep K γ) (χ : Rep K δ) : Rep K (α × β × γ × δ) := ⟨fun H v x => ∃ a w1 w2 w3 w4, v = .ref a ∧ H a = some (.tup [w1, w2, w3, w4]) ∧ τ.R H w1 x.1 ∧ υ.R H w2 x.2.1 ∧ φ.R H w3 x.2.2.1 ∧ χ.R H w4 x.2.2.2, fun {H H' v x} e h => by
  obtain ⟨a, w1, w2, w3, w4, h1, h2, h3, h4, h5, h6⟩ := h
  exact ⟨a, w1, w2, w3, w4, h1, e _ _ h2, τ.mono e h3, υ.mono e h4, φ.mono e h5, χ.mono e h6⟩⟩
theorem v_p30 {α β γ : Type} {τ : Rep K α} {υ : Rep K β} {φ : Rep K γ} {p : α × β × γ} (e : Same S H) (hr : (qT3 τ υ φ).R S v p) : ∃ w, (∀ {σ : L2.St} {ta tb : TE}, Val ta σ H v → Val tb σ H (.int 0) → Val (tOp (rIxT K) ta tb) σ H w) ∧ τ.R S w p.1 := by
  obtain ⟨a, w1, w2, w3, rfl, h2, r1, r2, r3⟩ := hr
  exact ⟨w1, fun ha hb Q q => ha _ (hb _ ⟨a, _, 0, _, rfl, rfl, SqT.of (e _ _ h2), rfl, q⟩), r1⟩
theorem e_p30 {α β γ : Type} {τ : Rep K α} {υ : Rep K β} {φ : Rep K γ} {p : α × β × γ} (e : Same S H) (hr : (qT3 τ υ φ).R S v p) (k : ∀ w, τ.R S w p.1 → Q w H) : rIxT K v (.int 0) H Q := by
  obtain ⟨a, w1, w2, w3, rfl, h2, r1, r2, r3⟩ := hr
  exact ⟨a, _, 0, _, rfl, rfl, SqT.of (e _ _ h2), rfl, k _ r1⟩
theorem v_t30S {β γ : Type} {υ : Rep K β} {φ : Rep K γ} {p : Str × β × γ} (ha : Val ta σ H v) (hb : Val tb σ H (.int 0)) (hr : (qT3 qS υ φ).R H v p) : Val (tOp (rIxT K) ta tb) σ H (.str p.1) := fun Q z => by
  obtain ⟨a, w1, w2, w3, rfl, h2, r1, r2, r3⟩ := hr
  cases (show w1 = .str p.1 from r1)
  exact ha _ (hb _ ⟨a, _, 0, _, rfl, rfl, SqT.of h2, rfl, z⟩)
theorem v_t30B {β γ : Type} {υ : Rep K β} {φ : Rep K γ} {p : Bool × β × γ} (ha : Val ta σ H v) (hb : Val tb σ H (.int 0)) (hr : (qT3 qB υ φ).R H v p) : Val (tOp (rIxT K) ta tb) σ H (.bl p.1) := fun Q z => by
  obtain ⟨a, w1, w2, w3, rfl, h2, r1, r2, r3⟩ := hr
  cases (show w1 = .bl p.1 from r1)
  exact ha _ (hb _ ⟨a, _, 0, _, rfl, rfl, SqT.of h2, rfl, z⟩)
theorem v_p31 {α β γ : Type} {τ : Rep K α} {υ : Rep K β} {φ : Rep K γ} {p : α × β × γ} (e : Same S H) (hr : (qT3 τ υ φ).R S v p) : ∃ w, (∀ {σ : L2.St} {ta tb : TE}, Val ta σ H v → Val tb σ H (.int 1) → Val (tOp (rIxT K) ta tb) σ H w) ∧ υ.R S w p.2.1 := by
  obtain ⟨a, w1, w2, w3, rfl, h2, r1, r2, r3⟩ := hr
  exact ⟨w2, fun ha hb Q q => ha _ (hb _ ⟨a, _, 1, _, rfl, rfl, SqT.of (e _ _ h2), rfl, q⟩), r2⟩
theorem e_p31 {α β γ : Type} {τ : Rep K α} {υ : Rep K β} {φ : Rep K γ} {p : α × β × γ} (e : Same S H) (hr : (qT3 τ υ φ).R S v p) (k : ∀ w, υ.R S w p.2.1 → Q w H) : rIxT K v (.int 1) H Q := by
  obtain ⟨a, w1, w2, w3, rfl, h2, r1, r2, r3⟩ := hr
  exact ⟨a, _, 1, _, rfl, rfl, SqT.of (e _ _ h2), rfl, k _ r2⟩
theorem v_t31S {α γ : Type} {τ : Rep K α} {φ : Rep K γ} {p : α × Str × γ} (ha : Val ta σ H v) (hb : Val tb σ H (.int 1)) (hr : (qT3 τ qS φ).R H v p) : Val (tOp (rIxT K) ta tb) σ H (.str p.2.1) := fun Q z => by
  obtain ⟨a, w1, w2, w3, rfl, h2, r1, r2, r3⟩ := hr
  cases (show w2 = .str p.2.1 from r2)
  exact ha _ (hb _ ⟨a, _, 1, _, rfl, rfl, SqT.of h2, rfl, z⟩)
theorem v_t31B {α γ : Type} {τ : Rep K α} {φ : Rep K γ} {p : α × Bool × γ} (ha : Val ta σ H v) (hb : Val tb σ H (.int 1)) (hr : (qT3 τ qB φ).R H v p) : Val (tOp (rIxT K) ta tb) σ H (.bl p.2.1) := fun Q z => by
  obtain ⟨a, w1, w2, w3, rfl, h2, r1, r2, r3⟩ := hr
  cases (show w2 = .bl p.2.1 from r2)
  exact ha _ (hb _ ⟨a, _, 1, _, rfl, rfl, SqT.of h2, rfl, z⟩)
theorem v_p32 {α β γ : Type} {τ : Rep K α} {υ : Rep K β} {φ : Rep K γ} {p : α × β × γ} (e : Same S H) (hr : (qT3 τ υ φ).R S v p) : ∃ w, (∀ {σ : L2.St} {ta tb : TE}, Val ta σ H v → Val tb σ H (.int 2) → Val (tOp (rIxT K) ta tb) σ H w) ∧ φ.R S w p.2.2 := by
  obtain ⟨a, w1, w2, w3, rfl, h2, r1, r2, r3⟩ := hr
  exact ⟨w3, fun ha hb Q q => ha _ (hb _ ⟨a, _, 2, _, rfl, rfl, SqT.of (e _ _ h2), rfl, q⟩), r3⟩
theorem e_p32 {α β γ : Type} {τ : Rep K α} {υ : Rep K β} {φ : Rep K γ} {p : α × β × γ} (e : Same S H) (hr : (qT3 τ υ φ).R S v p) (k : ∀ w, φ.R S w p.2.2 → Q w H) : rIxT K v (.int 2) H Q := by
  obtain ⟨a, w1, w2, w3, rfl, h2, r1, r2, r3⟩ := hr
  exact ⟨a, _, 2, _, rfl, rfl, SqT.of (e _ _ h2), rfl, k _ r3⟩
theorem v_t32S {α β : Type} {τ : Rep K α} {υ : Rep K β} {p : α × β × Str} (ha : Val ta σ H v) (hb : Val tb σ H (.int 2)) (hr : (qT3 τ υ qS).R H v p) : Val (tOp (rIxT K) ta tb) σ H (.str p.2.2) := fun Q z => by
  obtain ⟨a, w1, w2, w3, rfl, h2, r1, r2, r3⟩ := hr
  cases (show w3 = .str p.2.2 from r3)
  exact ha _ (hb _ ⟨a, _, 2, _, rfl, rfl, SqT.of h2, rfl, z⟩)
theorem v_t32B {α β : Type} {τ : Rep K α} {υ : Rep K β} {p : α × β × Bool} (ha : Val ta σ H v) (hb : Val tb σ H (.int 2)) (hr : (qT3 τ υ qB).R H v p) : Val (tOp (rIxT K) ta tb) σ H (.bl p.2.2) := fun Q z => by
  obtain ⟨a, w1, w2, w3, rfl, h2, r1, r2, r3⟩ := hr
  cases (show w3 = .bl p.2.2 from r3)
  exact ha _ (hb _ ⟨a, _, 2, _, rfl, rfl, SqT.of h2, rfl, z⟩)
theorem v_lenT3 {α β γ : Type} {τ : Rep K α} {υ : Rep K β} {φ : Rep K γ} {p : α × β × γ} (ha : Val ta σ H v) (hr : (qT3 τ υ φ).R H v p) : Val (tCB (rLenS K) (tCons ta tNil)) σ H (.int 3) := by
  obtain ⟨a, w1, w2, w3, rfl, h2, _⟩ := hr
  exact fun Q q => ha _ ⟨a, _, rfl, .inr (SqT.of h2), q⟩
theorem nn_t3 {α β γ : Type} {τ : Rep K α} {υ : Rep K β} {φ : Rep K γ} {p : α × β × γ} (h : (qT3 τ υ φ).R H v p) : v ≠ .non := by
  obtain ⟨a, w1, w2, w3, rfl, _⟩ := h
  exact fun z => nomatch z
theorem v_p40 {α β γ δ : Type} {τ : Rep K α} {υ : Rep K β} {φ : Rep K γ} {χ : Rep K δ} {p : α × β × γ × δ} (e : Same S H) (hr : (qT4 τ υ φ χ).R S v p) : ∃ w, (∀ {σ : L2.St} {ta tb : TE}, Val ta σ H v → Val tb σ H (.int 0) → Val (tOp (rIxT K) ta tb) σ H w) ∧ τ.R S w p.1 := by
  obtain ⟨a, w1, w2, w3, w4, rfl, h2, r1, r2, r3, r4⟩ := hr
  exact ⟨w1, fun ha hb Q q => ha _ (hb _ ⟨a, _, 0, _, rfl, rfl, SqT.of (e _ _ h2), rfl, q⟩), r1⟩
theorem e_p40 {α β γ δ : Type} {τ : Rep K α} {υ : Rep K β} {φ : Rep K γ} {χ : Rep K δ} {p : α × β × γ × δ} (e : Same S H) (hr : (qT4 τ υ φ χ).R S v p) (k : ∀ w, τ.R S w p.1 → Q w H) : rIxT K v (.int 0) H Q := by
  obtain ⟨a, w1, w2, w3, w4, rfl, h2, r1, r2, r3, r4⟩ := hr
  exact ⟨a, _, 0, _, rfl, rfl, SqT.of (e _ _ h2), rfl, k _ r1⟩
theorem v_t40 {β γ δ : Type} {υ : Rep K β} {φ : Rep K γ} {χ : Rep K δ} {p : Int × β × γ × δ} (ha : Val ta σ H v) (hb : Val tb σ H (.int 0)) (hr : (qT4 qI υ φ χ).R H v p) : Val (tOp (rIxT K) ta tb) σ H (.int p.1) := fun Q z => by
  obtain ⟨a, w1, w2, w3, w4, rfl, h2, r1, r2, r3, r4⟩ := hr
  cases (show w1 = .int p.1 from r1)
  exact ha _ (hb _ ⟨a, _, 0, _, rfl, rfl, SqT.of h2, rfl, z⟩)
theorem v_t40S {β γ δ : Type} {υ : Rep K β} {φ : Rep K γ} {χ : Rep K δ} {p : Str × β × γ × δ} (ha : Val ta σ H v) (hb : Val tb σ H (.int 0)) (hr : (qT4 qS υ φ χ).R H v p) : Val (tOp (rIxT K) ta tb) σ H (.str p.1) := fun Q z => by
  obtain ⟨a, w1, w2, w3, w4, rfl, h2, r1, r2, r3, r4⟩ := hr
  cases (show w1 = .str p.1 from r1)
  exact ha _ (hb _ ⟨a, _, 0, _, rfl, rfl, SqT.of h2, rfl, z⟩)
theorem v_t40B {β γ δ : Type} {υ : Rep K β} {φ : Rep K γ} {χ : Rep K δ} {p : Bool × β × γ × δ} (ha : Val ta σ H v) (hb : Val tb σ H (.int 0)) (hr : (qT4 qB υ φ χ).R H v p) : Val (tOp (rIxT K) ta tb) σ H (.bl p.1) := fun Q z => by
  obtain ⟨a, w1, w2, w3, w4, rfl, h2, r1, r2, r3, r4⟩ := hr
  cases (show w1 = .bl p.1 from r1)
  exact ha _ (hb _ ⟨a, _, 0, _, rfl, rfl, SqT.of h2, rfl, z⟩)
theorem v_p41 {α β γ δ : Type} {τ : Rep K α} {υ : Rep K β} {φ : Rep K γ} {χ : Rep K δ} {p : α × β × γ × δ} (e : Same S H) (hr : (qT4 τ υ φ χ).R S v p) : ∃ w, (∀ {σ : L2.St} {ta tb : TE}, Val ta σ H v → Val tb σ H (.int 1) → Val (tOp (rIxT K) ta tb) σ H w) ∧ υ.R S w p.2.1 := by
  obtain ⟨a, w1, w2, w3, w4, rfl, h2, r1, r2, r3, r4⟩ := hr
  exact ⟨w2, fun ha hb Q q => ha _ (hb _ ⟨a, _, 1, _, rfl, rfl, SqT.of (e _ _ h2), rfl, q⟩), r2⟩
theorem e_p41 {α β γ δ : Type} {τ : Rep K α} {υ : Rep K β} {φ : Rep K γ} {χ : Rep K δ} {p : α × β × γ × δ} (e : Same S H) (hr : (qT4 τ υ φ χ).R S v p) (k : ∀ w, υ.R S w p.2.1 → Q w H) : rIxT K v (.int 1) H Q := by
  obtain ⟨a, w1, w2, w3, w4, rfl, h2, r1, r2, r3, r4⟩ := hr
  exact ⟨a, _, 1, _, rfl, rfl, SqT.of (e _ _ h2), rfl, k _ r2⟩
theorem v_t41 {α γ δ : Type} {τ : Rep K α} {φ : Rep K γ} {χ : Rep K δ} {p : α × Int × γ × δ} (ha : Val ta σ H v) (hb : Val tb σ H (.int 1)) (hr : (qT4 τ qI φ χ).R H v p) : Val (tOp (rIxT K) ta tb) σ H (.int p.2.1) := fun Q z => by
  obtain ⟨a, w1, w2, w3, w4, rfl, h2, r1, r2, r3, r4⟩ := hr
  cases (show w2 = .int p.2.1 from r2)
  exact ha _ (hb _ ⟨a, _, 1, _, rfl, rfl, SqT.of h2, rfl, z⟩)
theorem v_t41S {α γ δ : Type} {τ : Rep K α} {φ : Rep K γ} {χ : Rep K δ} {p : α × Str × γ × δ} (ha : Val ta σ H v) (hb : Val tb σ H (.int 1)) (hr : (qT4 τ qS φ χ).R H v p) : Val (tOp (rIxT K) ta tb) σ H (.str p.2.1) := fun Q z => by
  obtain ⟨a, w1, w2, w3, w4, rfl, h2, r1, r2, r3, r4⟩ := hr
  cases (show w2 = .str p.2.1 from r2)
  exact ha _ (hb _ ⟨a, _, 1, _, rfl, rfl, SqT.of h2, rfl, z⟩)
theorem v_t41B {α γ δ : Type} {τ : Rep K α} {φ : Rep K γ} {χ : Rep K δ} {p : α × Bool × γ × δ} (ha : Val ta σ H v) (hb : Val tb σ H (.int 1)) (hr : (qT4 τ qB φ χ).R H v p) : Val (tOp (rIxT K) ta tb) σ H (.bl p.2.1) := fun Q z => by
  obtain ⟨a, w1, w2, w3, w4, rfl, h2, r1, r2, r3, r4⟩ := hr
  cases (show w2 = .bl p.2.1 from r2)
  exact ha _ (hb _ ⟨a, _, 1, _, rfl, rfl, SqT.of h2, rfl, z⟩)
theorem v_p42 {α β γ δ : Type} {τ : Rep K α} {υ : Rep K β} {φ : Rep K γ} {χ : Rep K δ} {p : α × β × γ × δ} (e : Same S H) (hr : (qT4 τ υ φ χ).R S v p) : ∃ w, (∀ {σ : L2.St} {ta tb : TE}, Val ta σ H v → Val tb σ H (.int 2) → Val (tOp (rIxT K) ta tb) σ H w) ∧ φ.R S w p.2.2.1 := by
  obtain ⟨a, w1, w2, w3, w4, rfl, h2, r1, r2, r3, r4⟩ := hr
  exact ⟨w3, fun ha hb Q q => ha _ (hb _ ⟨a, _, 2, _, rfl, rfl, SqT.of (e _ _ h2), rfl, q⟩), r3⟩
theorem e_p42 {α β γ δ : Type} {τ : Rep K α} {υ : Rep K β} {φ : Rep K γ} {χ : Rep K δ} {p : α × β × γ × δ} (e : Same S H) (hr : (qT4 τ υ φ χ).R S v p) (k : ∀ w, φ.R S w p.2.2.1 → Q w H) : rIxT K v (.int 2) H Q := by
  obtain ⟨a, w1, w2, w3, w4, rfl, h2, r1, r2, r3, r4⟩ := hr
  exact ⟨a, _, 2, _, rfl, rfl, SqT.of (e _ _ h2), rfl, k _ r3⟩
theorem v_t42 {α β δ : Type} {τ : Rep K α} {υ : Rep K β} {χ : Rep K δ} {p : α × β × Int × δ} (ha : Val ta σ H v) (hb : Val tb σ H (.int 2)) (hr : (qT4 τ υ qI χ).R H v p) : Val (tOp (rIxT K) ta tb) σ H (.int p.2.2.1) := fun Q z => by
  obtain ⟨a, w1, w2, w3, w4, rfl, h2, r1, r2, r3, r4⟩ := hr
  cases (show w3 = .int p.2.2.1 from r3)
  exact ha _ (hb _ ⟨a, _, 2, _, rfl, rfl, SqT.of h2, rfl, z⟩)
theorem v_t42S {α β δ : Type} {τ : Rep K α} {υ : Rep K β} {χ : Rep K δ} {p : α × β × Str × δ} (ha : Val ta σ H v) (hb : Val tb σ H (.int 2)) (hr : (qT4 τ υ qS χ).R H v p) : Val (tOp (rIxT K) ta tb) σ H (.str p.2.2.1) := fun Q z => by
  obtain ⟨a, w1, w2, w3, w4, rfl, h2, r1, r2, r3, r4⟩ := hr
  cases (show w3 = .str p.2.2.1 from r3)
  exact ha _ (hb _ ⟨a, _, 2, _, rfl, rfl, SqT.of h2, rfl, z⟩)
theorem v_t42B {α β δ : Type} {τ : Rep K α} {υ : Rep K β} {χ : Rep K δ} {p : α × β × Bool × δ} (ha : Val ta σ H v) (hb : Val tb σ H (.int 2)) (hr : (qT4 τ υ qB χ).R H v p) : Val (tOp (rIxT K) ta tb) σ H (.bl p.2.2.1) := fun Q z => by
  obtain ⟨a, w1, w2, w3, w4, rfl, h2, r1, r2, r3, r4⟩ := hr
  cases (show w3 = .bl p.2.2.1 from r3)
  exact ha _ (hb _ ⟨a, _, 2, _, rfl, rfl, SqT.of h2, rfl, z⟩)
theorem v_p43 {α β γ δ : Type} {τ : Rep K α} {υ : Rep K β} {φ : Rep K γ} {χ : Rep K δ} {p : α × β × γ × δ} (e : Same S H) (hr : (qT4 τ υ φ χ).R S v p) : ∃ w, (∀ {σ : L2.St} {ta tb : TE}, Val ta σ H v → Val tb σ H (.int 3) → Val (tOp (rIxT K) ta tb) σ H w) ∧ χ.R S w p.2.2.2 := by
  obtain ⟨a, w1, w2, w3, w4, rfl, h2, r1, r2, r3, r4⟩ := hr
  exact ⟨w4, fun ha hb Q q => ha _ (hb _ ⟨a, _, 3, _, rfl, rfl, SqT.of (e _ _ h2), rfl, q⟩), r4⟩
theorem e_p43 {α β γ δ : Type} {τ : Rep K α} {υ : Rep K β} {φ : Rep K γ} {χ : Rep K δ} {p : α × β × γ × δ} (e : Same S H) (hr : (qT4 τ υ φ χ).R S v p) (k : ∀ w, χ.R S w p.2.2.2 → Q w H) : rIxT K v (.int 3) H Q := by
  obtain ⟨a, w1, w2, w3, w4, rfl, h2, r1, r2, r3, r4⟩ := hr
  exact ⟨a, _, 3, _, rfl, rfl, SqT.of (e _ _ h2), rfl, k _ r4⟩
theorem v_t43 {α β γ : Type} {τ : Rep K α} {υ : Rep K β} {φ : Rep K γ} {p : α × β × γ × Int} (ha : Val ta σ H v) (hb : Val tb σ H (.int 3)) (hr : (qT4 τ υ φ qI).R H v p) : Val (tOp (rIxT K) ta tb) σ H (.int p.2.2.2) := fun Q z => by
  obtain ⟨a, w1, w2, w3, w4, rfl, h2, r1, r2, r3, r4⟩ := hr
  cases (show w4 = .int p.2.2.2 from r4)
  exact ha _ (hb _ ⟨a, _, 3, _, rfl, rfl, SqT.of h2, rfl, z⟩)
theorem v_t43S {α β γ : Type} {τ : Rep K α} {υ : Rep K β} {φ : Rep K γ} {p : α × β × γ × Str} (ha : Val ta σ H v) (hb : Val tb σ H (.int 3)) (hr : (qT4 τ υ φ qS).R H v p) : Val (tOp (rIxT K) ta tb) σ H (.str p.2.2.2) := fun Q z => by
  obtain ⟨a, w1, w2, w3, w4, rfl, h2, r1, r2, r3, r4⟩ := hr
  cases (show w4 = .str p.2.2.2 from r4)
  exact ha _ (hb _ ⟨a, _, 3, _, rfl, rfl, SqT.of h2, rfl, z⟩)
theorem v_t43B {α β γ : Type} {τ : Rep K α} {υ : Rep K β} {φ : Rep K γ} {p : α × β × γ × Bool} (ha : Val ta σ H v) (hb : Val tb σ H (.int 3)) (hr : (qT4 τ υ φ qB).R H v p) : Val (tOp (rIxT K) ta tb) σ H (.bl p.2.2.2) := fun Q z => by
  obtain ⟨a, w1, w2, w3, w4, rfl, h2, r1, r2, r3, r4⟩ := hr
  cases (show w4 = .bl p.2.2.2 from r4)
  exact ha _ (hb _ ⟨a, _, 3, _, rfl, rfl, SqT.of h2, rfl, z⟩)
theorem v_lenT4 {α β γ δ : Type} {τ : Rep K α} {υ : Rep K β} {φ : Rep K γ} {χ : Rep K δ} {p : α × β × γ × δ} (ha : Val ta σ H v) (hr : (qT4 τ υ φ χ).R H v p) : Val (tCB (rLenS K) (tCons ta tNil)) σ H (.int 4) := by
  obtain ⟨a, w1, w2, w3, w4, rfl, h2, _⟩ := hr
  exact fun Q q => ha _ ⟨a, _, rfl, .inr (SqT.of h2), q⟩
theorem nn_t4 {α β γ δ : Type} {τ : Rep K α} {υ : Rep K β} {φ : Rep K γ} {χ : Rep K δ} {p : α × β × γ × δ} (h : (qT4 τ υ φ χ).R H v p) : v ≠ .non := by
  obtain ⟨a, w1, w2, w3, w4, rfl, _⟩ := h
  exact fun z => nomatch z
theorem ty_t4 {α β γ δ : Type} {τ : Rep K α} {υ : Rep K β} {φ : Rep K γ} {χ : Rep K δ} {p : α × β × γ × δ} (hr : (qT4 τ υ φ χ).R H v p) : TyX K H v (.type "tuple") := by
  obtain ⟨a, w1, w2, w3, w4, rfl, h2, _⟩ := hr
  exact .base (.tup h2)
theorem g_tup4 {n : Nat} {α β γ δ : Type} {τ : Rep K α} {υ : Rep K β} {φ : Rep K γ} {χ : Rep K δ} {p : α × β × γ × δ} {t1 t2 t3 t4 : TG} {q : L2.St → Hp → Prop} (hn : 4 = n) (e : Same S H) (h : (qT4 τ υ φ χ).R S v p) (k : ∀ w1 w2 w3 w4, τ.R S w1 p.1 → υ.R S w2 p.2.1 → φ.R S w3 p.2.2.1 → χ.R S w4 p.2.2.2 → t1 w1 σ H fun σ1 H1 => gCons t2 (gCons t3 (gCons t4 gNil)) [w2, w3, w4] σ1 H1 q) : gTup K n (gCons t1 (gCons t2 (gCons t3 (gCons t4 gNil)))) v σ H q := by
  subst hn
  obtain ⟨a, w1, w2, w3, w4, rfl, h2, h3, h4, h5, h6⟩ := h
  exact ⟨a, _, rfl, SqT.of (e _ _ h2), rfl, w1, _, rfl, k w1 w2 w3 w4 h3 h4 h5 h6⟩
end
/-! ### trees: ("lamp", number), ("sure", truth), (word, [trees]) -/
inductive Tr | lamp (i : Int) | sure (b : Bool) | node (w : Str) (xs : List Tr)
mutual
inductive RTr (H : Hp) : V → Tr → Prop
  | lamp {a : Addr} {i : Int} : H a = some (.tup [.str "lamp", .int i]) → RTr H (.ref a) (.lamp i)
  | sure {a : Addr} {b : Bool} : H a = some (.tup [.str "sure", .bl b]) → RTr H (.ref a) (.sure b)
  | node {a l : Addr} {w : Str} {ws : List V} {xs : List Tr} : H a = some (.tup [.str w, .ref l]) → H l = some (.lst ws) → RTrs H ws xs → RTr H (.ref a) (.node w xs)
inductive RTrs (H : Hp) : List V → List Tr → Prop
  | nil : RTrs H [] []
  | cons {v : V} {x : Tr} {vs : List V} {xs : List Tr} : RTr H v x → RTrs H vs xs → RTrs H (v :: vs) (x :: xs)
end
mutual
theorem RTr.mono {H H' : Hp} (e : Same H H') : ∀ {v : V} {x : Tr}, RTr H v x → RTr H' v x
  | _, _, .lamp h => .lamp (e _ _ h)
  | _, _, .sure h => .sure (e _ _ h)
  | _, _, .node h1 h2 h3 => .node (e _ _ h1) (e _ _ h2) (RTrs.mono e h3)
theorem RTrs.mono {H H' : Hp} (e : Same H H') : ∀ {v : List V} {x : List Tr}, RTrs H v x → RTrs H' v x
  | _, _, .nil => .nil
  | _, _, .cons a b => .cons (RTr.mono e a) (RTrs.mono e b)
end
def Tr.word : Tr → Str
  | .lamp _ => "lamp"
  | .sure _ => "sure"
  | .node w _ => w
def Tr.getI : Tr → Option Int
  | .lamp i => some i
  | _ => none
def Tr.getB : Tr → Option Bool
  | .sure b => some b
  | _ => none
def Tr.getL : Tr → Option (List Tr)
  | .node _ xs => some xs
  | _ => none
section
variable {K : PySem.W.Frag} {σ : L2.St} {S H : Hp} {v : V} {ta tb tc : TE} {x : Tr}
def qTr : Rep K Tr := ⟨fun H v x => RTr H v x, fun e h => RTr.mono e h⟩
theorem RTrs.to : ∀ {ws : List V} {xs : List Tr}, RTrs H ws xs → RL (qTr (K := K)) H ws xs
  | _, _, .nil => .nil
  | _, _, .cons a b => .cons a b.to
theorem RTrs.of : ∀ {ws : List V} {xs : List Tr}, RL (qTr (K := K)) H ws xs → RTrs H ws xs
  | _, _, .nil => .nil
  | _, _, .cons a b => .cons a (RTrs.of b)
theorem nn_tr (h : (qTr (K := K)).R H v x) : v ≠ .non := by
  cases h <;> exact fun z => nomatch z
theorem qTrI {i : Int} (h : (qT2 (K := K) qS qI).R S v ("lamp", i)) : (qTr (K := K)).R S v (.lamp i) := by
  obtain ⟨a, w1, w2, rfl, h2, h3, h4⟩ := h
  cases (show w1 = .str "lamp" from h3)
  cases (show w2 = .int i from h4)
  exact .lamp h2
theorem qTrB {i : Bool} (h : (qT2 (K := K) qS qB).R S v ("sure", i)) : (qTr (K := K)).R S v (.sure i) := by
  obtain ⟨a, w1, w2, rfl, h2, h3, h4⟩ := h
  cases (show w1 = .str "sure" from h3)
  cases (show w2 = .bl i from h4)
  exact .sure h2
theorem qTrN {w : Str} {xs : List Tr} (h : (qT2 (K := K) qS (qL qTr)).R S v (w, xs)) : (qTr (K := K)).R S v (.node w xs) := by
  obtain ⟨a, w1, w2, rfl, h2, h3, h4⟩ := h
  cases (show w1 = .str w from h3)
  obtain ⟨l, ws, rfl, h5, h6⟩ := h4
  exact .node h2 h5 (RTrs.of h6)
theorem v_tr0 (ha : Val ta σ H v) (hb : Val tb σ H (.int 0)) (h : (qTr (K := K)).R H v x) : Val (tOp (rIxT K) ta tb) σ H (.str x.word) := by
  cases h with
  | lamp h => exact fun Q r => ha _ (hb _ ⟨_, _, 0, _, rfl, rfl, SqT.of h, L2.atI_nat (j := 0) rfl, r⟩)
  | sure h => exact fun Q r => ha _ (hb _ ⟨_, _, 0, _, rfl, rfl, SqT.of h, L2.atI_nat (j := 0) rfl, r⟩)
  | node h _ _ => exact fun Q r => ha _ (hb _ ⟨_, _, 0, _, rfl, rfl, SqT.of h, L2.atI_nat (j := 0) rfl, r⟩)
theorem v_trI {y : Int} (ha : Val ta σ H v) (hb : Val tb σ H (.int 1)) (h : (qTr (K := K)).R H v x) (e : x.getI = some y) : Val (tOp (rIxT K) ta tb) σ H (.int y) := by
  cases h with
  | lamp h =>
    cases Option.some.inj e
    exact fun Q r => ha _ (hb _ ⟨_, _, 1, _, rfl, rfl, SqT.of h, L2.atI_nat (j := 1) rfl, r⟩)
  | sure h => cases e
  | node h _ _ => cases e
theorem v_trB {y : Bool} (ha : Val ta σ H v) (hb : Val tb σ H (.int 1)) (h : (qTr (K := K)).R H v x) (e : x.getB = some y) : Val (tOp (rIxT K) ta tb) σ H (.bl y) := by
  cases h with
  | lamp h => cases e
  | sure h =>
    cases Option.some.inj e
    exact fun Q r => ha _ (hb _ ⟨_, _, 1, _, rfl, rfl, SqT.of h, L2.atI_nat (j := 1) rfl, r⟩)
  | node h _ _ => cases e
theorem v_trL {y : List Tr} (eS : Same S H) (h : (qTr (K := K)).R S v x) (e : x.getL = some y) : ∃ w, (∀ {σ : L2.St} {ta tb : TE}, Val ta σ H v → Val tb σ H (.int 1) → Val (tOp (rIxT K) ta tb) σ H w) ∧ (qL (qTr (K := K))).R S w y := by
  cases h with
  | lamp h => cases e
  | sure h => cases e
  | node h h2 h3 =>
    cases Option.some.inj e
    exact ⟨_, fun ha hb Q r => ha _ (hb _ ⟨_, _, 1, _, rfl, rfl, SqT.of (eS _ _ h), L2.atI_nat (j := 1) rfl, r⟩), _, _, rfl, h2, h3.to⟩
/-! ### a module's tuples of texts -/
theorem atI_map {α β : Type} (f : α → β) {xs : List α} {i : Int} {x : α} (h : L2.atI xs i = some x) : L2.atI (xs.map f) i = some (f x) := by
  unfold L2.atI at h ⊢
  rw [List.length_map]
  cases e : L2.ixN xs.length i with
  | none => rw [e] at h; cases h
  | some j =>
    rw [e] at h
    show (xs.map f)[j]? = _
    rw [List.getElem?_map]
    have h : xs[j]? = some x := h
    rw [h]; rfl
theorem sqt_K {H : Hp} {a : Addr} {od : Option Addr} {its : Array Value} {n : Nat} {sl : Array (Option Value)} {xs : List V} (h : K.lookup a = some ⟨.type "tuple", od, .seq its n, sl⟩) (hz : its.size ≤ 16) (r : Vals xs its.toList) : SqT K H a xs :=
  .inr ⟨_, its, n, h, rfl, rfl, Nat.le_trans hz (by rw [sizeLine_eq]; decide), r⟩
theorem v_lenC {a : Addr} {xs : List Str} (ha : Val ta σ H (.ref a)) (h : SqT K H a (xs.map V.str)) : Val (tCB (rLenS K) (tCons ta tNil)) σ H (.int (xs.length : Int)) := by
  refine fun Q q => ha _ ⟨a, _, rfl, .inr h, ?_⟩
  rw [List.length_map]; exact q
theorem v_ixC {a : Addr} {xs : List Str} {i : Int} {s : Str} (ha : Val ta σ H (.ref a)) (hb : Val tb σ H (.int i)) (h : SqT K H a (xs.map V.str)) (e : L2.atI xs i = some s) : Val (tOp (rIxT K) ta tb) σ H (.str s) :=
  fun Q r => ha _ (hb _ ⟨a, _, i, _, rfl, rfl, h, atI_map V.str e, r⟩)
theorem v_inC {a : Addr} {xs : List Str} {s : Str} (ha : Val ta σ H (.str s)) (hb : Val tb σ H (.ref a)) (h : SqT K H a (xs.map V.str)) : Val (tOp (rIn K false) ta tb) σ H (.bl (xs.any fun y => decide (y = s))) :=
  fun Q q => ha _ (hb _ ⟨a, _, rfl, .inr h, rfl, by rw [List.all_map]; exact List.all_eq_true.mpr fun _ _ => rfl, by
    show Q (.bl (inV _ _)) H
    rw [inV_str]; exact q⟩)
theorem v_ninC {a : Addr} {xs : List Str} {s : Str} (ha : Val ta σ H (.str s)) (hb : Val tb σ H (.ref a)) (h : SqT K H a (xs.map V.str)) : Val (tOp (rIn K true) ta tb) σ H (.bl (!(xs.any fun y => decide (y = s)))) :=
  fun Q q => ha _ (hb _ ⟨a, _, rfl, .inr h, rfl, by rw [List.all_map]; exact List.all_eq_true.mpr fun _ _ => rfl, by
    show Q (.bl (!inV _ _)) H
    rw [inV_str]; exact q⟩)
def idxN : List Str → Str → Option Nat
  | [], _ => none
  | x :: xs, s => if x = s then some 0 else (idxN xs s).map (· + 1)
def idxS (xs : List Str) (s : Str) : Option Int := (idxN xs s).map fun (n : Nat) => (n : Int)
theorem idxN_some : ∀ {xs : List Str} {s : Str} {j : Nat}, idxN xs s = some j → xs[j]? = some s ∧ ∀ m z, m < j → xs[m]? = some z → z ≠ s
  | [], _, _, h => by cases h
  | x :: xs, s, j, h => by
    unfold idxN at h
    split at h
    · rename_i e
      cases h
      exact ⟨by rw [e]; rfl, fun m z hm => by omega⟩
    · rename_i e
      obtain ⟨k, hk, rfl⟩ := Option.map_eq_some_iff.mp h
      obtain ⟨h1, h2⟩ := idxN_some hk
      refine ⟨by simpa using h1, fun m z hm hz => ?_⟩
      cases m with
      | zero => cases (show some x = some z from hz); exact e
      | succ m => exact h2 m z (by omega) (by simpa using hz)
theorem v_indexS {xs : List Str} {s : Str} {j : Int} (ha : Val ta σ H v) (hr : (qQ (K := K) qS).R H v xs) (hb : Val tb σ H (.str s)) (e : idxS xs s = some j) : Val (tBM K "list" (rIndex K) ta (tCons tb tNil)) σ H (.int j) := by
  obtain ⟨p, ws, rfl, h2, h3⟩ := hr
  have ew := ls_eq h3
  subst ew
  obtain ⟨n, en, rfl⟩ := Option.map_eq_some_iff.mp e
  obtain ⟨h4, h5⟩ := idxN_some en
  refine fun Q q => ha _ ⟨.inl ⟨rfl, _, h2⟩, hb _ ⟨p, _, .str s, n, .str s, rfl, rfl, h2, rfl, by rw [List.all_map]; exact List.all_eq_true.mpr fun _ _ => rfl, by rw [List.getElem?_map, h4]; rfl, ?_, fun m z hm hz => ?_, q⟩⟩
  · show (s == s) = true
    exact beq_self_eq_true s
  · rw [List.getElem?_map] at hz
    obtain ⟨y, hy, rfl⟩ := Option.map_eq_some_iff.mp hz
    show (y == s) = false
    exact beq_eq_false_iff_ne.mpr (h5 m y hm hy)
/-- a field of one's own += a number -/
theorem z_fldaug {D : Ends} {tu : TS} {tv : TE} {L : List Addr} {S0 H0 : Hp} {l C dx : Addr} {fs fs' : List (Str × V)} {f : Str} {i j n : Int} (g : Grow L S0 H0 S H) (cl : Cel L H0 S H l (.ins C dx fs)) (ho : Val ta σ H (.ref l)) (c : Cls K C) (nA : NoAttr K C f)
    (lk : fs.lookup f = some (.int i)) (hv : Val tv σ H (.int j)) (hn : fs.length < 1000) (e : i + j = n) (he : putF f (.int n) fs = fs')
    (k : ∀ H', Grow L S0 H0 S H' → Cel L H0 S H' l (.ins C dx fs') → (∀ l' o', l' ≠ l → Cel L H0 S H l' o' → Cel L H0 S H' l' o') → tu D σ H') : tSeq (sFldAug K ta tv rAdd f) tu D σ H := by
  subst e he
  exact ho _ ⟨l, C, dx, fs, _, rfl, cl.h, c, nA, lk, hv _ ⟨i, j, rfl, rfl, dx, fs, cl.h, hn, k _ (g.wr cl rfl) (cl.wr rfl) fun l' o' n c => c.wrn n⟩⟩
/-! ### a list of lists of one's own, of which nothing is to be known but that they are lists -/
structure LOX (L : List Addr) (H0 S H : Hp) (l : Addr) (as bs : List Addr) (n : Nat) : Prop where
  cel : ∀ b ∈ bs, ∃ ws, Cel L H0 S H b (.lst ws)
  zz : ∀ b ∈ bs, H0 b = none
  ne : ∀ b ∈ bs, b ≠ l
  len : (as ++ bs).length = n
/-- the new ones that a def has put there -/
def LXN (H S' H' : Hp) (bs : List Addr) : Prop := ∀ b ∈ bs, H b = none ∧ S' b = none ∧ ∃ ws, H' b = some (.lst ws)
variable {L L' : List Addr} {S0 H0 S' H' S1 : Hp} {l p : Addr} {as bs : List Addr} {n n' : Nat} {Q : VK}
theorem LOX.nil (h : as.length = n) : LOX L H0 S H l as [] n := ⟨fun _ h => (nomatch h), fun _ h => (nomatch h), fun _ h => (nomatch h), by rw [List.append_nil]; exact h⟩
theorem LOX.mlen (h : LOX L H0 S H l as bs n) : ((as ++ bs).map V.ref).length = n := by rw [List.length_map]; exact h.len
theorem LOX.ext (h : LOX L H0 S H l as bs n) (e : Same H H') : LOX L H0 S H' l as bs n := ⟨fun b hb => by
  obtain ⟨ws, c⟩ := h.cel b hb
  exact ⟨ws, c.ext e⟩, h.zz, h.ne, h.len⟩
theorem LOX.grow0 (h : LOX L H0 S H l as bs n) (g : Grow [] S H S1 H') : LOX L H0 S1 H' l as bs n := ⟨fun b hb => by
  obtain ⟨ws, c⟩ := h.cel b hb
  exact ⟨ws, c.call0 g⟩, h.zz, h.ne, h.len⟩
theorem LOX.grow (h : LOX L H0 S H l as bs n) (g : Grow L' S H S1 H') (hn : ∀ b ∈ bs, b ∉ L') : LOX L H0 S1 H' l as bs n := ⟨fun b hb => by
  obtain ⟨ws, c⟩ := h.cel b hb
  exact ⟨ws, c.call g (hn b hb)⟩, h.zz, h.ne, h.len⟩
theorem LOX.neN (h : LOX L H0 S H l as bs n) (hp : H p = none) : ∀ b ∈ bs, b ≠ p := fun b hb e => by
  obtain ⟨ws, c⟩ := h.cel b hb
  rw [← e, c.h] at hp; cases hp
theorem LOX.nei (h : LOX L H0 S H l as bs n) {C dx : Addr} {fs : List (Str × V)} (hp : H p = some (.ins C dx fs)) : ∀ b ∈ bs, b ≠ p := fun b hb e => by
  obtain ⟨ws, c⟩ := h.cel b hb
  have q := c.h
  rw [e, hp] at q; cases q
theorem LOX.out (t : ∀ b ∈ bs, b ∉ L') (h : ∀ b ∈ bs, b ≠ p) : ∀ b ∈ bs, b ∉ p :: L' := fun b m q => by
  rcases List.mem_cons.mp q with rfl | q
  · exact h _ m rfl
  · exact t b m q
/-- another list of one's own has changed, or an object -/
theorem LOX.wr (h : LOX L H0 S H l as bs n) (ot : ∀ l' o', l' ≠ p → Cel L H0 S H l' o' → Cel L H0 S1 H' l' o') (k : ∀ b ∈ bs, b = p → ∃ ws, Cel L H0 S1 H' b (.lst ws)) : LOX L H0 S1 H' l as bs n := ⟨fun b hb => by
  by_cases e : b = p
  · exact k b hb e
  · obtain ⟨ws, c⟩ := h.cel b hb
    exact ⟨ws, ot b _ e c⟩, h.zz, h.ne, h.len⟩
theorem LOX.wrL {ws : List V} (h : LOX L H0 S H l as bs n) (ot : ∀ l' o', l' ≠ p → Cel L H0 S H l' o' → Cel L H0 S1 H' l' o') (c : Cel L H0 S1 H' p (.lst ws)) : LOX L H0 S1 H' l as bs n := h.wr ot fun b _ e => ⟨ws, e ▸ c⟩
theorem LOX.wrO (h : LOX L H0 S H l as bs n) (ot : ∀ l' o', l' ≠ p → Cel L H0 S H l' o' → Cel L H0 S1 H' l' o') {C dx : Addr} {fs : List (Str × V)} (hp : H p = some (.ins C dx fs)) : LOX L H0 S1 H' l as bs n := h.wr ot fun b hb e => absurd e (h.nei hp b hb)
theorem LOX.snoc {ws : List V} (h : LOX L H0 S H l as bs n) (ot : ∀ l' o', l' ≠ l → Cel L H0 S H l' o' → Cel L H0 S H' l' o') (c : Cel L H0 S H' p (.lst ws)) (z : H0 p = none) (hp : p ≠ l) (e : n + 1 = n') : LOX L H0 S H' l as (bs ++ [p]) n' := ⟨fun b hb => by
  rcases List.mem_append.mp hb with hb | hb
  · obtain ⟨ws, c⟩ := h.cel b hb
    exact ⟨ws, ot b _ (h.ne b hb) c⟩
  · rw [List.mem_singleton.mp hb]; exact ⟨ws, c⟩, fun b hb => by
  rcases List.mem_append.mp hb with hb | hb
  · exact h.zz b hb
  · rw [List.mem_singleton.mp hb]; exact z, fun b hb => by
  rcases List.mem_append.mp hb with hb | hb
  · exact h.ne b hb
  · rw [List.mem_singleton.mp hb]; exact hp, by rw [← List.append_assoc, List.length_append, h.len]; exact e⟩
theorem LOX.more {cs : List Addr} {o : HO} (h : LOX L H0 S H l as bs n) (g : Grow L S0 H0 S H) (gc : Grow L' S H S' H') (hl : H l = some o) (hn : ∀ b ∈ bs, b ∉ L') (x : LXN H S' H' cs) (e : ((as ++ bs) ++ cs).length = n') : LOX L H0 S' H' l as (bs ++ cs) n' := ⟨fun b hb => by
  rcases List.mem_append.mp hb with hb | hb
  · obtain ⟨ws, c⟩ := h.cel b hb
    exact ⟨ws, c.call gc (hn b hb)⟩
  · obtain ⟨x1, x2, ws, x3⟩ := x b hb
    exact ⟨ws, x3, x2, .inl (g.hnone x1), rfl⟩, fun b hb => by
  rcases List.mem_append.mp hb with hb | hb
  · exact h.zz b hb
  · exact g.hnone (x b hb).1, fun b hb => by
  rcases List.mem_append.mp hb with hb | hb
  · exact h.ne b hb
  · exact ne_of_none' hl (x b hb).1, by rw [← List.append_assoc]; exact e⟩
where ne_of_none' {H : Hp} {a b : Addr} {o : HO} (h1 : H a = some o) (h2 : H b = none) : b ≠ a := fun e => by rw [e, h1] at h2; cases h2
theorem LOX.lxn (h : LOX L H0 S H l as bs n) : LXN H0 S H bs := fun b hb => by
  obtain ⟨ws, c⟩ := h.cel b hb
  exact ⟨h.zz b hb, c.s, ws, c.h⟩
theorem c_appB {ws : List V} (g : Grow L S0 H0 S H) (cl : Cel L H0 S H l (.lst ws)) (hz : ws.length < 16777216)
    (k : ∀ H', Grow L S0 H0 S H' → Cel L H0 S H' l (.lst (ws ++ [v])) → (∀ l' o', l' ≠ l → Cel L H0 S H l' o' → Cel L H0 S H' l' o') → Q .non H') : rAppend (.ref l) [v] H Q :=
  ⟨l, ws, v, rfl, rfl, cl.h, by exact hz, k _ (g.wr cl rfl) (cl.wr rfl) fun l' o' n c => c.wrn n⟩
theorem pairRef : ∀ (bs all : List Addr), (∀ b ∈ bs, b ∈ all) → Paired (fun (w : V) (b : Addr) => w = .ref b ∧ b ∈ all) (bs.map V.ref) bs
  | [], _, _ => .nil
  | b :: bs, all, h => .cons ⟨rfl, h b List.mem_cons_self⟩ (pairRef bs all fun c hc => h c (List.mem_cons_of_mem _ hc))
end
end Z

namespace Z
open PySem PySem.Spec PyProof.Rows L2
theorem ns_conj {M : Model} {Γ : PySem.Ctx} {a : Addr} {n : Str} {v : Value} {Q R : Unit → Pos → Shared → Prop} {E : Value → Pos → Shared → Prop} {p : Pos} {s : Shared}
    (h1 : Sem.wp M Γ (nsSet a n v) Q E p s) (h2 : Sem.wp M Γ (nsSet a n v) R E p s) : Sem.wp M Γ (nsSet a n v) (fun x p s => Q x p s ∧ R x p s) E p s := by
  have key : ∀ (h : Int) (k : Value) (s : Shared), (∃ o, s.heap.get? a = some o ∧ Sem.wp M Γ (match o.data with
      | .dict es _ => do
        if aRefKeyMayBeTheName n es then unsupported "namespace:key-that-is-no-exact-str"
        updatePart a (some (.str n 0)) (Obj.putName n h k v)
      | _ => unsupported "internal:write-to-non-dict") Q E p s) → (∃ o, s.heap.get? a = some o ∧ Sem.wp M Γ (match o.data with
      | .dict es _ => do
        if aRefKeyMayBeTheName n es then unsupported "namespace:key-that-is-no-exact-str"
        updatePart a (some (.str n 0)) (Obj.putName n h k v)
      | _ => unsupported "internal:write-to-non-dict") R E p s) → (∃ o, s.heap.get? a = some o ∧ Sem.wp M Γ (match o.data with
      | .dict es _ => do
        if aRefKeyMayBeTheName n es then unsupported "namespace:key-that-is-no-exact-str"
        updatePart a (some (.str n 0)) (Obj.putName n h k v)
      | _ => unsupported "internal:write-to-non-dict") (fun x p s => Q x p s ∧ R x p s) E p s) := by
    rintro h k s ⟨o, e, q⟩ ⟨o', e', q'⟩
    rw [e] at e'
    cases e'
    refine ⟨o, e, ?_⟩
    cases hd : o.data with
    | dict es m =>
      rw [hd] at q q'
      dsimp only at q q' ⊢
      by_cases hc : aRefKeyMayBeTheName n es = true
      · simp only [hc, if_true] at q
        exact False.elim q
      · simp only [hc] at q q' ⊢
        exact ⟨q.1, q.2, q'.2⟩
    | _ => rw [hd] at q; exact False.elim q
  exact key _ _ _ h1 h2
theorem store_look {X : Cx} {pins : List (Addr × Obj)} {σ : L2.St} {H : Hp} {s : Shared} {M : Model} {A : Around} {E : Value → Shared → Prop} {i : Nat} {x : Str} {v : V} {u : Value} (I : Inv X pins σ H s) (hN : X.N.Nodup) (hi : X.N[i]? = some x) (hk : X.env.scope.names.lookup x = some .local) (r : RelV v u) :
    wpAny M A (storeName X.env x u) (fun _ s' => Inv X pins (σ.set i (some v)) H s' ∧ ((∃ m, s'.heap.Ns X.env.locals m ∧ m x = some u) ∧ s'.toks = s.toks + 1)) E s := by
  have hcls : (X.env.scope.kind == .class || (X.env.scope.kind == .module && X.env.locals != X.env.globals)) = false := by rw [I.ok.kind]; rfl
  obtain ⟨m, hn, _⟩ := id I.loc
  have h1 : wpAny M A (storeName X.env x u) (fun _ s' => Inv X pins (σ.set i (some v)) H s') E s := store_ok I hN hi (.inl hk) r (fun _ z => z) (.inr hk)
  have h2 : wpAny M A (storeName X.env x u) (fun _ s' => (∃ m, s'.heap.Ns X.env.locals m ∧ m x = some u) ∧ s'.toks = s.toks + 1) E s :=
    wpAny_storeName_local hk hn (fun h' hn' _ => ⟨⟨_, hn', if_pos rfl⟩, rfl⟩) hcls
  rw [storeName_local hk hcls] at h1 h2 ⊢
  exact fun Γ p hΓ => ns_conj (h1 Γ p hΓ) (h2 Γ p hΓ)
/-- x.replace(c, " " + c + " ") for each sign c of a written text -/
def gRep (x z : Str) : Prop := x.length + (x.length + 1) * z.length ≤ 16777216
instance (x z : Str) : Decidable (gRep x z) := by unfold gRep; infer_instance
def spc (c : Str) : Str := ((" " : Str) ++ c) ++ (" " : Str)
def tForRep (it ix : Nat) (w : Str) : TS := fun D σ H => ∃ x y, σ[ix]? = some (some (.str x)) ∧ forO (fun c x => grd (gRep x (spc c)) <| some (Txt.replace x c (spc c))) (sgs w) x = some y ∧ ∀ u, D.nx ((σ.set it u).set ix (some (.str y))) H
theorem set4 {α : Type} {a b : Nat} (h : a ≠ b) (l : List α) (p q r t : α) : (((l.set a p).set b q).set a r).set b t = (l.set a r).set b t := by
  rw [List.set_comm q r h.symm, List.set_set, List.set_set]
theorem spc_ne (c : Nat) : ((⟨#[c]⟩ : Str) == spc ⟨#[c]⟩) = false := by
  refine beq_eq_false_iff_ne.mpr fun e => ?_
  have := congrArg (fun z : Str => z.length) e
  have h : (spc ⟨#[c]⟩).length = 3 := rfl
  have this : 1 = (spc ⟨#[c]⟩).length := this
  rw [h] at this
  exact absurd this (by decide)
section
variable {X : Cx} {it ix : Nat} {sg tx w : Str} {j : Nat} {p0 p1 p2 p3 p4 p5 p6 p7 p8 p9 pa pos pos2 pq : Pos}
/-- the body's value -/
theorem rep_value (hN : X.N.Nodup) (ht : X.N[it]? = some sg) (hx : X.N[ix]? = some tx) (kt : X.env.scope.names.lookup sg = some .local) (kx : X.env.scope.names.lookup tx = some .local)
    (d1 : (sg == ("__debug__" : Str)) = false) (d2 : (tx == ("__debug__" : Str)) = false)
    {pins : List (Addr × Obj)} {s : Shared} {σ : L2.St} {H : Hp} {x : Str} {c : Nat} {t : Nat} (I : Inv X pins σ H s) (ex : σ[ix]? = some (some (.str x))) (lk : ∃ m, s.heap.Ns X.env.locals m ∧ m sg = some (.str ⟨#[c]⟩ t)) (h0 : 0 < t) (h1 : t < s.toks)
    (hz : gRep x (spc ⟨#[c]⟩))
    (hst : starEach [.Name sg p3, .BinOp (.BinOp (.Constant (.str " ") 0 p4) .Add (.Name sg p5) p6) .Add (.Constant (.str " ") 0 p7) p8] X.env = [(false, eval (.Name sg p3) X.env), (false, eval (.BinOp (.BinOp (.Constant (.str " ") 0 p4) .Add (.Name sg p5) p6) .Add (.Constant (.str " ") 0 p7) p8) X.env)])
    (hbase : attributeBase (.Name tx p2) "replace" X.env (eval (.Name tx p2) X.env) = eval (.Name tx p2) X.env) (hline : (pa.endLine == p9.line) = true) :
    wpAny (model X.prog X.w) X.A (eval (.Call (.Attribute (.Name tx p2) "replace" pa) [.Name sg p3, .BinOp (.BinOp (.Constant (.str " ") 0 p4) .Add (.Name sg p5) p6) .Add (.Constant (.str " ") 0 p7) p8] [] p9) X.env)
      (fun v s' => Inv X pins σ H s' ∧ RelV (.str (Txt.replace x ⟨#[c]⟩ (spc ⟨#[c]⟩))) v) X.xe s := by
  obtain ⟨m, hn, hl⟩ := id I.loc
  obtain ⟨m2, hn2, hm2⟩ := lk
  obtain ⟨u, ru, lu⟩ := hl ix tx _ hx ex (.inl kx)
  obtain ⟨tt, rfl⟩ := ru
  have hm : m tx = some (.str x tt) := by
    rcases lu with ⟨_, q⟩ | ⟨q, _⟩
    · exact q
    · rcases q with q | q
      · rw [show X.env.kindOf tx = some .local from kx] at q; cases q
      · rw [show X.env.kindOf tx = some .local from kx] at q; cases q
  refine PySem.Call_method2 hbase hst hline (wpAny_Name (wpAny_loadName_local I.ok.kind kx hn hm ?_) d2)
  refine ⟨"str", _, PySem.F.plainAttrs_str, PySem.F.slot_str_replace, PySem.F.type_str_replace, typeIs_str _ _ _, (fun _ e => nomatch e), Calls.callWith_builtin rfl (Calls.evalArgs_plain (Calls.spliced_cons ?_))⟩
  refine wpAny_Name (wpAny_loadName_local I.ok.kind kt hn2 hm2 ?_) d1
  refine Calls.spliced_cons (wpAny_BinOp (wpAny_BinOp (Calls.Constant_str ?_)))
  refine wpAny_Name (wpAny_loadName_local (s := { s with toks := s.toks + 1 }) I.ok.kind kt hn2 hm2 ?_) d1
  refine P.add_str ?_
  show (Made.str ((" " : Str) ++ ⟨#[c]⟩)).post _ _
  refine ⟨by show 2 ≤ sizeLine; decide, Calls.Constant_str (P.add_str ?_)⟩
  show (Made.str (spc ⟨#[c]⟩)).post _ _
  refine ⟨by show 3 ≤ sizeLine; decide, Calls.spliced_nil ?_⟩
  exact PySem.SC.replace (show t ≠ 0 by omega) (show s.toks + 1 + 1 + 1 ≠ 0 by omega) (show t ≠ s.toks + 1 + 1 + 1 by omega) (spc_ne c) hz fun t' k => ⟨I.tok k, ⟨t', rfl⟩⟩
theorem ps_forRep (hN : X.N.Nodup) (ht : X.N[it]? = some sg) (hx : X.N[ix]? = some tx) (kt : X.env.scope.names.lookup sg = some .local) (kx : X.env.scope.names.lookup tx = some .local)
    (hp : PassesOwn (model X.prog X.w) X.A X.env X.xe) (hc : X.calm = true) (hne : it ≠ ix) (ha : w.cps.all (· < 128) = true)
    (d1 : (sg == ("__debug__" : Str)) = false := by decide) (d2 : (tx == ("__debug__" : Str)) = false := by decide)
    (hst : starEach [.Name sg p3, .BinOp (.BinOp (.Constant (.str " ") 0 p4) .Add (.Name sg p5) p6) .Add (.Constant (.str " ") 0 p7) p8] X.env = [(false, eval (.Name sg p3) X.env), (false, eval (.BinOp (.BinOp (.Constant (.str " ") 0 p4) .Add (.Name sg p5) p6) .Add (.Constant (.str " ") 0 p7) p8) X.env)] := by rfl)
    (hbase : attributeBase (.Name tx p2) "replace" X.env (eval (.Name tx p2) X.env) = eval (.Name tx p2) X.env := by rfl) (hline : (pa.endLine == p9.line) = true := by rfl)
    (hsw : swapsWith (.Call (.Attribute (.Name tx p2) "replace" pa) [.Name sg p3, .BinOp (.BinOp (.Constant (.str " ") 0 p4) .Add (.Name sg p5) p6) .Add (.Constant (.str " ") 0 p7) p8] [] p9) (some (.Name tx p1)) pq.line X.env = pure false := by rfl)
    (hs : ∀ x, foldedSetIterable (.Constant (.str w) j p0) X.env x = pure x := by intro _; rfl) :
    PS X (.For (.Name sg pos2) (.Constant (.str w) j p0) [.Assign [.Name tx p1] (.Call (.Attribute (.Name tx p2) "replace" pa) [.Name sg p3, .BinOp (.BinOp (.Constant (.str " ") 0 p4) .Add (.Name sg p5) p6) .Add (.Constant (.str " ") 0 p7) p8] [] p9) pq] [] pos) (tForRep it ix w) := by
  refine ⟨fun pins s σ H D I h => ?_⟩
  obtain ⟨x, y, ex, ef, hd⟩ := h
  refine wpAny_For (Calls.Constant_str (wpAny_pyIter_ascii ha ?_)) hs
  have T := turn_str (P := X.prog) (w := X.w) (K := X.K) (tg := .Name sg pos2) s.heap.objs.size w s.toks "str_ascii_iterator" (.inl rfl)
  have hix : ix < σ.length := by rw [I.len]; exact (List.getElem?_eq_some_iff.mp hx).1
  have hit : it < σ.length := by rw [I.len]; exact (List.getElem?_eq_some_iff.mp ht).1
  have I1 : Inv X pins σ H { s with heap := s.heap.push { cls := .type "str_ascii_iterator", data := .fields #[.str w s.toks, .int 0 0] }, toks := s.toks + 1 } := I.kept fun b u e => Heap.get?_push_of_some _ e
  have st0 : Heap.IsStrIter (s.heap.push { cls := .type "str_ascii_iterator", data := .fields #[.str w s.toks, .int 0 0] }) s.heap.objs.size "str_ascii_iterator" w s.toks 0 := ⟨_, Heap.get?_push_size _ rfl, rfl, rfl⟩
  have fp0 : FpOk X pins H s.heap.objs.size := I.fpOk (Nat.le_refl _) (I.hok.fresh (Nat.le_refl _))
  refine codeAny_forLoop_any (fun n s' => ∃ i u x', Inv X pins ((σ.set it u).set ix (some (.str x'))) H s' ∧ Heap.IsStrIter s'.heap s.heap.objs.size "str_ascii_iterator" w s.toks i ∧ i ≤ w.cps.size ∧ n = w.cps.size - i ∧ 0 < s'.toks ∧ forO (fun c x => grd (gRep x (spc c)) <| some (Txt.replace x c (spc c))) ((sgs w).drop i) x' = some y) ?_ (w.cps.size - 0) ⟨0, σ[it]'hit, x, ?_, st0, Nat.zero_le _, rfl, Nat.succ_pos _, ef⟩
  · rintro n s3 ⟨i, u3, x3, I3, st3, hi, rfl, tk3, f3⟩
    have hl : (sgs w).length = w.cps.size := by unfold sgs; rw [List.length_map, Array.length_toList]
    by_cases hlt : i < w.cps.size
    · have ec : w.cps[i]? = some w.cps[i] := Array.getElem?_eq_getElem hlt
      have edr : (sgs w).drop i = (⟨#[w.cps[i]]⟩ : Str) :: (sgs w).drop (i + 1) := by
        rw [List.drop_eq_getElem_cons (by rw [hl]; exact hlt)]
        congr 1
        unfold sgs
        rw [List.getElem_map, Array.getElem_toList]
      rw [edr, forO_cons] at f3
      refine wpAny_passesOwn hp (wpAny_pyNext_ascii_item st3 ec fun h' st' sb => ?_)
      obtain ⟨f0, f1, f2, f4, f5, f6⟩ := fp0
      have I4 : Inv X pins ((σ.set it u3).set ix (some (.str x3))) H { s3 with heap := h', toks := s3.toks + 1 } := I3.turned (fun b o hb e => (sb.2 b hb).trans e) f0 f1 f4 f5 f6
      obtain ⟨oi, e, cc, dd⟩ := id st'
      refine wpAny_passesOwn hp (go_of (s := { s3 with heap := h', toks := s3.toks + 1 }) e cc dd (by decide) ?_)
      have I5 := I4.pinned (fp := [s.heap.objs.size]) (fun b hb => by rw [List.mem_singleton.mp hb]; exact ⟨f0, f1, f2, f4, f5, f6⟩) (T.obj _ _ st')
      refine wpAny_passesOwn hp (wpAny_assign_Name (thn (store_look I5 hN ht kt (v := .str ⟨#[w.cps[i]]⟩) ⟨s3.toks, rfl⟩) fun _ s6 ⟨I6, lk6, tk6⟩ => ?_))
      have hg : gRep x3 (spc ⟨#[w.cps[i]]⟩) := by
        by_cases hg : gRep x3 (spc ⟨#[w.cps[i]]⟩)
        · exact hg
        · unfold grd at f3
          rw [if_neg hg] at f3
          cases f3
      rw [grd_of hg] at f3
      have f3 : forO (fun c x => grd (gRep x (spc c)) <| some (Txt.replace x c (spc c))) ((sgs w).drop (i + 1)) (Txt.replace x3 ⟨#[w.cps[i]]⟩ (spc ⟨#[w.cps[i]]⟩)) = some y := f3
      have ex6 : (((σ.set it u3).set ix (some (.str x3))).set it (some (.str ⟨#[w.cps[i]]⟩)))[ix]? = some (some (.str x3)) := by
        rw [List.getElem?_set_ne hne, List.getElem?_set_self (by rw [List.length_set]; exact hix)]
      refine wpAny_passesOwn hp (wpAny_execs_cons (wpAny_Assign_Name (thn (rep_value hN ht hx kt kx d1 d2 I6 ex6 lk6 tk3 (by rw [tk6]; show s3.toks < s3.toks + 1 + 1; omega) hg hst hbase hline) fun v s7 ⟨I7, r7⟩ => ?_) hsw))
      refine thn (store_look I7 hN hx kx r7) fun _ s8 ⟨I8, _, tk8⟩ => ?_
      refine wpAny_execs_nil ?_
      have esl : (((((σ.set it u3).set ix (some (.str x3))).set it (some (.str ⟨#[w.cps[i]]⟩))).set ix (some (.str (Txt.replace x3 ⟨#[w.cps[i]]⟩ (spc ⟨#[w.cps[i]]⟩)))))) = (σ.set it (some (.str ⟨#[w.cps[i]]⟩))).set ix (some (.str (Txt.replace x3 ⟨#[w.cps[i]]⟩ (spc ⟨#[w.cps[i]]⟩)))) := by
        exact set4 hne _ _ _ _ _
      rw [esl] at I8
      refine ⟨w.cps.size - (i + 1), by omega, i + 1, _, _, I8.unpinned, ?_, by omega, rfl, by rw [tk8]; exact Nat.succ_pos _, f3⟩
      exact T.keep _ _ _ st' fun b hb o e => (I8.pin (b, o) (List.mem_append_right _ (List.mem_append_right _ (mem_pinsAt hb e)))).1
    · have hstop : w.cps.size ≤ i := by omega
      refine wpAny_passesOwn hp (thn (T.done X rfl rfl rfl hc i pins s3 _ H X.xe I3 (fun b hb => by rw [List.mem_singleton.mp hb]; exact fp0) st3 hstop) fun r s4 ⟨hr, I4⟩ => ?_)
      subst hr
      rw [List.drop_eq_nil_of_le (by omega), forO_nil] at f3
      cases f3
      exact wpAny_execs_nil ⟨_, H, I4, hd u3⟩
  · have e1 : (σ.set it (σ[it]'hit)).set ix (some (.str x)) = σ := by
      rw [List.set_getElem_self]
      obtain ⟨hx', ex'⟩ := List.getElem?_eq_some_iff.mp ex
      rw [← ex', List.set_getElem_self]
    rw [e1]
    exact I1
end
theorem z_forRep {D : Ends} {β : Type} {σ : L2.St} {H : Hp} {tu : TS} {it ix : Nat} {x w : Str} {k : Str → Option β} {A : β → Prop} (ex : σ[ix]? = some (some (.str x))) (h : OP ((forO (fun c x => grd (gRep x (spc c)) <| some (Txt.replace x c (spc c))) (sgs w) x).bind k) A)
    (hs : ∀ y, OP (k y) A → ∀ u, tu D ((σ.set it u).set ix (some (.str y))) H) : tSeq (tForRep it ix w) tu D σ H := by
  obtain ⟨y, e, h⟩ := OP.bind h
  exact ⟨x, y, ex, e, fun u => hs y h u⟩
/-- a.split(written) -/
def rSplit : V → List V → Hp → VK → Prop := fun x xs H Q => ∃ a b, x = .str a ∧ xs = [.str b] ∧ (b.length == 0) = false ∧ a.length + 2 ≤ sizeLine ∧ rNewStrs (Txt.split a b) H Q
theorem l_split {K : PySem.W.Frag} {σ : L2.St} {H : Hp} {S : Hp} {Q : VK} {ta tb : TE} {a sep : Str} (ha : Val ta σ H (.str a)) (hb : Val tb σ H (.str sep)) (hs : (sep.length == 0) = false) (hz : a.length + 2 ≤ 16777216)
    (k : ∀ p ws H', Same H H' → H p = none → H' p = some (.lst ws) → RL (K := K) qS S ws (Txt.split a sep) → Q (.ref p) H') : tM1 rSplit ta tb σ H Q :=
  ha _ ⟨⟨a, rfl⟩, hb _ ⟨a, sep, rfl, rfl, hs, by rw [sizeLine_eq]; exact hz, fun p hp => k p _ _ (same_upd hp) hp upd_same (RL.map V.str (fun _ => rfl) _)⟩⟩
/-- x is True -/
def rIsT : R2 := fun x y H Q => y = .bl true ∧ ((x = .non ∧ Q (.bl false) H) ∨ ∃ b, x = .bl b ∧ Q (.bl b) H)
theorem op_isT {X : Cx} : OpR X (compareOp .Is) rIsT := by
  intro pins s σ H x y v u Q I rx ry h
  obtain ⟨rfl, h⟩ := h
  cases ry
  rcases h with ⟨rfl, q⟩ | ⟨b, rfl, q⟩
  · cases rx
    show wpAny _ _ ((isSame Value.none (Value.bool true)) >>= fun z => pure (Value.bool z)) _ _ s
    exact wpAny_bind (wpAny_isSame_plain rfl (wpAny_pure (fin_bl I q rfl)))
  · cases rx
    show wpAny _ _ ((isSame (Value.bool b) (Value.bool true)) >>= fun z => pure (Value.bool z)) _ _ s
    cases b
    · exact wpAny_bind (wpAny_isSame_plain rfl (wpAny_pure (fin_bl I q rfl)))
    · exact wpAny_bind (wpAny_isSame_plain rfl (wpAny_pure (fin_bl I q rfl)))
section
variable {σ : L2.St} {H : Hp} {ta : TE} {b : Bool} {Q : VK}
theorem v_isTB (ha : Val ta σ H (.bl b)) : Val (tOp rIsT ta (tC (.bl true))) σ H (.bl b) := fun _ q => ha _ ⟨rfl, .inr ⟨b, rfl, q⟩⟩
theorem v_isTN (ha : Val ta σ H .non) : Val (tOp rIsT ta (tC (.bl true))) σ H (.bl false) := fun _ q => ha _ ⟨rfl, .inl ⟨rfl, q⟩⟩
theorem e_isTB (q : Q (.bl b) H) : rIsT (.bl b) (.bl true) H Q := ⟨rfl, .inr ⟨b, rfl, q⟩⟩
theorem e_isTN (q : Q (.bl false) H) : rIsT .non (.bl true) H Q := ⟨rfl, .inl ⟨rfl, q⟩⟩
end
/-! a list of lists that grows: the last of them one's own -/
section
variable {K : PySem.W.Frag} {L : List Addr} {S0 H0 S H : Hp} {Q : VK} {l p : Addr} {ws : List V} {σ : L2.St} {ta tb : TE}
theorem c_appR {v : V} (g : Grow L S0 H0 S H) (cl : Cel L H0 S H l (.lst ws)) (hz : ws.length < 16777216)
    (k : ∀ H', Grow L S0 H0 S H' → Cel L H0 S H' l (.lst (ws ++ [v])) → (∀ l' o', l' ≠ l → Cel L H0 S H l' o' → Cel L H0 S H' l' o') → Q .non H') : rAppend (.ref l) [v] H Q :=
  ⟨l, ws, v, rfl, rfl, cl.h, hz, k _ (g.wr cl rfl) (cl.wr rfl) fun l' o' n c => c.wrn n⟩
theorem v_ixEnd (ha : Val ta σ H (.ref l)) (hb : Val tb σ H (.int (-1))) (h : H l = some (.lst (ws ++ [.ref p]))) : Val (tOp (rIxL K) ta tb) σ H (.ref p) := fun Q q => by
  exact ha _ (hb _ ⟨l, _, -1, _, rfl, rfl, SqL.of h, L2.atI_last ws (V.ref p), q⟩)
end
/-! a list of own lists, the first of which are known -/
section
variable {K : PySem.W.Frag} {L : List Addr} {S0 H0 S H : Hp} {Q : VK} {l p : Addr} {as bs : List Addr} {n : Nat} {ws : List V} {σ : L2.St} {ta tb : TE}
theorem LOX.pre (h : LOX L H0 S H l (as ++ [p]) bs n) (c : Cel L H0 S H p (.lst ws)) (z : H0 p = none) (hp : p ≠ l) : LOX L H0 S H l as (p :: bs) n := ⟨fun b hb => by
  rcases List.mem_cons.mp hb with rfl | hb
  · exact ⟨ws, c⟩
  · exact h.cel b hb, fun b hb => by
  rcases List.mem_cons.mp hb with rfl | hb
  · exact z
  · exact h.zz b hb, fun b hb => by
  rcases List.mem_cons.mp hb with rfl | hb
  · exact hp
  · exact h.ne b hb, by
  have e := h.len
  rw [List.append_assoc] at e
  exact e⟩
/-- none of these is that one -/
def Apt (bs : List Addr) (l : Addr) : Prop := ∀ b ∈ bs, b ≠ l
theorem Apt.nil : Apt [] l := fun _ h => nomatch h
theorem Apt.snoc (h : Apt bs l) (hp : p ≠ l) : Apt (bs ++ [p]) l := fun b hb => by
  rcases List.mem_append.mp hb with hb | hb
  · exact h b hb
  · rw [List.mem_singleton.mp hb]; exact hp
theorem Apt.cons (h : Apt bs l) (hp : p ≠ l) : Apt (p :: bs) l := fun b hb => by
  rcases List.mem_cons.mp hb with rfl | hb
  · exact hp
  · exact h b hb
theorem v_ixK {a : Addr} {i : Nat} (ha : Val ta σ H (.ref l)) (hb : Val tb σ H (.int (i : Int))) (h : H l = some (.lst ((as ++ bs).map V.ref))) (e : as[i]? = some a) : Val (tOp (rIxL K) ta tb) σ H (.ref a) := fun Q q =>
  ha _ (hb _ ⟨l, _, i, _, rfl, rfl, SqL.of h, L2.atI_nat (by rw [List.getElem?_map, List.getElem?_append_left (List.getElem?_eq_some_iff.mp e).1, e]; rfl), q⟩)
theorem v_ixN (ha : Val ta σ H (.ref l)) (hb : Val tb σ H (.int (-1))) (h : H l = some (.lst ((as ++ (bs ++ [p])).map V.ref))) : Val (tOp (rIxL K) ta tb) σ H (.ref p) :=
  v_ixEnd (ws := (as ++ bs).map V.ref) ha hb (by rw [h, ← List.append_assoc, List.map_append]; rfl)
end
end Z

namespace Z
open PySem PySem.Spec PyProof.Rows L2
/-! ### tuples of two or three -/
section
variable {K : PySem.W.Frag} {σ : L2.St} {S H : Hp} {v : V} {ta tb : TE} {α β γ : Type} {A : Rep K α} {B : Rep K β} {C : Rep K γ}
def t2oR (A : Rep K α) (B : Rep K β) (C : Rep K γ) (H : Hp) (v : V) (x : α × β × Option γ) : Prop :=
  match x.2.2 with
  | none => ∃ a w1 w2, v = .ref a ∧ H a = some (.tup [w1, w2]) ∧ A.R H w1 x.1 ∧ B.R H w2 x.2.1
  | some c => ∃ a w1 w2 w3, v = .ref a ∧ H a = some (.tup [w1, w2, w3]) ∧ A.R H w1 x.1 ∧ B.R H w2 x.2.1 ∧ C.R H w3 c
def qT2o (A : Rep K α) (B : Rep K β) (C : Rep K γ) : Rep K (α × β × Option γ) := ⟨fun H v x => t2oR A B C H v x, fun {H H' v x} e h => by
  obtain ⟨x1, x2, x3⟩ := x
  cases x3 with
  | none =>
    obtain ⟨a, w1, w2, h1, h2, h3, h4⟩ := h
    exact ⟨a, w1, w2, h1, e _ _ h2, A.mono e h3, B.mono e h4⟩
  | some c =>
    obtain ⟨a, w1, w2, w3, h1, h2, h3, h4, h5⟩ := h
    exact ⟨a, w1, w2, w3, h1, e _ _ h2, A.mono e h3, B.mono e h4, C.mono e h5⟩⟩
theorem qTo2 {x : α} {y : β} (h : (qT2 A B).R S v (x, y)) : (qT2o A B C).R S v (x, y, none) := h
theorem qTo3 {x : α} {y : β} {z : γ} (h : (qT3 A B C).R S v (x, y, z)) : (qT2o A B C).R S v (x, y, some z) := h
theorem t2oR.tup {x : α × β × Option γ} (h : t2oR A B C H v x) : ∃ a w1 w2 ws, v = .ref a ∧ H a = some (.tup (w1 :: w2 :: ws)) ∧ A.R H w1 x.1 ∧ B.R H w2 x.2.1 := by
  obtain ⟨x1, x2, x3⟩ := x
  cases x3 with
  | none =>
    obtain ⟨a, w1, w2, h1, h2, h3, h4⟩ := h
    exact ⟨a, w1, w2, [], h1, h2, h3, h4⟩
  | some c =>
    obtain ⟨a, w1, w2, w3, h1, h2, h3, h4, h5⟩ := h
    exact ⟨a, w1, w2, [w3], h1, h2, h3, h4⟩
theorem nn_to {x : α × β × Option γ} (h : (qT2o A B C).R H v x) : v ≠ .non := by
  obtain ⟨a, w1, w2, ws, rfl, _⟩ := t2oR.tup h
  exact fun z => nomatch z
theorem v_to0S {x : Str × β × Option γ} (ha : Val ta σ H v) (hb : Val tb σ H (.int 0)) (h : (qT2o (qS (K := K)) B C).R H v x) : Val (tOp (rIxT K) ta tb) σ H (.str x.1) := by
  obtain ⟨a, w1, w2, ws, rfl, h2, h3, _⟩ := t2oR.tup h
  cases (show w1 = .str x.1 from h3)
  exact fun Q q => ha _ (hb _ ⟨a, _, 0, _, rfl, rfl, SqT.of h2, L2.atI_nat (j := 0) rfl, q⟩)
theorem v_to1 {x : α × β × Option γ} (e : Same S H) (h : (qT2o A B C).R S v x) : ∃ w, (∀ {σ : L2.St} {ta tb : TE}, Val ta σ H v → Val tb σ H (.int 1) → Val (tOp (rIxT K) ta tb) σ H w) ∧ B.R S w x.2.1 := by
  obtain ⟨a, w1, w2, ws, rfl, h2, h3, h4⟩ := t2oR.tup h
  exact ⟨w2, fun ha hb Q q => ha _ (hb _ ⟨a, _, 1, _, rfl, rfl, SqT.of (e _ _ h2), L2.atI_nat (j := 1) rfl, q⟩), h4⟩
theorem v_to2 {x : α × β × Option γ} {y : γ} (e : Same S H) (h : (qT2o A B C).R S v x) (hy : x.2.2 = some y) : ∃ w, (∀ {σ : L2.St} {ta tb : TE}, Val ta σ H v → Val tb σ H (.int 2) → Val (tOp (rIxT K) ta tb) σ H w) ∧ C.R S w y := by
  obtain ⟨x1, x2, x3⟩ := x
  cases (show x3 = some y from hy)
  obtain ⟨a, w1, w2, w3, rfl, h2, h3, h4, h5⟩ := h
  exact ⟨w3, fun ha hb Q q => ha _ (hb _ ⟨a, _, 2, _, rfl, rfl, SqT.of (e _ _ h2), L2.atI_nat (j := 2) rfl, q⟩), h5⟩
end
end Z

namespace Z
open PySem PySem.Spec PyProof.Rows L2
/-! ### a number in a new tuple of numbers -/
section
variable {K : PySem.W.Frag} {H : Hp} {Q : VK}
theorem inV_int (x : Int) : ∀ ys : List Int, inV (.int x) (ys.map V.int) = ys.any fun y => decide (y = x)
  | [] => rfl
  | y :: ys => by
    show (y == x || inV (.int x) (ys.map V.int)) = _
    rw [inV_int x ys, List.any_cons]
    congr 1
theorem e_inTI {x : Int} {p : Addr} {ys : List Int} (h : H p = some (.tup (ys.map V.int))) (q : Q (.bl (ys.any fun y => decide (y = x))) H) : rIn K false (.int x) (.ref p) H Q :=
  ⟨p, _, rfl, .inr (SqT.of h), rfl, by rw [List.all_map]; exact List.all_eq_true.mpr fun _ _ => rfl, by
    show Q (.bl (inV _ _)) H
    rw [inV_int]; exact q⟩
theorem e_ninTI {x : Int} {p : Addr} {ys : List Int} (h : H p = some (.tup (ys.map V.int))) (q : Q (.bl (!(ys.any fun y => decide (y = x)))) H) : rIn K true (.int x) (.ref p) H Q :=
  ⟨p, _, rfl, .inr (SqT.of h), rfl, by rw [List.all_map]; exact List.all_eq_true.mpr fun _ _ => rfl, by
    show Q (.bl (!inV _ _)) H
    rw [inV_int]; exact q⟩
end
/-! ### an expression that may mean one of several things -/
def tOrE (t u : TE) : TE := fun σ H Q => t σ H Q ∨ u σ H Q
def tNoE : TE := fun _ _ _ => False
theorem pe_orE {X : Cx} {e : Expr} {t u : TE} (a : PE X e t) (b : PE X e u) : PE X e (tOrE t u) := ⟨fun pins s σ H Q I h => h.elim (a.run pins s σ H Q I) (b.run pins s σ H Q I)⟩
theorem pe_noE {X : Cx} {e : Expr} : PE X e tNoE := ⟨fun _ _ _ _ _ _ h => h.elim⟩
theorem ps_exprE {X : Cx} {e : Expr} {te : TE} {pos : Pos} (he : PE X e te) (hs : swapsWith e none pos.line X.env = pure false) : PS X (.Expr e pos) (tDrop te) := ps_expr he hs
/-- pe_bm in a handler's suite: the part of the heap is named, all its parts too -/
theorem pe_bmS {X : Cx} {K : PySem.W.Frag} {o e : Expr} {es : List Expr} {to : TE} {t : TA} {name : Str} {apos cpos : Pos} {T id : String} {r : V → List V → Hp → VK → Prop} (pa : PlainAttrs T) (slot : Slot T name id) (hty : typeOf (.builtin id) = pure (.type "method_descriptor")) (hm : MtR X id r) (ho : PE X o to) (ha : PA X (e :: es) t) (hK : X.K = K)
    (hbase : attributeBase o name X.env (eval o X.env) = eval o X.env)
    (hfew : ((backTo cpos (starEach (e :: es) X.env)).all (fun x => !x.1) && (backToKw cpos (keywordEach [] X.env)).all (fun x => x.1.isSome)
      && decide ((e :: es).length + ([] : List Keyword).length + (if ([] : List Keyword).isEmpty then 0 else 1) < 30)) = true)
    (hline : (apos.endLine == cpos.line) = true) (hs : starEach (e :: es) X.env = (false, eval e X.env) :: starEach es X.env) (hplain : (backTo cpos (starEach es X.env)).any (·.1) = false) :
    PE X (.Call (.Attribute o name apos) (e :: es) [] cpos) (tBM K T r to t) := by
  subst hK
  exact pe_bm pa slot hty hm ho ha hbase hfew hline hs hplain
end Z

namespace Z
open PySem PySem.Spec PyProof.Rows L2
/-! ### the head by one run: what is looked at -/
def refsY (g : Addr → Option Obj) (as : List Addr) : List Addr := as.flatMap fun a => match g a with
  | some o => He.refsD o
  | none => []
def asY (g : Addr → Option Obj) : Nat → List Addr → List Addr
  | 0, fr => fr
  | n + 1, fr => fr ++ asY g n (refsY g fr)
def obsY (chk : PySem.W.Frag → List Bool) (fn : List He.DefD) (K : PySem.W.Frag) : He.AlD := ((chk K).all (fun b => b) && fn.all fun d => d.ok K, fn.map fun d => He.fnW K d.at_)
def frY (g : Addr → Option Obj) (n : Nat) : PySem.W.Frag := He.frG g (asY g n [mainGlobals])
def hookY (n : Nat) (chk : PySem.W.Frag → List Bool) (fn : List He.DefD) : PySem.W.Hook where
  α := He.AlD
  obs := fun s => obsY chk fn (frY s.heap.get? n)
  val := fun _ => He.valD fn
  says := fun _ h => ∃ K : PySem.W.Frag, K.In h ∧ obsY chk fn K = He.valD fn
  of := fun _ _ e => ⟨_, He.frG_in, e⟩
  keeps := fun _ _ _ ⟨K, hK, c⟩ k => ⟨K, PySem.W.Frag.In.keeps hK k, c⟩
def obY (n : Nat) (chk : PySem.W.Frag → List Bool) (fn : List He.DefD) (s : PySem.W.SharedT) : He.AlD := obsY chk fn (frY (HandSHeadRun.getT s) n)
theorem obY_eq {n : Nat} {chk : PySem.W.Frag → List Bool} {fn : List He.DefD} (s : PySem.W.SharedT) : obY n chk fn s = (hookY n chk fn).obs s.abs := by
  have e : HandSHeadRun.getT s = s.abs.heap.get? := funext (HandSHeadRun.getT_eq s)
  unfold obY
  rw [e] <;> rfl
section
variable {chk : PySem.W.Frag → List Bool} {fn : List He.DefD} {K : PySem.W.Frag}
theorem factY (c : obsY chk fn K = He.valD fn) (i : Nat) {b : Bool} (h : (chk K)[i]? = some b := by rfl) : b = true := by
  have c1 := (He.ba (show ((chk K).all (fun b => b) && fn.all fun d => d.ok K) = true from congrArg (fun z : He.AlD => z.1) c)).1
  exact List.all_eq_true.mp c1 b (List.mem_of_getElem? h)
theorem defY (c : obsY chk fn K = He.valD fn) (i : Nat) {d : He.DefD} (h : fn[i]? = some d := by rfl) : ∃ fd, FunD K d.name d.qual d.params d.body d.scope (d.dvs K) (d.kws K) (He.fAd K d.at_) fd ∧ PySem.W.keepIn K (.ref (He.fAd K d.at_)) = true := by
  have c2 := (He.ba (show ((chk K).all (fun b => b) && fn.all fun d => d.ok K) = true from congrArg (fun z : He.AlD => z.1) c)).2
  have e : fn.map (fun d => He.fnW K d.at_) = fn.map He.DefD.val := congrArg (fun z : He.AlD => z.2) c
  have e2 : (fn.map fun d => He.fnW K d.at_)[i]? = (fn.map He.DefD.val)[i]? := by rw [e]
  rw [List.getElem?_map, List.getElem?_map, h] at e2
  have ok := List.all_eq_true.mp c2 d (List.mem_of_getElem? h)
  obtain ⟨fd, F⟩ := He.DefD.funD (Option.some.inj e2) ok
  exact ⟨fd, F, (He.ba ok).1⟩
theorem funY {x qual : Str} {st : Stmt} {f : Addr} {fd : FuncData} (F : FunD K x qual (defArgs st) (defBody st) (defScope st) [] [] f fd) : Fun K x qual st f fd := by
  obtain ⟨oc, od, dV, kV, doc, pm, an, cdv, ct, osl, rfl, lk, hcd, hD, hK⟩ := F.ex
  rcases hD with ⟨_, rfl⟩ | ⟨e, _⟩
  · exact ⟨⟨oc, od, kV, doc, pm, an, cdv, ct, osl, rfl, lk, hcd⟩, F.kp⟩
  · exact absurd rfl e
end
end Z

namespace Z
open PySem PySem.Spec PyProof.Rows L2
/-! ### values of mixed kinds -/
inductive Sc | int (i : Int) | bool (b : Bool) | non | str (s : Str)
deriving DecidableEq
def Sc.v : Sc → V
  | .int i => .int i
  | .bool b => .bl b
  | .non => .non
  | .str s => .str s
def Sc.getI : Sc → Option Int
  | .int i => some i
  | _ => none
def Sc.isI : Sc → Bool
  | .int _ => true
  | .bool _ => true
  | _ => false
def Sc.isB : Sc → Bool
  | .bool _ => true
  | _ => false
inductive Dv | lst (xs : List Sc) | tup (xs : List Sc) | non
deriving DecidableEq
def Dv.getL : Dv → Option (List Sc)
  | .lst xs => some xs
  | _ => none
def Dv.isL : Dv → Bool
  | .lst _ => true
  | _ => false
section
variable {K : PySem.W.Frag} {σ : L2.St} {S H : Hp} {v : V} {ta tb : TE}
def qSc : Rep K Sc := ⟨fun _ v x => v = x.v, fun _ h => h⟩
theorem sc_i {i : Int} : (qSc (K := K)).R H (.int i) (.int i) := rfl
theorem sc_b {b : Bool} : (qSc (K := K)).R H (.bl b) (.bool b) := rfl
theorem sc_n : (qSc (K := K)).R H .non .non := rfl
theorem sc_s {s : Str} : (qSc (K := K)).R H (.str s) (.str s) := rfl
theorem sc_getI {x : Sc} {y : Int} (h : (qSc (K := K)).R H v x) (e : x.getI = some y) : v = .int y := by
  cases x with
  | int i => cases e; exact h
  | bool b => cases e
  | non => cases e
  | str s => cases e
theorem v_isScI {x : Sc} (ha : Val ta σ H v) (h : (qSc (K := K)).R H v x) : Val (tCB (rIsi K) (tCons ta (tCons (tC (.ty "int")) tNil))) σ H (.bl x.isI) := by
  cases (show v = x.v from h)
  cases x with
  | int i => exact v_isi ha ty_int (k := true) (by decide +kernel)
  | bool b => exact v_isi ha ty_bl (k := true) (by decide +kernel)
  | non => exact v_isi ha ty_non (k := false) (by decide +kernel)
  | str s => exact v_isi ha ty_str (k := false) (by decide +kernel)
theorem v_isScB {x : Sc} (ha : Val ta σ H v) (h : (qSc (K := K)).R H v x) : Val (tCB (rIsi K) (tCons ta (tCons (tC (.ty "bool")) tNil))) σ H (.bl x.isB) := by
  cases (show v = x.v from h)
  cases x with
  | int i => exact v_isi ha ty_int (k := false) (by decide +kernel)
  | bool b => exact v_isi ha ty_bl (k := true) (by decide +kernel)
  | non => exact v_isi ha ty_non (k := false) (by decide +kernel)
  | str s => exact v_isi ha ty_str (k := false) (by decide +kernel)
def dvR (K : PySem.W.Frag) (H : Hp) (v : V) : Dv → Prop
  | .lst xs => (qL (qSc (K := K))).R H v xs
  | .tup xs => ∃ a ws, v = .ref a ∧ H a = some (.tup ws) ∧ RL (qSc (K := K)) H ws xs
  | .non => v = .non
def qDv : Rep K Dv := ⟨fun H v x => dvR K H v x, fun {H H' v x} e h => by
  cases x with
  | lst xs => exact (qL (qSc (K := K))).mono e h
  | tup xs =>
    obtain ⟨a, ws, h1, h2, h3⟩ := h
    exact ⟨a, ws, h1, e _ _ h2, RL.mono e h3⟩
  | non => exact h⟩
theorem dv_l {xs : List Sc} (h : (qL (qSc (K := K))).R H v xs) : (qDv (K := K)).R H v (.lst xs) := h
theorem dv_n : (qDv (K := K)).R H .non .non := rfl
theorem dv_getL {x : Dv} {y : List Sc} (h : (qDv (K := K)).R H v x) (e : x.getL = some y) : (qL (qSc (K := K))).R H v y := by
  cases x with
  | lst xs => cases e; exact h
  | tup xs => cases e
  | non => cases e
theorem v_isDvL {x : Dv} (ha : Val ta σ H v) (h : (qDv (K := K)).R H v x) : Val (tCB (rIsi K) (tCons ta (tCons (tC (.ty "list")) tNil))) σ H (.bl x.isL) := by
  cases x with
  | lst xs => exact v_isi ha (ty_l (show (qL (qSc (K := K))).R H v xs from h)) (k := true) (by decide +kernel)
  | tup xs =>
    obtain ⟨a, ws, rfl, h2, _⟩ := h
    exact v_isi ha (.base (.tup h2)) (k := false) (by decide +kernel)
  | non =>
    cases (show v = .non from h)
    exact v_isi ha ty_non (k := false) (by decide +kernel)
theorem scl_i : ∀ {ws : List V} {xs : List Int}, RL (K := K) qI H ws xs → RL (qSc (K := K)) H ws (xs.map Sc.int)
  | _, _, .nil => .nil
  | _, _, .cons h r => .cons h (scl_i r)
end
section
variable {K : PySem.W.Frag} {S : Hp} {v : V}
theorem dv_li {xs : List Int} (h : (qL (qI (K := K))).R S v xs) : (qDv (K := K)).R S v (.lst (xs.map Sc.int)) := by
  obtain ⟨a, ws, h1, h2, h3⟩ := h
  exact ⟨a, ws, h1, h2, scl_i h3⟩
end
/-! ### a list of four: three values and a list -/
section
variable {K : PySem.W.Frag} {S H : Hp} {v : V}
def qRc : Rep K (Sc × Sc × Sc × Dv) := ⟨fun H v x => ∃ a w0 w1 w2 w3, v = .ref a ∧ H a = some (.lst [w0, w1, w2, w3]) ∧ (qSc (K := K)).R H w0 x.1 ∧ (qSc (K := K)).R H w1 x.2.1 ∧ (qSc (K := K)).R H w2 x.2.2.1 ∧ (qDv (K := K)).R H w3 x.2.2.2,
  fun e ⟨a, w0, w1, w2, w3, h1, h2, h3, h4, h5, h6⟩ => ⟨a, w0, w1, w2, w3, h1, e _ _ h2, h3, h4, h5, (qDv (K := K)).mono e h6⟩⟩
theorem v_rc0 {x : Sc × Sc × Sc × Dv} (e : Same S H) (hr : (qRc (K := K)).R S v x) : ∃ w, (∀ {σ : L2.St} {ta tb : TE}, Val ta σ H v → Val tb σ H (.int 0) → Val (tOp (rIxL K) ta tb) σ H w) ∧ (qSc (K := K)).R S w x.1 := by
  obtain ⟨a, w0, w1, w2, w3, rfl, h2, h3, h4, h5, h6⟩ := hr
  exact ⟨w0, fun ha hb => v_ixl (e _ _ h2) rfl ha hb, h3⟩
theorem v_rc1 {x : Sc × Sc × Sc × Dv} (e : Same S H) (hr : (qRc (K := K)).R S v x) : ∃ w, (∀ {σ : L2.St} {ta tb : TE}, Val ta σ H v → Val tb σ H (.int 1) → Val (tOp (rIxL K) ta tb) σ H w) ∧ (qSc (K := K)).R S w x.2.1 := by
  obtain ⟨a, w0, w1, w2, w3, rfl, h2, h3, h4, h5, h6⟩ := hr
  exact ⟨w1, fun ha hb => v_ixl (e _ _ h2) rfl ha hb, h4⟩
theorem v_rc2 {x : Sc × Sc × Sc × Dv} (e : Same S H) (hr : (qRc (K := K)).R S v x) : ∃ w, (∀ {σ : L2.St} {ta tb : TE}, Val ta σ H v → Val tb σ H (.int 2) → Val (tOp (rIxL K) ta tb) σ H w) ∧ (qSc (K := K)).R S w x.2.2.1 := by
  obtain ⟨a, w0, w1, w2, w3, rfl, h2, h3, h4, h5, h6⟩ := hr
  exact ⟨w2, fun ha hb => v_ixl (e _ _ h2) rfl ha hb, h5⟩
theorem v_rc3 {x : Sc × Sc × Sc × Dv} (e : Same S H) (hr : (qRc (K := K)).R S v x) : ∃ w, (∀ {σ : L2.St} {ta tb : TE}, Val ta σ H v → Val tb σ H (.int 3) → Val (tOp (rIxL K) ta tb) σ H w) ∧ (qDv (K := K)).R S w x.2.2.2 := by
  obtain ⟨a, w0, w1, w2, w3, rfl, h2, h3, h4, h5, h6⟩ := hr
  exact ⟨w3, fun ha hb => v_ixl (e _ _ h2) rfl ha hb, h6⟩
end
section
variable {K : PySem.W.Frag} {σ : L2.St} {S H S0 H0 : Hp} {L : List Addr} {ta tb : TE} {D : Ends} {tu : TS} {v : V} {Q : VK}
theorem c_freezeR {l : Addr} {w0 w1 w2 w3 : V} {x0 x1 x2 : Sc} {x3 : Dv} (g : Grow L S0 H0 S H) (c : Cel L H0 S H l (.lst [w0, w1, w2, w3])) (z : H0 l = none)
    (r0 : (qSc (K := K)).R S w0 x0) (r1 : (qSc (K := K)).R S w1 x1) (r2 : (qSc (K := K)).R S w2 x2) (r3 : (qDv (K := K)).R S w3 x3) :
    ∃ S1, Grow L S0 H0 S1 H ∧ Same S S1 ∧ (qRc (K := K)).R S1 (.ref l) (x0, x1, x2, x3) ∧ ∀ l' o', l' ≠ l → Cel L H0 S H l' o' → Cel L H0 S1 H l' o' :=
  ⟨_, g.freeze c z, same_upd c.s, ⟨l, w0, w1, w2, w3, rfl, upd_same, r0, r1, r2, (qDv (K := K)).mono (same_upd c.s) r3⟩, fun _ _ n c' => c'.freeze n⟩
/-- xs[i] = v, where the list's values are known one by one -/
theorem c_setR {l : Addr} {ws ws' : List V} {i : Int} {j : Nat} (g : Grow L S0 H0 S H) (cl : Cel L H0 S H l (.lst ws)) (ho : Val ta σ H (.ref l)) (hi : Val tb σ H (.int i)) (e : ixN ws.length i = some j) (he : ws.set j v = ws')
    (k : ∀ H', Grow L S0 H0 S H' → Cel L H0 S H' l (.lst ws') → (∀ l' o', l' ≠ l → Cel L H0 S H l' o' → Cel L H0 S H' l' o') → tu D σ H') : gSub ta tb rSetL v σ H (tu D) := by
  subst he
  exact ho _ (hi _ ⟨l, ws, i, j, rfl, rfl, cl.h, e, k _ (g.wr cl rfl) (cl.wr rfl) fun l' o' n c => c.wrn n⟩)
theorem c_thE {k : V → Hp → VK → Prop} (h : ∀ Q' : VK, Q' = Q → tThen ta k σ H Q') : tThen ta k σ H Q := h _ rfl
theorem by_b {A : Prop} (c : Bool) (h1 : c = true → A) (h2 : c = false → A) : A := by
  cases c with
  | true => exact h1 rfl
  | false => exact h2 rfl
/-- tuple(xs) of a list -/
theorem c_tupleI {a : V} {xs : List Int} (e : Same S H) (hr : LS (qI (K := K)) S H a xs) (ha : Val ta σ H a) (k : ∀ p S' H', Grow [] S H S' H' → (qDv (K := K)).R S' (.ref p) (.tup (xs.map Sc.int)) → Q (.ref p) H') : tThen ta (kTup K) σ H Q := by
  obtain ⟨l, ws, rfl, h1, h2⟩ := hr
  exact ha _ (.inl ⟨l, ws, rfl, h1, fun q hq => k q _ _ ((Grow.refl e).imm hq) ⟨q, ws, rfl, upd_same, RL.mono ((Grow.refl (L := []) e).imm hq).ss (scl_i h2)⟩⟩)
end
/-! ### making an instance in a try -/
section
variable {X : Cx} {CX : CXT} {C f : Addr} {k : Nat} {fd : FuncData} {ps : List Str} {sp : Sp} {ds : List Value} {dvs : List V}
theorem run_makeS {pins : List (Addr × Obj)} {σ : L2.St} {H : Hp} {s : Shared} {Q : VK} {us : List Value} {vs : List V} {E : XK} (M : Mk X.K C f) (F : FnOk X.prog X.w X.K X.mg X.base CX k f fd ps sp) (hr : Room (k + 1) X.A) (hb : Binds X.K fd ps ds) (hd : Vals dvs ds)
    (hx : PassesAt CX X σ E) (I : Inv X pins σ H s) (r : Vals vs us)
    (h : ∀ x dx, H x = none → H dx = none → dx ≠ x → sp (.ref x :: (vs ++ dvs)) (upd (upd H dx (.own x)) x (.ins C dx [])) (fun v H2 => v = .non ∧ Q (.ref x) H2) E) :
    wpAny (model X.prog X.w) X.A (call (.ref C) us) (EP X pins σ Q) X.xe s := by
  have hq := h (s.heap.objs.size + 1) s.heap.objs.size (I.hok.fresh (Nat.le_succ _)) (I.hok.fresh (Nat.le_refl _)) (Nat.ne_of_lt (Nat.lt_succ_self _))
  have I2 := Inv.made (C := C) I
  have r2 : Vals (V.ref (s.heap.objs.size + 1) :: (vs ++ dvs)) (Value.ref (s.heap.objs.size + 1) :: (us ++ ds)) := .cons rfl (r.append hd)
  have hl : (Value.ref (s.heap.objs.size + 1) :: us ++ ds).length = ps.length := by
    have e := r2.length
    rw [F.len _ _ _ _ hq] at e
    exact e.symm
  refine wpAny_call (make_map (f := f) I.kIn M.makes M.init (beq_iff_eq.mp M.fn) (codeAny_mono (F.run _ X.stack _ _ ⟨Value.ref (s.heap.objs.size + 1) :: us, []⟩ (Value.ref (s.heap.objs.size + 1) :: (us ++ ds)) _ _ E (hr.make C us [])
    (I2.env0.make C us []) (hb _ (Value.ref (s.heap.objs.size + 1) :: us) I2.kIn hl) r2 hq) fun r s' hq' => ?_))
  cases r with
  | error e => exact hx pins _ _ e s' I2 hq'
  | ok fl =>
    cases fl with
    | ret u =>
      obtain ⟨v, H', I3, rv, ev, q3⟩ := I2.after hq'
      subst ev
      exact ⟨rv, ⟨V.ref (s.heap.objs.size + 1), H', I3, rfl, q3⟩⟩
    | next => exact False.elim hq'
    | brk => exact False.elim hq'
    | cont => exact False.elim hq'
def tMakeS (C : Addr) (sp : Sp) (dvs : List V) (E : L2.St → XK) (t : TA) : TE := fun σ H Q => t σ H fun vs H1 => ∀ x dx, H1 x = none → H1 dx = none → dx ≠ x →
  sp (.ref x :: (vs ++ dvs)) (upd (upd H1 dx (.own x)) x (.ins C dx [])) (fun v H2 => v = .non ∧ Q (.ref x) H2) (E σ)
theorem pe_makeS {E : L2.St → XK} {x : Str} {p pos : Pos} {e : Expr} {es : List Expr} {t : TA} (M : Mk X.K C f) (F : FnOk X.prog X.w X.K X.mg X.base CX k f fd ps sp) (hr : Room (k + 1) X.A) (hg : Gl X x) (hm : X.mg x = some (.ref C)) (hb : Binds X.K fd ps ds) (hd : Vals dvs ds) (hx : ∀ σ, PassesAt CX X σ (E σ))
    (ha : PA X (e :: es) t) (hdb : (x == ("__debug__" : Str)) = false := by decide) (he : starEach (e :: es) X.env = (false, eval e X.env) :: starEach es X.env := by rfl) (hpl : (backTo pos (starEach es X.env)).any (·.1) = false := by rfl) :
    PE X (.Call (.Name x p) (e :: es) [] pos) (tMakeS C sp dvs E t) := by
  refine ⟨fun pins s σ H Q I h => ?_⟩
  refine wpAny_Call_Name_kw (ld_glob I hg hm ?_ hdb)
  refine PySem.W.callWith_K (h₀ := X.base) I.ok.mod.kin M.kp (thn (ha.run pos pins s σ H _ I h) fun us s1 ⟨vs, H1, I1, r, q⟩ => ⟨I1.kIn, ?_⟩) he hpl
  exact run_makeS M F hr hb hd (hx σ) I1 r q
theorem c_makeS {C : Addr} {sp : Sp} {dvs : List V} {E : L2.St → XK} {t : TA} {σ : L2.St} {H : Hp} {Q : VK} (h : t σ H fun vs H1 => ∀ x dx, H1 x = none → H1 dx = none → dx ≠ x →
    sp (.ref x :: (vs ++ dvs)) (upd (upd H1 dx (.own x)) x (.ins C dx [])) (fun v H2 => v = .non ∧ Q (.ref x) H2) (E σ)) : tMakeS C sp dvs E t σ H Q := h
end
end Z

namespace E
open PySem PySem.Spec PyProof.Rows L2 Z
def top (i : Nat) : Stmt := PySem.Challenge.pw_evernever_k10_no_chart.main.body.getD i (.Pass ⟨0, 0, 0, 0⟩)
structure Cl where
  mk ::
  Chart : Addr
  EverError : Addr
  NoBar : Addr
  NoChart : Addr
  NoFence : Addr
  NoFormula : Addr
  NoFrame : Addr
  NoLine : Addr
  NoMachine : Addr
  NoName : Addr
  NoStep : Addr
  NotShut : Addr
  NothingLeft : Addr
  TooMany : Addr
def clsV (c : Cl) : Nat → Value
  | 2 => .ref c.NoChart
  | _ => .none
section
variable {P : Program} {w : World} {K : PySem.W.Frag} {mg : Str → Option Value} {base : Heap}
structure O_Chart where
  many : Int
  starts : Int
  bads : Int
  forth : (List Sc)
  back : (List Int)
def q_Chart (c : Cl) : Rep K O_Chart := ⟨fun H v x => ∃ (p dx : Addr) (w0 w1 w2 w3 w4 : V), v = .ref p ∧ H p = some (.ins c.Chart dx [("many", w0), ("starts", w1), ("bads", w2), ("forth", w3), ("back", w4)]) ∧ ((qI (K := K))).R H w0 x.many ∧ ((qI (K := K))).R H w1 x.starts ∧ ((qI (K := K))).R H w2 x.bads ∧ ((qL (qSc (K := K)))).R H w3 x.forth ∧ ((qL (qI (K := K)))).R H w4 x.back, fun {H H' v x} e h => by
  obtain ⟨p, dx, w0, w1, w2, w3, w4, rfl, hp, r0, r1, r2, r3, r4⟩ := h
  exact ⟨p, dx, w0, w1, w2, w3, w4, rfl, e _ _ hp, Rep.mono _ e r0, Rep.mono _ e r1, Rep.mono _ e r2, Rep.mono _ e r3, Rep.mono _ e r4⟩⟩
theorem in_Chart {c : Cl} {H : Hp} {v : V} {x : O_Chart} (h : (q_Chart (K := K) c).R H v x) : ∃ (l dx : Addr) (fs : List (Str × V)), v = .ref l ∧ H l = some (.ins c.Chart dx fs) ∧ ∀ m : Str, m ∉ (["many", "starts", "bads", "forth", "back"] : List Str) → fs.lookup m = none := by
  obtain ⟨p, dx, w0, w1, w2, w3, w4, rfl, hp, _⟩ := h
  exact ⟨p, dx, _, rfl, hp, fun m hm => look_none (ns := ["many", "starts", "bads", "forth", "back"]) rfl hm⟩
theorem nn_Chart {c : Cl} {H : Hp} {v : V} {x : O_Chart} (h : (q_Chart (K := K) c).R H v x) : v ≠ .non := by
  obtain ⟨p, dx, w0, w1, w2, w3, w4, rfl, _⟩ := h
  exact fun z => nomatch z
theorem fz_Chart {c : Cl} {L : List Addr} {S0 H0 S H : Hp} {l dx : Addr} {w0 w1 w2 w3 w4 : V} (g : Grow L S0 H0 S H) (cl : Cel L H0 S H l (.ins c.Chart dx [("many", w0), ("starts", w1), ("bads", w2), ("forth", w3), ("back", w4)])) (z : H0 l = none) {x : O_Chart} (r0 : ((qI (K := K))).R S w0 x.many) (r1 : ((qI (K := K))).R S w1 x.starts) (r2 : ((qI (K := K))).R S w2 x.bads) (r3 : ((qL (qSc (K := K)))).R S w3 x.forth) (r4 : ((qL (qI (K := K)))).R S w4 x.back) : ∃ S1, Grow L S0 H0 S1 H ∧ Same S S1 ∧ (q_Chart (K := K) c).R S1 (.ref l) x ∧ ∀ l' o', l' ≠ l → Cel L H0 S H l' o' → Cel L H0 S1 H l' o' := by
  have e := same_upd (o := (.ins c.Chart dx [("many", w0), ("starts", w1), ("bads", w2), ("forth", w3), ("back", w4)])) cl.s
  exact ⟨_, g.freeze cl z, e, ⟨l, dx, w0, w1, w2, w3, w4, rfl, upd_same, Rep.mono _ e r0, Rep.mono _ e r1, Rep.mono _ e r2, Rep.mono _ e r3, Rep.mono _ e r4⟩, fun l' o' n c' => c'.freeze n⟩
structure Tx (K : PySem.W.Frag) (mg : Str → Option Value) : Type where
  c : Cl
  f_is_whole : Addr
  d_is_whole : FuncData
  F_is_whole : Fun K "is_whole" "is_whole" (top 16) f_is_whole d_is_whole
  b_is_whole : Binds K d_is_whole ["thing"] []
  m_is_whole : mg "is_whole" = some (.ref f_is_whole)
  f_is_crowd : Addr
  d_is_crowd : FuncData
  F_is_crowd : Fun K "is_crowd" "is_crowd" (top 17) f_is_crowd d_is_crowd
  b_is_crowd : Binds K d_is_crowd ["many", "thing"] []
  m_is_crowd : mg "is_crowd" = some (.ref f_is_crowd)
  f_stands_of : Addr
  d_stands_of : FuncData
  F_stands_of : Fun K "stands_of" "stands_of" (top 18) f_stands_of d_stands_of
  b_stands_of : Binds K d_stands_of ["crowd"] []
  m_stands_of : mg "stands_of" = some (.ref f_stands_of)
  f_leading_back : Addr
  d_leading_back : FuncData
  F_leading_back : Fun K "leading_back" "leading_back" (top 19) f_leading_back d_leading_back
  b_leading_back : Binds K d_leading_back ["after"] []
  m_leading_back : mg "leading_back" = some (.ref f_leading_back)
  f_Chart___init__ : Addr
  d_Chart___init__ : FuncData
  F_Chart___init__ : Fun K "__init__" "Chart.__init__" (inClass (top 20) 0) f_Chart___init__ d_Chart___init__
  b_Chart___init__ : Binds K d_Chart___init__ ["self", "many", "starts", "bads", "after"] []
  f__law_bad_crowd : Addr
  d__law_bad_crowd : FuncData
  F__law_bad_crowd : Fun K "_law_bad_crowd" "_law_bad_crowd" (top 23) f__law_bad_crowd d__law_bad_crowd
  b__law_bad_crowd : Binds K d__law_bad_crowd ["_law_cell", "_law_size"] []
  m__law_bad_crowd : mg "_law_bad_crowd" = some (.ref f__law_bad_crowd)
  f__law_bad_list : Addr
  d__law_bad_list : FuncData
  F__law_bad_list : Fun K "_law_bad_list" "_law_bad_list" (top 25) f__law_bad_list d__law_bad_list
  b__law_bad_list : Binds K d__law_bad_list ["_law_cell", "_law_after"] []
  m__law_bad_list : mg "_law_bad_list" = some (.ref f__law_bad_list)
  f__law_bad_many : Addr
  d__law_bad_many : FuncData
  F__law_bad_many : Fun K "_law_bad_many" "_law_bad_many" (top 24) f__law_bad_many d__law_bad_many
  b__law_bad_many : Binds K d__law_bad_many ["_law_cell", "_law_good"] []
  m__law_bad_many : mg "_law_bad_many" = some (.ref f__law_bad_many)
  f__law_cell_at : Addr
  d__law_cell_at : FuncData
  F__law_cell_at : Fun K "_law_cell_at" "_law_cell_at" (top 22) f__law_cell_at d__law_cell_at
  b__law_cell_at : Binds K d__law_cell_at ["_law_script", "_law_k"] []
  m__law_cell_at : mg "_law_cell_at" = some (.ref f__law_cell_at)
  f__law_refused : Addr
  d__law_refused : FuncData
  F__law_refused : Fun K "_law_refused" "_law_refused" (top 27) f__law_refused d__law_refused
  b__law_refused : Binds K d__law_refused ["_law_many", "_law_starts", "_law_bads", "_law_after"] []
  m__law_refused : mg "_law_refused" = some (.ref f__law_refused)
  f__law_alone : Addr
  d__law_alone : FuncData
  F__law_alone : Fun K "_law_alone" "_law_alone" (top 26) f__law_alone d__law_alone
  b__law_alone : Binds K d__law_alone ["_law_e"] []
  m__law_alone : mg "_law_alone" = some (.ref f__law_alone)
  f__law_refused_by_any : Addr
  d__law_refused_by_any : FuncData
  F__law_refused_by_any : Fun K "_law_refused_by_any" "_law_refused_by_any" (top 28) f__law_refused_by_any d__law_refused_by_any
  b__law_refused_by_any : Binds K d__law_refused_by_any ["_law_many", "_law_starts", "_law_bads", "_law_after"] []
  m__law_refused_by_any : mg "_law_refused_by_any" = some (.ref f__law_refused_by_any)
  f_law : Addr
  d_law : FuncData
  F_law : Fun K "law" "law" (top 29) f_law d_law
  b_law : Binds K d_law ["_law_script"] []
  m_law : mg "law" = some (.ref f_law)
  m_Chart : mg "Chart" = some (.ref c.Chart)
  l_Chart : Cls K c.Chart
  k_Chart : Mk K c.Chart f_Chart___init__
  i_NoChart_NoBar : PySem.W.kitOne K (.ref c.NoChart) (.ref c.NoBar) = some false
  i_NoChart_NoChart : PySem.W.kitOne K (.ref c.NoChart) (.ref c.NoChart) = some true
  i_NoChart_NoFence : PySem.W.kitOne K (.ref c.NoChart) (.ref c.NoFence) = some false
  i_NoChart_NoFormula : PySem.W.kitOne K (.ref c.NoChart) (.ref c.NoFormula) = some false
  i_NoChart_NoFrame : PySem.W.kitOne K (.ref c.NoChart) (.ref c.NoFrame) = some false
  i_NoChart_NoLine : PySem.W.kitOne K (.ref c.NoChart) (.ref c.NoLine) = some false
  i_NoChart_NoMachine : PySem.W.kitOne K (.ref c.NoChart) (.ref c.NoMachine) = some false
  i_NoChart_NoName : PySem.W.kitOne K (.ref c.NoChart) (.ref c.NoName) = some false
  i_NoChart_NoStep : PySem.W.kitOne K (.ref c.NoChart) (.ref c.NoStep) = some false
  i_NoChart_NotShut : PySem.W.kitOne K (.ref c.NoChart) (.ref c.NotShut) = some false
  i_NoChart_NothingLeft : PySem.W.kitOne K (.ref c.NoChart) (.ref c.NothingLeft) = some false
  i_NoChart_TooMany : PySem.W.kitOne K (.ref c.NoChart) (.ref c.TooMany) = some false
  a_Chart_back : NoAttr K c.Chart "back"
  a_Chart_bads : NoAttr K c.Chart "bads"
  a_Chart_forth : NoAttr K c.Chart "forth"
  a_Chart_many : NoAttr K c.Chart "many"
  a_Chart_starts : NoAttr K c.Chart "starts"
  m_EverError : mg "EverError" = some (.ref c.EverError)
  m_NoBar : mg "NoBar" = some (.ref c.NoBar)
  m_NoChart : mg "NoChart" = some (.ref c.NoChart)
  m_NoFence : mg "NoFence" = some (.ref c.NoFence)
  m_NoFormula : mg "NoFormula" = some (.ref c.NoFormula)
  m_NoFrame : mg "NoFrame" = some (.ref c.NoFrame)
  m_NoLine : mg "NoLine" = some (.ref c.NoLine)
  m_NoMachine : mg "NoMachine" = some (.ref c.NoMachine)
  m_NoName : mg "NoName" = some (.ref c.NoName)
  m_NoStep : mg "NoStep" = some (.ref c.NoStep)
  m_NotShut : mg "NotShut" = some (.ref c.NotShut)
  m_NothingLeft : mg "NothingLeft" = some (.ref c.NothingLeft)
  m_TooMany : mg "TooMany" = some (.ref c.TooMany)
  e_NoChart : ExF K c.NoChart
  x_NoChart_EverError : PySem.W.exmOne K (.ref c.NoChart) (.ref c.EverError) = some true
  x_NoChart_NoChart : PySem.W.exmOne K (.ref c.NoChart) (.ref c.NoChart) = some true
  xc_NoChart : ExcC K c.NoChart
  ib_NoChart_ValueError : PySem.W.subIn K (.ref c.NoChart) (.type "ValueError") = some true
  n_ValueError : mg "ValueError" = none
  n_bool : mg "bool" = none
  n_enumerate : mg "enumerate" = none
  n_int : mg "int" = none
  n_isinstance : mg "isinstance" = none
  n_len : mg "len" = none
  n_list : mg "list" = none
  n_range : mg "range" = none
  n_tuple : mg "tuple" = none

theorem vf_Chart_many (T : Tx K mg) {σ : L2.St} {H : Hp} {ta : TE} {v : V} {x : O_Chart} (ha : Val ta σ H v) (h : (q_Chart (K := K) T.c).R H v x) : Val (tFld K ta "many") σ H (.int x.many) := by
  obtain ⟨p, dx, w0, w1, w2, w3, w4, rfl, hp, r0, r1, r2, r3, r4⟩ := h
  cases r0
  exact v_fld ha hp T.l_Chart T.a_Chart_many rfl
theorem vf_Chart_starts (T : Tx K mg) {σ : L2.St} {H : Hp} {ta : TE} {v : V} {x : O_Chart} (ha : Val ta σ H v) (h : (q_Chart (K := K) T.c).R H v x) : Val (tFld K ta "starts") σ H (.int x.starts) := by
  obtain ⟨p, dx, w0, w1, w2, w3, w4, rfl, hp, r0, r1, r2, r3, r4⟩ := h
  cases r1
  exact v_fld ha hp T.l_Chart T.a_Chart_starts rfl
theorem vf_Chart_bads (T : Tx K mg) {σ : L2.St} {H : Hp} {ta : TE} {v : V} {x : O_Chart} (ha : Val ta σ H v) (h : (q_Chart (K := K) T.c).R H v x) : Val (tFld K ta "bads") σ H (.int x.bads) := by
  obtain ⟨p, dx, w0, w1, w2, w3, w4, rfl, hp, r0, r1, r2, r3, r4⟩ := h
  cases r2
  exact v_fld ha hp T.l_Chart T.a_Chart_bads rfl
theorem vf_Chart_forth (T : Tx K mg) {S H : Hp} {v : V} {x : O_Chart} (e : Same S H) (h : (q_Chart (K := K) T.c).R S v x) : ∃ w, (∀ {σ : L2.St} {ta : TE}, Val ta σ H v → Val (tFld K ta "forth") σ H w) ∧ ((qL (qSc (K := K)))).R S w x.forth := by
  obtain ⟨p, dx, w0, w1, w2, w3, w4, rfl, hp, r0, r1, r2, r3, r4⟩ := h
  exact ⟨w3, fun ha => v_fld ha (e _ _ hp) T.l_Chart T.a_Chart_forth rfl, r3⟩
theorem vf_Chart_back (T : Tx K mg) {S H : Hp} {v : V} {x : O_Chart} (e : Same S H) (h : (q_Chart (K := K) T.c).R S v x) : ∃ w, (∀ {σ : L2.St} {ta : TE}, Val ta σ H v → Val (tFld K ta "back") σ H w) ∧ ((qL (qI (K := K)))).R S w x.back := by
  obtain ⟨p, dx, w0, w1, w2, w3, w4, rfl, hp, r0, r1, r2, r3, r4⟩ := h
  exact ⟨w4, fun ha => v_fld ha (e _ _ hp) T.l_Chart T.a_Chart_back rfl, r4⟩

@[irreducible] def m_is_whole (thing1 : Sc) : Option Bool :=
some (thing1.isI && (!thing1.isB))
abbrev s_is_whole : Stmt := top 16
abbrev sn_is_whole : List Str := ["thing"]
theorem sc_is_whole : FnScope ["thing"] ["thing"] (defScope (s_is_whole)) := ⟨rfl, rfl, rfl, by decide +kernel, rfl, by decide +kernel, by decide +kernel⟩
def p_is_whole (K : PySem.W.Frag) (c : Cl) : Sp := fun vs H Q E => ∃ (v2 : V) (thing1 : Sc), vs = [v2] ∧ ((qSc (K := K))).R H v2 thing1 ∧ OP (m_is_whole thing1) (fun r => Q (.bl r) H)
theorem ok_is_whole (T : Tx K mg) : FnOk P w K mg base CX0 1 T.f_is_whole T.d_is_whole ["thing"] (p_is_whole K T.c) := by
  refine T.F_is_whole.ok sc_is_whole (fun vs H Q E h => by obtain ⟨v2, thing1, rfl, _⟩ := h; rfl) (fun cdv A outer s H vs Q E hr h => ?_)
  obtain ⟨v2, thing1, rfl, r3, h⟩ := h
  obtain ⟨A_, hA⟩ : ∃ A_, A_ = (fun r : Bool => Q (.bl r) H) := ⟨_, rfl⟩
  replace h : OP (m_is_whole thing1) A_ := hA ▸ h
  rw [m_is_whole] at h
  refine ⟨_, (pss_cons (ps_ret (pe_and (pe_callB (show CallR _ (.builtin "isinstance") (rIsi K) from call_isi) rfl T.n_isinstance bt_isinstance (pa_cons (pe_var (i := 0) rfl (.inl rfl) rfl rfl) (pa_cons (pe_bltn (v := .ty "int") rfl T.n_int bt_int rfl) pa_nil))) (pe_one (pe_not (pe_callB (show CallR _ (.builtin "isinstance") (rIsi K) from call_isi) rfl T.n_isinstance bt_isinstance (pa_cons (pe_var (i := 0) rfl (.inl rfl) rfl rfl) (pa_cons (pe_bltn (v := .ty "bool") rfl T.n_bool bt_bool rfl) pa_nil)))))))
      pss_nil), ?_⟩
  refine z_start (σ := [some v2]) rfl ?_
  have g : Grow [] H H H H := Grow.refl (Same.refl _)
  refine z_ret (v_and (v_isScI (val_var rfl) (Rep.mono _ g.sh r3)) (v_not (v_isScB (val_var rfl) (Rep.mono _ g.sh r3)))) ?_
  have h := OP.fin hA h
  exact h

@[irreducible] def m_is_crowd (many1 : Sc) (thing4 : Sc) : Option Bool :=
(m_is_whole thing4).bind fun v7 =>
ifo (!v7) (
some false) (
(thing4.getI).bind fun y8 =>
(ifo (decide (0 ≤ y8)) ((many1.getI).bind fun y10 =>
grd (gPow 1 y10) <|
grd (gPow 1 (shl 1 y10)) <|
(thing4.getI).bind fun y14 =>
some (decide (y14 < (shl 1 (shl 1 y10))))) (some false)).bind fun c_16 =>
some c_16)
abbrev s_is_crowd : Stmt := top 17
abbrev sn_is_crowd : List Str := ["many", "thing"]
theorem sc_is_crowd : FnScope ["many", "thing"] ["many", "thing"] (defScope (s_is_crowd)) := ⟨rfl, rfl, rfl, by decide +kernel, rfl, by decide +kernel, by decide +kernel⟩
def p_is_crowd (K : PySem.W.Frag) (c : Cl) : Sp := fun vs H Q E => ∃ (v2 : V) (many1 : Sc) (v5 : V) (thing4 : Sc), vs = [v2, v5] ∧ ((qSc (K := K))).R H v2 many1 ∧ ((qSc (K := K))).R H v5 thing4 ∧ OP (m_is_crowd many1 thing4) (fun r => Q (.bl r) H)
theorem ok_is_crowd (T : Tx K mg) : FnOk P w K mg base CX0 2 T.f_is_crowd T.d_is_crowd ["many", "thing"] (p_is_crowd K T.c) := by
  refine T.F_is_crowd.ok sc_is_crowd (fun vs H Q E h => by obtain ⟨v2, many1, v5, thing4, rfl, _⟩ := h; rfl) (fun cdv A outer s H vs Q E hr h => ?_)
  obtain ⟨v2, many1, v5, thing4, rfl, r3, r6, h⟩ := h
  obtain ⟨A_, hA⟩ : ∃ A_, A_ = (fun r : Bool => Q (.bl r) H) := ⟨_, rfl⟩
  replace h : OP (m_is_crowd many1 thing4) A_ := hA ▸ h
  rw [m_is_crowd] at h
  have hr1 : Room 1 _ := hr.mono (by decide)
  refine ⟨_, (pss_cons (ps_if (pt_not (pt_val (pe_call (ok_is_whole T) hr1 rfl T.m_is_whole T.F_is_whole.kp T.b_is_whole .nil pass0 (pa_cons (pe_var (i := 1) rfl (.inl rfl) rfl rfl) pa_nil)))) (pss_cons (ps_ret pe_bl)
      pss_nil) pss_nil)
      (pss_cons (ps_ret (pe_and (pe_cmpR op_le pe_int (pe_var (i := 1) rfl (.inl rfl) rfl rfl) (nomark _)) (pe_one (pe_cmpR op_lt (pe_var (i := 1) rfl (.inl rfl) rfl rfl) (pe_op op_shl pe_int (pe_op op_shl pe_int (pe_var (i := 0) rfl (.inl rfl) rfl rfl))) (nomark _)))))
      pss_nil)), ?_⟩
  refine z_start (σ := [some v2, some v5]) rfl ?_
  have g : Grow [] H H H H := Grow.refl (Same.refl _)
  obtain ⟨v7, ev7, h⟩ := OP.bind h
  refine z_if (a_not (v_B (v_call (va_cons (val_var rfl) va_nil) fun Q q => ⟨_, _, rfl, (Rep.mono _ g.sh r6), OP.mk ev7 q⟩))) (fun hc => ?_) (fun hc => ?_)
  · replace h := OP.ite1 hc h
    refine z_ret val_c ?_
    have h := OP.fin hA h
    exact h
  · replace h := OP.ite0 hc h
    refine z_nextR ?_
    obtain ⟨y8, ey8, h⟩ := OP.bind h
    have ev9 : v5 = (.int y8) := sc_getI r6 ey8
    obtain ⟨c_16, ec_16, h⟩ := OP.bind h
    refine z_ret (v_andP (v_o2 val_c (v_eq (val_var rfl) ev9)) ec_16 (fun hb hm => by
          obtain ⟨y10, ey10, hm⟩ := bind_some hm
          have ev11 : v2 = (.int y10) := sc_getI r3 ey10
          obtain ⟨g12, hm⟩ := grd_some hm
          obtain ⟨g13, hm⟩ := grd_some hm
          obtain ⟨y14, ey14, hm⟩ := bind_some hm
          have ev15 : v5 = (.int y14) := sc_getI r6 ey14
          exact (v_eq (v_o2 (v_eq (val_var rfl) ev15) (v_o2c val_c (v_o2c val_c (v_eq (val_var rfl) ev11) g12) g13)) (congrArg V.bl (Option.some.inj hm))))) ?_
    have h := OP.fin hA h
    exact h

@[irreducible] def m_stands_of (crowd1 : Int) : Option (List Int) :=
(whileO (fun s => un2 (fun crowd19 found23 =>
some (decide (0 < crowd19))) s) (fun s => un2 (fun crowd19 found23 =>
lt (band crowd19 (-crowd19)) fun lowest31 =>
grd (found23.length < 16777216) <|
lt (found23 ++ [((blen lowest31) - 1)]) fun l33 =>
lt (bxor crowd19 lowest31) fun crowd40 =>
some (crowd40, l33)) s) bigN (crowd1, ([] : List Int))).bind (fun s => un2 (fun crowd19 found23 =>
some found23) s)
abbrev s_stands_of : Stmt := top 18
abbrev sn_stands_of : List Str := ["crowd", "found", "lowest"]
theorem sc_stands_of : FnScope ["crowd", "found", "lowest"] ["crowd"] (defScope (s_stands_of)) := ⟨rfl, rfl, rfl, by decide +kernel, rfl, by decide +kernel, by decide +kernel⟩
def p_stands_of (K : PySem.W.Frag) (c : Cl) : Sp := fun vs H Q E => ∃ (S : Hp) (crowd1 : Int), vs = [.int crowd1] ∧ Same S H ∧ OP (m_stands_of crowd1) (fun r => ∀ (S' H' : Hp) (p : Addr) (ws : List V), Grow [] S H S' H' → H p = none → H' p = some (.lst ws) → S' p = none → RL (qI (K := K)) S' ws r → Q (.ref p) H')
theorem ok_stands_of (T : Tx K mg) : FnOk P w K mg base CX0 1 T.f_stands_of T.d_stands_of ["crowd"] (p_stands_of K T.c) := by
  refine T.F_stands_of.ok sc_stands_of (fun vs H Q E h => by obtain ⟨S, crowd1, rfl, _⟩ := h; rfl) (fun cdv A outer s H vs Q E hr h => ?_)
  obtain ⟨S, crowd1, rfl, gS, h⟩ := h
  obtain ⟨A_, hA⟩ : ∃ A_, A_ = (fun r : (List Int) => ∀ (S' H' : Hp) (p : Addr) (ws : List V), Grow [] S H S' H' → H p = none → H' p = some (.lst ws) → S' p = none → RL (qI (K := K)) S' ws r → Q (.ref p) H') := ⟨_, rfl⟩
  replace h : OP (m_stands_of crowd1) A_ := hA ▸ h
  rw [m_stands_of] at h
  refine ⟨_, (pss_cons (ps_set (i := 1) sc_stands_of.nd rfl (.inl rfl) (pe_lst pa_nil))
      (pss_cons (ps_while PassesOwn.never (pt_cmpR op_gt (pe_var (i := 0) rfl (.inl rfl) rfl rfl) pe_int (nomark _)) (pss_cons (ps_set (i := 2) sc_stands_of.nd rfl (.inl rfl) (pe_op op_and (pe_var (i := 0) rfl (.inl rfl) rfl rfl) (pe_un un_neg (pe_var (i := 0) rfl (.inl rfl) rfl rfl))))
      (pss_cons (ps_expr (pe_bm PySem.F.plainAttrs_list PySem.F.slot_list_append PySem.F.type_list_append mt_append (pe_var (i := 1) rfl (.inl rfl) rfl rfl) (pa_cons (pe_op op_sub (pe_bits (pe_var (i := 2) rfl (.inl rfl) rfl rfl)) pe_int) pa_nil)))
      (pss_cons (ps_aug (i := 0) sc_stands_of.nd rfl (.inl rfl) (pe_var (i := 2) rfl (.inl rfl) rfl rfl) iop_xor)
      pss_nil))))
      (pss_cons (ps_ret (pe_var (i := 1) rfl (.inl rfl) rfl rfl))
      pss_nil))), ?_⟩
  refine z_start (σ := [some (.int crowd1), none, none]) rfl ?_
  have g : Grow [] S H S H := Grow.refl gS
  refine z_setE ?_
  refine c_lstE fun Q_2 hQ_2 => ?_
  refine c_args va_nil ?_
  refine c_newlst (Q := Q_2) (vs := []) (show 0 ≤ 1000 by decide) fun p3 H_4 e5 np6 ep7 => ?_
  refine q_eq hQ_2 ?_
  have w_8 : RL (qI (K := K)) S [] ([] : List Int) := .nil
  have z10 := g.hnone np6
  have c_9 : Cel [] H S H_4 p3 (.lst []) := Cel.own g e5 np6 ep7 rfl
  replace g := g.ext e5
  refine g_name (σ' := [some (.int crowd1), some (.ref p3), none]) rfl ?_
  obtain ⟨B11, h, hB12⟩ := OP.cut h
  obtain ⟨C13, F15, hC14, hF16, h⟩ := OP.nameW h
  refine z_while (fun n18 σ' H' => ∃ (crowd19 : Int) (ws20 : List V) (found23 : (List Int)) (u24 : Option V) (S_25 : Hp), σ' = [some (.int crowd19), some (.ref p3), u24] ∧ Grow [] S H S_25 H' ∧ Same S S_25 ∧ Cel [] H S_25 H' p3 (.lst ws20) ∧ RL (qI (K := K)) S_25 ws20 found23 ∧ OP (whileO C13 F15 n18 (crowd19, found23)) B11) ⟨_, _, _, _, _, rfl, g, (Same.refl _), c_9, w_8, h⟩ (fun n18 σ' H_26 p => ?_)
  obtain ⟨crowd19, ws20, found23, u24, S_25, rfl, gN, eS27, c_21N, r22N, h⟩ := p
  replace g := gN
  have c_21 := c_21N
  have r22 := r22N
  obtain ⟨n28, en29, h⟩ := OP.whileO h
  obtain ⟨b30, hm, h⟩ := OP.get h
  replace hm := fcall hC14 hm
  replace hm := eun2 hm
  refine ⟨b30, a_eq (v_test (v_o2 (val_var rfl) val_c)) (Option.some.inj hm), fun hc => ⟨n28, en29, fun N hN17 => ?_⟩, fun hc => ?_⟩
  · rw [if_pos hc] at h
    replace h := OP.fcall1 hF16 h
    replace h := OP.un2 h
    obtain ⟨lowest31, elowest31, h⟩ := OP.lt h
    refine z_set (w := (.int lowest31)) (σ' := [some (.int crowd19), some (.ref p3), some (.int lowest31)]) (v_o2 (val_var rfl) (v_u (val_var rfl))) (congrArg V.int elowest31) rfl ?_
    refine z_dropE ?_
    refine c_bm (val_var rfl) (tyL c_21.h) ?_
    refine c_args (va_cons (v_o2 (v_bits (val_var rfl)) val_c) va_nil) ?_
    obtain ⟨g32, h⟩ := OP.grd h
    obtain ⟨l33, el33, h⟩ := OP.lt h
    refine c_app g c_21 r22 rfl g32 el33 fun ws34 H_35 g36 c_37 w_38 ot39 => ?_
    replace g := g36
    obtain ⟨crowd40, ecrowd40, h⟩ := OP.lt h
    refine z_augI (w := (.int crowd40)) (σ' := [some (.int crowd40), some (.ref p3), some (.int lowest31)]) rfl (val_var rfl) (congrArg V.int ecrowd40) rfl ?_
    refine z_next ?_
    exact hN17 _ _ ⟨_, _, _, _, _, rfl, g, eS27, c_37, w_38, h⟩
  · rw [if_neg (by rw [hc]; exact Bool.false_ne_true)] at h
    replace h := hB12 _ h
    replace h := OP.un2 h
    refine z_ret (val_var rfl) ?_
    have h := OP.fin hA h
    exact h _ _ _ _ g z10 c_21.h c_21.s r22

@[irreducible] def m_leading_back (after1 : (List Sc)) : Option (List Int) :=
(compO (fun zx4 =>
some (some 0)) (after1)).bind fun ys9 =>
(forO (fun x19 back31 =>
(x19.2.getI).bind fun y44 =>
(m_stands_of y44).bind fun v46 =>
(forO (fun there60 back72 =>
(atI back72 there60).bind fun i78 =>
grd (gPow 1 x19.1) <|
(setI back72 there60 (bor i78 (shl 1 x19.1))).bind fun l80 =>
some l80) (v46) back31).bind (fun back72 =>
some back72)) (enumI after1) ys9).bind (fun back31 =>
some back31)
abbrev s_leading_back : Stmt := top 19
abbrev sn_leading_back : List Str := ["after", "back", "here", "crowd", "there"]
theorem sc_leading_back : FnScope ["after", "back", "here", "crowd", "there"] ["after"] (defScope (s_leading_back)) := ⟨rfl, rfl, rfl, by decide +kernel, rfl, by decide +kernel, by decide +kernel⟩
def p_leading_back (K : PySem.W.Frag) (c : Cl) : Sp := fun vs H Q E => ∃ (S : Hp) (v2 : V) (after1 : (List Sc)), vs = [v2] ∧ Same S H ∧ RdL (qSc (K := K)) [] S H v2 after1 ∧ OP (m_leading_back after1) (fun r => ∀ (S' H' : Hp) (p : Addr) (ws : List V), Grow [] S H S' H' → H p = none → H' p = some (.lst ws) → S' p = none → RL (qI (K := K)) S' ws r → Q (.ref p) H')
theorem ok_leading_back (T : Tx K mg) : FnOk P w K mg base CX0 2 T.f_leading_back T.d_leading_back ["after"] (p_leading_back K T.c) := by
  refine T.F_leading_back.ok sc_leading_back (fun vs H Q E h => by obtain ⟨S, v2, after1, rfl, _⟩ := h; rfl) (fun cdv A outer s H vs Q E hr h => ?_)
  obtain ⟨S, v2, after1, rfl, gS, r3, h⟩ := h
  obtain ⟨A_, hA⟩ : ∃ A_, A_ = (fun r : (List Int) => ∀ (S' H' : Hp) (p : Addr) (ws : List V), Grow [] S H S' H' → H p = none → H' p = some (.lst ws) → S' p = none → RL (qI (K := K)) S' ws r → Q (.ref p) H') := ⟨_, rfl⟩
  replace h : OP (m_leading_back after1) A_ := hA ▸ h
  rw [m_leading_back] at h
  have hr1 : Room 1 _ := hr.mono (by decide)
  refine ⟨_, (pss_cons (ps_setLc (i := 1) (y := "back") (own := [("here", 2)]) (g := gName 2) (tt := tYes) rfl sc_leading_back.nd rfl rfl (sw_true rfl rfl rfl (by decide +kernel)) (pi_list (pe_var (i := 0) rfl (.inl rfl) rfl rfl)) (blkOk_by (N := sn_leading_back) (sc := defScope s_leading_back) (by decide +kernel)) (fun _ _ _ _ _ => pg_name (i := 2) sc_leading_back.nd rfl (.inl rfl)) (fun _ _ _ _ _ => pts_nil) (fun _ _ _ _ _ => pe_int))
      (pss_cons (ps_for PassesOwn.never rfl (pi_enum rfl T.n_enumerate (pa_cons (pe_var (i := 0) rfl (.inl rfl) rfl rfl) pa_nil)) (pg_tup rfl (pgs_cons (pg_name (i := 2) sc_leading_back.nd rfl (.inl rfl)) (pgs_cons (pg_name (i := 3) sc_leading_back.nd rfl (.inl rfl)) pgs_nil))) (pss_cons (ps_for PassesOwn.never rfl (pi_list (pe_call (ok_stands_of T) hr1 rfl T.m_stands_of T.F_stands_of.kp T.b_stands_of .nil pass0 (pa_cons (pe_var (i := 3) rfl (.inl rfl) rfl rfl) pa_nil))) (pg_name (i := 4) sc_leading_back.nd rfl (.inl rfl)) (pss_cons (show PS _ _ (sXAug _ _ _ (rIxL K) _ rSetL) from ps_xaug (pe_var (i := 1) rfl (.inl rfl) rfl rfl) (pe_var (i := 4) rfl (.inl rfl) rfl rfl) (pe_op op_shl pe_int (pe_var (i := 2) rfl (.inl rfl) rfl rfl)) (show PIp _ _ _ from iop_or) (fun _ _ _ => rfl))
      pss_nil))
      pss_nil))
      (pss_cons (ps_ret (pe_var (i := 1) rfl (.inl rfl) rfl rfl))
      pss_nil))), ?_⟩
  refine z_start (σ := [some v2, none, none, none, none]) rfl ?_
  have g : Grow [] S H S H := Grow.refl gS
  refine z_setE ?_
  obtain ⟨q5a, q5w, q5e, q5h, q5p⟩ := (LS.rd g r3)
  obtain ⟨ys9, eys9, h⟩ := OP.bind h
  refine c_lcL (v_eq (val_var rfl) q5e) q5h q5p eys9 (τ := (qI (K := K))) (S := S) (fun w zx4 H_6 rw_ e7 r_ hm => ?_) ?_
  · have g := g.ext e7
    have rx8 := rw_
    exact ⟨true, a_yes rfl, fun _ => ⟨_, _, (Option.some.inj hm).symm, val_c, rfl⟩, fun z => nomatch z⟩
  intro p10 ws11 H_12 e13 np14 ep15 rw16
  have z18 := g.hnone np14
  have c_17 : Cel [] H S H_12 p10 (.lst ws11) := Cel.own g e13 np14 ep15 rfl
  replace g := g.ext e13
  refine g_name (σ' := [some v2, some (.ref p10), none, none, none]) rfl ?_
  obtain ⟨B22, h, hB23⟩ := OP.cut h
  obtain ⟨F24, hF25, h⟩ := OP.nameO h
  obtain ⟨q38a, q38w, q38e, q38h, q38p⟩ := id r3
  refine z_forN (v_eq (val_var rfl) q38e) q38p (fun ys27 σ' H' => ∃ (ws28 : List V) (back31 : (List Int)) (u32 : Option V) (u33 : Option V) (u34 : Option V) (S_35 : Hp), σ' = [some v2, some (.ref p10), u32, u33, u34] ∧ Grow [] S H S_35 H' ∧ Same S S_35 ∧ Cel [] H S_35 H' p10 (.lst ws28) ∧ RL (qI (K := K)) S_35 ws28 back31 ∧ OP (forO F24 ys27 back31) B22) ⟨_, _, _, _, _, _, rfl, g, (Same.refl _), c_17, rw16, h⟩ (fun ys σ' H' p => by obtain ⟨ws28, back31, u32, u33, u34, S_35, rfl, gN, eS37, c_29N, r30N, h⟩ := p; exact gN.sq q38h) (fun w_20 x19 ys27 σ' H_36 rw21 p N hN26 t39 nt40 => ?_) ?_
  · obtain ⟨ws28, back31, u32, u33, u34, S_35, rfl, gN, eS37, c_29N, r30N, h⟩ := p
    replace g := gN
    have c_29 := c_29N
    have r30 := r30N
    replace r3 := RdL.mono eS37 r3
    replace h := OP.forO h
    replace h := OP.fcall2 hF25 h
    obtain ⟨H_42, e41, qH_42⟩ : ∃ H2, Same H_36 H2 ∧ H2 = upd H_36 t39 (.tup [.int x19.1, w_20]) := ⟨_, same_upd nt40, rfl⟩
    have tH_42 : H_42 t39 = some (.tup [.int x19.1, w_20]) := by rw [qH_42]; exact upd_same
    replace c_29 := c_29.ext e41
    replace g := g.ext e41
    refine g_pair qH_42 tH_42 rfl ?_
    have rx43 := Rep.mono _ eS37 rw21
    refine g_name (σ' := [some v2, some (.ref p10), some (.int x19.1), u33, u34]) rfl ?_
    refine g_next ?_
    refine g_name (σ' := [some v2, some (.ref p10), some (.int x19.1), some w_20, u34]) rfl ?_
    refine g_end ?_
    refine z_forLE ?_
    refine c_call ?_
    obtain ⟨y44, ey44, h⟩ := OP.bind h
    have ev45 : w_20 = (.int y44) := sc_getI rx43 ey44
    refine c_args (va_cons (v_eq (val_var rfl) ev45) va_nil) ?_
    have gL56 : ∀ l ∈ [], H l = none ∨ l ∈ [] := LM0
    refine ⟨S_35, _, rfl, g.sh, (OP.of h).mono fun v46 h S_47 H_48 p50 ws51 gc49 np52 hp53 sp54 wf55 => ?_⟩
    have ne57 := c_29.ne np52
    have z58 := g.hnone np52
    replace c_29 := c_29.call gc49 NM0
    replace r3 := RdL.mono gc49.ss r3
    replace r30 := RL.mono gc49.ss r30
    replace rx43 := Rep.mono _ gc49.ss rx43
    replace eS37 := eS37.trans gc49.ss
    have c_59 : Cel [] H S_47 H_48 p50 (.lst ws51) := ⟨hp53, sp54, .inl z58, rfl⟩
    replace g := g.call gc49 gL56
    obtain ⟨B63, h, hB64⟩ := OP.cut h
    obtain ⟨F65, hF66, h⟩ := OP.nameO h
    have q77e : ((.ref p50) : V) = (.ref p50) := rfl
    have q77p := wf55
    refine z_forL (v_eq val_c q77e) q77p (fun ys68 σ' H' => ∃ (ws69 : List V) (back72 : (List Int)) (u73 : Option V) (S_74 : Hp), σ' = [some v2, some (.ref p10), some (.int x19.1), some w_20, u73] ∧ Grow [] S H S_74 H' ∧ Same S_47 S_74 ∧ Cel [] H S_74 H' p10 (.lst ws69) ∧ RL (qI (K := K)) S_74 ws69 back72 ∧ Cel [] H S_74 H' p50 (.lst ws51) ∧ OP (forO F65 ys68 back72) B63) ⟨_, _, _, _, rfl, g, (Same.refl _), c_29, r30, c_59, h⟩ (fun ys σ' H' p => by obtain ⟨ws69, back72, u73, S_74, rfl, gN, eS76, c_70N, r71N, c_59N, h⟩ := p; exact SqL.of c_59N.h) (fun w_61 there60 ys68 σ' H_75 rw62 p N hN67 => ?_) ?_
    · obtain ⟨ws69, back72, u73, S_74, rfl, gN, eS76, c_70N, r71N, c_59N, h⟩ := p
      replace g := gN
      have c_70 := c_70N
      have r71 := r71N
      replace c_59 := c_59N
      replace r3 := RdL.mono eS76 r3
      replace rx43 := Rep.mono _ eS76 rx43
      replace wf55 := RL.mono eS76 wf55
      replace eS37 := eS37.trans eS76
      replace h := OP.forO h
      replace h := OP.fcall2 hF66 h
      cases (show w_61 = (.int there60) from rw62)
      refine g_name (σ' := [some v2, some (.ref p10), some (.int x19.1), some w_20, some (.int there60)]) rfl ?_
      obtain ⟨i78, ei78, h⟩ := OP.bind h
      refine z_xaugI (val_var rfl) (val_var rfl) c_70.h r71 ei78 ?_
      obtain ⟨g79, h⟩ := OP.grd h
      refine c_val (v_o2c val_c (val_var rfl) g79) ?_
      refine e_o2 ?_
      obtain ⟨l80, el80, h⟩ := OP.bind h
      refine c_setL2 g c_70 r71 rfl el80 fun ws81 H_82 g83 c_84 w_85 ot86 => ?_
      replace c_59 := ot86 _ _ (by first | assumption | exact Ne.symm (by assumption)) c_59
      replace g := g83
      refine z_next ?_
      exact hN67 _ _ ⟨_, _, _, _, rfl, g, eS76, c_84, w_85, c_59, h⟩
    · intro σ' H_75 p
      obtain ⟨ws69, back72, u73, S_74, rfl, gN, eS76, c_70N, r71N, c_59N, h⟩ := p
      replace g := gN
      have c_70 := c_70N
      have r71 := r71N
      replace c_59 := c_59N
      replace r3 := RdL.mono eS76 r3
      replace rx43 := Rep.mono _ eS76 rx43
      replace wf55 := RL.mono eS76 wf55
      replace eS37 := eS37.trans eS76
      replace h := hB64 _ (OP.forO_nil h)
      refine z_next ?_
      exact hN26 _ _ ⟨_, _, _, _, _, _, rfl, g, eS37, c_70, r71, h⟩
  · intro σ' H_36 p
    obtain ⟨ws28, back31, u32, u33, u34, S_35, rfl, gN, eS37, c_29N, r30N, h⟩ := p
    replace g := gN
    have c_29 := c_29N
    have r30 := r30N
    replace r3 := RdL.mono eS37 r3
    replace h := hB23 _ (OP.forO_nil h)
    refine z_ret (val_var rfl) ?_
    have h := OP.fin hA h
    exact h _ _ _ _ g z18 c_29.h c_29.s r30

@[irreducible] def m_Chart___init__ (many7 : Sc) (starts10 : Sc) (bads13 : Sc) (after16 : Dv) : Option (Except Nat O_Chart) :=
(m_is_whole many7).bind fun v19 =>
(ifo (!v19) (some true) ((many7.getI).bind fun y20 =>
(ifo (decide (y20 < 1)) (some true) ((many7.getI).bind fun y22 =>
some (decide (6 < y22)))).bind fun c_24 =>
some c_24)).bind fun c_25 =>
ifo c_25 (
some (.error 2)) (
(m_is_crowd many7 starts10).bind fun v26 =>
(ifo (!v26) (some true) ((m_is_crowd many7 bads13).bind fun v27 =>
some (!v27))).bind fun c_28 =>
ifo c_28 (
some (.error 2)) (
(ifo (!after16.isL) (some true) ((after16.getL).bind fun y29 =>
(many7.getI).bind fun y31 =>
grd (gPow 1 y31) <|
some (!(decide ((y29.length : Int) = (shl 1 y31)))))).bind fun c_34 =>
ifo c_34 (
some (.error 2)) (
(after16.getL).bind fun y35 =>
brk (forR (fun crowd37 _ =>
(m_is_crowd many7 crowd37).bind fun v52 =>
ifo (!v52) (
some (.inr (.error 2))) (
some (.inl ()))) (y35) ()) (fun _ =>
(many7.getI).bind fun y53 =>
(starts10.getI).bind fun y59 =>
(bads13.getI).bind fun y65 =>
(after16.getL).bind fun y72 =>
(after16.getL).bind fun y93 =>
(m_leading_back y93).bind fun v95 =>
some (.ok (O_Chart.mk y53 y59 y65 y72 v95))))))
abbrev s_Chart___init__ : Stmt := inClass (top 20) 0
abbrev sn_Chart___init__ : List Str := ["self", "many", "starts", "bads", "after", "crowd"]
theorem sc_Chart___init__ : FnScope ["self", "many", "starts", "bads", "after", "crowd"] ["self", "many", "starts", "bads", "after"] (defScope (s_Chart___init__)) := ⟨rfl, rfl, rfl, by decide +kernel, rfl, by decide +kernel, by decide +kernel⟩
def p_Chart___init__ (K : PySem.W.Frag) (c : Cl) : Sp := fun vs H Q E => ∃ (S : Hp) (l2 : Addr) (dx3 : Addr) (v8 : V) (many7 : Sc) (v11 : V) (starts10 : Sc) (v14 : V) (bads13 : Sc) (v17 : V) (after16 : Dv), vs = [.ref l2, v8, v11, v14, v17] ∧ Same S H ∧ H l2 = some (.ins c.Chart dx3 []) ∧ S l2 = none ∧ ((qSc (K := K))).R S v8 many7 ∧ ((qSc (K := K))).R S v11 starts10 ∧ ((qSc (K := K))).R S v14 bads13 ∧ ((qDv (K := K))).R S v17 after16 ∧ OP (m_Chart___init__ many7 starts10 bads13 after16) (fun r => EXP r (fun x => ∀ (S' H' : Hp) (w0 : V) (w1 : V), Grow [l2] S H S' H' → H' l2 = some (.ins c.Chart dx3 [("many", (.int x.many)), ("starts", (.int x.starts)), ("bads", (.int x.bads)), ("forth", w0), ("back", w1)]) → ((qL (qSc (K := K)))).R S' w0 x.forth → ((qL (qI (K := K)))).R S' w1 x.back → Q .non H') (fun x => ∀ (S' H' : Hp), Grow [l2] S H S' H' → E (clsV c x) none H'))
theorem ok_Chart___init__ (T : Tx K mg) : FnOk P w K mg base (L2.CX P w) 3 T.f_Chart___init__ T.d_Chart___init__ ["self", "many", "starts", "bads", "after"] (p_Chart___init__ K T.c) := by
  refine T.F_Chart___init__.okX sc_Chart___init__ (fun vs H Q E h => by obtain ⟨S, l2, dx3, v8, many7, v11, starts10, v14, bads13, v17, after16, rfl, _⟩ := h; rfl) (fun cdv A outer s H vs Q E hr h => ?_)
  obtain ⟨S, l2, dx3, v8, many7, v11, starts10, v14, bads13, v17, after16, rfl, gS, h_4, h_5, r9, r12, r15, r18, h⟩ := h
  obtain ⟨A_, hA⟩ : ∃ A_, A_ = (fun r : (Except Nat O_Chart) => EXP r (fun x => ∀ (S' H' : Hp) (w0 : V) (w1 : V), Grow [l2] S H S' H' → H' l2 = some (.ins T.c.Chart dx3 [("many", (.int x.many)), ("starts", (.int x.starts)), ("bads", (.int x.bads)), ("forth", w0), ("back", w1)]) → ((qL (qSc (K := K)))).R S' w0 x.forth → ((qL (qI (K := K)))).R S' w1 x.back → Q .non H') (fun x => ∀ (S' H' : Hp), Grow [l2] S H S' H' → E (clsV T.c x) none H')) := ⟨_, rfl⟩
  replace h : OP (m_Chart___init__ many7 starts10 bads13 after16) A_ := hA ▸ h
  rw [m_Chart___init__] at h
  have hr1 : Room 1 _ := hr.mono (by decide)
  have hr2 : Room 2 _ := hr.mono (by decide)
  refine ⟨_, (pss_cons (ps_if (PW.pt (pw_or (pt_not (pt_val (pe_call (ok_is_whole T) hr1 rfl T.m_is_whole T.F_is_whole.kp T.b_is_whole .nil pass0 (pa_cons (pe_var (i := 1) rfl (.inl rfl) rfl rfl) pa_nil)))) (pw_or (pt_cmpR op_lt (pe_var (i := 1) rfl (.inl rfl) rfl rfl) pe_int (nomark _)) (pw_or1 (pt_cmpR op_gt (pe_var (i := 1) rfl (.inl rfl) rfl rfl) pe_int (nomark _)))))) (pss_cons (ps_raise rfl (takes_of rfl rfl rfl rfl) (pmk_own PySem.F.excBase_ValueError T.e_NoChart.x T.m_NoChart T.e_NoChart.k (raises_own T.e_NoChart.b T.e_NoChart.t) rfl))
      pss_nil) pss_nil)
      (pss_cons (ps_if (PW.pt (pw_or (pt_not (pt_val (pe_call (ok_is_crowd T) hr2 rfl T.m_is_crowd T.F_is_crowd.kp T.b_is_crowd .nil pass0 (pa_cons (pe_var (i := 1) rfl (.inl rfl) rfl rfl) (pa_cons (pe_var (i := 2) rfl (.inl rfl) rfl rfl) pa_nil))))) (pw_or1 (pt_not (pt_val (pe_call (ok_is_crowd T) hr2 rfl T.m_is_crowd T.F_is_crowd.kp T.b_is_crowd .nil pass0 (pa_cons (pe_var (i := 1) rfl (.inl rfl) rfl rfl) (pa_cons (pe_var (i := 3) rfl (.inl rfl) rfl rfl) pa_nil)))))))) (pss_cons (ps_raise rfl (takes_of rfl rfl rfl rfl) (pmk_own PySem.F.excBase_ValueError T.e_NoChart.x T.m_NoChart T.e_NoChart.k (raises_own T.e_NoChart.b T.e_NoChart.t) rfl))
      pss_nil) pss_nil)
      (pss_cons (ps_if (PW.pt (pw_or (pt_not (pt_val (pe_callB (show CallR _ (.builtin "isinstance") (rIsi K) from call_isi) rfl T.n_isinstance bt_isinstance (pa_cons (pe_var (i := 4) rfl (.inl rfl) rfl rfl) (pa_cons (pe_bltn (v := .ty "list") rfl T.n_list bt_list rfl) pa_nil))))) (pw_or1 (pt_cmpR op_ne (pe_callB (show CallR _ (.builtin "len") (Z.rLenS K) from call_len_seq) rfl T.n_len bt_len (pa_cons (pe_var (i := 4) rfl (.inl rfl) rfl rfl) pa_nil)) (pe_op op_shl pe_int (pe_var (i := 1) rfl (.inl rfl) rfl rfl)) (nomark _))))) (pss_cons (ps_raise rfl (takes_of rfl rfl rfl rfl) (pmk_own PySem.F.excBase_ValueError T.e_NoChart.x T.m_NoChart T.e_NoChart.k (raises_own T.e_NoChart.b T.e_NoChart.t) rfl))
      pss_nil) pss_nil)
      (pss_cons (ps_for (passes_of rfl) rfl (pi_list (pe_var (i := 4) rfl (.inl rfl) rfl rfl)) (pg_name (i := 5) sc_Chart___init__.nd rfl (.inl rfl)) (pss_cons (ps_if (pt_not (pt_val (pe_call (ok_is_crowd T) hr2 rfl T.m_is_crowd T.F_is_crowd.kp T.b_is_crowd .nil pass0 (pa_cons (pe_var (i := 1) rfl (.inl rfl) rfl rfl) (pa_cons (pe_var (i := 5) rfl (.inl rfl) rfl rfl) pa_nil))))) (pss_cons (ps_raise rfl (takes_of rfl rfl rfl rfl) (pmk_own PySem.F.excBase_ValueError T.e_NoChart.x T.m_NoChart T.e_NoChart.k (raises_own T.e_NoChart.b T.e_NoChart.t) rfl))
      pss_nil) pss_nil)
      pss_nil))
      (pss_cons (ps_fld (pe_var (i := 0) rfl (.inl rfl) rfl rfl) (pe_var (i := 1) rfl (.inl rfl) rfl rfl) rfl)
      (pss_cons (ps_fld (pe_var (i := 0) rfl (.inl rfl) rfl rfl) (pe_var (i := 2) rfl (.inl rfl) rfl rfl) rfl)
      (pss_cons (ps_fld (pe_var (i := 0) rfl (.inl rfl) rfl rfl) (pe_var (i := 3) rfl (.inl rfl) rfl rfl) rfl)
      (pss_cons (ps_fld (pe_var (i := 0) rfl (.inl rfl) rfl rfl) (pe_callTy call_list_of rfl T.n_list bt_list (pa_cons (pe_var (i := 4) rfl (.inl rfl) rfl rfl) pa_nil)) rfl)
      (pss_cons (ps_fld (pe_var (i := 0) rfl (.inl rfl) rfl rfl) (pe_call (ok_leading_back T) hr2 rfl T.m_leading_back T.F_leading_back.kp T.b_leading_back .nil pass0 (pa_cons (pe_var (i := 4) rfl (.inl rfl) rfl rfl) pa_nil)) rfl)
      pss_nil))))))))), ?_⟩
  refine z_start (σ := [some (.ref l2), some v8, some v11, some v14, some v17, none]) rfl ?_
  have g : Grow [l2] S H S H := Grow.refl gS
  have c_6 : Cel [l2] H S H l2 (.ins T.c.Chart dx3 []) := ⟨h_4, h_5, .inr (.head _), rfl⟩
  obtain ⟨v19, ev19, h⟩ := OP.bind h
  obtain ⟨c_25, ec_25, h⟩ := OP.bind h
  refine z_if (a_orP (a_not (v_B (v_call (va_cons (val_var rfl) va_nil) fun Q q => ⟨_, _, rfl, (Rep.mono _ g.sh r9), OP.mk ev19 q⟩))) ec_25 (fun hb hm => by
        obtain ⟨y20, ey20, hm⟩ := bind_some hm
        have ev21 : v8 = (.int y20) := sc_getI r9 ey20
        obtain ⟨c_24, ec_24, hm⟩ := bind_some hm
        exact (a_eq (a_orP (v_test (v_o2 (v_eq (val_var rfl) ev21) val_c)) ec_24 (fun hb hm => by
      obtain ⟨y22, ey22, hm⟩ := bind_some hm
      have ev23 : v8 = (.int y22) := sc_getI r9 ey22
      exact (a_eq (v_test (v_o2 (v_eq (val_var rfl) ev23) val_c)) (Option.some.inj hm)))) (Option.some.inj hm)))) (fun hc => ?_) (fun hc => ?_)
  · replace h := OP.ite1 hc h
    have h := OP.fin hA h
    replace h := EXP.er h
    exact h _ _ g
  · replace h := OP.ite0 hc h
    refine z_nextR ?_
    obtain ⟨v26, ev26, h⟩ := OP.bind h
    obtain ⟨c_28, ec_28, h⟩ := OP.bind h
    refine z_if (a_orP (a_not (v_B (v_call (va_cons (val_var rfl) (va_cons (val_var rfl) va_nil)) fun Q q => ⟨_, _, _, _, rfl, (Rep.mono _ g.sh r9), (Rep.mono _ g.sh r12), OP.mk ev26 q⟩))) ec_28 (fun hb hm => by
          obtain ⟨v27, ev27, hm⟩ := bind_some hm
          exact (a_eq (a_not (v_B (v_call (va_cons (val_var rfl) (va_cons (val_var rfl) va_nil)) fun Q q => ⟨_, _, _, _, rfl, (Rep.mono _ g.sh r9), (Rep.mono _ g.sh r15), OP.mk ev27 q⟩))) (Option.some.inj hm)))) (fun hc => ?_) (fun hc => ?_)
    · replace h := OP.ite1 hc h
      have h := OP.fin hA h
      replace h := EXP.er h
      exact h _ _ g
    · replace h := OP.ite0 hc h
      refine z_nextR ?_
      obtain ⟨c_34, ec_34, h⟩ := OP.bind h
      refine z_if (a_orP (a_not (v_B (v_isDvL (val_var rfl) (Rep.mono _ g.sh r18)))) ec_34 (fun hb hm => by
            obtain ⟨y29, ey29, hm⟩ := bind_some hm
            have r30 := dv_getL r18 ey29
            obtain ⟨y31, ey31, hm⟩ := bind_some hm
            have ev32 : v8 = (.int y31) := sc_getI r9 ey31
            obtain ⟨g33, hm⟩ := grd_some hm
            exact (a_eq (v_test (v_neI (v_len (val_var rfl) (qL_qQ (Rep.mono _ g.sh r30))) (v_o2c val_c (v_eq (val_var rfl) ev32) g33))) (Option.some.inj hm)))) (fun hc => ?_) (fun hc => ?_)
      · replace h := OP.ite1 hc h
        have h := OP.fin hA h
        replace h := EXP.er h
        exact h _ _ g
      · replace h := OP.ite0 hc h
        refine z_nextR ?_
        obtain ⟨y35, ey35, h⟩ := OP.bind h
        have r36 := dv_getL r18 ey35
        obtain ⟨B40, h, hB41⟩ := OP.brk h
        obtain ⟨F42, hF43, h⟩ := OP.nameR h
        obtain ⟨q50a, q50w, q50e, q50h, q50p⟩ := id (qL_qQ r36)
        refine z_forL (v_eq (val_var rfl) q50e) q50p (fun ys45 σ' H' => ∃ (u46 : Option V) (S_47 : Hp), σ' = [some (.ref l2), some v8, some v11, some v14, some v17, u46] ∧ Grow [l2] S H S_47 H' ∧ Same S S_47 ∧ Cel [l2] H S_47 H' l2 (.ins T.c.Chart dx3 []) ∧ OP (forR F42 ys45 ()) (SE B40 A_)) ⟨_, _, rfl, g, (Same.refl _), c_6, h⟩ (fun ys σ' H' p => by obtain ⟨u46, S_47, rfl, gN, eS49, c_6N, h⟩ := p; exact (eS49.trans gN.sh).seq q50h) (fun w_38 crowd37 ys45 σ' H_48 rw39 p N hN44 => ?_) ?_
        · obtain ⟨u46, S_47, rfl, gN, eS49, c_6N, h⟩ := p
          replace g := gN
          replace c_6 := c_6N
          replace r9 := Rep.mono _ eS49 r9
          replace r12 := Rep.mono _ eS49 r12
          replace r15 := Rep.mono _ eS49 r15
          replace r18 := Rep.mono _ eS49 r18
          replace h := OP.forR h
          replace h := OP.fcall2 hF43 h
          have rx51 := Rep.mono _ eS49 rw39
          refine g_name (σ' := [some (.ref l2), some v8, some v11, some v14, some v17, some w_38]) rfl ?_
          obtain ⟨v52, ev52, h⟩ := OP.bind h
          refine z_if (a_not (v_B (v_call (va_cons (val_var rfl) (va_cons (val_var rfl) va_nil)) fun Q q => ⟨_, _, _, _, rfl, (Rep.mono _ g.sh r9), (Rep.mono _ g.sh rx51), OP.mk ev52 q⟩))) (fun hc => ?_) (fun hc => ?_)
          · replace h := OP.ite1 hc h
            have h := OP.fin hA h
            replace h := EXP.er h
            exact h _ _ g
          · replace h := OP.ite0 hc h
            refine z_nextR ?_
            refine z_next ?_
            exact hN44 _ _ ⟨_, _, rfl, g, eS49, c_6, h⟩
        · intro σ' H_48 p
          obtain ⟨u46, S_47, rfl, gN, eS49, c_6N, h⟩ := p
          replace g := gN
          replace c_6 := c_6N
          replace r9 := Rep.mono _ eS49 r9
          replace r12 := Rep.mono _ eS49 r12
          replace r15 := Rep.mono _ eS49 r15
          replace r18 := Rep.mono _ eS49 r18
          replace h := hB41 _ (OP.forR_nil h)
          refine z_fldE ?_
          refine c_val (val_var rfl) ?_
          obtain ⟨y53, ey53, h⟩ := OP.bind h
          have ev54 : v8 = (.int y53) := sc_getI r9 ey53
          refine c_setF (fs' := [("many", (.int y53))]) g c_6 (val_var rfl) T.l_Chart T.a_Chart_many (show 0 < 1000 by decide) (by rw [ev54]; rfl) fun H_55 g56 c_57 ot58 => ?_
          replace g := g56
          refine z_fldE ?_
          refine c_val (val_var rfl) ?_
          obtain ⟨y59, ey59, h⟩ := OP.bind h
          have ev60 : v11 = (.int y59) := sc_getI r12 ey59
          refine c_setF (fs' := [("many", (.int y53)), ("starts", (.int y59))]) g c_57 (val_var rfl) T.l_Chart T.a_Chart_starts (show 1 < 1000 by decide) (by rw [ev60]; rfl) fun H_61 g62 c_63 ot64 => ?_
          replace g := g62
          refine z_fldE ?_
          refine c_val (val_var rfl) ?_
          obtain ⟨y65, ey65, h⟩ := OP.bind h
          have ev66 : v14 = (.int y65) := sc_getI r15 ey65
          refine c_setF (fs' := [("many", (.int y53)), ("starts", (.int y59)), ("bads", (.int y65))]) g c_63 (val_var rfl) T.l_Chart T.a_Chart_bads (show 2 < 1000 by decide) (by rw [ev66]; rfl) fun H_67 g68 c_69 ot70 => ?_
          replace g := g68
          refine z_fldE ?_
          refine c_cbE fun Q_71 hQ_71 => ?_
          refine c_args (va_cons (val_var rfl) va_nil) ?_
          obtain ⟨y72, ey72, h⟩ := OP.bind h
          have r73 := dv_getL r18 ey72
          refine (l_list (Q := Q_71) (LS.ofL g.sh r73) fun p74 ws75 H_76 e77 np78 ep79 rw80 => ?_)
          refine q_eq hQ_71 ?_
          have ne83 := c_69.ne np78
          have z82 := g.hnone np78
          have c_81 : Cel [l2] H S_47 H_76 p74 (.lst ws75) := Cel.own g e77 np78 ep79 rfl
          replace c_69 := c_69.ext e77
          replace g := g.ext e77
          obtain ⟨S_84, g85, eS86, r87, ot88⟩ := c_freeze g c_81 z82 rw80
          replace c_69 := ot88 _ _ (by first | assumption | exact Ne.symm (by assumption)) c_69
          replace r9 := Rep.mono _ eS86 r9
          replace r12 := Rep.mono _ eS86 r12
          replace r15 := Rep.mono _ eS86 r15
          replace r18 := Rep.mono _ eS86 r18
          replace rw80 := RL.mono eS86 rw80
          replace g := g85
          refine c_setF (fs' := [("many", (.int y53)), ("starts", (.int y59)), ("bads", (.int y65)), ("forth", (.ref p74))]) g c_69 (val_var rfl) T.l_Chart T.a_Chart_forth (show 3 < 1000 by decide) rfl fun H_89 g90 c_91 ot92 => ?_
          replace g := g90
          refine z_fldE ?_
          refine c_call ?_
          obtain ⟨y93, ey93, h⟩ := OP.bind h
          have r94 := dv_getL r18 ey93
          refine c_args (va_cons (val_var rfl) va_nil) ?_
          have gL105 : ∀ l ∈ [], H l = none ∨ l ∈ [l2] := LM0
          refine ⟨S_84, _, _, rfl, g.sh, (RdL.ofL g.sh r94 LM0), (OP.of h).mono fun v95 h S_96 H_97 p99 ws100 gc98 np101 hp102 sp103 wf104 => ?_⟩
          have ne106 := c_91.ne np101
          have z107 := g.hnone np101
          replace c_91 := c_91.call gc98 NM0
          replace r87 := Rep.mono _ gc98.ss r87
          replace r9 := Rep.mono _ gc98.ss r9
          replace r12 := Rep.mono _ gc98.ss r12
          replace r15 := Rep.mono _ gc98.ss r15
          replace r18 := Rep.mono _ gc98.ss r18
          replace r94 := Rep.mono _ gc98.ss r94
          have c_108 : Cel [l2] H S_96 H_97 p99 (.lst ws100) := ⟨hp102, sp103, .inl z107, rfl⟩
          replace g := g.call gc98 gL105
          obtain ⟨S_109, g110, eS111, r112, ot113⟩ := c_freeze g c_108 z107 wf104
          replace c_91 := ot113 _ _ (by first | assumption | exact Ne.symm (by assumption)) c_91
          replace r87 := Rep.mono _ eS111 r87
          replace r9 := Rep.mono _ eS111 r9
          replace r12 := Rep.mono _ eS111 r12
          replace r15 := Rep.mono _ eS111 r15
          replace r18 := Rep.mono _ eS111 r18
          replace wf104 := RL.mono eS111 wf104
          replace g := g110
          refine c_setF (fs' := [("many", (.int y53)), ("starts", (.int y59)), ("bads", (.int y65)), ("forth", (.ref p74)), ("back", (.ref p99))]) g c_91 (val_var rfl) T.l_Chart T.a_Chart_back (show 4 < 1000 by decide) rfl fun H_114 g115 c_116 ot117 => ?_
          replace g := g115
          refine z_next ?_
          have h := OP.fin hA h
          replace h := EXP.ok h
          exact h _ _ _ _ g c_116.h r87 r112

@[irreducible] def m__law_bad_crowd (cell1 : Int) (size2 : Int) : Option Sc :=
grd (0 < (ipow 10 30)) <|
lt ((cell1 / 4) % (ipow 10 30)) fun rest_4 =>
ifo (decide ((cell1 % 4) = 0)) (
some (Sc.int ((-1) - rest_4))) (
ifo (decide ((cell1 % 4) = 1)) (
grd (gPow 1 size2) <|
some (Sc.int ((shl 1 size2) + rest_4))) (
ifo (decide ((cell1 % 4) = 2)) (
some (Sc.bool false)) (
some Sc.non)))
abbrev s__law_bad_crowd : Stmt := top 23
abbrev sn__law_bad_crowd : List Str := ["_law_cell", "_law_size", "_law_rest"]
theorem sc__law_bad_crowd : FnScope ["_law_cell", "_law_size", "_law_rest"] ["_law_cell", "_law_size"] (defScope (s__law_bad_crowd)) := ⟨rfl, rfl, rfl, by decide +kernel, rfl, by decide +kernel, by decide +kernel⟩
def p__law_bad_crowd (K : PySem.W.Frag) (c : Cl) : Sp := fun vs H Q E => ∃ (S : Hp) (cell1 : Int) (size2 : Int), vs = [.int cell1, .int size2] ∧ Same S H ∧ OP (m__law_bad_crowd cell1 size2) (fun r => ∀ (S' H' : Hp) (v : V), Grow [] S H S' H' → ((qSc (K := K))).R S' v r → Q v H')
theorem ok__law_bad_crowd (T : Tx K mg) : FnOk P w K mg base CX0 1 T.f__law_bad_crowd T.d__law_bad_crowd ["_law_cell", "_law_size"] (p__law_bad_crowd K T.c) := by
  refine T.F__law_bad_crowd.ok sc__law_bad_crowd (fun vs H Q E h => by obtain ⟨S, cell1, size2, rfl, _⟩ := h; rfl) (fun cdv A outer s H vs Q E hr h => ?_)
  obtain ⟨S, cell1, size2, rfl, gS, h⟩ := h
  obtain ⟨A_, hA⟩ : ∃ A_, A_ = (fun r : Sc => ∀ (S' H' : Hp) (v : V), Grow [] S H S' H' → ((qSc (K := K))).R S' v r → Q v H') := ⟨_, rfl⟩
  replace h : OP (m__law_bad_crowd cell1 size2) A_ := hA ▸ h
  rw [m__law_bad_crowd] at h
  refine ⟨_, (pss_cons (ps_set (i := 2) sc__law_bad_crowd.nd rfl (.inl rfl) (pe_op op_mod (pe_op op_fdiv (pe_var (i := 0) rfl (.inl rfl) rfl rfl) pe_int) (pe_op op_pow pe_int pe_int)))
      (pss_cons (ps_if (pt_cmpR op_eq (pe_op op_mod (pe_var (i := 0) rfl (.inl rfl) rfl rfl) pe_int) pe_int (nomark _)) (pss_cons (ps_ret (pe_op op_sub (pe_un un_neg pe_int) (pe_var (i := 2) rfl (.inl rfl) rfl rfl)))
      pss_nil) pss_nil)
      (pss_cons (ps_if (pt_cmpR op_eq (pe_op op_mod (pe_var (i := 0) rfl (.inl rfl) rfl rfl) pe_int) pe_int (nomark _)) (pss_cons (ps_ret (pe_op op_add (pe_op op_shl pe_int (pe_var (i := 1) rfl (.inl rfl) rfl rfl)) (pe_var (i := 2) rfl (.inl rfl) rfl rfl)))
      pss_nil) pss_nil)
      (pss_cons (ps_if (pt_cmpR op_eq (pe_op op_mod (pe_var (i := 0) rfl (.inl rfl) rfl rfl) pe_int) pe_int (nomark _)) (pss_cons (ps_ret pe_bl)
      pss_nil) pss_nil)
      (pss_cons (ps_ret pe_non)
      pss_nil))))), ?_⟩
  refine z_start (σ := [some (.int cell1), some (.int size2), none]) rfl ?_
  have g : Grow [] S H S H := Grow.refl gS
  obtain ⟨g3, h⟩ := OP.grd h
  obtain ⟨rest_4, erest_4, h⟩ := OP.lt h
  refine z_set (w := (.int rest_4)) (σ' := [some (.int cell1), some (.int size2), some (.int rest_4)]) (v_o2c (v_o2c (val_var rfl) val_c ⟨by decide, by decide⟩) (v_o2c val_c val_c ⟨by decide, by decide, by decide⟩) g3) (congrArg V.int erest_4) rfl ?_
  refine z_if (v_test (v_eqI (v_o2c (val_var rfl) val_c (show (0 : Int) < 4 by decide)) val_c)) (fun hc => ?_) (fun hc => ?_)
  · replace h := OP.ite1 hc h
    refine z_ret (v_o2 (v_u val_c) (val_var rfl)) ?_
    have h := OP.fin hA h
    exact h _ _ _ g sc_i
  · replace h := OP.ite0 hc h
    refine z_nextR ?_
    refine z_if (v_test (v_eqI (v_o2c (val_var rfl) val_c (show (0 : Int) < 4 by decide)) val_c)) (fun hc => ?_) (fun hc => ?_)
    · replace h := OP.ite1 hc h
      obtain ⟨g5, h⟩ := OP.grd h
      refine z_ret (v_o2 (v_o2c val_c (val_var rfl) g5) (val_var rfl)) ?_
      have h := OP.fin hA h
      exact h _ _ _ g sc_i
    · replace h := OP.ite0 hc h
      refine z_nextR ?_
      refine z_if (v_test (v_eqI (v_o2c (val_var rfl) val_c (show (0 : Int) < 4 by decide)) val_c)) (fun hc => ?_) (fun hc => ?_)
      · replace h := OP.ite1 hc h
        refine z_ret val_c ?_
        have h := OP.fin hA h
        exact h _ _ _ g sc_b
      · replace h := OP.ite0 hc h
        refine z_nextR ?_
        refine z_ret val_c ?_
        have h := OP.fin hA h
        exact h _ _ _ g sc_n

@[irreducible] def m__law_bad_list (cell1 : Int) (after2 : (List Int)) : Option Dv :=
grd (0 < (after2.length : Int)) <|
lt ((cell1 / 4) % (after2.length : Int)) fun at_6 =>
ifo (decide ((cell1 % 4) = 0)) (
grd ((cutI after2 none (some at_6)).length + (cutI after2 (some (at_6 + 1)) none).length ≤ 16777216) <|
some (Dv.lst (((cutI after2 none (some at_6)) ++ (cutI after2 (some (at_6 + 1)) none)).map Sc.int))) (
ifo (decide ((cell1 % 4) = 1)) (
grd ((cutI after2 none (some at_6)).length + ([0] : List Int).length ≤ 16777216) <|
grd (((cutI after2 none (some at_6)) ++ ([0] : List Int)).length + (cutI after2 (some at_6) none).length ≤ 16777216) <|
some (Dv.lst ((((cutI after2 none (some at_6)) ++ ([0] : List Int)) ++ (cutI after2 (some at_6) none)).map Sc.int))) (
ifo (decide ((cell1 % 4) = 2)) (
some (Dv.tup (after2.map Sc.int))) (
some Dv.non)))
abbrev s__law_bad_list : Stmt := top 25
abbrev sn__law_bad_list : List Str := ["_law_cell", "_law_after", "_law_at"]
theorem sc__law_bad_list : FnScope ["_law_cell", "_law_after", "_law_at"] ["_law_cell", "_law_after"] (defScope (s__law_bad_list)) := ⟨rfl, rfl, rfl, by decide +kernel, rfl, by decide +kernel, by decide +kernel⟩
def p__law_bad_list (K : PySem.W.Frag) (c : Cl) : Sp := fun vs H Q E => ∃ (S : Hp) (cell1 : Int) (v3 : V) (after2 : (List Int)), vs = [.int cell1, v3] ∧ Same S H ∧ RdL (qI (K := K)) [] S H v3 after2 ∧ OP (m__law_bad_list cell1 after2) (fun r => ∀ (S' H' : Hp) (v : V), Grow [] S H S' H' → ((qDv (K := K))).R S' v r → Q v H')
theorem ok__law_bad_list (T : Tx K mg) : FnOk P w K mg base CX0 1 T.f__law_bad_list T.d__law_bad_list ["_law_cell", "_law_after"] (p__law_bad_list K T.c) := by
  refine T.F__law_bad_list.ok sc__law_bad_list (fun vs H Q E h => by obtain ⟨S, cell1, v3, after2, rfl, _⟩ := h; rfl) (fun cdv A outer s H vs Q E hr h => ?_)
  obtain ⟨S, cell1, v3, after2, rfl, gS, r4, h⟩ := h
  obtain ⟨A_, hA⟩ : ∃ A_, A_ = (fun r : Dv => ∀ (S' H' : Hp) (v : V), Grow [] S H S' H' → ((qDv (K := K))).R S' v r → Q v H') := ⟨_, rfl⟩
  replace h : OP (m__law_bad_list cell1 after2) A_ := hA ▸ h
  rw [m__law_bad_list] at h
  refine ⟨_, (pss_cons (ps_set (i := 2) sc__law_bad_list.nd rfl (.inl rfl) (pe_op op_mod (pe_op op_fdiv (pe_var (i := 0) rfl (.inl rfl) rfl rfl) pe_int) (pe_callB (show CallR _ (.builtin "len") (Z.rLenS K) from call_len_seq) rfl T.n_len bt_len (pa_cons (pe_var (i := 1) rfl (.inl rfl) rfl rfl) pa_nil))))
      (pss_cons (ps_if (pt_cmpR op_eq (pe_op op_mod (pe_var (i := 0) rfl (.inl rfl) rfl rfl) pe_int) pe_int (nomark _)) (pss_cons (ps_ret (pe_op op_cat (pe_slice sl_list (pe_var (i := 1) rfl (.inl rfl) rfl rfl) po_none (po_some (pe_var (i := 2) rfl (.inl rfl) rfl rfl))) (pe_slice sl_list (pe_var (i := 1) rfl (.inl rfl) rfl rfl) (po_some (pe_op op_add (pe_var (i := 2) rfl (.inl rfl) rfl rfl) pe_int)) po_none)))
      pss_nil) pss_nil)
      (pss_cons (ps_if (pt_cmpR op_eq (pe_op op_mod (pe_var (i := 0) rfl (.inl rfl) rfl rfl) pe_int) pe_int (nomark _)) (pss_cons (ps_ret (pe_op op_cat (pe_op op_cat (pe_slice sl_list (pe_var (i := 1) rfl (.inl rfl) rfl rfl) po_none (po_some (pe_var (i := 2) rfl (.inl rfl) rfl rfl))) (pe_lst (pa_cons pe_int pa_nil))) (pe_slice sl_list (pe_var (i := 1) rfl (.inl rfl) rfl rfl) (po_some (pe_var (i := 2) rfl (.inl rfl) rfl rfl)) po_none)))
      pss_nil) pss_nil)
      (pss_cons (ps_if (pt_cmpR op_eq (pe_op op_mod (pe_var (i := 0) rfl (.inl rfl) rfl rfl) pe_int) pe_int (nomark _)) (pss_cons (ps_ret (pe_tupleOf rfl T.n_tuple (pe_var (i := 1) rfl (.inl rfl) rfl rfl)))
      pss_nil) pss_nil)
      (pss_cons (ps_ret pe_non)
      pss_nil))))), ?_⟩
  refine z_start (σ := [some (.int cell1), some v3, none]) rfl ?_
  have g : Grow [] S H S H := Grow.refl gS
  obtain ⟨g5, h⟩ := OP.grd h
  obtain ⟨at_6, eat_6, h⟩ := OP.lt h
  refine z_set (w := (.int at_6)) (σ' := [some (.int cell1), some v3, some (.int at_6)]) (v_o2c (v_o2c (val_var rfl) val_c ⟨by decide, by decide⟩) (v_len (val_var rfl) (RdL.q g r4)) g5) (congrArg V.int eat_6) rfl ?_
  refine z_if (v_test (v_eqI (v_o2c (val_var rfl) val_c (show (0 : Int) < 4 by decide)) val_c)) (fun hc => ?_) (fun hc => ?_)
  · replace h := OP.ite1 hc h
    refine z_retE ?_
    refine c_op ?_
    refine c_slice (val_var rfl) po0 (po1 (val_var rfl)) ?_
    refine (l_slice (LS.rd g r4) fun p7 ws8 H_9 e10 np11 ep12 rw13 => ?_)
    have z15 := g.hnone np11
    have c_14 : Cel [] H S H_9 p7 (.lst ws8) := Cel.own g e10 np11 ep12 rfl
    replace g := g.ext e10
    refine c_slice (val_var rfl) (po1 (v_o2 (val_var rfl) val_c)) po0 ?_
    refine (l_slice (LS.rd g r4) fun p16 ws17 H_18 e19 np20 ep21 rw22 => ?_)
    have ne25 := c_14.ne np20
    have z24 := g.hnone np20
    have c_23 : Cel [] H S H_18 p16 (.lst ws17) := Cel.own g e19 np20 ep21 rfl
    replace c_14 := c_14.ext e19
    replace g := g.ext e19
    obtain ⟨g26, h⟩ := OP.grd h
    refine (l_cat (LP.cel c_14.h rw13) (LP.cel c_23.h rw22) g26 fun p27 ws28 H_29 e30 np31 ep32 rw33 => ?_)
    have z35 := g.hnone np31
    have c_34 : Cel [] H S H_29 p27 (.lst ws28) := Cel.own g e30 np31 ep32 rfl
    replace g := g.ext e30
    obtain ⟨S_36, g37, eS38, r39, ot40⟩ := c_freeze g c_34 z35 rw33
    replace r4 := RdL.mono eS38 r4
    replace rw33 := RL.mono eS38 rw33
    replace g := g37
    have r41 := (dv_li r39)
    have h := OP.fin hA h
    exact h _ _ _ g r41
  · replace h := OP.ite0 hc h
    refine z_nextR ?_
    refine z_if (v_test (v_eqI (v_o2c (val_var rfl) val_c (show (0 : Int) < 4 by decide)) val_c)) (fun hc => ?_) (fun hc => ?_)
    · replace h := OP.ite1 hc h
      refine z_retE ?_
      refine c_op ?_
      refine c_op ?_
      refine c_slice (val_var rfl) po0 (po1 (val_var rfl)) ?_
      refine (l_slice (LS.rd g r4) fun p42 ws43 H_44 e45 np46 ep47 rw48 => ?_)
      have z50 := g.hnone np46
      have c_49 : Cel [] H S H_44 p42 (.lst ws43) := Cel.own g e45 np46 ep47 rfl
      replace g := g.ext e45
      refine c_lstE fun Q_51 hQ_51 => ?_
      refine c_args (va_cons val_c va_nil) ?_
      refine c_newlst (Q := Q_51) (vs := [(.int 0)]) (show 1 ≤ 1000 by decide) fun p52 H_53 e54 np55 ep56 => ?_
      refine q_eq hQ_51 ?_
      have w_57 : RL (qI (K := K)) S [(.int 0)] ([0] : List Int) := (.cons rfl .nil)
      have ne60 := c_49.ne np55
      have z59 := g.hnone np55
      have c_58 : Cel [] H S H_53 p52 (.lst [(.int 0)]) := Cel.own g e54 np55 ep56 rfl
      replace c_49 := c_49.ext e54
      replace g := g.ext e54
      obtain ⟨g61, h⟩ := OP.grd h
      refine (l_cat (LP.cel c_49.h rw48) (LP.cel c_58.h w_57) g61 fun p62 ws63 H_64 e65 np66 ep67 rw68 => ?_)
      have z70 := g.hnone np66
      have c_69 : Cel [] H S H_64 p62 (.lst ws63) := Cel.own g e65 np66 ep67 rfl
      replace g := g.ext e65
      refine c_slice (val_var rfl) (po1 (val_var rfl)) po0 ?_
      refine (l_slice (LS.rd g r4) fun p71 ws72 H_73 e74 np75 ep76 rw77 => ?_)
      have ne80 := c_69.ne np75
      have z79 := g.hnone np75
      have c_78 : Cel [] H S H_73 p71 (.lst ws72) := Cel.own g e74 np75 ep76 rfl
      replace c_69 := c_69.ext e74
      replace g := g.ext e74
      obtain ⟨g81, h⟩ := OP.grd h
      refine (l_cat (LP.cel c_69.h rw68) (LP.cel c_78.h rw77) g81 fun p82 ws83 H_84 e85 np86 ep87 rw88 => ?_)
      have z90 := g.hnone np86
      have c_89 : Cel [] H S H_84 p82 (.lst ws83) := Cel.own g e85 np86 ep87 rfl
      replace g := g.ext e85
      obtain ⟨S_91, g92, eS93, r94, ot95⟩ := c_freeze g c_89 z90 rw88
      replace r4 := RdL.mono eS93 r4
      replace rw88 := RL.mono eS93 rw88
      replace g := g92
      have r96 := (dv_li r94)
      have h := OP.fin hA h
      exact h _ _ _ g r96
    · replace h := OP.ite0 hc h
      refine z_nextR ?_
      refine z_if (v_test (v_eqI (v_o2c (val_var rfl) val_c (show (0 : Int) < 4 by decide)) val_c)) (fun hc => ?_) (fun hc => ?_)
      · replace h := OP.ite1 hc h
        refine z_retE ?_
        refine c_thE fun Q_102 hQ_102 => ?_
        refine c_tupleI (Q := Q_102) g.sh (LS.rd g r4) (val_var rfl) fun p97 S_98 H_99 gs100 r101 => ?_
        refine q_eq hQ_102 ?_
        replace r4 := RdL.mono gs100.ss r4
        replace g := g.call0 gs100
        have h := OP.fin hA h
        exact h _ _ _ g r101
      · replace h := OP.ite0 hc h
        refine z_nextR ?_
        refine z_ret val_c ?_
        have r103 := (show ((qDv (K := K))).R S .non Dv.non from rfl)
        have h := OP.fin hA h
        exact h _ _ _ g r103

@[irreducible] def m__law_bad_many (cell1 : Int) (good2 : (Sc × Sc × Sc × Dv)) : Option (Sc × Sc × Sc × Dv) :=
grd (0 < (ipow 10 30)) <|
lt ((cell1 / 6) % (ipow 10 30)) fun rest_6 =>
ifo (decide ((cell1 % 6) = 0)) (
(good2.2.2.2.getL).bind fun y12 =>
some ((Sc.int ((-1) - rest_6)), good2.2.1, good2.2.2.1, (Dv.lst y12))) (
ifo (decide ((cell1 % 6) = 1)) (
(good2.2.2.2.getL).bind fun y47 =>
some ((Sc.int (7 + rest_6)), good2.2.1, good2.2.2.1, (Dv.lst y47))) (
ifo (decide ((cell1 % 6) = 2)) (
(good2.2.2.2.getL).bind fun y82 =>
some ((Sc.str ("one" : Str)), good2.2.1, good2.2.2.1, (Dv.lst y82))) (
ifo (decide ((cell1 % 6) = 3)) (
(good2.2.1.getI).bind fun y114 =>
(good2.2.2.1.getI).bind fun y117 =>
(good2.2.2.2.getL).bind fun y121 =>
(atI y121 0).bind fun i123 =>
(i123.getI).bind fun y125 =>
(good2.2.2.2.getL).bind fun y128 =>
(atI y128 1).bind fun i130 =>
(i130.getI).bind fun y132 =>
some ((Sc.bool true), (Sc.int (y114 % 4)), (Sc.int (y117 % 4)), (Dv.lst (([(y125 % 4), (y132 % 4)] : List Int).map Sc.int)))) (
ifo (decide ((cell1 % 6) = 4)) (
(good2.2.1.getI).bind fun y163 =>
(good2.2.2.1.getI).bind fun y166 =>
(good2.2.2.2.getL).bind fun y170 =>
(atI y170 0).bind fun i172 =>
(i172.getI).bind fun y174 =>
some ((Sc.int 0), (Sc.int (y163 % 2)), (Sc.int (y166 % 2)), (Dv.lst (([(y174 % 2)] : List Int).map Sc.int)))) (
(compO (fun zx206 =>
(good2.2.2.2.getL).bind fun y210 =>
(good2.2.2.2.getL).bind fun y213 =>
grd (0 < (y213.length : Int)) <|
(atI y210 (zx206 % (y213.length : Int))).bind fun i216 =>
some (some i216)) (rangeI 0 (Int.toNat 128))).bind fun ys218 =>
some ((Sc.int 7), good2.2.1, good2.2.2.1, (Dv.lst ys218)))))))
abbrev s__law_bad_many : Stmt := top 24
abbrev sn__law_bad_many : List Str := ["_law_cell", "_law_good", "_law_rest", "_law_s"]
theorem sc__law_bad_many : FnScope ["_law_cell", "_law_good", "_law_rest", "_law_s"] ["_law_cell", "_law_good"] (defScope (s__law_bad_many)) := ⟨rfl, rfl, rfl, by decide +kernel, rfl, by decide +kernel, by decide +kernel⟩
def p__law_bad_many (K : PySem.W.Frag) (c : Cl) : Sp := fun vs H Q E => ∃ (S : Hp) (cell1 : Int) (v3 : V) (good2 : (Sc × Sc × Sc × Dv)), vs = [.int cell1, v3] ∧ Same S H ∧ ((qRc (K := K))).R S v3 good2 ∧ OP (m__law_bad_many cell1 good2) (fun r => ∀ (S' H' : Hp) (v : V), Grow [] S H S' H' → ((qRc (K := K))).R S' v r → Q v H')
theorem ok__law_bad_many (T : Tx K mg) : FnOk P w K mg base CX0 1 T.f__law_bad_many T.d__law_bad_many ["_law_cell", "_law_good"] (p__law_bad_many K T.c) := by
  refine T.F__law_bad_many.ok sc__law_bad_many (fun vs H Q E h => by obtain ⟨S, cell1, v3, good2, rfl, _⟩ := h; rfl) (fun cdv A outer s H vs Q E hr h => ?_)
  obtain ⟨S, cell1, v3, good2, rfl, gS, r4, h⟩ := h
  obtain ⟨A_, hA⟩ : ∃ A_, A_ = (fun r : (Sc × Sc × Sc × Dv) => ∀ (S' H' : Hp) (v : V), Grow [] S H S' H' → ((qRc (K := K))).R S' v r → Q v H') := ⟨_, rfl⟩
  replace h : OP (m__law_bad_many cell1 good2) A_ := hA ▸ h
  rw [m__law_bad_many] at h
  refine ⟨_, (pss_cons (ps_set (i := 2) sc__law_bad_many.nd rfl (.inl rfl) (pe_op op_mod (pe_op op_fdiv (pe_var (i := 0) rfl (.inl rfl) rfl rfl) pe_int) (pe_op op_pow pe_int pe_int)))
      (pss_cons (ps_if (pt_cmpR op_eq (pe_op op_mod (pe_var (i := 0) rfl (.inl rfl) rfl rfl) pe_int) pe_int (nomark _)) (pss_cons (ps_ret (pe_lst (pa_cons (pe_op op_sub (pe_un un_neg pe_int) (pe_var (i := 2) rfl (.inl rfl) rfl rfl)) (pa_cons (pe_ix (show IxR _ (rIxL K) from ix_list) (pe_var (i := 1) rfl (.inr (.inl rfl)) rfl rfl) pe_int (fun _ _ => rfl)) (pa_cons (pe_ix (show IxR _ (rIxL K) from ix_list) (pe_var (i := 1) rfl (.inr (.inl rfl)) rfl rfl) pe_int (fun _ _ => rfl)) (pa_cons (pe_callTy call_list_of rfl T.n_list bt_list (pa_cons (pe_ix (show IxR _ (rIxL K) from ix_list) (pe_var (i := 1) rfl (.inr (.inl rfl)) rfl rfl) pe_int (fun _ _ => rfl)) pa_nil)) pa_nil))))))
      pss_nil) pss_nil)
      (pss_cons (ps_if (pt_cmpR op_eq (pe_op op_mod (pe_var (i := 0) rfl (.inl rfl) rfl rfl) pe_int) pe_int (nomark _)) (pss_cons (ps_ret (pe_lst (pa_cons (pe_op op_add pe_int (pe_var (i := 2) rfl (.inl rfl) rfl rfl)) (pa_cons (pe_ix (show IxR _ (rIxL K) from ix_list) (pe_var (i := 1) rfl (.inr (.inl rfl)) rfl rfl) pe_int (fun _ _ => rfl)) (pa_cons (pe_ix (show IxR _ (rIxL K) from ix_list) (pe_var (i := 1) rfl (.inr (.inl rfl)) rfl rfl) pe_int (fun _ _ => rfl)) (pa_cons (pe_callTy call_list_of rfl T.n_list bt_list (pa_cons (pe_ix (show IxR _ (rIxL K) from ix_list) (pe_var (i := 1) rfl (.inr (.inl rfl)) rfl rfl) pe_int (fun _ _ => rfl)) pa_nil)) pa_nil))))))
      pss_nil) pss_nil)
      (pss_cons (ps_if (pt_cmpR op_eq (pe_op op_mod (pe_var (i := 0) rfl (.inl rfl) rfl rfl) pe_int) pe_int (nomark _)) (pss_cons (ps_ret (pe_lst (pa_cons pe_str (pa_cons (pe_ix (show IxR _ (rIxL K) from ix_list) (pe_var (i := 1) rfl (.inr (.inl rfl)) rfl rfl) pe_int (fun _ _ => rfl)) (pa_cons (pe_ix (show IxR _ (rIxL K) from ix_list) (pe_var (i := 1) rfl (.inr (.inl rfl)) rfl rfl) pe_int (fun _ _ => rfl)) (pa_cons (pe_callTy call_list_of rfl T.n_list bt_list (pa_cons (pe_ix (show IxR _ (rIxL K) from ix_list) (pe_var (i := 1) rfl (.inr (.inl rfl)) rfl rfl) pe_int (fun _ _ => rfl)) pa_nil)) pa_nil))))))
      pss_nil) pss_nil)
      (pss_cons (ps_if (pt_cmpR op_eq (pe_op op_mod (pe_var (i := 0) rfl (.inl rfl) rfl rfl) pe_int) pe_int (nomark _)) (pss_cons (ps_ret (pe_lst (pa_cons pe_bl (pa_cons (pe_op op_mod (pe_ix (show IxR _ (rIxL K) from ix_list) (pe_var (i := 1) rfl (.inr (.inl rfl)) rfl rfl) pe_int (fun _ _ => rfl)) pe_int) (pa_cons (pe_op op_mod (pe_ix (show IxR _ (rIxL K) from ix_list) (pe_var (i := 1) rfl (.inr (.inl rfl)) rfl rfl) pe_int (fun _ _ => rfl)) pe_int) (pa_cons (pe_lst (pa_cons (pe_op op_mod (pe_ix (show IxR _ (rIxL K) from ix_list) (pe_ix (show IxR _ (rIxL K) from ix_list) (pe_var (i := 1) rfl (.inr (.inl rfl)) rfl rfl) pe_int (fun _ _ => rfl)) pe_int (fun _ _ => rfl)) pe_int) (pa_cons (pe_op op_mod (pe_ix (show IxR _ (rIxL K) from ix_list) (pe_ix (show IxR _ (rIxL K) from ix_list) (pe_var (i := 1) rfl (.inr (.inl rfl)) rfl rfl) pe_int (fun _ _ => rfl)) pe_int (fun _ _ => rfl)) pe_int) pa_nil))) pa_nil))))))
      pss_nil) pss_nil)
      (pss_cons (ps_if (pt_cmpR op_eq (pe_op op_mod (pe_var (i := 0) rfl (.inl rfl) rfl rfl) pe_int) pe_int (nomark _)) (pss_cons (ps_ret (pe_lst (pa_cons pe_int (pa_cons (pe_op op_mod (pe_ix (show IxR _ (rIxL K) from ix_list) (pe_var (i := 1) rfl (.inr (.inl rfl)) rfl rfl) pe_int (fun _ _ => rfl)) pe_int) (pa_cons (pe_op op_mod (pe_ix (show IxR _ (rIxL K) from ix_list) (pe_var (i := 1) rfl (.inr (.inl rfl)) rfl rfl) pe_int (fun _ _ => rfl)) pe_int) (pa_cons (pe_lst (pa_cons (pe_op op_mod (pe_ix (show IxR _ (rIxL K) from ix_list) (pe_ix (show IxR _ (rIxL K) from ix_list) (pe_var (i := 1) rfl (.inr (.inl rfl)) rfl rfl) pe_int (fun _ _ => rfl)) pe_int (fun _ _ => rfl)) pe_int) pa_nil)) pa_nil))))))
      pss_nil) pss_nil)
      (pss_cons (ps_ret (pe_lst (pa_cons pe_int (pa_cons (pe_ix (show IxR _ (rIxL K) from ix_list) (pe_var (i := 1) rfl (.inr (.inl rfl)) rfl rfl) pe_int (fun _ _ => rfl)) (pa_cons (pe_ix (show IxR _ (rIxL K) from ix_list) (pe_var (i := 1) rfl (.inr (.inl rfl)) rfl rfl) pe_int (fun _ _ => rfl)) (pa_cons (pe_lc (own := [("_law_s", 3)]) (g := gName 3) (tt := tYes) rfl sc__law_bad_many.nd (pi_range1 rfl T.n_range (pa_cons pe_int pa_nil)) (blkOk_by (N := sn__law_bad_many) (sc := defScope s__law_bad_many) (by decide +kernel)) (fun _ _ _ _ _ => pg_name (i := 3) sc__law_bad_many.nd rfl (.inl rfl)) (fun _ _ _ _ _ => pts_nil) (fun _ _ _ _ _ => (pe_ix (show IxR _ (rIxL K) from ix_list) (pe_ix (show IxR _ (rIxL K) from ix_list) (pe_var (i := 1) rfl (by first | exact .inr (.inr rfl) | exact .inr (.inl rfl)) rfl rfl) pe_int (fun _ _ => rfl)) (pe_op op_mod (pe_var (i := 3) rfl (.inl rfl) rfl rfl) (pe_callB (show CallR _ (.builtin "len") (Z.rLenS K) from call_len_seq) rfl T.n_len bt_len (pa_cons (pe_ix (show IxR _ (rIxL K) from ix_list) (pe_var (i := 1) rfl (by first | exact .inr (.inr rfl) | exact .inr (.inl rfl)) rfl rfl) pe_int (fun _ _ => rfl)) pa_nil))) (fun _ _ => rfl)))) pa_nil))))))
      pss_nil))))))), ?_⟩
  refine z_start (σ := [some (.int cell1), some v3, none, none]) rfl ?_
  have g : Grow [] S H S H := Grow.refl gS
  obtain ⟨g5, h⟩ := OP.grd h
  obtain ⟨rest_6, erest_6, h⟩ := OP.lt h
  refine z_set (w := (.int rest_6)) (σ' := [some (.int cell1), some v3, some (.int rest_6), none]) (v_o2c (v_o2c (val_var rfl) val_c ⟨by decide, by decide⟩) (v_o2c val_c val_c ⟨by decide, by decide, by decide⟩) g5) (congrArg V.int erest_6) rfl ?_
  refine z_if (v_test (v_eqI (v_o2c (val_var rfl) val_c (show (0 : Int) < 6 by decide)) val_c)) (fun hc => ?_) (fun hc => ?_)
  · replace h := OP.ite1 hc h
    refine z_retE ?_
    refine c_lstE fun Q_7 hQ_7 => ?_
    refine c_cons ?_
    refine c_val (v_o2 (v_u val_c) (val_var rfl)) ?_
    refine c_cons ?_
    obtain ⟨w_8, hw_8, rw_8⟩ := v_rc1 g.sh r4
    refine c_val (hw_8 (val_var rfl) val_c) ?_
    refine c_cons ?_
    obtain ⟨w_9, hw_9, rw_9⟩ := v_rc2 g.sh r4
    refine c_val (hw_9 (val_var rfl) val_c) ?_
    refine c_cons ?_
    refine c_cbE fun Q_10 hQ_10 => ?_
    obtain ⟨w_11, hw_11, rw_11⟩ := v_rc3 g.sh r4
    refine c_args (va_cons (hw_11 (val_var rfl) val_c) va_nil) ?_
    obtain ⟨y12, ey12, h⟩ := OP.bind h
    have r13 := dv_getL rw_11 ey12
    refine (l_list (Q := Q_10) (LS.ofL g.sh r13) fun p14 ws15 H_16 e17 np18 ep19 rw20 => ?_)
    refine q_eq hQ_10 ?_
    have z22 := g.hnone np18
    have c_21 : Cel [] H S H_16 p14 (.lst ws15) := Cel.own g e17 np18 ep19 rfl
    replace g := g.ext e17
    refine c_nil ?_
    refine c_newlst (Q := Q_7) (vs := [(.int ((-1) - rest_6)), w_8, w_9, (.ref p14)]) (show 4 ≤ 1000 by decide) fun p23 H_24 e25 np26 ep27 => ?_
    refine q_eq hQ_7 ?_
    have ne30 := c_21.ne np26
    have z29 := g.hnone np26
    have c_28 : Cel [] H S H_24 p23 (.lst [(.int ((-1) - rest_6)), w_8, w_9, (.ref p14)]) := Cel.own g e25 np26 ep27 rfl
    replace c_21 := c_21.ext e25
    replace g := g.ext e25
    obtain ⟨S_31, g32, eS33, r34, ot35⟩ := c_freeze g c_21 z22 rw20
    replace c_28 := ot35 _ _ (by first | assumption | exact Ne.symm (by assumption)) c_28
    replace r4 := Rep.mono _ eS33 r4
    replace rw_8 := Rep.mono _ eS33 rw_8
    replace rw_9 := Rep.mono _ eS33 rw_9
    replace rw20 := RL.mono eS33 rw20
    replace g := g32
    have r36 := (dv_l r34)
    obtain ⟨S_37, g38, eS39, r40, ot41⟩ := c_freezeR g c_28 z29 sc_i rw_8 rw_9 r36
    replace r4 := Rep.mono _ eS39 r4
    replace rw_8 := Rep.mono _ eS39 rw_8
    replace rw_9 := Rep.mono _ eS39 rw_9
    replace r34 := Rep.mono _ eS39 r34
    replace g := g38
    have h := OP.fin hA h
    exact h _ _ _ g r40
  · replace h := OP.ite0 hc h
    refine z_nextR ?_
    refine z_if (v_test (v_eqI (v_o2c (val_var rfl) val_c (show (0 : Int) < 6 by decide)) val_c)) (fun hc => ?_) (fun hc => ?_)
    · replace h := OP.ite1 hc h
      refine z_retE ?_
      refine c_lstE fun Q_42 hQ_42 => ?_
      refine c_cons ?_
      refine c_val (v_o2 val_c (val_var rfl)) ?_
      refine c_cons ?_
      obtain ⟨w_43, hw_43, rw_43⟩ := v_rc1 g.sh r4
      refine c_val (hw_43 (val_var rfl) val_c) ?_
      refine c_cons ?_
      obtain ⟨w_44, hw_44, rw_44⟩ := v_rc2 g.sh r4
      refine c_val (hw_44 (val_var rfl) val_c) ?_
      refine c_cons ?_
      refine c_cbE fun Q_45 hQ_45 => ?_
      obtain ⟨w_46, hw_46, rw_46⟩ := v_rc3 g.sh r4
      refine c_args (va_cons (hw_46 (val_var rfl) val_c) va_nil) ?_
      obtain ⟨y47, ey47, h⟩ := OP.bind h
      have r48 := dv_getL rw_46 ey47
      refine (l_list (Q := Q_45) (LS.ofL g.sh r48) fun p49 ws50 H_51 e52 np53 ep54 rw55 => ?_)
      refine q_eq hQ_45 ?_
      have z57 := g.hnone np53
      have c_56 : Cel [] H S H_51 p49 (.lst ws50) := Cel.own g e52 np53 ep54 rfl
      replace g := g.ext e52
      refine c_nil ?_
      refine c_newlst (Q := Q_42) (vs := [(.int (7 + rest_6)), w_43, w_44, (.ref p49)]) (show 4 ≤ 1000 by decide) fun p58 H_59 e60 np61 ep62 => ?_
      refine q_eq hQ_42 ?_
      have ne65 := c_56.ne np61
      have z64 := g.hnone np61
      have c_63 : Cel [] H S H_59 p58 (.lst [(.int (7 + rest_6)), w_43, w_44, (.ref p49)]) := Cel.own g e60 np61 ep62 rfl
      replace c_56 := c_56.ext e60
      replace g := g.ext e60
      obtain ⟨S_66, g67, eS68, r69, ot70⟩ := c_freeze g c_56 z57 rw55
      replace c_63 := ot70 _ _ (by first | assumption | exact Ne.symm (by assumption)) c_63
      replace r4 := Rep.mono _ eS68 r4
      replace rw_43 := Rep.mono _ eS68 rw_43
      replace rw_44 := Rep.mono _ eS68 rw_44
      replace rw55 := RL.mono eS68 rw55
      replace g := g67
      have r71 := (dv_l r69)
      obtain ⟨S_72, g73, eS74, r75, ot76⟩ := c_freezeR g c_63 z64 sc_i rw_43 rw_44 r71
      replace r4 := Rep.mono _ eS74 r4
      replace rw_43 := Rep.mono _ eS74 rw_43
      replace rw_44 := Rep.mono _ eS74 rw_44
      replace r69 := Rep.mono _ eS74 r69
      replace g := g73
      have h := OP.fin hA h
      exact h _ _ _ g r75
    · replace h := OP.ite0 hc h
      refine z_nextR ?_
      refine z_if (v_test (v_eqI (v_o2c (val_var rfl) val_c (show (0 : Int) < 6 by decide)) val_c)) (fun hc => ?_) (fun hc => ?_)
      · replace h := OP.ite1 hc h
        refine z_retE ?_
        refine c_lstE fun Q_77 hQ_77 => ?_
        refine c_cons ?_
        refine c_val val_c ?_
        refine c_cons ?_
        obtain ⟨w_78, hw_78, rw_78⟩ := v_rc1 g.sh r4
        refine c_val (hw_78 (val_var rfl) val_c) ?_
        refine c_cons ?_
        obtain ⟨w_79, hw_79, rw_79⟩ := v_rc2 g.sh r4
        refine c_val (hw_79 (val_var rfl) val_c) ?_
        refine c_cons ?_
        refine c_cbE fun Q_80 hQ_80 => ?_
        obtain ⟨w_81, hw_81, rw_81⟩ := v_rc3 g.sh r4
        refine c_args (va_cons (hw_81 (val_var rfl) val_c) va_nil) ?_
        obtain ⟨y82, ey82, h⟩ := OP.bind h
        have r83 := dv_getL rw_81 ey82
        refine (l_list (Q := Q_80) (LS.ofL g.sh r83) fun p84 ws85 H_86 e87 np88 ep89 rw90 => ?_)
        refine q_eq hQ_80 ?_
        have z92 := g.hnone np88
        have c_91 : Cel [] H S H_86 p84 (.lst ws85) := Cel.own g e87 np88 ep89 rfl
        replace g := g.ext e87
        refine c_nil ?_
        refine c_newlst (Q := Q_77) (vs := [(.str "one"), w_78, w_79, (.ref p84)]) (show 4 ≤ 1000 by decide) fun p93 H_94 e95 np96 ep97 => ?_
        refine q_eq hQ_77 ?_
        have ne100 := c_91.ne np96
        have z99 := g.hnone np96
        have c_98 : Cel [] H S H_94 p93 (.lst [(.str "one"), w_78, w_79, (.ref p84)]) := Cel.own g e95 np96 ep97 rfl
        replace c_91 := c_91.ext e95
        replace g := g.ext e95
        obtain ⟨S_101, g102, eS103, r104, ot105⟩ := c_freeze g c_91 z92 rw90
        replace c_98 := ot105 _ _ (by first | assumption | exact Ne.symm (by assumption)) c_98
        replace r4 := Rep.mono _ eS103 r4
        replace rw_78 := Rep.mono _ eS103 rw_78
        replace rw_79 := Rep.mono _ eS103 rw_79
        replace rw90 := RL.mono eS103 rw90
        replace g := g102
        have r106 := (dv_l r104)
        obtain ⟨S_107, g108, eS109, r110, ot111⟩ := c_freezeR g c_98 z99 sc_s rw_78 rw_79 r106
        replace r4 := Rep.mono _ eS109 r4
        replace rw_78 := Rep.mono _ eS109 rw_78
        replace rw_79 := Rep.mono _ eS109 rw_79
        replace r104 := Rep.mono _ eS109 r104
        replace g := g108
        have h := OP.fin hA h
        exact h _ _ _ g r110
      · replace h := OP.ite0 hc h
        refine z_nextR ?_
        refine z_if (v_test (v_eqI (v_o2c (val_var rfl) val_c (show (0 : Int) < 6 by decide)) val_c)) (fun hc => ?_) (fun hc => ?_)
        · replace h := OP.ite1 hc h
          refine z_retE ?_
          refine c_lstE fun Q_112 hQ_112 => ?_
          refine c_cons ?_
          refine c_val val_c ?_
          refine c_cons ?_
          obtain ⟨w_113, hw_113, rw_113⟩ := v_rc1 g.sh r4
          obtain ⟨y114, ey114, h⟩ := OP.bind h
          have ev115 : w_113 = (.int y114) := sc_getI rw_113 ey114
          refine c_val (v_o2c (v_eq (hw_113 (val_var rfl) val_c) ev115) val_c (show (0 : Int) < 4 by decide)) ?_
          refine c_cons ?_
          obtain ⟨w_116, hw_116, rw_116⟩ := v_rc2 g.sh r4
          obtain ⟨y117, ey117, h⟩ := OP.bind h
          have ev118 : w_116 = (.int y117) := sc_getI rw_116 ey117
          refine c_val (v_o2c (v_eq (hw_116 (val_var rfl) val_c) ev118) val_c (show (0 : Int) < 4 by decide)) ?_
          refine c_cons ?_
          refine c_lstE fun Q_119 hQ_119 => ?_
          obtain ⟨w_120, hw_120, rw_120⟩ := v_rc3 g.sh r4
          obtain ⟨y121, ey121, h⟩ := OP.bind h
          have r122 := dv_getL rw_120 ey121
          obtain ⟨i123, ei123, h⟩ := OP.bind h
          obtain ⟨w_124, hw_124, rw_124⟩ := v_ixq2 g.sh (qL_qQ r122) ei123
          obtain ⟨y125, ey125, h⟩ := OP.bind h
          have ev126 : w_124 = (.int y125) := sc_getI rw_124 ey125
          obtain ⟨w_127, hw_127, rw_127⟩ := v_rc3 g.sh r4
          obtain ⟨y128, ey128, h⟩ := OP.bind h
          have r129 := dv_getL rw_127 ey128
          obtain ⟨i130, ei130, h⟩ := OP.bind h
          obtain ⟨w_131, hw_131, rw_131⟩ := v_ixq2 g.sh (qL_qQ r129) ei130
          obtain ⟨y132, ey132, h⟩ := OP.bind h
          have ev133 : w_131 = (.int y132) := sc_getI rw_131 ey132
          refine c_args (va_cons (v_o2c (v_eq (hw_124 (hw_120 (val_var rfl) val_c) val_c) ev126) val_c (show (0 : Int) < 4 by decide)) (va_cons (v_o2c (v_eq (hw_131 (hw_127 (val_var rfl) val_c) val_c) ev133) val_c (show (0 : Int) < 4 by decide)) va_nil)) ?_
          refine c_newlst (Q := Q_119) (vs := [(.int (y125 % 4)), (.int (y132 % 4))]) (show 2 ≤ 1000 by decide) fun p134 H_135 e136 np137 ep138 => ?_
          refine q_eq hQ_119 ?_
          have w_139 : RL (qI (K := K)) S [(.int (y125 % 4)), (.int (y132 % 4))] ([(y125 % 4), (y132 % 4)] : List Int) := (.cons rfl (.cons rfl .nil))
          have z141 := g.hnone np137
          have c_140 : Cel [] H S H_135 p134 (.lst [(.int (y125 % 4)), (.int (y132 % 4))]) := Cel.own g e136 np137 ep138 rfl
          replace g := g.ext e136
          refine c_nil ?_
          refine c_newlst (Q := Q_112) (vs := [(.bl true), (.int (y114 % 4)), (.int (y117 % 4)), (.ref p134)]) (show 4 ≤ 1000 by decide) fun p142 H_143 e144 np145 ep146 => ?_
          refine q_eq hQ_112 ?_
          have ne149 := c_140.ne np145
          have z148 := g.hnone np145
          have c_147 : Cel [] H S H_143 p142 (.lst [(.bl true), (.int (y114 % 4)), (.int (y117 % 4)), (.ref p134)]) := Cel.own g e144 np145 ep146 rfl
          replace c_140 := c_140.ext e144
          replace g := g.ext e144
          obtain ⟨S_150, g151, eS152, r153, ot154⟩ := c_freeze g c_140 z141 w_139
          replace c_147 := ot154 _ _ (by first | assumption | exact Ne.symm (by assumption)) c_147
          replace r4 := Rep.mono _ eS152 r4
          replace w_139 := RL.mono eS152 w_139
          replace g := g151
          have r155 := (dv_li r153)
          obtain ⟨S_156, g157, eS158, r159, ot160⟩ := c_freezeR g c_147 z148 sc_b sc_i sc_i r155
          replace r4 := Rep.mono _ eS158 r4
          replace r153 := Rep.mono _ eS158 r153
          replace g := g157
          have h := OP.fin hA h
          exact h _ _ _ g r159
        · replace h := OP.ite0 hc h
          refine z_nextR ?_
          refine z_if (v_test (v_eqI (v_o2c (val_var rfl) val_c (show (0 : Int) < 6 by decide)) val_c)) (fun hc => ?_) (fun hc => ?_)
          · replace h := OP.ite1 hc h
            refine z_retE ?_
            refine c_lstE fun Q_161 hQ_161 => ?_
            refine c_cons ?_
            refine c_val val_c ?_
            refine c_cons ?_
            obtain ⟨w_162, hw_162, rw_162⟩ := v_rc1 g.sh r4
            obtain ⟨y163, ey163, h⟩ := OP.bind h
            have ev164 : w_162 = (.int y163) := sc_getI rw_162 ey163
            refine c_val (v_o2c (v_eq (hw_162 (val_var rfl) val_c) ev164) val_c (show (0 : Int) < 2 by decide)) ?_
            refine c_cons ?_
            obtain ⟨w_165, hw_165, rw_165⟩ := v_rc2 g.sh r4
            obtain ⟨y166, ey166, h⟩ := OP.bind h
            have ev167 : w_165 = (.int y166) := sc_getI rw_165 ey166
            refine c_val (v_o2c (v_eq (hw_165 (val_var rfl) val_c) ev167) val_c (show (0 : Int) < 2 by decide)) ?_
            refine c_cons ?_
            refine c_lstE fun Q_168 hQ_168 => ?_
            obtain ⟨w_169, hw_169, rw_169⟩ := v_rc3 g.sh r4
            obtain ⟨y170, ey170, h⟩ := OP.bind h
            have r171 := dv_getL rw_169 ey170
            obtain ⟨i172, ei172, h⟩ := OP.bind h
            obtain ⟨w_173, hw_173, rw_173⟩ := v_ixq2 g.sh (qL_qQ r171) ei172
            obtain ⟨y174, ey174, h⟩ := OP.bind h
            have ev175 : w_173 = (.int y174) := sc_getI rw_173 ey174
            refine c_args (va_cons (v_o2c (v_eq (hw_173 (hw_169 (val_var rfl) val_c) val_c) ev175) val_c (show (0 : Int) < 2 by decide)) va_nil) ?_
            refine c_newlst (Q := Q_168) (vs := [(.int (y174 % 2))]) (show 1 ≤ 1000 by decide) fun p176 H_177 e178 np179 ep180 => ?_
            refine q_eq hQ_168 ?_
            have w_181 : RL (qI (K := K)) S [(.int (y174 % 2))] ([(y174 % 2)] : List Int) := (.cons rfl .nil)
            have z183 := g.hnone np179
            have c_182 : Cel [] H S H_177 p176 (.lst [(.int (y174 % 2))]) := Cel.own g e178 np179 ep180 rfl
            replace g := g.ext e178
            refine c_nil ?_
            refine c_newlst (Q := Q_161) (vs := [(.int 0), (.int (y163 % 2)), (.int (y166 % 2)), (.ref p176)]) (show 4 ≤ 1000 by decide) fun p184 H_185 e186 np187 ep188 => ?_
            refine q_eq hQ_161 ?_
            have ne191 := c_182.ne np187
            have z190 := g.hnone np187
            have c_189 : Cel [] H S H_185 p184 (.lst [(.int 0), (.int (y163 % 2)), (.int (y166 % 2)), (.ref p176)]) := Cel.own g e186 np187 ep188 rfl
            replace c_182 := c_182.ext e186
            replace g := g.ext e186
            obtain ⟨S_192, g193, eS194, r195, ot196⟩ := c_freeze g c_182 z183 w_181
            replace c_189 := ot196 _ _ (by first | assumption | exact Ne.symm (by assumption)) c_189
            replace r4 := Rep.mono _ eS194 r4
            replace w_181 := RL.mono eS194 w_181
            replace g := g193
            have r197 := (dv_li r195)
            obtain ⟨S_198, g199, eS200, r201, ot202⟩ := c_freezeR g c_189 z190 sc_i sc_i sc_i r197
            replace r4 := Rep.mono _ eS200 r4
            replace r195 := Rep.mono _ eS200 r195
            replace g := g199
            have h := OP.fin hA h
            exact h _ _ _ g r201
          · replace h := OP.ite0 hc h
            refine z_nextR ?_
            refine z_retE ?_
            refine c_lstE fun Q_203 hQ_203 => ?_
            refine c_cons ?_
            refine c_val val_c ?_
            refine c_cons ?_
            obtain ⟨w_204, hw_204, rw_204⟩ := v_rc1 g.sh r4
            refine c_val (hw_204 (val_var rfl) val_c) ?_
            refine c_cons ?_
            obtain ⟨w_205, hw_205, rw_205⟩ := v_rc2 g.sh r4
            refine c_val (hw_205 (val_var rfl) val_c) ?_
            refine c_cons ?_
            obtain ⟨ys218, eys218, h⟩ := OP.bind h
            refine c_lcR1 (n := 128) (va_cons val_c va_nil) ⟨by decide, by decide⟩ eys218 (τ := (qSc (K := K))) (S := S) (fun zx206 H_207 e208 r_ hm => ?_) ?_
            · have g := g.ext e208
              obtain ⟨w_209, hw_209, rw_209⟩ := v_rc3 g.sh r4
              obtain ⟨y210, ey210, hm⟩ := bind_some hm
              have r211 := dv_getL rw_209 ey210
              obtain ⟨w_212, hw_212, rw_212⟩ := v_rc3 g.sh r4
              obtain ⟨y213, ey213, hm⟩ := bind_some hm
              have r214 := dv_getL rw_212 ey213
              obtain ⟨g215, hm⟩ := grd_some hm
              obtain ⟨i216, ei216, hm⟩ := bind_some hm
              obtain ⟨w_217, hw_217, rw_217⟩ := v_ixq2 g.sh (qL_qQ r211) ei216
              exact ⟨true, a_yes rfl, fun _ => ⟨_, _, (Option.some.inj hm).symm, (hw_217 (hw_209 (val_var rfl) val_c) (v_o2c (val_var rfl) (v_len (hw_212 (val_var rfl) val_c) (qL_qQ (Rep.mono _ g.sh r214))) g215)), rw_217⟩, fun z => nomatch z⟩
            intro p219 ws220 H_221 e222 np223 ep224 rw225
            have z227 := g.hnone np223
            have c_226 : Cel [] H S H_221 p219 (.lst ws220) := Cel.own g e222 np223 ep224 rfl
            replace g := g.ext e222
            refine c_nil ?_
            refine c_newlst (Q := Q_203) (vs := [(.int 7), w_204, w_205, (.ref p219)]) (show 4 ≤ 1000 by decide) fun p228 H_229 e230 np231 ep232 => ?_
            refine q_eq hQ_203 ?_
            have ne235 := c_226.ne np231
            have z234 := g.hnone np231
            have c_233 : Cel [] H S H_229 p228 (.lst [(.int 7), w_204, w_205, (.ref p219)]) := Cel.own g e230 np231 ep232 rfl
            replace c_226 := c_226.ext e230
            replace g := g.ext e230
            obtain ⟨S_236, g237, eS238, r239, ot240⟩ := c_freeze g c_226 z227 rw225
            replace c_233 := ot240 _ _ (by first | assumption | exact Ne.symm (by assumption)) c_233
            replace r4 := Rep.mono _ eS238 r4
            replace rw_204 := Rep.mono _ eS238 rw_204
            replace rw_205 := Rep.mono _ eS238 rw_205
            replace rw225 := RL.mono eS238 rw225
            replace g := g237
            have r241 := (dv_l r239)
            obtain ⟨S_242, g243, eS244, r245, ot246⟩ := c_freezeR g c_233 z234 sc_i rw_204 rw_205 r241
            replace r4 := Rep.mono _ eS244 r4
            replace rw_204 := Rep.mono _ eS244 rw_204
            replace rw_205 := Rep.mono _ eS244 rw_205
            replace r239 := Rep.mono _ eS244 r239
            replace g := g243
            have h := OP.fin hA h
            exact h _ _ _ g r245

@[irreducible] def m__law_cell_at (script1 : (List Int)) (k4 : Int) : Option Int :=
ifo (decide (k4 < (script1.length : Int))) (
(atI script1 k4).bind fun i5 =>
some i5) (
some 0)
abbrev s__law_cell_at : Stmt := top 22
abbrev sn__law_cell_at : List Str := ["_law_script", "_law_k"]
theorem sc__law_cell_at : FnScope ["_law_script", "_law_k"] ["_law_script", "_law_k"] (defScope (s__law_cell_at)) := ⟨rfl, rfl, rfl, by decide +kernel, rfl, by decide +kernel, by decide +kernel⟩
def p__law_cell_at (K : PySem.W.Frag) (c : Cl) : Sp := fun vs H Q E => ∃ (v2 : V) (script1 : (List Int)) (k4 : Int), vs = [v2, .int k4] ∧ ((qQ (qI (K := K)))).R H v2 script1 ∧ OP (m__law_cell_at script1 k4) (fun r => Q (.int r) H)
theorem ok__law_cell_at (T : Tx K mg) : FnOk P w K mg base CX0 1 T.f__law_cell_at T.d__law_cell_at ["_law_script", "_law_k"] (p__law_cell_at K T.c) := by
  refine T.F__law_cell_at.ok sc__law_cell_at (fun vs H Q E h => by obtain ⟨v2, script1, k4, rfl, _⟩ := h; rfl) (fun cdv A outer s H vs Q E hr h => ?_)
  obtain ⟨v2, script1, k4, rfl, r3, h⟩ := h
  obtain ⟨A_, hA⟩ : ∃ A_, A_ = (fun r : Int => Q (.int r) H) := ⟨_, rfl⟩
  replace h : OP (m__law_cell_at script1 k4) A_ := hA ▸ h
  rw [m__law_cell_at] at h
  refine ⟨_, (pss_cons (ps_if (pt_cmpR op_lt (pe_var (i := 1) rfl (.inl rfl) rfl rfl) (pe_callB (show CallR _ (.builtin "len") (Z.rLenS K) from call_len_seq) rfl T.n_len bt_len (pa_cons (pe_var (i := 0) rfl (.inl rfl) rfl rfl) pa_nil)) (nomark _)) (pss_cons (ps_ret (pe_ix (show IxR _ (rIxL K) from ix_list) (pe_var (i := 0) rfl (.inl rfl) rfl rfl) (pe_var (i := 1) rfl (.inl rfl) rfl rfl) (fun _ _ => rfl)))
      pss_nil) pss_nil)
      (pss_cons (ps_ret pe_int)
      pss_nil)), ?_⟩
  refine z_start (σ := [some v2, some (.int k4)]) rfl ?_
  have g : Grow [] H H H H := Grow.refl (Same.refl _)
  refine z_if (v_test (v_o2 (val_var rfl) (v_len (val_var rfl) (Rep.mono _ g.sh r3)))) (fun hc => ?_) (fun hc => ?_)
  · replace h := OP.ite1 hc h
    obtain ⟨i5, ei5, h⟩ := OP.bind h
    refine z_ret (v_ixI (val_var rfl) (val_var rfl) (Rep.mono _ g.sh r3) ei5) ?_
    have h := OP.fin hA h
    exact h
  · replace h := OP.ite0 hc h
    refine z_nextR ?_
    refine z_ret val_c ?_
    have h := OP.fin hA h
    exact h

@[irreducible] def m__law_refused (many1 : Sc) (starts4 : Sc) (bads7 : Sc) (after10 : Dv) : Option Bool :=
(m_Chart___init__ many1 starts4 bads7 after10).bind fun v22 =>
exE v22 (fun c_27 =>
grd (c_27 = 2) <|
some true) fun v28 =>
some false
abbrev s__law_refused : Stmt := top 27
abbrev sn__law_refused : List Str := ["_law_many", "_law_starts", "_law_bads", "_law_after"]
theorem sc__law_refused : FnScope ["_law_many", "_law_starts", "_law_bads", "_law_after"] ["_law_many", "_law_starts", "_law_bads", "_law_after"] (defScope (s__law_refused)) := ⟨rfl, rfl, rfl, by decide +kernel, rfl, by decide +kernel, by decide +kernel⟩
def p__law_refused (K : PySem.W.Frag) (c : Cl) : Sp := fun vs H Q E => ∃ (S : Hp) (v2 : V) (many1 : Sc) (v5 : V) (starts4 : Sc) (v8 : V) (bads7 : Sc) (v11 : V) (after10 : Dv), vs = [v2, v5, v8, v11] ∧ Same S H ∧ ((qSc (K := K))).R S v2 many1 ∧ ((qSc (K := K))).R S v5 starts4 ∧ ((qSc (K := K))).R S v8 bads7 ∧ ((qDv (K := K))).R S v11 after10 ∧ OP (m__law_refused many1 starts4 bads7 after10) (fun r => ∀ (S' H' : Hp), Grow [] S H S' H' → Q (.bl r) H')
theorem ok__law_refused (T : Tx K mg) : FnOk P w K mg base CX0 5 T.f__law_refused T.d__law_refused ["_law_many", "_law_starts", "_law_bads", "_law_after"] (p__law_refused K T.c) := by
  refine T.F__law_refused.ok sc__law_refused (fun vs H Q E h => by obtain ⟨S, v2, many1, v5, starts4, v8, bads7, v11, after10, rfl, _⟩ := h; rfl) (fun cdv A outer s H vs Q E hr h => ?_)
  obtain ⟨S, v2, many1, v5, starts4, v8, bads7, v11, after10, rfl, gS, r3, r6, r9, r12, h⟩ := h
  obtain ⟨A_, hA⟩ : ∃ A_, A_ = (fun r : Bool => ∀ (S' H' : Hp), Grow [] S H S' H' → Q (.bl r) H') := ⟨_, rfl⟩
  replace h : OP (m__law_refused many1 starts4 bads7 after10) A_ := hA ▸ h
  rw [m__law_refused] at h
  have hr4 : Room 4 _ := hr.mono (by decide)
  refine ⟨_, (pss_cons (ps_try_only (c := .ref T.c.NoChart) rfl rfl ⟨rfl, by decide, .inl T.m_NoChart⟩ Z.takesN (fun W pn xe tk po => (pss_cons (ps_expr (pe_makeS T.k_Chart (ok_Chart___init__ T) hr4 rfl T.m_Chart T.b_Chart___init__ .nil (fun σ => passAt tk σ) (pa_cons (pe_var (i := 0) rfl (.inl rfl) rfl rfl) (pa_cons (pe_var (i := 1) rfl (.inl rfl) rfl rfl) (pa_cons (pe_var (i := 2) rfl (.inl rfl) rfl rfl) (pa_cons (pe_var (i := 3) rfl (.inl rfl) rfl rfl) pa_nil))))))
      pss_nil)) (fun a oe cls d pn hz hf => (pss_cons (ps_ret pe_bl)
      pss_nil)))
      (pss_cons (ps_ret pe_bl)
      pss_nil)), ?_⟩
  refine z_start (σ := [some v2, some v5, some v8, some v11]) rfl ?_
  have g : Grow [] S H S H := Grow.refl gS
  refine z_seqE ?_
  refine z_dropE ?_
  refine c_makeS ?_
  refine c_args (va_cons (val_var rfl) (va_cons (val_var rfl) (va_cons (val_var rfl) (va_cons (val_var rfl) va_nil)))) ?_
  refine make_in fun p13 dx14 H_15 e16 np17 ep18 => ?_
  have z21 := g.hnone np17
  have c_20 : Cel [] H S H_15 p13 (.ins T.c.Chart dx14 []) := Cel.own g e16 np17 ep18 rfl
  replace g := g.ext e16
  have gL26 : ∀ l ∈ [p13], H l = none ∨ l ∈ [] := (LM1 c_20.z LM0)
  refine ⟨S, _, _, _, _, _, _, _, _, _, _, rfl, g.sh, c_20.h, c_20.s, r3, r6, r9, r12, (OP.of h).mono fun v22 h => ?_⟩
  refine EXP.sp h (fun c_27 _ h S_37 H_38 gc39 => ?_) (fun v28 _ h S_29 H_30 w_32 w_34 gc31 hp36 r33 r35 => ?_)
  · replace r3 := Rep.mono _ gc39.ss r3
    replace r6 := Rep.mono _ gc39.ss r6
    replace r9 := Rep.mono _ gc39.ss r9
    replace r12 := Rep.mono _ gc39.ss r12
    replace g := g.call gc39 gL26
    replace h := OP.grd h
    obtain ⟨hcx, h⟩ := h
    subst hcx
    refine ⟨true, T.x_NoChart_NoChart, fun _ a40 na41 => ?_, fun q => nomatch q⟩
    refine z_ret val_c ?_
    have h := OP.fin hA h
    exact h _ _ g
  replace r3 := Rep.mono _ gc31.ss r3
  replace r6 := Rep.mono _ gc31.ss r6
  replace r9 := Rep.mono _ gc31.ss r9
  replace r12 := Rep.mono _ gc31.ss r12
  replace c_20 := c_20.mut gc31 hp36 rfl
  replace g := g.call gc31 gL26
  refine ⟨rfl, ?_⟩
  obtain ⟨S_42, g43, eS44, r45, ot46⟩ := fz_Chart (c := T.c) g c_20 z21 (x := v28) rfl rfl rfl r33 r35
  replace r3 := Rep.mono _ eS44 r3
  replace r6 := Rep.mono _ eS44 r6
  replace r9 := Rep.mono _ eS44 r9
  replace r12 := Rep.mono _ eS44 r12
  replace r33 := Rep.mono _ eS44 r33
  replace r35 := Rep.mono _ eS44 r35
  replace g := g43
  refine z_nextR ?_
  refine z_ret val_c ?_
  have h := OP.fin hA h
  exact h _ _ g

@[irreducible] def m__law_alone_NoChart : Option Bool :=
ifo false (
none) (
ifo false (
none) (
some (true && true)))
abbrev s__law_alone : Stmt := top 26
abbrev sn__law_alone : List Str := ["_law_e"]
theorem sc__law_alone : FnScope ["_law_e"] ["_law_e"] (defScope (s__law_alone)) := ⟨rfl, rfl, rfl, by decide +kernel, rfl, by decide +kernel, by decide +kernel⟩
theorem ok__law_alone_NoChart (T : Tx K mg) : FnE P w K mg base 1 T.f__law_alone T.d__law_alone "_law_e" T.c.NoChart m__law_alone_NoChart := by
  refine fnE_of T.F__law_alone sc__law_alone (fun cdv A outer s H Q E a oe S hz hf gS h => ?_)
  obtain ⟨A_, hA⟩ : ∃ A_, A_ = (fun r : Bool => ∀ S' H', Grow [] S H S' H' → Q (.bl r) H') := ⟨_, rfl⟩
  replace h : OP m__law_alone_NoChart A_ := hA ▸ h
  rw [m__law_alone_NoChart] at h
  refine ⟨_, (pss_cons (ps_if (pt_val (pe_callB (call_isETX (List.mem_cons_self) hz hf) rfl T.n_isinstance bt_isinstance (pa_cons (pe_var (i := 0) rfl (.inl rfl) rfl rfl) (pa_cons (pe_tup (pa_cons (pe_glob (v := .ref T.c.NoFormula) rfl T.m_NoFormula (show Value.ref T.c.NoFormula = _ from rfl)) (pa_cons (pe_glob (v := .ref T.c.NoStep) rfl T.m_NoStep (show Value.ref T.c.NoStep = _ from rfl)) (pa_cons (pe_glob (v := .ref T.c.NoLine) rfl T.m_NoLine (show Value.ref T.c.NoLine = _ from rfl)) (pa_cons (pe_glob (v := .ref T.c.NoName) rfl T.m_NoName (show Value.ref T.c.NoName = _ from rfl)) (pa_cons (pe_glob (v := .ref T.c.NoBar) rfl T.m_NoBar (show Value.ref T.c.NoBar = _ from rfl)) (pa_cons (pe_glob (v := .ref T.c.NotShut) rfl T.m_NotShut (show Value.ref T.c.NotShut = _ from rfl)) pa_nil))))))) pa_nil)))) (pss_cons (ps_ret pe_bl)
      pss_nil) pss_nil)
      (pss_cons (ps_if (pt_val (pe_callB (call_isETX (List.mem_cons_self) hz hf) rfl T.n_isinstance bt_isinstance (pa_cons (pe_var (i := 0) rfl (.inl rfl) rfl rfl) (pa_cons (pe_tup (pa_cons (pe_glob (v := .ref T.c.NoFrame) rfl T.m_NoFrame (show Value.ref T.c.NoFrame = _ from rfl)) (pa_cons (pe_glob (v := .ref T.c.NoFence) rfl T.m_NoFence (show Value.ref T.c.NoFence = _ from rfl)) (pa_cons (pe_glob (v := .ref T.c.NoMachine) rfl T.m_NoMachine (show Value.ref T.c.NoMachine = _ from rfl)) (pa_cons (pe_glob (v := .ref T.c.NothingLeft) rfl T.m_NothingLeft (show Value.ref T.c.NothingLeft = _ from rfl)) (pa_cons (pe_glob (v := .ref T.c.TooMany) rfl T.m_TooMany (show Value.ref T.c.TooMany = _ from rfl)) pa_nil)))))) pa_nil)))) (pss_cons (ps_ret pe_bl)
      pss_nil) pss_nil)
      (pss_cons (ps_ret (pe_and (pe_callB (call_isESX (List.mem_cons_self) hz hf) rfl T.n_isinstance bt_isinstance (pa_cons (pe_var (i := 0) rfl (.inl rfl) rfl rfl) (pa_cons (pe_glob (v := .ref T.c.NoChart) rfl T.m_NoChart (show Value.ref T.c.NoChart = _ from rfl)) pa_nil))) (pe_one (pe_callB (call_isESX (List.mem_cons_self) hz hf) rfl T.n_isinstance bt_isinstance (pa_cons (pe_var (i := 0) rfl (.inl rfl) rfl rfl) (pa_cons (pe_bltn (v := .ty "ValueError") rfl T.n_ValueError bt_ValueError rfl) pa_nil))))))
      pss_nil))), ?_⟩
  refine z_start (σ := [some (.ref a)]) rfl ?_
  have g : Grow [] S H S H := Grow.refl gS
  refine z_ifE ?_
  refine c_B ?_
  refine c_cb ?_
  refine c_cons (c_val (val_var rfl) ?_)
  refine c_cons ?_
  refine c_tupE fun Q_1 hQ_1 => ?_
  refine c_args (va_cons val_c (va_cons val_c (va_cons val_c (va_cons val_c (va_cons val_c (va_cons val_c va_nil)))))) ?_
  refine c_newtup (Q := Q_1) (vs := [.ref T.c.NoFormula, .ref T.c.NoStep, .ref T.c.NoLine, .ref T.c.NoName, .ref T.c.NoBar, .ref T.c.NotShut]) g.sh (show 6 ≤ 1000 by decide) fun p2 S_3 H_4 gs5 ep6 => ?_
  refine q_eq hQ_1 ?_
  replace g := g.call0 gs5
  refine c_nil ?_
  refine ⟨_, p2, _, _, false, rfl, rfl, T.xc_NoChart, rfl, g.sh _ _ ep6, (.cons (.own _) (.cons (.own _) (.cons (.own _) (.cons (.own _) (.cons (.own _) (.cons (.own _) .nil)))))), (kitAny_f T.i_NoChart_NoFormula (kitAny_f T.i_NoChart_NoStep (kitAny_f T.i_NoChart_NoLine (kitAny_f T.i_NoChart_NoName (kitAny_f T.i_NoChart_NoBar (kitAny_f T.i_NoChart_NotShut rfl)))))), ?_⟩
  refine ⟨_, rfl, ?_⟩
  refine ifb (fun hc => ?_) (fun hc => ?_)
  · cases hc
  · replace h := OP.ite0 hc h
    refine z_nextR ?_
    refine z_ifE ?_
    refine c_B ?_
    refine c_cb ?_
    refine c_cons (c_val (val_var rfl) ?_)
    refine c_cons ?_
    refine c_tupE fun Q_7 hQ_7 => ?_
    refine c_args (va_cons val_c (va_cons val_c (va_cons val_c (va_cons val_c (va_cons val_c va_nil))))) ?_
    refine c_newtup (Q := Q_7) (vs := [.ref T.c.NoFrame, .ref T.c.NoFence, .ref T.c.NoMachine, .ref T.c.NothingLeft, .ref T.c.TooMany]) g.sh (show 5 ≤ 1000 by decide) fun p8 S_9 H_10 gs11 ep12 => ?_
    refine q_eq hQ_7 ?_
    replace g := g.call0 gs11
    refine c_nil ?_
    refine ⟨_, p8, _, _, false, rfl, rfl, T.xc_NoChart, rfl, g.sh _ _ ep12, (.cons (.own _) (.cons (.own _) (.cons (.own _) (.cons (.own _) (.cons (.own _) .nil))))), (kitAny_f T.i_NoChart_NoFrame (kitAny_f T.i_NoChart_NoFence (kitAny_f T.i_NoChart_NoMachine (kitAny_f T.i_NoChart_NothingLeft (kitAny_f T.i_NoChart_TooMany rfl))))), ?_⟩
    refine ⟨_, rfl, ?_⟩
    refine ifb (fun hc => ?_) (fun hc => ?_)
    · cases hc
    · replace h := OP.ite0 hc h
      refine z_nextR ?_
      refine z_ret (v_and (v_isE T.xc_NoChart (val_var rfl) val_c (.own _) T.i_NoChart_NoChart) (v_isE T.xc_NoChart (val_var rfl) val_c (.ty _) (kit_bt meta_ValueError T.ib_NoChart_ValueError))) ?_
      have h := OP.fin hA h
      exact h _ _ g

@[irreducible] def m__law_refused_by_any (many1 : Sc) (starts4 : Sc) (bads7 : Sc) (after10 : Dv) : Option Bool :=
(m_Chart___init__ many1 starts4 bads7 after10).bind fun v22 =>
exE v22 (fun c_27 =>
grd (c_27 = 2) <|
(m__law_alone_NoChart).bind fun v44 =>
some v44) fun v28 =>
some false
abbrev s__law_refused_by_any : Stmt := top 28
abbrev sn__law_refused_by_any : List Str := ["_law_many", "_law_starts", "_law_bads", "_law_after", "_law_e"]
theorem sc__law_refused_by_any : FnScope ["_law_many", "_law_starts", "_law_bads", "_law_after", "_law_e"] ["_law_many", "_law_starts", "_law_bads", "_law_after"] (defScope (s__law_refused_by_any)) := ⟨rfl, rfl, rfl, by decide +kernel, rfl, by decide +kernel, by decide +kernel⟩
def p__law_refused_by_any (K : PySem.W.Frag) (c : Cl) : Sp := fun vs H Q E => ∃ (S : Hp) (v2 : V) (many1 : Sc) (v5 : V) (starts4 : Sc) (v8 : V) (bads7 : Sc) (v11 : V) (after10 : Dv), vs = [v2, v5, v8, v11] ∧ Same S H ∧ ((qSc (K := K))).R S v2 many1 ∧ ((qSc (K := K))).R S v5 starts4 ∧ ((qSc (K := K))).R S v8 bads7 ∧ ((qDv (K := K))).R S v11 after10 ∧ OP (m__law_refused_by_any many1 starts4 bads7 after10) (fun r => ∀ (S' H' : Hp), Grow [] S H S' H' → Q (.bl r) H')
theorem ok__law_refused_by_any (T : Tx K mg) : FnOk P w K mg base CX0 5 T.f__law_refused_by_any T.d__law_refused_by_any ["_law_many", "_law_starts", "_law_bads", "_law_after"] (p__law_refused_by_any K T.c) := by
  refine T.F__law_refused_by_any.ok sc__law_refused_by_any (fun vs H Q E h => by obtain ⟨S, v2, many1, v5, starts4, v8, bads7, v11, after10, rfl, _⟩ := h; rfl) (fun cdv A outer s H vs Q E hr h => ?_)
  obtain ⟨S, v2, many1, v5, starts4, v8, bads7, v11, after10, rfl, gS, r3, r6, r9, r12, h⟩ := h
  obtain ⟨A_, hA⟩ : ∃ A_, A_ = (fun r : Bool => ∀ (S' H' : Hp), Grow [] S H S' H' → Q (.bl r) H') := ⟨_, rfl⟩
  replace h : OP (m__law_refused_by_any many1 starts4 bads7 after10) A_ := hA ▸ h
  rw [m__law_refused_by_any] at h
  have hr1 : Room 1 _ := hr.mono (by decide)
  have hr4 : Room 4 _ := hr.mono (by decide)
  refine ⟨_, (pss_cons (ps_tryA (i := 4) (c := .ref T.c.EverError) rfl rfl sc__law_refused_by_any.nd rfl rfl ⟨rfl, by decide, .inl T.m_EverError⟩ (fun W pn xe tk po => (pss_cons (ps_expr (pe_makeS T.k_Chart (ok_Chart___init__ T) hr4 rfl T.m_Chart T.b_Chart___init__ .nil (fun σ => passAt tk σ) (pa_cons (pe_var (i := 0) rfl (.inl rfl) rfl rfl) (pa_cons (pe_var (i := 1) rfl (.inl rfl) rfl rfl) (pa_cons (pe_var (i := 2) rfl (.inl rfl) rfl rfl) (pa_cons (pe_var (i := 3) rfl (.inl rfl) rfl rfl) pa_nil))))))
      pss_nil)) (fun a oe cls d pn hz hf => (pss_cons (ps_ret (pe_callE (ok__law_alone_NoChart T) (⟨hr1.dp, hr1.un⟩ : L2H.RoomH _ _) (List.mem_cons_self) hz hf rfl T.m__law_alone T.F__law_alone.kp T.b__law_alone (pa_cons (pe_var (i := 4) rfl (.inl rfl) rfl rfl) pa_nil)))
      pss_nil)))
      (pss_cons (ps_ret pe_bl)
      pss_nil)), ?_⟩
  refine z_start (σ := [some v2, some v5, some v8, some v11, none]) rfl ?_
  have g : Grow [] S H S H := Grow.refl gS
  refine z_seqE ?_
  refine z_dropE ?_
  refine c_makeS ?_
  refine c_args (va_cons (val_var rfl) (va_cons (val_var rfl) (va_cons (val_var rfl) (va_cons (val_var rfl) va_nil)))) ?_
  refine make_in fun p13 dx14 H_15 e16 np17 ep18 => ?_
  have z21 := g.hnone np17
  have c_20 : Cel [] H S H_15 p13 (.ins T.c.Chart dx14 []) := Cel.own g e16 np17 ep18 rfl
  replace g := g.ext e16
  have gL26 : ∀ l ∈ [p13], H l = none ∨ l ∈ [] := (LM1 c_20.z LM0)
  refine ⟨S, _, _, _, _, _, _, _, _, _, _, rfl, g.sh, c_20.h, c_20.s, r3, r6, r9, r12, (OP.of h).mono fun v22 h => ?_⟩
  refine EXP.sp h (fun c_27 _ h S_37 H_38 gc39 => ?_) (fun v28 _ h S_29 H_30 w_32 w_34 gc31 hp36 r33 r35 => ?_)
  · replace r3 := Rep.mono _ gc39.ss r3
    replace r6 := Rep.mono _ gc39.ss r6
    replace r9 := Rep.mono _ gc39.ss r9
    replace r12 := Rep.mono _ gc39.ss r12
    replace g := g.call gc39 gL26
    replace h := OP.grd h
    obtain ⟨hcx, h⟩ := h
    subst hcx
    refine ⟨T.x_NoChart_EverError, fun a40 na41 => ?_⟩
    refine z_suite (σ' := [some v2, some v5, some v8, some v11, some (.ref a40)]) rfl fun N42 _ _ hN43 => ?_
    refine z_retE ?_
    refine c_callE (val_var rfl) g.sh ?_
    refine (OP.of h).mono fun v44 h => ?_
    intro S_45 H_46 gc47
    replace r3 := Rep.mono _ gc47.ss r3
    replace r6 := Rep.mono _ gc47.ss r6
    replace r9 := Rep.mono _ gc47.ss r9
    replace r12 := Rep.mono _ gc47.ss r12
    replace g := g.call0 gc47
    have h := OP.fin hA h
    exact h _ _ g
  replace r3 := Rep.mono _ gc31.ss r3
  replace r6 := Rep.mono _ gc31.ss r6
  replace r9 := Rep.mono _ gc31.ss r9
  replace r12 := Rep.mono _ gc31.ss r12
  replace c_20 := c_20.mut gc31 hp36 rfl
  replace g := g.call gc31 gL26
  refine ⟨rfl, ?_⟩
  obtain ⟨S_48, g49, eS50, r51, ot52⟩ := fz_Chart (c := T.c) g c_20 z21 (x := v28) rfl rfl rfl r33 r35
  replace r3 := Rep.mono _ eS50 r3
  replace r6 := Rep.mono _ eS50 r6
  replace r9 := Rep.mono _ eS50 r9
  replace r12 := Rep.mono _ eS50 r12
  replace r33 := Rep.mono _ eS50 r33
  replace r35 := Rep.mono _ eS50 r35
  replace g := g49
  refine z_nextR ?_
  refine z_ret val_c ?_
  have h := OP.fin hA h
  exact h _ _ g

@[irreducible] def m_law (script1 : (List Int)) : Option Bool :=
(m__law_cell_at script1 0).bind fun v4 =>
lt (1 + (v4 % 6)) fun many5 =>
grd (gPow 1 many5) <|
lt (shl 1 many5) fun size7 =>
(m__law_cell_at script1 1).bind fun v8 =>
grd (gPow 1 size7) <|
grd (0 < (shl 1 size7)) <|
lt (v8 % (shl 1 size7)) fun starts11 =>
(m__law_cell_at script1 2).bind fun v12 =>
grd (gPow 1 size7) <|
grd (0 < (shl 1 size7)) <|
lt (v12 % (shl 1 size7)) fun bads15 =>
grd (gR size7) <|
(compO (fun zx16 =>
(m__law_cell_at script1 (5 + zx16)).bind fun v20 =>
grd (gPow 1 size7) <|
grd (0 < (shl 1 size7)) <|
some (some ((v20 + zx16) % (shl 1 size7)))) (rangeI 0 (Int.toNat size7))).bind fun ys23 =>
(m__law_cell_at script1 3).bind fun v38 =>
lt (v38 % 6) fun kind39 =>
(m__law_cell_at script1 4).bind fun v40 =>
ifo (decide (kind39 = 1)) (
(m__law_bad_many v40 ((Sc.int many5), (Sc.int starts11), (Sc.int bads15), (Dv.lst (ys23.map Sc.int)))).bind fun v76 =>
ifo ((decide (kind39 = 2)) || (decide (kind39 = 3))) (
none) (
ifo (decide (kind39 = 4)) (
none) (
ifo (decide (kind39 = 5)) (
none) (
(m__law_refused v76.1 v76.2.1 v76.2.2.1 v76.2.2.2).bind fun v87 =>
ifo (!(decide (v87 = (decide (0 < kind39))))) (
some false) (
(ifo (decide (0 < kind39)) (
(m__law_refused_by_any v76.1 v76.2.1 v76.2.2.1 v76.2.2.2).bind fun v104 =>
some (!v104)) (
some false)).bind fun b109 =>
ifo b109 (
some false) (
(m__law_refused (Sc.int many5) (Sc.int starts11) (Sc.int bads15) (Dv.lst (ys23.map Sc.int))).bind fun v126 =>
ifo v126 (
some false) (
(m_Chart___init__ (Sc.int many5) (Sc.int starts11) (Sc.int bads15) (Dv.lst (ys23.map Sc.int))).bind fun v157 =>
exE v157 (fun c_162 =>
none) fun v163 =>
some ((decide (v163.many = many5)) && ((decide (v163.starts = starts11)) && (decide (v163.bads = bads15))))))))))) (
ifo ((decide (kind39 = 2)) || (decide (kind39 = 3))) (
(m__law_bad_crowd v40 size7).bind fun v177 =>
ifo ((kind39 - 1) == 1) (
ifo (decide (kind39 = 4)) (
none) (
ifo (decide (kind39 = 5)) (
none) (
(m__law_refused (Sc.int many5) v177 (Sc.int bads15) (Dv.lst (ys23.map Sc.int))).bind fun v194 =>
ifo (!(decide (v194 = (decide (0 < kind39))))) (
some false) (
(ifo (decide (0 < kind39)) (
(m__law_refused_by_any (Sc.int many5) v177 (Sc.int bads15) (Dv.lst (ys23.map Sc.int))).bind fun v208 =>
some (!v208)) (
some false)).bind fun b213 =>
ifo b213 (
some false) (
(m__law_refused (Sc.int many5) (Sc.int starts11) (Sc.int bads15) (Dv.lst (ys23.map Sc.int))).bind fun v231 =>
ifo v231 (
some false) (
(m_Chart___init__ (Sc.int many5) (Sc.int starts11) (Sc.int bads15) (Dv.lst (ys23.map Sc.int))).bind fun v264 =>
exE v264 (fun c_269 =>
none) fun v270 =>
some ((decide (v270.many = many5)) && ((decide (v270.starts = starts11)) && (decide (v270.bads = bads15)))))))))) (
ifo ((kind39 - 1) == 2) (
ifo (decide (kind39 = 4)) (
none) (
ifo (decide (kind39 = 5)) (
none) (
(m__law_refused (Sc.int many5) (Sc.int starts11) v177 (Dv.lst (ys23.map Sc.int))).bind fun v294 =>
ifo (!(decide (v294 = (decide (0 < kind39))))) (
some false) (
(ifo (decide (0 < kind39)) (
(m__law_refused_by_any (Sc.int many5) (Sc.int starts11) v177 (Dv.lst (ys23.map Sc.int))).bind fun v308 =>
some (!v308)) (
some false)).bind fun b313 =>
ifo b313 (
some false) (
(m__law_refused (Sc.int many5) (Sc.int starts11) (Sc.int bads15) (Dv.lst (ys23.map Sc.int))).bind fun v331 =>
ifo v331 (
some false) (
(m_Chart___init__ (Sc.int many5) (Sc.int starts11) (Sc.int bads15) (Dv.lst (ys23.map Sc.int))).bind fun v364 =>
exE v364 (fun c_369 =>
none) fun v370 =>
some ((decide (v370.many = many5)) && ((decide (v370.starts = starts11)) && (decide (v370.bads = bads15)))))))))) (
none))) (
ifo (decide (kind39 = 4)) (
grd (gDivW size7) <|
(m__law_bad_crowd ((((v40 / 4) / size7) * 4) + (v40 % 4)) size7).bind fun v385 =>
grd (0 < size7) <|
(setI (ys23.map Sc.int) ((v40 / 4) % size7) v385).bind fun l393 =>
ifo (decide (kind39 = 5)) (
none) (
(m__law_refused (Sc.int many5) (Sc.int starts11) (Sc.int bads15) (Dv.lst l393)).bind fun v406 =>
ifo (!(decide (v406 = (decide (0 < kind39))))) (
some false) (
(ifo (decide (0 < kind39)) (
(m__law_refused_by_any (Sc.int many5) (Sc.int starts11) (Sc.int bads15) (Dv.lst l393)).bind fun v420 =>
some (!v420)) (
some false)).bind fun b425 =>
ifo b425 (
some false) (
(m__law_refused (Sc.int many5) (Sc.int starts11) (Sc.int bads15) (Dv.lst (ys23.map Sc.int))).bind fun v443 =>
ifo v443 (
some false) (
(m_Chart___init__ (Sc.int many5) (Sc.int starts11) (Sc.int bads15) (Dv.lst (ys23.map Sc.int))).bind fun v476 =>
exE v476 (fun c_481 =>
none) fun v482 =>
some ((decide (v482.many = many5)) && ((decide (v482.starts = starts11)) && (decide (v482.bads = bads15))))))))) (
ifo (decide (kind39 = 5)) (
(m__law_bad_list v40 ys23).bind fun v496 =>
(m__law_refused (Sc.int many5) (Sc.int starts11) (Sc.int bads15) v496).bind fun v507 =>
ifo (!(decide (v507 = (decide (0 < kind39))))) (
some false) (
(ifo (decide (0 < kind39)) (
(m__law_refused_by_any (Sc.int many5) (Sc.int starts11) (Sc.int bads15) v496).bind fun v520 =>
some (!v520)) (
some false)).bind fun b525 =>
ifo b525 (
some false) (
(m__law_refused (Sc.int many5) (Sc.int starts11) (Sc.int bads15) (Dv.lst (ys23.map Sc.int))).bind fun v543 =>
ifo v543 (
some false) (
(m_Chart___init__ (Sc.int many5) (Sc.int starts11) (Sc.int bads15) (Dv.lst (ys23.map Sc.int))).bind fun v576 =>
exE v576 (fun c_581 =>
none) fun v582 =>
some ((decide (v582.many = many5)) && ((decide (v582.starts = starts11)) && (decide (v582.bads = bads15)))))))) (
(m__law_refused (Sc.int many5) (Sc.int starts11) (Sc.int bads15) (Dv.lst (ys23.map Sc.int))).bind fun v602 =>
ifo (!(decide (v602 = (decide (0 < kind39))))) (
some false) (
(ifo (decide (0 < kind39)) (
(m__law_refused_by_any (Sc.int many5) (Sc.int starts11) (Sc.int bads15) (Dv.lst (ys23.map Sc.int))).bind fun v616 =>
some (!v616)) (
some false)).bind fun b621 =>
ifo b621 (
some false) (
(m__law_refused (Sc.int many5) (Sc.int starts11) (Sc.int bads15) (Dv.lst (ys23.map Sc.int))).bind fun v639 =>
ifo v639 (
some false) (
(m_Chart___init__ (Sc.int many5) (Sc.int starts11) (Sc.int bads15) (Dv.lst (ys23.map Sc.int))).bind fun v672 =>
exE v672 (fun c_677 =>
none) fun v678 =>
some ((decide (v678.many = many5)) && ((decide (v678.starts = starts11)) && (decide (v678.bads = bads15)))))))))))
abbrev s_law : Stmt := top 29
abbrev sn_law : List Str := ["_law_script", "_law_many", "_law_size", "_law_starts", "_law_bads", "_law_after", "_law_kind", "_law_cell", "_law_spoilt", "_law_chart", "_law_s"]
theorem sc_law : FnScope ["_law_script", "_law_many", "_law_size", "_law_starts", "_law_bads", "_law_after", "_law_kind", "_law_cell", "_law_spoilt", "_law_chart", "_law_s"] ["_law_script"] (defScope (s_law)) := ⟨rfl, rfl, rfl, by decide +kernel, rfl, by decide +kernel, by decide +kernel⟩
def p_law (K : PySem.W.Frag) (c : Cl) : Sp := fun vs H Q E => ∃ (S : Hp) (v2 : V) (script1 : (List Int)), vs = [v2] ∧ Same S H ∧ RdL (qI (K := K)) [] S H v2 script1 ∧ OP (m_law script1) (fun r => ∀ (S' H' : Hp), Grow [] S H S' H' → Q (.bl r) H')
theorem ok_law (T : Tx K mg) : FnOk P w K mg base CX0 6 T.f_law T.d_law ["_law_script"] (p_law K T.c) := by
  refine T.F_law.ok sc_law (fun vs H Q E h => by obtain ⟨S, v2, script1, rfl, _⟩ := h; rfl) (fun cdv A outer s H vs Q E hr h => ?_)
  obtain ⟨S, v2, script1, rfl, gS, r3, h⟩ := h
  obtain ⟨A_, hA⟩ : ∃ A_, A_ = (fun r : Bool => ∀ (S' H' : Hp), Grow [] S H S' H' → Q (.bl r) H') := ⟨_, rfl⟩
  replace h : OP (m_law script1) A_ := hA ▸ h
  rw [m_law] at h
  have hr1 : Room 1 _ := hr.mono (by decide)
  have hr4 : Room 4 _ := hr.mono (by decide)
  have hr5 : Room 5 _ := hr.mono (by decide)
  refine ⟨_, (pss_cons (ps_set (i := 1) sc_law.nd rfl (.inl rfl) (pe_op op_add pe_int (pe_op op_mod (pe_call (ok__law_cell_at T) hr1 rfl T.m__law_cell_at T.F__law_cell_at.kp T.b__law_cell_at .nil pass0 (pa_cons (pe_var (i := 0) rfl (.inr (.inl rfl)) rfl rfl) (pa_cons pe_int pa_nil))) pe_int)))
      (pss_cons (ps_set (i := 2) sc_law.nd rfl (.inr rfl) (pe_op op_shl pe_int (pe_var (i := 1) rfl (.inl rfl) rfl rfl)))
      (pss_cons (ps_set (i := 3) sc_law.nd rfl (.inl rfl) (pe_op op_mod (pe_call (ok__law_cell_at T) hr1 rfl T.m__law_cell_at T.F__law_cell_at.kp T.b__law_cell_at .nil pass0 (pa_cons (pe_var (i := 0) rfl (.inr (.inl rfl)) rfl rfl) (pa_cons pe_int pa_nil))) (pe_op op_shl pe_int (pe_var (i := 2) rfl (.inr (.inl rfl)) rfl rfl))))
      (pss_cons (ps_set (i := 4) sc_law.nd rfl (.inl rfl) (pe_op op_mod (pe_call (ok__law_cell_at T) hr1 rfl T.m__law_cell_at T.F__law_cell_at.kp T.b__law_cell_at .nil pass0 (pa_cons (pe_var (i := 0) rfl (.inr (.inl rfl)) rfl rfl) (pa_cons pe_int pa_nil))) (pe_op op_shl pe_int (pe_var (i := 2) rfl (.inr (.inl rfl)) rfl rfl))))
      (pss_cons (ps_setLc (i := 5) (y := "_law_after") (own := [("_law_s", 10)]) (g := gName 10) (tt := tYes) rfl sc_law.nd rfl rfl (sw_true rfl rfl rfl (by decide +kernel)) (pi_range1 rfl T.n_range (pa_cons (pe_var (i := 2) rfl (.inr (.inl rfl)) rfl rfl) pa_nil)) (blkOk_by (N := sn_law) (sc := defScope s_law) (by decide +kernel)) (fun _ _ _ _ _ => pg_name (i := 10) sc_law.nd rfl (.inl rfl)) (fun _ _ _ _ _ => pts_nil) (fun _ _ _ _ _ => (pe_op op_mod (pe_op op_add (pe_call (ok__law_cell_at T) hr1 rfl T.m__law_cell_at T.F__law_cell_at.kp T.b__law_cell_at .nil pass0 (pa_cons (pe_var (i := 0) rfl (by first | exact .inr (.inr rfl) | exact .inr (.inl rfl)) rfl rfl) (pa_cons (pe_op op_add pe_int (pe_var (i := 10) rfl (.inl rfl) rfl rfl)) pa_nil))) (pe_var (i := 10) rfl (.inl rfl) rfl rfl)) (pe_op op_shl pe_int (pe_var (i := 2) rfl (by first | exact .inr (.inr rfl) | exact .inr (.inl rfl)) rfl rfl)))))
      (pss_cons (ps_set (i := 6) sc_law.nd rfl (.inl rfl) (pe_op op_mod (pe_call (ok__law_cell_at T) hr1 rfl T.m__law_cell_at T.F__law_cell_at.kp T.b__law_cell_at .nil pass0 (pa_cons (pe_var (i := 0) rfl (.inr (.inl rfl)) rfl rfl) (pa_cons pe_int pa_nil))) pe_int))
      (pss_cons (ps_set (i := 7) sc_law.nd rfl (.inl rfl) (pe_call (ok__law_cell_at T) hr1 rfl T.m__law_cell_at T.F__law_cell_at.kp T.b__law_cell_at .nil pass0 (pa_cons (pe_var (i := 0) rfl (.inr (.inl rfl)) rfl rfl) (pa_cons pe_int pa_nil))))
      (pss_cons (ps_set (i := 8) sc_law.nd rfl (.inl rfl) (pe_lst (pa_cons (pe_var (i := 1) rfl (.inl rfl) rfl rfl) (pa_cons (pe_var (i := 3) rfl (.inl rfl) rfl rfl) (pa_cons (pe_var (i := 4) rfl (.inl rfl) rfl rfl) (pa_cons (pe_callTy call_list_of rfl T.n_list bt_list (pa_cons (pe_var (i := 5) rfl (.inl rfl) rfl rfl) pa_nil)) pa_nil))))))
      (pss_cons (ps_if (pt_cmpR op_eq (pe_var (i := 6) rfl (.inl rfl) rfl rfl) pe_int (nomark _)) (pss_cons (ps_set (i := 8) sc_law.nd rfl (.inl rfl) (pe_call (ok__law_bad_many T) hr1 rfl T.m__law_bad_many T.F__law_bad_many.kp T.b__law_bad_many .nil pass0 (pa_cons (pe_var (i := 7) rfl (.inl rfl) rfl rfl) (pa_cons (pe_lst (pa_cons (pe_var (i := 1) rfl (.inl rfl) rfl rfl) (pa_cons (pe_var (i := 3) rfl (.inl rfl) rfl rfl) (pa_cons (pe_var (i := 4) rfl (.inl rfl) rfl rfl) (pa_cons (pe_var (i := 5) rfl (.inl rfl) rfl rfl) pa_nil))))) pa_nil))))
      pss_nil) pss_nil)
      (pss_cons (ps_if (PW.pt (pw_or (pt_cmpR op_eq (pe_var (i := 6) rfl (.inl rfl) rfl rfl) pe_int (nomark _)) (pw_or1 (pt_cmpR op_eq (pe_var (i := 6) rfl (.inl rfl) rfl rfl) pe_int (nomark _))))) (pss_cons (ps_asg (pe_call (ok__law_bad_crowd T) hr1 rfl T.m__law_bad_crowd T.F__law_bad_crowd.kp T.b__law_bad_crowd .nil pass0 (pa_cons (pe_var (i := 7) rfl (.inl rfl) rfl rfl) (pa_cons (pe_var (i := 2) rfl (.inr (.inl rfl)) rfl rfl) pa_nil))) (pg_sub (pe_var (i := 8) rfl (.inl rfl) rfl rfl) (pe_op op_sub (pe_var (i := 6) rfl (.inl rfl) rfl rfl) pe_int) set_list))
      pss_nil) pss_nil)
      (pss_cons (ps_if (pt_cmpR op_eq (pe_var (i := 6) rfl (.inl rfl) rfl rfl) pe_int (nomark _)) (pss_cons (ps_asg (pe_call (ok__law_bad_crowd T) hr1 rfl T.m__law_bad_crowd T.F__law_bad_crowd.kp T.b__law_bad_crowd .nil pass0 (pa_cons (pe_op op_add (pe_op op_mul (pe_op op_fdivW (pe_op op_fdiv (pe_var (i := 7) rfl (.inl rfl) rfl rfl) pe_int) (pe_var (i := 2) rfl (.inr (.inl rfl)) rfl rfl)) pe_int) (pe_op op_mod (pe_var (i := 7) rfl (.inl rfl) rfl rfl) pe_int)) (pa_cons (pe_var (i := 2) rfl (.inr (.inl rfl)) rfl rfl) pa_nil))) (pg_sub (pe_ix (show IxR _ (rIxL K) from ix_list) (pe_var (i := 8) rfl (.inl rfl) rfl rfl) pe_int (fun _ _ => rfl)) (pe_op op_mod (pe_op op_fdiv (pe_var (i := 7) rfl (.inl rfl) rfl rfl) pe_int) (pe_var (i := 2) rfl (.inr (.inl rfl)) rfl rfl)) set_list))
      pss_nil) pss_nil)
      (pss_cons (ps_if (pt_cmpR op_eq (pe_var (i := 6) rfl (.inl rfl) rfl rfl) pe_int (nomark _)) (pss_cons (ps_asg (pe_call (ok__law_bad_list T) hr1 rfl T.m__law_bad_list T.F__law_bad_list.kp T.b__law_bad_list .nil pass0 (pa_cons (pe_var (i := 7) rfl (.inl rfl) rfl rfl) (pa_cons (pe_var (i := 5) rfl (.inl rfl) rfl rfl) pa_nil))) (pg_sub (pe_var (i := 8) rfl (.inl rfl) rfl rfl) pe_int set_list))
      pss_nil) pss_nil)
      (pss_cons (ps_if (pt_cmpR op_ne (pe_call (ok__law_refused T) hr5 rfl T.m__law_refused T.F__law_refused.kp T.b__law_refused .nil pass0 (pa_cons (pe_ix (show IxR _ (rIxL K) from ix_list) (pe_var (i := 8) rfl (.inl rfl) rfl rfl) pe_int (fun _ _ => rfl)) (pa_cons (pe_ix (show IxR _ (rIxL K) from ix_list) (pe_var (i := 8) rfl (.inl rfl) rfl rfl) pe_int (fun _ _ => rfl)) (pa_cons (pe_ix (show IxR _ (rIxL K) from ix_list) (pe_var (i := 8) rfl (.inl rfl) rfl rfl) pe_int (fun _ _ => rfl)) (pa_cons (pe_ix (show IxR _ (rIxL K) from ix_list) (pe_var (i := 8) rfl (.inl rfl) rfl rfl) pe_int (fun _ _ => rfl)) pa_nil))))) (pe_cmpR op_gt (pe_var (i := 6) rfl (.inl rfl) rfl rfl) pe_int (nomark _)) (nomark _)) (pss_cons (ps_ret pe_bl)
      pss_nil) pss_nil)
      (pss_cons (ps_if (PW.pt (pw_and (pt_cmpR op_gt (pe_var (i := 6) rfl (.inl rfl) rfl rfl) pe_int (nomark _)) (pw_and1 (pt_not (pt_val (pe_call (ok__law_refused_by_any T) hr5 rfl T.m__law_refused_by_any T.F__law_refused_by_any.kp T.b__law_refused_by_any .nil pass0 (pa_cons (pe_ix (show IxR _ (rIxL K) from ix_list) (pe_var (i := 8) rfl (.inl rfl) rfl rfl) pe_int (fun _ _ => rfl)) (pa_cons (pe_ix (show IxR _ (rIxL K) from ix_list) (pe_var (i := 8) rfl (.inl rfl) rfl rfl) pe_int (fun _ _ => rfl)) (pa_cons (pe_ix (show IxR _ (rIxL K) from ix_list) (pe_var (i := 8) rfl (.inl rfl) rfl rfl) pe_int (fun _ _ => rfl)) (pa_cons (pe_ix (show IxR _ (rIxL K) from ix_list) (pe_var (i := 8) rfl (.inl rfl) rfl rfl) pe_int (fun _ _ => rfl)) pa_nil)))))))))) (pss_cons (ps_ret pe_bl)
      pss_nil) pss_nil)
      (pss_cons (ps_if (pt_val (pe_call (ok__law_refused T) hr5 rfl T.m__law_refused T.F__law_refused.kp T.b__law_refused .nil pass0 (pa_cons (pe_var (i := 1) rfl (.inl rfl) rfl rfl) (pa_cons (pe_var (i := 3) rfl (.inl rfl) rfl rfl) (pa_cons (pe_var (i := 4) rfl (.inl rfl) rfl rfl) (pa_cons (pe_callTy call_list_of rfl T.n_list bt_list (pa_cons (pe_var (i := 5) rfl (.inl rfl) rfl rfl) pa_nil)) pa_nil)))))) (pss_cons (ps_ret pe_bl)
      pss_nil) pss_nil)
      (pss_cons (ps_set (i := 9) sc_law.nd rfl (.inl rfl) (pe_make T.k_Chart (ok_Chart___init__ T) hr4 rfl T.m_Chart T.b_Chart___init__ .nil Z.passL (pa_cons (pe_var (i := 1) rfl (.inl rfl) rfl rfl) (pa_cons (pe_var (i := 3) rfl (.inl rfl) rfl rfl) (pa_cons (pe_var (i := 4) rfl (.inl rfl) rfl rfl) (pa_cons (pe_callTy call_list_of rfl T.n_list bt_list (pa_cons (pe_var (i := 5) rfl (.inl rfl) rfl rfl) pa_nil)) pa_nil))))))
      (pss_cons (ps_ret (pe_and (pe_cmpR op_eq (pe_fld (pe_var (i := 9) rfl (.inl rfl) rfl rfl) rfl) (pe_var (i := 1) rfl (.inl rfl) rfl rfl) (nomark _)) (pe_and (pe_cmpR op_eq (pe_fld (pe_var (i := 9) rfl (.inl rfl) rfl rfl) rfl) (pe_var (i := 3) rfl (.inl rfl) rfl rfl) (nomark _)) (pe_one (pe_cmpR op_eq (pe_fld (pe_var (i := 9) rfl (.inl rfl) rfl rfl) rfl) (pe_var (i := 4) rfl (.inl rfl) rfl rfl) (nomark _))))))
      pss_nil))))))))))))))))), ?_⟩
  refine z_start (σ := [some v2, none, none, none, none, none, none, none, none, none, none]) rfl ?_
  have g : Grow [] S H S H := Grow.refl gS
  obtain ⟨v4, ev4, h⟩ := OP.bind h
  obtain ⟨many5, emany5, h⟩ := OP.lt h
  refine z_set (w := (.int many5)) (σ' := [some v2, some (.int many5), none, none, none, none, none, none, none, none, none]) (v_o2 val_c (v_o2c (v_call (va_cons (val_var rfl) (va_cons val_c va_nil)) fun Q q => ⟨_, _, _, rfl, (RdL.q g r3), OP.mk ev4 q⟩) val_c (show (0 : Int) < 6 by decide))) (congrArg V.int emany5) rfl ?_
  obtain ⟨g6, h⟩ := OP.grd h
  obtain ⟨size7, esize7, h⟩ := OP.lt h
  refine z_set (w := (.int size7)) (σ' := [some v2, some (.int many5), some (.int size7), none, none, none, none, none, none, none, none]) (v_o2c val_c (val_var rfl) g6) (congrArg V.int esize7) rfl ?_
  obtain ⟨v8, ev8, h⟩ := OP.bind h
  obtain ⟨g9, h⟩ := OP.grd h
  obtain ⟨g10, h⟩ := OP.grd h
  obtain ⟨starts11, estarts11, h⟩ := OP.lt h
  refine z_set (w := (.int starts11)) (σ' := [some v2, some (.int many5), some (.int size7), some (.int starts11), none, none, none, none, none, none, none]) (v_o2c (v_call (va_cons (val_var rfl) (va_cons val_c va_nil)) fun Q q => ⟨_, _, _, rfl, (RdL.q g r3), OP.mk ev8 q⟩) (v_o2c val_c (val_var rfl) g9) g10) (congrArg V.int estarts11) rfl ?_
  obtain ⟨v12, ev12, h⟩ := OP.bind h
  obtain ⟨g13, h⟩ := OP.grd h
  obtain ⟨g14, h⟩ := OP.grd h
  obtain ⟨bads15, ebads15, h⟩ := OP.lt h
  refine z_set (w := (.int bads15)) (σ' := [some v2, some (.int many5), some (.int size7), some (.int starts11), some (.int bads15), none, none, none, none, none, none]) (v_o2c (v_call (va_cons (val_var rfl) (va_cons val_c va_nil)) fun Q q => ⟨_, _, _, rfl, (RdL.q g r3), OP.mk ev12 q⟩) (v_o2c val_c (val_var rfl) g13) g14) (congrArg V.int ebads15) rfl ?_
  refine z_setE ?_
  obtain ⟨g17, h⟩ := OP.grd h
  obtain ⟨ys23, eys23, h⟩ := OP.bind h
  refine c_lcR1 (n := size7) (va_cons (val_var rfl) va_nil) g17 eys23 (τ := (qI (K := K))) (S := S) (fun zx16 H_18 e19 r_ hm => ?_) ?_
  · have g := g.ext e19
    obtain ⟨v20, ev20, hm⟩ := bind_some hm
    obtain ⟨g21, hm⟩ := grd_some hm
    obtain ⟨g22, hm⟩ := grd_some hm
    exact ⟨true, a_yes rfl, fun _ => ⟨_, _, (Option.some.inj hm).symm, (v_o2c (v_o2 (v_call (va_cons (val_var rfl) (va_cons (v_o2 val_c (val_var rfl)) va_nil)) fun Q q => ⟨_, _, _, rfl, (RdL.q g r3), OP.mk ev20 q⟩) (val_var rfl)) (v_o2c val_c (val_var rfl) g21) g22), rfl⟩, fun z => nomatch z⟩
  intro p24 ws25 H_26 e27 np28 ep29 rw30
  have z32 := g.hnone np28
  have c_31 : Cel [] H S H_26 p24 (.lst ws25) := Cel.own g e27 np28 ep29 rfl
  replace g := g.ext e27
  obtain ⟨S_33, g34, eS35, r36, ot37⟩ := c_freeze g c_31 z32 rw30
  replace r3 := RdL.mono eS35 r3
  replace g := g34
  refine g_name (σ' := [some v2, some (.int many5), some (.int size7), some (.int starts11), some (.int bads15), some (.ref p24), none, none, none, none, none]) rfl ?_
  obtain ⟨v38, ev38, h⟩ := OP.bind h
  obtain ⟨kind39, ekind39, h⟩ := OP.lt h
  refine z_set (w := (.int kind39)) (σ' := [some v2, some (.int many5), some (.int size7), some (.int starts11), some (.int bads15), some (.ref p24), some (.int kind39), none, none, none, none]) (v_o2c (v_call (va_cons (val_var rfl) (va_cons val_c va_nil)) fun Q q => ⟨_, _, _, rfl, (RdL.q g r3), OP.mk ev38 q⟩) val_c (show (0 : Int) < 6 by decide)) (congrArg V.int ekind39) rfl ?_
  obtain ⟨v40, ev40, h⟩ := OP.bind h
  refine z_set (w := (.int v40)) (σ' := [some v2, some (.int many5), some (.int size7), some (.int starts11), some (.int bads15), some (.ref p24), some (.int kind39), some (.int v40), none, none, none]) (v_call (va_cons (val_var rfl) (va_cons val_c va_nil)) fun Q q => ⟨_, _, _, rfl, (RdL.q g r3), OP.mk ev40 q⟩) rfl rfl ?_
  refine z_setE ?_
  refine c_lstE fun Q_41 hQ_41 => ?_
  refine c_cons ?_
  refine c_val (val_var rfl) ?_
  refine c_cons ?_
  refine c_val (val_var rfl) ?_
  refine c_cons ?_
  refine c_val (val_var rfl) ?_
  refine c_cons ?_
  refine c_cbE fun Q_42 hQ_42 => ?_
  refine c_args (va_cons (val_var rfl) va_nil) ?_
  refine (l_list (Q := Q_42) (LS.ofL g.sh r36) fun p43 ws44 H_45 e46 np47 ep48 rw49 => ?_)
  refine q_eq hQ_42 ?_
  have z51 := g.hnone np47
  have c_50 : Cel [] H S_33 H_45 p43 (.lst ws44) := Cel.own g e46 np47 ep48 rfl
  replace g := g.ext e46
  refine c_nil ?_
  refine c_newlst (Q := Q_41) (vs := [(.int many5), (.int starts11), (.int bads15), (.ref p43)]) (show 4 ≤ 1000 by decide) fun p52 H_53 e54 np55 ep56 => ?_
  refine q_eq hQ_41 ?_
  have ne59 := c_50.ne np55
  have z58 := g.hnone np55
  have c_57 : Cel [] H S_33 H_53 p52 (.lst [(.int many5), (.int starts11), (.int bads15), (.ref p43)]) := Cel.own g e54 np55 ep56 rfl
  replace c_50 := c_50.ext e54
  replace g := g.ext e54
  refine g_name (σ' := [some v2, some (.int many5), some (.int size7), some (.int starts11), some (.int bads15), some (.ref p24), some (.int kind39), some (.int v40), some (.ref p52), none, none]) rfl ?_
  refine z_if (v_test (v_eqI (val_var rfl) val_c)) (fun hc => ?_) (fun hc => ?_)
  · replace h := OP.ite1 hc h
    refine z_setE ?_
    refine c_call ?_
    refine c_cons ?_
    refine c_val (val_var rfl) ?_
    refine c_cons ?_
    refine c_lstE fun Q_60 hQ_60 => ?_
    refine c_args (va_cons (val_var rfl) (va_cons (val_var rfl) (va_cons (val_var rfl) (va_cons (val_var rfl) va_nil)))) ?_
    refine c_newlst (Q := Q_60) (vs := [(.int many5), (.int starts11), (.int bads15), (.ref p24)]) (show 4 ≤ 1000 by decide) fun p61 H_62 e63 np64 ep65 => ?_
    refine q_eq hQ_60 ?_
    have ne68 := c_57.ne np64
    have ne69 := c_50.ne np64
    have z67 := g.hnone np64
    have c_66 : Cel [] H S_33 H_62 p61 (.lst [(.int many5), (.int starts11), (.int bads15), (.ref p24)]) := Cel.own g e63 np64 ep65 rfl
    replace c_57 := c_57.ext e63
    replace c_50 := c_50.ext e63
    replace g := g.ext e63
    refine c_nil ?_
    have r70 := (dv_li r36)
    obtain ⟨S_71, g72, eS73, r74, ot75⟩ := c_freezeR g c_66 z67 sc_i sc_i sc_i r70
    replace c_57 := ot75 _ _ (by first | assumption | exact Ne.symm (by assumption)) c_57
    replace c_50 := ot75 _ _ (by first | assumption | exact Ne.symm (by assumption)) c_50
    replace r3 := RdL.mono eS73 r3
    replace r36 := Rep.mono _ eS73 r36
    replace rw49 := RL.mono eS73 rw49
    replace g := g72
    have gL82 : ∀ l ∈ [], H l = none ∨ l ∈ [] := LM0
    refine ⟨S_71, _, _, _, rfl, g.sh, r74, (OP.of h).mono fun v76 h S_77 H_78 v80 gc79 r81 => ?_⟩
    replace c_57 := c_57.call gc79 NM0
    replace c_50 := c_50.call gc79 NM0
    replace r3 := RdL.mono gc79.ss r3
    replace r36 := Rep.mono _ gc79.ss r36
    replace rw49 := RL.mono gc79.ss rw49
    replace r74 := Rep.mono _ gc79.ss r74
    replace g := g.call gc79 gL82
    refine g_name (σ' := [some v2, some (.int many5), some (.int size7), some (.int starts11), some (.int bads15), some (.ref p24), some (.int kind39), some (.int v40), some v80, none, none]) rfl ?_
    refine z_nextR ?_
    refine z_if (a_or (v_test (v_eqI (val_var rfl) val_c)) (v_test (v_eqI (val_var rfl) val_c))) (fun hc => ?_) (fun hc => ?_)
    · replace h := OP.ite1 hc h
      exact h.elim
    · replace h := OP.ite0 hc h
      refine z_nextR ?_
      refine z_if (v_test (v_eqI (val_var rfl) val_c)) (fun hc => ?_) (fun hc => ?_)
      · replace h := OP.ite1 hc h
        exact h.elim
      · replace h := OP.ite0 hc h
        refine z_nextR ?_
        refine z_if (v_test (v_eqI (val_var rfl) val_c)) (fun hc => ?_) (fun hc => ?_)
        · replace h := OP.ite1 hc h
          exact h.elim
        · replace h := OP.ite0 hc h
          refine z_nextR ?_
          refine z_ifE ?_
          refine c_test ?_
          refine c_op ?_
          refine c_call ?_
          obtain ⟨w_83, hw_83, rw_83⟩ := v_rc0 g.sh r81
          obtain ⟨w_84, hw_84, rw_84⟩ := v_rc1 g.sh r81
          obtain ⟨w_85, hw_85, rw_85⟩ := v_rc2 g.sh r81
          obtain ⟨w_86, hw_86, rw_86⟩ := v_rc3 g.sh r81
          refine c_args (va_cons (hw_83 (val_var rfl) val_c) (va_cons (hw_84 (val_var rfl) val_c) (va_cons (hw_85 (val_var rfl) val_c) (va_cons (hw_86 (val_var rfl) val_c) va_nil)))) ?_
          have gL91 : ∀ l ∈ [], H l = none ∨ l ∈ [] := LM0
          refine ⟨S_77, _, _, _, _, _, _, _, _, rfl, g.sh, rw_83, rw_84, rw_85, rw_86, (OP.of h).mono fun v87 h S_88 H_89 gc90 => ?_⟩
          replace r3 := RdL.mono gc90.ss r3
          replace r36 := Rep.mono _ gc90.ss r36
          replace r81 := Rep.mono _ gc90.ss r81
          replace rw_83 := Rep.mono _ gc90.ss rw_83
          replace rw_84 := Rep.mono _ gc90.ss rw_84
          replace rw_85 := Rep.mono _ gc90.ss rw_85
          replace rw_86 := Rep.mono _ gc90.ss rw_86
          replace g := g.call gc90 gL91
          refine c_val (v_o2 (val_var rfl) val_c) ?_
          refine e_neB ?_
          refine ⟨_, rfl, ?_⟩
          refine ifb (fun hc => ?_) (fun hc => ?_)
          · replace h := OP.ite1 hc h
            refine z_ret val_c ?_
            have h := OP.fin hA h
            exact h _ _ g
          · replace h := OP.ite0 hc h
            refine z_nextR ?_
            refine z_ifE ?_
            obtain ⟨B92, h, hB93⟩ := OP.cut h
            refine c_cutT (fun b H' => ∃ (S_96 : Hp), Grow [] S H S_96 H' ∧ Same S_88 S_96 ∧ B92 b) (fun q94 hq95 => ?_) ?_
            · have sn99 := Same.refl S_88
              refine c_and ?_
              refine c_ans (v_test (v_o2 (val_var rfl) val_c)) ?_
              refine ifb (fun hc => ?_) (fun hc => ?_)
              · replace h := OP.ite1 hc h
                refine c_not ?_
                refine c_B ?_
                refine c_call ?_
                obtain ⟨w_100, hw_100, rw_100⟩ := v_rc0 g.sh r81
                obtain ⟨w_101, hw_101, rw_101⟩ := v_rc1 g.sh r81
                obtain ⟨w_102, hw_102, rw_102⟩ := v_rc2 g.sh r81
                obtain ⟨w_103, hw_103, rw_103⟩ := v_rc3 g.sh r81
                refine c_args (va_cons (hw_100 (val_var rfl) val_c) (va_cons (hw_101 (val_var rfl) val_c) (va_cons (hw_102 (val_var rfl) val_c) (va_cons (hw_103 (val_var rfl) val_c) va_nil)))) ?_
                have gL108 : ∀ l ∈ [], H l = none ∨ l ∈ [] := LM0
                refine ⟨S_88, _, _, _, _, _, _, _, _, rfl, g.sh, rw_100, rw_101, rw_102, rw_103, (OP.of h).mono fun v104 h S_105 H_106 gc107 => ?_⟩
                replace r3 := RdL.mono gc107.ss r3
                replace r36 := Rep.mono _ gc107.ss r36
                replace r81 := Rep.mono _ gc107.ss r81
                replace rw_100 := Rep.mono _ gc107.ss rw_100
                replace rw_101 := Rep.mono _ gc107.ss rw_101
                replace rw_102 := Rep.mono _ gc107.ss rw_102
                replace rw_103 := Rep.mono _ gc107.ss rw_103
                replace sn99 := sn99.trans gc107.ss
                replace g := g.call gc107 gL108
                refine ⟨_, rfl, ?_⟩
                exact hq95 _ _ ⟨_, g, sn99, h⟩
              · replace h := OP.ite0 hc h
                exact hq95 _ _ ⟨_, g, sn99, h⟩
            intro b109 H_97 p
            obtain ⟨S_96, gN, eS98, h⟩ := p
            replace g := gN
            replace r3 := RdL.mono eS98 r3
            replace r36 := Rep.mono _ eS98 r36
            replace r81 := Rep.mono _ eS98 r81
            replace h := hB93 _ h
            refine ifb (fun hc => ?_) (fun hc => ?_)
            · replace h := OP.ite1 hc h
              refine z_ret val_c ?_
              have h := OP.fin hA h
              exact h _ _ g
            · replace h := OP.ite0 hc h
              refine z_nextR ?_
              refine z_ifE ?_
              refine c_B ?_
              refine c_call ?_
              refine c_cons ?_
              refine c_val (val_var rfl) ?_
              refine c_cons ?_
              refine c_val (val_var rfl) ?_
              refine c_cons ?_
              refine c_val (val_var rfl) ?_
              refine c_cons ?_
              refine c_cbE fun Q_110 hQ_110 => ?_
              refine c_args (va_cons (val_var rfl) va_nil) ?_
              refine (l_list (Q := Q_110) (LS.ofL g.sh r36) fun p111 ws112 H_113 e114 np115 ep116 rw117 => ?_)
              refine q_eq hQ_110 ?_
              have z119 := g.hnone np115
              have c_118 : Cel [] H S_96 H_113 p111 (.lst ws112) := Cel.own g e114 np115 ep116 rfl
              replace g := g.ext e114
              refine c_nil ?_
              obtain ⟨S_120, g121, eS122, r123, ot124⟩ := c_freeze g c_118 z119 rw117
              replace r3 := RdL.mono eS122 r3
              replace r36 := Rep.mono _ eS122 r36
              replace r81 := Rep.mono _ eS122 r81
              replace rw117 := RL.mono eS122 rw117
              replace g := g121
              have r125 := (dv_li r123)
              have gL130 : ∀ l ∈ [], H l = none ∨ l ∈ [] := LM0
              refine ⟨S_120, _, _, _, _, _, _, _, _, rfl, g.sh, sc_i, sc_i, sc_i, r125, (OP.of h).mono fun v126 h S_127 H_128 gc129 => ?_⟩
              replace r3 := RdL.mono gc129.ss r3
              replace r36 := Rep.mono _ gc129.ss r36
              replace r81 := Rep.mono _ gc129.ss r81
              replace r125 := Rep.mono _ gc129.ss r125
              replace g := g.call gc129 gL130
              refine ⟨_, rfl, ?_⟩
              refine ifb (fun hc => ?_) (fun hc => ?_)
              · replace h := OP.ite1 hc h
                refine z_ret val_c ?_
                have h := OP.fin hA h
                exact h _ _ g
              · replace h := OP.ite0 hc h
                refine z_nextR ?_
                refine z_setE ?_
                refine c_make ?_
                refine c_cons ?_
                refine c_val (val_var rfl) ?_
                refine c_cons ?_
                refine c_val (val_var rfl) ?_
                refine c_cons ?_
                refine c_val (val_var rfl) ?_
                refine c_cons ?_
                refine c_cbE fun Q_131 hQ_131 => ?_
                refine c_args (va_cons (val_var rfl) va_nil) ?_
                refine (l_list (Q := Q_131) (LS.ofL g.sh r36) fun p132 ws133 H_134 e135 np136 ep137 rw138 => ?_)
                refine q_eq hQ_131 ?_
                have z140 := g.hnone np136
                have c_139 : Cel [] H S_127 H_134 p132 (.lst ws133) := Cel.own g e135 np136 ep137 rfl
                replace g := g.ext e135
                refine c_nil ?_
                refine make_in fun p141 dx142 H_143 e144 np145 ep146 => ?_
                have ne150 := c_139.ne np145
                have z149 := g.hnone np145
                have c_148 : Cel [] H S_127 H_143 p141 (.ins T.c.Chart dx142 []) := Cel.own g e144 np145 ep146 rfl
                replace c_139 := c_139.ext e144
                replace g := g.ext e144
                obtain ⟨S_151, g152, eS153, r154, ot155⟩ := c_freeze g c_139 z140 rw138
                replace c_148 := ot155 _ _ (by first | assumption | exact Ne.symm (by assumption)) c_148
                replace r3 := RdL.mono eS153 r3
                replace r36 := Rep.mono _ eS153 r36
                replace r81 := Rep.mono _ eS153 r81
                replace rw138 := RL.mono eS153 rw138
                replace g := g152
                have r156 := (dv_li r154)
                have gL161 : ∀ l ∈ [p141], H l = none ∨ l ∈ [] := (LM1 c_148.z LM0)
                refine ⟨S_151, _, _, _, _, _, _, _, _, _, _, rfl, g.sh, c_148.h, c_148.s, sc_i, sc_i, sc_i, r156, (OP.of h).mono fun v157 h => ?_⟩
                refine EXP.sp h (fun _ _ h => (show OP none _ from h).elim) (fun v163 _ h S_164 H_165 w_167 w_169 gc166 hp171 r168 r170 => ?_)
                replace r3 := RdL.mono gc166.ss r3
                replace r36 := Rep.mono _ gc166.ss r36
                replace r81 := Rep.mono _ gc166.ss r81
                replace r156 := Rep.mono _ gc166.ss r156
                replace c_148 := c_148.mut gc166 hp171 rfl
                replace g := g.call gc166 gL161
                refine ⟨rfl, ?_⟩
                obtain ⟨S_172, g173, eS174, r175, ot176⟩ := fz_Chart (c := T.c) g c_148 z149 (x := v163) rfl rfl rfl r168 r170
                replace r3 := RdL.mono eS174 r3
                replace r36 := Rep.mono _ eS174 r36
                replace r81 := Rep.mono _ eS174 r81
                replace r156 := Rep.mono _ eS174 r156
                replace r168 := Rep.mono _ eS174 r168
                replace r170 := Rep.mono _ eS174 r170
                replace g := g173
                refine g_name (σ' := [some v2, some (.int many5), some (.int size7), some (.int starts11), some (.int bads15), some (.ref p24), some (.int kind39), some (.int v40), some v80, some (.ref p141), none]) rfl ?_
                refine z_ret (v_and (v_eqI (vf_Chart_many T (val_var rfl) (Rep.mono _ g.sh r175)) (val_var rfl)) (v_and (v_eqI (vf_Chart_starts T (val_var rfl) (Rep.mono _ g.sh r175)) (val_var rfl)) (v_eqI (vf_Chart_bads T (val_var rfl) (Rep.mono _ g.sh r175)) (val_var rfl)))) ?_
                have h := OP.fin hA h
                exact h _ _ g
  · replace h := OP.ite0 hc h
    refine z_nextR ?_
    refine z_if (a_or (v_test (v_eqI (val_var rfl) val_c)) (v_test (v_eqI (val_var rfl) val_c))) (fun hc => ?_) (fun hc => ?_)
    · replace h := OP.ite1 hc h
      refine z_asgE ?_
      refine c_call ?_
      refine c_args (va_cons (val_var rfl) (va_cons (val_var rfl) va_nil)) ?_
      have gL183 : ∀ l ∈ [], H l = none ∨ l ∈ [] := LM0
      refine ⟨S_33, _, _, rfl, g.sh, (OP.of h).mono fun v177 h S_178 H_179 v181 gc180 r182 => ?_⟩
      replace c_57 := c_57.call gc180 NM0
      replace c_50 := c_50.call gc180 NM0
      replace r3 := RdL.mono gc180.ss r3
      replace r36 := Rep.mono _ gc180.ss r36
      replace rw49 := RL.mono gc180.ss rw49
      replace g := g.call gc180 gL183
      refine by_b ((kind39 - 1) == 1) (fun hc => ?_) (fun hc => ?_)
      · replace h := OP.ite1 hc h
        refine c_setR (j := 1) (ws' := [(.int many5), v181, (.int bads15), (.ref p43)]) g c_57 (val_var rfl) (v_o2 (val_var rfl) val_c) (by rw [eq_of_beq hc]; rfl) rfl fun H_184 g185 c_186 ot187 => ?_
        replace c_50 := ot187 _ _ (by first | assumption | exact Ne.symm (by assumption)) c_50
        replace g := g185
        refine z_nextR ?_
        refine z_if (v_test (v_eqI (val_var rfl) val_c)) (fun hc => ?_) (fun hc => ?_)
        · replace h := OP.ite1 hc h
          exact h.elim
        · replace h := OP.ite0 hc h
          refine z_nextR ?_
          refine z_if (v_test (v_eqI (val_var rfl) val_c)) (fun hc => ?_) (fun hc => ?_)
          · replace h := OP.ite1 hc h
            exact h.elim
          · replace h := OP.ite0 hc h
            refine z_nextR ?_
            refine z_ifE ?_
            refine c_test ?_
            refine c_op ?_
            refine c_call ?_
            obtain ⟨S_188, g189, eS190, r191, ot192⟩ := c_freeze g c_50 z51 rw49
            replace c_186 := ot192 _ _ (by first | assumption | exact Ne.symm (by assumption)) c_186
            replace r3 := RdL.mono eS190 r3
            replace r36 := Rep.mono _ eS190 r36
            replace r182 := Rep.mono _ eS190 r182
            replace rw49 := RL.mono eS190 rw49
            replace g := g189
            have r193 := (dv_li r191)
            refine c_args (va_cons (v_ixl c_186.h rfl (val_var rfl) val_c) (va_cons (v_ixl c_186.h rfl (val_var rfl) val_c) (va_cons (v_ixl c_186.h rfl (val_var rfl) val_c) (va_cons (v_ixl c_186.h rfl (val_var rfl) val_c) va_nil)))) ?_
            have gL198 : ∀ l ∈ [], H l = none ∨ l ∈ [] := LM0
            refine ⟨S_188, _, _, _, _, _, _, _, _, rfl, g.sh, sc_i, r182, sc_i, r193, (OP.of h).mono fun v194 h S_195 H_196 gc197 => ?_⟩
            replace c_186 := c_186.call gc197 NM0
            replace r3 := RdL.mono gc197.ss r3
            replace r36 := Rep.mono _ gc197.ss r36
            replace r182 := Rep.mono _ gc197.ss r182
            replace r191 := Rep.mono _ gc197.ss r191
            replace r193 := Rep.mono _ gc197.ss r193
            replace g := g.call gc197 gL198
            refine c_val (v_o2 (val_var rfl) val_c) ?_
            refine e_neB ?_
            refine ⟨_, rfl, ?_⟩
            refine ifb (fun hc => ?_) (fun hc => ?_)
            · replace h := OP.ite1 hc h
              refine z_ret val_c ?_
              have h := OP.fin hA h
              exact h _ _ g
            · replace h := OP.ite0 hc h
              refine z_nextR ?_
              refine z_ifE ?_
              obtain ⟨B199, h, hB200⟩ := OP.cut h
              refine c_cutT (fun b H' => ∃ (S_203 : Hp), Grow [] S H S_203 H' ∧ Same S_195 S_203 ∧ Cel [] H S_203 H' p52 (.lst [(.int many5), v181, (.int bads15), (.ref p43)]) ∧ B199 b) (fun q201 hq202 => ?_) ?_
              · have sn206 := Same.refl S_195
                refine c_and ?_
                refine c_ans (v_test (v_o2 (val_var rfl) val_c)) ?_
                refine ifb (fun hc => ?_) (fun hc => ?_)
                · replace h := OP.ite1 hc h
                  refine c_not ?_
                  refine c_B ?_
                  refine c_call ?_
                  have r207 := (dv_li r191)
                  refine c_args (va_cons (v_ixl c_186.h rfl (val_var rfl) val_c) (va_cons (v_ixl c_186.h rfl (val_var rfl) val_c) (va_cons (v_ixl c_186.h rfl (val_var rfl) val_c) (va_cons (v_ixl c_186.h rfl (val_var rfl) val_c) va_nil)))) ?_
                  have gL212 : ∀ l ∈ [], H l = none ∨ l ∈ [] := LM0
                  refine ⟨S_195, _, _, _, _, _, _, _, _, rfl, g.sh, sc_i, r182, sc_i, r207, (OP.of h).mono fun v208 h S_209 H_210 gc211 => ?_⟩
                  replace c_186 := c_186.call gc211 NM0
                  replace r3 := RdL.mono gc211.ss r3
                  replace r36 := Rep.mono _ gc211.ss r36
                  replace r182 := Rep.mono _ gc211.ss r182
                  replace r191 := Rep.mono _ gc211.ss r191
                  replace r207 := Rep.mono _ gc211.ss r207
                  replace sn206 := sn206.trans gc211.ss
                  replace g := g.call gc211 gL212
                  refine ⟨_, rfl, ?_⟩
                  exact hq202 _ _ ⟨_, g, sn206, c_186, h⟩
                · replace h := OP.ite0 hc h
                  exact hq202 _ _ ⟨_, g, sn206, c_186, h⟩
              intro b213 H_204 p
              obtain ⟨S_203, gN, eS205, c_186N, h⟩ := p
              replace g := gN
              replace c_186 := c_186N
              replace r3 := RdL.mono eS205 r3
              replace r36 := Rep.mono _ eS205 r36
              replace r182 := Rep.mono _ eS205 r182
              replace r191 := Rep.mono _ eS205 r191
              replace h := hB200 _ h
              refine ifb (fun hc => ?_) (fun hc => ?_)
              · replace h := OP.ite1 hc h
                refine z_ret val_c ?_
                have h := OP.fin hA h
                exact h _ _ g
              · replace h := OP.ite0 hc h
                refine z_nextR ?_
                refine z_ifE ?_
                refine c_B ?_
                refine c_call ?_
                refine c_cons ?_
                refine c_val (val_var rfl) ?_
                refine c_cons ?_
                refine c_val (val_var rfl) ?_
                refine c_cons ?_
                refine c_val (val_var rfl) ?_
                refine c_cons ?_
                refine c_cbE fun Q_214 hQ_214 => ?_
                refine c_args (va_cons (val_var rfl) va_nil) ?_
                refine (l_list (Q := Q_214) (LS.ofL g.sh r36) fun p215 ws216 H_217 e218 np219 ep220 rw221 => ?_)
                refine q_eq hQ_214 ?_
                have ne224 := c_186.ne np219
                have z223 := g.hnone np219
                have c_222 : Cel [] H S_203 H_217 p215 (.lst ws216) := Cel.own g e218 np219 ep220 rfl
                replace c_186 := c_186.ext e218
                replace g := g.ext e218
                refine c_nil ?_
                obtain ⟨S_225, g226, eS227, r228, ot229⟩ := c_freeze g c_222 z223 rw221
                replace c_186 := ot229 _ _ (by first | assumption | exact Ne.symm (by assumption)) c_186
                replace r3 := RdL.mono eS227 r3
                replace r36 := Rep.mono _ eS227 r36
                replace r182 := Rep.mono _ eS227 r182
                replace r191 := Rep.mono _ eS227 r191
                replace rw221 := RL.mono eS227 rw221
                replace g := g226
                have r230 := (dv_li r228)
                have gL235 : ∀ l ∈ [], H l = none ∨ l ∈ [] := LM0
                refine ⟨S_225, _, _, _, _, _, _, _, _, rfl, g.sh, sc_i, sc_i, sc_i, r230, (OP.of h).mono fun v231 h S_232 H_233 gc234 => ?_⟩
                replace c_186 := c_186.call gc234 NM0
                replace r3 := RdL.mono gc234.ss r3
                replace r36 := Rep.mono _ gc234.ss r36
                replace r182 := Rep.mono _ gc234.ss r182
                replace r191 := Rep.mono _ gc234.ss r191
                replace r230 := Rep.mono _ gc234.ss r230
                replace g := g.call gc234 gL235
                refine ⟨_, rfl, ?_⟩
                refine ifb (fun hc => ?_) (fun hc => ?_)
                · replace h := OP.ite1 hc h
                  refine z_ret val_c ?_
                  have h := OP.fin hA h
                  exact h _ _ g
                · replace h := OP.ite0 hc h
                  refine z_nextR ?_
                  refine z_setE ?_
                  refine c_make ?_
                  refine c_cons ?_
                  refine c_val (val_var rfl) ?_
                  refine c_cons ?_
                  refine c_val (val_var rfl) ?_
                  refine c_cons ?_
                  refine c_val (val_var rfl) ?_
                  refine c_cons ?_
                  refine c_cbE fun Q_236 hQ_236 => ?_
                  refine c_args (va_cons (val_var rfl) va_nil) ?_
                  refine (l_list (Q := Q_236) (LS.ofL g.sh r36) fun p237 ws238 H_239 e240 np241 ep242 rw243 => ?_)
                  refine q_eq hQ_236 ?_
                  have ne246 := c_186.ne np241
                  have z245 := g.hnone np241
                  have c_244 : Cel [] H S_232 H_239 p237 (.lst ws238) := Cel.own g e240 np241 ep242 rfl
                  replace c_186 := c_186.ext e240
                  replace g := g.ext e240
                  refine c_nil ?_
                  refine make_in fun p247 dx248 H_249 e250 np251 ep252 => ?_
                  have ne256 := c_186.ne np251
                  have ne257 := c_244.ne np251
                  have z255 := g.hnone np251
                  have c_254 : Cel [] H S_232 H_249 p247 (.ins T.c.Chart dx248 []) := Cel.own g e250 np251 ep252 rfl
                  replace c_186 := c_186.ext e250
                  replace c_244 := c_244.ext e250
                  replace g := g.ext e250
                  obtain ⟨S_258, g259, eS260, r261, ot262⟩ := c_freeze g c_244 z245 rw243
                  replace c_186 := ot262 _ _ (by first | assumption | exact Ne.symm (by assumption)) c_186
                  replace c_254 := ot262 _ _ (by first | assumption | exact Ne.symm (by assumption)) c_254
                  replace r3 := RdL.mono eS260 r3
                  replace r36 := Rep.mono _ eS260 r36
                  replace r182 := Rep.mono _ eS260 r182
                  replace r191 := Rep.mono _ eS260 r191
                  replace rw243 := RL.mono eS260 rw243
                  replace g := g259
                  have r263 := (dv_li r261)
                  have gL268 : ∀ l ∈ [p247], H l = none ∨ l ∈ [] := (LM1 c_254.z LM0)
                  refine ⟨S_258, _, _, _, _, _, _, _, _, _, _, rfl, g.sh, c_254.h, c_254.s, sc_i, sc_i, sc_i, r263, (OP.of h).mono fun v264 h => ?_⟩
                  refine EXP.sp h (fun _ _ h => (show OP none _ from h).elim) (fun v270 _ h S_271 H_272 w_274 w_276 gc273 hp278 r275 r277 => ?_)
                  replace c_186 := c_186.call gc273 (NM1 (by first | assumption | exact Ne.symm (by assumption)) NM0)
                  replace r3 := RdL.mono gc273.ss r3
                  replace r36 := Rep.mono _ gc273.ss r36
                  replace r182 := Rep.mono _ gc273.ss r182
                  replace r191 := Rep.mono _ gc273.ss r191
                  replace r263 := Rep.mono _ gc273.ss r263
                  replace c_254 := c_254.mut gc273 hp278 rfl
                  replace g := g.call gc273 gL268
                  refine ⟨rfl, ?_⟩
                  obtain ⟨S_279, g280, eS281, r282, ot283⟩ := fz_Chart (c := T.c) g c_254 z255 (x := v270) rfl rfl rfl r275 r277
                  replace c_186 := ot283 _ _ (by first | assumption | exact Ne.symm (by assumption)) c_186
                  replace r3 := RdL.mono eS281 r3
                  replace r36 := Rep.mono _ eS281 r36
                  replace r182 := Rep.mono _ eS281 r182
                  replace r191 := Rep.mono _ eS281 r191
                  replace r263 := Rep.mono _ eS281 r263
                  replace r275 := Rep.mono _ eS281 r275
                  replace r277 := Rep.mono _ eS281 r277
                  replace g := g280
                  refine g_name (σ' := [some v2, some (.int many5), some (.int size7), some (.int starts11), some (.int bads15), some (.ref p24), some (.int kind39), some (.int v40), some (.ref p52), some (.ref p247), none]) rfl ?_
                  refine z_ret (v_and (v_eqI (vf_Chart_many T (val_var rfl) (Rep.mono _ g.sh r282)) (val_var rfl)) (v_and (v_eqI (vf_Chart_starts T (val_var rfl) (Rep.mono _ g.sh r282)) (val_var rfl)) (v_eqI (vf_Chart_bads T (val_var rfl) (Rep.mono _ g.sh r282)) (val_var rfl)))) ?_
                  have h := OP.fin hA h
                  exact h _ _ g
      · replace h := OP.ite0 hc h
        refine by_b ((kind39 - 1) == 2) (fun hc => ?_) (fun hc => ?_)
        · replace h := OP.ite1 hc h
          refine c_setR (j := 2) (ws' := [(.int many5), (.int starts11), v181, (.ref p43)]) g c_57 (val_var rfl) (v_o2 (val_var rfl) val_c) (by rw [eq_of_beq hc]; rfl) rfl fun H_284 g285 c_286 ot287 => ?_
          replace c_50 := ot287 _ _ (by first | assumption | exact Ne.symm (by assumption)) c_50
          replace g := g285
          refine z_nextR ?_
          refine z_if (v_test (v_eqI (val_var rfl) val_c)) (fun hc => ?_) (fun hc => ?_)
          · replace h := OP.ite1 hc h
            exact h.elim
          · replace h := OP.ite0 hc h
            refine z_nextR ?_
            refine z_if (v_test (v_eqI (val_var rfl) val_c)) (fun hc => ?_) (fun hc => ?_)
            · replace h := OP.ite1 hc h
              exact h.elim
            · replace h := OP.ite0 hc h
              refine z_nextR ?_
              refine z_ifE ?_
              refine c_test ?_
              refine c_op ?_
              refine c_call ?_
              obtain ⟨S_288, g289, eS290, r291, ot292⟩ := c_freeze g c_50 z51 rw49
              replace c_286 := ot292 _ _ (by first | assumption | exact Ne.symm (by assumption)) c_286
              replace r3 := RdL.mono eS290 r3
              replace r36 := Rep.mono _ eS290 r36
              replace r182 := Rep.mono _ eS290 r182
              replace rw49 := RL.mono eS290 rw49
              replace g := g289
              have r293 := (dv_li r291)
              refine c_args (va_cons (v_ixl c_286.h rfl (val_var rfl) val_c) (va_cons (v_ixl c_286.h rfl (val_var rfl) val_c) (va_cons (v_ixl c_286.h rfl (val_var rfl) val_c) (va_cons (v_ixl c_286.h rfl (val_var rfl) val_c) va_nil)))) ?_
              have gL298 : ∀ l ∈ [], H l = none ∨ l ∈ [] := LM0
              refine ⟨S_288, _, _, _, _, _, _, _, _, rfl, g.sh, sc_i, sc_i, r182, r293, (OP.of h).mono fun v294 h S_295 H_296 gc297 => ?_⟩
              replace c_286 := c_286.call gc297 NM0
              replace r3 := RdL.mono gc297.ss r3
              replace r36 := Rep.mono _ gc297.ss r36
              replace r182 := Rep.mono _ gc297.ss r182
              replace r291 := Rep.mono _ gc297.ss r291
              replace r293 := Rep.mono _ gc297.ss r293
              replace g := g.call gc297 gL298
              refine c_val (v_o2 (val_var rfl) val_c) ?_
              refine e_neB ?_
              refine ⟨_, rfl, ?_⟩
              refine ifb (fun hc => ?_) (fun hc => ?_)
              · replace h := OP.ite1 hc h
                refine z_ret val_c ?_
                have h := OP.fin hA h
                exact h _ _ g
              · replace h := OP.ite0 hc h
                refine z_nextR ?_
                refine z_ifE ?_
                obtain ⟨B299, h, hB300⟩ := OP.cut h
                refine c_cutT (fun b H' => ∃ (S_303 : Hp), Grow [] S H S_303 H' ∧ Same S_295 S_303 ∧ Cel [] H S_303 H' p52 (.lst [(.int many5), (.int starts11), v181, (.ref p43)]) ∧ B299 b) (fun q301 hq302 => ?_) ?_
                · have sn306 := Same.refl S_295
                  refine c_and ?_
                  refine c_ans (v_test (v_o2 (val_var rfl) val_c)) ?_
                  refine ifb (fun hc => ?_) (fun hc => ?_)
                  · replace h := OP.ite1 hc h
                    refine c_not ?_
                    refine c_B ?_
                    refine c_call ?_
                    have r307 := (dv_li r291)
                    refine c_args (va_cons (v_ixl c_286.h rfl (val_var rfl) val_c) (va_cons (v_ixl c_286.h rfl (val_var rfl) val_c) (va_cons (v_ixl c_286.h rfl (val_var rfl) val_c) (va_cons (v_ixl c_286.h rfl (val_var rfl) val_c) va_nil)))) ?_
                    have gL312 : ∀ l ∈ [], H l = none ∨ l ∈ [] := LM0
                    refine ⟨S_295, _, _, _, _, _, _, _, _, rfl, g.sh, sc_i, sc_i, r182, r307, (OP.of h).mono fun v308 h S_309 H_310 gc311 => ?_⟩
                    replace c_286 := c_286.call gc311 NM0
                    replace r3 := RdL.mono gc311.ss r3
                    replace r36 := Rep.mono _ gc311.ss r36
                    replace r182 := Rep.mono _ gc311.ss r182
                    replace r291 := Rep.mono _ gc311.ss r291
                    replace r307 := Rep.mono _ gc311.ss r307
                    replace sn306 := sn306.trans gc311.ss
                    replace g := g.call gc311 gL312
                    refine ⟨_, rfl, ?_⟩
                    exact hq302 _ _ ⟨_, g, sn306, c_286, h⟩
                  · replace h := OP.ite0 hc h
                    exact hq302 _ _ ⟨_, g, sn306, c_286, h⟩
                intro b313 H_304 p
                obtain ⟨S_303, gN, eS305, c_286N, h⟩ := p
                replace g := gN
                replace c_286 := c_286N
                replace r3 := RdL.mono eS305 r3
                replace r36 := Rep.mono _ eS305 r36
                replace r182 := Rep.mono _ eS305 r182
                replace r291 := Rep.mono _ eS305 r291
                replace h := hB300 _ h
                refine ifb (fun hc => ?_) (fun hc => ?_)
                · replace h := OP.ite1 hc h
                  refine z_ret val_c ?_
                  have h := OP.fin hA h
                  exact h _ _ g
                · replace h := OP.ite0 hc h
                  refine z_nextR ?_
                  refine z_ifE ?_
                  refine c_B ?_
                  refine c_call ?_
                  refine c_cons ?_
                  refine c_val (val_var rfl) ?_
                  refine c_cons ?_
                  refine c_val (val_var rfl) ?_
                  refine c_cons ?_
                  refine c_val (val_var rfl) ?_
                  refine c_cons ?_
                  refine c_cbE fun Q_314 hQ_314 => ?_
                  refine c_args (va_cons (val_var rfl) va_nil) ?_
                  refine (l_list (Q := Q_314) (LS.ofL g.sh r36) fun p315 ws316 H_317 e318 np319 ep320 rw321 => ?_)
                  refine q_eq hQ_314 ?_
                  have ne324 := c_286.ne np319
                  have z323 := g.hnone np319
                  have c_322 : Cel [] H S_303 H_317 p315 (.lst ws316) := Cel.own g e318 np319 ep320 rfl
                  replace c_286 := c_286.ext e318
                  replace g := g.ext e318
                  refine c_nil ?_
                  obtain ⟨S_325, g326, eS327, r328, ot329⟩ := c_freeze g c_322 z323 rw321
                  replace c_286 := ot329 _ _ (by first | assumption | exact Ne.symm (by assumption)) c_286
                  replace r3 := RdL.mono eS327 r3
                  replace r36 := Rep.mono _ eS327 r36
                  replace r182 := Rep.mono _ eS327 r182
                  replace r291 := Rep.mono _ eS327 r291
                  replace rw321 := RL.mono eS327 rw321
                  replace g := g326
                  have r330 := (dv_li r328)
                  have gL335 : ∀ l ∈ [], H l = none ∨ l ∈ [] := LM0
                  refine ⟨S_325, _, _, _, _, _, _, _, _, rfl, g.sh, sc_i, sc_i, sc_i, r330, (OP.of h).mono fun v331 h S_332 H_333 gc334 => ?_⟩
                  replace c_286 := c_286.call gc334 NM0
                  replace r3 := RdL.mono gc334.ss r3
                  replace r36 := Rep.mono _ gc334.ss r36
                  replace r182 := Rep.mono _ gc334.ss r182
                  replace r291 := Rep.mono _ gc334.ss r291
                  replace r330 := Rep.mono _ gc334.ss r330
                  replace g := g.call gc334 gL335
                  refine ⟨_, rfl, ?_⟩
                  refine ifb (fun hc => ?_) (fun hc => ?_)
                  · replace h := OP.ite1 hc h
                    refine z_ret val_c ?_
                    have h := OP.fin hA h
                    exact h _ _ g
                  · replace h := OP.ite0 hc h
                    refine z_nextR ?_
                    refine z_setE ?_
                    refine c_make ?_
                    refine c_cons ?_
                    refine c_val (val_var rfl) ?_
                    refine c_cons ?_
                    refine c_val (val_var rfl) ?_
                    refine c_cons ?_
                    refine c_val (val_var rfl) ?_
                    refine c_cons ?_
                    refine c_cbE fun Q_336 hQ_336 => ?_
                    refine c_args (va_cons (val_var rfl) va_nil) ?_
                    refine (l_list (Q := Q_336) (LS.ofL g.sh r36) fun p337 ws338 H_339 e340 np341 ep342 rw343 => ?_)
                    refine q_eq hQ_336 ?_
                    have ne346 := c_286.ne np341
                    have z345 := g.hnone np341
                    have c_344 : Cel [] H S_332 H_339 p337 (.lst ws338) := Cel.own g e340 np341 ep342 rfl
                    replace c_286 := c_286.ext e340
                    replace g := g.ext e340
                    refine c_nil ?_
                    refine make_in fun p347 dx348 H_349 e350 np351 ep352 => ?_
                    have ne356 := c_286.ne np351
                    have ne357 := c_344.ne np351
                    have z355 := g.hnone np351
                    have c_354 : Cel [] H S_332 H_349 p347 (.ins T.c.Chart dx348 []) := Cel.own g e350 np351 ep352 rfl
                    replace c_286 := c_286.ext e350
                    replace c_344 := c_344.ext e350
                    replace g := g.ext e350
                    obtain ⟨S_358, g359, eS360, r361, ot362⟩ := c_freeze g c_344 z345 rw343
                    replace c_286 := ot362 _ _ (by first | assumption | exact Ne.symm (by assumption)) c_286
                    replace c_354 := ot362 _ _ (by first | assumption | exact Ne.symm (by assumption)) c_354
                    replace r3 := RdL.mono eS360 r3
                    replace r36 := Rep.mono _ eS360 r36
                    replace r182 := Rep.mono _ eS360 r182
                    replace r291 := Rep.mono _ eS360 r291
                    replace rw343 := RL.mono eS360 rw343
                    replace g := g359
                    have r363 := (dv_li r361)
                    have gL368 : ∀ l ∈ [p347], H l = none ∨ l ∈ [] := (LM1 c_354.z LM0)
                    refine ⟨S_358, _, _, _, _, _, _, _, _, _, _, rfl, g.sh, c_354.h, c_354.s, sc_i, sc_i, sc_i, r363, (OP.of h).mono fun v364 h => ?_⟩
                    refine EXP.sp h (fun _ _ h => (show OP none _ from h).elim) (fun v370 _ h S_371 H_372 w_374 w_376 gc373 hp378 r375 r377 => ?_)
                    replace c_286 := c_286.call gc373 (NM1 (by first | assumption | exact Ne.symm (by assumption)) NM0)
                    replace r3 := RdL.mono gc373.ss r3
                    replace r36 := Rep.mono _ gc373.ss r36
                    replace r182 := Rep.mono _ gc373.ss r182
                    replace r291 := Rep.mono _ gc373.ss r291
                    replace r363 := Rep.mono _ gc373.ss r363
                    replace c_354 := c_354.mut gc373 hp378 rfl
                    replace g := g.call gc373 gL368
                    refine ⟨rfl, ?_⟩
                    obtain ⟨S_379, g380, eS381, r382, ot383⟩ := fz_Chart (c := T.c) g c_354 z355 (x := v370) rfl rfl rfl r375 r377
                    replace c_286 := ot383 _ _ (by first | assumption | exact Ne.symm (by assumption)) c_286
                    replace r3 := RdL.mono eS381 r3
                    replace r36 := Rep.mono _ eS381 r36
                    replace r182 := Rep.mono _ eS381 r182
                    replace r291 := Rep.mono _ eS381 r291
                    replace r363 := Rep.mono _ eS381 r363
                    replace r375 := Rep.mono _ eS381 r375
                    replace r377 := Rep.mono _ eS381 r377
                    replace g := g380
                    refine g_name (σ' := [some v2, some (.int many5), some (.int size7), some (.int starts11), some (.int bads15), some (.ref p24), some (.int kind39), some (.int v40), some (.ref p52), some (.ref p347), none]) rfl ?_
                    refine z_ret (v_and (v_eqI (vf_Chart_many T (val_var rfl) (Rep.mono _ g.sh r382)) (val_var rfl)) (v_and (v_eqI (vf_Chart_starts T (val_var rfl) (Rep.mono _ g.sh r382)) (val_var rfl)) (v_eqI (vf_Chart_bads T (val_var rfl) (Rep.mono _ g.sh r382)) (val_var rfl)))) ?_
                    have h := OP.fin hA h
                    exact h _ _ g
        · replace h := OP.ite0 hc h
          exact h.elim
    · replace h := OP.ite0 hc h
      refine z_nextR ?_
      refine z_if (v_test (v_eqI (val_var rfl) val_c)) (fun hc => ?_) (fun hc => ?_)
      · replace h := OP.ite1 hc h
        refine z_asgE ?_
        refine c_call ?_
        obtain ⟨g384, h⟩ := OP.grd h
        refine c_args (va_cons (v_o2 (v_o2c (v_o2c (v_o2c (val_var rfl) val_c ⟨by decide, by decide⟩) (val_var rfl) (gDivW.ok g384)) val_c (.inr ⟨by decide, by decide⟩)) (v_o2c (val_var rfl) val_c (show (0 : Int) < 4 by decide))) (va_cons (val_var rfl) va_nil)) ?_
        have gL391 : ∀ l ∈ [], H l = none ∨ l ∈ [] := LM0
        refine ⟨S_33, _, _, rfl, g.sh, (OP.of h).mono fun v385 h S_386 H_387 v389 gc388 r390 => ?_⟩
        replace c_57 := c_57.call gc388 NM0
        replace c_50 := c_50.call gc388 NM0
        replace r3 := RdL.mono gc388.ss r3
        replace r36 := Rep.mono _ gc388.ss r36
        replace rw49 := RL.mono gc388.ss rw49
        replace g := g.call gc388 gL391
        obtain ⟨g392, h⟩ := OP.grd h
        obtain ⟨l393, el393, h⟩ := OP.bind h
        refine c_setL g c_50 (scl_i rw49) r390 (v_ixl c_57.h rfl (val_var rfl) val_c) (v_o2c (v_o2c (val_var rfl) val_c ⟨by decide, by decide⟩) (val_var rfl) g392) el393 fun ws394 H_395 g396 c_397 w_398 ot399 => ?_
        replace c_57 := ot399 _ _ (by first | assumption | exact Ne.symm (by assumption)) c_57
        replace g := g396
        refine z_nextR ?_
        refine z_if (v_test (v_eqI (val_var rfl) val_c)) (fun hc => ?_) (fun hc => ?_)
        · replace h := OP.ite1 hc h
          exact h.elim
        · replace h := OP.ite0 hc h
          refine z_nextR ?_
          refine z_ifE ?_
          refine c_test ?_
          refine c_op ?_
          refine c_call ?_
          obtain ⟨S_400, g401, eS402, r403, ot404⟩ := c_freeze g c_397 z51 w_398
          replace c_57 := ot404 _ _ (by first | assumption | exact Ne.symm (by assumption)) c_57
          replace r3 := RdL.mono eS402 r3
          replace r36 := Rep.mono _ eS402 r36
          replace w_398 := RL.mono eS402 w_398
          replace g := g401
          have r405 := (dv_l r403)
          refine c_args (va_cons (v_ixl c_57.h rfl (val_var rfl) val_c) (va_cons (v_ixl c_57.h rfl (val_var rfl) val_c) (va_cons (v_ixl c_57.h rfl (val_var rfl) val_c) (va_cons (v_ixl c_57.h rfl (val_var rfl) val_c) va_nil)))) ?_
          have gL410 : ∀ l ∈ [], H l = none ∨ l ∈ [] := LM0
          refine ⟨S_400, _, _, _, _, _, _, _, _, rfl, g.sh, sc_i, sc_i, sc_i, r405, (OP.of h).mono fun v406 h S_407 H_408 gc409 => ?_⟩
          replace c_57 := c_57.call gc409 NM0
          replace r3 := RdL.mono gc409.ss r3
          replace r36 := Rep.mono _ gc409.ss r36
          replace r403 := Rep.mono _ gc409.ss r403
          replace r405 := Rep.mono _ gc409.ss r405
          replace g := g.call gc409 gL410
          refine c_val (v_o2 (val_var rfl) val_c) ?_
          refine e_neB ?_
          refine ⟨_, rfl, ?_⟩
          refine ifb (fun hc => ?_) (fun hc => ?_)
          · replace h := OP.ite1 hc h
            refine z_ret val_c ?_
            have h := OP.fin hA h
            exact h _ _ g
          · replace h := OP.ite0 hc h
            refine z_nextR ?_
            refine z_ifE ?_
            obtain ⟨B411, h, hB412⟩ := OP.cut h
            refine c_cutT (fun b H' => ∃ (S_415 : Hp), Grow [] S H S_415 H' ∧ Same S_407 S_415 ∧ Cel [] H S_415 H' p52 (.lst [(.int many5), (.int starts11), (.int bads15), (.ref p43)]) ∧ B411 b) (fun q413 hq414 => ?_) ?_
            · have sn418 := Same.refl S_407
              refine c_and ?_
              refine c_ans (v_test (v_o2 (val_var rfl) val_c)) ?_
              refine ifb (fun hc => ?_) (fun hc => ?_)
              · replace h := OP.ite1 hc h
                refine c_not ?_
                refine c_B ?_
                refine c_call ?_
                have r419 := (dv_l r403)
                refine c_args (va_cons (v_ixl c_57.h rfl (val_var rfl) val_c) (va_cons (v_ixl c_57.h rfl (val_var rfl) val_c) (va_cons (v_ixl c_57.h rfl (val_var rfl) val_c) (va_cons (v_ixl c_57.h rfl (val_var rfl) val_c) va_nil)))) ?_
                have gL424 : ∀ l ∈ [], H l = none ∨ l ∈ [] := LM0
                refine ⟨S_407, _, _, _, _, _, _, _, _, rfl, g.sh, sc_i, sc_i, sc_i, r419, (OP.of h).mono fun v420 h S_421 H_422 gc423 => ?_⟩
                replace c_57 := c_57.call gc423 NM0
                replace r3 := RdL.mono gc423.ss r3
                replace r36 := Rep.mono _ gc423.ss r36
                replace r403 := Rep.mono _ gc423.ss r403
                replace r419 := Rep.mono _ gc423.ss r419
                replace sn418 := sn418.trans gc423.ss
                replace g := g.call gc423 gL424
                refine ⟨_, rfl, ?_⟩
                exact hq414 _ _ ⟨_, g, sn418, c_57, h⟩
              · replace h := OP.ite0 hc h
                exact hq414 _ _ ⟨_, g, sn418, c_57, h⟩
            intro b425 H_416 p
            obtain ⟨S_415, gN, eS417, c_57N, h⟩ := p
            replace g := gN
            replace c_57 := c_57N
            replace r3 := RdL.mono eS417 r3
            replace r36 := Rep.mono _ eS417 r36
            replace r403 := Rep.mono _ eS417 r403
            replace h := hB412 _ h
            refine ifb (fun hc => ?_) (fun hc => ?_)
            · replace h := OP.ite1 hc h
              refine z_ret val_c ?_
              have h := OP.fin hA h
              exact h _ _ g
            · replace h := OP.ite0 hc h
              refine z_nextR ?_
              refine z_ifE ?_
              refine c_B ?_
              refine c_call ?_
              refine c_cons ?_
              refine c_val (val_var rfl) ?_
              refine c_cons ?_
              refine c_val (val_var rfl) ?_
              refine c_cons ?_
              refine c_val (val_var rfl) ?_
              refine c_cons ?_
              refine c_cbE fun Q_426 hQ_426 => ?_
              refine c_args (va_cons (val_var rfl) va_nil) ?_
              refine (l_list (Q := Q_426) (LS.ofL g.sh r36) fun p427 ws428 H_429 e430 np431 ep432 rw433 => ?_)
              refine q_eq hQ_426 ?_
              have ne436 := c_57.ne np431
              have z435 := g.hnone np431
              have c_434 : Cel [] H S_415 H_429 p427 (.lst ws428) := Cel.own g e430 np431 ep432 rfl
              replace c_57 := c_57.ext e430
              replace g := g.ext e430
              refine c_nil ?_
              obtain ⟨S_437, g438, eS439, r440, ot441⟩ := c_freeze g c_434 z435 rw433
              replace c_57 := ot441 _ _ (by first | assumption | exact Ne.symm (by assumption)) c_57
              replace r3 := RdL.mono eS439 r3
              replace r36 := Rep.mono _ eS439 r36
              replace r403 := Rep.mono _ eS439 r403
              replace rw433 := RL.mono eS439 rw433
              replace g := g438
              have r442 := (dv_li r440)
              have gL447 : ∀ l ∈ [], H l = none ∨ l ∈ [] := LM0
              refine ⟨S_437, _, _, _, _, _, _, _, _, rfl, g.sh, sc_i, sc_i, sc_i, r442, (OP.of h).mono fun v443 h S_444 H_445 gc446 => ?_⟩
              replace c_57 := c_57.call gc446 NM0
              replace r3 := RdL.mono gc446.ss r3
              replace r36 := Rep.mono _ gc446.ss r36
              replace r403 := Rep.mono _ gc446.ss r403
              replace r442 := Rep.mono _ gc446.ss r442
              replace g := g.call gc446 gL447
              refine ⟨_, rfl, ?_⟩
              refine ifb (fun hc => ?_) (fun hc => ?_)
              · replace h := OP.ite1 hc h
                refine z_ret val_c ?_
                have h := OP.fin hA h
                exact h _ _ g
              · replace h := OP.ite0 hc h
                refine z_nextR ?_
                refine z_setE ?_
                refine c_make ?_
                refine c_cons ?_
                refine c_val (val_var rfl) ?_
                refine c_cons ?_
                refine c_val (val_var rfl) ?_
                refine c_cons ?_
                refine c_val (val_var rfl) ?_
                refine c_cons ?_
                refine c_cbE fun Q_448 hQ_448 => ?_
                refine c_args (va_cons (val_var rfl) va_nil) ?_
                refine (l_list (Q := Q_448) (LS.ofL g.sh r36) fun p449 ws450 H_451 e452 np453 ep454 rw455 => ?_)
                refine q_eq hQ_448 ?_
                have ne458 := c_57.ne np453
                have z457 := g.hnone np453
                have c_456 : Cel [] H S_444 H_451 p449 (.lst ws450) := Cel.own g e452 np453 ep454 rfl
                replace c_57 := c_57.ext e452
                replace g := g.ext e452
                refine c_nil ?_
                refine make_in fun p459 dx460 H_461 e462 np463 ep464 => ?_
                have ne468 := c_57.ne np463
                have ne469 := c_456.ne np463
                have z467 := g.hnone np463
                have c_466 : Cel [] H S_444 H_461 p459 (.ins T.c.Chart dx460 []) := Cel.own g e462 np463 ep464 rfl
                replace c_57 := c_57.ext e462
                replace c_456 := c_456.ext e462
                replace g := g.ext e462
                obtain ⟨S_470, g471, eS472, r473, ot474⟩ := c_freeze g c_456 z457 rw455
                replace c_57 := ot474 _ _ (by first | assumption | exact Ne.symm (by assumption)) c_57
                replace c_466 := ot474 _ _ (by first | assumption | exact Ne.symm (by assumption)) c_466
                replace r3 := RdL.mono eS472 r3
                replace r36 := Rep.mono _ eS472 r36
                replace r403 := Rep.mono _ eS472 r403
                replace rw455 := RL.mono eS472 rw455
                replace g := g471
                have r475 := (dv_li r473)
                have gL480 : ∀ l ∈ [p459], H l = none ∨ l ∈ [] := (LM1 c_466.z LM0)
                refine ⟨S_470, _, _, _, _, _, _, _, _, _, _, rfl, g.sh, c_466.h, c_466.s, sc_i, sc_i, sc_i, r475, (OP.of h).mono fun v476 h => ?_⟩
                refine EXP.sp h (fun _ _ h => (show OP none _ from h).elim) (fun v482 _ h S_483 H_484 w_486 w_488 gc485 hp490 r487 r489 => ?_)
                replace c_57 := c_57.call gc485 (NM1 (by first | assumption | exact Ne.symm (by assumption)) NM0)
                replace r3 := RdL.mono gc485.ss r3
                replace r36 := Rep.mono _ gc485.ss r36
                replace r403 := Rep.mono _ gc485.ss r403
                replace r475 := Rep.mono _ gc485.ss r475
                replace c_466 := c_466.mut gc485 hp490 rfl
                replace g := g.call gc485 gL480
                refine ⟨rfl, ?_⟩
                obtain ⟨S_491, g492, eS493, r494, ot495⟩ := fz_Chart (c := T.c) g c_466 z467 (x := v482) rfl rfl rfl r487 r489
                replace c_57 := ot495 _ _ (by first | assumption | exact Ne.symm (by assumption)) c_57
                replace r3 := RdL.mono eS493 r3
                replace r36 := Rep.mono _ eS493 r36
                replace r403 := Rep.mono _ eS493 r403
                replace r475 := Rep.mono _ eS493 r475
                replace r487 := Rep.mono _ eS493 r487
                replace r489 := Rep.mono _ eS493 r489
                replace g := g492
                refine g_name (σ' := [some v2, some (.int many5), some (.int size7), some (.int starts11), some (.int bads15), some (.ref p24), some (.int kind39), some (.int v40), some (.ref p52), some (.ref p459), none]) rfl ?_
                refine z_ret (v_and (v_eqI (vf_Chart_many T (val_var rfl) (Rep.mono _ g.sh r494)) (val_var rfl)) (v_and (v_eqI (vf_Chart_starts T (val_var rfl) (Rep.mono _ g.sh r494)) (val_var rfl)) (v_eqI (vf_Chart_bads T (val_var rfl) (Rep.mono _ g.sh r494)) (val_var rfl)))) ?_
                have h := OP.fin hA h
                exact h _ _ g
      · replace h := OP.ite0 hc h
        refine z_nextR ?_
        refine z_if (v_test (v_eqI (val_var rfl) val_c)) (fun hc => ?_) (fun hc => ?_)
        · replace h := OP.ite1 hc h
          refine z_asgE ?_
          refine c_call ?_
          refine c_args (va_cons (val_var rfl) (va_cons (val_var rfl) va_nil)) ?_
          have gL502 : ∀ l ∈ [], H l = none ∨ l ∈ [] := LM0
          refine ⟨S_33, _, _, _, rfl, g.sh, (RdL.ofL g.sh r36 LM0), (OP.of h).mono fun v496 h S_497 H_498 v500 gc499 r501 => ?_⟩
          replace c_57 := c_57.call gc499 NM0
          replace c_50 := c_50.call gc499 NM0
          replace r3 := RdL.mono gc499.ss r3
          replace r36 := Rep.mono _ gc499.ss r36
          replace rw49 := RL.mono gc499.ss rw49
          replace g := g.call gc499 gL502
          refine c_setR (j := 3) (ws' := [(.int many5), (.int starts11), (.int bads15), v500]) g c_57 (val_var rfl) val_c rfl rfl fun H_503 g504 c_505 ot506 => ?_
          replace c_50 := ot506 _ _ (by first | assumption | exact Ne.symm (by assumption)) c_50
          replace g := g504
          refine z_nextR ?_
          refine z_ifE ?_
          refine c_test ?_
          refine c_op ?_
          refine c_call ?_
          refine c_args (va_cons (v_ixl c_505.h rfl (val_var rfl) val_c) (va_cons (v_ixl c_505.h rfl (val_var rfl) val_c) (va_cons (v_ixl c_505.h rfl (val_var rfl) val_c) (va_cons (v_ixl c_505.h rfl (val_var rfl) val_c) va_nil)))) ?_
          have gL511 : ∀ l ∈ [], H l = none ∨ l ∈ [] := LM0
          refine ⟨S_497, _, _, _, _, _, _, _, _, rfl, g.sh, sc_i, sc_i, sc_i, r501, (OP.of h).mono fun v507 h S_508 H_509 gc510 => ?_⟩
          replace c_505 := c_505.call gc510 NM0
          replace r3 := RdL.mono gc510.ss r3
          replace r36 := Rep.mono _ gc510.ss r36
          replace r501 := Rep.mono _ gc510.ss r501
          replace g := g.call gc510 gL511
          refine c_val (v_o2 (val_var rfl) val_c) ?_
          refine e_neB ?_
          refine ⟨_, rfl, ?_⟩
          refine ifb (fun hc => ?_) (fun hc => ?_)
          · replace h := OP.ite1 hc h
            refine z_ret val_c ?_
            have h := OP.fin hA h
            exact h _ _ g
          · replace h := OP.ite0 hc h
            refine z_nextR ?_
            refine z_ifE ?_
            obtain ⟨B512, h, hB513⟩ := OP.cut h
            refine c_cutT (fun b H' => ∃ (S_516 : Hp), Grow [] S H S_516 H' ∧ Same S_508 S_516 ∧ Cel [] H S_516 H' p52 (.lst [(.int many5), (.int starts11), (.int bads15), v500]) ∧ B512 b) (fun q514 hq515 => ?_) ?_
            · have sn519 := Same.refl S_508
              refine c_and ?_
              refine c_ans (v_test (v_o2 (val_var rfl) val_c)) ?_
              refine ifb (fun hc => ?_) (fun hc => ?_)
              · replace h := OP.ite1 hc h
                refine c_not ?_
                refine c_B ?_
                refine c_call ?_
                refine c_args (va_cons (v_ixl c_505.h rfl (val_var rfl) val_c) (va_cons (v_ixl c_505.h rfl (val_var rfl) val_c) (va_cons (v_ixl c_505.h rfl (val_var rfl) val_c) (va_cons (v_ixl c_505.h rfl (val_var rfl) val_c) va_nil)))) ?_
                have gL524 : ∀ l ∈ [], H l = none ∨ l ∈ [] := LM0
                refine ⟨S_508, _, _, _, _, _, _, _, _, rfl, g.sh, sc_i, sc_i, sc_i, r501, (OP.of h).mono fun v520 h S_521 H_522 gc523 => ?_⟩
                replace c_505 := c_505.call gc523 NM0
                replace r3 := RdL.mono gc523.ss r3
                replace r36 := Rep.mono _ gc523.ss r36
                replace r501 := Rep.mono _ gc523.ss r501
                replace sn519 := sn519.trans gc523.ss
                replace g := g.call gc523 gL524
                refine ⟨_, rfl, ?_⟩
                exact hq515 _ _ ⟨_, g, sn519, c_505, h⟩
              · replace h := OP.ite0 hc h
                exact hq515 _ _ ⟨_, g, sn519, c_505, h⟩
            intro b525 H_517 p
            obtain ⟨S_516, gN, eS518, c_505N, h⟩ := p
            replace g := gN
            replace c_505 := c_505N
            replace r3 := RdL.mono eS518 r3
            replace r36 := Rep.mono _ eS518 r36
            replace r501 := Rep.mono _ eS518 r501
            replace h := hB513 _ h
            refine ifb (fun hc => ?_) (fun hc => ?_)
            · replace h := OP.ite1 hc h
              refine z_ret val_c ?_
              have h := OP.fin hA h
              exact h _ _ g
            · replace h := OP.ite0 hc h
              refine z_nextR ?_
              refine z_ifE ?_
              refine c_B ?_
              refine c_call ?_
              refine c_cons ?_
              refine c_val (val_var rfl) ?_
              refine c_cons ?_
              refine c_val (val_var rfl) ?_
              refine c_cons ?_
              refine c_val (val_var rfl) ?_
              refine c_cons ?_
              refine c_cbE fun Q_526 hQ_526 => ?_
              refine c_args (va_cons (val_var rfl) va_nil) ?_
              refine (l_list (Q := Q_526) (LS.ofL g.sh r36) fun p527 ws528 H_529 e530 np531 ep532 rw533 => ?_)
              refine q_eq hQ_526 ?_
              have ne536 := c_505.ne np531
              have z535 := g.hnone np531
              have c_534 : Cel [] H S_516 H_529 p527 (.lst ws528) := Cel.own g e530 np531 ep532 rfl
              replace c_505 := c_505.ext e530
              replace g := g.ext e530
              refine c_nil ?_
              obtain ⟨S_537, g538, eS539, r540, ot541⟩ := c_freeze g c_534 z535 rw533
              replace c_505 := ot541 _ _ (by first | assumption | exact Ne.symm (by assumption)) c_505
              replace r3 := RdL.mono eS539 r3
              replace r36 := Rep.mono _ eS539 r36
              replace r501 := Rep.mono _ eS539 r501
              replace rw533 := RL.mono eS539 rw533
              replace g := g538
              have r542 := (dv_li r540)
              have gL547 : ∀ l ∈ [], H l = none ∨ l ∈ [] := LM0
              refine ⟨S_537, _, _, _, _, _, _, _, _, rfl, g.sh, sc_i, sc_i, sc_i, r542, (OP.of h).mono fun v543 h S_544 H_545 gc546 => ?_⟩
              replace c_505 := c_505.call gc546 NM0
              replace r3 := RdL.mono gc546.ss r3
              replace r36 := Rep.mono _ gc546.ss r36
              replace r501 := Rep.mono _ gc546.ss r501
              replace r542 := Rep.mono _ gc546.ss r542
              replace g := g.call gc546 gL547
              refine ⟨_, rfl, ?_⟩
              refine ifb (fun hc => ?_) (fun hc => ?_)
              · replace h := OP.ite1 hc h
                refine z_ret val_c ?_
                have h := OP.fin hA h
                exact h _ _ g
              · replace h := OP.ite0 hc h
                refine z_nextR ?_
                refine z_setE ?_
                refine c_make ?_
                refine c_cons ?_
                refine c_val (val_var rfl) ?_
                refine c_cons ?_
                refine c_val (val_var rfl) ?_
                refine c_cons ?_
                refine c_val (val_var rfl) ?_
                refine c_cons ?_
                refine c_cbE fun Q_548 hQ_548 => ?_
                refine c_args (va_cons (val_var rfl) va_nil) ?_
                refine (l_list (Q := Q_548) (LS.ofL g.sh r36) fun p549 ws550 H_551 e552 np553 ep554 rw555 => ?_)
                refine q_eq hQ_548 ?_
                have ne558 := c_505.ne np553
                have z557 := g.hnone np553
                have c_556 : Cel [] H S_544 H_551 p549 (.lst ws550) := Cel.own g e552 np553 ep554 rfl
                replace c_505 := c_505.ext e552
                replace g := g.ext e552
                refine c_nil ?_
                refine make_in fun p559 dx560 H_561 e562 np563 ep564 => ?_
                have ne568 := c_505.ne np563
                have ne569 := c_556.ne np563
                have z567 := g.hnone np563
                have c_566 : Cel [] H S_544 H_561 p559 (.ins T.c.Chart dx560 []) := Cel.own g e562 np563 ep564 rfl
                replace c_505 := c_505.ext e562
                replace c_556 := c_556.ext e562
                replace g := g.ext e562
                obtain ⟨S_570, g571, eS572, r573, ot574⟩ := c_freeze g c_556 z557 rw555
                replace c_505 := ot574 _ _ (by first | assumption | exact Ne.symm (by assumption)) c_505
                replace c_566 := ot574 _ _ (by first | assumption | exact Ne.symm (by assumption)) c_566
                replace r3 := RdL.mono eS572 r3
                replace r36 := Rep.mono _ eS572 r36
                replace r501 := Rep.mono _ eS572 r501
                replace rw555 := RL.mono eS572 rw555
                replace g := g571
                have r575 := (dv_li r573)
                have gL580 : ∀ l ∈ [p559], H l = none ∨ l ∈ [] := (LM1 c_566.z LM0)
                refine ⟨S_570, _, _, _, _, _, _, _, _, _, _, rfl, g.sh, c_566.h, c_566.s, sc_i, sc_i, sc_i, r575, (OP.of h).mono fun v576 h => ?_⟩
                refine EXP.sp h (fun _ _ h => (show OP none _ from h).elim) (fun v582 _ h S_583 H_584 w_586 w_588 gc585 hp590 r587 r589 => ?_)
                replace c_505 := c_505.call gc585 (NM1 (by first | assumption | exact Ne.symm (by assumption)) NM0)
                replace r3 := RdL.mono gc585.ss r3
                replace r36 := Rep.mono _ gc585.ss r36
                replace r501 := Rep.mono _ gc585.ss r501
                replace r575 := Rep.mono _ gc585.ss r575
                replace c_566 := c_566.mut gc585 hp590 rfl
                replace g := g.call gc585 gL580
                refine ⟨rfl, ?_⟩
                obtain ⟨S_591, g592, eS593, r594, ot595⟩ := fz_Chart (c := T.c) g c_566 z567 (x := v582) rfl rfl rfl r587 r589
                replace c_505 := ot595 _ _ (by first | assumption | exact Ne.symm (by assumption)) c_505
                replace r3 := RdL.mono eS593 r3
                replace r36 := Rep.mono _ eS593 r36
                replace r501 := Rep.mono _ eS593 r501
                replace r575 := Rep.mono _ eS593 r575
                replace r587 := Rep.mono _ eS593 r587
                replace r589 := Rep.mono _ eS593 r589
                replace g := g592
                refine g_name (σ' := [some v2, some (.int many5), some (.int size7), some (.int starts11), some (.int bads15), some (.ref p24), some (.int kind39), some (.int v40), some (.ref p52), some (.ref p559), none]) rfl ?_
                refine z_ret (v_and (v_eqI (vf_Chart_many T (val_var rfl) (Rep.mono _ g.sh r594)) (val_var rfl)) (v_and (v_eqI (vf_Chart_starts T (val_var rfl) (Rep.mono _ g.sh r594)) (val_var rfl)) (v_eqI (vf_Chart_bads T (val_var rfl) (Rep.mono _ g.sh r594)) (val_var rfl)))) ?_
                have h := OP.fin hA h
                exact h _ _ g
        · replace h := OP.ite0 hc h
          refine z_nextR ?_
          refine z_ifE ?_
          refine c_test ?_
          refine c_op ?_
          refine c_call ?_
          obtain ⟨S_596, g597, eS598, r599, ot600⟩ := c_freeze g c_50 z51 rw49
          replace c_57 := ot600 _ _ (by first | assumption | exact Ne.symm (by assumption)) c_57
          replace r3 := RdL.mono eS598 r3
          replace r36 := Rep.mono _ eS598 r36
          replace rw49 := RL.mono eS598 rw49
          replace g := g597
          have r601 := (dv_li r599)
          refine c_args (va_cons (v_ixl c_57.h rfl (val_var rfl) val_c) (va_cons (v_ixl c_57.h rfl (val_var rfl) val_c) (va_cons (v_ixl c_57.h rfl (val_var rfl) val_c) (va_cons (v_ixl c_57.h rfl (val_var rfl) val_c) va_nil)))) ?_
          have gL606 : ∀ l ∈ [], H l = none ∨ l ∈ [] := LM0
          refine ⟨S_596, _, _, _, _, _, _, _, _, rfl, g.sh, sc_i, sc_i, sc_i, r601, (OP.of h).mono fun v602 h S_603 H_604 gc605 => ?_⟩
          replace c_57 := c_57.call gc605 NM0
          replace r3 := RdL.mono gc605.ss r3
          replace r36 := Rep.mono _ gc605.ss r36
          replace r599 := Rep.mono _ gc605.ss r599
          replace r601 := Rep.mono _ gc605.ss r601
          replace g := g.call gc605 gL606
          refine c_val (v_o2 (val_var rfl) val_c) ?_
          refine e_neB ?_
          refine ⟨_, rfl, ?_⟩
          refine ifb (fun hc => ?_) (fun hc => ?_)
          · replace h := OP.ite1 hc h
            refine z_ret val_c ?_
            have h := OP.fin hA h
            exact h _ _ g
          · replace h := OP.ite0 hc h
            refine z_nextR ?_
            refine z_ifE ?_
            obtain ⟨B607, h, hB608⟩ := OP.cut h
            refine c_cutT (fun b H' => ∃ (S_611 : Hp), Grow [] S H S_611 H' ∧ Same S_603 S_611 ∧ Cel [] H S_611 H' p52 (.lst [(.int many5), (.int starts11), (.int bads15), (.ref p43)]) ∧ B607 b) (fun q609 hq610 => ?_) ?_
            · have sn614 := Same.refl S_603
              refine c_and ?_
              refine c_ans (v_test (v_o2 (val_var rfl) val_c)) ?_
              refine ifb (fun hc => ?_) (fun hc => ?_)
              · replace h := OP.ite1 hc h
                refine c_not ?_
                refine c_B ?_
                refine c_call ?_
                have r615 := (dv_li r599)
                refine c_args (va_cons (v_ixl c_57.h rfl (val_var rfl) val_c) (va_cons (v_ixl c_57.h rfl (val_var rfl) val_c) (va_cons (v_ixl c_57.h rfl (val_var rfl) val_c) (va_cons (v_ixl c_57.h rfl (val_var rfl) val_c) va_nil)))) ?_
                have gL620 : ∀ l ∈ [], H l = none ∨ l ∈ [] := LM0
                refine ⟨S_603, _, _, _, _, _, _, _, _, rfl, g.sh, sc_i, sc_i, sc_i, r615, (OP.of h).mono fun v616 h S_617 H_618 gc619 => ?_⟩
                replace c_57 := c_57.call gc619 NM0
                replace r3 := RdL.mono gc619.ss r3
                replace r36 := Rep.mono _ gc619.ss r36
                replace r599 := Rep.mono _ gc619.ss r599
                replace r615 := Rep.mono _ gc619.ss r615
                replace sn614 := sn614.trans gc619.ss
                replace g := g.call gc619 gL620
                refine ⟨_, rfl, ?_⟩
                exact hq610 _ _ ⟨_, g, sn614, c_57, h⟩
              · replace h := OP.ite0 hc h
                exact hq610 _ _ ⟨_, g, sn614, c_57, h⟩
            intro b621 H_612 p
            obtain ⟨S_611, gN, eS613, c_57N, h⟩ := p
            replace g := gN
            replace c_57 := c_57N
            replace r3 := RdL.mono eS613 r3
            replace r36 := Rep.mono _ eS613 r36
            replace r599 := Rep.mono _ eS613 r599
            replace h := hB608 _ h
            refine ifb (fun hc => ?_) (fun hc => ?_)
            · replace h := OP.ite1 hc h
              refine z_ret val_c ?_
              have h := OP.fin hA h
              exact h _ _ g
            · replace h := OP.ite0 hc h
              refine z_nextR ?_
              refine z_ifE ?_
              refine c_B ?_
              refine c_call ?_
              refine c_cons ?_
              refine c_val (val_var rfl) ?_
              refine c_cons ?_
              refine c_val (val_var rfl) ?_
              refine c_cons ?_
              refine c_val (val_var rfl) ?_
              refine c_cons ?_
              refine c_cbE fun Q_622 hQ_622 => ?_
              refine c_args (va_cons (val_var rfl) va_nil) ?_
              refine (l_list (Q := Q_622) (LS.ofL g.sh r36) fun p623 ws624 H_625 e626 np627 ep628 rw629 => ?_)
              refine q_eq hQ_622 ?_
              have ne632 := c_57.ne np627
              have z631 := g.hnone np627
              have c_630 : Cel [] H S_611 H_625 p623 (.lst ws624) := Cel.own g e626 np627 ep628 rfl
              replace c_57 := c_57.ext e626
              replace g := g.ext e626
              refine c_nil ?_
              obtain ⟨S_633, g634, eS635, r636, ot637⟩ := c_freeze g c_630 z631 rw629
              replace c_57 := ot637 _ _ (by first | assumption | exact Ne.symm (by assumption)) c_57
              replace r3 := RdL.mono eS635 r3
              replace r36 := Rep.mono _ eS635 r36
              replace r599 := Rep.mono _ eS635 r599
              replace rw629 := RL.mono eS635 rw629
              replace g := g634
              have r638 := (dv_li r636)
              have gL643 : ∀ l ∈ [], H l = none ∨ l ∈ [] := LM0
              refine ⟨S_633, _, _, _, _, _, _, _, _, rfl, g.sh, sc_i, sc_i, sc_i, r638, (OP.of h).mono fun v639 h S_640 H_641 gc642 => ?_⟩
              replace c_57 := c_57.call gc642 NM0
              replace r3 := RdL.mono gc642.ss r3
              replace r36 := Rep.mono _ gc642.ss r36
              replace r599 := Rep.mono _ gc642.ss r599
              replace r638 := Rep.mono _ gc642.ss r638
              replace g := g.call gc642 gL643
              refine ⟨_, rfl, ?_⟩
              refine ifb (fun hc => ?_) (fun hc => ?_)
              · replace h := OP.ite1 hc h
                refine z_ret val_c ?_
                have h := OP.fin hA h
                exact h _ _ g
              · replace h := OP.ite0 hc h
                refine z_nextR ?_
                refine z_setE ?_
                refine c_make ?_
                refine c_cons ?_
                refine c_val (val_var rfl) ?_
                refine c_cons ?_
                refine c_val (val_var rfl) ?_
                refine c_cons ?_
                refine c_val (val_var rfl) ?_
                refine c_cons ?_
                refine c_cbE fun Q_644 hQ_644 => ?_
                refine c_args (va_cons (val_var rfl) va_nil) ?_
                refine (l_list (Q := Q_644) (LS.ofL g.sh r36) fun p645 ws646 H_647 e648 np649 ep650 rw651 => ?_)
                refine q_eq hQ_644 ?_
                have ne654 := c_57.ne np649
                have z653 := g.hnone np649
                have c_652 : Cel [] H S_640 H_647 p645 (.lst ws646) := Cel.own g e648 np649 ep650 rfl
                replace c_57 := c_57.ext e648
                replace g := g.ext e648
                refine c_nil ?_
                refine make_in fun p655 dx656 H_657 e658 np659 ep660 => ?_
                have ne664 := c_57.ne np659
                have ne665 := c_652.ne np659
                have z663 := g.hnone np659
                have c_662 : Cel [] H S_640 H_657 p655 (.ins T.c.Chart dx656 []) := Cel.own g e658 np659 ep660 rfl
                replace c_57 := c_57.ext e658
                replace c_652 := c_652.ext e658
                replace g := g.ext e658
                obtain ⟨S_666, g667, eS668, r669, ot670⟩ := c_freeze g c_652 z653 rw651
                replace c_57 := ot670 _ _ (by first | assumption | exact Ne.symm (by assumption)) c_57
                replace c_662 := ot670 _ _ (by first | assumption | exact Ne.symm (by assumption)) c_662
                replace r3 := RdL.mono eS668 r3
                replace r36 := Rep.mono _ eS668 r36
                replace r599 := Rep.mono _ eS668 r599
                replace rw651 := RL.mono eS668 rw651
                replace g := g667
                have r671 := (dv_li r669)
                have gL676 : ∀ l ∈ [p655], H l = none ∨ l ∈ [] := (LM1 c_662.z LM0)
                refine ⟨S_666, _, _, _, _, _, _, _, _, _, _, rfl, g.sh, c_662.h, c_662.s, sc_i, sc_i, sc_i, r671, (OP.of h).mono fun v672 h => ?_⟩
                refine EXP.sp h (fun _ _ h => (show OP none _ from h).elim) (fun v678 _ h S_679 H_680 w_682 w_684 gc681 hp686 r683 r685 => ?_)
                replace c_57 := c_57.call gc681 (NM1 (by first | assumption | exact Ne.symm (by assumption)) NM0)
                replace r3 := RdL.mono gc681.ss r3
                replace r36 := Rep.mono _ gc681.ss r36
                replace r599 := Rep.mono _ gc681.ss r599
                replace r671 := Rep.mono _ gc681.ss r671
                replace c_662 := c_662.mut gc681 hp686 rfl
                replace g := g.call gc681 gL676
                refine ⟨rfl, ?_⟩
                obtain ⟨S_687, g688, eS689, r690, ot691⟩ := fz_Chart (c := T.c) g c_662 z663 (x := v678) rfl rfl rfl r683 r685
                replace c_57 := ot691 _ _ (by first | assumption | exact Ne.symm (by assumption)) c_57
                replace r3 := RdL.mono eS689 r3
                replace r36 := Rep.mono _ eS689 r36
                replace r599 := Rep.mono _ eS689 r599
                replace r671 := Rep.mono _ eS689 r671
                replace r683 := Rep.mono _ eS689 r683
                replace r685 := Rep.mono _ eS689 r685
                replace g := g688
                refine g_name (σ' := [some v2, some (.int many5), some (.int size7), some (.int starts11), some (.int bads15), some (.ref p24), some (.int kind39), some (.int v40), some (.ref p52), some (.ref p655), none]) rfl ?_
                refine z_ret (v_and (v_eqI (vf_Chart_many T (val_var rfl) (Rep.mono _ g.sh r690)) (val_var rfl)) (v_and (v_eqI (vf_Chart_starts T (val_var rfl) (Rep.mono _ g.sh r690)) (val_var rfl)) (v_eqI (vf_Chart_bads T (val_var rfl) (Rep.mono _ g.sh r690)) (val_var rfl)))) ?_
                have h := OP.fin hA h
                exact h _ _ g
end
end E
namespace B
open PySem Z

/-! ### loops by an invariant -/
theorem forO_rng {σ : Type} {body : Int → σ → Option σ} (I : Nat → σ → Prop) : ∀ (n a : Nat) (s : σ), I a s → (∀ i s, a ≤ i → i < a + n → I i s → ∃ s', body (i : Int) s = some s' ∧ I (i + 1) s') → ∃ s', forO body (rangeI (a : Int) n) s = some s' ∧ I (a + n) s'
  | 0, a, s, h, _ => ⟨s, forO_nil, h⟩
  | n + 1, a, s, h, hs => by
    obtain ⟨s1, e1, h1⟩ := hs a s (Nat.le_refl _) (by omega) h
    obtain ⟨s2, e2, h2⟩ := forO_rng I n (a + 1) s1 h1 fun i s hi hj hI => hs i s (by omega) (by omega) hI
    refine ⟨s2, ?_, by rw [show a + (n + 1) = a + 1 + n by omega]; exact h2⟩
    rw [rangeI_succ, forO_cons, e1]
    show forO body (rangeI ((a : Int) + 1) n) s1 = some s2
    rw [show ((a : Int) + 1) = ((a + 1 : Nat) : Int) by omega]
    exact e2
theorem forR_rng {σ ρ : Type} {body : Int → σ → Option (σ ⊕ ρ)} (I : Nat → σ → Prop) : ∀ (n a : Nat) (s : σ), I a s → (∀ i s, a ≤ i → i < a + n → I i s → ∃ s', body (i : Int) s = some (.inl s') ∧ I (i + 1) s') → ∃ s', forR body (rangeI (a : Int) n) s = some (.inl s') ∧ I (a + n) s'
  | 0, a, s, h, _ => ⟨s, forR_nil, h⟩
  | n + 1, a, s, h, hs => by
    obtain ⟨s1, e1, h1⟩ := hs a s (Nat.le_refl _) (by omega) h
    obtain ⟨s2, e2, h2⟩ := forR_rng I n (a + 1) s1 h1 fun i s hi hj hI => hs i s (by omega) (by omega) hI
    refine ⟨s2, ?_, by rw [show a + (n + 1) = a + 1 + n by omega]; exact h2⟩
    rw [rangeI_succ, forR_cons, e1]
    show forR body (rangeI ((a : Int) + 1) n) s1 = some (.inl s2)
    rw [show ((a : Int) + 1) = ((a + 1 : Nat) : Int) by omega]
    exact e2
/-- over range(n) -/
theorem forO_r0 {σ : Type} {body : Int → σ → Option σ} (I : Nat → σ → Prop) {n : Nat} {s : σ} (h : I 0 s) (hs : ∀ i s, i < n → I i s → ∃ s', body (i : Int) s = some s' ∧ I (i + 1) s') : ∃ s', forO body (rangeI 0 n) s = some s' ∧ I n s' := by
  obtain ⟨s', e, i⟩ := forO_rng I n 0 s h fun i s _ hj hI => hs i s (by omega) hI
  rw [Nat.zero_add] at i
  exact ⟨s', e, i⟩
theorem forR_r0 {σ ρ : Type} {body : Int → σ → Option (σ ⊕ ρ)} (I : Nat → σ → Prop) {n : Nat} {s : σ} (h : I 0 s) (hs : ∀ i s, i < n → I i s → ∃ s', body (i : Int) s = some (.inl s') ∧ I (i + 1) s') : ∃ s', forR body (rangeI 0 n) s = some (.inl s') ∧ I n s' := by
  obtain ⟨s', e, i⟩ := forR_rng I n 0 s h fun i s _ hj hI => hs i s (by omega) hI
  rw [Nat.zero_add] at i
  exact ⟨s', e, i⟩
/-- a search: all turns pass, or the first that does not answers -/
theorem forR_all {ρ : Type} {body : Int → Unit → Option (Unit ⊕ ρ)} {v : ρ} (p : Nat → Bool) : ∀ (n a : Nat), (∀ i, a ≤ i → i < a + n → body (i : Int) () = some (if p i = true then .inl () else .inr v)) →
    forR body (rangeI (a : Int) n) () = some (if (List.range' a n).all p = true then .inl () else .inr v)
  | 0, a, _ => forR_nil
  | n + 1, a, h => by
    rw [rangeI_succ, forR_cons, h a (Nat.le_refl _) (by omega), List.range'_succ, List.all_cons]
    by_cases hp : p a = true
    · rw [if_pos hp, hp, Bool.true_and]
      show forR body (rangeI ((a : Int) + 1) n) () = _
      rw [show ((a : Int) + 1) = ((a + 1 : Nat) : Int) by omega]
      exact forR_all p n (a + 1) fun i h1 h2 => h i (by omega) (by omega)
    · rw [if_neg hp, if_neg]
      · rfl
      · rw [Bool.and_eq_true]; exact fun z => hp z.1
theorem forR_all0 {ρ : Type} {body : Int → Unit → Option (Unit ⊕ ρ)} {v : ρ} (p : Nat → Bool) {n : Nat} (h : ∀ i, i < n → body (i : Int) () = some (if p i = true then .inl () else .inr v)) :
    forR body (rangeI 0 n) () = some (if (List.range n).all p = true then .inl () else .inr v) := by
  have q := forR_all p n 0 fun i _ h2 => h i (by omega)
  rw [List.range_eq_range']
  exact q
theorem bind_eq {α β : Type} {m : Option α} {a : α} {k : α → Option β} (h : m = some a) : m.bind k = k a := by rw [h]; rfl
theorem brk_inl {σ ρ : Type} {m : Option (σ ⊕ ρ)} {s : σ} {k : σ → Option ρ} (h : m = some (.inl s)) : brk m k = k s := by rw [h]; rfl
theorem brk_inr {σ ρ : Type} {m : Option (σ ⊕ ρ)} {v : ρ} {k : σ → Option ρ} (h : m = some (.inr v)) : brk m k = some v := by rw [h]; rfl
theorem lt_eq {α β : Type} {e : α} {k : α → Option β} : lt e k = k e := rfl

/-! ### whole numbers that are no less than nought -/
theorem shl_nat (n k : Nat) : shl (n : Int) (k : Int) = ((n <<< k : Nat) : Int) := by
  show (n : Int) * 2 ^ (Int.toNat (k : Int)) = _
  rw [Int.toNat_natCast, Nat.shiftLeft_eq]
  push_cast
  rfl
theorem shl1_nat (k : Nat) : shl 1 (k : Int) = ((2 ^ k : Nat) : Int) := by
  have h := shl_nat 1 k
  rw [Nat.shiftLeft_eq, Nat.one_mul] at h
  exact h
theorem shr_nat (n k : Nat) : shr (n : Int) (k : Int) = ((n >>> k : Nat) : Int) := by
  show (n : Int) / 2 ^ (Int.toNat (k : Int)) = _
  rw [Int.toNat_natCast, Nat.shiftRight_eq_div_pow]
  push_cast
  rfl
theorem band_nat (a b : Nat) : band (a : Int) (b : Int) = ((a &&& b : Nat) : Int) := by
  show Builtin.bitAnd _ _ = _
  rw [PyProof.Rows.bitAnd_pp (by omega) (by omega)]
  rfl
theorem bor_nat (a b : Nat) : bor (a : Int) (b : Int) = ((a ||| b : Nat) : Int) := by
  show Builtin.bitOr _ _ = _
  rw [L2.bitOr_nn (by omega) (by omega)]
  rfl
theorem nat_xor_and (a b : Nat) : (a ^^^ b) + 2 * (a &&& b) = a + b := by
  have h1 := PyProof.Rows.nat_or_add_and a b
  have h2 := PyProof.Rows.nat_or_add_and (a ^^^ b) (a &&& b)
  have e1 : (a ^^^ b) ||| (a &&& b) = a ||| b := by
    apply Nat.eq_of_testBit_eq
    intro i
    simp only [Nat.testBit_or, Nat.testBit_xor, Nat.testBit_and]
    cases a.testBit i <;> cases b.testBit i <;> rfl
  have e2 : (a ^^^ b) &&& (a &&& b) = 0 := by
    apply Nat.eq_of_testBit_eq
    intro i
    simp only [Nat.testBit_xor, Nat.testBit_and, Nat.zero_testBit]
    cases a.testBit i <;> cases b.testBit i <;> rfl
  rw [e1, e2] at h2
  omega
theorem bxor_nat (a b : Nat) : bxor (a : Int) (b : Int) = ((a ^^^ b : Nat) : Int) := by
  show Builtin.bitXor _ _ = _
  rw [PyProof.Rows.bitXor_and]
  have h := nat_xor_and a b
  have q : Builtin.bitAnd (a : Int) (b : Int) = ((a &&& b : Nat) : Int) := band_nat a b
  rw [q]
  omega
/-- a without b -/
def andn (a b : Nat) : Nat := a ^^^ (a &&& b)
theorem testBit_andn (a b i : Nat) : (andn a b).testBit i = (a.testBit i && !b.testBit i) := by
  unfold andn
  simp only [Nat.testBit_xor, Nat.testBit_and]
  cases a.testBit i <;> cases b.testBit i <;> rfl
theorem bandn_nat (a b : Nat) : band (a : Int) (bnot (b : Int)) = ((andn a b : Nat) : Int) := by
  show Builtin.bitAnd (a : Int) (Builtin.bitNot (b : Int)) = _
  rw [PyProof.Rows.bitAnd_not]
  have q : Builtin.bitAnd (a : Int) (b : Int) = ((a &&& b : Nat) : Int) := band_nat a b
  rw [q]
  have h := nat_xor_and a (a &&& b)
  have e : a &&& (a &&& b) = a &&& b := by
    apply Nat.eq_of_testBit_eq
    intro i
    simp only [Nat.testBit_and]
    cases a.testBit i <;> cases b.testBit i <;> rfl
  rw [e] at h
  unfold andn
  omega
theorem gPow1 {k : Nat} (h : k ≤ 1000000) : gPow 1 (k : Int) := ⟨by omega, by omega, by decide⟩
theorem gPow_nat {n k : Nat} (h : k ≤ 1000000) (hn : n < 2 ^ 64) : gPow (n : Int) (k : Int) := ⟨by omega, by omega, by simpa using hn⟩
theorem gR_nat {n : Nat} (h : n < 2 ^ 62) : gR (n : Int) := ⟨by omega, by omega⟩
theorem gDiv_nat {n : Nat} (h0 : 0 < n) (h : n < 1073741824) : gDiv (n : Int) := ⟨by omega, by omega⟩

/-! ### a number by its bits -/
def mask : Nat → (Nat → Bool) → Nat
  | 0, _ => 0
  | n + 1, p => mask n p + if p n = true then 2 ^ n else 0
theorem mask_succ (n : Nat) (p : Nat → Bool) : mask (n + 1) p = mask n p + if p n = true then 2 ^ n else 0 := rfl
theorem mask_lt : ∀ (n : Nat) (p : Nat → Bool), mask n p < 2 ^ n
  | 0, _ => Nat.one_pos
  | n + 1, p => by
    have h := mask_lt n p
    unfold mask
    rw [Nat.pow_succ]
    split <;> omega
theorem testBit_mask : ∀ (n : Nat) (p : Nat → Bool) (i : Nat), (mask n p).testBit i = (decide (i < n) && p i)
  | 0, p, i => by simp [mask]
  | n + 1, p, i => by
    have h := testBit_mask n p i
    have hl := mask_lt n p
    unfold mask
    by_cases hp : p n = true
    · rw [if_pos hp, Nat.add_comm]
      have e := Nat.two_pow_add_eq_or_of_lt hl 1
      rw [Nat.mul_one] at e
      rw [e, Nat.testBit_or, h, Nat.testBit_two_pow]
      by_cases hi : i < n
      · simp [hi, Nat.lt_succ_of_lt hi, show ¬ n = i by omega]
      · by_cases he : n = i
        · subst he; simp [hp]
        · simp [hi, he, show ¬ i < n + 1 by omega]
    · rw [if_neg hp, Nat.add_zero, h]
      by_cases hi : i < n
      · simp [hi, Nat.lt_succ_of_lt hi]
      · by_cases he : n = i
        · subst he; simp [hp]
        · simp [hi, show ¬ i < n + 1 by omega]
theorem mask_ext {n : Nat} {p : Nat → Bool} {x : Nat} (hx : x < 2 ^ n) (h : ∀ i, i < n → x.testBit i = p i) : x = mask n p := by
  apply Nat.eq_of_testBit_eq
  intro i
  rw [testBit_mask]
  by_cases hi : i < n
  · simp [hi, h i hi]
  · simp only [hi, decide_false, Bool.false_and]
    exact Nat.testBit_lt_two_pow (Nat.lt_of_lt_of_le hx (Nat.pow_le_pow_right (by decide) (by omega)))
theorem mask_congr {n : Nat} {p q : Nat → Bool} (h : ∀ i, i < n → p i = q i) : mask n p = mask n q := mask_ext (mask_lt n p) fun i hi => by rw [testBit_mask, h i hi]; simp [hi]
end B
namespace B
open PySem Z
theorem forO_list {α σ : Type} {body : α → σ → Option σ} (g : σ → α → σ) (I : σ → Prop) : ∀ (xs : List α) (s : σ), I s → (∀ x ∈ xs, ∀ s, I s → body x s = some (g s x) ∧ I (g s x)) → forO body xs s = some (xs.foldl g s) ∧ I (xs.foldl g s)
  | [], s, h, _ => ⟨forO_nil, h⟩
  | x :: xs, s, h, hs => by
    obtain ⟨e, i⟩ := hs x List.mem_cons_self s h
    rw [forO_cons, e]
    exact forO_list g I xs (g s x) i fun y hy => hs y (List.mem_cons_of_mem _ hy)
theorem forR_list {α σ ρ : Type} {body : α → σ → Option (σ ⊕ ρ)} (g : σ → α → σ) (I : σ → Prop) : ∀ (xs : List α) (s : σ), I s → (∀ x ∈ xs, ∀ s, I s → body x s = some (.inl (g s x)) ∧ I (g s x)) → forR body xs s = some (.inl (xs.foldl g s)) ∧ I (xs.foldl g s)
  | [], s, h, _ => ⟨forR_nil, h⟩
  | x :: xs, s, h, hs => by
    obtain ⟨e, i⟩ := hs x List.mem_cons_self s h
    rw [forR_cons, e]
    exact forR_list g I xs (g s x) i fun y hy => hs y (List.mem_cons_of_mem _ hy)
/-- an invariant alone -/
theorem forO_inv {α σ : Type} {body : α → σ → Option σ} (I : σ → Prop) : ∀ (xs : List α) (s : σ), I s → (∀ x ∈ xs, ∀ s, I s → ∃ s', body x s = some s' ∧ I s') → ∃ s', forO body xs s = some s' ∧ I s'
  | [], s, h, _ => ⟨s, forO_nil, h⟩
  | x :: xs, s, h, hs => by
    obtain ⟨s1, e, i⟩ := hs x List.mem_cons_self s h
    rw [forO_cons, e]
    exact forO_inv I xs s1 i fun y hy => hs y (List.mem_cons_of_mem _ hy)
theorem forR_inv {α σ ρ : Type} {body : α → σ → Option (σ ⊕ ρ)} (I : σ → Prop) : ∀ (xs : List α) (s : σ), I s → (∀ x ∈ xs, ∀ s, I s → ∃ s', body x s = some (.inl s') ∧ I s') → ∃ s', forR body xs s = some (.inl s') ∧ I s'
  | [], s, h, _ => ⟨s, forR_nil, h⟩
  | x :: xs, s, h, hs => by
    obtain ⟨s1, e, i⟩ := hs x List.mem_cons_self s h
    rw [forR_cons, e]
    exact forR_inv I xs s1 i fun y hy => hs y (List.mem_cons_of_mem _ hy)
theorem mod_nat (v : Int) {n : Nat} (h : 0 < n) : ∃ k : Nat, k < n ∧ v % (n : Int) = (k : Int) := by
  refine ⟨(v % (n : Int)).toNat, ?_, ?_⟩
  · have h1 := Int.emod_lt_of_pos v (show (0 : Int) < (n : Int) by omega)
    have h0 := Int.emod_nonneg v (show (n : Int) ≠ 0 by omega)
    omega
  · have h0 := Int.emod_nonneg v (show (n : Int) ≠ 0 by omega)
    omega
theorem cutI_mem {α : Type} {xs : List α} {lo hi : Option Int} {x : α} (h : x ∈ cutI xs lo hi) : x ∈ xs := List.mem_of_mem_drop (List.mem_of_mem_take h)
theorem cutI_len {α : Type} {xs : List α} {lo hi : Option Int} : (cutI xs lo hi).length ≤ xs.length := by
  unfold cutI
  rw [List.length_take, List.length_drop]
  omega
theorem setI_nat {α : Type} {xs : List α} {k : Nat} {v : α} (h : k < xs.length) : setI xs (k : Int) v = some (xs.set k v) := by
  unfold setI L2.ixN
  rw [if_pos (by omega), if_pos (by omega), Int.toNat_natCast]
  rfl
theorem atI_nat' {α : Type} {xs : List α} {k : Nat} (h : k < xs.length) : L2.atI xs (k : Int) = some xs[k] := L2.atI_nat (List.getElem?_eq_getElem h)
end B
namespace B
open PySem Z
theorem un2_mk {α β γ : Type} {f : α → β → γ} {a : α} {b : β} : un2 f (a, b) = f a b := rfl
theorem un3_mk {α β γ δ : Type} {f : α → β → γ → δ} {a : α} {b : β} {c : γ} : un3 f (a, b, c) = f a b c := rfl
theorem un4_mk {α β γ δ ε : Type} {f : α → β → γ → δ → ε} {a : α} {b : β} {c : γ} {d : δ} : un4 f (a, b, c, d) = f a b c d := rfl
theorem nt : (!true) = false := rfl
theorem nf : (!false) = true := rfl
end B
namespace B
open PySem Z
/-- s lies in the bar -/
def inB (a l s : Nat) : Bool := s &&& a == l
def liesB (a l s : Nat) : Bool := (List.range 6).all fun k => !(a.testBit k) || (s.testBit k == l.testBit k)
theorem liesB_eq {a l s : Nat} (ha : a < 64) (hl : l < 64) (h : l &&& a = l) : liesB a l s = inB a l s := by
  unfold liesB inB
  by_cases e : s &&& a = l
  · rw [show (s &&& a == l) = true by simp [e]]
    rw [List.all_eq_true]
    intro k _
    have q := congrArg (fun x => x.testBit k) e
    simp only [Nat.testBit_and] at q
    cases ha : a.testBit k <;> simp_all
  · rw [show (s &&& a == l) = false by simp [e]]
    by_cases z : ((List.range 6).all fun k => !(a.testBit k) || (s.testBit k == l.testBit k)) = true
    · exfalso
      apply e
      rw [List.all_eq_true] at z
      apply Nat.eq_of_testBit_eq
      intro k
      rw [Nat.testBit_and]
      by_cases hk : k < 6
      · have q := z k (List.mem_range.mpr hk)
        have r := congrArg (fun x => x.testBit k) h
        simp only [Nat.testBit_and] at r
        cases ha : a.testBit k <;> simp_all
      · have h64 : (64 : Nat) ≤ 2 ^ k := Nat.pow_le_pow_right (n := 2) (by decide) (show 6 ≤ k by omega)
        rw [Nat.testBit_lt_two_pow (show a < 2 ^ k by omega), Nat.testBit_lt_two_pow (show l < 2 ^ k by omega), Bool.and_false]
    · simpa using z
theorem inB_of {a l s : Nat} : inB a l s = (s &&& a == l) := rfl
theorem and_full {m s : Nat} (hs : s < 2 ^ m) : s &&& (2 ^ m - 1) = s := by rw [Nat.and_two_pow_sub_one_eq_mod, Nat.mod_eq_of_lt hs]
/-- a loop over a list, its passes counted -/
theorem forO_cnt {α σ : Type} {body : α → σ → Option σ} (I : Nat → σ → Prop) : ∀ (xs : List α) (j : Nat) (s : σ), I j s → (∀ x ∈ xs, ∀ k s, k < j + xs.length → I k s → ∃ s', body x s = some s' ∧ I (k + 1) s') → ∃ s', forO body xs s = some s' ∧ I (j + xs.length) s'
  | [], _, s, h, _ => ⟨s, forO_nil, h⟩
  | x :: xs, j, s, h, hs => by
    have hl : (x :: xs).length = xs.length + 1 := rfl
    obtain ⟨s1, e, i⟩ := hs x List.mem_cons_self j s (by omega) h
    rw [forO_cons, e]
    obtain ⟨s2, e2, i2⟩ := forO_cnt I xs (j + 1) s1 i fun y hy k s hk hI => hs y (List.mem_cons_of_mem _ hy) k s (by omega) hI
    refine ⟨s2, e2, ?_⟩
    have : j + 1 + xs.length = j + (x :: xs).length := by omega
    rw [← this]; exact i2
theorem forR_cnt {α σ ρ : Type} {body : α → σ → Option (σ ⊕ ρ)} (I : Nat → σ → Prop) : ∀ (xs : List α) (j : Nat) (s : σ), I j s → (∀ x ∈ xs, ∀ k s, k < j + xs.length → I k s → ∃ s', body x s = some (.inl s') ∧ I (k + 1) s') → ∃ s', forR body xs s = some (.inl s') ∧ I (j + xs.length) s'
  | [], _, s, h, _ => ⟨s, forR_nil, h⟩
  | x :: xs, j, s, h, hs => by
    have hl : (x :: xs).length = xs.length + 1 := rfl
    obtain ⟨s1, e, i⟩ := hs x List.mem_cons_self j s (by omega) h
    rw [forR_cons, e]
    obtain ⟨s2, e2, i2⟩ := forR_cnt I xs (j + 1) s1 i fun y hy k s hk hI => hs y (List.mem_cons_of_mem _ hy) k s (by omega) hI
    refine ⟨s2, e2, ?_⟩
    have : j + 1 + xs.length = j + (x :: xs).length := by omega
    rw [← this]; exact i2
theorem ifo_nt {α : Type} {m n : Option α} : ifo (!true) m n = n := ifo_f rfl
theorem ifo_nf {α : Type} {m n : Option α} : ifo (!false) m n = m := ifo_t rfl
theorem ifo_tt {α : Type} {m n : Option α} : ifo true m n = m := ifo_t rfl
theorem ifo_ff {α : Type} {m n : Option α} : ifo false m n = n := ifo_f rfl
theorem sb {α β : Type} {a : α} {k : α → Option β} : (some a).bind k = k a := rfl
theorem one_and (n : Nat) : 1 &&& n = n % 2 := by rw [Nat.and_comm, Nat.and_one_is_mod]
end B

namespace B
open PySem Z L2
/-! ### the least bit -/
theorem neg_nat {c : Nat} (h : 0 < c) : (-(c : Int)) = bnot ((c - 1 : Nat) : Int) := by
  show _ = Builtin.bitNot _
  unfold Builtin.bitNot
  omega
theorem low_nat {c : Nat} (h : 0 < c) : band (c : Int) (-(c : Int)) = ((andn c (c - 1) : Nat) : Int) := by rw [neg_nat h, bandn_nat]
theorem tb_zero (c : Nat) : c.testBit 0 = decide (c % 2 = 1) := Nat.testBit_zero c
/-- there is a least bit -/
theorem least_bit : ∀ (c : Nat), 0 < c → ∃ k, c.testBit k = true ∧ (∀ i, i < k → c.testBit i = false) ∧ andn c (c - 1) = 2 ^ k := by
  intro c
  induction c using Nat.strongRecOn with
  | ind c ih =>
    intro h
    by_cases hp : c % 2 = 1
    · refine ⟨0, by rw [tb_zero, decide_eq_true hp], fun i hi => by omega, Nat.eq_of_testBit_eq fun i => ?_⟩
      rw [testBit_andn]
      cases i with
      | zero =>
        rw [tb_zero, tb_zero, decide_eq_true hp, decide_eq_false (by omega)]; rfl
      | succ i =>
        rw [Nat.testBit_succ, Nat.testBit_succ, show (c - 1) / 2 = c / 2 by omega, Nat.testBit_two_pow]
        rw [decide_eq_false (by omega)]
        cases (c / 2).testBit i <;> rfl
    · have h2 : 0 < c / 2 := by omega
      obtain ⟨k, k1, k2, k3⟩ := ih (c / 2) (by omega) h2
      refine ⟨k + 1, by rw [Nat.testBit_succ]; exact k1, fun i hi => ?_, Nat.eq_of_testBit_eq fun i => ?_⟩
      · cases i with
        | zero => rw [tb_zero, decide_eq_false hp]
        | succ i => rw [Nat.testBit_succ]; exact k2 i (by omega)
      · rw [testBit_andn]
        cases i with
        | zero =>
          rw [tb_zero, decide_eq_false hp, Nat.testBit_two_pow, decide_eq_false (by omega)]; rfl
        | succ i =>
          have e := congrArg (fun n => n.testBit i) k3
          simp only [testBit_andn, Nat.testBit_two_pow] at e
          rw [Nat.testBit_succ, Nat.testBit_succ, show (c - 1) / 2 = c / 2 - 1 by omega, e, Nat.testBit_two_pow]
          exact decide_eq_decide.mpr (by omega)
theorem blen_pow (k : Nat) : blen ((2 ^ k : Nat) : Int) = ((k + 1 : Nat) : Int) := by
  unfold blen Builtin.Int.intBits
  have h : ((((2 ^ k : Nat) : Int)) == 0) = false := by
    have := Nat.two_pow_pos k
    exact beq_eq_false_iff_ne.mpr (by omega)
  rw [h]
  show (((((2 ^ k : Nat) : Int).natAbs.log2 + 1 : Nat)) : Int) = _
  rw [Int.natAbs_natCast, Nat.log2_two_pow]
/-- the places of the bits, rising -/
def bitsL (n c : Nat) : List Nat := (List.range n).filter fun i => c.testBit i
theorem bitsL_zero (n : Nat) : bitsL n 0 = [] := by
  unfold bitsL
  rw [List.filter_eq_nil_iff]
  intro i _
  rw [Nat.zero_testBit]; exact Bool.false_ne_true
theorem mem_bitsL {n c i : Nat} : i ∈ bitsL n c ↔ i < n ∧ c.testBit i = true := by
  unfold bitsL
  rw [List.mem_filter, List.mem_range]
theorem bitsL_len (n c : Nat) : (bitsL n c).length ≤ n := by
  have := List.length_filter_le (fun i => c.testBit i) (List.range n)
  rwa [List.length_range] at this
theorem bitsL_cons {n c k : Nat} (hk : k < n) (h1 : c.testBit k = true) (h2 : ∀ i, i < k → c.testBit i = false) : bitsL n c = k :: bitsL n (c ^^^ 2 ^ k) := by
  have key : ∀ (p q : Nat → Bool) (m a : Nat), a ≤ k → k < a + m → p k = true → q k = false → (∀ i, i ≠ k → p i = q i) → (∀ i, i < k → p i = false) → (List.range' a m).filter p = k :: (List.range' a m).filter q := by
    intro p q m
    induction m with
    | zero => intro a h1 h2; omega
    | succ m ih =>
      intro a ha hm pk qk hpq hlo
      rw [List.range'_succ, List.filter_cons, List.filter_cons]
      by_cases e : a = k
      · subst e
        rw [if_pos pk, if_neg (by rw [qk]; exact Bool.false_ne_true)]
        congr 1
        apply List.filter_congr
        intro x hx
        rw [List.mem_range'_1] at hx
        exact hpq x (by omega)
      · have hlt : a < k := by omega
        rw [if_neg (by rw [hlo a hlt]; exact Bool.false_ne_true), if_neg (by rw [← hpq a e, hlo a hlt]; exact Bool.false_ne_true)]
        exact ih (a + 1) (by omega) (by omega) pk qk hpq hlo
  unfold bitsL
  rw [List.range_eq_range']
  refine key _ _ n 0 (by omega) (by omega) h1 ?_ (fun i hi => ?_) h2
  · rw [Nat.testBit_xor, Nat.testBit_two_pow, h1, decide_eq_true rfl]; rfl
  · rw [Nat.testBit_xor, Nat.testBit_two_pow, decide_eq_false (fun e => hi e.symm), Bool.xor_false]
theorem tb_lt {m a i : Nat} (h : a < 2 ^ m) (hi : a.testBit i = true) : i < m := by
  by_cases q : i < m
  · exact q
  · rw [Nat.testBit_lt_two_pow (Nat.lt_of_lt_of_le h (Nat.pow_le_pow_right (by decide) (by omega)))] at hi
    cases hi
theorem xor_lt {m a b : Nat} (ha : a < 2 ^ m) (hb : b < 2 ^ m) : a ^^^ b < 2 ^ m := Nat.xor_lt_two_pow ha hb
theorem bigN_eq' : bigN = 1000000 := Z.bigN_eq
/-! ### tables: lists told by a function -/
def zL (xs : List Nat) : List Int := xs.map fun (n : Nat) => (n : Int)
def tab (n : Nat) (f : Nat → Nat) : List Int := (List.range n).map fun i => ((f i : Nat) : Int)
theorem tab_len (n : Nat) (f : Nat → Nat) : (tab n f).length = n := by unfold tab; rw [List.length_map, List.length_range]
theorem tab_ext {n : Nat} {f g : Nat → Nat} (h : ∀ i, i < n → f i = g i) : tab n f = tab n g := by
  unfold tab
  apply List.map_congr_left
  intro i hi
  rw [h i (List.mem_range.mp hi)]
theorem tab_get {n : Nat} {f : Nat → Nat} {i : Nat} (h : i < n) : (tab n f)[i]? = some ((f i : Nat) : Int) := by
  unfold tab
  rw [List.getElem?_map, List.getElem?_range h]; rfl
theorem atI_tab {n : Nat} {f : Nat → Nat} {i : Nat} (h : i < n) : L2.atI (tab n f) (i : Int) = some ((f i : Nat) : Int) := L2.atI_nat (tab_get h)
def fup (f : Nat → Nat) (k v : Nat) : Nat → Nat := fun i => if i = k then v else f i
theorem tab_set {n : Nat} {f : Nat → Nat} {k v : Nat} : (tab n f).set k (v : Int) = tab n (fup f k v) := by
  apply List.ext_getElem?
  intro i
  rw [List.getElem?_set]
  by_cases hi : i < n
  · by_cases hk : k = i
    · subst hk
      rw [if_pos rfl, tab_len, if_pos hi, tab_get hi]
      unfold fup; rw [if_pos rfl]
    · rw [if_neg hk, tab_get hi, tab_get hi]
      unfold fup; rw [if_neg (fun e => hk e.symm)]
  · have e1 : (tab n f)[i]? = none := List.getElem?_eq_none (by rw [tab_len]; omega)
    have e2 : (tab n (fup f k v))[i]? = none := List.getElem?_eq_none (by rw [tab_len]; omega)
    rw [e1, e2]
    by_cases hk : k = i
    · subst hk; rw [if_pos rfl, tab_len, if_neg hi]
    · rw [if_neg hk]
theorem setI_tab {n : Nat} {f : Nat → Nat} {k v : Nat} (h : k < n) : setI (tab n f) (k : Int) (v : Int) = some (tab n (fup f k v)) := by
  rw [setI_nat (by rw [tab_len]; exact h), tab_set]
theorem mem_tab {n : Nat} {f : Nat → Nat} {x : Int} (h : x ∈ tab n f) : ∃ i, i < n ∧ x = ((f i : Nat) : Int) := by
  unfold tab at h
  rw [List.mem_map] at h
  obtain ⟨i, h1, h2⟩ := h
  exact ⟨i, List.mem_range.mp h1, h2.symm⟩
theorem mem_rangeI {n : Nat} {x : Int} : x ∈ rangeI 0 n → ∃ k : Nat, k < n ∧ x = (k : Int) := by
  intro h
  unfold rangeI at h
  rw [List.mem_map] at h
  obtain ⟨k, h1, h2⟩ := h
  exact ⟨k, List.mem_range.mp h1, by omega⟩
theorem rangeI_len {lo : Int} {n : Nat} : (rangeI lo n).length = n := by unfold rangeI; rw [List.length_map, List.length_range]
theorem rangeI_tab (n : Nat) : rangeI 0 n = tab n id := by
  unfold rangeI tab
  apply List.map_congr_left
  intro i _
  show (0 : Int) + (i : Int) = ((id i : Nat) : Int)
  rw [Int.zero_add]; rfl
theorem comp_const {α : Type} {xs : List α} {c : Int} (h : xs.length ≤ 16777216) : compO (fun _ => some (some c)) xs = some (xs.map fun _ => c) := by
  rw [compO_eq (g := fun _ => some c) h fun _ _ => rfl]
  congr 1
  clear h
  induction xs with
  | nil => rfl
  | cons x xs ih => rw [List.filterMap_cons, ih]; rfl
theorem map_zero_tab {α : Type} (xs : List α) {n : Nat} (h : xs.length = n) : (xs.map fun _ => (0 : Int)) = tab n fun _ => 0 := by
  subst h
  unfold tab
  induction xs with
  | nil => rfl
  | cons x xs ih =>
    rw [List.length_cons, List.range_succ_eq_map, List.map_cons, List.map_cons, List.map_map]
    rw [ih]
    rfl
theorem comp_zero {n : Nat} (h : n ≤ 16777216) : compO (fun _ => some (some 0)) (rangeI 0 n) = some (tab n fun _ => 0) := by
  rw [comp_const (by rw [rangeI_len]; exact h), map_zero_tab _ rangeI_len]
theorem comp_zeroL {xs : List Int} {n : Nat} (hl : xs.length = n) (h : n ≤ 16777216) : compO (fun _ => some (some 0)) xs = some (tab n fun _ => 0) := by
  rw [comp_const (by omega), map_zero_tab _ hl]
theorem tab_rev (n : Nat) (f : Nat → Nat) : (tab n f).reverse = tab n fun i => f (n - 1 - i) := by
  apply List.ext_getElem?
  intro i
  by_cases hi : i < n
  · rw [List.getElem?_reverse (by rw [tab_len]; exact hi), tab_len, tab_get (by omega), tab_get hi]
  · rw [List.getElem?_eq_none (by rw [List.length_reverse, tab_len]; omega), List.getElem?_eq_none (by rw [tab_len]; omega)]
theorem enumI_tab (n : Nat) (f : Nat → Nat) : enumI (tab n f) = (List.range n).map fun (i : Nat) => ((i : Int), ((f i : Nat) : Int)) := by
  apply List.ext_getElem?
  intro i
  unfold enumI
  by_cases hi : i < n
  · have := enumF_get (tab n f) 0 i _ (tab_get hi)
    rw [this, List.getElem?_map, List.getElem?_range hi, Nat.zero_add]; rfl
  · rw [List.getElem?_eq_none (by rw [enumF_len, tab_len]; omega), List.getElem?_eq_none (by rw [List.length_map, List.length_range]; omega)]
/-- a loop over the places below n, told as a list -/
theorem forO_map {α σ : Type} {body : α → σ → Option σ} {g : Nat → α} (I : Nat → σ → Prop) : ∀ (n : Nat) (s : σ), I 0 s → (∀ i s, i < n → I i s → ∃ s', body (g i) s = some s' ∧ I (i + 1) s') → ∃ s', forO body ((List.range n).map g) s = some s' ∧ I n s' := by
  have key : ∀ (n a : Nat) (s : σ), I a s → (∀ i s, a ≤ i → i < a + n → I i s → ∃ s', body (g i) s = some s' ∧ I (i + 1) s') → ∃ s', forO body ((List.range' a n).map g) s = some s' ∧ I (a + n) s' := by
    intro n
    induction n with
    | zero => intro a s h _; exact ⟨s, forO_nil, h⟩
    | succ n ih =>
      intro a s h hs
      obtain ⟨s1, e1, i1⟩ := hs a s (Nat.le_refl _) (by omega) h
      obtain ⟨s2, e2, i2⟩ := ih (a + 1) s1 i1 fun i s ha hi hI => hs i s (by omega) (by omega) hI
      refine ⟨s2, ?_, by rw [show a + (n + 1) = a + 1 + n by omega]; exact i2⟩
      rw [List.range'_succ, List.map_cons, forO_cons, e1]
      exact e2
  intro n s h hs
  obtain ⟨s', e, i⟩ := key n 0 s h fun i s _ hi hI => hs i s (by omega) hI
  rw [Nat.zero_add] at i
  exact ⟨s', by rw [List.range_eq_range']; exact e, i⟩
/-- a loop that asks the same of each, and passes -/
theorem forO_pass {α : Type} {body : α → Unit → Option Unit} : ∀ {xs : List α}, (∀ x ∈ xs, body x () = some ()) → forO body xs () = some ()
  | [], _ => forO_nil
  | x :: xs, h => by
    rw [forO_cons, h x List.mem_cons_self]
    exact forO_pass fun y hy => h y (List.mem_cons_of_mem _ hy)
theorem forR_pass {α ρ : Type} {body : α → Unit → Option (Unit ⊕ ρ)} : ∀ {xs : List α}, (∀ x ∈ xs, body x () = some (.inl ())) → forR body xs () = some (.inl ())
  | [], _ => forR_nil
  | x :: xs, h => by
    rw [forR_cons, h x List.mem_cons_self]
    exact forR_pass fun y hy => h y (List.mem_cons_of_mem _ hy)
theorem mask_or (i : Nat) (p : Nat → Bool) : mask i p ||| 2 ^ i = mask i p + 2 ^ i := by
  have h := mask_lt i p
  have e : mask i p + 2 ^ i = mask (i + 1) (fun j => if j = i then true else p j) := by
    rw [mask_succ, if_pos (by rw [if_pos rfl])]
    congr 1
    exact mask_congr fun j hj => by rw [if_neg (by omega)]
  rw [e]
  refine mask_ext (Nat.or_lt_two_pow (Nat.lt_of_lt_of_le h (Nat.pow_le_pow_right (by decide) (by omega))) (Nat.pow_lt_pow_right (by decide) (by omega))) fun j hj => ?_
  rw [Nat.testBit_or, testBit_mask, Nat.testBit_two_pow]
  by_cases e : j = i
  · subst e
    rw [if_pos rfl, decide_eq_true rfl, Bool.or_true]
  · rw [if_neg e, decide_eq_true (by omega), decide_eq_false (fun q => e q.symm), Bool.true_and, Bool.or_false]
/-- joined crowds -/
def orAll (f : Nat → Nat) : List Nat → Nat
  | [] => 0
  | x :: xs => f x ||| orAll f xs
theorem testBit_orAll (f : Nat → Nat) (i : Nat) : ∀ xs : List Nat, (orAll f xs).testBit i = xs.any fun x => (f x).testBit i
  | [] => by unfold orAll; rw [Nat.zero_testBit]; rfl
  | x :: xs => by
    unfold orAll
    rw [Nat.testBit_or, testBit_orAll f i xs, List.any_cons]
theorem orAll_lt {n : Nat} {f : Nat → Nat} : ∀ {xs : List Nat}, (∀ x ∈ xs, f x < 2 ^ n) → orAll f xs < 2 ^ n
  | [], _ => Nat.two_pow_pos n
  | x :: xs, h => Nat.or_lt_two_pow (h x List.mem_cons_self) (orAll_lt fun y hy => h y (List.mem_cons_of_mem _ hy))
theorem any_bitsL {n c : Nat} {p : Nat → Bool} : (bitsL n c).any p = (List.range n).any fun i => c.testBit i && p i := by
  unfold bitsL
  rw [List.any_filter]
theorem orAll_app (f : Nat → Nat) : ∀ xs ys : List Nat, orAll f (xs ++ ys) = orAll f xs ||| orAll f ys
  | [], ys => (Nat.zero_or _).symm
  | x :: xs, ys => by
    show f x ||| orAll f (xs ++ ys) = f x ||| orAll f xs ||| orAll f ys
    rw [orAll_app f xs ys, Nat.or_assoc]
theorem bitsL_succ (k c : Nat) : bitsL (k + 1) c = bitsL k c ++ if c.testBit k = true then [k] else [] := by
  unfold bitsL
  rw [List.range_succ, List.filter_append]
  congr 1
  rw [List.filter_cons]
  rfl
theorem and1_testBit (a k : Nat) : decide (((a >>> k &&& 1 : Nat) : Int) = 1) = a.testBit k := by
  rw [Nat.testBit, Nat.and_comm]
  have : (1 &&& a >>> k) = 0 ∨ (1 &&& a >>> k) = 1 := by
    rw [one_and]; omega
  rcases this with h | h <;> rw [h] <;> rfl
theorem asks1 (a k : Nat) : decide (band (shr (a : Int) (k : Int)) 1 = 1) = a.testBit k := by
  have o1 : ((1 : Nat) : Int) = 1 := rfl
  rw [shr_nat, ← o1, band_nat, o1, and1_testBit]
theorem pow_lt2 {k n : Nat} (h : k < n) : 2 ^ k < 2 ^ n := Nat.pow_lt_pow_right (by decide) h
theorem le64 {m : Nat} (hm : m ≤ 6) : 2 ^ m ≤ 64 := Nat.pow_le_pow_right (n := 2) (by decide) hm
/-! ### parts of lists -/
theorem cutI_from {α : Type} (xs : List α) (k : Nat) : cutI xs (some (k : Int)) none = xs.drop k := by
  unfold cutI
  rw [HT.sIx_nat, HT.sIx_none]
  by_cases h : k ≤ xs.length
  · rw [Nat.min_eq_left h, List.take_of_length_le (Nat.le_of_eq List.length_drop)]
  · rw [Nat.min_eq_right (by omega), List.drop_length, List.drop_eq_nil_of_le (i := k) (by omega), List.take_nil]
theorem cutI_to {α : Type} (xs : List α) (k : Nat) : cutI xs none (some (k : Int)) = xs.take k := by
  unfold cutI
  rw [HT.sIx_nat, HT.sIx_none, List.drop_zero, Nat.sub_zero]
  by_cases h : k ≤ xs.length
  · rw [Nat.min_eq_left h]
  · rw [Nat.min_eq_right (by omega), List.take_of_length_le (Nat.le_refl _), List.take_of_length_le (by omega)]
theorem cutI_init {α : Type} (xs : List α) : cutI xs none (some (-1)) = xs.dropLast := by
  unfold cutI
  rw [HT.sIx_none, List.drop_zero, Nat.sub_zero]
  have e : HT.sIx xs.length xs.length (some (-1)) = xs.length - 1 := by
    show (if (-1 : Int) < 0 then ((-1 : Int) + (xs.length : Int)).toNat else min (-1 : Int).toNat xs.length) = _
    rw [if_pos (by decide)]
    omega
  rw [e, List.dropLast_eq_take]
theorem atI_end {α : Type} {xs : List α} (h : xs ≠ []) : L2.atI xs (-1) = some (xs.getLast h) := by
  have e : xs = xs.dropLast ++ [xs.getLast h] := (List.dropLast_concat_getLast h).symm
  have := L2.atI_last xs.dropLast (xs.getLast h)
  rw [← e] at this
  exact this
theorem zL_len (xs : List Nat) : (zL xs).length = xs.length := by unfold zL; rw [List.length_map]
theorem atI_zL {xs : List Nat} {k : Nat} (h : k < xs.length) : L2.atI (zL xs) (k : Int) = some ((xs[k] : Nat) : Int) := by
  rw [atI_nat' (by rw [zL_len]; exact h)]
  unfold zL
  rw [List.getElem_map]
theorem atI_zLend {xs : List Nat} (h : xs ≠ []) : L2.atI (zL xs) (-1) = some ((xs.getLast h : Nat) : Int) := by
  have h' : zL xs ≠ [] := fun e => h (by unfold zL at e; exact List.map_eq_nil_iff.mp e)
  rw [atI_end h']
  exact congrArg some (List.getLast_map (f := fun (n : Nat) => (n : Int)) (l := xs) h')
theorem mem_zL {xs : List Nat} {x : Int} (h : x ∈ zL xs) : ∃ k, k ∈ xs ∧ x = (k : Int) := by
  unfold zL at h
  rw [List.mem_map] at h
  obtain ⟨k, h1, h2⟩ := h
  exact ⟨k, h1, h2.symm⟩
theorem zL_of {xs : List Int} {N : Nat} (h : ∀ x ∈ xs, ∃ k : Nat, k < N ∧ x = (k : Int)) : ∃ ws : List Nat, (∀ w ∈ ws, w < N) ∧ xs = zL ws := by
  induction xs with
  | nil => exact ⟨[], fun _ h => (by cases h), rfl⟩
  | cons x xs ih =>
    obtain ⟨k, hk, rfl⟩ := h x List.mem_cons_self
    obtain ⟨ws, h1, rfl⟩ := ih fun y hy => h y (List.mem_cons_of_mem _ hy)
    refine ⟨k :: ws, fun w hw => ?_, rfl⟩
    rcases List.mem_cons.mp hw with rfl | hw
    · exact hk
    · exact h1 w hw
/-! ### loops that ask -/
theorem forR_allL {α ρ : Type} {body : α → Unit → Option (Unit ⊕ ρ)} {v : ρ} (p : α → Bool) : ∀ {xs : List α}, (∀ x ∈ xs, body x () = some (if p x = true then .inl () else .inr v)) →
    forR body xs () = some (if xs.all p = true then .inl () else .inr v)
  | [], _ => by rw [forR_nil]; rfl
  | x :: xs, h => by
    rw [forR_cons, h x List.mem_cons_self, List.all_cons]
    cases p x with
    | false => rfl
    | true =>
      show forR body xs () = _
      rw [forR_allL p fun y hy => h y (List.mem_cons_of_mem _ hy)]
      rw [Bool.true_and]
theorem brk_if {ρ : Type} {b : Bool} {v : ρ} {k : Unit → Option ρ} : brk (some (if b = true then Sum.inl () else Sum.inr v)) k = if b = true then k () else some v := by
  cases b <;> rfl
theorem brk_eq {σ ρ : Type} {m n : Option (σ ⊕ ρ)} {k : σ → Option ρ} (h : m = n) : brk m k = brk n k := by rw [h]
theorem comp_map {α β : Type} {xs : List α} {f : α → Option (Option β)} {g : α → β} (hl : xs.length ≤ 16777216) (h : ∀ x ∈ xs, f x = some (some (g x))) : compO f xs = some (xs.map g) := by
  rw [compO_eq (g := fun x => some (g x)) hl h]
  congr 1
  clear h hl
  induction xs with
  | nil => rfl
  | cons x xs ih => rw [List.filterMap_cons, ih]; rfl
theorem tb_shr (a k : Nat) : decide (band (shr (a : Int) (k : Int)) 1 = 0) = !a.testBit k := by
  have h := asks1 a k
  have e : ∀ x : Nat, decide (((x &&& 1 : Nat) : Int) = 0) = !decide (((x &&& 1 : Nat) : Int) = 1) := fun x => by
    have : x &&& 1 = x % 2 := Nat.and_one_is_mod x
    rw [this, ← decide_not]
    exact decide_eq_decide.mpr (by omega)
  have o1 : ((1 : Nat) : Int) = 1 := rfl
  rw [shr_nat, ← o1, band_nat, o1] at h
  rw [shr_nat, ← o1, band_nat, e, h]
theorem tb_div (a k : Nat) : ((a : Int) / ((2 ^ k : Nat) : Int)) % 2 = if a.testBit k = true then 1 else 0 := by
  have e : ((a : Int) / ((2 ^ k : Nat) : Int)) % 2 = ((a / 2 ^ k % 2 : Nat) : Int) := by omega
  rw [e, Nat.testBit_eq_decide_div_mod_eq]
  by_cases h : a / 2 ^ k % 2 = 1
  · rw [h, if_pos (by rw [decide_eq_true rfl])]; rfl
  · rw [if_neg (by rw [decide_eq_false h]; exact Bool.false_ne_true)]; omega
theorem tb_div0 (a k : Nat) : decide (((a : Int) / ((2 ^ k : Nat) : Int)) % 2 = 0) = !a.testBit k := by rw [tb_div]; cases a.testBit k <;> rfl
theorem tb_div1 (a k : Nat) : decide (((a : Int) / ((2 ^ k : Nat) : Int)) % 2 = 1) = a.testBit k := by rw [tb_div]; cases a.testBit k <;> rfl
theorem pow_200 {k : Nat} (h : k < 200) : 2 ^ k < 2 ^ 200 := pow_lt2 h
theorem bitsL_pow {n k : Nat} (h : k < n) : bitsL n (2 ^ k) = [k] := by
  have := bitsL_cons (n := n) (c := 2 ^ k) h (by rw [Nat.testBit_two_pow, decide_eq_true rfl]) fun i hi => by rw [Nat.testBit_two_pow, decide_eq_false (by omega)]
  rw [this, Nat.xor_self, bitsL_zero]
theorem orAll_one (f : Nat → Nat) (k : Nat) : orAll f [k] = f k := Nat.or_zero _
theorem fup_lt {n N : Nat} {f : Nat → Nat} {k v : Nat} (hf : ∀ s, s < n → f s < N) (hv : v < N) : ∀ s, s < n → fup f k v s < N := fun s hs => by
  unfold fup
  by_cases e : s = k
  · rw [if_pos e]; exact hv
  · rw [if_neg e]; exact hf s hs
theorem andn_lt {m a b : Nat} (h : a < 2 ^ m) : andn a b < 2 ^ m := by
  unfold andn
  exact xor_lt h (Nat.lt_of_le_of_lt Nat.and_le_left h)
/-! ### how many bits -/
def cnt : Nat → Nat → Nat
  | 0, _ => 0
  | n + 1, c => cnt n c + if c.testBit n = true then 1 else 0
theorem cnt_le : ∀ (n c : Nat), cnt n c ≤ n
  | 0, _ => Nat.le_refl _
  | n + 1, c => by
    have := cnt_le n c
    unfold cnt
    split <;> omega
theorem cnt_mono {a b : Nat} (h : ∀ i, a.testBit i = true → b.testBit i = true) : ∀ n, cnt n a ≤ cnt n b
  | 0 => Nat.le_refl _
  | n + 1 => by
    have := cnt_mono h n
    unfold cnt
    by_cases q : a.testBit n = true
    · rw [if_pos q, if_pos (h n q)]; omega
    · rw [if_neg q]; split <;> omega
theorem cnt_lt {a b : Nat} (h : ∀ i, a.testBit i = true → b.testBit i = true) {k : Nat} (ka : a.testBit k = false) (kb : b.testBit k = true) : ∀ n, k < n → cnt n a < cnt n b
  | 0, hk => by omega
  | n + 1, hk => by
    unfold cnt
    by_cases e : k = n
    · subst e
      have := cnt_mono h k
      rw [if_neg (by rw [ka]; exact Bool.false_ne_true), if_pos kb]; omega
    · have := cnt_lt h ka kb n (by omega)
      by_cases q : a.testBit n = true
      · rw [if_pos q, if_pos (h n q)]; omega
      · rw [if_neg q]; split <;> omega
theorem cnt_grow {n a b : Nat} (hb : b < 2 ^ n) (h : ∀ i, a.testBit i = true → b.testBit i = true) (ne : b ≠ a) : cnt n a < cnt n b := by
  have : ∃ k, a.testBit k = false ∧ b.testBit k = true := Classical.byContradiction fun hn => ne (Nat.eq_of_testBit_eq fun i => by
    cases ea : a.testBit i with
    | true => exact h i ea
    | false =>
      cases eb : b.testBit i with
      | false => rfl
      | true => exact absurd ⟨i, ea, eb⟩ hn)
  obtain ⟨k, k1, k2⟩ := this
  exact cnt_lt h k1 k2 n (tb_lt hb k2)
/-! ### the flood, layer by layer -/
/-- a crowd and all to which a step leads from it -/
def nxt (n : Nat) (f : Nat → Nat) (c : Nat) : Nat := c ||| orAll f (bitsL n c)
theorem nxt_lt {n N : Nat} {f : Nat → Nat} (hf : ∀ s, s < n → f s < 2 ^ N) {c : Nat} (hc : c < 2 ^ N) : nxt n f c < 2 ^ N := Nat.or_lt_two_pow hc (orAll_lt fun x hx => hf x (mem_bitsL.mp hx).1)
theorem nxt_sub (n : Nat) (f : Nat → Nat) (c i : Nat) (h : c.testBit i = true) : (nxt n f c).testBit i = true := by
  unfold nxt
  rw [Nat.testBit_or, h]; rfl
def layF (n : Nat) (f : Nat → Nat) : Nat → Nat → List Nat
  | 0, c => [c]
  | k + 1, c => if nxt n f c = c then [c] else c :: layF n f k (nxt n f c)
/-- layers -/
def Lay (n : Nat) (f : Nat → Nat) : List Nat → Prop
  | [] => False
  | [c] => nxt n f c = c
  | c :: d :: l => d = nxt n f c ∧ d ≠ c ∧ Lay n f (d :: l)
theorem layF_head (n : Nat) (f : Nat → Nat) (k c : Nat) : ∃ l, layF n f k c = c :: l := by
  cases k with
  | zero => exact ⟨[], rfl⟩
  | succ k =>
    unfold layF
    split
    · exact ⟨[], rfl⟩
    · exact ⟨_, rfl⟩
theorem layF_lay {n : Nat} {f : Nat → Nat} (hf : ∀ s, s < n → f s < 2 ^ n) : ∀ (k c : Nat), c < 2 ^ n → n < cnt n c + k → Lay n f (layF n f k c)
  | 0, c, _, hk => by have := cnt_le n c; omega
  | k + 1, c, hc, hk => by
    unfold layF
    by_cases e : nxt n f c = c
    · rw [if_pos e]; exact e
    · rw [if_neg e]
      have hl := nxt_lt hf hc
      have g := cnt_grow hl (nxt_sub n f c) e
      obtain ⟨l, el⟩ := layF_head n f k (nxt n f c)
      have ih := layF_lay hf k (nxt n f c) hl (by omega)
      rw [el] at ih ⊢
      exact ⟨rfl, e, ih⟩
theorem layF_lt {n : Nat} {f : Nat → Nat} (hf : ∀ s, s < n → f s < 2 ^ n) : ∀ (k c : Nat), c < 2 ^ n → ∀ x ∈ layF n f k c, x < 2 ^ n
  | 0, c, hc, x, hx => by rw [List.mem_singleton.mp hx]; exact hc
  | k + 1, c, hc, x, hx => by
    unfold layF at hx
    split at hx
    · rw [List.mem_singleton.mp hx]; exact hc
    · rcases List.mem_cons.mp hx with rfl | hx
      · exact hc
      · exact layF_lt hf k _ (nxt_lt hf hc) x hx
theorem layF_len (n : Nat) (f : Nat → Nat) : ∀ (k c : Nat), (layF n f k c).length ≤ k + 1
  | 0, c => Nat.le_refl _
  | k + 1, c => by
    have := layF_len n f k (nxt n f c)
    unfold layF
    split
    · show 1 ≤ _; omega
    · rw [List.length_cons]; omega
theorem Lay.at {n : Nat} {f : Nat → Nat} : ∀ {L : List Nat}, Lay n f L → ∀ k, (h : k + 1 < L.length) → L[k + 1] = nxt n f L[k] ∧ L[k + 1] ≠ L[k]
  | [], h, _, _ => h.elim
  | [c], _, k, h => by simp at h
  | c :: d :: l, h, 0, _ => ⟨h.1, h.2.1⟩
  | c :: d :: l, h, k + 1, hk => Lay.at (L := d :: l) h.2.2 k (by simpa using hk)
theorem Lay.last {n : Nat} {f : Nat → Nat} : ∀ {L : List Nat}, Lay n f L → (hn : L ≠ []) → nxt n f (L.getLast hn) = L.getLast hn
  | [], h, _ => h.elim
  | [c], h, _ => h
  | c :: d :: l, h, _ => by
    rw [List.getLast_cons_cons]
    exact Lay.last (L := d :: l) h.2.2 _
theorem zL_tab (ws : List Nat) : zL ws = tab ws.length fun i => ws.getD i 0 := by
  apply List.ext_getElem?
  intro i
  by_cases hi : i < ws.length
  · have g : ws.getD i 0 = ws[i] := by rw [List.getD_eq_getElem?_getD, List.getElem?_eq_getElem hi]; rfl
    rw [tab_get hi, g]
    unfold zL
    rw [List.getElem?_map, List.getElem?_eq_getElem hi]; rfl
  · rw [List.getElem?_eq_none (by rw [zL_len]; omega), List.getElem?_eq_none (by rw [tab_len]; omega)]
theorem tab_of {xs : List Int} {n N : Nat} (hl : xs.length = n) (h : ∀ x ∈ xs, ∃ k : Nat, k < N ∧ x = (k : Int)) : ∃ f : Nat → Nat, (∀ s, s < n → f s < N) ∧ xs = tab n f := by
  obtain ⟨ws, h1, rfl⟩ := zL_of h
  rw [zL_len] at hl
  subst hl
  refine ⟨fun i => ws.getD i 0, fun s hs => ?_, zL_tab ws⟩
  show ws.getD s 0 < N
  rw [List.getD_eq_getElem?_getD, List.getElem?_eq_getElem hs]
  exact h1 _ (List.getElem_mem hs)
/-! ### ranges with a step -/
theorem rsize_le {i j c : Int} (h : 0 < c) : Builtin.Range.rangeSize i j c ≤ (if i < j then j - i else 0) := by
  unfold Builtin.Range.rangeSize
  rw [if_pos h]
  split
  · have : (j - i - 1) / c ≤ j - i - 1 := Int.ediv_le_self _ (by omega)
    omega
  · omega
theorem gR3_of {i j c : Int} (h1 : 0 ≤ i) (h2 : i ≤ 1000000) (h3 : 0 ≤ j) (h4 : j ≤ 1000000) (h5 : 0 < c) (h6 : c ≤ 1000000) : gR3 i j c := by
  refine ⟨h5, by omega, ?_⟩
  have a := rsize_nn (i := i) (j := j) h5
  have b := rsize_le (i := i) (j := j) h5
  unfold Builtin.Range.small
  obtain ⟨n, hn⟩ : ∃ n, n = Builtin.Range.rangeSize i j c := ⟨_, rfl⟩
  rw [← hn] at a b ⊢
  have hb : n ≤ 1000000 := by split at b <;> omega
  rw [if_pos (show c > 0 from h5)]
  simp only [Builtin.Range.rangeFitsLong, Bool.and_eq_true, Bool.or_eq_true, decide_eq_true_eq, beq_iff_eq]
  exact ⟨by omega, .inr (by omega)⟩
theorem mem_rangeS {i j c x : Int} (hc : 0 < c) (h : x ∈ rangeS i j c) : i ≤ x ∧ x < j := by
  unfold rangeS at h
  rw [List.mem_map] at h
  obtain ⟨k, hk, rfl⟩ := h
  rw [List.mem_range] at hk
  have h0 := Int.mul_nonneg (show (0 : Int) ≤ (k : Int) by omega) (show (0 : Int) ≤ c by omega)
  refine ⟨by omega, ?_⟩
  unfold Builtin.Range.rangeSize at hk
  rw [if_pos hc] at hk
  split at hk
  · have h1 : (k : Int) ≤ (j - i - 1) / c := by omega
    have h2 := (Int.le_ediv_iff_mul_le hc).mp h1
    omega
  · simp at hk
/-! ### floods by steps -/
theorem nodup_len : ∀ (n : Nat) (Q : List Nat), Q.Nodup → (∀ x ∈ Q, x < n) → Q.length ≤ n
  | 0, Q, _, h => by
    cases Q with
    | nil => exact Nat.le_refl _
    | cons x xs => exact absurd (h x List.mem_cons_self) (by omega)
  | n + 1, Q, hd, h => by
    have h2 := nodup_len n (Q.erase n) (hd.erase n) fun x hx => by
      have := (hd.mem_erase_iff).mp hx
      have := h x this.2
      omega
    have : Q.length ≤ (Q.erase n).length + 1 := by
      rw [List.length_erase]
      split <;> omega
    omega
def itN (n : Nat) (f : Nat → Nat) (st : Nat) : Nat → Nat
  | 0 => st
  | k + 1 => nxt n f (itN n f st k)
theorem itN_lt {n : Nat} {f : Nat → Nat} (hf : ∀ s, s < n → f s < 2 ^ n) {st : Nat} (h : st < 2 ^ n) : ∀ k, itN n f st k < 2 ^ n
  | 0 => h
  | k + 1 => nxt_lt hf (itN_lt hf h k)
theorem itN_sub {n : Nat} {f : Nat → Nat} {st : Nat} {t : Nat} : ∀ {j k : Nat}, j ≤ k → (itN n f st j).testBit t = true → (itN n f st k).testBit t = true := by
  intro j k h ht
  induction k with
  | zero => rw [show j = 0 by omega] at ht; exact ht
  | succ k ih =>
    by_cases e : j = k + 1
    · rw [← e]; exact ht
    · exact nxt_sub _ _ _ _ (ih (by omega))
theorem nxt_iff {n : Nat} {f : Nat → Nat} {c t : Nat} : (nxt n f c).testBit t = true ↔ c.testBit t = true ∨ ∃ u, u < n ∧ c.testBit u = true ∧ (f u).testBit t = true := by
  unfold nxt
  rw [Nat.testBit_or, testBit_orAll, Bool.or_eq_true, List.any_eq_true]
  constructor
  · intro h
    rcases h with h | ⟨u, h1, h2⟩
    · exact .inl h
    · obtain ⟨a, b⟩ := mem_bitsL.mp h1
      exact .inr ⟨u, a, b, h2⟩
  · intro h
    rcases h with h | ⟨u, h1, h2, h3⟩
    · exact .inl h
    · exact .inr ⟨u, mem_bitsL.mpr ⟨h1, h2⟩, h3⟩
theorem Lay.it {n : Nat} {f : Nat → Nat} {st : Nat} {L : List Nat} (h : Lay n f L) (h0 : ∃ l, L = st :: l) : ∀ i, (hi : i < L.length) → L[i] = itN n f st i
  | 0, hi => by obtain ⟨l, rfl⟩ := h0; rfl
  | i + 1, hi => by
    rw [(h.at i hi).1, Lay.it h h0 i (by omega)]; rfl
theorem Lay.end {n : Nat} {f : Nat → Nat} {st : Nat} {L : List Nat} (h : Lay n f L) (h0 : ∃ l, L = st :: l) (hne : L ≠ []) : ∀ k, L.length ≤ k + 1 → itN n f st k = L.getLast hne := by
  intro k
  induction k with
  | zero =>
    intro hk
    obtain ⟨l, rfl⟩ := h0
    have : l = [] := by
      cases l with
      | nil => rfl
      | cons a b => simp at hk
    subst this; rfl
  | succ k ih =>
    intro hk
    by_cases e : L.length ≤ k + 1
    · show nxt n f (itN n f st k) = _
      rw [ih e]; exact h.last hne
    · have e2 : L.length = k + 2 := by omega
      rw [List.getLast_eq_getElem, ← Lay.it h h0 (k + 1) (by omega)]
      congr 1
      omega
end B

namespace B
open PySem Z
/-! ### what an answer is wanted for, from the front -/
section
variable {α β σ ρ : Type} {A : β → Prop}
theorem W.bind {m : Option α} {k : α → Option β} {P : α → Prop} (h : OP m P) (hk : ∀ x, P x → OP (k x) A) : OP (m.bind k) A := by
  obtain ⟨x, rfl, hx⟩ := OP.get h
  exact hk x hx
theorem W.eq {m : Option α} {a : α} {k : α → Option β} (h : m = some a) (hk : OP (k a) A) : OP (m.bind k) A := by rw [h]; exact hk
theorem W.grd {c : Prop} {_ : Decidable c} {k : Option β} (h : c) (hk : OP k A) : OP (Z.grd c k) A := by rw [grd_of h]; exact hk
theorem W.lt {e : α} {k : α → Option β} (hk : OP (k e) A) : OP (Z.lt e k) A := hk
theorem W.ltx {e : α} {k : α → Option β} (hk : ∀ x, x = e → OP (k x) A) : OP (Z.lt e k) A := hk e rfl
theorem W.ite {c : Bool} {m n : Option β} (h1 : c = true → OP m A) (h2 : c = false → OP n A) : OP (ifo c m n) A := by
  cases c with
  | true => rw [ifo_t rfl]; exact h1 rfl
  | false => rw [ifo_f rfl]; exact h2 rfl
theorem W.t {c : Bool} {m n : Option β} (hc : c = true) (h : OP m A) : OP (ifo c m n) A := by rw [ifo_t hc]; exact h
theorem W.f {c : Bool} {m n : Option β} (hc : c = false) (h : OP n A) : OP (ifo c m n) A := by rw [ifo_f hc]; exact h
theorem W.ret {a : β} (h : A a) : OP (some a) A := h
theorem W.as {m : Option β} {P : β → Prop} (h : OP m P) (hk : ∀ x, P x → A x) : OP m A := h.mono hk
theorem W.got {m : Option β} {a : β} (h : OP m (· = a)) : m = some a := by
  obtain ⟨x, rfl, e⟩ := OP.get h
  rw [e]
theorem W.of {m : Option β} {a : β} (e : m = some a) (h : A a) : OP m A := OP.mk e h
theorem W.brk {m : Option (σ ⊕ β)} {k : σ → Option β} {P : σ → Prop} (h : OP m (SE P A)) (hk : ∀ s, P s → OP (k s) A) : OP (Z.brk m k) A := by
  obtain ⟨x, rfl, hx⟩ := OP.get h
  cases x with
  | inl s => exact hk s hx
  | inr v => exact hx
/-! loops -/
theorem W.for_inv {body : α → σ → Option σ} (I : σ → Prop) : ∀ {xs : List α} {s : σ}, I s → (∀ x ∈ xs, ∀ s, I s → OP (body x s) I) → OP (forO body xs s) I
  | [], s, h, _ => by rw [forO_nil]; exact h
  | x :: xs, s, h, hs => by
    rw [forO_cons]
    exact W.bind (hs x List.mem_cons_self s h) fun s' h' => W.for_inv I h' fun y hy => hs y (List.mem_cons_of_mem _ hy)
theorem W.for_pre {body : α → σ → Option σ} (I : List α → σ → Prop) {xs : List α} {s : σ} (h : I [] s) (hs : ∀ pre x suf s, xs = pre ++ x :: suf → I pre s → OP (body x s) (I (pre ++ [x]))) : OP (forO body xs s) (I xs) := by
  have key : ∀ (suf pre : List α) (s : σ), xs = pre ++ suf → I pre s → OP (forO body suf s) (I xs) := by
    intro suf
    induction suf with
    | nil => intro pre s e h; rw [forO_nil]; rw [e, List.append_nil]; exact h
    | cons x suf ih =>
      intro pre s e h
      rw [forO_cons]
      exact W.bind (hs pre x suf s e h) fun s' h' => ih (pre ++ [x]) s' (by rw [List.append_assoc]; exact e) h'
  exact key xs [] s rfl h
theorem W.for_rng {body : Int → σ → Option σ} (I : Nat → σ → Prop) : ∀ {n a : Nat} {s : σ}, I a s → (∀ i s, a ≤ i → i < a + n → I i s → OP (body (i : Int) s) (I (i + 1))) → OP (forO body (rangeI (a : Int) n) s) (I (a + n))
  | 0, a, s, h, _ => by rw [rangeI_zero, forO_nil]; exact h
  | n + 1, a, s, h, hs => by
    rw [rangeI_succ, forO_cons]
    refine W.bind (hs a s (Nat.le_refl _) (by omega) h) fun s' h' => ?_
    have := W.for_rng (body := body) I (n := n) (a := a + 1) h' fun i s h1 h2 => hs i s (by omega) (by omega)
    rw [show ((a : Int) + 1) = ((a + 1 : Nat) : Int) by omega, show a + (n + 1) = a + 1 + n by omega]
    exact this
theorem W.for_r {body : Int → σ → Option σ} (I : Nat → σ → Prop) {n : Nat} {s : σ} (h : I 0 s) (hs : ∀ i s, i < n → I i s → OP (body (i : Int) s) (I (i + 1))) : OP (forO body (rangeI 0 n) s) (I n) := by
  have := W.for_rng (body := body) I (n := n) (a := 0) h fun i s _ h2 => hs i s (by omega)
  rw [Nat.zero_add] at this
  exact this
theorem W.for_tab {body : Int → σ → Option σ} {f : Nat → Nat} (I : Nat → σ → Prop) {n : Nat} {s : σ} (h : I 0 s) (hs : ∀ i s, i < n → I i s → OP (body ((f i : Nat) : Int) s) (I (i + 1))) : OP (forO body (tab n f) s) (I n) := by
  obtain ⟨s', e, h'⟩ := forO_map (g := fun i => ((f i : Nat) : Int)) I n s h fun i s hi hI => by
    obtain ⟨x, e, hx⟩ := OP.get (hs i s hi hI)
    exact ⟨x, e, hx⟩
  exact OP.mk e h'
theorem W.for_map {body : α → σ → Option σ} {g : Nat → α} (I : Nat → σ → Prop) {n : Nat} {s : σ} (h : I 0 s) (hs : ∀ i s, i < n → I i s → OP (body (g i) s) (I (i + 1))) : OP (forO body ((List.range n).map g) s) (I n) := by
  obtain ⟨s', e, h'⟩ := forO_map (g := g) I n s h fun i s hi hI => by
    obtain ⟨x, e, hx⟩ := OP.get (hs i s hi hI)
    exact ⟨x, e, hx⟩
  exact OP.mk e h'
theorem W.forR_inv {body : α → σ → Option (σ ⊕ ρ)} (I : σ → Prop) (V : ρ → Prop) : ∀ {xs : List α} {s : σ}, I s → (∀ x ∈ xs, ∀ s, I s → OP (body x s) (SE I V)) → OP (forR body xs s) (SE I V)
  | [], s, h, _ => by rw [forR_nil]; exact h
  | x :: xs, s, h, hs => by
    rw [forR_cons]
    refine W.bind (hs x List.mem_cons_self s h) fun r hr => ?_
    cases r with
    | inl s' => exact W.forR_inv I V hr fun y hy => hs y (List.mem_cons_of_mem _ hy)
    | inr v => exact hr
theorem W.forR_pre {body : α → σ → Option (σ ⊕ ρ)} (I : List α → σ → Prop) (V : ρ → Prop) {xs : List α} {s : σ} (h : I [] s) (hs : ∀ pre x suf s, xs = pre ++ x :: suf → I pre s → OP (body x s) (SE (I (pre ++ [x])) V)) : OP (forR body xs s) (SE (I xs) V) := by
  have key : ∀ (suf pre : List α) (s : σ), xs = pre ++ suf → I pre s → OP (forR body suf s) (SE (I xs) V) := by
    intro suf
    induction suf with
    | nil => intro pre s e h; rw [forR_nil]; rw [e, List.append_nil]; exact h
    | cons x suf ih =>
      intro pre s e h
      rw [forR_cons]
      refine W.bind (hs pre x suf s e h) fun r hr => ?_
      cases r with
      | inl s' => exact ih (pre ++ [x]) s' (by rw [List.append_assoc]; exact e) hr
      | inr v => exact hr
  exact key xs [] s rfl h
theorem W.forR_rng {body : Int → σ → Option (σ ⊕ ρ)} (I : Nat → σ → Prop) (V : ρ → Prop) : ∀ {n a : Nat} {s : σ}, I a s → (∀ i s, a ≤ i → i < a + n → I i s → OP (body (i : Int) s) (SE (I (i + 1)) V)) → OP (forR body (rangeI (a : Int) n) s) (SE (I (a + n)) V)
  | 0, a, s, h, _ => by rw [rangeI_zero, forR_nil]; exact h
  | n + 1, a, s, h, hs => by
    rw [rangeI_succ, forR_cons]
    refine W.bind (hs a s (Nat.le_refl _) (by omega) h) fun r hr => ?_
    cases r with
    | inl s' =>
      have := W.forR_rng (body := body) I V (n := n) (a := a + 1) hr fun i s h1 h2 => hs i s (by omega) (by omega)
      rw [show ((a : Int) + 1) = ((a + 1 : Nat) : Int) by omega, show a + (n + 1) = a + 1 + n by omega]
      exact this
    | inr v => exact hr
theorem W.forR_r {body : Int → σ → Option (σ ⊕ ρ)} (I : Nat → σ → Prop) (V : ρ → Prop) {n : Nat} {s : σ} (h : I 0 s) (hs : ∀ i s, i < n → I i s → OP (body (i : Int) s) (SE (I (i + 1)) V)) : OP (forR body (rangeI 0 n) s) (SE (I n) V) := by
  have := W.forR_rng (body := body) I V (n := n) (a := 0) h fun i s _ h2 => hs i s (by omega)
  rw [Nat.zero_add] at this
  exact this
theorem W.forR_map {body : α → σ → Option (σ ⊕ ρ)} {g : Nat → α} (I : Nat → σ → Prop) (V : ρ → Prop) {n : Nat} {s : σ} (h : I 0 s) (hs : ∀ i s, i < n → I i s → OP (body (g i) s) (SE (I (i + 1)) V)) : OP (forR body ((List.range n).map g) s) (SE (I n) V) := by
  have key : ∀ (n a : Nat) (s : σ), I a s → (∀ i s, a ≤ i → i < a + n → I i s → OP (body (g i) s) (SE (I (i + 1)) V)) → OP (forR body ((List.range' a n).map g) s) (SE (I (a + n)) V) := by
    intro n
    induction n with
    | zero => intro a s h _; rw [List.range'_zero, List.map_nil, forR_nil]; exact h
    | succ n ih =>
      intro a s h hs
      rw [List.range'_succ, List.map_cons, forR_cons]
      refine W.bind (hs a s (Nat.le_refl _) (by omega) h) fun r hr => ?_
      cases r with
      | inl s' =>
        have := ih (a + 1) s' hr fun i s h1 h2 => hs i s (by omega) (by omega)
        rw [show a + (n + 1) = a + 1 + n by omega]
        exact this
      | inr v => exact hr
  have := key n 0 s h fun i s _ h2 => hs i s (by omega)
  rw [Nat.zero_add] at this
  rw [List.range_eq_range']
  exact this
/-- a while, by a measure -/
theorem W.while' {c : σ → Option Bool} {body : σ → Option σ} (I : σ → Prop) (μ : σ → Nat) (P : σ → Prop) : ∀ {fuel : Nat} {s : σ}, I s → μ s < fuel → (∀ s, I s → OP (c s) fun b => (b = true → OP (body s) fun s' => I s' ∧ μ s' < μ s) ∧ (b = false → P s)) → OP (whileO c body fuel s) P
  | 0, s, _, hm, _ => by omega
  | f + 1, s, h, hm, hs => by
    rw [whileO_succ]
    refine W.bind (hs s h) fun b hb => ?_
    cases b with
    | true =>
      rw [if_pos rfl]
      exact W.bind (hb.1 rfl) fun s' h' => W.while' I μ P h'.1 (by omega) hs
    | false =>
      rw [if_neg Bool.false_ne_true]
      exact hb.2 rfl
theorem W.whileR' {c : σ → Option Bool} {body : σ → Option (σ ⊕ ρ)} (I : σ → Prop) (μ : σ → Nat) (P : σ → Prop) (V : ρ → Prop) : ∀ {fuel : Nat} {s : σ}, I s → μ s < fuel → (∀ s, I s → OP (c s) fun b => (b = true → OP (body s) (SE (fun s' => I s' ∧ μ s' < μ s) V)) ∧ (b = false → P s)) → OP (whileR c body fuel s) (SE P V)
  | 0, s, _, hm, _ => by omega
  | f + 1, s, h, hm, hs => by
    rw [whileR_succ]
    refine W.bind (hs s h) fun b hb => ?_
    cases b with
    | true =>
      rw [if_pos rfl]
      refine W.bind (hb.1 rfl) fun r hr => ?_
      cases r with
      | inl s' => exact W.whileR' I μ P V hr.1 (by have := hr.2; omega) hs
      | inr v => exact hr
    | false =>
      rw [if_neg Bool.false_ne_true]
      exact hb.2 rfl
theorem W.while {c : σ → Option Bool} {body : σ → Option σ} (I : σ → Prop) (μ : σ → Nat) (P : σ → Prop) {s : σ} (h : I s) (hm : μ s < 1000000) (hs : ∀ s, I s → OP (c s) fun b => (b = true → OP (body s) fun s' => I s' ∧ μ s' < μ s) ∧ (b = false → P s)) : OP (whileO c body bigN s) P := W.while' I μ P h (by rw [bigN_eq']; exact hm) hs
theorem W.whileR {c : σ → Option Bool} {body : σ → Option (σ ⊕ ρ)} (I : σ → Prop) (μ : σ → Nat) (P : σ → Prop) (V : ρ → Prop) {s : σ} (h : I s) (hm : μ s < 1000000) (hs : ∀ s, I s → OP (c s) fun b => (b = true → OP (body s) (SE (fun s' => I s' ∧ μ s' < μ s) V)) ∧ (b = false → P s)) : OP (whileR c body bigN s) (SE P V) := W.whileR' I μ P V h (by rw [bigN_eq']; exact hm) hs
/-- a comprehension -/
theorem W.comp [Inhabited β] {f : α → Option (Option β)} {xs : List α} (P : α → β → Prop) (hl : xs.length ≤ 16777216) (h : ∀ x ∈ xs, OP (f x) fun r => ∃ y, r = some y ∧ P x y) : OP (compO f xs) fun ys => ∃ g : α → β, ys = xs.map g ∧ ∀ x ∈ xs, P x (g x) := by
  have : ∀ x : α, ∃ y : β, x ∈ xs → f x = some (some y) ∧ P x y := fun x => by
    by_cases hx : x ∈ xs
    · obtain ⟨r, e, y, rfl, hy⟩ := OP.get (h x hx)
      exact ⟨y, fun _ => ⟨e, hy⟩⟩
    · exact ⟨default, fun q => absurd q hx⟩
  obtain ⟨g, hg⟩ := Classical.axiomOfChoice this
  exact OP.mk (comp_map (g := g) hl fun x hx => (hg x hx).1) ⟨g, rfl, fun x hx => (hg x hx).2⟩
end
theorem comp_map2 {α β γ : Type} {xs : List γ} {h : γ → α} {f : α → Option (Option β)} {g : γ → β} (hl : xs.length ≤ 16777216) (hf : ∀ x ∈ xs, f (h x) = some (some (g x))) : compO f (xs.map h) = some (xs.map g) := by
  have key : ∀ ys : List γ, (∀ x ∈ ys, f (h x) = some (some (g x))) → compO' f (ys.map h) = some (ys.map g) := by
    intro ys
    induction ys with
    | nil => intro _; rfl
    | cons y ys ih =>
      intro hy
      rw [List.map_cons, List.map_cons]
      unfold compO'
      rw [hy y List.mem_cons_self, ih fun z hz => hy z (List.mem_cons_of_mem _ hz)]
      rfl
  unfold compO
  rw [if_pos (by rw [List.length_map]; exact hl)]
  exact key xs hf
theorem mask_eq' {n : Nat} {p : Nat → Bool} {x : Nat} (hx : x < 2 ^ n) (h : ∀ i, i < n → x.testBit i = p i) : mask n p = x := (mask_ext hx h).symm
/-! ### whole numbers within bounds -/
def In (x N : Int) : Prop := 0 ≤ x ∧ x < N
theorem In.nat {x : Int} {N : Nat} (h : In x (N : Int)) : ∃ k : Nat, k < N ∧ x = (k : Int) := ⟨x.toNat, by have := h.1; have := h.2; omega, by have := h.1; omega⟩
theorem In.of {k N : Nat} (h : k < N) : In (k : Int) (N : Int) := ⟨by omega, by omega⟩
theorem In.zero {N : Nat} (h : 0 < N) : In 0 (N : Int) := ⟨by omega, by omega⟩
theorem In.emod {v : Int} {N : Nat} (h : 0 < N) : In (v % (N : Int)) (N : Int) := ⟨Int.emod_nonneg v (by omega), Int.emod_lt_of_pos v (by omega)⟩
theorem In.emod' {v N : Int} (h : 0 < N) : In (v % N) N := ⟨Int.emod_nonneg v (by omega), Int.emod_lt_of_pos v (by omega)⟩
theorem In.shl1 {k : Int} {n : Nat} (h : In k (n : Int)) : In (shl 1 k) ((2 ^ n : Nat) : Int) := by
  obtain ⟨j, hj, rfl⟩ := h.nat
  rw [shl1_nat]
  exact In.of (pow_lt2 hj)
theorem In.bor {a b : Int} {n : Nat} (ha : In a ((2 ^ n : Nat) : Int)) (hb : In b ((2 ^ n : Nat) : Int)) : In (bor a b) ((2 ^ n : Nat) : Int) := by
  obtain ⟨j, hj, rfl⟩ := ha.nat
  obtain ⟨k, hk, rfl⟩ := hb.nat
  rw [bor_nat]
  exact In.of (Nat.or_lt_two_pow hj hk)
theorem In.bxor {a b : Int} {n : Nat} (ha : In a ((2 ^ n : Nat) : Int)) (hb : In b ((2 ^ n : Nat) : Int)) : In (bxor a b) ((2 ^ n : Nat) : Int) := by
  obtain ⟨j, hj, rfl⟩ := ha.nat
  obtain ⟨k, hk, rfl⟩ := hb.nat
  rw [bxor_nat]
  exact In.of (xor_lt hj hk)
theorem In.band {a b M N : Int} (ha : In a N) (hb : In b M) : In (band a b) N := by
  obtain ⟨j, rfl⟩ : ∃ j : Nat, a = (j : Int) := ⟨a.toNat, by have := ha.1; omega⟩
  obtain ⟨k, rfl⟩ : ∃ k : Nat, b = (k : Int) := ⟨b.toNat, by have := hb.1; omega⟩
  rw [band_nat]
  have : j &&& k ≤ j := Nat.and_le_left
  exact ⟨by omega, by have := ha.2; omega⟩
theorem In.bandn {a b M N : Int} (ha : In a N) (hb : In b M) : In (Z.band a (bnot b)) N := by
  obtain ⟨j, rfl⟩ : ∃ j : Nat, a = (j : Int) := ⟨a.toNat, by have := ha.1; omega⟩
  obtain ⟨k, rfl⟩ : ∃ k : Nat, b = (k : Int) := ⟨b.toNat, by have := hb.1; omega⟩
  rw [bandn_nat]
  have : andn j k ≤ j := by
    have h1 := nat_xor_and j (j &&& k)
    have h2 : j &&& (j &&& k) = j &&& k := by rw [← Nat.and_assoc, Nat.and_self]
    rw [h2] at h1
    have h3 : j &&& k ≤ j := Nat.and_le_left
    unfold andn
    omega
  exact ⟨by omega, by have := ha.2; omega⟩
theorem In.compl {a : Int} {n : Nat} (ha : In a ((2 ^ n : Nat) : Int)) : In (((2 ^ n : Nat) : Int) - 1 - a) ((2 ^ n : Nat) : Int) := ⟨by have := ha.2; omega, by have := ha.1; omega⟩
theorem In.full (n : Nat) : In (((2 ^ n : Nat) : Int) - 1) ((2 ^ n : Nat) : Int) := ⟨by have := Nat.two_pow_pos n; omega, by omega⟩
theorem In.tail {k : Int} {n : Nat} (h : In k (n : Int)) : In (((2 ^ n : Nat) : Int) - shl 1 k) ((2 ^ n : Nat) : Int) := by
  obtain ⟨j, hj, rfl⟩ := h.nat
  rw [shl1_nat]
  have := pow_lt2 hj
  have := Nat.two_pow_pos j
  exact ⟨by omega, by omega⟩
theorem In.le {x M N : Int} (h : In x M) (hl : M ≤ N) : In x N := ⟨h.1, by have := h.2; omega⟩
theorem gPow1I {x N : Int} (h : In x N) (hN : N ≤ 1000001) : gPow 1 x := ⟨h.1, by have := h.2; omega, by decide⟩
theorem gR_I {x N : Int} (h : In x N) (hN : N ≤ 2 ^ 62) : gR x := ⟨by have := h.1; omega, by have := h.2; omega⟩
end B

namespace B
open PySem Z E L2
theorem cell_at_eq (ns : List Int) (k : Nat) : ∃ v, m__law_cell_at ns (k : Int) = some v := by
  unfold m__law_cell_at
  by_cases h : k < ns.length
  · rw [ifo_t (decide_eq_true (by omega))]
    rw [bind_eq (atI_nat' h)]
    first
      | exact ⟨_, rfl⟩
      | exact ⟨_, grd_of (by decide)⟩
  · rw [ifo_f (decide_eq_false (by omega))]
    exact ⟨0, rfl⟩
/-- the number of lamps -/
theorem many_of (v : Int) : ∃ m : Nat, 1 ≤ m ∧ m ≤ 6 ∧ (1 : Int) + v % 6 = (m : Int) := by
  obtain ⟨k, h1, h2⟩ := mod_nat v (n := 6) (by decide)
  have : v % ((6 : Nat) : Int) = v % 6 := rfl
  exact ⟨k + 1, by omega, by omega, by omega⟩
end B

namespace B
open PySem Z E L2
theorem stands_eq {n c : Nat} (hn : n ≤ 1000) (hc : c < 2 ^ n) : m_stands_of (c : Int) = some (zL (bitsL n c)) := by
  unfold m_stands_of
  have key : ∀ (m c : Nat) (acc : List Int) (fuel : Nat), (bitsL n c).length = m → c < 2 ^ n → acc.length + m ≤ 1000 → m < fuel → whileO (fun s => un2 (fun crowd19 found23 =>
      some (decide (0 < crowd19))) s) (fun s => un2 (fun crowd19 found23 =>
      lt (band crowd19 (-crowd19)) fun lowest31 =>
      grd (found23.length < 16777216) <|
      lt (found23 ++ [((blen lowest31) - 1)]) fun l33 =>
      lt (bxor crowd19 lowest31) fun crowd40 =>
      some (crowd40, l33)) s) fuel ((c : Int), acc) = some ((0 : Int), acc ++ zL (bitsL n c)) := by
    intro m
    induction m with
    | zero =>
      intro c acc fuel hl hc ha hf
      have h0 : c = 0 := by
        by_cases h : c = 0
        · exact h
        · obtain ⟨k, k1, _, _⟩ := least_bit c (by omega)
          have : k ∈ bitsL n c := mem_bitsL.mpr ⟨tb_lt hc k1, k1⟩
          rw [List.length_eq_zero_iff.mp hl] at this; cases this
      subst h0
      obtain ⟨f, rfl⟩ : ∃ f, fuel = f + 1 := ⟨fuel - 1, by omega⟩
      rw [whileO_succ, un2_mk, sb, bitsL_zero]
      show (if decide ((0 : Int) < 0) = true then _ else some ((0 : Int), acc)) = _
      rw [if_neg (by decide)]
      unfold zL
      rw [List.map_nil, List.append_nil]
    | succ m ih =>
      intro c acc fuel hl hc ha hf
      have hpos : 0 < c := by
        by_cases h : c = 0
        · subst h; rw [bitsL_zero] at hl; cases hl
        · omega
      obtain ⟨f, rfl⟩ : ∃ f, fuel = f + 1 := ⟨fuel - 1, by omega⟩
      obtain ⟨k, k1, k2, k3⟩ := least_bit c hpos
      have hk := tb_lt hc k1
      have hcons := bitsL_cons hk k1 k2
      rw [whileO_succ, un2_mk, sb, if_pos (decide_eq_true (show (0 : Int) < (c : Int) by omega)), un2_mk, low_nat hpos, k3, lt_eq, grd_of (by omega), blen_pow, lt_eq, bxor_nat, lt_eq, sb]
      have hlen : (bitsL n (c ^^^ 2 ^ k)).length = m := by
        have := congrArg List.length hcons
        rw [hl, List.length_cons] at this
        omega
      rw [show (((k + 1 : Nat) : Int) - 1) = (k : Int) by omega, ih _ _ f hlen (xor_lt hc (Nat.pow_lt_pow_right (by decide) hk)) (by rw [List.length_append]; show acc.length + 1 + m ≤ 1000; omega) (by omega), hcons, List.append_assoc]
      rfl
  have hl := bitsL_len n c
  rw [bind_eq (key _ c [] bigN rfl hc (by show 0 + _ ≤ 1000; omega) (by rw [bigN_eq']; omega)), un2_mk, List.nil_append]

theorem n64 {m : Nat} (hm : m ≤ 6) : 2 ^ m ≤ 64 := by
  have := Nat.pow_le_pow_right (n := 2) (by decide) hm
  exact this
def okS (m : Nat) : Sc → Bool
  | .int i => decide (0 ≤ i) && decide (i < ((2 ^ 2 ^ m : Nat) : Int))
  | _ => false
def okL (m : Nat) : Dv → Bool
  | .lst xs => decide (xs.length = 2 ^ m) && xs.all (okS m)
  | _ => false
theorem whole_eq (x : Sc) : m_is_whole x = some (x.isI && !x.isB) := by unfold m_is_whole; rfl
theorem crowd_eq {m : Nat} (hm : m ≤ 6) (x : Sc) : m_is_crowd (.int (m : Int)) x = some (okS m x) := by
  have h64 := n64 hm
  unfold m_is_crowd
  rw [bind_eq (whole_eq _)]
  cases x with
  | int i =>
    rw [ifo_f (show (!((Sc.int i).isI && !(Sc.int i).isB)) = false from rfl)]
    show Option.bind (some i) _ = _
    rw [sb]
    by_cases h : 0 ≤ i
    · rw [ifo_t (decide_eq_true h)]
      show (Option.bind (Option.bind (some (m : Int)) _) _) = _
      rw [sb, grd_of (gPow1 (by omega)), shl1_nat, grd_of (gPow1 (by omega)), shl1_nat]
      show (Option.bind (Option.bind (some i) _) _) = _
      rw [sb, sb]
      show some (decide _) = some (decide _ && decide _)
      rw [decide_eq_true h]; rfl
    · rw [ifo_f (decide_eq_false h), sb]
      show some false = some (decide _ && decide _)
      rw [decide_eq_false h]; rfl
  | bool b => exact ifo_t rfl
  | non => exact ifo_t rfl
  | str s => exact ifo_t rfl
theorem enumF_mem {α : Type} : ∀ {xs : List α} {k : Nat} {x : Int × α}, x ∈ enumF k xs → (∃ i : Nat, i < k + xs.length ∧ x.1 = (i : Int)) ∧ x.2 ∈ xs
  | [], _, _, h => by cases h
  | y :: ys, k, x, h => by
    rcases List.mem_cons.mp (show x ∈ (((k : Nat) : Int), y) :: enumF (k + 1) ys from h) with e | e
    · subst e
      exact ⟨⟨k, by rw [List.length_cons]; omega, rfl⟩, List.mem_cons_self⟩
    · obtain ⟨⟨i, h1, h2⟩, h3⟩ := enumF_mem e
      exact ⟨⟨i, by rw [List.length_cons]; omega, h2⟩, List.mem_cons_of_mem _ h3⟩
theorem okS_nat {m : Nat} {x : Sc} (h : okS m x = true) : ∃ c : Nat, c < 2 ^ 2 ^ m ∧ x = .int (c : Int) := by
  cases x with
  | int i =>
    have h := Bool.and_eq_true_iff.mp (show (decide _ && decide _) = true from h)
    have h1 := of_decide_eq_true h.1
    have h2 := of_decide_eq_true h.2
    exact ⟨i.toNat, by omega, by rw [Int.toNat_of_nonneg h1]⟩
  | bool b => cases h
  | non => cases h
  | str s => cases h
theorem leading_ok {m : Nat} (hm : m ≤ 6) {xs : List Sc} (hl : xs.length = 2 ^ m) (h : ∀ x ∈ xs, okS m x = true) : ∃ b, m_leading_back xs = some b := by
  have h64 := n64 hm
  suffices q : OP (m_leading_back xs) fun _ => True from by
    obtain ⟨b, e, _⟩ := OP.get q; exact ⟨b, e⟩
  unfold m_leading_back
  refine W.eq (comp_const (by omega)) ?_
  refine W.bind (P := fun b : List Int => b.length = 2 ^ m) (W.for_inv (fun b : List Int => b.length = 2 ^ m) (by rw [List.length_map]; exact hl) fun x hx b hb => ?_) fun b _ => trivial
  obtain ⟨⟨i, h1, h2⟩, h3⟩ := enumF_mem hx
  obtain ⟨c, hc, e⟩ := okS_nat (h _ h3)
  rw [e]
  show OP (Option.bind (some (c : Int)) _) _
  rw [sb]
  refine W.eq (stands_eq (n := 2 ^ m) (by omega) hc) ?_
  refine W.bind (P := fun b : List Int => b.length = 2 ^ m) (W.for_inv (fun b : List Int => b.length = 2 ^ m) hb fun t ht b hb => ?_) fun b hb => hb
  obtain ⟨k, hk, rfl⟩ := mem_zL ht
  have hk2 := (mem_bitsL.mp hk).1
  refine W.eq (atI_nat' (by omega)) (W.grd (by rw [h2]; exact gPow1 (by omega)) (W.eq (setI_nat (by omega)) (W.ret ?_)))
  rw [List.length_set]; exact hb
/-- the number of lamps is none -/
def badN : Sc → Bool
  | .int i => decide (i < 1) || decide (6 < i)
  | _ => true
theorem chart_many {x s b : Sc} {l : Dv} (h : badN x = true) : m_Chart___init__ x s b l = some (.error 2) := by
  unfold m_Chart___init__
  rw [bind_eq (whole_eq _)]
  cases x with
  | int i =>
    have h := Bool.or_eq_true_iff.mp (show (decide _ || decide _) = true from h)
    rw [ifo_f (show (!((Sc.int i).isI && !(Sc.int i).isB)) = false from rfl)]
    show Option.bind (Option.bind (some i) _) _ = _
    rw [sb]
    by_cases h1 : i < 1
    · rw [ifo_t (decide_eq_true h1), sb, sb, ifo_tt]
    · rw [ifo_f (decide_eq_false h1)]
      show Option.bind (Option.bind (Option.bind (some i) _) _) _ = _
      rw [sb, sb, sb]
      exact ifo_t (h.resolve_left fun q => h1 (of_decide_eq_true q))
  | bool b => rw [ifo_t (show (!((Sc.bool b).isI && !(Sc.bool b).isB)) = true from rfl), sb, ifo_tt]
  | non => rw [ifo_t (show (!(Sc.non.isI && !Sc.non.isB)) = true from rfl), sb, ifo_tt]
  | str s => rw [ifo_t (show (!((Sc.str s).isI && !(Sc.str s).isB)) = true from rfl), sb, ifo_tt]
theorem chart_eq {m : Nat} (h1 : 1 ≤ m) (h2 : m ≤ 6) {s b : Sc} {l : Dv} :
    ((okS m s && okS m b && okL m l) = false → m_Chart___init__ (.int (m : Int)) s b l = some (.error 2)) ∧
    ((okS m s && okS m b && okL m l) = true → ∃ x, m_Chart___init__ (.int (m : Int)) s b l = some (.ok x) ∧ x.many = (m : Int) ∧ s = .int x.starts ∧ b = .int x.bads) := by
  have h64 := n64 h2
  unfold m_Chart___init__
  rw [bind_eq (whole_eq _), ifo_f (show (!((Sc.int (m : Int)).isI && !(Sc.int (m : Int)).isB)) = false from rfl)]
  rw [show (Sc.int (m : Int)).getI = some (m : Int) from rfl]
  simp only [sb]
  rw [ifo_f (show decide ((m : Int) < 1) = false from decide_eq_false (by omega)), sb, sb]
  rw [ifo_f (show decide (6 < (m : Int)) = false from decide_eq_false (by omega))]
  simp only [crowd_eq h2, sb]
  cases hs : okS m s with
  | false => exact ⟨fun _ => by rw [nf, ifo_tt, sb, ifo_tt], fun q => by cases q⟩
  | true =>
    cases hb : okS m b with
    | false => exact ⟨fun _ => by rw [nt, nf, ifo_ff, sb, ifo_tt], fun q => by cases q⟩
    | true =>
      rw [nt, ifo_ff, sb, ifo_ff]
      obtain ⟨sn, _, rfl⟩ := okS_nat hs
      obtain ⟨bn, _, rfl⟩ := okS_nat hb
      cases l with
      | non => exact ⟨fun _ => by rw [ifo_t (show (!Dv.non.isL) = true from rfl), sb, ifo_tt], fun q => by cases q⟩
      | tup xs => exact ⟨fun _ => by rw [ifo_t (show (!(Dv.tup xs).isL) = true from rfl), sb, ifo_tt], fun q => by cases q⟩
      | lst xs =>
        rw [show (Dv.lst xs).getL = some xs from rfl, show (Dv.lst xs).isL = true from rfl, nt, ifo_ff]
        simp only [sb]
        rw [grd_of (gPow1 (by omega)), sb, shl1_nat]
        show ((decide _ && xs.all _) = false → _) ∧ ((decide _ && xs.all _) = true → _)
        by_cases hl : xs.length = 2 ^ m
        · rw [decide_eq_true hl, decide_eq_true (show (xs.length : Int) = ((2 ^ m : Nat) : Int) by rw [hl]), nt, ifo_ff]
          have key : forR (fun (crowd37 : Sc) (_ : Unit) =>
              Option.bind (some (okS m crowd37)) fun v52 =>
              ifo (!v52) (
              some (.inr ((.error 2 : Except Nat O_Chart)))) (
              some (.inl ()))) xs () = some (if xs.all (okS m) = true then .inl () else .inr (.error 2)) := forR_allL (okS m) fun x _ => by
            cases okS m x with
            | true => rw [sb, nt, ifo_ff]; rfl
            | false => rw [sb, nf, ifo_tt]; rfl
          constructor
          · intro q
            rw [show xs.all (okS m) = false from q, if_neg (fun z => by cases z)] at key
            exact brk_inr key
          · intro q
            have q : xs.all (okS m) = true := q
            rw [q, if_pos rfl] at key
            obtain ⟨bk, ebk⟩ := leading_ok h2 hl fun x hx => List.all_eq_true.mp q x hx
            refine ⟨O_Chart.mk (m : Int) (sn : Int) (bn : Int) xs bk, (brk_inl key).trans ?_, rfl, rfl, rfl⟩
            show Option.bind (m_leading_back xs) _ = _
            rw [ebk]; rfl
        · rw [decide_eq_false hl, decide_eq_false (show ¬ (xs.length : Int) = ((2 ^ m : Nat) : Int) by omega), nf, ifo_tt]
          exact ⟨fun _ => rfl, fun q => by cases q⟩
end B

namespace B
open PySem Z E L2
theorem bad_crowd_eq {m : Nat} (hm : m ≤ 6) (v : Int) : OP (m__law_bad_crowd v ((2 ^ m : Nat) : Int)) fun x => okS m x = false := by
  have h64 := n64 hm
  have l10 : (ipow 10 30 : Int) = ((10 ^ 30 : Nat) : Int) := by decide
  unfold m__law_bad_crowd
  refine W.grd (by rw [l10]; decide) (W.ltx fun rest hr => ?_)
  have h0 : 0 ≤ rest := by rw [hr]; exact Int.emod_nonneg _ (by rw [l10]; decide)
  refine W.ite (fun _ => W.ret ?_) fun _ => W.ite (fun _ => W.grd (gPow1 (by omega)) (W.ret ?_)) fun _ => W.ite (fun _ => W.ret rfl) fun _ => W.ret rfl
  · show (decide _ && decide _) = false
    rw [decide_eq_false (show ¬ (0 : Int) ≤ (-1) - rest by omega)]; rfl
  · show (decide _ && decide _) = false
    rw [shl1_nat, decide_eq_false (show ¬ ((2 ^ 2 ^ m : Nat) : Int) + rest < ((2 ^ 2 ^ m : Nat) : Int) by omega), Bool.and_false]
theorem bad_list_eq {m : Nat} (hm : m ≤ 6) (v : Int) {ys : List Int} (hl : ys.length = 2 ^ m) : OP (m__law_bad_list v ys) fun l => okL m l = false := by
  have h64 := n64 hm
  have hp := Nat.two_pow_pos m
  unfold m__law_bad_list
  refine W.grd (by rw [hl]; omega) (W.ltx fun at_ ha => ?_)
  obtain ⟨k, hk, e⟩ := mod_nat (v / 4) (n := ys.length) (by omega)
  rw [e] at ha
  subst ha
  have e1 : cutI ys none (some (k : Int)) = ys.take k := cutI_to _ _
  have e2 : cutI ys (some ((k : Int) + 1)) none = ys.drop (k + 1) := cutI_from ys (k + 1)
  have e3 : cutI ys (some (k : Int)) none = ys.drop k := cutI_from ys k
  rw [e1, e2, e3]
  have t1 : (ys.take k).length = k := by rw [List.length_take]; omega
  have t2 : (ys.drop (k + 1)).length = ys.length - (k + 1) := List.length_drop
  have t3 : (ys.drop k).length = ys.length - k := List.length_drop
  refine W.ite (fun _ => W.grd (by omega) (W.ret ?_)) fun _ => W.ite (fun _ => W.grd (show _ + 1 ≤ _ by omega) (W.grd ?_ (W.ret ?_))) fun _ => W.ite (fun _ => W.ret rfl) fun _ => W.ret rfl
  · show (decide _ && _) = false
    rw [decide_eq_false (by rw [List.length_map, List.length_append]; omega)]; rfl
  · rw [List.length_append]; show _ + 1 + _ ≤ _; omega
  · show (decide _ && _) = false
    rw [decide_eq_false (by rw [List.length_map, List.length_append, List.length_append]; show ¬ _ + 1 + _ = _; omega)]; rfl
theorem bad_many_eq {m : Nat} (h1 : 1 ≤ m) (hm : m ≤ 6) (v st bd : Int) {ys : List Int} (hl : ys.length = 2 ^ m) : OP (m__law_bad_many v (Sc.int (m : Int), Sc.int st, Sc.int bd, Dv.lst (ys.map Sc.int))) fun r => badN r.1 = true := by
  have h64 := n64 hm
  have h2 : 2 ≤ 2 ^ m := Nat.pow_le_pow_right (n := 2) (by decide) h1
  have l10 : (ipow 10 30 : Int) = ((10 ^ 30 : Nat) : Int) := by decide
  have hL : (ys.map Sc.int).length = 2 ^ m := by rw [List.length_map]; exact hl
  have hat : ∀ k : Nat, k < 2 ^ m → ∃ i, L2.atI (ys.map Sc.int) (k : Int) = some (Sc.int i) := fun k hk => by
    refine ⟨ys[k]'(by omega), ?_⟩
    rw [atI_nat' (show k < (ys.map Sc.int).length by omega), List.getElem_map]
  unfold m__law_bad_many
  refine W.grd (by rw [l10]; decide) (W.ltx fun rest hr => ?_)
  have h0 : 0 ≤ rest := by rw [hr]; exact Int.emod_nonneg _ (by rw [l10]; decide)
  refine W.ite (fun _ => ?_) fun _ => W.ite (fun _ => ?_) fun _ => W.ite (fun _ => ?_) fun _ => W.ite (fun _ => ?_) fun _ => W.ite (fun _ => ?_) fun _ => ?_
  · refine W.eq (a := ys.map Sc.int) rfl (W.ret ?_)
    show (decide _ || decide _) = true
    rw [decide_eq_true (show (-1) - rest < 1 by omega)]; rfl
  · refine W.eq (a := ys.map Sc.int) rfl (W.ret ?_)
    show (decide _ || decide _) = true
    rw [decide_eq_true (show 6 < 7 + rest by omega), Bool.or_true]
  · exact W.eq (a := ys.map Sc.int) rfl (W.ret rfl)
  · obtain ⟨i0, e0⟩ := hat 0 (by omega)
    obtain ⟨i1, e1⟩ := hat 1 (by omega)
    exact W.eq (a := st) rfl (W.eq (a := bd) rfl (W.eq (a := ys.map Sc.int) rfl (W.eq e0 (W.eq (a := i0) rfl (W.eq (a := ys.map Sc.int) rfl (W.eq e1 (W.eq (a := i1) rfl (W.ret rfl))))))))
  · obtain ⟨i0, e0⟩ := hat 0 (by omega)
    exact W.eq (a := st) rfl (W.eq (a := bd) rfl (W.eq (a := ys.map Sc.int) rfl (W.eq e0 (W.eq (a := i0) rfl (W.ret rfl)))))
  · refine W.bind (P := fun _ => True) (W.as (@W.comp _ _ ⟨Sc.non⟩ _ _ (fun _ _ => True) (by rw [rangeI_len]; decide) fun x hx => ?_) fun _ _ => trivial) fun zs _ => W.ret rfl
    refine W.eq (a := ys.map Sc.int) rfl (W.eq (a := ys.map Sc.int) rfl ?_)
    obtain ⟨k, hk, e⟩ := mod_nat x (n := (ys.map Sc.int).length) (by omega)
    obtain ⟨i, ei⟩ := hat k (by omega)
    refine W.grd (by omega) ?_
    rw [e]
    exact W.eq ei (W.ret ⟨_, rfl, trivial⟩)
theorem ref_bad {a b c : Sc} {d : Dv} (h : m_Chart___init__ a b c d = some (.error 2)) : m__law_refused a b c d = some true := by
  unfold m__law_refused
  rw [bind_eq h]
  exact grd_of rfl
theorem any_bad {a b c : Sc} {d : Dv} (h : m_Chart___init__ a b c d = some (.error 2)) : m__law_refused_by_any a b c d = some true := by
  unfold m__law_refused_by_any m__law_alone_NoChart
  rw [bind_eq h]
  show grd _ _ = _
  rw [grd_of rfl, ifo_ff, ifo_ff]
  rfl
theorem ref_ok {a b c : Sc} {d : Dv} {x : O_Chart} (h : m_Chart___init__ a b c d = some (.ok x)) : m__law_refused a b c d = some false := by
  unfold m__law_refused
  rw [bind_eq h]
  rfl
/-- the law's end -/
def TL (kind : Int) (a b c : Sc) (d : Dv) (many st bd : Int) (ys : List Int) : Option Bool :=
  (m__law_refused a b c d).bind fun v87 =>
  ifo (!(decide (v87 = (decide (0 < kind))))) (
  some false) (
  (ifo (decide (0 < kind)) (
  (m__law_refused_by_any a b c d).bind fun v104 =>
  some (!v104)) (
  some false)).bind fun b109 =>
  ifo b109 (
  some false) (
  (m__law_refused (Sc.int many) (Sc.int st) (Sc.int bd) (Dv.lst (ys.map Sc.int))).bind fun v126 =>
  ifo v126 (
  some false) (
  (m_Chart___init__ (Sc.int many) (Sc.int st) (Sc.int bd) (Dv.lst (ys.map Sc.int))).bind fun v157 =>
  exE v157 (fun c_162 =>
  none) fun v163 =>
  some ((decide (v163.many = many)) && ((decide (v163.starts = st)) && (decide (v163.bads = bd)))))))
theorem TL_true {kind : Int} {a b c : Sc} {d : Dv} {many st bd : Int} {ys : List Int} (hg : ∃ x, m_Chart___init__ (Sc.int many) (Sc.int st) (Sc.int bd) (Dv.lst (ys.map Sc.int)) = some (.ok x) ∧ x.many = many ∧ x.starts = st ∧ x.bads = bd)
    (h : (0 < kind ∧ m_Chart___init__ a b c d = some (.error 2)) ∨ (kind = 0 ∧ ∃ x, m_Chart___init__ a b c d = some (.ok x))) : TL kind a b c d many st bd ys = some true := by
  obtain ⟨x, ex, rfl, rfl, rfl⟩ := hg
  have e2 : (decide (x.many = x.many) && (decide (x.starts = x.starts) && decide (x.bads = x.bads))) = true := by
    rw [decide_eq_true rfl, decide_eq_true rfl, decide_eq_true rfl]; rfl
  unfold TL
  rcases h with ⟨h0, h⟩ | ⟨h0, y, h⟩
  · rw [bind_eq (ref_bad h), decide_eq_true h0, decide_eq_true rfl, nt, ifo_ff, ifo_tt, bind_eq (any_bad h), sb, nt, ifo_ff, bind_eq (ref_ok ex), ifo_ff, bind_eq ex]
    exact congrArg some e2
  · subst h0
    rw [bind_eq (ref_ok h), decide_eq_false (show ¬ (0 : Int) < 0 by decide), decide_eq_true rfl, nt, ifo_ff, ifo_ff, sb, ifo_ff, bind_eq (ref_ok ex), ifo_ff, bind_eq ex]
    exact congrArg some e2
theorem kind_of (v : Int) : v % 6 = 0 ∨ v % 6 = 1 ∨ v % 6 = 2 ∨ v % 6 = 3 ∨ v % 6 = 4 ∨ v % 6 = 5 := by omega
theorem law_true (ns : List Int) (_ : ns.length ≤ 63) : m_law ns = some true := by
  refine W.got ?_
  unfold m_law
  obtain ⟨v0, e0⟩ := cell_at_eq ns 0
  obtain ⟨v1, e1⟩ := cell_at_eq ns 1
  obtain ⟨v2, e2⟩ := cell_at_eq ns 2
  obtain ⟨v3, e3⟩ := cell_at_eq ns 3
  obtain ⟨v4, e4⟩ := cell_at_eq ns 4
  obtain ⟨m, h1, h2, em⟩ := many_of v0
  have h64 := n64 h2
  have hp := Nat.two_pow_pos m
  have hP := Nat.two_pow_pos (2 ^ m)
  obtain ⟨st, hst, est⟩ := mod_nat v1 (n := 2 ^ 2 ^ m) hP
  obtain ⟨bd, hbd, ebd⟩ := mod_nat v2 (n := 2 ^ 2 ^ m) hP
  refine W.eq e0 ?_
  rw [em]
  refine W.lt (W.grd (gPow1 (by omega)) (W.ltx fun size hs => ?_))
  rw [shl1_nat] at hs
  subst hs
  refine W.eq e1 (W.grd (gPow1 (by omega)) ?_)
  rw [shl1_nat, est]
  refine W.grd (by omega) (W.lt (W.eq e2 (W.grd (gPow1 (by omega)) (W.grd (by omega) ?_))))
  rw [ebd]
  refine W.lt (W.grd (gR_nat (by omega)) ?_)
  refine W.bind (P := fun ys : List Int => ys.length = 2 ^ m ∧ ∀ y ∈ ys, ∃ k : Nat, k < 2 ^ 2 ^ m ∧ y = (k : Int)) (W.as (W.comp (fun _ (y : Int) => ∃ k : Nat, k < 2 ^ 2 ^ m ∧ y = (k : Int)) (by rw [rangeI_len]; omega) fun x hx => ?_) fun ys hy => ?_) fun ys hy => ?_
  · obtain ⟨k, hk, rfl⟩ := mem_rangeI hx
    obtain ⟨v, ev⟩ := cell_at_eq ns (5 + k)
    refine W.eq (show m__law_cell_at ns (5 + (k : Int)) = some v from ev) (W.grd (gPow1 (by omega)) ?_)
    obtain ⟨j, hj, ej⟩ := mod_nat (v + (k : Int)) (n := 2 ^ 2 ^ m) hP
    exact W.grd (by omega) (W.ret ⟨_, rfl, j, hj, ej⟩)
  · obtain ⟨g, rfl, hg⟩ := hy
    refine ⟨by rw [List.length_map, rangeI_len, Int.toNat_natCast], fun y hy => ?_⟩
    obtain ⟨x, hx, rfl⟩ := List.mem_map.mp hy
    exact hg x hx
  obtain ⟨hl, hy⟩ := hy
  have oks : ∀ k : Nat, k < 2 ^ 2 ^ m → okS m (Sc.int (k : Int)) = true := fun k hk => by
    exact Bool.and_eq_true_iff.mpr ⟨decide_eq_true (show (0 : Int) ≤ (k : Int) by omega), decide_eq_true (show (k : Int) < ((2 ^ 2 ^ m : Nat) : Int) by omega)⟩
  have okl : okL m (Dv.lst (ys.map Sc.int)) = true := by
    show (decide ((ys.map Sc.int).length = 2 ^ m) && (ys.map Sc.int).all (okS m)) = true
    rw [decide_eq_true (show (ys.map Sc.int).length = 2 ^ m by rw [List.length_map]; exact hl)]
    refine List.all_eq_true.mpr fun x hx => ?_
    obtain ⟨y, hy2, rfl⟩ := List.mem_map.mp hx
    obtain ⟨k, hk, rfl⟩ := hy y hy2
    exact oks k hk
  obtain ⟨x, ex, x1, x2, x3⟩ := (chart_eq h1 h2 (s := Sc.int (st : Int)) (b := Sc.int (bd : Int)) (l := Dv.lst (ys.map Sc.int))).2 (by rw [oks st hst, oks bd hbd, okl]; rfl)
  have hg : ∃ x, m_Chart___init__ (Sc.int (m : Int)) (Sc.int (st : Int)) (Sc.int (bd : Int)) (Dv.lst (ys.map Sc.int)) = some (.ok x) ∧ x.many = (m : Int) ∧ x.starts = (st : Int) ∧ x.bads = (bd : Int) := ⟨x, ex, x1, (Sc.int.inj x2).symm, (Sc.int.inj x3).symm⟩
  refine W.eq e3 (W.ltx fun kind hk => W.eq e4 ?_)
  have fin : ∀ {a b c : Sc} {d : Dv}, (0 < kind ∧ m_Chart___init__ a b c d = some (.error 2)) ∨ (kind = 0 ∧ ∃ x, m_Chart___init__ a b c d = some (.ok x)) → OP (TL kind a b c d (m : Int) (st : Int) (bd : Int) ys) (· = true) := fun h => W.of (TL_true hg h) rfl
  rcases kind_of v3 with q | q | q | q | q | q <;> rw [q] at hk <;> subst hk
  · refine W.f (by decide) (W.f (by decide) (W.f (by decide) (W.f (by decide) ?_)))
    exact fin (.inr ⟨rfl, x, ex⟩)
  · refine W.t (by decide) ?_
    refine W.bind (bad_many_eq h1 h2 v4 st bd hl) fun r hr => ?_
    obtain ⟨r0, r1, r2, r3⟩ := r
    refine W.f (by decide) (W.f (by decide) (W.f (by decide) ?_))
    exact fin (.inl ⟨by decide, chart_many hr⟩)
  · refine W.f (by decide) (W.t (by decide) ?_)
    refine W.bind (bad_crowd_eq h2 v4) fun r hr => ?_
    refine W.t (by decide) (W.f (by decide) (W.f (by decide) ?_))
    exact fin (.inl ⟨by decide, (chart_eq h1 h2).1 (by rw [hr]; rfl)⟩)
  · refine W.f (by decide) (W.t (by decide) ?_)
    refine W.bind (bad_crowd_eq h2 v4) fun r hr => ?_
    refine W.f (by decide) (W.t (by decide) (W.f (by decide) (W.f (by decide) ?_)))
    exact fin (.inl ⟨by decide, (chart_eq h1 h2).1 (by rw [hr, Bool.and_false]; rfl)⟩)
  · refine W.f (by decide) (W.f (by decide) (W.t (by decide) ?_))
    have h200 : 2 ^ m < 2 ^ 200 := pow_200 (by omega)
    refine W.grd ⟨by omega, by omega⟩ (W.bind (bad_crowd_eq h2 _) fun r hr => W.grd (by omega) ?_)
    obtain ⟨k, hk, ek⟩ := mod_nat (v4 / 4) (n := 2 ^ m) hp
    rw [ek]
    refine W.eq (setI_nat (by rw [List.length_map]; omega)) ?_
    refine W.f (by decide) ?_
    refine fin (.inl ⟨by decide, (chart_eq h1 h2).1 ?_⟩)
    have : okL m (Dv.lst ((ys.map Sc.int).set k r)) = false := by
      show (decide _ && List.all _ _) = false
      have : ((ys.map Sc.int).set k r).all (okS m) = false := List.all_eq_false.mpr ⟨r, List.mem_set (by rw [List.length_map]; omega) r, by rw [hr]; decide⟩
      rw [this, Bool.and_false]
    rw [this, Bool.and_false]
  · refine W.f (by decide) (W.f (by decide) (W.f (by decide) (W.t (by decide) ?_)))
    refine W.bind (bad_list_eq h2 v4 hl) fun r hr => ?_
    exact fin (.inl ⟨by decide, (chart_eq h1 h2).1 (by rw [hr, Bool.and_false])⟩)
end B

namespace E
open PySem PySem.Spec PyProof.Rows L2 Z
def spLaw (K : PySem.W.Frag) : Sp := fun vs H Q _ => ∃ (a : Addr) (ns : List Int), vs = [.ref a] ∧ SqL K H a (ns.map V.int) ∧ ns.length ≤ 63 ∧ ∀ H', Q (.bl true) H'
theorem law_ok {P : Program} {w : World} {K : PySem.W.Frag} {mg : Str → Option Value} {base : Heap} (T : Tx K mg) : FnOk P w K mg base CX0 6 T.f_law T.d_law ["_law_script"] (spLaw K) :=
  (ok_law T).imp fun vs H Q E h => by
    obtain ⟨a, ns, rfl, hS, hl, k⟩ := h
    exact ⟨H, _, ns, rfl, Same.refl _, RdL.start hS (RL.map V.int (fun _ => rfl) ns), OP.mk (B.law_true ns hl) fun _ H' _ => k H'⟩
def ck0 (K : PySem.W.Frag) : List Bool := [decide (PySem.W.nsIn K mainGlobals "is_whole" = some (some (.ref (He.fAd K ("is_whole", none))))),
  decide (PySem.W.nsIn K mainGlobals "is_crowd" = some (some (.ref (He.fAd K ("is_crowd", none))))),
  decide (PySem.W.nsIn K mainGlobals "stands_of" = some (some (.ref (He.fAd K ("stands_of", none))))),
  decide (PySem.W.nsIn K mainGlobals "leading_back" = some (some (.ref (He.fAd K ("leading_back", none))))),
  decide (PySem.W.nsIn K mainGlobals "_law_bad_crowd" = some (some (.ref (He.fAd K ("_law_bad_crowd", none))))),
  decide (PySem.W.nsIn K mainGlobals "_law_bad_list" = some (some (.ref (He.fAd K ("_law_bad_list", none))))),
  decide (PySem.W.nsIn K mainGlobals "_law_bad_many" = some (some (.ref (He.fAd K ("_law_bad_many", none))))),
  decide (PySem.W.nsIn K mainGlobals "_law_cell_at" = some (some (.ref (He.fAd K ("_law_cell_at", none))))),
  decide (PySem.W.nsIn K mainGlobals "_law_refused" = some (some (.ref (He.fAd K ("_law_refused", none))))),
  decide (PySem.W.nsIn K mainGlobals "_law_alone" = some (some (.ref (He.fAd K ("_law_alone", none))))),
  decide (PySem.W.nsIn K mainGlobals "_law_refused_by_any" = some (some (.ref (He.fAd K ("_law_refused_by_any", none))))),
  decide (PySem.W.nsIn K mainGlobals "law" = some (some (.ref (He.fAd K ("law", none))))),
  decide (PySem.W.nsIn K mainGlobals "Chart" = some (some (.ref (He.ga K "Chart")))),
  decide (PySem.W.plainGet K (He.ga K "Chart") Str.empty = true),
  decide (PySem.W.hasDictIn K (He.ga K "Chart") = true),
  decide (PySem.W.plainOver K (He.ga K "Chart") = true),
  decide (PySem.W.findIn K (.ref (He.ga K "Chart")) "__setattr__" = some (some (.builtin "object.__setattr__"))),
  decide (PySem.W.makesIn K (He.ga K "Chart") = true),
  decide (PySem.W.findIn K (.ref (He.ga K "Chart")) "__init__" = some (some (.ref (He.fAd K ("Chart", some "__init__"))))),
  decide (PySem.W.isFn K (.ref (He.fAd K ("Chart", some "__init__"))) = true),
  decide (PySem.W.keepIn K (.ref (He.ga K "Chart")) = true),
  decide (PySem.W.nsIn K mainGlobals "EverError" = some (some (.ref (He.ga K "EverError")))),
  decide (PySem.W.nsIn K mainGlobals "NoBar" = some (some (.ref (He.ga K "NoBar")))),
  decide (PySem.W.nsIn K mainGlobals "NoChart" = some (some (.ref (He.ga K "NoChart")))),
  decide (PySem.W.nsIn K mainGlobals "NoFence" = some (some (.ref (He.ga K "NoFence")))),
  decide (PySem.W.nsIn K mainGlobals "NoFormula" = some (some (.ref (He.ga K "NoFormula")))),
  decide (PySem.W.nsIn K mainGlobals "NoFrame" = some (some (.ref (He.ga K "NoFrame")))),
  decide (PySem.W.nsIn K mainGlobals "NoLine" = some (some (.ref (He.ga K "NoLine")))),
  decide (PySem.W.nsIn K mainGlobals "NoMachine" = some (some (.ref (He.ga K "NoMachine")))),
  decide (PySem.W.nsIn K mainGlobals "NoName" = some (some (.ref (He.ga K "NoName")))),
  decide (PySem.W.nsIn K mainGlobals "NoStep" = some (some (.ref (He.ga K "NoStep")))),
  decide (PySem.W.nsIn K mainGlobals "NotShut" = some (some (.ref (He.ga K "NotShut")))),
  decide (PySem.W.nsIn K mainGlobals "NothingLeft" = some (some (.ref (He.ga K "NothingLeft")))),
  decide (PySem.W.nsIn K mainGlobals "TooMany" = some (some (.ref (He.ga K "TooMany")))),
  decide (PySem.W.isClsIn K (He.ga K "NoBar") = true),
  decide (PySem.W.typeIn K (.ref (He.ga K "NoBar")) = some (.type "type")),
  decide (PySem.W.subIn K (.ref (He.ga K "NoBar")) (.ref (He.ga K "NoBar")) = some true),
  decide (PySem.W.subIn K (.ref (He.ga K "NoChart")) (.ref (He.ga K "NoBar")) = some false),
  decide (PySem.W.isClsIn K (He.ga K "NoChart") = true),
  decide (PySem.W.typeIn K (.ref (He.ga K "NoChart")) = some (.type "type"))]
def ck1 (K : PySem.W.Frag) : List Bool := [decide (PySem.W.subIn K (.ref (He.ga K "NoChart")) (.ref (He.ga K "NoChart")) = some true),
  decide (PySem.W.subIn K (.ref (He.ga K "NoChart")) (.ref (He.ga K "NoChart")) = some true),
  decide (PySem.W.isClsIn K (He.ga K "NoFence") = true),
  decide (PySem.W.typeIn K (.ref (He.ga K "NoFence")) = some (.type "type")),
  decide (PySem.W.subIn K (.ref (He.ga K "NoFence")) (.ref (He.ga K "NoFence")) = some true),
  decide (PySem.W.subIn K (.ref (He.ga K "NoChart")) (.ref (He.ga K "NoFence")) = some false),
  decide (PySem.W.isClsIn K (He.ga K "NoFormula") = true),
  decide (PySem.W.typeIn K (.ref (He.ga K "NoFormula")) = some (.type "type")),
  decide (PySem.W.subIn K (.ref (He.ga K "NoFormula")) (.ref (He.ga K "NoFormula")) = some true),
  decide (PySem.W.subIn K (.ref (He.ga K "NoChart")) (.ref (He.ga K "NoFormula")) = some false),
  decide (PySem.W.isClsIn K (He.ga K "NoFrame") = true),
  decide (PySem.W.typeIn K (.ref (He.ga K "NoFrame")) = some (.type "type")),
  decide (PySem.W.subIn K (.ref (He.ga K "NoFrame")) (.ref (He.ga K "NoFrame")) = some true),
  decide (PySem.W.subIn K (.ref (He.ga K "NoChart")) (.ref (He.ga K "NoFrame")) = some false),
  decide (PySem.W.isClsIn K (He.ga K "NoLine") = true),
  decide (PySem.W.typeIn K (.ref (He.ga K "NoLine")) = some (.type "type")),
  decide (PySem.W.subIn K (.ref (He.ga K "NoLine")) (.ref (He.ga K "NoLine")) = some true),
  decide (PySem.W.subIn K (.ref (He.ga K "NoChart")) (.ref (He.ga K "NoLine")) = some false),
  decide (PySem.W.isClsIn K (He.ga K "NoMachine") = true),
  decide (PySem.W.typeIn K (.ref (He.ga K "NoMachine")) = some (.type "type")),
  decide (PySem.W.subIn K (.ref (He.ga K "NoMachine")) (.ref (He.ga K "NoMachine")) = some true),
  decide (PySem.W.subIn K (.ref (He.ga K "NoChart")) (.ref (He.ga K "NoMachine")) = some false),
  decide (PySem.W.isClsIn K (He.ga K "NoName") = true),
  decide (PySem.W.typeIn K (.ref (He.ga K "NoName")) = some (.type "type")),
  decide (PySem.W.subIn K (.ref (He.ga K "NoName")) (.ref (He.ga K "NoName")) = some true),
  decide (PySem.W.subIn K (.ref (He.ga K "NoChart")) (.ref (He.ga K "NoName")) = some false),
  decide (PySem.W.isClsIn K (He.ga K "NoStep") = true),
  decide (PySem.W.typeIn K (.ref (He.ga K "NoStep")) = some (.type "type")),
  decide (PySem.W.subIn K (.ref (He.ga K "NoStep")) (.ref (He.ga K "NoStep")) = some true),
  decide (PySem.W.subIn K (.ref (He.ga K "NoChart")) (.ref (He.ga K "NoStep")) = some false),
  decide (PySem.W.isClsIn K (He.ga K "NotShut") = true),
  decide (PySem.W.typeIn K (.ref (He.ga K "NotShut")) = some (.type "type")),
  decide (PySem.W.subIn K (.ref (He.ga K "NotShut")) (.ref (He.ga K "NotShut")) = some true),
  decide (PySem.W.subIn K (.ref (He.ga K "NoChart")) (.ref (He.ga K "NotShut")) = some false),
  decide (PySem.W.isClsIn K (He.ga K "NothingLeft") = true),
  decide (PySem.W.typeIn K (.ref (He.ga K "NothingLeft")) = some (.type "type")),
  decide (PySem.W.subIn K (.ref (He.ga K "NothingLeft")) (.ref (He.ga K "NothingLeft")) = some true),
  decide (PySem.W.subIn K (.ref (He.ga K "NoChart")) (.ref (He.ga K "NothingLeft")) = some false),
  decide (PySem.W.isClsIn K (He.ga K "TooMany") = true),
  decide (PySem.W.typeIn K (.ref (He.ga K "TooMany")) = some (.type "type"))]
def ck2 (K : PySem.W.Frag) : List Bool := [decide (PySem.W.subIn K (.ref (He.ga K "TooMany")) (.ref (He.ga K "TooMany")) = some true),
  decide (PySem.W.subIn K (.ref (He.ga K "NoChart")) (.ref (He.ga K "TooMany")) = some false),
  decide (PySem.W.findIn K (.ref (He.ga K "Chart")) "back" = some none),
  decide (PySem.W.findIn K (.ref (He.ga K "Chart")) "bads" = some none),
  decide (PySem.W.findIn K (.ref (He.ga K "Chart")) "forth" = some none),
  decide (PySem.W.findIn K (.ref (He.ga K "Chart")) "many" = some none),
  decide (PySem.W.findIn K (.ref (He.ga K "Chart")) "starts" = some none),
  decide (PySem.W.excIn K (He.ga K "NoChart") [.type "ValueError", .type "Exception", .type "BaseException", .type "object"] "ValueError.__new__" = true),
  decide (PySem.W.keepIn K (.ref (He.ga K "NoChart")) = true),
  decide (PySem.W.subIn K (.ref (He.ga K "NoChart")) (.type "BaseException") = some true),
  decide (PySem.W.typeIn K (.ref (He.ga K "NoChart")) = some (.type "type")),
  decide (PySem.W.subIn K (.ref (He.ga K "EverError")) (.type "BaseException") = some true),
  decide (PySem.W.hasDictIn K (He.ga K "EverError") = true),
  decide (PySem.W.typeIn K (.ref (He.ga K "EverError")) = some (.type "type")),
  decide (PySem.W.subIn K (.ref (He.ga K "NoChart")) (.ref (He.ga K "EverError")) = some true),
  decide (PySem.W.hasDictIn K (He.ga K "NoChart") = true),
  decide (PySem.W.findIn K (.ref (He.ga K "NoChart")) "__getattribute__" = some (some (.builtin "BaseException.__getattribute__"))),
  decide (PySem.W.findIn K (.ref (He.ga K "NoChart")) "__getattr__" = some none),
  decide (PySem.W.findIn K (.ref (He.ga K "NoChart")) "__class__" = some (some (.builtin "object.__class__"))),
  decide (PySem.W.specialIn K (.builtin "object.__class__") "__get__" = some (some (.builtin "getset_descriptor.__get__"))),
  decide (PySem.W.takesIn K (.builtin "object.__class__") = some true),
  decide (PySem.W.mroIn K (He.ga K "NoChart") (.type "object") = some true),
  decide (PySem.W.subIn K (.ref (He.ga K "NoChart")) (.type "ValueError") = some true),
  decide (PySem.W.nsIn K mainGlobals "ValueError" = some none),
  decide (PySem.W.nsIn K mainGlobals "bool" = some none),
  decide (PySem.W.nsIn K mainGlobals "enumerate" = some none),
  decide (PySem.W.nsIn K mainGlobals "int" = some none),
  decide (PySem.W.nsIn K mainGlobals "isinstance" = some none),
  decide (PySem.W.nsIn K mainGlobals "len" = some none),
  decide (PySem.W.nsIn K mainGlobals "list" = some none),
  decide (PySem.W.nsIn K mainGlobals "range" = some none),
  decide (PySem.W.nsIn K mainGlobals "tuple" = some none)]
def chk (K : PySem.W.Frag) : List (List Bool) := [ck0 K, ck1 K, ck2 K]
def chkA (K : PySem.W.Frag) : List Bool := (chk K).map fun l => l.all fun b => b
def dd0 : He.DefD := ⟨("is_whole", none), "is_whole", "is_whole", defArgs (top 16), defBody (top 16), defScope (top 16), [], []⟩
def dd1 : He.DefD := ⟨("is_crowd", none), "is_crowd", "is_crowd", defArgs (top 17), defBody (top 17), defScope (top 17), [], []⟩
def dd2 : He.DefD := ⟨("stands_of", none), "stands_of", "stands_of", defArgs (top 18), defBody (top 18), defScope (top 18), [], []⟩
def dd3 : He.DefD := ⟨("leading_back", none), "leading_back", "leading_back", defArgs (top 19), defBody (top 19), defScope (top 19), [], []⟩
def dd4 : He.DefD := ⟨("Chart", some "__init__"), "__init__", "Chart.__init__", defArgs (inClass (top 20) 0), defBody (inClass (top 20) 0), defScope (inClass (top 20) 0), [], []⟩
def dd5 : He.DefD := ⟨("_law_bad_crowd", none), "_law_bad_crowd", "_law_bad_crowd", defArgs (top 23), defBody (top 23), defScope (top 23), [], []⟩
def dd6 : He.DefD := ⟨("_law_bad_list", none), "_law_bad_list", "_law_bad_list", defArgs (top 25), defBody (top 25), defScope (top 25), [], []⟩
def dd7 : He.DefD := ⟨("_law_bad_many", none), "_law_bad_many", "_law_bad_many", defArgs (top 24), defBody (top 24), defScope (top 24), [], []⟩
def dd8 : He.DefD := ⟨("_law_cell_at", none), "_law_cell_at", "_law_cell_at", defArgs (top 22), defBody (top 22), defScope (top 22), [], []⟩
def dd9 : He.DefD := ⟨("_law_refused", none), "_law_refused", "_law_refused", defArgs (top 27), defBody (top 27), defScope (top 27), [], []⟩
def dd10 : He.DefD := ⟨("_law_alone", none), "_law_alone", "_law_alone", defArgs (top 26), defBody (top 26), defScope (top 26), [], []⟩
def dd11 : He.DefD := ⟨("_law_refused_by_any", none), "_law_refused_by_any", "_law_refused_by_any", defArgs (top 28), defBody (top 28), defScope (top 28), [], []⟩
def dd12 : He.DefD := ⟨("law", none), "law", "law", defArgs (top 29), defBody (top 29), defScope (top 29), [], []⟩
def df0 : List He.DefD := [dd0, dd1, dd2, dd3, dd4, dd5, dd6, dd7, dd8, dd9, dd10, dd11, dd12]
def dfs : List He.DefD := df0
theorem all_mk {l : PySem.W.OpenLaw} {w : World} {K : PySem.W.Frag} {h : Heap} {mg : Str → Option Value} {fa : Addr} (X : K.In h) (G : h.Ns mainGlobals mg) (hfa : mg "law" = some (.ref fa)) (c : obsY chkA dfs K = He.valD dfs) :
    ∃ fd : FuncData, (∀ (s : Shared) (v : Value), BindsTo s fd ⟨[v], []⟩ [("_law_script", v)]) ∧ ∀ base : Heap, K.In base → base.Ns mainGlobals mg → FnOk l.prog w K mg base CX0 6 fa fd ["_law_script"] (spLaw K) := by
  have cl0 := List.all_eq_true.mp (factY c 0 (b := (ck0 K).all fun b => b) rfl)
  have cl1 := List.all_eq_true.mp (factY c 1 (b := (ck1 K).all fun b => b) rfl)
  have cl2 := List.all_eq_true.mp (factY c 2 (b := (ck2 K).all fun b => b) rfl)
  have a0 : PySem.W.nsIn K mainGlobals "is_whole" = some (some (.ref (He.fAd K ("is_whole", none)))) := of_decide_eq_true (cl0 _ (List.mem_of_getElem? (i := 0) rfl))
  have a1 : PySem.W.nsIn K mainGlobals "is_crowd" = some (some (.ref (He.fAd K ("is_crowd", none)))) := of_decide_eq_true (cl0 _ (List.mem_of_getElem? (i := 1) rfl))
  have a2 : PySem.W.nsIn K mainGlobals "stands_of" = some (some (.ref (He.fAd K ("stands_of", none)))) := of_decide_eq_true (cl0 _ (List.mem_of_getElem? (i := 2) rfl))
  have a3 : PySem.W.nsIn K mainGlobals "leading_back" = some (some (.ref (He.fAd K ("leading_back", none)))) := of_decide_eq_true (cl0 _ (List.mem_of_getElem? (i := 3) rfl))
  have a5 : PySem.W.nsIn K mainGlobals "_law_bad_crowd" = some (some (.ref (He.fAd K ("_law_bad_crowd", none)))) := of_decide_eq_true (cl0 _ (List.mem_of_getElem? (i := 4) rfl))
  have a6 : PySem.W.nsIn K mainGlobals "_law_bad_list" = some (some (.ref (He.fAd K ("_law_bad_list", none)))) := of_decide_eq_true (cl0 _ (List.mem_of_getElem? (i := 5) rfl))
  have a7 : PySem.W.nsIn K mainGlobals "_law_bad_many" = some (some (.ref (He.fAd K ("_law_bad_many", none)))) := of_decide_eq_true (cl0 _ (List.mem_of_getElem? (i := 6) rfl))
  have a8 : PySem.W.nsIn K mainGlobals "_law_cell_at" = some (some (.ref (He.fAd K ("_law_cell_at", none)))) := of_decide_eq_true (cl0 _ (List.mem_of_getElem? (i := 7) rfl))
  have a9 : PySem.W.nsIn K mainGlobals "_law_refused" = some (some (.ref (He.fAd K ("_law_refused", none)))) := of_decide_eq_true (cl0 _ (List.mem_of_getElem? (i := 8) rfl))
  have a10 : PySem.W.nsIn K mainGlobals "_law_alone" = some (some (.ref (He.fAd K ("_law_alone", none)))) := of_decide_eq_true (cl0 _ (List.mem_of_getElem? (i := 9) rfl))
  have a11 : PySem.W.nsIn K mainGlobals "_law_refused_by_any" = some (some (.ref (He.fAd K ("_law_refused_by_any", none)))) := of_decide_eq_true (cl0 _ (List.mem_of_getElem? (i := 10) rfl))
  have a12 : PySem.W.nsIn K mainGlobals "law" = some (some (.ref (He.fAd K ("law", none)))) := of_decide_eq_true (cl0 _ (List.mem_of_getElem? (i := 11) rfl))
  have aC_Chart : PySem.W.nsIn K mainGlobals "Chart" = some (some (.ref (He.ga K "Chart"))) := of_decide_eq_true (cl0 _ (List.mem_of_getElem? (i := 12) rfl))
  have pg_Chart : PySem.W.plainGet K (He.ga K "Chart") Str.empty = true := of_decide_eq_true (cl0 _ (List.mem_of_getElem? (i := 13) rfl))
  have hd_Chart : PySem.W.hasDictIn K (He.ga K "Chart") = true := of_decide_eq_true (cl0 _ (List.mem_of_getElem? (i := 14) rfl))
  have po_Chart : PySem.W.plainOver K (He.ga K "Chart") = true := of_decide_eq_true (cl0 _ (List.mem_of_getElem? (i := 15) rfl))
  have sa_Chart : PySem.W.findIn K (.ref (He.ga K "Chart")) "__setattr__" = some (some (.builtin "object.__setattr__")) := of_decide_eq_true (cl0 _ (List.mem_of_getElem? (i := 16) rfl))
  have mk_Chart : PySem.W.makesIn K (He.ga K "Chart") = true := of_decide_eq_true (cl0 _ (List.mem_of_getElem? (i := 17) rfl))
  have a4 : PySem.W.findIn K (.ref (He.ga K "Chart")) "__init__" = some (some (.ref (He.fAd K ("Chart", some "__init__")))) := of_decide_eq_true (cl0 _ (List.mem_of_getElem? (i := 18) rfl))
  have i4 : PySem.W.isFn K (.ref (He.fAd K ("Chart", some "__init__"))) = true := of_decide_eq_true (cl0 _ (List.mem_of_getElem? (i := 19) rfl))
  have kc_Chart : PySem.W.keepIn K (.ref (He.ga K "Chart")) = true := of_decide_eq_true (cl0 _ (List.mem_of_getElem? (i := 20) rfl))
  have aC_EverError : PySem.W.nsIn K mainGlobals "EverError" = some (some (.ref (He.ga K "EverError"))) := of_decide_eq_true (cl0 _ (List.mem_of_getElem? (i := 21) rfl))
  have aC_NoBar : PySem.W.nsIn K mainGlobals "NoBar" = some (some (.ref (He.ga K "NoBar"))) := of_decide_eq_true (cl0 _ (List.mem_of_getElem? (i := 22) rfl))
  have aC_NoChart : PySem.W.nsIn K mainGlobals "NoChart" = some (some (.ref (He.ga K "NoChart"))) := of_decide_eq_true (cl0 _ (List.mem_of_getElem? (i := 23) rfl))
  have aC_NoFence : PySem.W.nsIn K mainGlobals "NoFence" = some (some (.ref (He.ga K "NoFence"))) := of_decide_eq_true (cl0 _ (List.mem_of_getElem? (i := 24) rfl))
  have aC_NoFormula : PySem.W.nsIn K mainGlobals "NoFormula" = some (some (.ref (He.ga K "NoFormula"))) := of_decide_eq_true (cl0 _ (List.mem_of_getElem? (i := 25) rfl))
  have aC_NoFrame : PySem.W.nsIn K mainGlobals "NoFrame" = some (some (.ref (He.ga K "NoFrame"))) := of_decide_eq_true (cl0 _ (List.mem_of_getElem? (i := 26) rfl))
  have aC_NoLine : PySem.W.nsIn K mainGlobals "NoLine" = some (some (.ref (He.ga K "NoLine"))) := of_decide_eq_true (cl0 _ (List.mem_of_getElem? (i := 27) rfl))
  have aC_NoMachine : PySem.W.nsIn K mainGlobals "NoMachine" = some (some (.ref (He.ga K "NoMachine"))) := of_decide_eq_true (cl0 _ (List.mem_of_getElem? (i := 28) rfl))
  have aC_NoName : PySem.W.nsIn K mainGlobals "NoName" = some (some (.ref (He.ga K "NoName"))) := of_decide_eq_true (cl0 _ (List.mem_of_getElem? (i := 29) rfl))
  have aC_NoStep : PySem.W.nsIn K mainGlobals "NoStep" = some (some (.ref (He.ga K "NoStep"))) := of_decide_eq_true (cl0 _ (List.mem_of_getElem? (i := 30) rfl))
  have aC_NotShut : PySem.W.nsIn K mainGlobals "NotShut" = some (some (.ref (He.ga K "NotShut"))) := of_decide_eq_true (cl0 _ (List.mem_of_getElem? (i := 31) rfl))
  have aC_NothingLeft : PySem.W.nsIn K mainGlobals "NothingLeft" = some (some (.ref (He.ga K "NothingLeft"))) := of_decide_eq_true (cl0 _ (List.mem_of_getElem? (i := 32) rfl))
  have aC_TooMany : PySem.W.nsIn K mainGlobals "TooMany" = some (some (.ref (He.ga K "TooMany"))) := of_decide_eq_true (cl0 _ (List.mem_of_getElem? (i := 33) rfl))
  have kc1_NoBar : PySem.W.isClsIn K (He.ga K "NoBar") = true := of_decide_eq_true (cl0 _ (List.mem_of_getElem? (i := 34) rfl))
  have kt_NoBar : PySem.W.typeIn K (.ref (He.ga K "NoBar")) = some (.type "type") := of_decide_eq_true (cl0 _ (List.mem_of_getElem? (i := 35) rfl))
  have ks_NoBar : PySem.W.subIn K (.ref (He.ga K "NoBar")) (.ref (He.ga K "NoBar")) = some true := of_decide_eq_true (cl0 _ (List.mem_of_getElem? (i := 36) rfl))
  have ki_NoChart_NoBar : PySem.W.subIn K (.ref (He.ga K "NoChart")) (.ref (He.ga K "NoBar")) = some false := of_decide_eq_true (cl0 _ (List.mem_of_getElem? (i := 37) rfl))
  have kc1_NoChart : PySem.W.isClsIn K (He.ga K "NoChart") = true := of_decide_eq_true (cl0 _ (List.mem_of_getElem? (i := 38) rfl))
  have kt_NoChart : PySem.W.typeIn K (.ref (He.ga K "NoChart")) = some (.type "type") := of_decide_eq_true (cl0 _ (List.mem_of_getElem? (i := 39) rfl))
  have ks_NoChart : PySem.W.subIn K (.ref (He.ga K "NoChart")) (.ref (He.ga K "NoChart")) = some true := of_decide_eq_true (cl1 _ (List.mem_of_getElem? (i := 0) rfl))
  have ki_NoChart_NoChart : PySem.W.subIn K (.ref (He.ga K "NoChart")) (.ref (He.ga K "NoChart")) = some true := of_decide_eq_true (cl1 _ (List.mem_of_getElem? (i := 1) rfl))
  have kc1_NoFence : PySem.W.isClsIn K (He.ga K "NoFence") = true := of_decide_eq_true (cl1 _ (List.mem_of_getElem? (i := 2) rfl))
  have kt_NoFence : PySem.W.typeIn K (.ref (He.ga K "NoFence")) = some (.type "type") := of_decide_eq_true (cl1 _ (List.mem_of_getElem? (i := 3) rfl))
  have ks_NoFence : PySem.W.subIn K (.ref (He.ga K "NoFence")) (.ref (He.ga K "NoFence")) = some true := of_decide_eq_true (cl1 _ (List.mem_of_getElem? (i := 4) rfl))
  have ki_NoChart_NoFence : PySem.W.subIn K (.ref (He.ga K "NoChart")) (.ref (He.ga K "NoFence")) = some false := of_decide_eq_true (cl1 _ (List.mem_of_getElem? (i := 5) rfl))
  have kc1_NoFormula : PySem.W.isClsIn K (He.ga K "NoFormula") = true := of_decide_eq_true (cl1 _ (List.mem_of_getElem? (i := 6) rfl))
  have kt_NoFormula : PySem.W.typeIn K (.ref (He.ga K "NoFormula")) = some (.type "type") := of_decide_eq_true (cl1 _ (List.mem_of_getElem? (i := 7) rfl))
  have ks_NoFormula : PySem.W.subIn K (.ref (He.ga K "NoFormula")) (.ref (He.ga K "NoFormula")) = some true := of_decide_eq_true (cl1 _ (List.mem_of_getElem? (i := 8) rfl))
  have ki_NoChart_NoFormula : PySem.W.subIn K (.ref (He.ga K "NoChart")) (.ref (He.ga K "NoFormula")) = some false := of_decide_eq_true (cl1 _ (List.mem_of_getElem? (i := 9) rfl))
  have kc1_NoFrame : PySem.W.isClsIn K (He.ga K "NoFrame") = true := of_decide_eq_true (cl1 _ (List.mem_of_getElem? (i := 10) rfl))
  have kt_NoFrame : PySem.W.typeIn K (.ref (He.ga K "NoFrame")) = some (.type "type") := of_decide_eq_true (cl1 _ (List.mem_of_getElem? (i := 11) rfl))
  have ks_NoFrame : PySem.W.subIn K (.ref (He.ga K "NoFrame")) (.ref (He.ga K "NoFrame")) = some true := of_decide_eq_true (cl1 _ (List.mem_of_getElem? (i := 12) rfl))
  have ki_NoChart_NoFrame : PySem.W.subIn K (.ref (He.ga K "NoChart")) (.ref (He.ga K "NoFrame")) = some false := of_decide_eq_true (cl1 _ (List.mem_of_getElem? (i := 13) rfl))
  have kc1_NoLine : PySem.W.isClsIn K (He.ga K "NoLine") = true := of_decide_eq_true (cl1 _ (List.mem_of_getElem? (i := 14) rfl))
  have kt_NoLine : PySem.W.typeIn K (.ref (He.ga K "NoLine")) = some (.type "type") := of_decide_eq_true (cl1 _ (List.mem_of_getElem? (i := 15) rfl))
  have ks_NoLine : PySem.W.subIn K (.ref (He.ga K "NoLine")) (.ref (He.ga K "NoLine")) = some true := of_decide_eq_true (cl1 _ (List.mem_of_getElem? (i := 16) rfl))
  have ki_NoChart_NoLine : PySem.W.subIn K (.ref (He.ga K "NoChart")) (.ref (He.ga K "NoLine")) = some false := of_decide_eq_true (cl1 _ (List.mem_of_getElem? (i := 17) rfl))
  have kc1_NoMachine : PySem.W.isClsIn K (He.ga K "NoMachine") = true := of_decide_eq_true (cl1 _ (List.mem_of_getElem? (i := 18) rfl))
  have kt_NoMachine : PySem.W.typeIn K (.ref (He.ga K "NoMachine")) = some (.type "type") := of_decide_eq_true (cl1 _ (List.mem_of_getElem? (i := 19) rfl))
  have ks_NoMachine : PySem.W.subIn K (.ref (He.ga K "NoMachine")) (.ref (He.ga K "NoMachine")) = some true := of_decide_eq_true (cl1 _ (List.mem_of_getElem? (i := 20) rfl))
  have ki_NoChart_NoMachine : PySem.W.subIn K (.ref (He.ga K "NoChart")) (.ref (He.ga K "NoMachine")) = some false := of_decide_eq_true (cl1 _ (List.mem_of_getElem? (i := 21) rfl))
  have kc1_NoName : PySem.W.isClsIn K (He.ga K "NoName") = true := of_decide_eq_true (cl1 _ (List.mem_of_getElem? (i := 22) rfl))
  have kt_NoName : PySem.W.typeIn K (.ref (He.ga K "NoName")) = some (.type "type") := of_decide_eq_true (cl1 _ (List.mem_of_getElem? (i := 23) rfl))
  have ks_NoName : PySem.W.subIn K (.ref (He.ga K "NoName")) (.ref (He.ga K "NoName")) = some true := of_decide_eq_true (cl1 _ (List.mem_of_getElem? (i := 24) rfl))
  have ki_NoChart_NoName : PySem.W.subIn K (.ref (He.ga K "NoChart")) (.ref (He.ga K "NoName")) = some false := of_decide_eq_true (cl1 _ (List.mem_of_getElem? (i := 25) rfl))
  have kc1_NoStep : PySem.W.isClsIn K (He.ga K "NoStep") = true := of_decide_eq_true (cl1 _ (List.mem_of_getElem? (i := 26) rfl))
  have kt_NoStep : PySem.W.typeIn K (.ref (He.ga K "NoStep")) = some (.type "type") := of_decide_eq_true (cl1 _ (List.mem_of_getElem? (i := 27) rfl))
  have ks_NoStep : PySem.W.subIn K (.ref (He.ga K "NoStep")) (.ref (He.ga K "NoStep")) = some true := of_decide_eq_true (cl1 _ (List.mem_of_getElem? (i := 28) rfl))
  have ki_NoChart_NoStep : PySem.W.subIn K (.ref (He.ga K "NoChart")) (.ref (He.ga K "NoStep")) = some false := of_decide_eq_true (cl1 _ (List.mem_of_getElem? (i := 29) rfl))
  have kc1_NotShut : PySem.W.isClsIn K (He.ga K "NotShut") = true := of_decide_eq_true (cl1 _ (List.mem_of_getElem? (i := 30) rfl))
  have kt_NotShut : PySem.W.typeIn K (.ref (He.ga K "NotShut")) = some (.type "type") := of_decide_eq_true (cl1 _ (List.mem_of_getElem? (i := 31) rfl))
  have ks_NotShut : PySem.W.subIn K (.ref (He.ga K "NotShut")) (.ref (He.ga K "NotShut")) = some true := of_decide_eq_true (cl1 _ (List.mem_of_getElem? (i := 32) rfl))
  have ki_NoChart_NotShut : PySem.W.subIn K (.ref (He.ga K "NoChart")) (.ref (He.ga K "NotShut")) = some false := of_decide_eq_true (cl1 _ (List.mem_of_getElem? (i := 33) rfl))
  have kc1_NothingLeft : PySem.W.isClsIn K (He.ga K "NothingLeft") = true := of_decide_eq_true (cl1 _ (List.mem_of_getElem? (i := 34) rfl))
  have kt_NothingLeft : PySem.W.typeIn K (.ref (He.ga K "NothingLeft")) = some (.type "type") := of_decide_eq_true (cl1 _ (List.mem_of_getElem? (i := 35) rfl))
  have ks_NothingLeft : PySem.W.subIn K (.ref (He.ga K "NothingLeft")) (.ref (He.ga K "NothingLeft")) = some true := of_decide_eq_true (cl1 _ (List.mem_of_getElem? (i := 36) rfl))
  have ki_NoChart_NothingLeft : PySem.W.subIn K (.ref (He.ga K "NoChart")) (.ref (He.ga K "NothingLeft")) = some false := of_decide_eq_true (cl1 _ (List.mem_of_getElem? (i := 37) rfl))
  have kc1_TooMany : PySem.W.isClsIn K (He.ga K "TooMany") = true := of_decide_eq_true (cl1 _ (List.mem_of_getElem? (i := 38) rfl))
  have kt_TooMany : PySem.W.typeIn K (.ref (He.ga K "TooMany")) = some (.type "type") := of_decide_eq_true (cl1 _ (List.mem_of_getElem? (i := 39) rfl))
  have ks_TooMany : PySem.W.subIn K (.ref (He.ga K "TooMany")) (.ref (He.ga K "TooMany")) = some true := of_decide_eq_true (cl2 _ (List.mem_of_getElem? (i := 0) rfl))
  have ki_NoChart_TooMany : PySem.W.subIn K (.ref (He.ga K "NoChart")) (.ref (He.ga K "TooMany")) = some false := of_decide_eq_true (cl2 _ (List.mem_of_getElem? (i := 1) rfl))
  have nA_Chart_back : PySem.W.findIn K (.ref (He.ga K "Chart")) "back" = some none := of_decide_eq_true (cl2 _ (List.mem_of_getElem? (i := 2) rfl))
  have nA_Chart_bads : PySem.W.findIn K (.ref (He.ga K "Chart")) "bads" = some none := of_decide_eq_true (cl2 _ (List.mem_of_getElem? (i := 3) rfl))
  have nA_Chart_forth : PySem.W.findIn K (.ref (He.ga K "Chart")) "forth" = some none := of_decide_eq_true (cl2 _ (List.mem_of_getElem? (i := 4) rfl))
  have nA_Chart_many : PySem.W.findIn K (.ref (He.ga K "Chart")) "many" = some none := of_decide_eq_true (cl2 _ (List.mem_of_getElem? (i := 5) rfl))
  have nA_Chart_starts : PySem.W.findIn K (.ref (He.ga K "Chart")) "starts" = some none := of_decide_eq_true (cl2 _ (List.mem_of_getElem? (i := 6) rfl))
  have xx_NoChart : PySem.W.excIn K (He.ga K "NoChart") [.type "ValueError", .type "Exception", .type "BaseException", .type "object"] "ValueError.__new__" = true := of_decide_eq_true (cl2 _ (List.mem_of_getElem? (i := 7) rfl))
  have xk_NoChart : PySem.W.keepIn K (.ref (He.ga K "NoChart")) = true := of_decide_eq_true (cl2 _ (List.mem_of_getElem? (i := 8) rfl))
  have xb_NoChart : PySem.W.subIn K (.ref (He.ga K "NoChart")) (.type "BaseException") = some true := of_decide_eq_true (cl2 _ (List.mem_of_getElem? (i := 9) rfl))
  have xt_NoChart : PySem.W.typeIn K (.ref (He.ga K "NoChart")) = some (.type "type") := of_decide_eq_true (cl2 _ (List.mem_of_getElem? (i := 10) rfl))
  have xb_EverError : PySem.W.subIn K (.ref (He.ga K "EverError")) (.type "BaseException") = some true := of_decide_eq_true (cl2 _ (List.mem_of_getElem? (i := 11) rfl))
  have xd_EverError : PySem.W.hasDictIn K (He.ga K "EverError") = true := of_decide_eq_true (cl2 _ (List.mem_of_getElem? (i := 12) rfl))
  have xt_EverError : PySem.W.typeIn K (.ref (He.ga K "EverError")) = some (.type "type") := of_decide_eq_true (cl2 _ (List.mem_of_getElem? (i := 13) rfl))
  have ki_NoChart_EverError : PySem.W.subIn K (.ref (He.ga K "NoChart")) (.ref (He.ga K "EverError")) = some true := of_decide_eq_true (cl2 _ (List.mem_of_getElem? (i := 14) rfl))
  have xd_NoChart : PySem.W.hasDictIn K (He.ga K "NoChart") = true := of_decide_eq_true (cl2 _ (List.mem_of_getElem? (i := 15) rfl))
  have xg_NoChart : PySem.W.findIn K (.ref (He.ga K "NoChart")) "__getattribute__" = some (some (.builtin "BaseException.__getattribute__")) := of_decide_eq_true (cl2 _ (List.mem_of_getElem? (i := 16) rfl))
  have xa_NoChart : PySem.W.findIn K (.ref (He.ga K "NoChart")) "__getattr__" = some none := of_decide_eq_true (cl2 _ (List.mem_of_getElem? (i := 17) rfl))
  have xl_NoChart : PySem.W.findIn K (.ref (He.ga K "NoChart")) "__class__" = some (some (.builtin "object.__class__")) := of_decide_eq_true (cl2 _ (List.mem_of_getElem? (i := 18) rfl))
  have hn_o : PySem.W.specialIn K (.builtin "object.__class__") "__get__" = some (some (.builtin "getset_descriptor.__get__")) := of_decide_eq_true (cl2 _ (List.mem_of_getElem? (i := 19) rfl))
  have ht_o : PySem.W.takesIn K (.builtin "object.__class__") = some true := of_decide_eq_true (cl2 _ (List.mem_of_getElem? (i := 20) rfl))
  have xm_NoChart : PySem.W.mroIn K (He.ga K "NoChart") (.type "object") = some true := of_decide_eq_true (cl2 _ (List.mem_of_getElem? (i := 21) rfl))
  have ib_NoChart_ValueError : PySem.W.subIn K (.ref (He.ga K "NoChart")) (.type "ValueError") = some true := of_decide_eq_true (cl2 _ (List.mem_of_getElem? (i := 22) rfl))
  have z_ValueError : PySem.W.nsIn K mainGlobals "ValueError" = some none := of_decide_eq_true (cl2 _ (List.mem_of_getElem? (i := 23) rfl))
  have z_bool : PySem.W.nsIn K mainGlobals "bool" = some none := of_decide_eq_true (cl2 _ (List.mem_of_getElem? (i := 24) rfl))
  have z_enumerate : PySem.W.nsIn K mainGlobals "enumerate" = some none := of_decide_eq_true (cl2 _ (List.mem_of_getElem? (i := 25) rfl))
  have z_int : PySem.W.nsIn K mainGlobals "int" = some none := of_decide_eq_true (cl2 _ (List.mem_of_getElem? (i := 26) rfl))
  have z_isinstance : PySem.W.nsIn K mainGlobals "isinstance" = some none := of_decide_eq_true (cl2 _ (List.mem_of_getElem? (i := 27) rfl))
  have z_len : PySem.W.nsIn K mainGlobals "len" = some none := of_decide_eq_true (cl2 _ (List.mem_of_getElem? (i := 28) rfl))
  have z_list : PySem.W.nsIn K mainGlobals "list" = some none := of_decide_eq_true (cl2 _ (List.mem_of_getElem? (i := 29) rfl))
  have z_range : PySem.W.nsIn K mainGlobals "range" = some none := of_decide_eq_true (cl2 _ (List.mem_of_getElem? (i := 30) rfl))
  have z_tuple : PySem.W.nsIn K mainGlobals "tuple" = some none := of_decide_eq_true (cl2 _ (List.mem_of_getElem? (i := 31) rfl))
  obtain ⟨fd0, F0, k0⟩ := defY c 0 (d := dd0) rfl
  have D0 : FunD K "is_whole" "is_whole" (defArgs (top 16)) (defBody (top 16)) (defScope (top 16)) [] [] (He.fAd K ("is_whole", none)) fd0 := F0
  have F0 := funY (st := (top 16)) D0
  have k0 : PySem.W.keepIn K (.ref (He.fAd K ("is_whole", none))) = true := k0
  obtain ⟨fd1, F1, k1⟩ := defY c 1 (d := dd1) rfl
  have D1 : FunD K "is_crowd" "is_crowd" (defArgs (top 17)) (defBody (top 17)) (defScope (top 17)) [] [] (He.fAd K ("is_crowd", none)) fd1 := F1
  have F1 := funY (st := (top 17)) D1
  have k1 : PySem.W.keepIn K (.ref (He.fAd K ("is_crowd", none))) = true := k1
  obtain ⟨fd2, F2, k2⟩ := defY c 2 (d := dd2) rfl
  have D2 : FunD K "stands_of" "stands_of" (defArgs (top 18)) (defBody (top 18)) (defScope (top 18)) [] [] (He.fAd K ("stands_of", none)) fd2 := F2
  have F2 := funY (st := (top 18)) D2
  have k2 : PySem.W.keepIn K (.ref (He.fAd K ("stands_of", none))) = true := k2
  obtain ⟨fd3, F3, k3⟩ := defY c 3 (d := dd3) rfl
  have D3 : FunD K "leading_back" "leading_back" (defArgs (top 19)) (defBody (top 19)) (defScope (top 19)) [] [] (He.fAd K ("leading_back", none)) fd3 := F3
  have F3 := funY (st := (top 19)) D3
  have k3 : PySem.W.keepIn K (.ref (He.fAd K ("leading_back", none))) = true := k3
  obtain ⟨fd4, F4, k4⟩ := defY c 4 (d := dd4) rfl
  have D4 : FunD K "__init__" "Chart.__init__" (defArgs (inClass (top 20) 0)) (defBody (inClass (top 20) 0)) (defScope (inClass (top 20) 0)) [] [] (He.fAd K ("Chart", some "__init__")) fd4 := F4
  have F4 := funY (st := (inClass (top 20) 0)) D4
  have k4 : PySem.W.keepIn K (.ref (He.fAd K ("Chart", some "__init__"))) = true := k4
  obtain ⟨fd5, F5, k5⟩ := defY c 5 (d := dd5) rfl
  have D5 : FunD K "_law_bad_crowd" "_law_bad_crowd" (defArgs (top 23)) (defBody (top 23)) (defScope (top 23)) [] [] (He.fAd K ("_law_bad_crowd", none)) fd5 := F5
  have F5 := funY (st := (top 23)) D5
  have k5 : PySem.W.keepIn K (.ref (He.fAd K ("_law_bad_crowd", none))) = true := k5
  obtain ⟨fd6, F6, k6⟩ := defY c 6 (d := dd6) rfl
  have D6 : FunD K "_law_bad_list" "_law_bad_list" (defArgs (top 25)) (defBody (top 25)) (defScope (top 25)) [] [] (He.fAd K ("_law_bad_list", none)) fd6 := F6
  have F6 := funY (st := (top 25)) D6
  have k6 : PySem.W.keepIn K (.ref (He.fAd K ("_law_bad_list", none))) = true := k6
  obtain ⟨fd7, F7, k7⟩ := defY c 7 (d := dd7) rfl
  have D7 : FunD K "_law_bad_many" "_law_bad_many" (defArgs (top 24)) (defBody (top 24)) (defScope (top 24)) [] [] (He.fAd K ("_law_bad_many", none)) fd7 := F7
  have F7 := funY (st := (top 24)) D7
  have k7 : PySem.W.keepIn K (.ref (He.fAd K ("_law_bad_many", none))) = true := k7
  obtain ⟨fd8, F8, k8⟩ := defY c 8 (d := dd8) rfl
  have D8 : FunD K "_law_cell_at" "_law_cell_at" (defArgs (top 22)) (defBody (top 22)) (defScope (top 22)) [] [] (He.fAd K ("_law_cell_at", none)) fd8 := F8
  have F8 := funY (st := (top 22)) D8
  have k8 : PySem.W.keepIn K (.ref (He.fAd K ("_law_cell_at", none))) = true := k8
  obtain ⟨fd9, F9, k9⟩ := defY c 9 (d := dd9) rfl
  have D9 : FunD K "_law_refused" "_law_refused" (defArgs (top 27)) (defBody (top 27)) (defScope (top 27)) [] [] (He.fAd K ("_law_refused", none)) fd9 := F9
  have F9 := funY (st := (top 27)) D9
  have k9 : PySem.W.keepIn K (.ref (He.fAd K ("_law_refused", none))) = true := k9
  obtain ⟨fd10, F10, k10⟩ := defY c 10 (d := dd10) rfl
  have D10 : FunD K "_law_alone" "_law_alone" (defArgs (top 26)) (defBody (top 26)) (defScope (top 26)) [] [] (He.fAd K ("_law_alone", none)) fd10 := F10
  have F10 := funY (st := (top 26)) D10
  have k10 : PySem.W.keepIn K (.ref (He.fAd K ("_law_alone", none))) = true := k10
  obtain ⟨fd11, F11, k11⟩ := defY c 11 (d := dd11) rfl
  have D11 : FunD K "_law_refused_by_any" "_law_refused_by_any" (defArgs (top 28)) (defBody (top 28)) (defScope (top 28)) [] [] (He.fAd K ("_law_refused_by_any", none)) fd11 := F11
  have F11 := funY (st := (top 28)) D11
  have k11 : PySem.W.keepIn K (.ref (He.fAd K ("_law_refused_by_any", none))) = true := k11
  obtain ⟨fd12, F12, k12⟩ := defY c 12 (d := dd12) rfl
  have D12 : FunD K "law" "law" (defArgs (top 29)) (defBody (top 29)) (defScope (top 29)) [] [] (He.fAd K ("law", none)) fd12 := F12
  have F12 := funY (st := (top 29)) D12
  have k12 : PySem.W.keepIn K (.ref (He.fAd K ("law", none))) = true := k12
  have e := hfa.symm.trans (PySem.W.mg_of X G a12)
  cases e
  have b := FunD.bindsA (ps := ["_law_script"]) D12 fun _ _ _ _ _ _ us hl => match us, hl with | [_], _ => rfl
  exact ⟨fd12, fun s v => b s [v] rfl, fun base _ _ => law_ok (T := {
    c := (⟨(He.ga K "Chart"), (He.ga K "EverError"), (He.ga K "NoBar"), (He.ga K "NoChart"), (He.ga K "NoFence"), (He.ga K "NoFormula"), (He.ga K "NoFrame"), (He.ga K "NoLine"), (He.ga K "NoMachine"), (He.ga K "NoName"), (He.ga K "NoStep"), (He.ga K "NotShut"), (He.ga K "NothingLeft"), (He.ga K "TooMany")⟩),
    m_is_whole := (PySem.W.mg_of X G a0),
    m_is_crowd := (PySem.W.mg_of X G a1),
    m_stands_of := (PySem.W.mg_of X G a2),
    m_leading_back := (PySem.W.mg_of X G a3),
    m__law_bad_crowd := (PySem.W.mg_of X G a5),
    m__law_bad_list := (PySem.W.mg_of X G a6),
    m__law_bad_many := (PySem.W.mg_of X G a7),
    m__law_cell_at := (PySem.W.mg_of X G a8),
    m__law_refused := (PySem.W.mg_of X G a9),
    m__law_alone := (PySem.W.mg_of X G a10),
    m__law_refused_by_any := (PySem.W.mg_of X G a11),
    m_law := (PySem.W.mg_of X G a12),
    m_Chart := (PySem.W.mg_of X G aC_Chart),
    f_is_whole := ((He.fAd K ("is_whole", none))),
    d_is_whole := (fd0),
    F_is_whole := (F0),
    b_is_whole := (F0.binds (ps := ["thing"]) fun _ _ _ _ _ _ us hl => match us, hl with | [_], _ => rfl),
    f_is_crowd := ((He.fAd K ("is_crowd", none))),
    d_is_crowd := (fd1),
    F_is_crowd := (F1),
    b_is_crowd := (F1.binds (ps := ["many", "thing"]) fun _ _ _ _ _ _ us hl => match us, hl with | [_, _], _ => rfl),
    f_stands_of := ((He.fAd K ("stands_of", none))),
    d_stands_of := (fd2),
    F_stands_of := (F2),
    b_stands_of := (F2.binds (ps := ["crowd"]) fun _ _ _ _ _ _ us hl => match us, hl with | [_], _ => rfl),
    f_leading_back := ((He.fAd K ("leading_back", none))),
    d_leading_back := (fd3),
    F_leading_back := (F3),
    b_leading_back := (F3.binds (ps := ["after"]) fun _ _ _ _ _ _ us hl => match us, hl with | [_], _ => rfl),
    f_Chart___init__ := ((He.fAd K ("Chart", some "__init__"))),
    d_Chart___init__ := (fd4),
    F_Chart___init__ := (F4),
    b_Chart___init__ := (F4.binds (ps := ["self", "many", "starts", "bads", "after"]) fun _ _ _ _ _ _ us hl => match us, hl with | [_, _, _, _, _], _ => rfl),
    f__law_bad_crowd := ((He.fAd K ("_law_bad_crowd", none))),
    d__law_bad_crowd := (fd5),
    F__law_bad_crowd := (F5),
    b__law_bad_crowd := (F5.binds (ps := ["_law_cell", "_law_size"]) fun _ _ _ _ _ _ us hl => match us, hl with | [_, _], _ => rfl),
    f__law_bad_list := ((He.fAd K ("_law_bad_list", none))),
    d__law_bad_list := (fd6),
    F__law_bad_list := (F6),
    b__law_bad_list := (F6.binds (ps := ["_law_cell", "_law_after"]) fun _ _ _ _ _ _ us hl => match us, hl with | [_, _], _ => rfl),
    f__law_bad_many := ((He.fAd K ("_law_bad_many", none))),
    d__law_bad_many := (fd7),
    F__law_bad_many := (F7),
    b__law_bad_many := (F7.binds (ps := ["_law_cell", "_law_good"]) fun _ _ _ _ _ _ us hl => match us, hl with | [_, _], _ => rfl),
    f__law_cell_at := ((He.fAd K ("_law_cell_at", none))),
    d__law_cell_at := (fd8),
    F__law_cell_at := (F8),
    b__law_cell_at := (F8.binds (ps := ["_law_script", "_law_k"]) fun _ _ _ _ _ _ us hl => match us, hl with | [_, _], _ => rfl),
    f__law_refused := ((He.fAd K ("_law_refused", none))),
    d__law_refused := (fd9),
    F__law_refused := (F9),
    b__law_refused := (F9.binds (ps := ["_law_many", "_law_starts", "_law_bads", "_law_after"]) fun _ _ _ _ _ _ us hl => match us, hl with | [_, _, _, _], _ => rfl),
    f__law_alone := ((He.fAd K ("_law_alone", none))),
    d__law_alone := (fd10),
    F__law_alone := (F10),
    b__law_alone := (F10.binds (ps := ["_law_e"]) fun _ _ _ _ _ _ us hl => match us, hl with | [_], _ => rfl),
    f__law_refused_by_any := ((He.fAd K ("_law_refused_by_any", none))),
    d__law_refused_by_any := (fd11),
    F__law_refused_by_any := (F11),
    b__law_refused_by_any := (F11.binds (ps := ["_law_many", "_law_starts", "_law_bads", "_law_after"]) fun _ _ _ _ _ _ us hl => match us, hl with | [_, _, _, _], _ => rfl),
    f_law := ((He.fAd K ("law", none))),
    d_law := (fd12),
    F_law := (F12),
    b_law := (F12.binds (ps := ["_law_script"]) fun _ _ _ _ _ _ us hl => match us, hl with | [_], _ => rfl),
    l_Chart := (⟨pg_Chart, hd_Chart, po_Chart, sa_Chart⟩),
    k_Chart := (⟨mk_Chart, a4, i4, kc_Chart⟩),
    i_NoChart_NoBar := (kit_f kc1_NoBar kt_NoBar ki_NoChart_NoBar ks_NoBar),
    i_NoChart_NoChart := (kit_t kc1_NoChart kt_NoChart ki_NoChart_NoChart),
    i_NoChart_NoFence := (kit_f kc1_NoFence kt_NoFence ki_NoChart_NoFence ks_NoFence),
    i_NoChart_NoFormula := (kit_f kc1_NoFormula kt_NoFormula ki_NoChart_NoFormula ks_NoFormula),
    i_NoChart_NoFrame := (kit_f kc1_NoFrame kt_NoFrame ki_NoChart_NoFrame ks_NoFrame),
    i_NoChart_NoLine := (kit_f kc1_NoLine kt_NoLine ki_NoChart_NoLine ks_NoLine),
    i_NoChart_NoMachine := (kit_f kc1_NoMachine kt_NoMachine ki_NoChart_NoMachine ks_NoMachine),
    i_NoChart_NoName := (kit_f kc1_NoName kt_NoName ki_NoChart_NoName ks_NoName),
    i_NoChart_NoStep := (kit_f kc1_NoStep kt_NoStep ki_NoChart_NoStep ks_NoStep),
    i_NoChart_NotShut := (kit_f kc1_NotShut kt_NotShut ki_NoChart_NotShut ks_NotShut),
    i_NoChart_NothingLeft := (kit_f kc1_NothingLeft kt_NothingLeft ki_NoChart_NothingLeft ks_NothingLeft),
    i_NoChart_TooMany := (kit_f kc1_TooMany kt_TooMany ki_NoChart_TooMany ks_TooMany),
    a_Chart_back := (nA_Chart_back),
    a_Chart_bads := (nA_Chart_bads),
    a_Chart_forth := (nA_Chart_forth),
    a_Chart_many := (nA_Chart_many),
    a_Chart_starts := (nA_Chart_starts),
    m_EverError := (PySem.W.mg_of X G aC_EverError),
    m_NoBar := (PySem.W.mg_of X G aC_NoBar),
    m_NoChart := (PySem.W.mg_of X G aC_NoChart),
    m_NoFence := (PySem.W.mg_of X G aC_NoFence),
    m_NoFormula := (PySem.W.mg_of X G aC_NoFormula),
    m_NoFrame := (PySem.W.mg_of X G aC_NoFrame),
    m_NoLine := (PySem.W.mg_of X G aC_NoLine),
    m_NoMachine := (PySem.W.mg_of X G aC_NoMachine),
    m_NoName := (PySem.W.mg_of X G aC_NoName),
    m_NoStep := (PySem.W.mg_of X G aC_NoStep),
    m_NotShut := (PySem.W.mg_of X G aC_NotShut),
    m_NothingLeft := (PySem.W.mg_of X G aC_NothingLeft),
    m_TooMany := (PySem.W.mg_of X G aC_TooMany),
    e_NoChart := (⟨xx_NoChart, xk_NoChart, xb_NoChart, xt_NoChart⟩),
    x_NoChart_EverError := (PySem.W.exm_ref xb_EverError xd_EverError xt_EverError ki_NoChart_EverError),
    x_NoChart_NoChart := (PySem.W.exm_ref xb_NoChart xd_NoChart xt_NoChart ki_NoChart_NoChart),
    xc_NoChart := (⟨xg_NoChart, xa_NoChart, xb_NoChart, xd_NoChart, xl_NoChart, hn_o, ht_o, xm_NoChart⟩),
    ib_NoChart_ValueError := (ib_NoChart_ValueError),
    n_ValueError := (PySem.W.mg_none_of X G z_ValueError),
    n_bool := (PySem.W.mg_none_of X G z_bool),
    n_enumerate := (PySem.W.mg_none_of X G z_enumerate),
    n_int := (PySem.W.mg_none_of X G z_int),
    n_isinstance := (PySem.W.mg_none_of X G z_isinstance),
    n_len := (PySem.W.mg_none_of X G z_len),
    n_list := (PySem.W.mg_none_of X G z_list),
    n_range := (PySem.W.mg_none_of X G z_range),
    n_tuple := (PySem.W.mg_none_of X G z_tuple) })⟩
end E
namespace Hd
open PySem PySem.W PySem.Calls PyProof.Rows
abbrev R : OpenRow := OpenLaw.row PySem.Challenge.rw_evernever_k10_no_chart
def nm0 : List PySem.Str := ["_wall", "EverError", "NoFormula", "NoChart", "NoStep", "NoLine", "NoName", "NoBar", "NotShut", "NoFrame", "NoFence", "NoMachine", "NothingLeft", "TooMany", "is_whole", "is_crowd", "stands_of", "leading_back", "Chart", "_law_cell_at", "_law_bad_crowd", "_law_bad_many", "_law_bad_list", "_law_alone", "_law_refused", "_law_refused_by_any"]
abbrev names : List PySem.Str := nm0
abbrev hk : PySem.W.Hook := Z.hookY 5 E.chkA E.dfs
def ob (s : PySem.W.SharedT) : He.AlD := Z.obY 5 E.chkA E.dfs s
theorem ob_eq (s : PySem.W.SharedT) : ob s = hk.obs s.abs := Z.obY_eq s
set_option maxHeartbeats 0 in
theorem run (w : World) : HandSHeadRun.RunEq R (PySem.W.view R.prog [29]) hk ob 60000 names w := by
  intro os
  kernel_rfl
end Hd
open PySem PySem.W PySem.Calls PyProof.Rows
set_option maxRecDepth 100000 in
set_option maxHeartbeats 0 in
theorem PySem.Challenge.cw_evernever_k10_no_chart_holds : PySem.Challenge.rw_evernever_k10_no_chart.Holds := by
  w_on; o_law
  refine HandSHeadRun.head_any (r := OpenLaw.row PySem.Challenge.rw_evernever_k10_no_chart) (q := PySem.W.view (OpenLaw.row PySem.Challenge.rw_evernever_k10_no_chart).prog [29]) (H := Hd.hk) (ob := Hd.ob) (M := 60000) (loose := Hd.names) (d := HandSHeadRun.topDef (OpenLaw.row PySem.Challenge.rw_evernever_k10_no_chart).prog 29) (kwd := []) Hd.ob_eq
    (by kernel_rfl) (fun s => by kernel_rfl) Hd.run (by kernel_rfl) (by kernel_rfl) (by kernel_rfl) (by rfl) (by first | assumption | decide +kernel) (by decide +kernel) ⟨rfl, rfl, rfl, rfl, rfl, by decide +kernel⟩ ?hw ?hc
  case hw => w_witness2
  case hc =>
    refine L2.walk_ofE (l := PySem.Challenge.rw_evernever_k10_no_chart) (n := 63) (k := 6) (x := "_law_script") (CX := L2.CX0) rfl (by decide) (by kernel_rfl) ⟨rfl, by decide, by decide⟩ ?F (fun _ _ _ _ z => z)
    intro w mg fa h Y G hmg0
    obtain ⟨K, KX, c⟩ := Y
    have hmg : mg ("law" : PySem.Str) = some (.ref fa) := by
      have e : (HandSHeadRun.topDef (OpenLaw.row PySem.Challenge.rw_evernever_k10_no_chart).prog 29).name = ("law" : PySem.Str) := by kernel_rfl
      rw [← e]
      exact hmg0
    obtain ⟨fd, hb, hF⟩ := E.all_mk (l := PySem.Challenge.rw_evernever_k10_no_chart) (w := w) KX G hmg c
    exact ⟨K, fd, E.spLaw K, KX, hb, fun H a ns hl _ hS => ⟨a, ns, rfl, hS, hl, fun _ => rfl⟩, hF⟩
#print axioms PySem.Challenge.cw_evernever_k10_no_chart_holds
