import PyProof.Rows.All
import Wide.All
import OpenK.AllK
import Wide.FinOn
import Lean
import PySem.Challenge.RW_sf0041_01
set_option Elab.async false
set_option maxRecDepth 100000
set_option linter.all false
open PySem
namespace Mine
section
theorem nsx {α : Type _} {P : Prop} {v : α} (h : none = some v) : P := by cases h
theorem snx {α : Type _} {P : Prop} {v : α} (h : some v = none) : P := by cases h
theorem ftx {P : Prop} (h : false = true) : P := by cases h
theorem tfx {P : Prop} (h : true = false) : P := by cases h
theorem mi {α : Type _} {l : List α} (i : Nat) {x : α} (e : l[i]? = some x) : x ∈ l := List.mem_of_getElem? e
theorem mc {α : Type _} {a b : α} {l : List α} (m : b ∈ a :: l) : a = b ∨ b ∈ l := (List.mem_cons.mp m).imp Eq.symm id
theorem sp {α β : Type _} {a c : α} {b d : β} (h : some (a, b) = some (c, d)) : a = c ∧ b = d := by cases h; exact ⟨rfl, rfl⟩
theorem sp3 {α β γ : Type _} {a c : α} {b d : β} {e f : γ} (h : some (a, b, e) = some (c, d, f)) : a = c ∧ b = d ∧ e = f := by cases h; exact ⟨rfl, rfl, rfl⟩
inductive Z where
  | lit (k : Int)
  | sym (i : Nat)
structure CloT where
  params : List Str
  body : FuncBody
  names : List (Str × NameKind)
inductive V where
  | none
  | bool (b : Bool)
  | int (z : Z)
  | str (s : Str)
  | tup (l : List V)
  | lst (i : Nat)
  | rng (n : Nat)
  | con (c : Value)
  | fn (n : Str)
  | img
  | thing (k f s : V)
  | clo (n : Str) (k : CloT) (cap : List (Str × V))
  | dct (l : List (Str × V))
  | any
inductive Cell where
  | lst (l : List V)
  | forge
inductive Tr where
  | nil
  | node (v : Option Cell) (l r : Tr)
noncomputable def Tr.get : Tr → Nat → Option Cell
  | .nil, _ => none
  | .node v l r, i => match Nat.beq i 0 with
    | true => v
    | false => match Nat.beq (i % 2) 1 with
      | true => l.get (i / 2)
      | false => r.get (i / 2 - 1)
noncomputable def Tr.set (c : Cell) : Nat → Tr → Nat → Tr
  | 0, t, _ => t
  | k + 1, .nil, i => match Nat.beq i 0 with
    | true => .node (some c) .nil .nil
    | false => match Nat.beq (i % 2) 1 with
      | true => .node none (Tr.set c k .nil (i / 2)) .nil
      | false => .node none .nil (Tr.set c k .nil (i / 2 - 1))
  | k + 1, .node v l r, i => match Nat.beq i 0 with
    | true => .node (some c) l r
    | false => match Nat.beq (i % 2) 1 with
      | true => .node v (Tr.set c k l (i / 2)) r
      | false => .node v l (Tr.set c k r (i / 2 - 1))
structure St where
  tr : Tr
  n : Nat
  syms : Nat
structure Fr where
  fn : Str
  names : List (Str × NameKind)
  pars : List Str
  vars : List (Str × V)
inductive Fl where
  | next
  | ret (v : V)
  | exc (n : Str)
inductive Rs where
  | val (v : V)
  | exc (n : Str)
inductive It where
  | tup (l : List V)
  | lst (i k : Nat)
  | rng (k n : Nat)
  | zip (l : List It)
  | enu (k : Nat) (it : It)
structure Bx (α : Type) where
  f : α
structure Rec where
  E : Expr → Fr → St → Option (V × St)
  T : Expr → Fr → St → Option (Bool × St)
  S : Stmt → Fr → St → Option (Fl × List (Str × V) × St)
  C : V → List V → St → Option (Rs × St)
section
variable {α β : Type}
noncomputable def bd (x : Option α) (f : α → Option β) : Option β := @Option.rec α (fun _ => Option β) none f x
end
theorem bd_e {α β : Type} {x : Option α} {f : α → Option β} {r : β} {G : Prop} (h : bd x f = some r) (k : ∀ a, x = some a → f a = some r → G) : G := by
  induction x using Option.casesOn with
  | none => exact nsx h
  | some a => exact k a rfl h
theorem bd_r {α β : Type} {x : Option α} {f : α → Option β} {r : β} {G : Prop} (k : ∀ a, x = some a → f a = some r → G) (h : bd x f = some r) : G := bd_e h k
theorem bd_r2 {α γ β : Type} {x : Option (α × γ)} {f : α × γ → Option β} {r : β} {G : Prop} (k : ∀ a b, x = some (a, b) → f (a, b) = some r → G) (h : bd x f = some r) : G := bd_e h fun p => k p.1 p.2
theorem bd_r3 {α γ δ β : Type} {x : Option (α × γ × δ)} {f : α × γ × δ → Option β} {r : β} {G : Prop} (k : ∀ a b c, x = some (a, b, c) → f (a, b, c) = some r → G) (h : bd x f = some r) : G := bd_e h fun p => k p.1 p.2.1 p.2.2
theorem len2 {α : Type} {l : List α} (h : l.length = 2) : ∃ a b, l = [a, b] := by
  match l, h with
  | [a, b], _ => exact ⟨a, b, rfl⟩
theorem len3 {α : Type} {l : List α} (h : l.length = 3) : ∃ a b c, l = [a, b, c] := by
  match l, h with
  | [a, b, c], _ => exact ⟨a, b, c, rfl⟩
theorem bd_e2 {α γ β : Type} {x : Option (α × γ)} {f : α × γ → Option β} {r : β} {G : Prop} (h : bd x f = some r) (k : ∀ a b, x = some (a, b) → f (a, b) = some r → G) : G := bd_e h fun p => k p.1 p.2
theorem bd_e3 {α γ δ β : Type} {x : Option (α × γ × δ)} {f : α × γ × δ → Option β} {r : β} {G : Prop} (h : bd x f = some r) (k : ∀ a b c, x = some (a, b, c) → f (a, b, c) = some r → G) : G := bd_e h fun p => k p.1 p.2.1 p.2.2
theorem X9 {P1 : Prop} {P2 : Prop} {P3 : Prop} {P4 : Prop} (p1 : P1) (p2 : P2) (p3 : P3) (p4 : P4) : P1 ∧ P2 ∧ P3 ∧ P4 := ⟨p1, p2, p3, p4⟩
theorem wi5 {α0 : Type} {P1 : Prop} {P2 : Prop} {P3 : Prop} {P4 : α0 → Prop} {P5 : α0 → Prop} (p1 : P1) (p2 : P2) (p3 : P3) (v0 : α0) (p4 : P4 v0) (p5 : P5 v0) : P1 ∧ P2 ∧ P3 ∧ ∃ v0, P4 v0 ∧ P5 v0 := ⟨p1, p2, p3, v0, p4, p5⟩
theorem X8 {α0 : Type} {P1 : Prop} {P2 : α0 → Prop} (p1 : P1) (v0 : α0) (p2 : P2 v0) : P1 ∧ ∃ v0, P2 v0 := ⟨p1, v0, p2⟩
theorem Z2 {α0 : Type} {P1 : Prop} {P2 : α0 → Prop} {P3 : α0 → Prop} (p1 : P1) (v0 : α0) (p2 : P2 v0) (p3 : P3 v0) : P1 ∧ ∃ v0, P2 v0 ∧ P3 v0 := ⟨p1, v0, p2, p3⟩
theorem wi2 {α0 : Type} {P1 : Prop} {P2 : α0 → Prop} {P3 : α0 → Prop} {P4 : α0 → Prop} {P5 : α0 → Prop} {P6 : α0 → Prop} (p1 : P1) (v0 : α0) (p2 : P2 v0) (p3 : P3 v0) (p4 : P4 v0) (p5 : P5 v0) (p6 : P6 v0) : P1 ∧ ∃ v0, P2 v0 ∧ P3 v0 ∧ P4 v0 ∧ P5 v0 ∧ P6 v0 := ⟨p1, v0, p2, p3, p4, p5, p6⟩
theorem W1 {α0 α1 : Type} {P1 : Prop} {P2 : α0 → α1 → Prop} {P3 : α0 → α1 → Prop} {P4 : α0 → α1 → Prop} (p1 : P1) (v0 : α0) (v1 : α1) (p2 : P2 v0 v1) (p3 : P3 v0 v1) (p4 : P4 v0 v1) : P1 ∧ ∃ v0, ∃ v1, P2 v0 v1 ∧ P3 v0 v1 ∧ P4 v0 v1 := ⟨p1, v0, v1, p2, p3, p4⟩
theorem W7 {α0 α1 : Type} {P1 : Prop} {P2 : α0 → α1 → Prop} {P3 : α0 → α1 → Prop} {P4 : α0 → α1 → Prop} {P5 : α0 → α1 → Prop} (p1 : P1) (v0 : α0) (v1 : α1) (p2 : P2 v0 v1) (p3 : P3 v0 v1) (p4 : P4 v0 v1) (p5 : P5 v0 v1) : P1 ∧ ∃ v0, ∃ v1, P2 v0 v1 ∧ P3 v0 v1 ∧ P4 v0 v1 ∧ P5 v0 v1 := ⟨p1, v0, v1, p2, p3, p4, p5⟩
theorem Z3 {α0 α1 : Type} {P1 : Prop} {P2 : α0 → α1 → Prop} {P3 : α0 → α1 → Prop} {P4 : α0 → α1 → Prop} {P5 : α0 → α1 → Prop} {P6 : α0 → α1 → Prop} (p1 : P1) (v0 : α0) (v1 : α1) (p2 : P2 v0 v1) (p3 : P3 v0 v1) (p4 : P4 v0 v1) (p5 : P5 v0 v1) (p6 : P6 v0 v1) : P1 ∧ ∃ v0, ∃ v1, P2 v0 v1 ∧ P3 v0 v1 ∧ P4 v0 v1 ∧ P5 v0 v1 ∧ P6 v0 v1 := ⟨p1, v0, v1, p2, p3, p4, p5, p6⟩
theorem wi0 {α0 α1 α2 : Type} {P1 : Prop} {P2 : α0 → α1 → Prop} {P3 : α0 → α1 → Prop} {P4 : α0 → α1 → α2 → Prop} {P5 : α0 → α1 → α2 → Prop} (p1 : P1) (v0 : α0) (v1 : α1) (p2 : P2 v0 v1) (p3 : P3 v0 v1) (v2 : α2) (p4 : P4 v0 v1 v2) (p5 : P5 v0 v1 v2) : P1 ∧ ∃ v0, ∃ v1, P2 v0 v1 ∧ P3 v0 v1 ∧ ∃ v2, P4 v0 v1 v2 ∧ P5 v0 v1 v2 := ⟨p1, v0, v1, p2, p3, v2, p4, p5⟩
theorem w7 {α0 : Type} {P1 : α0 → Prop} {P2 : α0 → Prop} (v0 : α0) (p1 : P1 v0) (p2 : P2 v0) : ∃ v0, P1 v0 ∧ P2 v0 := ⟨v0, p1, p2⟩
theorem W4 {α0 : Type} {P1 : α0 → Prop} {P2 : α0 → Prop} {P3 : α0 → Prop} (v0 : α0) (p1 : P1 v0) (p2 : P2 v0) (p3 : P3 v0) : ∃ v0, P1 v0 ∧ P2 v0 ∧ P3 v0 := ⟨v0, p1, p2, p3⟩
theorem Y2 {α0 : Type} {P1 : α0 → Prop} {P2 : α0 → Prop} {P3 : α0 → Prop} {P4 : α0 → Prop} (v0 : α0) (p1 : P1 v0) (p2 : P2 v0) (p3 : P3 v0) (p4 : P4 v0) : ∃ v0, P1 v0 ∧ P2 v0 ∧ P3 v0 ∧ P4 v0 := ⟨v0, p1, p2, p3, p4⟩
theorem Z5 {α0 : Type} {P1 : α0 → Prop} {P2 : α0 → Prop} {P3 : α0 → Prop} {P4 : α0 → Prop} {P5 : α0 → Prop} (v0 : α0) (p1 : P1 v0) (p2 : P2 v0) (p3 : P3 v0) (p4 : P4 v0) (p5 : P5 v0) : ∃ v0, P1 v0 ∧ P2 v0 ∧ P3 v0 ∧ P4 v0 ∧ P5 v0 := ⟨v0, p1, p2, p3, p4, p5⟩
theorem Y5 {α0 α1 : Type} {P1 : α0 → Prop} {P2 : α0 → Prop} {P3 : α0 → α1 → Prop} (v0 : α0) (p1 : P1 v0) (p2 : P2 v0) (v1 : α1) (p3 : P3 v0 v1) : ∃ v0, P1 v0 ∧ P2 v0 ∧ ∃ v1, P3 v0 v1 := ⟨v0, p1, p2, v1, p3⟩
theorem wi6 {α0 α1 : Type} {P1 : α0 → Prop} {P2 : α0 → α1 → Prop} {P3 : α0 → α1 → Prop} (v0 : α0) (p1 : P1 v0) (v1 : α1) (p2 : P2 v0 v1) (p3 : P3 v0 v1) : ∃ v0, P1 v0 ∧ ∃ v1, P2 v0 v1 ∧ P3 v0 v1 := ⟨v0, p1, v1, p2, p3⟩
theorem x7 {α0 α1 : Type} {P1 : α0 → α1 → Prop} (v0 : α0) (v1 : α1) (p1 : P1 v0 v1) : ∃ v0, ∃ v1, P1 v0 v1 := ⟨v0, v1, p1⟩
theorem x9 {α0 α1 : Type} {P1 : α0 → α1 → Prop} {P2 : α0 → α1 → Prop} (v0 : α0) (v1 : α1) (p1 : P1 v0 v1) (p2 : P2 v0 v1) : ∃ v0, ∃ v1, P1 v0 v1 ∧ P2 v0 v1 := ⟨v0, v1, p1, p2⟩
theorem y7 {α0 α1 : Type} {P1 : α0 → α1 → Prop} {P2 : α0 → α1 → Prop} {P3 : α0 → α1 → Prop} (v0 : α0) (v1 : α1) (p1 : P1 v0 v1) (p2 : P2 v0 v1) (p3 : P3 v0 v1) : ∃ v0, ∃ v1, P1 v0 v1 ∧ P2 v0 v1 ∧ P3 v0 v1 := ⟨v0, v1, p1, p2, p3⟩
theorem y8 {α0 α1 : Type} {P1 : α0 → α1 → Prop} {P2 : α0 → α1 → Prop} {P3 : α0 → α1 → Prop} {P4 : α0 → α1 → Prop} (v0 : α0) (v1 : α1) (p1 : P1 v0 v1) (p2 : P2 v0 v1) (p3 : P3 v0 v1) (p4 : P4 v0 v1) : ∃ v0, ∃ v1, P1 v0 v1 ∧ P2 v0 v1 ∧ P3 v0 v1 ∧ P4 v0 v1 := ⟨v0, v1, p1, p2, p3, p4⟩
theorem Z9 {α0 α1 : Type} {P1 : α0 → α1 → Prop} {P2 : α0 → α1 → Prop} {P3 : α0 → α1 → Prop} {P4 : α0 → α1 → Prop} {P5 : α0 → α1 → Prop} {P6 : α0 → α1 → Prop} (v0 : α0) (v1 : α1) (p1 : P1 v0 v1) (p2 : P2 v0 v1) (p3 : P3 v0 v1) (p4 : P4 v0 v1) (p5 : P5 v0 v1) (p6 : P6 v0 v1) : ∃ v0, ∃ v1, P1 v0 v1 ∧ P2 v0 v1 ∧ P3 v0 v1 ∧ P4 v0 v1 ∧ P5 v0 v1 ∧ P6 v0 v1 := ⟨v0, v1, p1, p2, p3, p4, p5, p6⟩
theorem W8 {α0 α1 α2 : Type} {P1 : α0 → α1 → α2 → Prop} {P2 : α0 → α1 → α2 → Prop} (v0 : α0) (v1 : α1) (v2 : α2) (p1 : P1 v0 v1 v2) (p2 : P2 v0 v1 v2) : ∃ v0, ∃ v1, ∃ v2, P1 v0 v1 v2 ∧ P2 v0 v1 v2 := ⟨v0, v1, v2, p1, p2⟩
theorem X3 {α0 α1 α2 : Type} {P1 : α0 → α1 → α2 → Prop} {P2 : α0 → α1 → α2 → Prop} {P3 : α0 → α1 → α2 → Prop} (v0 : α0) (v1 : α1) (v2 : α2) (p1 : P1 v0 v1 v2) (p2 : P2 v0 v1 v2) (p3 : P3 v0 v1 v2) : ∃ v0, ∃ v1, ∃ v2, P1 v0 v1 v2 ∧ P2 v0 v1 v2 ∧ P3 v0 v1 v2 := ⟨v0, v1, v2, p1, p2, p3⟩
theorem X7 {α0 α1 α2 : Type} {P1 : α0 → α1 → α2 → Prop} {P2 : α0 → α1 → α2 → Prop} {P3 : α0 → α1 → α2 → Prop} {P4 : α0 → α1 → α2 → Prop} (v0 : α0) (v1 : α1) (v2 : α2) (p1 : P1 v0 v1 v2) (p2 : P2 v0 v1 v2) (p3 : P3 v0 v1 v2) (p4 : P4 v0 v1 v2) : ∃ v0, ∃ v1, ∃ v2, P1 v0 v1 v2 ∧ P2 v0 v1 v2 ∧ P3 v0 v1 v2 ∧ P4 v0 v1 v2 := ⟨v0, v1, v2, p1, p2, p3, p4⟩
theorem Y4 {α0 α1 α2 : Type} {P1 : α0 → α1 → α2 → Prop} {P2 : α0 → α1 → α2 → Prop} {P3 : α0 → α1 → α2 → Prop} {P4 : α0 → α1 → α2 → Prop} {P5 : α0 → α1 → α2 → Prop} (v0 : α0) (v1 : α1) (v2 : α2) (p1 : P1 v0 v1 v2) (p2 : P2 v0 v1 v2) (p3 : P3 v0 v1 v2) (p4 : P4 v0 v1 v2) (p5 : P5 v0 v1 v2) : ∃ v0, ∃ v1, ∃ v2, P1 v0 v1 v2 ∧ P2 v0 v1 v2 ∧ P3 v0 v1 v2 ∧ P4 v0 v1 v2 ∧ P5 v0 v1 v2 := ⟨v0, v1, v2, p1, p2, p3, p4, p5⟩
theorem wi9 {α0 α1 α2 : Type} {P1 : α0 → α1 → α2 → Prop} {P2 : α0 → α1 → α2 → Prop} {P3 : α0 → α1 → α2 → Prop} {P4 : α0 → α1 → α2 → Prop} {P5 : α0 → α1 → α2 → Prop} {P6 : α0 → α1 → α2 → Prop} (v0 : α0) (v1 : α1) (v2 : α2) (p1 : P1 v0 v1 v2) (p2 : P2 v0 v1 v2) (p3 : P3 v0 v1 v2) (p4 : P4 v0 v1 v2) (p5 : P5 v0 v1 v2) (p6 : P6 v0 v1 v2) : ∃ v0, ∃ v1, ∃ v2, P1 v0 v1 v2 ∧ P2 v0 v1 v2 ∧ P3 v0 v1 v2 ∧ P4 v0 v1 v2 ∧ P5 v0 v1 v2 ∧ P6 v0 v1 v2 := ⟨v0, v1, v2, p1, p2, p3, p4, p5, p6⟩
theorem X5 {α0 α1 α2 α3 : Type} {P1 : α0 → α1 → α2 → α3 → Prop} {P2 : α0 → α1 → α2 → α3 → Prop} (v0 : α0) (v1 : α1) (v2 : α2) (v3 : α3) (p1 : P1 v0 v1 v2 v3) (p2 : P2 v0 v1 v2 v3) : ∃ v0, ∃ v1, ∃ v2, ∃ v3, P1 v0 v1 v2 v3 ∧ P2 v0 v1 v2 v3 := ⟨v0, v1, v2, v3, p1, p2⟩
theorem X6 {α0 α1 α2 α3 : Type} {P1 : α0 → α1 → α2 → α3 → Prop} {P2 : α0 → α1 → α2 → α3 → Prop} {P3 : α0 → α1 → α2 → α3 → Prop} (v0 : α0) (v1 : α1) (v2 : α2) (v3 : α3) (p1 : P1 v0 v1 v2 v3) (p2 : P2 v0 v1 v2 v3) (p3 : P3 v0 v1 v2 v3) : ∃ v0, ∃ v1, ∃ v2, ∃ v3, P1 v0 v1 v2 v3 ∧ P2 v0 v1 v2 v3 ∧ P3 v0 v1 v2 v3 := ⟨v0, v1, v2, v3, p1, p2, p3⟩
theorem Z1 {α0 α1 α2 α3 : Type} {P1 : α0 → α1 → α2 → α3 → Prop} {P2 : α0 → α1 → α2 → α3 → Prop} {P3 : α0 → α1 → α2 → α3 → Prop} {P4 : α0 → α1 → α2 → α3 → Prop} (v0 : α0) (v1 : α1) (v2 : α2) (v3 : α3) (p1 : P1 v0 v1 v2 v3) (p2 : P2 v0 v1 v2 v3) (p3 : P3 v0 v1 v2 v3) (p4 : P4 v0 v1 v2 v3) : ∃ v0, ∃ v1, ∃ v2, ∃ v3, P1 v0 v1 v2 v3 ∧ P2 v0 v1 v2 v3 ∧ P3 v0 v1 v2 v3 ∧ P4 v0 v1 v2 v3 := ⟨v0, v1, v2, v3, p1, p2, p3, p4⟩
theorem Y7 {α0 α1 α2 α3 α4 : Type} {P1 : α0 → α1 → α2 → α3 → α4 → Prop} {P2 : α0 → α1 → α2 → α3 → α4 → Prop} {P3 : α0 → α1 → α2 → α3 → α4 → Prop} (v0 : α0) (v1 : α1) (v2 : α2) (v3 : α3) (v4 : α4) (p1 : P1 v0 v1 v2 v3 v4) (p2 : P2 v0 v1 v2 v3 v4) (p3 : P3 v0 v1 v2 v3 v4) : ∃ v0, ∃ v1, ∃ v2, ∃ v3, ∃ v4, P1 v0 v1 v2 v3 v4 ∧ P2 v0 v1 v2 v3 v4 ∧ P3 v0 v1 v2 v3 v4 := ⟨v0, v1, v2, v3, v4, p1, p2, p3⟩
@[elab_as_elim] theorem sp_g {α β : Type} {a c : α} {b d : β} {P : α → β → Prop} (h : some (a, b) = some (c, d)) (q : P a b) : P c d := by
  obtain ⟨rfl, rfl⟩ := sp h; exact q
@[elab_as_elim] theorem sp3_g {α β γ : Type} {a c : α} {b d : β} {e f : γ} {P : α → β → γ → Prop} (h : some (a, b, e) = some (c, d, f)) (q : P a b e) : P c d f := by
  obtain ⟨rfl, rfl, rfl⟩ := sp3 h; exact q
theorem sm_r {α : Type _} {a b : α} {G : Prop} (k : a = b → G) (h : some a = some b) : G := k (Option.some.inj h)
theorem sp_r {α β : Type _} {a c : α} {b d : β} {G : Prop} (k : a = c → b = d → G) (h : some (a, b) = some (c, d)) : G := k (sp h).1 (sp h).2
theorem sp3_r {α β γ : Type _} {a c : α} {b d : β} {e f : γ} {G : Prop} (k : a = c → b = d → e = f → G) (h : some (a, b, e) = some (c, d, f)) : G := k (sp3 h).1 (sp3 h).2.1 (sp3 h).2.2
theorem pr_r {α β : Type _} {a c : α} {b d : β} {G : Prop} (k : a = c → b = d → G) (h : (a, b) = (c, d)) : G := k (Prod.mk.inj h).1 (Prod.mk.inj h).2
theorem cn_r {α : Type _} {a c : α} {b d : List α} {G : Prop} (k : a = c → b = d → G) (h : a :: b = c :: d) : G := k (List.cons.inj h).1 (List.cons.inj h).2
@[elab_as_elim] theorem rwm.{u} {α : Sort u} {a b : α} {p : α → Prop} (h : a = b) (e : p b) : p a := by rw [h]; exact e
@[elab_as_elim] theorem rwl.{u} {α : Sort u} {a b : α} {p : α → Prop} (h : b = a) (e : p b) : p a := by rw [← h]; exact e
theorem w8 {P1 : Prop} {P2 : Prop} {G : Prop} (h : P1 ∧ P2) (k : P1 → P2 → G) : G := by
  obtain ⟨p1, p2⟩ := h
  exact k p1 p2
theorem W2 {P1 : Prop} {P2 : Prop} {P3 : Prop} {G : Prop} (h : P1 ∧ P2 ∧ P3) (k : P1 → P2 → P3 → G) : G := by
  obtain ⟨p1, p2, p3⟩ := h
  exact k p1 p2 p3
theorem Y6 {P1 : Prop} {P2 : Prop} {P3 : Prop} {P4 : Prop} {G : Prop} (h : P1 ∧ P2 ∧ P3 ∧ P4) (k : P1 → P2 → P3 → P4 → G) : G := by
  obtain ⟨p1, p2, p3, p4⟩ := h
  exact k p1 p2 p3 p4
theorem wi4 {P1 : Prop} {P2 : Prop} {P3 : Prop} {P4 : Prop} {P5 : Prop} {G : Prop} (h : P1 ∧ P2 ∧ P3 ∧ P4 ∧ P5) (k : P1 → P2 → P3 → P4 → P5 → G) : G := by
  obtain ⟨p1, p2, p3, p4, p5⟩ := h
  exact k p1 p2 p3 p4 p5
theorem wj1 {α0 : Type} {P1 : Prop} {P2 : Prop} {P3 : α0 → Prop} {P4 : α0 → Prop} {G : Prop} (h : P1 ∧ P2 ∧ ∃ v0, P3 v0 ∧ P4 v0) (k : P1 → P2 → ∀ v0, P3 v0 → P4 v0 → G) : G := by
  obtain ⟨p1, p2, v0, p3, p4⟩ := h
  exact k p1 p2 v0 p3 p4
theorem Y9 {α0 : Type} {P1 : Prop} {P2 : α0 → Prop} {P3 : α0 → Prop} {G : Prop} (h : P1 ∧ ∃ v0, P2 v0 ∧ P3 v0) (k : P1 → ∀ v0, P2 v0 → P3 v0 → G) : G := by
  obtain ⟨p1, v0, p2, p3⟩ := h
  exact k p1 v0 p2 p3
theorem wi8 {α0 α1 : Type} {P1 : Prop} {P2 : α0 → Prop} {P3 : α0 → Prop} {P4 : α0 → α1 → Prop} {G : Prop} (h : P1 ∧ ∃ v0, P2 v0 ∧ P3 v0 ∧ ∃ v1, P4 v0 v1) (k : P1 → ∀ v0, P2 v0 → P3 v0 → ∀ v1, P4 v0 v1 → G) : G := by
  obtain ⟨p1, v0, p2, p3, v1, p4⟩ := h
  exact k p1 v0 p2 p3 v1 p4
theorem z0 {α0 α1 : Type} {P1 : Prop} {P2 : α0 → α1 → Prop} {P3 : α0 → α1 → Prop} {P4 : α0 → α1 → Prop} {G : Prop} (h : P1 ∧ ∃ v0, ∃ v1, P2 v0 v1 ∧ P3 v0 v1 ∧ P4 v0 v1) (k : P1 → ∀ v0, ∀ v1, P2 v0 v1 → P3 v0 v1 → P4 v0 v1 → G) : G := by
  obtain ⟨p1, v0, v1, p2, p3, p4⟩ := h
  exact k p1 v0 v1 p2 p3 p4
theorem X4 {α0 α1 : Type} {P1 : Prop} {P2 : α0 → α1 → Prop} {P3 : α0 → α1 → Prop} {P4 : α0 → α1 → Prop} {P5 : α0 → α1 → Prop} {G : Prop} (h : P1 ∧ ∃ v0, ∃ v1, P2 v0 v1 ∧ P3 v0 v1 ∧ P4 v0 v1 ∧ P5 v0 v1) (k : P1 → ∀ v0, ∀ v1, P2 v0 v1 → P3 v0 v1 → P4 v0 v1 → P5 v0 v1 → G) : G := by
  obtain ⟨p1, v0, v1, p2, p3, p4, p5⟩ := h
  exact k p1 v0 v1 p2 p3 p4 p5
theorem Z7 {α0 α1 : Type} {P1 : Prop} {P2 : α0 → α1 → Prop} {P3 : α0 → α1 → Prop} {P4 : α0 → α1 → Prop} {P5 : α0 → α1 → Prop} {P6 : α0 → α1 → Prop} {G : Prop} (h : P1 ∧ ∃ v0, ∃ v1, P2 v0 v1 ∧ P3 v0 v1 ∧ P4 v0 v1 ∧ P5 v0 v1 ∧ P6 v0 v1) (k : P1 → ∀ v0, ∀ v1, P2 v0 v1 → P3 v0 v1 → P4 v0 v1 → P5 v0 v1 → P6 v0 v1 → G) : G := by
  obtain ⟨p1, v0, v1, p2, p3, p4, p5, p6⟩ := h
  exact k p1 v0 v1 p2 p3 p4 p5 p6
theorem wj2 {α0 β0 : Type} {P1 : (α0 × β0) → Prop} {P2 : (α0 × β0) → Prop} {G : Prop} (h : ∃ v0, P1 v0 ∧ P2 v0) (k : ∀ v0 u0, P1 (v0, u0) → P2 (v0, u0) → G) : G := by
  obtain ⟨⟨v0, u0⟩, p1, p2⟩ := h
  exact k v0 u0 p1 p2
theorem w5 {α0 : Type} {P1 : α0 → Prop} {G : Prop} (h : ∃ v0, P1 v0) (k : ∀ v0, P1 v0 → G) : G := by
  obtain ⟨v0, p1⟩ := h
  exact k v0 p1
theorem w6 {α0 : Type} {P1 : α0 → Prop} {P2 : α0 → Prop} {G : Prop} (h : ∃ v0, P1 v0 ∧ P2 v0) (k : ∀ v0, P1 v0 → P2 v0 → G) : G := by
  obtain ⟨v0, p1, p2⟩ := h
  exact k v0 p1 p2
theorem W3 {α0 : Type} {P1 : α0 → Prop} {P2 : α0 → Prop} {P3 : α0 → Prop} {G : Prop} (h : ∃ v0, P1 v0 ∧ P2 v0 ∧ P3 v0) (k : ∀ v0, P1 v0 → P2 v0 → P3 v0 → G) : G := by
  obtain ⟨v0, p1, p2, p3⟩ := h
  exact k v0 p1 p2 p3
theorem Y0 {α0 : Type} {P1 : α0 → Prop} {P2 : α0 → Prop} {P3 : α0 → Prop} {P4 : α0 → Prop} {G : Prop} (h : ∃ v0, P1 v0 ∧ P2 v0 ∧ P3 v0 ∧ P4 v0) (k : ∀ v0, P1 v0 → P2 v0 → P3 v0 → P4 v0 → G) : G := by
  obtain ⟨v0, p1, p2, p3, p4⟩ := h
  exact k v0 p1 p2 p3 p4
theorem Z6 {α0 : Type} {P1 : α0 → Prop} {P2 : α0 → Prop} {P3 : α0 → Prop} {P4 : α0 → Prop} {P5 : α0 → Prop} {P6 : α0 → Prop} {G : Prop} (h : ∃ v0, P1 v0 ∧ P2 v0 ∧ P3 v0 ∧ P4 v0 ∧ P5 v0 ∧ P6 v0) (k : ∀ v0, P1 v0 → P2 v0 → P3 v0 → P4 v0 → P5 v0 → P6 v0 → G) : G := by
  obtain ⟨v0, p1, p2, p3, p4, p5, p6⟩ := h
  exact k v0 p1 p2 p3 p4 p5 p6
theorem wi3 {α0 α1 : Type} {P1 : α0 → Prop} {P2 : α0 → Prop} {P3 : α0 → α1 → Prop} {G : Prop} (h : ∃ v0, P1 v0 ∧ P2 v0 ∧ ∃ v1, P3 v0 v1) (k : ∀ v0, P1 v0 → P2 v0 → ∀ v1, P3 v0 v1 → G) : G := by
  obtain ⟨v0, p1, p2, v1, p3⟩ := h
  exact k v0 p1 p2 v1 p3
theorem w9 {α0 α1 : Type} {P1 : α0 → α1 → Prop} {G : Prop} (h : ∃ v0, ∃ v1, P1 v0 v1) (k : ∀ v0, ∀ v1, P1 v0 v1 → G) : G := by
  obtain ⟨v0, v1, p1⟩ := h
  exact k v0 v1 p1
theorem x5 {α0 α1 : Type} {P1 : α0 → α1 → Prop} {P2 : α0 → α1 → Prop} {G : Prop} (h : ∃ v0, ∃ v1, P1 v0 v1 ∧ P2 v0 v1) (k : ∀ v0, ∀ v1, P1 v0 v1 → P2 v0 v1 → G) : G := by
  obtain ⟨v0, v1, p1, p2⟩ := h
  exact k v0 v1 p1 p2
theorem x6 {α0 α1 : Type} {P1 : α0 → α1 → Prop} {P2 : α0 → α1 → Prop} {P3 : α0 → α1 → Prop} {G : Prop} (h : ∃ v0, ∃ v1, P1 v0 v1 ∧ P2 v0 v1 ∧ P3 v0 v1) (k : ∀ v0, ∀ v1, P1 v0 v1 → P2 v0 v1 → P3 v0 v1 → G) : G := by
  obtain ⟨v0, v1, p1, p2, p3⟩ := h
  exact k v0 v1 p1 p2 p3
theorem x8 {α0 α1 : Type} {P1 : α0 → α1 → Prop} {P2 : α0 → α1 → Prop} {P3 : α0 → α1 → Prop} {P4 : α0 → α1 → Prop} {G : Prop} (h : ∃ v0, ∃ v1, P1 v0 v1 ∧ P2 v0 v1 ∧ P3 v0 v1 ∧ P4 v0 v1) (k : ∀ v0, ∀ v1, P1 v0 v1 → P2 v0 v1 → P3 v0 v1 → P4 v0 v1 → G) : G := by
  obtain ⟨v0, v1, p1, p2, p3, p4⟩ := h
  exact k v0 v1 p1 p2 p3 p4
theorem X0 {α0 α1 : Type} {P1 : α0 → α1 → Prop} {P2 : α0 → α1 → Prop} {P3 : α0 → α1 → Prop} {P4 : α0 → α1 → Prop} {P5 : α0 → α1 → Prop} {G : Prop} (h : ∃ v0, ∃ v1, P1 v0 v1 ∧ P2 v0 v1 ∧ P3 v0 v1 ∧ P4 v0 v1 ∧ P5 v0 v1) (k : ∀ v0, ∀ v1, P1 v0 v1 → P2 v0 v1 → P3 v0 v1 → P4 v0 v1 → P5 v0 v1 → G) : G := by
  obtain ⟨v0, v1, p1, p2, p3, p4, p5⟩ := h
  exact k v0 v1 p1 p2 p3 p4 p5
theorem Z8 {α0 α1 : Type} {P1 : α0 → α1 → Prop} {P2 : α0 → α1 → Prop} {P3 : α0 → α1 → Prop} {P4 : α0 → α1 → Prop} {P5 : α0 → α1 → Prop} {P6 : α0 → α1 → Prop} {G : Prop} (h : ∃ v0, ∃ v1, P1 v0 v1 ∧ P2 v0 v1 ∧ P3 v0 v1 ∧ P4 v0 v1 ∧ P5 v0 v1 ∧ P6 v0 v1) (k : ∀ v0, ∀ v1, P1 v0 v1 → P2 v0 v1 → P3 v0 v1 → P4 v0 v1 → P5 v0 v1 → P6 v0 v1 → G) : G := by
  obtain ⟨v0, v1, p1, p2, p3, p4, p5, p6⟩ := h
  exact k v0 v1 p1 p2 p3 p4 p5 p6
theorem W0 {α0 α1 α2 : Type} {P1 : α0 → α1 → α2 → Prop} {G : Prop} (h : ∃ v0, ∃ v1, ∃ v2, P1 v0 v1 v2) (k : ∀ v0, ∀ v1, ∀ v2, P1 v0 v1 v2 → G) : G := by
  obtain ⟨v0, v1, v2, p1⟩ := h
  exact k v0 v1 v2 p1
theorem y9 {α0 α1 α2 : Type} {P1 : α0 → α1 → α2 → Prop} {P2 : α0 → α1 → α2 → Prop} {G : Prop} (h : ∃ v0, ∃ v1, ∃ v2, P1 v0 v1 v2 ∧ P2 v0 v1 v2) (k : ∀ v0, ∀ v1, ∀ v2, P1 v0 v1 v2 → P2 v0 v1 v2 → G) : G := by
  obtain ⟨v0, v1, v2, p1, p2⟩ := h
  exact k v0 v1 v2 p1 p2
theorem W5 {α0 α1 α2 : Type} {P1 : α0 → α1 → α2 → Prop} {P2 : α0 → α1 → α2 → Prop} {P3 : α0 → α1 → α2 → Prop} {G : Prop} (h : ∃ v0, ∃ v1, ∃ v2, P1 v0 v1 v2 ∧ P2 v0 v1 v2 ∧ P3 v0 v1 v2) (k : ∀ v0, ∀ v1, ∀ v2, P1 v0 v1 v2 → P2 v0 v1 v2 → P3 v0 v1 v2 → G) : G := by
  obtain ⟨v0, v1, v2, p1, p2, p3⟩ := h
  exact k v0 v1 v2 p1 p2 p3
theorem W6 {α0 α1 α2 : Type} {P1 : α0 → α1 → α2 → Prop} {P2 : α0 → α1 → α2 → Prop} {P3 : α0 → α1 → α2 → Prop} {P4 : α0 → α1 → α2 → Prop} {G : Prop} (h : ∃ v0, ∃ v1, ∃ v2, P1 v0 v1 v2 ∧ P2 v0 v1 v2 ∧ P3 v0 v1 v2 ∧ P4 v0 v1 v2) (k : ∀ v0, ∀ v1, ∀ v2, P1 v0 v1 v2 → P2 v0 v1 v2 → P3 v0 v1 v2 → P4 v0 v1 v2 → G) : G := by
  obtain ⟨v0, v1, v2, p1, p2, p3, p4⟩ := h
  exact k v0 v1 v2 p1 p2 p3 p4
theorem wi1 {α0 α1 α2 : Type} {P1 : α0 → α1 → α2 → Prop} {P2 : α0 → α1 → α2 → Prop} {P3 : α0 → α1 → α2 → Prop} {P4 : α0 → α1 → α2 → Prop} {P5 : α0 → α1 → α2 → Prop} {P6 : α0 → α1 → α2 → Prop} {P7 : α0 → α1 → α2 → Prop} {G : Prop} (h : ∃ v0, ∃ v1, ∃ v2, P1 v0 v1 v2 ∧ P2 v0 v1 v2 ∧ P3 v0 v1 v2 ∧ P4 v0 v1 v2 ∧ P5 v0 v1 v2 ∧ P6 v0 v1 v2 ∧ P7 v0 v1 v2) (k : ∀ v0, ∀ v1, ∀ v2, P1 v0 v1 v2 → P2 v0 v1 v2 → P3 v0 v1 v2 → P4 v0 v1 v2 → P5 v0 v1 v2 → P6 v0 v1 v2 → P7 v0 v1 v2 → G) : G := by
  obtain ⟨v0, v1, v2, p1, p2, p3, p4, p5, p6, p7⟩ := h
  exact k v0 v1 v2 p1 p2 p3 p4 p5 p6 p7
theorem Y3 {α0 α1 α2 α3 : Type} {P1 : α0 → α1 → α2 → α3 → Prop} {P2 : α0 → α1 → α2 → α3 → Prop} {G : Prop} (h : ∃ v0, ∃ v1, ∃ v2, ∃ v3, P1 v0 v1 v2 v3 ∧ P2 v0 v1 v2 v3) (k : ∀ v0, ∀ v1, ∀ v2, ∀ v3, P1 v0 v1 v2 v3 → P2 v0 v1 v2 v3 → G) : G := by
  obtain ⟨v0, v1, v2, v3, p1, p2⟩ := h
  exact k v0 v1 v2 v3 p1 p2
theorem Z0 {α0 α1 α2 α3 : Type} {P1 : α0 → α1 → α2 → α3 → Prop} {P2 : α0 → α1 → α2 → α3 → Prop} {P3 : α0 → α1 → α2 → α3 → Prop} {G : Prop} (h : ∃ v0, ∃ v1, ∃ v2, ∃ v3, P1 v0 v1 v2 v3 ∧ P2 v0 v1 v2 v3 ∧ P3 v0 v1 v2 v3) (k : ∀ v0, ∀ v1, ∀ v2, ∀ v3, P1 v0 v1 v2 v3 → P2 v0 v1 v2 v3 → P3 v0 v1 v2 v3 → G) : G := by
  obtain ⟨v0, v1, v2, v3, p1, p2, p3⟩ := h
  exact k v0 v1 v2 v3 p1 p2 p3
theorem Z4 {α0 α1 α2 α3 : Type} {P1 : α0 → α1 → α2 → α3 → Prop} {P2 : α0 → α1 → α2 → α3 → Prop} {P3 : α0 → α1 → α2 → α3 → Prop} {P4 : α0 → α1 → α2 → α3 → Prop} {G : Prop} (h : ∃ v0, ∃ v1, ∃ v2, ∃ v3, P1 v0 v1 v2 v3 ∧ P2 v0 v1 v2 v3 ∧ P3 v0 v1 v2 v3 ∧ P4 v0 v1 v2 v3) (k : ∀ v0, ∀ v1, ∀ v2, ∀ v3, P1 v0 v1 v2 v3 → P2 v0 v1 v2 v3 → P3 v0 v1 v2 v3 → P4 v0 v1 v2 v3 → G) : G := by
  obtain ⟨v0, v1, v2, v3, p1, p2, p3, p4⟩ := h
  exact k v0 v1 v2 v3 p1 p2 p3 p4
theorem W9 {α0 α1 α2 α3 α4 : Type} {P1 : α0 → α1 → α2 → α3 → α4 → Prop} {G : Prop} (h : ∃ v0, ∃ v1, ∃ v2, ∃ v3, ∃ v4, P1 v0 v1 v2 v3 v4) (k : ∀ v0, ∀ v1, ∀ v2, ∀ v3, ∀ v4, P1 v0 v1 v2 v3 v4 → G) : G := by
  obtain ⟨v0, v1, v2, v3, v4, p1⟩ := h
  exact k v0 v1 v2 v3 v4 p1
theorem Y8 {α0 α1 α2 α3 α4 : Type} {P1 : α0 → α1 → α2 → α3 → α4 → Prop} {P2 : α0 → α1 → α2 → α3 → α4 → Prop} {P3 : α0 → α1 → α2 → α3 → α4 → Prop} {G : Prop} (h : ∃ v0, ∃ v1, ∃ v2, ∃ v3, ∃ v4, P1 v0 v1 v2 v3 v4 ∧ P2 v0 v1 v2 v3 v4 ∧ P3 v0 v1 v2 v3 v4) (k : ∀ v0, ∀ v1, ∀ v2, ∀ v3, ∀ v4, P1 v0 v1 v2 v3 v4 → P2 v0 v1 v2 v3 v4 → P3 v0 v1 v2 v3 v4 → G) : G := by
  obtain ⟨v0, v1, v2, v3, v4, p1, p2, p3⟩ := h
  exact k v0 v1 v2 v3 v4 p1 p2 p3
theorem wj0 {α0 α1 α2 α3 α4 α5 : Type} {P1 : α0 → α1 → α2 → α3 → α4 → α5 → Prop} {P2 : α0 → α1 → α2 → α3 → α4 → α5 → Prop} {P3 : α0 → α1 → α2 → α3 → α4 → α5 → Prop} {G : Prop} (h : ∃ v0, ∃ v1, ∃ v2, ∃ v3, ∃ v4, ∃ v5, P1 v0 v1 v2 v3 v4 v5 ∧ P2 v0 v1 v2 v3 v4 v5 ∧ P3 v0 v1 v2 v3 v4 v5) (k : ∀ v0, ∀ v1, ∀ v2, ∀ v3, ∀ v4, ∀ v5, P1 v0 v1 v2 v3 v4 v5 → P2 v0 v1 v2 v3 v4 v5 → P3 v0 v1 v2 v3 v4 v5 → G) : G := by
  obtain ⟨v0, v1, v2, v3, v4, v5, p1, p2, p3⟩ := h
  exact k v0 v1 v2 v3 v4 v5 p1 p2 p3
theorem wi7 {α0 β0 γ0 : Type} {P1 : (α0 × β0 × γ0) → Prop} {P2 : (α0 × β0 × γ0) → Prop} {G : Prop} (h : ∃ v0, P1 v0 ∧ P2 v0) (k : ∀ v0 u0 w0, P1 (v0, u0, w0) → P2 (v0, u0, w0) → G) : G := by
  obtain ⟨⟨v0, u0, w0⟩, p1, p2⟩ := h
  exact k v0 u0 w0 p1 p2
noncomputable def sq (a b : Str) : Bool := PySem.W.Fast.sEq a b
theorem of_sq {a b : Str} (h : sq a b = true) : a = b := PySem.W.Fast.sEq_iff.mp h
theorem sq_d (a b : Str) : decide (a = b) = sq a b := Bool.eq_iff_iff.mpr (decide_eq_true_iff.trans PySem.W.Fast.sEq_iff.symm)
theorem sq_t {a b : Str} (h : a = b) : sq a b = true := PySem.W.Fast.sEq_iff.mpr h
theorem sq_f {a b : Str} (h : a ≠ b) : sq a b = false := Bool.eq_false_iff.mpr fun e => h (of_sq e)
theorem of_nsq {a b : Str} (h : sq a b = false) : a ≠ b := fun e => tfx ((sq_t e).symm.trans h)
noncomputable def look (x : Str) (l : List (Str × V)) : Option V := @List.rec (Str × V) (fun _ => Option V) none (fun p _ o => match sq p.1 x with | true => some p.2 | false => o) l
noncomputable def setVar (x : Str) (v : V) (l : List (Str × V)) : List (Str × V) := @List.rec (Str × V) (fun _ => List (Str × V)) [(x, v)] (fun p r m => match sq p.1 x with | true => (x, v) :: r | false => p :: m) l
noncomputable def St.list (σ : St) (i : Nat) : Option (List V) := match σ.tr.get i with
  | some (.lst l) => some l
  | _ => none
noncomputable def St.put (σ : St) (i : Nat) (l : List V) : Option St := match Nat.blt i 1000000 with
  | true => some { σ with tr := Tr.set (.lst l) 40 σ.tr i }
  | false => none
noncomputable def St.new (σ : St) (l : List V) : V × St := (.lst σ.n, { σ with tr := Tr.set (.lst l) 40 σ.tr σ.n, n := σ.n + 1 })
noncomputable def eqZ : Z → Z → Option Bool
  | .lit a, .lit b => some (decide (a = b))
  | .sym i, .sym j => match Nat.beq i j with
    | true => some true
    | false => none
  | _, _ => none
noncomputable def both : Option Bool → Option Bool → Option Bool
  | some a, some b => some (a && b)
  | _, _ => none
noncomputable def eqL (f : V → V → Option Bool) : List V → List V → Option Bool
  | [], [] => some true
  | [], _ :: _ => some false
  | _ :: _, [] => some false
  | a :: as, b :: bs => both (f a b) (eqL f as bs)
noncomputable def allL (f : V → Bool) : List V → Bool
  | [] => true
  | a :: as => match f a with
    | true => allL f as
    | false => false
noncomputable def datOk (σ : St) : Nat → V → Bool
  | 0, _ => false
  | n + 1, v => match v with
    | .none => true
    | .bool _ => true
    | .int _ => true
    | .str x => PyData.strOk x
    | .tup l => allL (datOk σ n) l
    | .lst i => match σ.list i with
      | some l => allL (datOk σ n) l
      | none => false
    | _ => false
noncomputable def eqV (σ : St) : Nat → V → V → Option Bool
  | 0, _, _ => none
  | n + 1, a, b => match a with
    | .none => match b with
      | .none => some true
      | _ => some false
    | .bool x => match b with
      | .bool y => some (x == y)
      | .int _ => none
      | _ => some false
    | .int x => match b with
      | .int y => eqZ x y
      | .bool _ => none
      | _ => some false
    | .str x => match b with
      | .str y => some (sq x y)
      | _ => some false
    | .tup xs => match b with
      | .tup ys => eqL (eqV σ n) xs ys
      | _ => some false
    | .lst i => match b with
      | .lst j => match σ.list i with
        | some xs => match σ.list j with
          | some ys => eqL (eqV σ n) xs ys
          | none => none
        | none => none
      | _ => some false
    | _ => none
noncomputable def depthMost : Nat := 40
noncomputable def cmpEq (σ : St) (a b : V) : Option Bool := match datOk σ depthMost a with
  | true => match datOk σ depthMost b with
    | true => eqV σ depthMost a b
    | false => none
  | false => none
noncomputable def small (k : Int) : Bool := Nat.blt k.natAbs 1000000000
noncomputable def mkI (k : Int) : Option V := match small k with
  | true => some (.int (.lit k))
  | false => none
noncomputable def isIn (f : V → Option Bool) : List V → Option Bool
  | [] => some false
  | a :: as => match f a with
    | some b => match isIn f as with
      | some c => some (b || c)
      | none => none
    | none => none
noncomputable def hasKey (x : Str) : List (Str × V) → Bool
  | [] => false
  | (y, _) :: r => match sq y x with
    | true => true
    | false => hasKey x r
noncomputable def memOf (σ : St) (a b : V) : Option Bool := match b with
  | .tup l => match datOk σ depthMost a with
    | true => match datOk σ depthMost b with
      | true => isIn (fun y => eqV σ depthMost y a) l
      | false => none
    | false => none
  | .lst i => match σ.list i with
    | some l => match datOk σ depthMost a with
      | true => match datOk σ depthMost b with
        | true => isIn (fun y => eqV σ depthMost y a) l
        | false => none
      | false => none
    | none => none
  | .dct l => match a with
    | .str x => some (hasKey x l)
    | _ => none
  | _ => none
noncomputable def no : Option Bool → Option Bool
  | some b => some (!b)
  | none => none
noncomputable def isNone : V → Bool
  | .none => true
  | _ => false
noncomputable def cmpI (op : CmpOp) (a b : Int) : Option Bool := match op with
  | .Lt => some (decide (a < b))
  | .LtE => some (decide (a ≤ b))
  | .Gt => some (decide (b < a))
  | .GtE => some (decide (b ≤ a))
  | _ => none
noncomputable def cmp (op : CmpOp) (a b : V) (σ : St) : Option Bool := match op with
  | .Eq => cmpEq σ a b
  | .NotEq => no (cmpEq σ a b)
  | .Is => match b with
    | .none => some (isNone a)
    | _ => none
  | .IsNot => match b with
    | .none => some (!isNone a)
    | _ => none
  | .In => memOf σ a b
  | .NotIn => no (memOf σ a b)
  | op => match a with
    | .int (.lit x) => match b with
      | .int (.lit y) => cmpI op x y
      | _ => none
    | _ => none
noncomputable def pair (v : Option V) (σ : St) : Option (V × St) := @Option.rec V (fun _ => Option (V × St)) none (fun v => some (v, σ)) v
noncomputable def few (l : List V) : Bool := Nat.ble l.length 1000
noncomputable def newL (σ : St) (l : List V) : Option (V × St) := match few l && Nat.blt σ.n 1000000 with
  | true => some (St.new σ l)
  | false => none
noncomputable def newT (σ : St) (l : List V) : Option (V × St) := match few l with
  | true => some (.tup l, σ)
  | false => none
noncomputable def binop (op : Operator) (a b : V) (σ : St) : Option (V × St) := match op with
  | .Add => match a with
    | .int (.lit x) => match b with
      | .int (.lit y) => pair (mkI (x + y)) σ
      | _ => none
    | .tup xs => match b with
      | .tup ys => newT σ (xs ++ ys)
      | _ => none
    | .lst i => match b with
      | .lst j => bd (σ.list i) fun xs => bd (σ.list j) fun ys => newL σ (xs ++ ys)
      | _ => none
    | _ => none
  | .Sub => match a with
    | .int (.lit x) => match b with
      | .int (.lit y) => pair (mkI (x - y)) σ
      | _ => none
    | _ => none
  | .Mult => match a with
    | .int (.lit x) => match b with
      | .int (.lit y) => pair (mkI (x * y)) σ
      | _ => none
    | .tup xs => match b with
      | .int (.lit y) => match xs with
        | [_] => match decide (y = 0) with
          | true => newT σ []
          | false => none
        | _ => none
      | _ => none
    | _ => none
  | .FloorDiv => match a with
    | .int (.lit x) => match b with
      | .int (.lit y) => match decide (0 < y) && small y with
        | true => pair (mkI (Int.fdiv x y)) σ
        | false => none
      | _ => none
    | _ => none
  | .Mod => match a with
    | .int (.lit x) => match b with
      | .int (.lit y) => match decide (0 < y) && small y with
        | true => pair (mkI (Int.fmod x y)) σ
        | false => none
      | _ => none
    | _ => none
  | _ => none
noncomputable def placeOf (k : Int) (n : Nat) : Option Nat := match k with
  | .ofNat j => match Nat.blt j n with
    | true => some j
    | false => none
  | .negSucc j => match Nat.blt j n with
    | true => some (n - (j + 1))
    | false => none
noncomputable def itemL (l : List V) (k : Int) : Option V := bd (placeOf k l.length) fun j => l[j]?
noncomputable def item (o i : V) (σ : St) : Option V := match o with
  | .tup l => match i with
    | .int (.lit k) => match small k with
      | true => itemL l k
      | false => none
    | _ => none
  | .lst a => match i with
    | .int (.lit k) => match small k with
      | true => bd (σ.list a) fun l => itemL l k
      | false => none
    | _ => none
  | .dct l => match i with
    | .str x => look x l
    | _ => none
  | _ => none
noncomputable def natOf : V → Option Nat
  | .int (.lit (.ofNat n)) => match Nat.blt n 1000000 with
    | true => some n
    | false => none
  | _ => none
noncomputable def cut (l : List V) (lo hi : Option Nat) : Option (List V) := match lo with
  | some k => match hi with
    | some _ => none
    | none => some (l.drop k)
  | none => match hi with
    | some k => some (l.take k)
    | none => none
noncomputable def slice (o : V) (lo hi : Option Nat) (σ : St) : Option (V × St) := match o with
  | .tup l => bd (cut l lo hi) fun l => newT σ l
  | .lst a => bd (σ.list a) fun l => bd (cut l lo hi) fun l => newL σ l
  | _ => none
noncomputable def constV : Const → Option V
  | .none => some .none
  | .bool b => some (.bool b)
  | .int i => mkI i
  | .str s => some (.str s)
  | _ => none
structure FD where
  params : List Str
  dfl : List V
  body : FuncBody
  names : List (Str × NameKind)
structure Tx where
  glob : Str → Option V
  defs : Str → Option FD
  meth : Str → Option Str
  things : Nat
  cb : CloT
  made : Str → Option (Str × Nat × Nat)
variable (X : Tx)
noncomputable def dunder (x : Str) : Bool := match x.cps.toList with
  | _ :: b :: _ => Nat.beq b 95
  | _ => false
noncomputable def texts : List Str := ["no such sizes of an array", "an item that was never set", "other sizes than items", "no array", "no whole number", "a range cannot have a step of 0", "arrays that cannot go together", "an array that is too small for what is put in it", "no array to put something in", "no such rank", "a line without items, and nothing to begin with"]
noncomputable def ascii (x : Str) : Bool := texts.any fun y => sq y x
theorem view_some {α : Type} {P : α → Prop} {o : Option { q : α // P q }} {q : α} (h : o.map (·.1) = some q) : P q := by
  induction o using Option.casesOn with
  | none => exact nsx h
  | some x => exact Option.some.inj h ▸ x.2
noncomputable def vName0 (e : Expr) : Option { q : Str × Pos // e = .Name q.1 q.2 } := match e with
  | .Name x p => some ⟨(x, p), rfl⟩
  | _ => none
noncomputable def vName (e : Expr) : Option (Str × Pos) := (vName0 e).map (·.1)
noncomputable def vSub0 (e : Expr) : Option { q : Expr × Expr × Pos // e = .Subscript q.1 q.2.1 q.2.2 } := match e with
  | .Subscript a b p => some ⟨(a, b, p), rfl⟩
  | _ => none
noncomputable def vSub (e : Expr) : Option (Expr × Expr × Pos) := (vSub0 e).map (·.1)
noncomputable def vAttr0 (e : Expr) : Option { q : Expr × Str × Pos // e = .Attribute q.1 q.2.1 q.2.2 } := match e with
  | .Attribute a x p => some ⟨(a, x, p), rfl⟩
  | _ => none
noncomputable def vAttr (e : Expr) : Option (Expr × Str × Pos) := (vAttr0 e).map (·.1)
noncomputable def vCon0 (e : Expr) : Option { q : Const × Nat × Pos // e = .Constant q.1 q.2.1 q.2.2 } := match e with
  | .Constant c k p => some ⟨(c, k, p), rfl⟩
  | _ => none
noncomputable def vCon (e : Expr) : Option (Const × Nat × Pos) := (vCon0 e).map (·.1)
noncomputable def vCall0 (e : Expr) : Option { q : Expr × List Expr × Pos // e = .Call q.1 q.2.1 [] q.2.2 } := match e with
  | .Call f as [] p => some ⟨(f, as, p), rfl⟩
  | _ => none
noncomputable def vCall (e : Expr) : Option (Expr × List Expr × Pos) := (vCall0 e).map (·.1)
noncomputable def vRet0 (e : Stmt) : Option { q : Expr × Pos // e = .Return (some q.1) q.2 } := match e with
  | .Return (some x) p => some ⟨(x, p), rfl⟩
  | _ => none
noncomputable def vRet (e : Stmt) : Option (Expr × Pos) := (vRet0 e).map (·.1)
noncomputable def cInt0 (e : Const) : Option { q : Int // e = .int q } := match e with
  | .int i => some ⟨i, rfl⟩
  | _ => none
noncomputable def cInt (e : Const) : Option (Int) := (cInt0 e).map (·.1)
noncomputable def cStr0 (e : Const) : Option { q : Str // e = .str q } := match e with
  | .str i => some ⟨i, rfl⟩
  | _ => none
noncomputable def cStr (e : Const) : Option (Str) := (cStr0 e).map (·.1)
noncomputable def vPars0 (ps : Arguments) : Option { q : List Arg × List Expr // ps = ⟨[], q.1, none, [], [], none, q.2⟩ } := match ps with
  | ⟨[], as, none, [], [], none, ds⟩ => some ⟨(as, ds), rfl⟩
  | _ => none
noncomputable def vCN0 (e : Expr) : Option { q : Str × List Expr // ∃ p r, e = .Call (.Name q.1 p) q.2 [] r } := match e with
  | .Call (.Name x p) args [] r => some ⟨(x, args), p, r, rfl⟩
  | _ => none
noncomputable def vRB0 (f : Fl) : Option { b : Bool // f = .ret (.bool b) } := match f with
  | .ret (.bool b) => some ⟨b, rfl⟩
  | _ => none
noncomputable def vSpk0 (l : List V) : Option { q : Nat × Int // l = [.lst q.1, .int (.lit q.2)] } := match l with
  | [.lst i, .int (.lit k)] => some ⟨(i, k), rfl⟩
  | _ => none
noncomputable def vSlice0 (e : Expr) : Option { q : Option Expr × Option Expr // ∃ p, e = .Slice q.1 q.2 none p } := match e with
  | .Slice lo hi none p => some ⟨(lo, hi), p, rfl⟩
  | _ => none
noncomputable def vTup0 (e : Expr) : Option { q : List Expr × Nat × Pos // e = .Tuple q.1 q.2.1 q.2.2 } := match e with
  | .Tuple l k p => some ⟨(l, k, p), rfl⟩
  | _ => none
noncomputable def vTup (e : Expr) : Option (List Expr × Nat × Pos) := (vTup0 e).map (·.1)
theorem vName_some {e : Expr} {x : Str} {p : Pos} (h : vName e = some (x, p)) : e = .Name x p := view_some (o := vName0 _) h
theorem vSub_some {e a b : Expr} {p : Pos} (h : vSub e = some (a, b, p)) : e = .Subscript a b p := view_some (o := vSub0 _) h
theorem vAttr_some {e a : Expr} {x : Str} {p : Pos} (h : vAttr e = some (a, x, p)) : e = .Attribute a x p := view_some (o := vAttr0 _) h
theorem vCon_some {e : Expr} {c : Const} {k : Nat} {p : Pos} (h : vCon e = some (c, k, p)) : e = .Constant c k p := view_some (o := vCon0 _) h
theorem vCall_some {e f : Expr} {as : List Expr} {p : Pos} (h : vCall e = some (f, as, p)) : e = .Call f as [] p := view_some (o := vCall0 _) h
theorem vRet_some {s : Stmt} {e : Expr} {p : Pos} (h : vRet s = some (e, p)) : s = .Return (some e) p := view_some (o := vRet0 _) h
theorem cInt_some {c : Const} {i : Int} (h : cInt c = some i) : c = .int i := view_some (o := cInt0 _) h
theorem cStr_some {c : Const} {i : Str} (h : cStr c = some i) : c = .str i := view_some (o := cStr0 _) h
theorem vTup_some {e : Expr} {l : List Expr} {k : Nat} {p : Pos} (h : vTup e = some (l, k, p)) : e = .Tuple l k p := view_some (o := vTup0 _) h
noncomputable def noSuper : Expr → Bool
  | .Call (.Name _ _) [] [] _ => false
  | _ => true
noncomputable def isSet (e : Expr) : Bool := Nat.beq e.ctorIdx 7
noncomputable def isStar (e : Expr) : Bool := Nat.beq e.ctorIdx 22
noncomputable def evL (r : Rec) : List Expr → Fr → St → Option (List V × St)
  | [], _, σ => some ([], σ)
  | e :: es, ρ, σ => match isStar e with
    | true => none
    | false => bd (r.E e ρ σ) fun p => bd (evL r es ρ p.2) fun q => some (p.1 :: q.1, q.2)
noncomputable def isGlob (x : Str) (ρ : Fr) : Bool := match ρ.names.lookup x with
  | some .globalImplicit => true
  | _ => false
noncomputable def isBuiltin (x s : Str) (ρ : Fr) : Bool := match sq x s with
  | true => match look x ρ.vars with
    | some _ => false
    | none => isGlob x ρ
  | false => false
noncomputable def toItS : V → Option It
  | .tup l => some (.tup l)
  | .lst i => some (.lst i 0)
  | _ => none
noncomputable def toIt (v : V) : Option It := match v with
  | .rng n => match Nat.blt n 1000000 with
    | true => some (.rng 0 n)
    | false => none
  | v => toItS v
noncomputable def toIts : List V → Option (List It)
  | [] => some []
  | v :: vs => bd (toItS v) fun i => bd (toIts vs) fun is => some (i :: is)
inductive Src where
  | zip (l : List Expr)
  | enu (e : Expr)
  | plain (e : Expr)
noncomputable def srcOf (e : Expr) (ρ : Fr) : Src := match (vCN0 e).map (·.1) with
  | some q => match isBuiltin q.1 "zip" ρ with
    | true => .zip q.2
    | false => match q.2 with
      | [a] => match isBuiltin q.1 "enumerate" ρ with
        | true => .enu a
        | false => .plain e
      | _ => .plain e
  | none => .plain e
noncomputable def few23 (n : Nat) : Bool := Nat.beq n 2 || Nat.beq n 3
noncomputable def iterE (r : Rec) (e : Expr) (ρ : Fr) (σ : St) : Option (It × St) := match isSet e with
 | true => none
 | false => match srcOf e ρ with
  | .zip l => match few23 l.length with
    | true => bd (evL r l ρ σ) fun p => bd (toIts p.1) fun is => some (.zip is, p.2)
    | false => none
  | .enu a => match isStar a with
    | true => none
    | false => bd (r.E a ρ σ) fun p => bd (toItS p.1) fun i => some (.enu 0 i, p.2)
  | .plain e => bd (r.E e ρ σ) fun p => bd (toIt p.1) fun i => some (i, p.2)
noncomputable def nextS (σ : St) : It → Option (Option (V × It))
  | .tup [] => some none
  | .tup (v :: l) => some (some (v, .tup l))
  | .lst i k => bd (σ.list i) fun l => match l[k]? with
    | some v => some (some (v, .lst i (k + 1)))
    | none => some none
  | _ => none
noncomputable def nextAll (σ : St) : List It → Option (Option (List V × List It))
  | [] => some (some ([], []))
  | i :: is => bd (nextS σ i) fun o => match o with
    | none => some none
    | some (v, i') => bd (nextAll σ is) fun q => match q with
      | none => some none
      | some (vs, is') => some (some (v :: vs, i' :: is'))
noncomputable def next (σ : St) : It → Option (Option (V × It))
  | .rng k n => match Nat.blt k n with
    | true => some (some (.int (.lit (Int.ofNat k)), .rng (k + 1) n))
    | false => some none
  | .enu k i => bd (nextS σ i) fun o => match o with
    | some (v, i') => some (some (.tup [.int (.lit (Int.ofNat k)), v], .enu (k + 1) i'))
    | none => some none
  | .zip is => bd (nextAll σ is) fun o => match o with
    | some (vs, is') => some (some (.tup vs, .zip is'))
    | none => some none
  | i => nextS σ i
noncomputable def stores (names : List (Str × NameKind)) (pars : List Str) (x : Str) : Bool := match names.lookup x with
  | some .local => true
  | some .cell => !pars.contains x
  | _ => false
noncomputable def bind1 (names : List (Str × NameKind)) (pars : List Str) (x : Str) (v : V) (m : List (Str × V)) : Option (List (Str × V)) := match stores names pars x with
  | true => some (setVar x v m)
  | false => none
noncomputable def bindL (names : List (Str × NameKind)) (pars : List Str) : List Expr → List V → List (Str × V) → Option (List (Str × V))
  | [], [], m => some m
  | t :: ts, v :: vs, m => bd (vName t) fun n => bd (bind1 names pars n.1 v m) fun m => bindL names pars ts vs m
  | _, _, _ => none
noncomputable def tgtNames : List Expr → Option (List Str)
  | [] => some []
  | t :: ts => bd (vName t) fun n => bd (tgtNames ts) fun xs => some (n.1 :: xs)
noncomputable def nodupK : List Str → Bool
  | [] => true
  | x :: r => !(r.any fun y => sq y x) && nodupK r
noncomputable def tupOk (ts : List Expr) (value : Expr) : Bool := match tgtNames ts with
  | none => false
  | some xs => nodupK xs && (match value with
    | .Tuple vs _ _ => !(vs.all (constantsAlone 8))
    | _ => true)
noncomputable def bindT (names : List (Str × NameKind)) (pars : List Str) (t : Expr) (v : V) (m : List (Str × V)) : Option (List (Str × V)) := match t with
  | .Name x _ => bind1 names pars x v m
  | .Tuple ts _ _ => match v with
    | .tup l => bindL names pars ts l m
    | _ => none
  | _ => none
noncomputable def Fr.at (ρ : Fr) (m : List (Str × V)) : Fr := ⟨ρ.fn, ρ.names, ρ.pars, m⟩
noncomputable def execs (r : Rec) (ρ : Fr) : List Stmt → List (Str × V) → St → Option (Fl × List (Str × V) × St)
  | [], m, σ => some (.next, m, σ)
  | s :: ss, m, σ => bd (r.S s (ρ.at m) σ) fun p => match p.1 with
    | .next => execs r ρ ss p.2.1 p.2.2
    | f => some (f, p.2.1, p.2.2)
noncomputable def tgtOk (it : It) (t : Expr) : Bool := match t with
  | .Tuple _ _ _ => true
  | .Name _ _ => match it with
    | .zip _ => false
    | .enu _ _ => false
    | _ => true
  | _ => false
noncomputable def forL (r : Rec) (ρ : Fr) (t : Expr) (body : List Stmt) : Nat → It → List (Str × V) → St → Option (Fl × List (Str × V) × St)
  | 0, _, _, _ => none
  | n + 1, i, m, σ => bd (next σ i) fun o => match o with
    | none => some (.next, m, σ)
    | some (v, i') => bd (bindT ρ.names ρ.pars t v m) fun m₁ => bd (execs r ρ body m₁ σ) fun p => match p.1 with
      | .next => forL r ρ t body n i' p.2.1 p.2.2
      | f => some (f, p.2.1, p.2.2)
noncomputable def testsL (r : Rec) : List Expr → Fr → St → Option (Bool × St)
  | [], _, σ => some (true, σ)
  | e :: es, ρ, σ => bd (r.T e ρ σ) fun p => match p.1 with
    | true => testsL r es ρ p.2
    | false => some (false, p.2)
noncomputable def compG (r : Rec) (ρ : Fr) (g : Comprehension) (inner : List (Str × V) → St → List V → Option (List V × List (Str × V) × St)) : Nat → It → List (Str × V) → St → List V → Option (List V × List (Str × V) × St)
  | 0, _, _, _, _ => none
  | n + 1, i, m, σ, out => bd (next σ i) fun o => match o with
    | none => some (out, m, σ)
    | some (v, i') => bd (bindT ρ.names ρ.pars g.target v m) fun m₁ => bd (testsL r g.ifs (ρ.at m₁) σ) fun b => match b.1 with
      | true => bd (inner m₁ b.2 out) fun q => compG r ρ g inner n i' q.2.1 q.2.2 q.1
      | false => compG r ρ g inner n i' m₁ b.2 out
noncomputable def compEmit (r : Rec) (ρ : Fr) (elt : Expr) (m : List (Str × V)) (σ : St) (out : List V) : Option (List V × List (Str × V) × St) :=
  bd (r.E elt (ρ.at m) σ) fun p => match Nat.blt out.length 1000 with
    | true => some (p.1 :: out, m, p.2)
    | false => none
noncomputable def turnsMost : Nat := 200
noncomputable def compIn (r : Rec) (ρ : Fr) (elt : Expr) : List Comprehension → List (Str × V) → St → List V → Option (List V × List (Str × V) × St)
  | [], m, σ, out => compEmit r ρ elt m σ out
  | g :: gs, m, σ, out => bd (iterE r g.iter (ρ.at m) σ) fun p => match tgtOk p.1 g.target with
    | true => compG r ρ g (compIn r ρ elt gs) turnsMost p.1 m p.2 out
    | false => none
noncomputable def capOf (m : List (Str × V)) : List (Str × NameKind) → List (Str × V)
  | [] => []
  | (x, k) :: r => match k with
    | .free => match look x m with
      | some v => (x, v) :: capOf m r
      | none => capOf m r
    | _ => capOf m r
noncomputable def isCell (names : List (Str × NameKind)) (x : Str) : Bool := match names.lookup x with
  | some .cell => true
  | _ => false
noncomputable def capsOk (names : List (Str × NameKind)) (pars : List Str) (m : List (Str × V)) : List (Str × NameKind) → Bool
  | [] => true
  | (x, k) :: r => match k with
    | .free => match isCell names x && pars.contains x && (look x m).isSome with
      | true => capsOk names pars m r
      | false => false
    | _ => capsOk names pars m r
noncomputable def nodupN : List (Str × NameKind) → Bool
  | [] => true
  | (x, _) :: r => !(r.any fun p => sq p.1 x) && nodupN r
noncomputable def scopeOk (sc : Scope) (gens : List Comprehension) : Bool := (match sc.kind with | .function => true | _ => false) && nodupN sc.names && gens.all (fun g => decide (g.is_async = 0) && !isSet g.iter)
noncomputable def capsHere (ρ : Fr) : List (Str × NameKind) → Bool
  | [] => true
  | (x, k) :: r => match k with
    | .free => match ρ.names.lookup x with
      | some .local => false
      | some .cell => match ρ.pars.contains x with
        | true => match look x ρ.vars with
          | some _ => capsHere ρ r
          | none => false
        | false => capsHere ρ r
      | _ => match look x ρ.vars with
        | some _ => capsHere ρ r
        | none => false
    | _ => capsHere ρ r
noncomputable def listComp (r : Rec) (elt : Expr) (gens : List Comprehension) (scope : Scope) (ρ : Fr) (σ : St) : Option (V × St) := match gens with
  | [] => none
  | g :: gs => bd (iterE r g.iter ρ σ) fun p => match tgtOk p.1 g.target && scopeOk scope gens && capsHere ρ scope.names with
   | false => none
   | true => bd (compG r ⟨ρ.fn, scope.names, [], []⟩ g (compIn r ⟨ρ.fn, scope.names, [], []⟩ elt gs) turnsMost p.1 (capOf ρ.vars scope.names) p.2 []) fun q => newL q.2.2 q.1.reverse
noncomputable def attrOf (o : V) (a : Str) : Option V := match o with
  | .img => match sq a "heap" with
    | true => some .img
    | false => match sq a "things" with
      | true => some (.lst X.things)
      | false => match sq a "call" with
        | true => some (.clo "called_back" X.cb [("heard", .lst 2), ("image", .img)])
        | false => none
  | .thing k f s => match sq a "kind" with
    | true => some k
    | false => match sq a "fields" with
      | true => some f
      | false => match sq a "sizes" with
        | true => some s
        | false => none
  | _ => none
noncomputable def methOf (o : V) (a : Str) : Option (V × List V) := match o with
  | .img => match X.meth a with
    | some f => some (.fn f, [.img])
    | none => bd (attrOf X .img a) fun f => some (f, [])
  | _ => none
noncomputable def val (p : Option (V × St)) : Option (Rs × St) := match p with
  | some p => some (.val p.1, p.2)
  | none => none
noncomputable def pairs (xs ys : List V) : List V := List.zipWith (fun x y => V.tup [x, y]) xs ys
inductive Cl where
  | append (o : Expr) (x : Expr)
  | meth (o : Expr) (a : Str) (args : List Expr)
  | drain (x y : Expr)
  | plain (f : Expr) (args : List Expr)
noncomputable def clOff (f : Expr) : Bx (List Expr → Fr → Cl) := match f with
  | .Attribute o a _ => ⟨fun args _ => match args with
    | [x] => match sq a "append" with
      | true => .append o x
      | false => .meth o a args
    | _ => .meth o a args⟩
  | .Name x _ => ⟨fun args ρ => match args with
    | [a] => match isBuiltin x "list" ρ with
      | true => match srcOf a ρ with
        | .zip [x, y] => .drain x y
        | _ => .plain f args
      | false => .plain f args
    | _ => .plain f args⟩
  | _ => ⟨fun args _ => .plain f args⟩
noncomputable def clOf (f : Expr) (args : List Expr) (ρ : Fr) : Cl := (clOff f).f args ρ
noncomputable def callable : V → Bool
  | .fn _ => true
  | .con _ => true
  | .clo _ _ _ => true
  | _ => false
noncomputable def callV (r : Rec) (f : V) (args : List V) (σ : St) : Option (Rs × St) := match callable f with
  | true => r.C f args σ
  | false => none
noncomputable def lineOk (f : Expr) (p : Pos) : Bool := match f with
  | .Attribute _ _ ap => ap.endLine == p.line
  | _ => true
noncomputable def evC (r : Rec) (f : Expr) (args : List Expr) (p₀ : Pos) (ρ : Fr) (σ : St) : Option (Rs × St) := match clOf f args ρ with
  | .append o x => match noSuper o && !isStar x && lineOk f p₀ with
   | false => none
   | true => bd (r.E o ρ σ) fun p => match p.1 with
    | .lst i => bd (r.E x ρ p.2) fun q => bd (q.2.list i) fun l => match Nat.blt l.length 1000 with
      | true => bd (q.2.put i (l ++ [q.1])) fun σ' => some (.val .none, σ')
      | false => none
    | _ => none
  | .meth o a as => match noSuper o && lineOk f p₀ && Nat.blt as.length 20 with
    | true => bd (r.E o ρ σ) fun p => bd (methOf X p.1 a) fun c => bd (evL r as ρ p.2) fun q => callV r c.1 (c.2 ++ q.1) q.2
    | false => none
  | .drain x y => bd (evL r [x, y] ρ σ) fun p => match p.1 with
    | [.lst i, .lst j] => bd (p.2.list i) fun xs => bd (p.2.list j) fun ys => val (newL p.2 (pairs xs ys))
    | _ => none
  | .plain f as => bd (r.E f ρ σ) fun p => bd (evL r as ρ p.2) fun q => callV r p.1 q.1 q.2
noncomputable def evXf (e : Expr) : Bx (Rec → Fr → St → Option (Rs × St)) := match e with
  | .Call f args [] p => ⟨fun r ρ σ => evC X r f args p ρ σ⟩
  | e => ⟨fun r ρ σ => val (r.E e ρ σ)⟩
noncomputable def evX (r : Rec) (e : Expr) (ρ : Fr) (σ : St) : Option (Rs × St) := (evXf X e).f r ρ σ
noncomputable def boolOps (r : Rec) (op : BoolOp) : List Expr → Fr → St → Option (V × St)
  | [], _, _ => none
  | [e], ρ, σ => r.E e ρ σ
  | e :: es, ρ, σ => bd (r.E e ρ σ) fun p => match p.1 with
    | .bool b => match op with
      | .And => match b with
        | true => boolOps r op es ρ p.2
        | false => some p
      | .Or => match b with
        | true => some p
        | false => boolOps r op es ρ p.2
    | _ => none
noncomputable def allT (r : Rec) (op : BoolOp) : List Expr → Fr → St → Option (Bool × St)
  | [], _, σ => match op with
    | .And => some (true, σ)
    | .Or => some (false, σ)
  | e :: es, ρ, σ => bd (r.T e ρ σ) fun p => match op with
    | .And => match p.1 with
      | true => allT r op es ρ p.2
      | false => some (false, p.2)
    | .Or => match p.1 with
      | true => some (true, p.2)
      | false => allT r op es ρ p.2
noncomputable def cmps (r : Rec) (a : V) : List CmpOp → List Expr → Fr → St → Option (Bool × St)
  | [op], [e], ρ, σ => match isSet e with
    | true => none
    | false => bd (r.E e ρ σ) fun p => bd (cmp op a p.1 p.2) fun b => some (b, p.2)
  | op :: ops, e :: es, ρ, σ => bd (r.E e ρ σ) fun p => bd (cmp op a p.1 p.2) fun b => match b with
    | true => cmps r p.1 ops es ρ p.2
    | false => match ops with
      | [] => none
      | _ => match ops.length == es.length && !(es.any isSet) with
        | true => some (false, p.2)
        | false => none
  | _, _, _, _ => none
noncomputable def optN (r : Rec) : Option Expr → Fr → St → Option (Option Nat × St)
  | none, _, σ => some (none, σ)
  | some e, ρ, σ => bd (r.E e ρ σ) fun p => bd (natOf p.1) fun n => some (some n, p.2)
noncomputable def sliceOf (e : Expr) : Option (Option Expr × Option Expr) := (vSlice0 e).map (·.1)
noncomputable def keyL : List (Option Expr) → Option (List Str)
  | [] => some []
  | o :: r => bd o fun e => bd (vCon e) fun c => bd (cStr c.1) fun s => bd (keyL r) fun l => some (s :: l)
noncomputable def argNames : List Arg → Option (List Str)
  | [] => some []
  | ⟨x, none, _⟩ :: r => bd (argNames r) fun l => some (x :: l)
  | _ => none
noncomputable def allLocal (names : List (Str × NameKind)) : List Str → Bool
  | [] => true
  | x :: r => match names.lookup x with
    | some .local => allLocal names r
    | _ => false
noncomputable def noCells : List (Str × NameKind) → Bool
  | [] => true
  | (_, .cell) :: _ => false
  | _ :: r => noCells r
noncomputable def isFun : ScopeKind → Bool
  | .function => true
  | _ => false
noncomputable def cloT (ps : Arguments) (b : FuncBody) (sc : Scope) : Option CloT := bd ((vPars0 ps).map (·.1)) fun q => match q.2 with
  | [] => bd (argNames q.1) fun xs => match isFun sc.kind && !sc.isCoroutine && !sc.isGenerator && nodupN sc.names && nodupK xs && allLocal sc.names xs && noCells sc.names with
    | true => some ⟨xs, b, sc.names⟩
    | false => none
  | _ => none
noncomputable def madeHere (ρ : Fr) (n : Str) (p : Pos) : Bool := match X.made ρ.fn with
  | some (m, l, c) => sq n m && Nat.beq p.line l && Nat.beq p.col c
  | none => false
noncomputable def dictOk (l : List Str) (n : Nat) : Bool := Nat.beq l.length n && Nat.ble l.length 15 && Nat.blt 0 l.length && nodupK l
noncomputable def stepEf (e : Expr) : Bx (Rec → Fr → St → Option (V × St)) := match e with
  | .Constant c _ _ => ⟨fun _ _ σ => pair (constV c) σ⟩
  | .Name x _ => ⟨fun _ ρ σ => match dunder x with
    | true => none
    | false => match look x ρ.vars with
      | some v => some (v, σ)
      | none => match isGlob x ρ with
        | true => pair (X.glob x) σ
        | false => none⟩
  | .Tuple es _ _ => ⟨fun r ρ σ => bd (evL r es ρ σ) fun p => newT p.2 p.1⟩
  | .List es _ => ⟨fun r ρ σ => bd (evL r es ρ σ) fun p => newL p.2 p.1⟩
  | .BinOp a op b _ => ⟨fun r ρ σ => bd (r.E a ρ σ) fun p => bd (r.E b ρ p.2) fun q => binop op p.1 q.1 q.2⟩
  | .UnaryOp op a _ => ⟨fun r ρ σ => match op with
    | .Not => bd (r.E a ρ σ) fun p => match p.1 with
      | .bool b => some (.bool (!b), p.2)
      | _ => none
    | .USub => bd (r.E a ρ σ) fun p => match p.1 with
      | .int (.lit k) => pair (mkI (-k)) p.2
      | _ => none
    | _ => none⟩
  | .BoolOp op es _ => ⟨fun r ρ σ => boolOps r op es ρ σ⟩
  | .IfExp t a b _ => ⟨fun r ρ σ => bd (r.T t ρ σ) fun p => match p.1 with
    | true => r.E a ρ p.2
    | false => r.E b ρ p.2⟩
  | .Compare a ops es _ => ⟨fun r ρ σ => bd (r.E a ρ σ) fun p => bd (cmps r p.1 ops es ρ p.2) fun q => some (.bool q.1, q.2)⟩
  | .Call f args [] p₀ => ⟨fun r ρ σ => bd (evC X r f args p₀ ρ σ) fun p => match p.1 with
    | .val v => some (v, p.2)
    | .exc _ => none⟩
  | .Attribute o a _ => ⟨fun r ρ σ => match noSuper o with
    | true => bd (r.E o ρ σ) fun p => pair (attrOf X p.1 a) p.2
    | false => none⟩
  | .Subscript o i _ => ⟨fun r ρ σ => match sliceOf i with
    | some (lo, hi) => bd (r.E o ρ σ) fun p => bd (optN r lo ρ p.2) fun a => bd (optN r hi ρ a.2) fun b => slice p.1 a.1 b.1 b.2
    | none => bd (r.E o ρ σ) fun p => bd (r.E i ρ p.2) fun q => pair (item p.1 q.1 q.2) q.2⟩
  | .ListComp elt gens scope _ => ⟨fun r ρ σ => listComp r elt gens scope ρ σ⟩
  | .Lambda ps b scope p => ⟨fun _ ρ σ => match madeHere X ρ "<lambda>" p && capsOk ρ.names ρ.pars ρ.vars scope.names with
    | true => bd (cloT ps (.expr b) scope) fun k => some (.clo "<lambda>" k (capOf ρ.vars scope.names), σ)
    | false => none⟩
  | .Dict ks vs _ => ⟨fun r ρ σ => bd (keyL ks) fun l => match dictOk l vs.length with
    | true => bd (evL r vs ρ σ) fun p => some (.dct (l.zip p.1), p.2)
    | false => none⟩
  | _ => ⟨fun _ _ _ => none⟩
noncomputable def stepE (r : Rec) (e : Expr) (ρ : Fr) (σ : St) : Option (V × St) := (stepEf X e).f r ρ σ
noncomputable def stepTf (e : Expr) : Bx (Rec → Fr → St → Option (Bool × St)) := match e with
  | .UnaryOp .Not a _ => ⟨fun r ρ σ => bd (r.T a ρ σ) fun p => some (!p.1, p.2)⟩
  | .BoolOp op es _ => ⟨fun r ρ σ => allT r op es ρ σ⟩
  | .IfExp t a b _ => ⟨fun r ρ σ => bd (r.T t ρ σ) fun p => match p.1 with
    | true => r.T a ρ p.2
    | false => r.T b ρ p.2⟩
  | .Compare a ops es _ => ⟨fun r ρ σ => bd (r.E a ρ σ) fun p => cmps r p.1 ops es ρ p.2⟩
  | e => ⟨fun r ρ σ => bd (r.E e ρ σ) fun p => match p.1 with
    | .bool b => some (b, p.2)
    | _ => none⟩
noncomputable def stepT (r : Rec) (e : Expr) (ρ : Fr) (σ : St) : Option (Bool × St) := (stepTf e).f r ρ σ
noncomputable def isLocal (names : List (Str × NameKind)) (x : Str) : Bool := match names.lookup x with
  | some .local => true
  | _ => false
noncomputable def handO (ρ : Fr) (hs : List ExceptHandler) : Option Str := match hs with
  | [.ExceptHandler t n b _] => bd t fun t => bd n fun n => match b with
    | [s] => bd (vRet s) fun r => bd (vSub r.1) fun u => bd (vSub u.1) fun v => bd (vAttr v.1) fun a => bd (vName a.1) fun x => bd (vCon v.2.1) fun c => bd (cInt c.1) fun i => bd (vCon u.2.1) fun d => bd (cInt d.1) fun j => bd (vName t) fun y =>
      match sq y.1 "Thrown" && isGlob y.1 ρ && (look y.1 ρ.vars).isNone && sq x.1 n && sq a.2.1 "value" && decide (i = 1) && decide (j = 1) && isLocal ρ.names n && !dunder n with
      | true => some n
      | false => none
    | _ => none
  | _ => none
noncomputable def handlerOk (ρ : Fr) (hs : List ExceptHandler) : Bool := match handO ρ hs with
  | some _ => true
  | none => false
noncomputable def raiseOf (ρ : Fr) (e c : Option Expr) : Option Str := match c with
  | some _ => none
  | none => bd e fun e => bd (vCall e) fun f => bd (vName f.1) fun g => match f.2.1 with
    | [a, b] => bd (vCon a) fun a => bd (cStr a.1) fun n => bd (vCon b) fun b => bd (cStr b.1) fun t => match sq g.1 "thrown_text" && isGlob g.1 ρ && (look g.1 ρ.vars).isNone && ascii t with
      | true => some n
      | false => none
    | _ => none
noncomputable def isComp (e : Expr) : Bool := Nat.ble 8 e.ctorIdx && Nat.ble e.ctorIdx 10
noncomputable def stepSf (s : Stmt) : Bx (Rec → Fr → St → Option (Fl × List (Str × V) × St)) := match s with
  | .Expr e _ => ⟨fun r ρ σ => match isComp e with
   | true => none
   | false => bd (evX X r e ρ σ) fun p => match p.1 with
    | .val _ => some (.next, ρ.vars, p.2)
    | .exc n => some (.exc n, ρ.vars, p.2)⟩
  | .Assign [t] e _ => ⟨fun r ρ σ => match t with
    | .Name x _ => match e with
      | .ListComp elt gens scope _ => bd (listComp r elt gens scope ρ σ) fun p => bd (bind1 ρ.names ρ.pars x p.1 ρ.vars) fun m => some (.next, m, p.2)
      | e => match isComp e with
        | true => none
        | false => bd (evX X r e ρ σ) fun p => match p.1 with
          | .val v => bd (bind1 ρ.names ρ.pars x v ρ.vars) fun m => some (.next, m, p.2)
          | .exc n => some (.exc n, ρ.vars, p.2)
    | .Tuple ts k q => match tupOk ts e with
     | false => none
     | true => bd (r.E e ρ σ) fun p => bd (bindT ρ.names ρ.pars (.Tuple ts k q) p.1 ρ.vars) fun m => some (.next, m, p.2)
    | .Subscript o i _ => bd (r.E e ρ σ) fun p => bd (r.E o ρ p.2) fun q => bd (r.E i ρ q.2) fun u => match q.1 with
      | .lst a => bd (u.2.list a) fun l => bd (natOf u.1) fun k => match Nat.blt k l.length with
        | true => bd (u.2.put a (l.set k p.1)) fun σ' => some (.next, ρ.vars, σ')
        | false => none
      | _ => none
    | _ => none⟩
  | .If t a b _ => ⟨fun r ρ σ => bd (r.T t ρ σ) fun p => match p.1 with
    | true => execs r ρ a ρ.vars p.2
    | false => execs r ρ b ρ.vars p.2⟩
  | .For t i body [] _ => ⟨fun r ρ σ => bd (iterE r i ρ σ) fun p => match tgtOk p.1 t with
    | true => forL r ρ t body turnsMost p.1 ρ.vars p.2
    | false => none⟩
  | .While t _ [] _ => ⟨fun r ρ σ => bd (r.T t ρ σ) fun p => match p.1 with
    | true => none
    | false => some (.next, ρ.vars, p.2)⟩
  | .Return (some e) _ => ⟨fun r ρ σ => bd (evX X r e ρ σ) fun p => match p.1 with
    | .val v => some (.ret v, ρ.vars, p.2)
    | .exc n => some (.exc n, ρ.vars, p.2)⟩
  | .Raise e c _ => ⟨fun _ ρ σ => bd (raiseOf ρ e c) fun n => some (.exc n, ρ.vars, σ)⟩
  | .Try body hs [] [] _ => ⟨fun r ρ σ => match handlerOk ρ hs with
    | true => bd (execs r ρ body ρ.vars σ) fun p => match p.1 with
      | .exc n => some (.ret (.str n), p.2.1, p.2.2)
      | f => some (f, p.2.1, p.2.2)
    | false => none⟩
  | .FunctionDef n ps b [] none [] scope none bn p => ⟨fun _ ρ σ => match sq bn n && madeHere X ρ n p && capsOk ρ.names ρ.pars ρ.vars scope.names with
    | true => bd (cloT ps (.stmts b) scope) fun k => bd (bind1 ρ.names ρ.pars n (.clo n k (capOf ρ.vars scope.names)) ρ.vars) fun m => some (.next, m, σ)
    | false => none⟩
  | .Pass _ => ⟨fun _ ρ σ => some (.next, ρ.vars, σ)⟩
  | _ => ⟨fun _ _ _ => none⟩
noncomputable def stepS (r : Rec) (s : Stmt) (ρ : Fr) (σ : St) : Option (Fl × List (Str × V) × St) := (stepSf X s).f r ρ σ
noncomputable def params (ps : List Str) (dfl : List V) (args : List V) : Option (List (Str × V)) := match Nat.beq ps.length args.length with
  | true => some (ps.zip args)
  | false => match dfl with
    | [d] => match Nat.beq ps.length (args.length + 1) with
      | true => some (ps.zip (args ++ [d]))
      | false => none
    | _ => none
noncomputable def callFD (r : Rec) (x : Str) (fd : FD) (cap : List (Str × V)) (args : List V) (σ : St) : Option (Rs × St) := bd (params fd.params fd.dfl args) fun m => match fd.body with
  | .stmts b => bd (execs r ⟨x, fd.names, fd.params, []⟩ b (m ++ cap) σ) fun p => match p.1 with
    | .next => some (.val .none, p.2.2)
    | .ret v => some (.val v, p.2.2)
    | .exc n => some (.exc n, p.2.2)
  | .expr e => val (r.E e ⟨x, fd.names, fd.params, m ++ cap⟩ σ)
noncomputable def callTup (a : V) (σ : St) : Option (V × St) := match a with
  | .tup l => some (.tup l, σ)
  | .lst i => bd (σ.list i) fun l => newT σ l
  | _ => none
noncomputable def callLst (a : V) (σ : St) : Option (V × St) := match a with
  | .tup l => newL σ l
  | .lst i => bd (σ.list i) fun l => newL σ l
  | _ => none
noncomputable def callT (t : String) (a : V) (σ : St) : Option (V × St) := match decide (t = "tuple") with
  | true => callTup a σ
  | false => match decide (t = "list") with
    | true => callLst a σ
    | false => match decide (t = "range") with
      | true => bd (natOf a) fun n => some (.rng n, σ)
      | false => none
noncomputable def callLen (a : V) (σ : St) : Option (V × St) := match a with
  | .tup l => pair (mkI (Int.ofNat l.length)) σ
  | .lst i => bd (σ.list i) fun l => pair (mkI (Int.ofNat l.length)) σ
  | _ => none
noncomputable def callMax (a b : V) (σ : St) : Option (V × St) := match a with
  | .int (.lit x) => match b with
    | .int (.lit y) => match decide (x < y) with
      | true => some (.int (.lit y), σ)
      | false => some (.int (.lit x), σ)
    | _ => none
  | _ => none
noncomputable def callB (b : String) (args : List V) (σ : St) : Option (V × St) := match args with
  | [x] => match decide (b = "len") with
    | true => callLen x σ
    | false => none
  | [x, y] => match decide (b = "max") with
    | true => callMax x y σ
    | false => none
  | _ => none
noncomputable def callCon (c : Value) (args : List V) (σ : St) : Option (V × St) := match c with
  | .type t => match args with
    | [a] => callT t a σ
    | _ => none
  | .builtin b => callB b args σ
  | _ => none
noncomputable def spark (args : List V) (σ : St) : Option (V × St) := bd ((vSpk0 args).map (·.1)) fun q => match σ.tr.get q.1 with
  | some .forge => match decide (0 < q.2) && small q.2 with
    | true => some (.int (.sym σ.syms), { σ with syms := σ.syms + 1 })
    | false => none
  | _ => none
noncomputable def capFree (names : List (Str × NameKind)) : List (Str × V) → Bool
  | [] => true
  | (x, _) :: r => match names.lookup x with
    | some .free => capFree names r
    | _ => false
noncomputable def stepC (r : Rec) (f : V) (args : List V) (σ : St) : Option (Rs × St) := match f with
  | .fn n => match sq n "_law_spark" with
    | true => val (spark args σ)
    | false => match sq n "Thing" with
      | true => match args with
        | [k, f, s] => some (.val (.thing k f s), σ)
        | _ => none
      | false => match sq n "text_value" with
        | true => match args with
          | [.str t] => match ascii t with
            | true => some (.val (.tup [.str "text", .any]), σ)
            | false => none
          | _ => none
        | false => bd (X.defs n) fun fd => callFD r n fd [] args σ
  | .clo n k cap => match capFree k.names cap with
    | true => callFD r n ⟨k.params, [], k.body, k.names⟩ cap args σ
    | false => none
  | .con c => val (callCon c args σ)
  | _ => none
noncomputable def bot : Rec := ⟨fun _ _ _ => none, fun _ _ _ => none, fun _ _ _ => none, fun _ _ _ => none⟩
noncomputable def step (r : Rec) : Rec := ⟨stepE X r, stepT r, stepS X r, stepC X r⟩
noncomputable def run : Nat → Rec
  | 0 => bot
  | n + 1 => step X (run n)
noncomputable def defOf (s : Stmt) : Option (Str × FD) := match s with
  | .FunctionDef n ps b _ _ _ sc _ _ _ => some (n, ⟨ps.args.map (·.arg), ps.defaults.filterMap fun | .Tuple [] _ _ => some (V.tup []) | .Constant (.str s) _ _ => some (V.str s) | _ => none, .stmts b, sc.names⟩)
  | _ => none
noncomputable def findFD (x : Str) : List Stmt → Option FD
  | [] => none
  | s :: r => match defOf s with
    | some (n, fd) => match sq n x with
      | true => some fd
      | false => findFD x r
    | none => findFD x r
noncomputable def bodyOf (x : Str) : List Stmt → List Stmt
  | [] => []
  | .FunctionDef n _ b _ _ _ _ _ _ _ :: r => match sq n x with
    | true => b
    | false => bodyOf x r
  | .ClassDef n _ _ b _ _ _ _ _ _ _ :: r => match sq n x with
    | true => b
    | false => bodyOf x r
  | _ :: r => bodyOf x r
noncomputable abbrev top : List Stmt := PySem.Challenge.rw_sf0041_01.prog.main.body
noncomputable def defsT (x : Str) : Option FD := match findFD x top with
  | some fd => some fd
  | none => findFD x (bodyOf "Heap" top)
noncomputable def cbT : CloT := match findFD "called_back" (bodyOf "law" top) with
  | some fd => ⟨fd.params, fd.body, fd.names⟩
  | none => ⟨[], .stmts [], []⟩
noncomputable def madeIn : List Stmt → Option (Str × Nat × Nat)
  | [] => none
  | .FunctionDef n _ _ _ _ _ _ _ _ p :: _ => some (n, p.line, p.col)
  | .Assign _ (.Call _ [_, .Lambda _ _ _ p] _ _) _ :: _ => some ("<lambda>", p.line, p.col)
  | _ :: r => madeIn r
noncomputable def madeT (x : Str) : Option (Str × Nat × Nat) := match sq x "reduced_along" || sq x "running_row" || sq x "spread_into" with
  | true => madeIn (bodyOf x top)
  | false => none
noncomputable def methT (x : Str) : Option Str := match findFD x (bodyOf "Heap" top) with
  | some _ => some x
  | none => none
noncomputable def globT (x : Str) : Option V := match findFD x top with
  | some _ => some (.fn x)
  | none => look x [("len", .con (.builtin "len")), ("tuple", .con (.type "tuple")), ("list", .con (.type "list")), ("max", .con (.builtin "max")), ("range", .con (.type "range")), ("Thing", .fn "Thing"), ("MOST_ITEMS", .int (.lit 20000)),
    ("NOTHING", .tup [.str "nothing"]), ("ANY", .tup [.str "name", .str "Any", .tup []]), ("RANGES", .tup [.str "UnitRange", .str "StepRange"]),
    ("PLAIN_KINDS", .dct [("bool", .str "Bool"), ("char", .str "Char"), ("text", .str "String"), ("sym", .str "Symbol"), ("nothing", .str "Nothing"), ("tree", .str "Expr")])]
noncomputable def text : Tx := ⟨globT, defsT, methT, 1, cbT, madeT⟩
noncomputable def lawTail : List Stmt := (bodyOf "law" top).drop 4
noncomputable def lawNames : List (Str × NameKind) := match findFD "law" top with
  | some fd => fd.names
  | none => []
noncomputable def start : St := ⟨.node (some .forge) (.node (some (.lst [])) .nil .nil) (.node (some (.lst [])) .nil .nil), 3, 4⟩
noncomputable def vars0 (h w : Int) : List (Str × V) := [("forge", .lst 0), ("image", .img), ("heard", .lst 2), ("called_back", .clo "called_back" cbT [("heard", .lst 2), ("image", .img)]), ("high", .int (.lit h)), ("wide", .int (.lit w))]
noncomputable def lawRun (fuel : Nat) (h w : Int) : Option Bool := bd (execs (run text fuel) ⟨"law", lawNames, ["script", "heard", "image"], []⟩ lawTail (vars0 h w) start) fun p => (vRB0 p.1).map (·.1)
end
open PySem.W PyProof.Rows
structure Cx where
  prog : Program
  w : World
  h₀ : Heap
  os : OsState
  addr : Str → Option Addr
  img : Addr
  thing : Addr
  thrown : Addr
  tabs : List Addr
  things : Addr
  heard : Addr
  fns : List Str
structure Wd where
  adr : List Addr
  syms : List Int
  mt : List Addr
noncomputable def notCell (o : Obj) : Bool := match o.data with
  | .cell _ => false
  | .fields vs => match vs[1]? with
    | some (Value.str _ _) => false
    | _ => true
  | _ => true
noncomputable def isIter (o : Obj) : Bool := (o.cls == .type "tuple_iterator" || o.cls == .type "list_iterator" || o.cls == .type "range_iterator" || o.cls == .type "zip" || o.cls == .type "enumerate") && notCell o
theorem isIter_cell {o : Obj} {v : Option Value} (h : o.data = .cell v) : isIter o = false := by
  unfold isIter notCell
  (refine rwm (h) ?_; rw [Bool.and_false])
theorem isIter_code {o : Obj} {vs : Array Value} {q : Str} {t : Tok} (h : o.data = .fields vs) (h1 : vs[1]? = some (.str q t)) : isIter o = false := by
  unfold isIter notCell
  refine rwm (h) ?_
  simp only [h1, Bool.and_false]
noncomputable def Fz (W : Wd) (h : Heap) (a : Addr) (o : Obj) : Prop := h.get? a = some o ∧ a ∉ W.mt ∧ isIter o = false
noncomputable def Loose (W : Wd) (h : Heap) (b : Addr) : Prop := b ∈ W.mt ∨ ∃ o, h.get? b = some o ∧ isIter o = true
structure Wd.Le (h : Heap) (W W' : Wd) : Prop where
  adr : W.adr <+: W'.adr
  syms : W.syms <+: W'.syms
  mt : ∀ b, b ∈ W.mt → b ∈ W'.mt
  new : ∀ b, b ∈ W'.mt → b ∈ W.mt ∨ h.get? b = none
  newAdr : ∀ b, b ∈ W'.adr → b ∈ W.adr ∨ h.get? b = none
noncomputable def Keep (S P : Addr → Prop) (h h' : Heap) : Prop := ∀ b o, h.get? b = some o → ¬ S b →
  h'.get? b = some o ∨ (P b ∧ ∃ sl, h'.get? b = some { o with slots := sl })
theorem Wd.Le.refl (h : Heap) (W : Wd) : W.Le h W := ⟨List.prefix_refl _, List.prefix_refl _, fun _ x => x, fun _ x => .inl x, fun _ x => .inl x⟩
theorem Keep.refl (S P : Addr → Prop) (h : Heap) : Keep S P h h := fun _ _ e _ => .inl e
theorem Keep.of (S P : Addr → Prop) {h h' : Heap} (k : ∀ b o, h.get? b = some o → ¬ S b → h'.get? b = some o) : Keep S P h h' := fun b o e n => .inl (k b o e n)
theorem Keep.trans {S P S' P' : Addr → Prop} {h₁ h₂ h₃ : Heap} (x : Keep S P h₁ h₂) (y : Keep S' P' h₂ h₃) (hs : ∀ b o, h₁.get? b = some o → S' b → S b) (hp : ∀ b o, h₁.get? b = some o → P' b → P b) : Keep S P h₁ h₃ := by
  intro b o e n
  rcases x b o e n with e₂ | ⟨hc, sl, e₂⟩
  · rcases y b o e₂ fun s => n (hs b o e s) with e₃ | ⟨p, q⟩
    · exact .inl e₃
    · exact .inr ⟨hp b o e p, q⟩
  · rcases y b _ e₂ fun s => n (hs b o e s) with e₃ | ⟨_, sl', e₃⟩
    · exact .inr (X8 hc sl e₃)
    · exact .inr (X8 hc sl' e₃)
theorem Keep.weak {S P S' P' : Addr → Prop} {h h' : Heap} (x : Keep S P h h') (hs : ∀ b, S b → S' b) (hp : ∀ b, P b → P' b) : Keep S' P' h h' := fun b o e n => (x b o e fun s => n (hs b s)).imp id fun q => ⟨hp b q.1, q.2⟩
theorem Keep.there {S P : Addr → Prop} {h h' : Heap} (x : Keep S P h h') {b : Addr} {o : Obj} (e : h.get? b = some o) (n : ¬ S b) : ∃ o', h'.get? b = some o' := by
  rcases x b o e n with q | ⟨_, sl, q⟩
  · exact ⟨_, q⟩
  · exact ⟨_, q⟩
theorem Keep.data {S P : Addr → Prop} {h h' : Heap} (x : Keep S P h h') {b : Addr} {o : Obj} (e : h.get? b = some o) (n : ¬ S b) : ∃ o', h'.get? b = some o' ∧ o'.data = o.data ∧ o'.cls = o.cls ∧ o'.dict = o.dict := by
  rcases x b o e n with q | ⟨_, sl, q⟩
  · exact (Y2 _ q rfl rfl rfl)
  · exact (Y2 _ q rfl rfl rfl)
theorem Keep.ns {S P : Addr → Prop} {h h' : Heap} (x : Keep S P h h') {b : Addr} {m : Str → Option Value} (hn : h.Ns b m) (n : ¬ S b) : h'.Ns b m := by
  refine W5 hn fun o es ep e hd r => ?_
  clear hn
  refine W3 (x.data e n) fun o' e' d _ => ?_
  exact (X3 o' es ep e' (d.trans hd) r)
theorem Keep.cell {S P : Addr → Prop} {h h' : Heap} (x : Keep S P h h') {b : Addr} {v : Option Value} (hn : h.IsCell b v) (n : ¬ S b) : h'.IsCell b v := by
  refine w6 hn fun o e hd => ?_
  clear hn
  refine W3 (x.data e n) fun o' e' d _ => ?_
  exact (w7 o' e' (d.trans hd))
theorem Wd.Le.trans {h h₁ : Heap} {W W₁ W₂ : Wd} (x : W.Le h W₁) (y : W₁.Le h₁ W₂) (back : ∀ b o, h.get? b = some o → ∃ o', h₁.get? b = some o') : W.Le h W₂ := by
  have back' : ∀ b, h₁.get? b = none → h.get? b = none := by
    intro b n₁
    induction q : h.get? b using Option.casesOn with
    | none => rfl
    | some o =>
      refine w5 (back b o q) fun o' e => ?_
      rw [e] at n₁; exact snx n₁
  refine ⟨x.adr.trans y.adr, x.syms.trans y.syms, fun b m => y.mt b (x.mt b m), fun b m => ?_, fun b m => ?_⟩
  · rcases y.new b m with m₁ | n₁
    · exact x.new b m₁
    · exact .inr (back' b n₁)
  · rcases y.newAdr b m with m₁ | n₁
    · exact x.newAdr b m₁
    · exact .inr (back' b n₁)
theorem Fz.not {W : Wd} {h : Heap} {a : Addr} {o : Obj} (x : Fz W h a o) : ¬ Loose W h a := by
  rintro (m | ⟨o', e, i⟩)
  · exact x.2.1 m
  · rw [x.1] at e; (revert e; refine sm_r fun zz => ?_; subst zz); rw [x.2.2] at i; exact ftx i
structure Wd.Lv (h : Heap) (W W' : Wd) : Prop where
  adr : W.adr <+: W'.adr
  syms : W.syms <+: W'.syms
  new : ∀ b, b ∈ W'.mt → b ∈ W.mt ∨ h.get? b = none
theorem Wd.Le.lv {h : Heap} {W W' : Wd} (l : W.Le h W') : W.Lv h W' := ⟨l.adr, l.syms, l.new⟩
theorem Fz.monoL {S P : Addr → Prop} {W W' : Wd} {h h' : Heap} {a : Addr} {o : Obj} (x : Fz W h a o) (l : W.Lv h W') (k : Keep S P h h') (hs : ∀ b, S b → Loose W h b) (hp : ∀ b, P b → b ∈ W.mt) : Fz W' h' a o := by
  refine W2 x fun e n i => ?_
  clear x
  refine ⟨?_, fun m => ?_, i⟩
  · rcases k a o e fun s => Fz.not ⟨e, n, i⟩ (hs a s) with q | ⟨q, _⟩
    · exact q
    · exact absurd (hp a q) n
  · rcases l.new a m with m | m
    · exact n m
    · rw [e] at m; exact snx m
theorem Fz.mono {S P : Addr → Prop} {W W' : Wd} {h h' : Heap} {a : Addr} {o : Obj} (x : Fz W h a o) (l : W.Le h W') (k : Keep S P h h') (hs : ∀ b, S b → Loose W h b) (hp : ∀ b, P b → b ∈ W.mt) : Fz W' h' a o := x.monoL l.lv k hs hp
inductive ThingAt (C : Cx) (W : Wd) (h : Heap) (a : Addr) (vk vf vs : Value) : Prop
  | mk (ox : Obj) (d : Addr) (od : Obj) : Fz W h a ox → ox.cls = .ref C.thing → notCls ox = true → ox.dict = some d → Fz W h d od → lookIn "kind" od = some (some vk) → lookIn "fields" od = some (some vf) → lookIn "sizes" od = some (some vs) → ThingAt C W h a vk vf vs
structure CloFn (C : Cx) (x : Str) (k : CloT) (fn : FuncData) : Prop where
  kind : fn.scope.kind = .function
  co : fn.scope.isCoroutine = false
  gen : fn.scope.isGenerator = false
  names : fn.scope.names = k.names
  glob : fn.globals = mainGlobals
  blt : fn.builtins = builtinsNs
  body : fn.body = k.body
  bind : ∀ vals : List Value, vals.length = k.params.length → bindArgs fn ⟨vals, []⟩ = pure (k.params.zip vals)
  nd : k.params.Nodup
  ndn : (k.names.map (·.1)).Nodup
  loc : ∀ p ∈ k.params, k.names.lookup p = some .local
  noCell : ∀ p ∈ k.names, p.2 ≠ .cell
  other : x ∉ C.fns
inductive CloAt (C : Cx) (W : Wd) (h : Heap) (x : Str) (k : CloT) (a : Addr) (cl : List (Str × Addr)) : Prop
  | mk (o : Obj) (fd : FuncData) (c : Addr) (oc : Obj) (vs : Array Value) (t : Tok) : Fz W h a o → o.data = .func fd → o.cls = .type "function" → CloFn C x k fd → fd.closure = cl → fd.code = .ref c → Fz W h c oc → oc.data = .fields vs → vs[1]? = some (.str fd.qualname t) → cl.Pairwise (fun x y => x.2 ≠ y.2) → CloAt C W h x k a cl
noncomputable def CellAt (W : Wd) (h : Heap) (c : Addr) (v : Value) : Prop := ∃ o, Fz W h c o ∧ o.data = .cell (some v)
noncomputable def DctAt (C : Cx) (W : Wd) (h : Heap) (a : Addr) (f : Str → Option Value) : Prop := ∃ o, Fz W h a o ∧ (∀ h' : Heap, h'.get? a = some o → h'.MapOf (strKind C.prog C.w) a f)
mutual
inductive VR (C : Cx) (W : Wd) (h : Heap) : V → Value → Prop
  | none : VR C W h .none .none
  | bool (b : Bool) : VR C W h (.bool b) (.bool b)
  | lit (k : Int) (t : Tok) : VR C W h (.int (.lit k)) (.int k t)
  | sym {i : Nat} {k : Int} (t : Tok) : W.syms[i]? = some k → VR C W h (.int (.sym i)) (.int k t)
  | str (s : Str) (t : Tok) : VR C W h (.str s) (.str s t)
  | tup {a : Addr} {n : Nat} {ds : List V} {vs : List Value} : Fz W h a { cls := .type "tuple", data := .seq vs.toArray n } → ds.length ≤ 1000 → VRs C W h ds vs → VR C W h (.tup ds) (.ref a)
  | lst {i : Nat} {a : Addr} : W.adr[i]? = some a → VR C W h (.lst i) (.ref a)
  | rng {n : Nat} {a : Addr} {t u v : Tok} : Fz W h a { cls := .type "range", data := .fields #[.int 0 t, .int n u, .int 1 v] } → VR C W h (.rng n) (.ref a)
  | con (c : Value) : (∃ t, c = .type t) ∨ (∃ b, c = .builtin b ∧ handedIn c = true) → VR C W h (.con c) c
  | any (v : Value) : (v == .none) = false ∧ handedIn v = true → VR C W h .any v
  | fn {x : Str} {a : Addr} : C.addr x = some a → VR C W h (.fn x) (.ref a)
  | img : W.adr[1]? = some C.things → W.adr[2]? = some C.heard → VR C W h .img (.ref C.img)
  | thing {k f s : V} {a : Addr} {vk vf vs : Value} : ThingAt C W h a vk vf vs → VR C W h k vk → VR C W h f vf → VR C W h s vs → VR C W h (.thing k f s) (.ref a)
  | clo {x : Str} {k : CloT} {cap : List (Str × V)} {a : Addr} {cl : List (Str × Addr)} : CloAt C W h x k a cl → Caps C W h cl cap → VR C W h (.clo x k cap) (.ref a)
  | dct {l : List (Str × V)} {a : Addr} {f : Str → Option Value} : DctAt C W h a f → (a == sysModules) = false → (∀ x, (f x).isSome = hasKey x l) → VRd C W h f l → VR C W h (.dct l) (.ref a)
inductive VRs (C : Cx) (W : Wd) (h : Heap) : List V → List Value → Prop
  | nil : VRs C W h [] []
  | cons {d : V} {ds : List V} {v : Value} {vs : List Value} : VR C W h d v → VRs C W h ds vs → VRs C W h (d :: ds) (v :: vs)
inductive Caps (C : Cx) (W : Wd) (h : Heap) : List (Str × Addr) → List (Str × V) → Prop
  | nil {cl : List (Str × Addr)} : Caps C W h cl []
  | cons {cl : List (Str × Addr)} {x : Str} {d : V} {r : List (Str × V)} {c : Addr} {v : Value} : cl.lookup x = some c → CellAt W h c v → VR C W h d v → Caps C W h cl r → Caps C W h cl ((x, d) :: r)
inductive VRd (C : Cx) (W : Wd) (h : Heap) : (Str → Option Value) → List (Str × V) → Prop
  | nil {f : Str → Option Value} : VRd C W h f []
  | cons {f : Str → Option Value} {x : Str} {d : V} {r : List (Str × V)} {v : Value} : f x = some v → VR C W h d v → VRd C W h f r → VRd C W h f ((x, d) :: r)
end
noncomputable def VRI (C : Cx) (W : Wd) (h : Heap) : V → Value → Prop
  | .none, v => v = .none
  | .bool b, v => v = .bool b
  | .int (.lit k), v => ∃ t, v = .int k t
  | .int (.sym i), v => ∃ k t, W.syms[i]? = some k ∧ v = .int k t
  | .str s, v => ∃ t, v = .str s t
  | .tup ds, v => ∃ a n vs, Fz W h a { cls := .type "tuple", data := .seq vs.toArray n } ∧ ds.length ≤ 1000 ∧ VRs C W h ds vs ∧ v = .ref a
  | .lst i, v => ∃ a, W.adr[i]? = some a ∧ v = .ref a
  | .rng n, v => ∃ a t u x, Fz W h a { cls := .type "range", data := .fields #[.int 0 t, .int n u, .int 1 x] } ∧ v = .ref a
  | .con c, v => ((∃ t, c = .type t) ∨ (∃ b, c = .builtin b ∧ handedIn c = true)) ∧ v = c
  | .any, v => (v == .none) = false ∧ handedIn v = true
  | .fn x, v => ∃ a, C.addr x = some a ∧ v = .ref a
  | .img, v => W.adr[1]? = some C.things ∧ W.adr[2]? = some C.heard ∧ v = .ref C.img
  | .thing k f s, v => ∃ a vk vf vs, ThingAt C W h a vk vf vs ∧ VR C W h k vk ∧ VR C W h f vf ∧ VR C W h s vs ∧ v = .ref a
  | .clo x k cap, v => ∃ a cl, CloAt C W h x k a cl ∧ Caps C W h cl cap ∧ v = .ref a
  | .dct l, v => ∃ a f, DctAt C W h a f ∧ (a == sysModules) = false ∧ (∀ x, (f x).isSome = hasKey x l) ∧ VRd C W h f l ∧ v = .ref a
theorem VR.inv {C : Cx} {W : Wd} {h : Heap} {d : V} {v : Value} (x : VR C W h d v) : VRI C W h d v := by
  cases x with
  | none => exact rfl
  | bool _ => exact rfl
  | lit _ t => exact ⟨t, rfl⟩
  | sym t e => exact (x9 _ t e rfl)
  | str _ t => exact ⟨t, rfl⟩
  | tup z b r => exact (X7 _ _ _ z b r rfl)
  | lst e => exact (w7 _ e rfl)
  | rng z => exact (X5 _ _ _ _ z rfl)
  | con _ c => exact ⟨c, rfl⟩
  | any _ c => exact c
  | fn e => exact (w7 _ e rfl)
  | img a b => exact ⟨a, b, rfl⟩
  | thing t a b c => exact ⟨_, _, _, _, t, a, b, c, rfl⟩
  | clo a c => exact (y7 _ _ a c rfl)
  | dct a b c e => exact ⟨_, _, a, b, c, e, rfl⟩
theorem VRs.invC {C : Cx} {W : Wd} {h : Heap} {d : V} {ds : List V} {vs : List Value} (x : VRs C W h (d :: ds) vs) : ∃ v vs', VR C W h d v ∧ VRs C W h ds vs' ∧ vs = v :: vs' := by
  cases x with
  | cons a b => exact (y7 _ _ a b rfl)
theorem VRs.invN {C : Cx} {W : Wd} {h : Heap} {vs : List Value} (x : VRs C W h [] vs) : vs = [] := by
  cases x; rfl
@[elab_as_elim] theorem VRs.e0 {C : Cx} {W : Wd} {h : Heap} {P : List Value → Prop} {vs : List Value} (x : VRs C W h [] vs) (k : P []) : P vs := x.invN ▸ k
@[elab_as_elim] theorem VRs.eC {C : Cx} {W : Wd} {h : Heap} {d : V} {ds : List V} {P : List Value → Prop} {vs : List Value} (x : VRs C W h (d :: ds) vs) (k : ∀ v vs', VR C W h d v → VRs C W h ds vs' → P (v :: vs')) : P vs := by
  obtain ⟨v, vs', a, b, rfl⟩ := x.invC; exact k v vs' a b
@[elab_as_elim] theorem VRs.e1 {C : Cx} {W : Wd} {h : Heap} {d : V} {P : List Value → Prop} {vs : List Value} (x : VRs C W h [d] vs) (k : ∀ v, VR C W h d v → P [v]) : P vs := VRs.eC x fun v _ a b => VRs.e0 b (k v a)
@[elab_as_elim] theorem VRs.e2 {C : Cx} {W : Wd} {h : Heap} {d d' : V} {P : List Value → Prop} {vs : List Value} (x : VRs C W h [d, d'] vs) (k : ∀ v v', VR C W h d v → VR C W h d' v' → P [v, v']) : P vs := VRs.eC x fun v _ a b => VRs.e1 b fun v' a' => k v v' a a'
@[elab_as_elim] theorem VRs.e3 {C : Cx} {W : Wd} {h : Heap} {d d' d'' : V} {P : List Value → Prop} {vs : List Value} (x : VRs C W h [d, d', d''] vs) (k : ∀ v v' v'', VR C W h d v → VR C W h d' v' → VR C W h d'' v'' → P [v, v', v'']) : P vs := VRs.eC x fun v _ a b => VRs.e2 b fun v' v'' a' a'' => k v v' v'' a a' a''
@[elab_as_elim] theorem VR.eS {C : Cx} {W : Wd} {h : Heap} {s : Str} {P : Value → Prop} {v : Value} (x : VR C W h (.str s) v) (k : ∀ t, P (.str s t)) : P v := by
  obtain ⟨t, rfl⟩ := x.inv; exact k t
@[elab_as_elim] theorem VR.eB {C : Cx} {W : Wd} {h : Heap} {b : Bool} {P : Value → Prop} {v : Value} (x : VR C W h (.bool b) v) (k : P (.bool b)) : P v := by
  obtain rfl := x.inv; exact k
@[elab_as_elim] theorem VR.eN {C : Cx} {W : Wd} {h : Heap} {P : Value → Prop} {v : Value} (x : VR C W h .none v) (k : P .none) : P v := by
  obtain rfl := x.inv; exact k
theorem VRs.nil_of {C : Cx} {W : Wd} {h : Heap} {ds : List V} (x : VRs C W h ds []) : ds = [] := by cases x; rfl
@[elab_as_elim] theorem VRs.l1 {C : Cx} {W : Wd} {h : Heap} {P : List V → List Value → Prop} {ds : List V} {vs : List Value} (x : VRs C W h ds vs) (hl : 1 = vs.length) (k : ∀ d v, VR C W h d v → P [d] [v]) : P ds vs := by
  induction ds using List.casesOn with
  | nil => obtain rfl := x.invN; exact nomatch hl
  | cons d ds =>
    obtain ⟨v, vs', a, b, rfl⟩ := x.invC
    obtain rfl := List.eq_nil_of_length_eq_zero (Nat.succ.inj hl).symm
    obtain rfl := b.nil_of
    exact k d v a
@[elab_as_elim] theorem VRs.l2 {C : Cx} {W : Wd} {h : Heap} {P : List V → List Value → Prop} {ds : List V} {vs : List Value} (x : VRs C W h ds vs) (hl : 2 = vs.length) (k : ∀ d d' v v', VR C W h d v → VR C W h d' v' → P [d, d'] [v, v']) : P ds vs := by
  induction ds using List.casesOn with
  | nil => obtain rfl := x.invN; exact nomatch hl
  | cons d ds =>
    obtain ⟨v, vs', a, b, rfl⟩ := x.invC
    exact VRs.l1 (P := fun ds vs => P (d :: ds) (v :: vs)) b (Nat.succ.inj hl) fun d' v' a' => k d d' v v' a a'
@[elab_as_elim] theorem VRs.ind {C : Cx} {W : Wd} {h : Heap} {motive : List V → List Value → Prop} (nil : motive [] []) (cons : ∀ {d : V} {ds : List V} {v : Value} {vs : List Value}, VR C W h d v → VRs C W h ds vs → motive ds vs → motive (d :: ds) (v :: vs)) {ds : List V} {vs : List Value} (x : VRs C W h ds vs) : motive ds vs := by
  induction ds generalizing vs with
  | nil => refine rwm x.invN ?_; exact nil
  | cons d ds ih =>
    obtain ⟨v, vs', a, b, e⟩ := x.invC
    refine rwm e ?_
    exact cons a b (ih b)
theorem Caps.invC {C : Cx} {W : Wd} {h : Heap} {cl : List (Str × Addr)} {x : Str} {d : V} {r : List (Str × V)} (y : Caps C W h cl ((x, d) :: r)) : ∃ c v, cl.lookup x = some c ∧ CellAt W h c v ∧ VR C W h d v ∧ Caps C W h cl r := by
  cases y with
  | cons e c a b => exact ⟨_, _, e, c, a, b⟩
@[elab_as_elim] theorem Caps.ind {C : Cx} {W : Wd} {h : Heap} {cl : List (Str × Addr)} {motive : List (Str × V) → Prop} (nil : motive []) (cons : ∀ {x : Str} {d : V} {r : List (Str × V)} {c : Addr} {v : Value}, cl.lookup x = some c → CellAt W h c v → VR C W h d v → Caps C W h cl r → motive r → motive ((x, d) :: r)) {r : List (Str × V)} (y : Caps C W h cl r) : motive r := by
  induction r with
  | nil => exact nil
  | cons p r ih =>
    obtain ⟨c, v, e, z, a, b⟩ := Caps.invC (x := p.1) (d := p.2) y
    exact cons e z a b (ih b)
theorem VRd.invC {C : Cx} {W : Wd} {h : Heap} {f : Str → Option Value} {x : Str} {d : V} {r : List (Str × V)} (y : VRd C W h f ((x, d) :: r)) : ∃ v, f x = some v ∧ VR C W h d v ∧ VRd C W h f r := by
  cases y with
  | cons e a b => exact ⟨_, e, a, b⟩
@[elab_as_elim] theorem VRd.ind {C : Cx} {W : Wd} {h : Heap} {f : Str → Option Value} {motive : List (Str × V) → Prop} (nil : motive []) (cons : ∀ {x : Str} {d : V} {r : List (Str × V)} {v : Value}, f x = some v → VR C W h d v → VRd C W h f r → motive r → motive ((x, d) :: r)) {r : List (Str × V)} (y : VRd C W h f r) : motive r := by
  induction r with
  | nil => exact nil
  | cons p r ih =>
    obtain ⟨v, e, a, b⟩ := VRd.invC (x := p.1) (d := p.2) y
    exact cons e a b (ih b)
theorem ThingAt.monoL {C : Cx} {S P : Addr → Prop} {W W' : Wd} {h h' : Heap} {a : Addr} {vk vf vs : Value} (l : W.Lv h W') (k : Keep S P h h') (hs : ∀ b, S b → Loose W h b) (hp : ∀ b, P b → b ∈ W.mt) : ThingAt C W h a vk vf vs → ThingAt C W' h' a vk vf vs := fun y => by
  obtain ⟨ox, d, od, z, c, n, e, z', r1, r2, r3⟩ := y
  exact ⟨ox, d, od, z.monoL l k hs hp, c, n, e, z'.monoL l k hs hp, r1, r2, r3⟩
theorem CloAt.monoL {C : Cx} {S P : Addr → Prop} {W W' : Wd} {h h' : Heap} {x : Str} {kk : CloT} {a : Addr} {cl : List (Str × Addr)} (l : W.Lv h W') (k : Keep S P h h') (hs : ∀ b, S b → Loose W h b) (hp : ∀ b, P b → b ∈ W.mt) : CloAt C W h x kk a cl → CloAt C W' h' x kk a cl := fun y => by
  obtain ⟨o, fd, c, oc, vs, t, z, e1, e1', e2, e3, e4, z', r1, r2, r3⟩ := y
  exact ⟨o, fd, c, oc, vs, t, z.monoL l k hs hp, e1, e1', e2, e3, e4, z'.monoL l k hs hp, r1, r2, r3⟩
theorem CellAt.monoL {S P : Addr → Prop} {W W' : Wd} {h h' : Heap} {c : Addr} {v : Value} (l : W.Lv h W') (k : Keep S P h h') (hs : ∀ b, S b → Loose W h b) (hp : ∀ b, P b → b ∈ W.mt) : CellAt W h c v → CellAt W' h' c v := fun y => w6 y fun o z r => w7 o (z.monoL l k hs hp) r
theorem DctAt.monoL {C : Cx} {S P : Addr → Prop} {W W' : Wd} {h h' : Heap} {a : Addr} {f : Str → Option Value} (l : W.Lv h W') (k : Keep S P h h') (hs : ∀ b, S b → Loose W h b) (hp : ∀ b, P b → b ∈ W.mt) : DctAt C W h a f → DctAt C W' h' a f := fun y => w6 y fun o z r => w7 o (z.monoL l k hs hp) r
theorem prefix_get {α : Type} {l l' : List α} (p : l <+: l') {i : Nat} {x : α} (e : l[i]? = some x) : l'[i]? = some x := by
  refine w5 p fun t zz1 => ?_
  clear p
  subst zz1
  have := (List.getElem?_eq_some_iff.mp e).1
  refine rwm (List.getElem?_append_left this) ?_; exact e
section
variable {C : Cx} {S P : Addr → Prop} {W W' : Wd} {h h' : Heap} (l : W.Lv h W') (k : Keep S P h h') (hs : ∀ b, S b → Loose W h b) (hp : ∀ b, P b → b ∈ W.mt)
include l k hs hp
theorem VR.monoL {d : V} {v : Value} (x : VR C W h d v) : VR C W' h' d v :=
  VR.rec (motive_1 := fun d v _ => VR C W' h' d v) (motive_2 := fun ds vs _ => VRs C W' h' ds vs) (motive_3 := fun cl r _ => Caps C W' h' cl r) (motive_4 := fun f r _ => VRd C W' h' f r)
    .none .bool .lit (fun t e => .sym t (prefix_get l.syms e)) .str (fun z c _ r => .tup (z.monoL l k hs hp) c r) (fun e => .lst (prefix_get l.adr e)) (fun z => .rng (z.monoL l k hs hp)) .con .any .fn (fun a b => .img (prefix_get l.adr a) (prefix_get l.adr b)) (fun t _ _ _ a b c => .thing (t.monoL l k hs hp) a b c) (fun c _ r => .clo (c.monoL l k hs hp) r) (fun t n e _ r => .dct (t.monoL l k hs hp) n e r)
    .nil (fun _ _ a b => .cons a b) .nil (fun e c _ _ a b => .cons e (c.monoL l k hs hp) a b) .nil (fun e _ _ a b => .cons e a b) x
theorem VRs.monoL {ds : List V} {vs : List Value} (x : VRs C W h ds vs) : VRs C W' h' ds vs := by
  exact VRs.ind .nil (fun a _ i => .cons (a.monoL l k hs hp) i) x
theorem Caps.monoL {cl : List (Str × Addr)} {r : List (Str × V)} (x : Caps C W h cl r) : Caps C W' h' cl r := by
  exact Caps.ind .nil (fun e c a _ i => .cons e (c.monoL l k hs hp) (a.monoL l k hs hp) i) x
theorem VRd.monoL {f : Str → Option Value} {r : List (Str × V)} (x : VRd C W h f r) : VRd C W' h' f r := by
  exact VRd.ind .nil (fun e a _ i => .cons e (a.monoL l k hs hp) i) x
end
section
variable {C : Cx} {S P : Addr → Prop} {W W' : Wd} {h h' : Heap} (l : W.Le h W') (k : Keep S P h h') (hs : ∀ b, S b → Loose W h b) (hp : ∀ b, P b → b ∈ W.mt)
include l k hs hp
theorem VR.mono {d : V} {v : Value} (x : VR C W h d v) : VR C W' h' d v := x.monoL l.lv k hs hp
theorem VRs.mono {d : List V} {v : List Value} (x : VRs C W h d v) : VRs C W' h' d v := x.monoL l.lv k hs hp
theorem Caps.mono {cl : List (Str × Addr)} {r : List (Str × V)} (x : Caps C W h cl r) : Caps C W' h' cl r := x.monoL l.lv k hs hp
theorem VRd.mono {f : Str → Option Value} {r : List (Str × V)} (x : VRd C W h f r) : VRd C W' h' f r := x.monoL l.lv k hs hp
end
theorem CloAt.mono {C : Cx} {S P : Addr → Prop} {W W' : Wd} {h h' : Heap} {x : Str} {kk : CloT} {a : Addr} {cl : List (Str × Addr)} (l : W.Le h W') (k : Keep S P h h') (hs : ∀ b, S b → Loose W h b) (hp : ∀ b, P b → b ∈ W.mt) (y : CloAt C W h x kk a cl) : CloAt C W' h' x kk a cl := y.monoL l.lv k hs hp
structure CloI where
  fn : Str
  code : Addr
  P : Addr
  pos : Pos
  qual : Str
structure Cy extends Cx where
  clos : List CloI
  tabsEq : tabs = clos.map (·.P)
  fnsEq : fns = clos.map (·.fn)
noncomputable def TabR (W : Wd) (h : Heap) (k : CloI) (ps : Array Value) : Prop :=
  ps = #[] ∨ ∃ c oc vs t, ps = #[rawInt k.pos.line, rawInt k.pos.col, .ref c] ∧ Fz W h c oc ∧ oc.data = .fields vs ∧ vs[1]? = some (.str k.qual t)
structure StR (C : Cy) (W : Wd) (σ : St) (s : Shared) : Prop where
  len : W.adr.length = σ.n
  nd : W.adr.Nodup
  sy : W.syms.length = σ.syms
  lst : ∀ i l, σ.tr.get i = some (.lst l) → ∃ a vs, W.adr[i]? = some a ∧ PlainL s.heap a vs.toArray ∧ VRs C.toCx W s.heap l vs ∧ l.length ≤ 1000
  lists : ∀ a, a ∈ W.adr → ∃ its, PlainL s.heap a its
  forge : ∀ i, σ.tr.get i = some .forge → ∃ a x y t u, W.adr[i]? = some a ∧ PlainL s.heap a #[.int x t, .int y u] ∧ 0 ≤ x ∧ 0 ≤ y ∧ y < 65293
  adr : ∀ a, a ∈ W.adr → a ∈ W.mt
  tabs : ∀ a, a ∈ C.tabs → a ∈ W.mt
  apart : ∀ a, a ∈ W.adr → a ∉ C.tabs
  tab : ∀ k, k ∈ C.clos → ∃ ps, s.heap.get? k.P = some (tabObj ps) ∧ TabR W s.heap k ps
  live : ∀ b, b ∈ W.mt → ∃ o, s.heap.get? b = some o
  ground : ∀ b o, C.h₀.get? b = some o → s.heap.get? b = some o
  fresh : ∀ b, b ∈ W.mt → C.h₀.get? b = none
  gens : s.gens = #[]
  os : s.os = C.os
noncomputable def stk (A : Around) (b : Addr) : Prop := ∃ l env, A.frames = some l ∧ env ∈ l ∧ env.frame = some b
noncomputable def Turn (C : Cy) (W : Wd) (own : List Addr) (b : Addr) : Prop := b ∈ W.adr ∨ b ∈ C.tabs ∨ b ∈ own
structure Go (C : Cy) (A : Around) (own : List Addr) (W : Wd) (s : Shared) (W' : Wd) (s' : Shared) : Prop where
  le : W.Le s.heap W'
  keep : Keep (Turn C W own) (stk A) s.heap s'.heap
  live : ∀ b o, s.heap.get? b = some o → ∃ o', s'.heap.get? b = some o'
  drawn : s'.drawn = s.drawn
structure FmR (C : Cy) (A : Around) (W : Wd) (h : Heap) : Prop where
  has : ∃ l, A.frames = some l
  each : ∀ l env, A.frames = some l → env ∈ l → env.scope.kind = .function ∧ ∃ L m, env.frame = some L ∧ h.Ns L m ∧ L ∈ W.mt ∧ L ∉ W.adr ∧ L ∉ C.tabs
structure FrR (C : Cy) (A : Around) (W : Wd) (env : Env) (own : List Addr) (ρ : Fr) (h : Heap) : Prop where
  fm : FmR C A W h
  kind : env.scope.kind = .function
  glob : env.globals = mainGlobals
  blt : env.builtins = builtinsNs
  frame : ∃ l, A.frames = some l ∧ ∃ e ∈ l, env.frame = e.frame
  code : ∀ k, k ∈ C.clos → k.fn = ρ.fn → env.code = .ref k.code ∧ env.qual = ρ.fn ++ ".<locals>."
  ownMt : ∀ b, b ∈ own → b ∈ W.mt
  ownAp : ∀ b, b ∈ own → b ∉ W.adr ∧ b ∉ C.tabs
  ownStk : ∀ b, b ∈ own → stk A b → b = env.locals
  L : env.locals ∈ own
  nmG : ∀ x, ρ.names.lookup x = some .globalImplicit → env.kindOf x = some .globalImplicit
  nmL : ∀ x, ρ.names.lookup x = some .local ↔ env.kindOf x = some .local
  nmC : ∀ x, ρ.names.lookup x = some .cell → x ∉ ρ.pars → env.kindOf x = some .cell ∧ ∃ c ov, env.cells.lookup x = some c ∧ c ∈ own ∧ h.IsCell c ov
  ns : ∃ m, h.Ns env.locals m ∧ ∀ x v, look x ρ.vars = some v → env.kindOf x = some .local → ∃ v', m x = some v' ∧ VR C.toCx W h v v'
  cells : ∀ x v, look x ρ.vars = some v → env.kindOf x ≠ some .local → (env.kindOf x = some .cell ∨ env.kindOf x = some .free) ∧ ∃ c v', env.cells.lookup x = some c ∧ h.IsCell c (some v') ∧ VR C.toCx W h v v' ∧
    (x ∈ ρ.pars → c ∉ W.mt)
  apart : env.cells.Pairwise fun x y => x.2 ≠ y.2
structure Room (A : Around) (n : Nat) : Prop where
  handled : A.handled = none
  depth : A.depth + n < 1000
  units : A.units + 8 * n + 128 < 9900
theorem Room.less {A : Around} {n m : Nat} (r : Room A n) (h : m ≤ n) : Room A m := ⟨r.handled, by have := r.depth; omega, by have := r.units; omega⟩
theorem Room.deeper {A : Around} {n : Nat} (r : Room A (n + 1)) (env : Env) : Room (A.deeper env) n :=
  ⟨r.handled, by have := r.depth; refine (?_ : A.depth + 1 + n < 1000); omega, by have := r.units; refine (?_ : A.units + 3 + 8 * n + 128 < 9900); omega⟩
section
variable {C : Cy} {A : Around} {own : List Addr} {W W' W₁ : Wd} {s s' s₁ : Shared} {σ σ' : St} {env : Env} {ρ : Fr}
theorem Turn.mt (R : StR C W σ s) (ho : ∀ b, b ∈ own → b ∈ W.mt) {b : Addr} (t : Turn C W own b) : b ∈ W.mt := by
  rcases t with t | t | t
  · exact R.adr b t
  · exact R.tabs b t
  · exact ho b t
theorem FmR.onStk {h : Heap} (F : FmR C A W h) {b : Addr} (t : stk A b) : b ∈ W.mt ∧ b ∉ W.adr ∧ b ∉ C.tabs := by
  refine x6 t fun l env hl he hf => ?_
  clear t
  refine Z7 (F.each l env hl he) fun _ L m hf' _ m1 m2 m3 => ?_
  rw [hf] at hf'; (revert hf'; refine sm_r fun zz => ?_; subst zz)
  exact ⟨m1, m2, m3⟩
theorem Go.refl (C : Cy) (A : Around) (own : List Addr) (W : Wd) (s : Shared) : Go C A own W s W s := ⟨.refl _ _, .refl _ _ _, fun _ o e => ⟨o, e⟩, rfl⟩
theorem Go.trans (x : Go C A own W s W₁ s₁) (y : Go C A own W₁ s₁ W' s') : Go C A own W s W' s' := by
  refine ⟨x.le.trans y.le x.live, x.keep.trans y.keep (fun b o e t => ?_) (fun _ _ _ p => p), fun b o e => ?_, y.drawn.trans x.drawn⟩
  · rcases t with t | t | t
    · rcases x.le.newAdr b t with m | n
      · exact .inl m
      · rw [n] at e; exact nsx e
    · exact .inr (.inl t)
    · exact .inr (.inr t)
  · refine w5 (x.live b o e) fun o₁ e₁ => ?_
    exact y.live b o₁ e₁
theorem Go.weak {own' : List Addr} (x : Go C A own W s W' s') (h : ∀ b, b ∈ own → b ∈ own') : Go C A own' W s W' s' :=
  ⟨x.le, x.keep.weak (fun _ t => t.imp id fun t => t.imp id (h _)) (fun _ p => p), x.live, x.drawn⟩
theorem Go.weak0 (x : Go C A [] W s W' s') : Go C A own W s W' s' := x.weak fun _ m => nomatch m
theorem Go.vr (x : Go C A own W s W' s') (R : StR C W σ s) (F : FmR C A W s.heap) (ho : ∀ b, b ∈ own → b ∈ W.mt) {d : V} {v : Value} (r : VR C.toCx W s.heap d v) : VR C.toCx W' s'.heap d v :=
  r.mono x.le x.keep (fun _ t => .inl (Turn.mt R ho t)) (fun _ t => (F.onStk t).1)
theorem Go.vrs (x : Go C A own W s W' s') (R : StR C W σ s) (F : FmR C A W s.heap) (ho : ∀ b, b ∈ own → b ∈ W.mt) {d : List V} {v : List Value} (r : VRs C.toCx W s.heap d v) : VRs C.toCx W' s'.heap d v :=
  r.mono x.le x.keep (fun _ t => .inl (Turn.mt R ho t)) (fun _ t => (F.onStk t).1)
theorem Wd.Le.notAdr {h : Heap} (l : W.Le h W') {b : Addr} {o : Obj} (e : h.get? b = some o) (n : b ∉ W.adr) : b ∉ W'.adr := by
  intro m
  rcases l.newAdr b m with q | q
  · exact n q
  · rw [e] at q; exact snx q
theorem Wd.Le.notMt {h : Heap} (l : W.Le h W') {b : Addr} {o : Obj} (e : h.get? b = some o) (n : b ∉ W.mt) : b ∉ W'.mt := by
  intro m
  rcases l.new b m with q | q
  · exact n q
  · rw [e] at q; exact snx q
theorem FmR.mono (F : FmR C A W s.heap) (x : Go C A own W s W' s') (hn : ∀ b, b ∈ own → stk A b → ∃ m, s'.heap.Ns b m) : FmR C A W' s'.heap := by
  refine ⟨F.has, fun l env hl he => ?_⟩
  refine Z7 (F.each l env hl he) fun k L m hf hm m1 m2 m3 => ?_
  refine y9 (id hm) fun o _ _ e _ => ?_
  refine (X8 k L ?_)
  by_cases q : L ∈ own
  · refine w5 (hn L q (y7 l env hl he hf)) fun m' hm' => ?_
    exact (Z5 m' hf hm' (x.le.mt L m1) (x.le.notAdr e m2) m3)
  · refine (Z5 m hf (x.keep.ns hm ?_) (x.le.mt L m1) (x.le.notAdr e m2) m3)
    rintro (t | t | t)
    · exact m2 t
    · exact m3 t
    · exact q t
theorem FmR.mono0 (F : FmR C A W s.heap) (x : Go C A [] W s W' s') : FmR C A W' s'.heap := F.mono x fun _ m => nomatch m
theorem StR.notCell_adr (R : StR C W σ s) {c : Addr} (m : c ∈ W.adr) {v : Option Value} (hc : s.heap.IsCell c v) : False := by
  refine w6 hc fun o e hd => ?_
  clear hc
  refine W6 (R.lists c m) fun its o' n e' _ _ d => ?_
  rw [e] at e'; (revert e'; refine sm_r fun zz => ?_; subst zz)
  rw [hd] at d; exact (nomatch d)
theorem StR.notCell_tab (R : StR C W σ s) {c : Addr} (m : c ∈ C.tabs) {v : Option Value} (hc : s.heap.IsCell c v) : False := by
  refine w6 hc fun o e hd => ?_
  clear hc
  rw [C.tabsEq] at m
  refine w6 (List.mem_map.mp m) fun k hk zz1 => ?_
  clear m
  subst zz1
  refine w6 (R.tab k hk) fun ps e' _ => ?_
  rw [e] at e'; clear e; (revert e'; refine sm_r fun zz => ?_; subst zz)
  exact (nomatch hd)
theorem isCell_lt {h : Heap} {c : Addr} {v : Option Value} (x : h.IsCell c v) : ∃ o, h.get? c = some o := ⟨_, x.choose_spec.1⟩
theorem FrR.mono (F : FrR C A W env own ρ s.heap) (R : StR C W σ s) (x : Go C A [] W s W' s') : FrR C A W' env own ρ s'.heap := by
  have fm := F.fm.mono0 x
  have notT : ∀ b, b ∈ own → ¬ Turn C W [] b := by
    intro b m t
    rcases t with t | t | t
    · exact (F.ownAp b m).1 t
    · exact (F.ownAp b m).2 t
    · exact nomatch t
  have vr := fun {d v} => x.vr R F.fm (fun _ m => nomatch m) (d := d) (v := v)
  have cellT : ∀ c v, s.heap.IsCell c v → ¬ Turn C W [] c := by
    intro c v hc t
    rcases t with t | t | t
    · exact R.notCell_adr t hc
    · exact R.notCell_tab t hc
    · exact nomatch t
  refine ⟨fm, F.kind, F.glob, F.blt, F.frame, F.code, fun b m => x.le.mt b (F.ownMt b m), fun b m => ?_, F.ownStk, F.L, F.nmG, F.nmL, fun y hy hp => ?_, ?_, fun y v hv hk => ?_, F.apart⟩
  · refine w5 (R.live b (F.ownMt b m)) fun o e => ?_
    exact ⟨x.le.notAdr e (F.ownAp b m).1, (F.ownAp b m).2⟩
  · refine z0 (F.nmC y hy hp) fun k c ov h1 h2 h3 => ?_
    exact (W1 k c ov h1 h2 (x.keep.cell h3 (notT c h2)))
  · refine w6 (F.ns) fun m hm hv => ?_
    refine (w7 m (x.keep.ns hm (notT _ F.L)) (fun y v e k => ?_))
    refine w6 (hv y v e k) fun v' e' r => ?_
    exact (w7 v' e' (vr r))
  · refine X4 (F.cells y v hv hk) fun k c v' h1 h2 h3 h4 => ?_
    refine (W7 k c v' h1 (x.keep.cell h2 (cellT _ _ h2)) (vr h3) (fun p => ?_))
    refine w5 (isCell_lt h2) fun o e => ?_
    exact x.le.notMt e (h4 p)
theorem StR.move {S P : Addr → Prop} {h' : Heap} {tk : Nat} (R : StR C W σ s) (l : W.Le s.heap W') (hadr : W'.adr = W.adr) (hsy : W'.syms = W.syms) (k : Keep S P s.heap h')
    (hs : ∀ b, S b → Loose W s.heap b ∧ b ∉ W.adr ∧ b ∉ C.tabs ∧ C.h₀.get? b = none) (hp : ∀ b, P b → b ∈ W.mt ∧ b ∉ W.adr ∧ b ∉ C.tabs)
    (hl : ∀ b, b ∈ W'.mt → (b ∈ W.mt ∧ ¬ S b) ∨ ∃ o', h'.get? b = some o') : StR C W' σ { s with heap := h', toks := tk } := by
  have vrs : ∀ {ds : List V} {vs : List Value}, VRs C.toCx W s.heap ds vs → VRs C.toCx W' h' ds vs := fun r => r.mono l k (fun b t => (hs b t).1) (fun b t => (hp b t).1)
  have plain : ∀ {a its}, a ∈ W.adr → PlainL s.heap a its → PlainL h' a its := by
    intro a its m ⟨o, n, e, c, d, q⟩
    rcases k a o e fun t => (hs a t).2.1 m with e' | ⟨p, _⟩
    · exact (y8 o n e' c d q)
    · exact absurd m (hp a p).2.1
  refine ⟨hadr ▸ R.len, hadr ▸ R.nd, hsy ▸ R.sy, fun i l' e => ?_, fun a m => ?_, fun i e => ?_, fun a m => l.mt a (R.adr a (hadr ▸ m)), fun a m => l.mt a (R.tabs a m), fun a m => R.apart a (hadr ▸ m), fun c m => ?_, fun b m => ?_, fun b o e => ?_, fun b m => ?_, R.gens, R.os⟩
  · refine x8 (R.lst i l' e) fun a vs h1 h2 h3 h4 => ?_
    exact (y8 a vs (hadr ▸ h1) (plain (List.mem_of_getElem? h1) h2) (vrs h3) h4)
  · refine w5 (R.lists a (hadr ▸ m)) fun its p => ?_
    exact ⟨its, plain (hadr ▸ m) p⟩
  · refine Y8 (R.forge i e) fun a x y t u h1 h2 h3 => ?_
    exact (Y7 a x y t u (hadr ▸ h1) (plain (List.mem_of_getElem? h1) h2) h3)
  · refine w6 (R.tab c m) fun ps e t => ?_
    have hc : c.P ∈ C.tabs := by refine rwm (C.tabsEq) ?_; exact List.mem_map_of_mem m
    refine (w7 ps ?_ ?_)
    · rcases k _ _ e fun t => (hs _ t).2.2.1 hc with e' | ⟨p, _⟩
      · exact e'
      · exact absurd hc (hp _ p).2.2
    · rcases t with t | ⟨cc, oc, vs, t, h1, h2, h3⟩
      · exact .inl t
      · exact .inr (X6 cc oc vs t h1 (h2.mono l k (fun b t => (hs b t).1) (fun b t => (hp b t).1)) h3)
  · rcases hl b m with ⟨q, n⟩ | q
    · refine w5 (R.live b q) fun o e => ?_
      exact k.there e n
    · exact q
  · have e' := R.ground b o e
    rcases k b o e' fun t => (by rw [(hs b t).2.2.2] at e; exact nsx e) with q | ⟨p, _⟩
    · exact q
    · rw [R.fresh b (hp b p).1] at e; exact nsx e
  · rcases l.new b m with q | q
    · exact R.fresh b q
    · induction z : C.h₀.get? b using Option.casesOn with
      | none => rfl
      | some o => rw [R.ground b o z] at q; exact snx q
theorem StR.grow {h' : Heap} {tk : Nat} (R : StR C W σ s) (k : ∀ b o, s.heap.get? b = some o → h'.get? b = some o) : StR C W σ { s with heap := h', toks := tk } :=
  R.move (S := fun _ => False) (P := fun _ => False) (.refl _ _) rfl rfl (.of _ _ fun b o e _ => k b o e) (fun _ t => t.elim) (fun _ t => t.elim) (fun _ m => .inl ⟨m, id⟩)
theorem Go.grow {h' : Heap} {tk : Nat} (k : ∀ b o, s.heap.get? b = some o → h'.get? b = some o) : Go C A own W s W { s with heap := h', toks := tk } :=
  ⟨.refl _ _, .of _ _ fun b o e _ => k b o e, fun b o e => ⟨o, k b o e⟩, rfl⟩
theorem push_keeps (h : Heap) (o : Obj) : ∀ b x, h.get? b = some x → (h.push o).get? b = some x := fun _ _ e => Heap.get?_push_of_some _ e
theorem StR.fz_push (R : StR C W σ s) {o : Obj} (hf : o.isFreed = false) (hi : isIter o = false) : Fz W (s.heap.push o) s.heap.objs.size o := by
  refine ⟨Heap.get?_push_size _ hf, fun m => ?_, hi⟩
  refine w5 (R.live _ m) fun o' e => ?_
  exact absurd (Heap.lt_size e) (Nat.lt_irrefl _)
theorem StR.tok (R : StR C W σ s) (tk : Nat) : StR C W σ { s with toks := tk } := R.grow (h' := s.heap) fun _ _ e => e
theorem Go.tok (tk : Nat) : Go C A own W s W { s with toks := tk } := Go.grow (h' := s.heap) fun _ _ e => e
noncomputable def depthOf : Nat := 40
theorem beq_dec (a b : Nat) : Nat.beq a b = decide (a = b) := by
  by_cases h : a = b
  · subst h; simp
  · refine rwm (decide_eq_false h) ?_
    induction q : Nat.beq a b using Bool.casesOn with
    | false => rfl
    | true => exact absurd (Nat.eq_of_beq_eq_true q) h
theorem Tr.get_node (v : Option Cell) (l r : Tr) (i : Nat) : (Tr.node v l r).get i = if i = 0 then v else if i % 2 = 1 then l.get (i / 2) else r.get (i / 2 - 1) := by
  refine (?_ : (match Nat.beq i 0 with | true => v | false => match Nat.beq (i % 2) 1 with | true => l.get (i / 2) | false => r.get (i / 2 - 1)) = _)
  (refine rwm (beq_dec ..) ?_; refine rwm (beq_dec ..) ?_)
  by_cases h : i = 0
  · simp [h]
  · by_cases q : i % 2 = 1 <;> simp [h, q]
theorem Tr.get_nil (i : Nat) : Tr.nil.get i = none := rfl
theorem Tr.set_node (c : Cell) (k : Nat) (v : Option Cell) (l r : Tr) (i : Nat) :
    Tr.set c (k + 1) (.node v l r) i = if i = 0 then .node (some c) l r else if i % 2 = 1 then .node v (Tr.set c k l (i / 2)) r else .node v l (Tr.set c k r (i / 2 - 1)) := by
  refine (?_ : (match Nat.beq i 0 with | true => Tr.node (some c) l r | false => match Nat.beq (i % 2) 1 with | true => .node v (Tr.set c k l (i / 2)) r | false => .node v l (Tr.set c k r (i / 2 - 1))) = _)
  (refine rwm (beq_dec ..) ?_; refine rwm (beq_dec ..) ?_)
  by_cases h : i = 0
  · simp [h]
  · by_cases q : i % 2 = 1 <;> simp [h, q]
theorem Tr.set_nil (c : Cell) (k : Nat) (i : Nat) :
    Tr.set c (k + 1) .nil i = if i = 0 then .node (some c) .nil .nil else if i % 2 = 1 then .node none (Tr.set c k .nil (i / 2)) .nil else .node none .nil (Tr.set c k .nil (i / 2 - 1)) := by
  refine (?_ : (match Nat.beq i 0 with | true => Tr.node (some c) .nil .nil | false => match Nat.beq (i % 2) 1 with | true => .node none (Tr.set c k .nil (i / 2)) .nil | false => .node none .nil (Tr.set c k .nil (i / 2 - 1))) = _)
  (refine rwm (beq_dec ..) ?_; refine rwm (beq_dec ..) ?_)
  by_cases h : i = 0
  · simp [h]
  · by_cases q : i % 2 = 1 <;> simp [h, q]
theorem half_odd {i j : Nat} (p : i % 2 = 1) (q : j % 2 = 1) (h : j ≠ i) : j / 2 ≠ i / 2 := fun e => h (by rw [← Nat.div_add_mod j 2, ← Nat.div_add_mod i 2, e, p, q])
theorem even_two {i : Nat} (p : ¬ i % 2 = 1) : 2 * (i / 2) = i := by
  have := Nat.div_add_mod i 2
  rwa [(Nat.mod_two_eq_zero_or_one i).resolve_right p] at this
theorem half_pos {i : Nat} (p : ¬ i % 2 = 1) (i0 : ¬ i = 0) : 0 < i / 2 := Nat.pos_of_ne_zero fun z => i0 ((even_two p).symm.trans (congrArg (2 * ·) z))
theorem half_even {i j : Nat} (p : ¬ i % 2 = 1) (q : ¬ j % 2 = 1) (i0 : ¬ i = 0) (j0 : ¬ j = 0) (h : j ≠ i) : j / 2 - 1 ≠ i / 2 - 1 := fun e =>
  h ((even_two q).symm.trans ((congrArg (2 * ·) (Nat.sub_one_cancel (half_pos q j0) (half_pos p i0) e)).trans (even_two p)))
theorem Tr.get_set_ne (c : Cell) : ∀ (k : Nat) (t : Tr) (i j : Nat), j ≠ i → (Tr.set c k t i).get j = t.get j
  | 0, _, _, _, _ => rfl
  | k + 1, .nil, i, j, h => by
    refine rwm (set_nil ..) ?_
    by_cases h0 : i = 0
    · subst h0
      (refine rwm (if_pos rfl) ?_; refine rwm (get_node ..) ?_; refine rwm (if_neg h) ?_; rewrite [get_nil])
      by_cases q : j % 2 = 1
      · refine rwm (if_pos q) ?_; rfl
      · refine rwm (if_neg q) ?_; rfl
    · refine rwm (if_neg h0) ?_
      by_cases p : i % 2 = 1
      · (refine rwm (if_pos p) ?_; refine rwm (get_node ..) ?_; rewrite [get_nil])
        by_cases j0 : j = 0
        · refine rwm (if_pos j0) ?_; rfl
        · refine rwm (if_neg j0) ?_
          by_cases q : j % 2 = 1
          · (refine rwm (if_pos q) ?_; refine rwm (get_set_ne c k .nil (i / 2) (j / 2) (half_odd p q h)) ?_); rfl
          · refine rwm (if_neg q) ?_; rfl
      · (refine rwm (if_neg p) ?_; refine rwm (get_node ..) ?_; rewrite [get_nil])
        by_cases j0 : j = 0
        · refine rwm (if_pos j0) ?_; rfl
        · refine rwm (if_neg j0) ?_
          by_cases q : j % 2 = 1
          · refine rwm (if_pos q) ?_; rfl
          · (refine rwm (if_neg q) ?_; refine rwm (get_set_ne c k .nil (i / 2 - 1) (j / 2 - 1) (half_even p q h0 j0 h)) ?_); rfl
  | k + 1, .node v l r, i, j, h => by
    refine rwm (set_node ..) ?_
    by_cases h0 : i = 0
    · subst h0
      (refine rwm (if_pos rfl) ?_; refine rwm (get_node ..) ?_; refine rwm (get_node ..) ?_; refine rwm (if_neg h) ?_; exact rwm (if_neg h) rfl)
    · refine rwm (if_neg h0) ?_
      by_cases p : i % 2 = 1
      · (refine rwm (if_pos p) ?_; refine rwm (get_node ..) ?_; refine rwm (get_node ..) ?_)
        by_cases j0 : j = 0
        · (refine rwm (if_pos j0) ?_; exact rwm (if_pos j0) rfl)
        · (refine rwm (if_neg j0) ?_; refine rwm (if_neg j0) ?_)
          by_cases q : j % 2 = 1
          · (refine rwm (if_pos q) ?_; refine rwm (if_pos q) ?_; exact rwm (get_set_ne c k l (i / 2) (j / 2) (half_odd p q h)) rfl)
          · (refine rwm (if_neg q) ?_; exact rwm (if_neg q) rfl)
      · (refine rwm (if_neg p) ?_; refine rwm (get_node ..) ?_; refine rwm (get_node ..) ?_)
        by_cases j0 : j = 0
        · (refine rwm (if_pos j0) ?_; exact rwm (if_pos j0) rfl)
        · (refine rwm (if_neg j0) ?_; refine rwm (if_neg j0) ?_)
          by_cases q : j % 2 = 1
          · (refine rwm (if_pos q) ?_; exact rwm (if_pos q) rfl)
          · (refine rwm (if_neg q) ?_; refine rwm (if_neg q) ?_; exact rwm (get_set_ne c k r (i / 2 - 1) (j / 2 - 1) (half_even p q h0 j0 h)) rfl)
theorem Tr.get_set (c : Cell) : ∀ (k : Nat) (t : Tr) (i : Nat), i + 1 < 2 ^ k → (Tr.set c k t i).get i = some c
  | 0, _, i, h => by simp at h
  | k + 1, .nil, i, h => by
    refine rwm (set_nil ..) ?_
    have hk : 2 ^ (k + 1) = 2 * 2 ^ k := by (refine rwm (Nat.pow_succ ..) ?_; rw [Nat.mul_comm])
    by_cases h0 : i = 0
    · clear h
      subst h0; (refine rwm (if_pos rfl) ?_; refine rwm (get_node ..) ?_; exact rwm (if_pos rfl) rfl)
    · refine rwm (if_neg h0) ?_
      by_cases p : i % 2 = 1
      · (refine rwm (if_pos p) ?_; refine rwm (get_node ..) ?_; refine rwm (if_neg h0) ?_; refine rwm (if_pos p) ?_)
        exact get_set c k .nil (i / 2) (by omega)
      · (refine rwm (if_neg p) ?_; refine rwm (get_node ..) ?_; refine rwm (if_neg h0) ?_; refine rwm (if_neg p) ?_)
        exact get_set c k .nil (i / 2 - 1) (by omega)
  | k + 1, .node v l r, i, h => by
    refine rwm (set_node ..) ?_
    have hk : 2 ^ (k + 1) = 2 * 2 ^ k := by (refine rwm (Nat.pow_succ ..) ?_; rw [Nat.mul_comm])
    by_cases h0 : i = 0
    · clear h
      subst h0; (refine rwm (if_pos rfl) ?_; refine rwm (get_node ..) ?_; exact rwm (if_pos rfl) rfl)
    · refine rwm (if_neg h0) ?_
      by_cases p : i % 2 = 1
      · (refine rwm (if_pos p) ?_; refine rwm (get_node ..) ?_; refine rwm (if_neg h0) ?_; refine rwm (if_pos p) ?_)
        exact get_set c k l (i / 2) (by omega)
      · (refine rwm (if_neg p) ?_; refine rwm (get_node ..) ?_; refine rwm (if_neg h0) ?_; refine rwm (if_neg p) ?_)
        exact get_set c k r (i / 2 - 1) (by omega)
theorem VRs.length {h : Heap} {ds : List V} {vs : List Value} (x : VRs C.toCx W h ds vs) : vs.length = ds.length :=
  VRs.ind (motive := fun ds vs => vs.length = ds.length) rfl (fun _ _ ih => congrArg Nat.succ ih) x
theorem nodup_idx {α : Type} : ∀ {l : List α}, l.Nodup → ∀ {i j : Nat} {x : α}, l[i]? = some x → l[j]? = some x → i = j
  | [], _, i, _, _, e, _ => by simp at e
  | y :: l, h, i, j, x, e, e' => by
    refine w8 (List.nodup_cons.mp h) fun h1 h2 => ?_
    induction i using Nat.casesAuxOn with
    | zero =>
      induction j using Nat.casesAuxOn with
      | zero => rfl
      | succ j => simp at e e'; subst e; exact absurd (List.mem_of_getElem? e') h1
    | succ i =>
      induction j using Nat.casesAuxOn with
      | zero => simp at e e'; subst e'; exact absurd (List.mem_of_getElem? e) h1
      | succ j => simp at e e'; exact rwm (nodup_idx h2 e e') rfl
theorem list_some {i : Nat} {l : List V} (e : σ.list i = some l) : σ.tr.get i = some (.lst l) := by
  unfold St.list at e
  split at e
  · rename_i q; cases e; exact q
  · exact nsx e
theorem StR.put {i : Nat} {l : List V} {a : Addr} {h' : Heap} {tk : Nat} {vs : List Value} (R : StR C W σ s) (hi : i < 1000000) (ha : W.adr[i]? = some a) (hs : Heap.SameBut a s.heap h') (hp : PlainL h' a vs.toArray)
    (hv : VRs C.toCx W s.heap l vs) (hl : l.length ≤ 1000) : StR C W { σ with tr := Tr.set (.lst l) 40 σ.tr i } { s with heap := h', toks := tk } := by
  have ma : a ∈ W.adr := List.mem_of_getElem? ha
  have k : Keep (· = a) (fun _ => False) s.heap h' := .of _ _ fun b o e n => (hs.2 b n).trans e
  have vrs : ∀ {ds : List V} {vs : List Value}, VRs C.toCx W s.heap ds vs → VRs C.toCx W h' ds vs := fun r => r.mono (.refl _ _) k (fun b t => .inl (by clear ha hp hs k; subst t; exact R.adr _ ma)) (fun b t => t.elim)
  have ne : ∀ b, b ∈ C.tabs → b ≠ a := fun b m e => R.apart a ma (e ▸ m)
  have self : (Tr.set (.lst l) 40 σ.tr i).get i = some (.lst l) := Tr.get_set _ 40 _ _ (Nat.lt_trans (Nat.succ_lt_succ (by assumption)) (by decide))
  have plain : ∀ {b its}, b ≠ a → PlainL s.heap b its → PlainL h' b its := fun n ⟨o, m, e, r⟩ => (x9 o m ((hs.2 _ n).trans e) r)
  have idx : ∀ {j b}, W.adr[j]? = some b → j ≠ i → b ≠ a := by
    intro j b e n q
    clear hp hs k ma ne plain
    subst q
    exact n (nodup_idx R.nd e ha)
  refine ⟨R.len, R.nd, R.sy, fun j l' e => ?_, fun b m => ?_, fun j e => ?_, R.adr, R.tabs, R.apart, fun c m => ?_, fun b m => ?_, fun b o e => ?_, R.fresh, R.gens, R.os⟩
  · by_cases q : j = i
    · clear hi idx
      subst q
      rw [self] at e; cases e
      exact (y8 a vs ha hp (vrs hv) hl)
    · rw [Tr.get_set_ne _ _ _ _ _ q] at e
      refine x8 (R.lst j l' e) fun b ws h1 h2 h3 h4 => ?_
      exact (y8 b ws h1 (plain (idx h1 q) h2) (vrs h3) h4)
  · by_cases q : b = a
    · clear ha hs idx k ma ne plain
      subst q; exact ⟨_, hp⟩
    · refine w5 (R.lists b m) fun its p => ?_
      exact ⟨its, plain q p⟩
  · by_cases q : j = i
    · clear ha hi idx
      subst q; rw [self] at e; exact (nomatch e)
    · rw [Tr.get_set_ne _ _ _ _ _ q] at e
      refine Y8 (R.forge j e) fun b x y t u h1 h2 h3 => ?_
      exact (Y7 b x y t u h1 (plain (idx h1 q) h2) h3)
  · refine w6 (R.tab c m) fun ps e t => ?_
    have hc : c.P ∈ C.tabs := by refine rwm (C.tabsEq) ?_; exact List.mem_map_of_mem m
    refine (w7 ps ((hs.2 _ (ne _ hc)).trans e) ?_)
    rcases t with t | ⟨cc, oc, ws, t, h1, h2, h3⟩
    · exact .inl t
    · exact .inr (X6 cc oc ws t h1 (h2.mono (.refl _ _) k (fun b t => .inl (by clear ha hp hs idx k ne plain; subst t; exact R.adr _ ma)) (fun b t => t.elim)) h3)
  · by_cases q : b = a
    · clear ha hs idx k ma ne plain
      subst q; (refine x5 hp fun o _ e _ => ?_; clear hp); exact ⟨o, e⟩
    · refine w5 (R.live b m) fun o e => ?_
      exact ⟨o, (hs.2 _ q).trans e⟩
  · have e' := R.ground b o e
    refine (hs.2 b fun q => ?_).trans e'
    clear ha hp hs idx k ne plain
    subst q
    rw [R.fresh b (R.adr b ma)] at e; exact nsx e
theorem Go.put {i : Nat} {a : Addr} {h' : Heap} {tk : Nat} {its : Array Value} (ha : W.adr[i]? = some a) (hs : Heap.SameBut a s.heap h') (hp : PlainL h' a its) : Go C A own W s W { s with heap := h', toks := tk } := by
  refine ⟨.refl _ _, .of _ _ fun b o e n => (hs.2 b fun q => n (.inl (by clear hp hs; subst q; exact List.mem_of_getElem? ha))).trans e, fun b o e => ?_, rfl⟩
  by_cases q : b = a
  · clear ha hs
    subst q; (refine x5 hp fun o _ e _ => ?_; clear hp); exact ⟨o, e⟩
  · exact ⟨o, (hs.2 _ q).trans e⟩
theorem StR.new {l : List V} {h' : Heap} {tk : Nat} {vs : List Value} {a : Addr} (R : StR C W σ s) (hn : σ.n < 1000000) (k : ∀ b o, s.heap.get? b = some o → h'.get? b = some o) (hf : s.heap.get? a = none) (hp : PlainL h' a vs.toArray)
    (hv : VRs C.toCx W s.heap l vs) (hl : l.length ≤ 1000) :
    StR C ⟨W.adr ++ [a], W.syms, a :: W.mt⟩ (σ.new l).2 { s with heap := h', toks := tk } := by
  have fm : a ∉ W.mt := fun m => by refine w5 (R.live a m) fun o e => ?_; rw [hf] at e; exact nsx e
  have le : W.Le s.heap ⟨W.adr ++ [a], W.syms, a :: W.mt⟩ := ⟨List.prefix_append _ _, List.prefix_refl _, fun b m => .tail _ m, fun b m => by
    rcases mc m with rfl | m
    · exact .inr hf
    · exact .inl m, fun b m => by
    rcases List.mem_append.mp m with m | m
    · exact .inl m
    · refine rwm (List.mem_singleton.mp m) ?_; exact .inr hf⟩
  have kk : Keep (fun _ => False) (fun _ => False) s.heap h' := .of _ _ fun b o e _ => k b o e
  have vrs : ∀ {ds : List V} {vs : List Value}, VRs C.toCx W s.heap ds vs → VRs C.toCx ⟨W.adr ++ [a], W.syms, a :: W.mt⟩ h' ds vs := fun r => r.mono le kk (fun _ t => t.elim) (fun _ t => t.elim)
  have plain : ∀ {b its}, PlainL s.heap b its → PlainL h' b its := fun ⟨o, m, e, r⟩ => (x9 o m (k _ _ e) r)
  have an : a ∉ W.adr := fun m => fm (R.adr a m)
  have at' : C.h₀.get? a = none := by
    induction z : C.h₀.get? a using Option.casesOn with
    | none => rfl
    | some o => rw [R.ground a o z] at hf; exact snx hf
  have old : ∀ {j b}, W.adr[j]? = some b → (W.adr ++ [a])[j]? = some b := fun e => prefix_get (List.prefix_append _ _) e
  have self : (Tr.set (.lst l) 40 σ.tr σ.n).get σ.n = some (.lst l) := Tr.get_set _ 40 _ _ (Nat.lt_trans (Nat.succ_lt_succ (by assumption)) (by decide))
  refine ⟨by simp [St.new, R.len], ?_, R.sy, fun j l' e => ?_, fun b m => ?_, fun j e => ?_, fun b m => ?_, fun b m => .tail _ (R.tabs b m), fun b m => ?_, fun c m => ?_, fun b m => ?_, fun b o e => k _ _ (R.ground b o e), fun b m => ?_, R.gens, R.os⟩
  · refine List.nodup_append.mpr ⟨R.nd, by simp, fun x hx y hy => ?_⟩
    refine rwm (List.mem_singleton.mp hy) ?_; intro q; clear at' fm hf hp hy le old vrs; subst q; exact an hx
  · by_cases q : j = σ.n
    · subst q
      have e : (Tr.set (.lst l) 40 σ.tr σ.n).get σ.n = some (.lst l') := e
      rw [self] at e; cases e
      refine (y8 a vs ?_ hp (vrs hv) hl)
      (refine rwl (R.len) ?_; refine rwm (List.getElem?_append_right (Nat.le_refl _)) ?_; refine rwm (Nat.sub_self ..) ?_); rfl
    · have e : (Tr.set (.lst l) 40 σ.tr σ.n).get j = some (.lst l') := e
      rw [Tr.get_set_ne _ _ _ _ _ q] at e
      refine x8 (R.lst j l' e) fun b ws h1 h2 h3 h4 => ?_
      exact (y8 b ws (old h1) (plain h2) (vrs h3) h4)
  · rcases List.mem_append.mp m with m | m
    · refine w5 (R.lists b m) fun its p => ?_
      exact ⟨its, plain p⟩
    · refine rwm (List.mem_singleton.mp m) ?_; exact ⟨_, hp⟩
  · have e : (Tr.set (.lst l) 40 σ.tr σ.n).get j = some .forge := e
    by_cases q : j = σ.n
    · subst q; rw [self] at e; exact (nomatch e)
    · rw [Tr.get_set_ne _ _ _ _ _ q] at e
      refine Y8 (R.forge j e) fun b x y t u h1 h2 h3 => ?_
      exact (Y7 b x y t u (old h1) (plain h2) h3)
  · rcases List.mem_append.mp m with m | m
    · exact .tail _ (R.adr b m)
    · refine rwm (List.mem_singleton.mp m) ?_; exact .head _
  · rcases List.mem_append.mp m with m | m
    · exact R.apart b m
    · refine rwm (List.mem_singleton.mp m) ?_; exact fun t => fm (R.tabs a t)
  · refine w6 (R.tab c m) fun ps e t => ?_
    refine (w7 ps (k _ _ e) ?_)
    rcases t with t | ⟨cc, oc, ws, t, h1, h2, h3⟩
    · exact .inl t
    · exact .inr (X6 cc oc ws t h1 (h2.mono le kk (fun b t => t.elim) (fun b t => t.elim)) h3)
  · rcases mc m with rfl | m
    · (refine x5 hp fun o _ e _ => ?_; clear hp); exact ⟨o, e⟩
    · refine w5 (R.live b m) fun o e => ?_
      exact ⟨o, k _ _ e⟩
  · rcases mc m with rfl | m
    · exact at'
    · exact R.fresh b m
theorem Go.new {a : Addr} {h' : Heap} {tk : Nat} (k : ∀ b o, s.heap.get? b = some o → h'.get? b = some o) (hf : s.heap.get? a = none) : Go C A own W s ⟨W.adr ++ [a], W.syms, a :: W.mt⟩ { s with heap := h', toks := tk } :=
  ⟨⟨List.prefix_append _ _, List.prefix_refl _, fun b m => .tail _ m, fun b m => by
    rcases mc m with rfl | m
    · exact .inr hf
    · exact .inl m, fun b m => by
    rcases List.mem_append.mp m with m | m
    · exact .inl m
    · refine rwm (List.mem_singleton.mp m) ?_; exact .inr hf⟩, .of _ _ fun b o e _ => k b o e, fun b o e => ⟨o, k b o e⟩, rfl⟩
theorem get_size_none (h : Heap) : h.get? h.objs.size = none := by
  induction q : h.get? h.objs.size using Option.casesOn with
  | none => rfl
  | some o => exact absurd (Heap.lt_size q) (Nat.lt_irrefl _)
end
noncomputable abbrev Cy.M (C : Cy) : Model := model C.prog C.w
noncomputable def Gd (C : Cy) (h : Heap) : Prop := ∀ b o, C.h₀.get? b = some o → h.get? b = some o
noncomputable def OkE (C : Cy) (r : Rec) (n : Nat) : Prop := ∀ {e : Expr} {ρ : Fr} {σ : St} {v : V} {σ' : St}, r.E e ρ σ = some (v, σ') →
  ∀ {A : Around} {env : Env} {own : List Addr} {W : Wd} {s : Shared}, Room A n → FrR C A W env own ρ s.heap → StR C W σ s →
  ∀ {Q : Value → Shared → Prop} {E : Value → Shared → Prop}, (∀ W' s' v', Go C A [] W s W' s' → StR C W' σ' s' → VR C.toCx W' s'.heap v v' → Q v' s') → wpAny C.M A (eval e env) Q E s
noncomputable def OkT (C : Cy) (r : Rec) (n : Nat) : Prop := ∀ {e : Expr} {ρ : Fr} {σ : St} {b : Bool} {σ' : St}, r.T e ρ σ = some (b, σ') →
  ∀ {A : Around} {env : Env} {own : List Addr} {W : Wd} {s : Shared}, Room A n → FrR C A W env own ρ s.heap → StR C W σ s →
  ∀ {Q : Bool → Shared → Prop} {E : Value → Shared → Prop}, (∀ W' s', Go C A [] W s W' s' → StR C W' σ' s' → Q b s') → wpAny C.M A (isTrue e env (eval e env)) Q E s
theorem bd_some {α β : Type} {x : Option α} {f : α → Option β} {y : β} (h : bd x f = some y) : ∃ a, x = some a ∧ f a = some y := by
  induction x using Option.casesOn with
  | none => exact nsx h
  | some a => exact (w7 a rfl h)
theorem pair_some {v : Option V} {σ : St} {p : V × St} (h : pair v σ = some p) : ∃ a, v = some a ∧ p = (a, σ) := by
  induction v using Option.casesOn with
  | none => exact nsx h
  | some a => (revert h; refine sm_r fun zz => ?_; subst zz); exact (w7 a rfl rfl)
theorem mkI_some {k : Int} {v : V} (h : mkI k = some v) : v = .int (.lit k) ∧ k.natAbs < 1000000000 := by
  unfold mkI at h
  induction q : small k using Bool.casesOn with
  | true => rw [q] at h; (revert h; refine sm_r fun zz => ?_; subst zz); exact ⟨rfl, Nat.le_of_ble_eq_true q⟩
  | false => rw [q] at h; exact nsx h
section
variable {C : Cy} {A : Around} {own : List Addr} {W W' W₁ : Wd} {s s' s₁ : Shared} {σ σ' : St} {env : Env} {ρ : Fr} {r : Rec} {n : Nat} {E : Value → Shared → Prop}
theorem starEach_cons {e : Expr} {rest : List Expr} (h : isStar e = false) : starEach (e :: rest) env = (false, eval e env) :: starEach rest env := by
  induction e using Expr.casesOn <;> first | rfl | exact tfx h
theorem evL_ok (H : OkE C r n) (hr : Room A n) {pos : Pos} : ∀ {es : List Expr} {σ σ' : St} {vs : List V} {W : Wd} {s : Shared} {Q : List Value → Shared → Prop}, evL r es ρ σ = some (vs, σ') → FrR C A W env own ρ s.heap → StR C W σ s →
    (∀ W' s' vs', Go C A [] W s W' s' → StR C W' σ' s' → VRs C.toCx W' s'.heap vs vs' → Q vs' s') → wpAny C.M A (spliced (backTo pos (starEach es env))) Q E s
  | [], σ, σ', vs, W, s, Q, h, F, R, q => by
    (revert q; (first | refine sp3_g h ?_ | refine sp_g h ?_); intro q)
    exact wpAny_items_nil (q W s [] (.refl ..) R .nil)
  | e :: es, σ, σ', vs, W, s, Q, h, F, R, q => by
    unfold evL at h
    induction hs : isStar e using Bool.casesOn with
    | true => rw [hs] at h; exact nsx h
    | false =>
      rw [hs] at h
      revert h
      refine bd_r2 fun v σ₁ h1 h => ?_
      revert h
      refine bd_r2 fun ws σ₂ h2 h => ?_
      (revert q; (first | refine sp3_g h ?_ | refine sp_g h ?_); intro q)
      refine wpAny_items_cons (H h1 hr F R fun W₁ s₁ v' g₁ R₁ r₁ => ?_) (starEach_cons hs)
      have F₁ := F.mono R g₁
      refine evL_ok H hr h2 F₁ R₁ fun W₂ s₂ vs' g₂ R₂ r₂ => ?_
      exact q W₂ s₂ _ (g₁.trans g₂) R₂ (.cons (g₂.vr R₁ F₁.fm (fun _ m => nomatch m) r₁) r₂)
theorem few_le {l : List V} (h : few l = true) : l.length ≤ 1000 := Nat.le_of_ble_eq_true h
theorem le_sizeLine {n : Nat} (h : n ≤ 1000) : n ≤ sizeLine := Nat.le_trans h (by decide)
theorem newT_ok {vs : List V} {vs' : List Value} {v : V} {Q : Value → Shared → Prop} (h : newT σ vs = some (v, σ')) (R : StR C W σ s) (r : VRs C.toCx W s.heap vs vs')
    (q : ∀ s' v', Go C A [] W s W s' → StR C W σ' s' → VR C.toCx W s'.heap v v' → Q v' s') :
    vs'.length ≤ sizeLine ∧ Q (.ref s.heap.objs.size) { s with heap := s.heap.push { cls := .type "tuple", data := .seq vs'.toArray } } := by
  unfold newT at h
  induction hf : few vs using Bool.casesOn with
  | false => rw [hf] at h; exact nsx h
  | true =>
    rw [hf] at h; (revert q; (first | refine sp3_g h ?_ | refine sp_g h ?_); intro q)
    have hl := few_le hf
    have k := push_keeps s.heap { cls := .type "tuple", data := .seq vs'.toArray }
    refine ⟨by refine rwm (VRs.length r) ?_; exact le_sizeLine hl, q _ _ (Go.grow (tk := s.toks) k) (R.grow (tk := s.toks) k) ?_⟩
    exact .tup (R.fz_push rfl rfl) hl (r.mono (.refl _ _) (.of (fun _ => False) (fun _ => False) fun b o e _ => k b o e) (fun _ t => t.elim) (fun _ t => t.elim))
theorem newL_ok {vs : List V} {vs' : List Value} {v : V} {Q : Value → Shared → Prop} (h : newL σ vs = some (v, σ')) (R : StR C W σ s) (r : VRs C.toCx W s.heap vs vs')
    (q : ∀ W' s' v', Go C A [] W s W' s' → StR C W' σ' s' → VR C.toCx W' s'.heap v v' → Q v' s') :
    vs'.length ≤ sizeLine ∧ Q (.ref s.heap.objs.size) { s with heap := s.heap.push { cls := .type "list", data := .seq vs'.toArray } } := by
  unfold newL at h
  induction hf : few vs && Nat.blt σ.n 1000000 using Bool.casesOn with
  | false => rw [hf] at h; exact nsx h
  | true =>
    rw [hf] at h
    refine w8 (Bool.and_eq_true_iff.mp hf) fun h1 h2 => ?_
    have hl := few_le h1
    have hn : σ.n < 1000000 := Nat.le_of_ble_eq_true h2
    have k := push_keeps s.heap { cls := .type "list", data := .seq vs'.toArray }
    have hp : PlainL (s.heap.push { cls := .type "list", data := .seq vs'.toArray }) s.heap.objs.size vs'.toArray := (y8 _ 0 (Heap.get?_push_size _ rfl) rfl rfl rfl)
    have e := Option.some.inj h
    have e1 : v = .lst σ.n := (congrArg Prod.fst e).symm
    have e2 : σ' = (σ.new vs).2 := (congrArg Prod.snd e).symm
    clear e h
    subst e1 e2
    refine ⟨by refine rwm (VRs.length r) ?_; exact le_sizeLine hl, q _ _ _ (Go.new (tk := s.toks) k (get_size_none _)) (R.new (tk := s.toks) hn k (get_size_none _) hp r hl) ?_⟩
    refine .lst ?_
    (refine rwl (R.len) ?_; refine rwm (List.getElem?_append_right (Nat.le_refl _)) ?_; refine rwm (Nat.sub_self ..) ?_); rfl
theorem tuple_ok (H : OkE C r n) (hr : Room A n) {es : List Expr} {k : Nat} {pos : Pos} {vs : List V} {σ₁ : St} {v : V} {Q : Value → Shared → Prop} (h1 : evL r es ρ σ = some (vs, σ₁)) (h2 : newT σ₁ vs = some (v, σ')) (F : FrR C A W env own ρ s.heap) (R : StR C W σ s)
    (q : ∀ W' s' v', Go C A [] W s W' s' → StR C W' σ' s' → VR C.toCx W' s'.heap v v' → Q v' s') : wpAny C.M A (eval (.Tuple es k pos) env) Q E s := by
  refine wpAny_Tuple (evL_ok H hr h1 F R fun W₁ s₁ vs' g₁ R₁ r₁ => ?_)
  exact newT_ok (A := A) h2 R₁ r₁ fun s' v' g R' r' => q _ _ _ (g₁.trans g) R' r'
theorem list_ok (H : OkE C r n) (hr : Room A n) {es : List Expr} {pos : Pos} {vs : List V} {σ₁ : St} {v : V} {Q : Value → Shared → Prop} (h1 : evL r es ρ σ = some (vs, σ₁)) (h2 : newL σ₁ vs = some (v, σ')) (F : FrR C A W env own ρ s.heap) (R : StR C W σ s)
    (q : ∀ W' s' v', Go C A [] W s W' s' → StR C W' σ' s' → VR C.toCx W' s'.heap v v' → Q v' s') : wpAny C.M A (eval (.List es pos) env) Q E s := by
  refine wpAny_List (evL_ok H hr h1 F R fun W₁ s₁ vs' g₁ R₁ r₁ => ?_)
  exact newL_ok (A := A) h2 R₁ r₁ fun W' s' v' g R' r' => q _ _ _ (g₁.trans g) R' r'
theorem const_ok {c : Const} {k : Nat} {pos : Pos} {v : V} {Q : Value → Shared → Prop} (h : constV c = some v) (R : StR C W σ s)
    (q : ∀ s' v', Go C A [] W s W s' → StR C W σ s' → VR C.toCx W s'.heap v v' → Q v' s') : wpAny C.M A (eval (.Constant c k pos) env) Q E s := by
  induction c using Const.casesOn with
  | none => (revert h; refine sm_r fun zz => ?_; subst zz); exact wpAny_Constant_none (q _ _ (.refl ..) R .none)
  | bool b => (revert h; refine sm_r fun zz => ?_; subst zz); exact wpAny_Constant_bool (q _ _ (.refl ..) R (.bool b))
  | int i =>
    refine w8 (mkI_some (show mkI i = some v from h)) fun zz1 _ => ?_
    clear h
    subst zz1
    exact wpAny_Constant_int (q _ _ (Go.tok _) (R.tok _) (.lit i _))
  | str x => (revert h; refine sm_r fun zz => ?_; subst zz); exact wpAny_Constant_str (q _ _ (Go.tok _) (R.tok _) (.str x _))
  | _ => exact nsx h
end
inductive Den (σ : St) (sy : List Int) : V → PyData → Prop
  | none : Den σ sy .none .none
  | bool (b : Bool) : Den σ sy (.bool b) (.bool b)
  | lit (k : Int) : Den σ sy (.int (.lit k)) (.int k)
  | sym {i : Nat} {k : Int} : sy[i]? = some k → Den σ sy (.int (.sym i)) (.int k)
  | str (s : Str) : Den σ sy (.str s) (.str s)
  | tupN : Den σ sy (.tup []) (.tuple [])
  | tupC {d : V} {l : List V} {p : PyData} {ps : List PyData} : Den σ sy d p → Den σ sy (.tup l) (.tuple ps) → Den σ sy (.tup (d :: l)) (.tuple (p :: ps))
  | lst {i : Nat} {l : List V} {ps : List PyData} : σ.list i = some l → Den σ sy (.tup l) (.tuple ps) → Den σ sy (.lst i) (.list ps)
theorem Den.inv {σ : St} {sy : List Int} : ∀ {v : V} {p : PyData}, Den σ sy v p → match v with
    | .none => p = .none
    | .bool b => p = .bool b
    | .int (.lit k) => p = .int k
    | .int (.sym i) => ∃ k, sy[i]? = some k ∧ p = .int k
    | .str s => p = .str s
    | .tup l => ∃ ps, p = .tuple ps
    | .lst i => ∃ l ps, σ.list i = some l ∧ p = .list ps ∧ Den σ sy (.tup l) (.tuple ps)
    | _ => False
  | _, _, .none => rfl
  | _, _, .bool _ => rfl
  | _, _, .lit _ => rfl
  | _, _, .sym e => (w7 _ e rfl)
  | _, _, .str _ => rfl
  | _, _, .tupN => ⟨_, rfl⟩
  | _, _, .tupC .. => ⟨_, rfl⟩
  | _, _, .lst e r => (y7 _ _ e rfl r)
theorem both_some {x y : Option Bool} {k : Bool} (h : both x y = some k) : ∃ a b, x = some a ∧ y = some b ∧ k = (a && b) := by
  induction x using Option.casesOn <;> induction y using Option.casesOn <;> (first | exact nsx h | (revert h; refine sm_r fun zz => ?_; subst zz))
  exact (y7 _ _ rfl rfl rfl)
theorem eqZ_den {σ : St} {sy : List Int} {x y : Z} {k : Bool} (h : eqZ x y = some k) {p q : PyData} (dp : Den σ sy (.int x) p) (dq : Den σ sy (.int y) q) : PyData.eqv p q = k := by
  induction x using Z.casesOn with
  | lit a =>
    induction y using Z.casesOn with
    | lit b =>
      (revert h; refine sm_r fun zz => ?_; subst zz)
      replace dp := dp.inv
      obtain rfl := dp
      replace dq := dq.inv
      obtain rfl := dq
      refine (?_ : (a == b) = decide (a = b))
      rfl
    | sym j => exact nsx h
  | sym i =>
    induction y using Z.casesOn with
    | lit b => exact nsx h
    | sym j =>
      have h : (match Nat.beq i j with | true => some true | false => none) = some k := h
      induction q0 : Nat.beq i j using Bool.casesOn with
      | false => rw [q0] at h; exact nsx h
      | true =>
        rw [q0] at h; (revert h; refine sm_r fun zz => ?_; subst zz)
        have e := Nat.eq_of_beq_eq_true q0
        clear q0
        subst e
        replace dp := dp.inv
        refine w6 dp fun a ea zz1 => ?_
        clear dp
        subst zz1
        replace dq := dq.inv
        refine w6 dq fun b eb zz1 => ?_
        clear dq
        subst zz1
        rw [ea] at eb; (revert eb; refine sm_r fun zz => ?_; subst zz)
        refine (?_ : (a == a) = true)
        exact beq_self_eq_true a
theorem eqL_den {σ : St} {sy : List Int} {f : V → V → Option Bool} (hf : ∀ a b k, f a b = some k → ∀ p q, Den σ sy a p → Den σ sy b q → PyData.eqv p q = k) :
    ∀ (xs ys : List V) (k : Bool), eqL f xs ys = some k → ∀ ps qs, Den σ sy (.tup xs) (.tuple ps) → Den σ sy (.tup ys) (.tuple qs) → PyData.eqvAll ps qs = k
  | [], [], k, h, ps, qs, dp, dq => by (revert h; refine sm_r fun zz => ?_; subst zz); cases dp; cases dq; rfl
  | [], _ :: _, k, h, ps, qs, dp, dq => by (revert h; refine sm_r fun zz => ?_; subst zz); cases dp; cases dq; rfl
  | _ :: _, [], k, h, ps, qs, dp, dq => by (revert h; refine sm_r fun zz => ?_; subst zz); cases dp; cases dq; rfl
  | x :: xs, y :: ys, k, h, ps, qs, dp, dq => by
    refine x6 (both_some (show both (f x y) (eqL f xs ys) = some k from h)) fun a b h1 h2 zz1 => ?_
    clear h
    subst zz1
    cases dp with
    | tupC p1 p2 =>
      cases dq with
      | tupC q1 q2 =>
        refine (?_ : (PyData.eqv _ _ && PyData.eqvAll _ _) = _)
        (refine rwm (hf x y a h1 _ _ p1 q1) ?_; exact rwm (eqL_den hf xs ys b h2 _ _ p2 q2) rfl)
theorem eqV_den {σ : St} {sy : List Int} : ∀ (n : Nat) (a b : V) (k : Bool), eqV σ n a b = some k → ∀ p q, Den σ sy a p → Den σ sy b q → PyData.eqv p q = k
  | 0, _, _, _, h, _, _, _, _ => by exact nsx h
  | n + 1, a, b, k, h, p, q, dp, dq => by
    have rec_ := eqV_den (σ := σ) (sy := sy) n
    induction a using V.casesOn with
    | none =>
      replace dp := dp.inv
      obtain rfl := dp
      induction b using V.casesOn <;> first
        | ((revert h; refine sm_r fun zz => ?_; subst zz); obtain rfl := dq.inv; rfl)
        | ((revert h; refine sm_r fun zz => ?_; subst zz); obtain ⟨_, rfl⟩ := dq.inv; rfl)
        | ((revert h; refine sm_r fun zz => ?_; subst zz); obtain ⟨_, _, _, rfl, _⟩ := dq.inv; rfl)
        | exact dq.inv.elim
        | (rename_i z; (revert h; refine sm_r fun zz => ?_; subst zz); induction z using Z.casesOn <;> first | (obtain rfl := dq.inv; rfl) | ((refine w6 (dq.inv) fun _ _ zz1 => ?_; clear dq; subst zz1); rfl))
    | bool x =>
      replace dp := dp.inv
      obtain rfl := dp
      induction b using V.casesOn <;> first
        | ((first | (revert h; refine sm_r fun zz => ?_; subst zz) | exact nsx h); obtain rfl := dq.inv; rfl)
        | ((first | exact nsx h | (revert h; refine sm_r fun zz => ?_; subst zz)); obtain ⟨_, rfl⟩ := dq.inv; rfl)
        | ((first | exact nsx h | (revert h; refine sm_r fun zz => ?_; subst zz)); obtain ⟨_, _, _, rfl, _⟩ := dq.inv; rfl)
        | exact dq.inv.elim
        | exact nsx h
    | int x =>
      induction b using V.casesOn with
      | int y => exact eqZ_den h dp dq
      | bool y => exact nsx h
      | none => (revert h; refine sm_r fun zz => ?_; subst zz); obtain rfl := dq.inv; induction x using Z.casesOn <;> first | (obtain rfl := dp.inv; rfl) | ((refine w6 (dp.inv) fun _ _ zz1 => ?_; clear dp; subst zz1); rfl)
      | str y => (revert h; refine sm_r fun zz => ?_; subst zz); obtain rfl := dq.inv; induction x using Z.casesOn <;> first | (obtain rfl := dp.inv; rfl) | ((refine w6 (dp.inv) fun _ _ zz1 => ?_; clear dp; subst zz1); rfl)
      | tup y => (revert h; refine sm_r fun zz => ?_; subst zz); (refine w5 (dq.inv) fun _ zz1 => ?_; clear dq; subst zz1); induction x using Z.casesOn <;> first | (obtain rfl := dp.inv; rfl) | ((refine w6 (dp.inv) fun _ _ zz1 => ?_; clear dp; subst zz1); rfl)
      | lst y => (revert h; refine sm_r fun zz => ?_; subst zz); (refine x6 (dq.inv) fun _ _ _ zz1 _ => ?_; clear dq; subst zz1); induction x using Z.casesOn <;> first | (obtain rfl := dp.inv; rfl) | ((refine w6 (dp.inv) fun _ _ zz1 => ?_; clear dp; subst zz1); rfl)
      | _ => exact dq.inv.elim
    | str x =>
      replace dp := dp.inv
      obtain rfl := dp
      induction b using V.casesOn <;> first
        | ((revert h; refine sm_r fun zz => ?_; subst zz); obtain rfl := dq.inv; first | rfl | exact sq_d _ _)
        | ((revert h; refine sm_r fun zz => ?_; subst zz); obtain ⟨_, rfl⟩ := dq.inv; rfl)
        | ((revert h; refine sm_r fun zz => ?_; subst zz); obtain ⟨_, _, _, rfl, _⟩ := dq.inv; rfl)
        | exact dq.inv.elim
        | (rename_i z; (revert h; refine sm_r fun zz => ?_; subst zz); induction z using Z.casesOn <;> first | (obtain rfl := dq.inv; rfl) | ((refine w6 (dq.inv) fun _ _ zz1 => ?_; clear dq; subst zz1); rfl))
    | tup xs =>
      refine w5 (dp.inv) fun ps zz1 => ?_
      subst zz1
      induction b using V.casesOn <;> first
        | (rename_i ys; obtain ⟨qs, rfl⟩ := dq.inv; exact eqL_den rec_ xs ys k h ps qs dp dq)
        | ((revert h; refine sm_r fun zz => ?_; subst zz); obtain rfl := dq.inv; rfl)
        | ((revert h; refine sm_r fun zz => ?_; subst zz); obtain ⟨_, _, _, rfl, _⟩ := dq.inv; rfl)
        | exact dq.inv.elim
        | (rename_i z; (revert h; refine sm_r fun zz => ?_; subst zz); induction z using Z.casesOn <;> first | (obtain rfl := dq.inv; rfl) | ((refine w6 (dq.inv) fun _ _ zz1 => ?_; clear dq; subst zz1); rfl))
    | lst i =>
      replace dp := dp.inv
      refine x6 dp fun xs ps e1 zz1 r1 => ?_
      clear dp
      subst zz1
      induction b using V.casesOn with
      | lst j =>
        replace dq := dq.inv
        refine x6 dq fun ys qs e2 zz1 r2 => ?_
        clear dq
        subst zz1
        have h : (match σ.list i with | some xs => (match σ.list j with | some ys => eqL (eqV σ n) xs ys | none => none) | none => none) = some k := h
        rw [e1, e2] at h
        exact eqL_den rec_ xs ys k h ps qs r1 r2
      | none => (revert h; refine sm_r fun zz => ?_; subst zz); obtain rfl := dq.inv; rfl
      | bool y => (revert h; refine sm_r fun zz => ?_; subst zz); obtain rfl := dq.inv; rfl
      | str y => (revert h; refine sm_r fun zz => ?_; subst zz); obtain rfl := dq.inv; rfl
      | tup y => (revert h; refine sm_r fun zz => ?_; subst zz); (refine w5 (dq.inv) fun _ zz1 => ?_; clear dq; subst zz1); rfl
      | int z => (revert h; refine sm_r fun zz => ?_; subst zz); induction z using Z.casesOn <;> first | (obtain rfl := dq.inv; rfl) | ((refine w6 (dq.inv) fun _ _ zz1 => ?_; clear dq; subst zz1); rfl)
      | _ => exact dq.inv.elim
    | _ => exact nsx h
theorem allL_mem {f : V → Bool} : ∀ {l : List V}, allL f l = true → ∀ v ∈ l, f v = true
  | [], _, _, m => nomatch m
  | a :: as, h, v, m => by
    have h : (match f a with | true => allL f as | false => false) = true := h
    induction q : f a using Bool.casesOn with
    | false => rw [q] at h; exact ftx h
    | true =>
      rw [q] at h
      rcases mc m with rfl | m
      · exact q
      · exact allL_mem h v m
theorem pd_depth_tup (ps : List PyData) : (PyData.tuple ps).depth = PyData.depthAll ps + 1 := by simp [PyData.depth]
theorem pd_depth_lst (ps : List PyData) : (PyData.list ps).depth = PyData.depthAll ps + 1 := by simp [PyData.depth]
section
variable {C : Cy} {A : Around} {own : List Addr} {W W' W₁ : Wd} {s s' s₁ : Shared} {σ σ' : St} {env : Env} {ρ : Fr} {r : Rec} {n : Nat} {E : Value → Shared → Prop}
theorem VRs.get {h : Heap} {ds : List V} {vs : List Value} (x : VRs C.toCx W h ds vs) : ∀ {i : Nat} {d : V}, ds[i]? = some d → ∃ v, vs[i]? = some v ∧ VR C.toCx W h d v :=
  VRs.ind (motive := fun ds vs => ∀ {i : Nat} {d : V}, ds[i]? = some d → ∃ v, vs[i]? = some v ∧ VR C.toCx W h d v) (fun e => nsx e) (fun a _ ih i d e => by
    induction i using Nat.casesAuxOn with
    | zero => exact ⟨_, rfl, Option.some.inj e ▸ a⟩
    | succ i => exact ih e) x
theorem VRs.append {h : Heap} {ds es : List V} {vs ws : List Value} (x : VRs C.toCx W h ds vs) (y : VRs C.toCx W h es ws) : VRs C.toCx W h (ds ++ es) (vs ++ ws) :=
  VRs.ind (motive := fun ds vs => VRs C.toCx W h (ds ++ es) (vs ++ ws)) y (fun a _ ih => .cons a ih) x
theorem VRs.drop {h : Heap} {ds : List V} {vs : List Value} (x : VRs C.toCx W h ds vs) : ∀ k : Nat, VRs C.toCx W h (ds.drop k) (vs.drop k) :=
  VRs.ind (motive := fun ds vs => ∀ k : Nat, VRs C.toCx W h (ds.drop k) (vs.drop k)) (fun k => by induction k using Nat.casesAuxOn <;> exact .nil) (fun a b ih k => by
    induction k using Nat.casesAuxOn with
    | zero => exact .cons a b
    | succ k => exact ih k) x
theorem VRs.take {h : Heap} {ds : List V} {vs : List Value} (x : VRs C.toCx W h ds vs) : ∀ k : Nat, VRs C.toCx W h (ds.take k) (vs.take k) :=
  VRs.ind (motive := fun ds vs => ∀ k : Nat, VRs C.toCx W h (ds.take k) (vs.take k)) (fun k => by induction k using Nat.casesAuxOn <;> exact .nil) (fun a b ih k => by
    induction k using Nat.casesAuxOn with
    | zero => exact .nil
    | succ k => exact .cons a (ih k)) x
theorem VRs.set {h : Heap} {d : V} {v : Value} (x : VR C.toCx W h d v) {ds : List V} {vs : List Value} (y : VRs C.toCx W h ds vs) : ∀ k : Nat, VRs C.toCx W h (ds.set k d) (vs.set k v) :=
  VRs.ind (motive := fun ds vs => ∀ k : Nat, VRs C.toCx W h (ds.set k d) (vs.set k v)) (fun k => .nil) (fun a b ih k => by
    induction k using Nat.casesAuxOn with
    | zero => exact .cons x b
    | succ k => exact .cons a (ih k)) y
theorem VRs.replicate {h : Heap} {d : V} {v : Value} (x : VR C.toCx W h d v) (k : Nat) : VRs C.toCx W h (List.replicate k d) (List.replicate k v) := by
  induction k with
  | zero => exact .nil
  | succ k ih => exact .cons x ih
theorem VR.list (R : StR C W σ s) {i : Nat} {l : List V} {v : Value} (e : σ.list i = some l) (x : VR C.toCx W s.heap (.lst i) v) : ∃ a vs, v = .ref a ∧ W.adr[i]? = some a ∧ PlainL s.heap a vs.toArray ∧ VRs C.toCx W s.heap l vs ∧ l.length ≤ 1000 := by
  replace x := x.inv
  refine w6 x fun _ h zz1 => ?_
  clear x
  subst zz1
  refine x8 (R.lst i l (list_some e)) fun a vs h1 h2 h3 h4 => ?_
  rw [h] at h1; (revert h1; refine sm_r fun zz => ?_; subst zz)
  exact ⟨_, vs, rfl, h, h2, h3, h4⟩
theorem dats_of {n : Nat} {ds : List V} {vs : List Value} (x : VRs C.toCx W s.heap ds vs) : (∀ d ∈ ds, ∀ v, VR C.toCx W s.heap d v → ∃ p as, Reads s.heap v p as ∧ p.canLay0 = true ∧ p.depth ≤ n ∧ Den σ W.syms d p) → ∃ ps as, ReadsAll s.heap vs ps as ∧ PyData.canLayAll0 ps = true ∧ PyData.depthAll ps ≤ n ∧ Den σ W.syms (.tup ds) (.tuple ps) :=
  VRs.ind (motive := fun ds vs => (∀ d ∈ ds, ∀ v, VR C.toCx W s.heap d v → ∃ p as, Reads s.heap v p as ∧ p.canLay0 = true ∧ p.depth ≤ n ∧ Den σ W.syms d p) → ∃ ps as, ReadsAll s.heap vs ps as ∧ PyData.canLayAll0 ps = true ∧ PyData.depthAll ps ≤ n ∧ Den σ W.syms (.tup ds) (.tuple ps))
    (fun _ => (y8 [] [] .nil rfl (Nat.zero_le _) .tupN)) (fun {d ds v vs} x _ ih h => by
      refine x8 (h d (.head _) v x) fun p as h1 h2 h3 h4 => ?_
      refine x8 (ih fun d' m => h d' (.tail _ m)) fun ps bs g1 g2 g3 g4 => ?_
      exact (y8 (p :: ps) (as ++ bs) (.cons h1 g1) (by simp [PyData.canLayAll0, h2, g2]) (by simp [PyData.depthAll]; omega) (.tupC h4 g4))) x
theorem dat_reads (R : StR C W σ s) (n : Nat) : ∀ {v : V} {v' : Value}, datOk σ n v = true → VR C.toCx W s.heap v v' → ∃ p as, Reads s.heap v' p as ∧ p.canLay0 = true ∧ p.depth ≤ n ∧ Den σ W.syms v p := by
  induction n with
  | zero => exact fun h _ => ftx h
  | succ n ih =>
    intro v v' h x
    induction x using VR.casesOn with
    | none => exact (y8 _ _ .none rfl (Nat.zero_le _) .none)
    | bool b => exact (y8 _ _ (.bool b) rfl (Nat.zero_le _) (.bool b))
    | lit k t => exact (y8 _ _ (.int k t) rfl (Nat.zero_le _) (.lit k))
    | sym t e => exact (y8 _ _ (.int _ t) rfl (Nat.zero_le _) (.sym e))
    | str x t => exact (y8 _ _ (.str x t) h (Nat.zero_le _) (.str x))
    | tup z _ rs =>
      refine x8 (dats_of rs fun d m v x => ih (allL_mem h d m) x) fun ps as h1 h2 h3 h4 => ?_
      exact (y8 (.tuple ps) as (.tuple z.1 rfl rfl (by simpa using h1)) h2 (by refine rwm (pd_depth_tup ..) ?_; omega) h4)
    | @lst i a e =>
      have h : (match σ.list i with | some l => allL (datOk σ n) l | none => false) = true := h
      induction q : σ.list i using Option.casesOn with
      | none => rw [q] at h; exact ftx h
      | some l =>
        rw [q] at h
        refine x8 (R.lst i l (list_some q)) fun a' vs h1 h2 h3 _ => ?_
        rw [e] at h1; (revert h1; refine sm_r fun zz => ?_; subst zz)
        refine x8 h2 fun o m e1 e2 _ e3 => ?_
        clear h2
        refine x8 (dats_of h3 fun d m v x => ih (allL_mem h d m) x) fun ps as g1 g2 g3 g4 => ?_
        exact (y8 (.list ps) (a :: as) (.list e1 e2 e3 (by simpa using g1)) g2 (by refine rwm (pd_depth_lst ..) ?_; omega) (.lst q g4))
    | _ => exact ftx h
theorem shaped_of {p : PyData} (h1 : p.canLay0 = true) (h2 : p.depth ≤ 40) : SeqAt.shaped p = true := by
  unfold SeqAt.shaped
  (refine rwm (h1) ?_; refine rwm (Bool.true_and ..) ?_)
  exact decide_eq_true (Nat.le_trans h2 (by decide))
theorem cmpEq_split {a b : V} {k : Bool} (h : cmpEq σ a b = some k) : datOk σ 40 a = true ∧ datOk σ 40 b = true ∧ eqV σ 40 a b = some k := by
  unfold cmpEq depthMost at h
  induction q1 : datOk σ 40 a using Bool.casesOn with
  | false => rw [q1] at h; exact nsx h
  | true =>
    rw [q1] at h
    induction q2 : datOk σ 40 b using Bool.casesOn with
    | false => rw [q2] at h; exact nsx h
    | true => rw [q2] at h; exact ⟨rfl, rfl, h⟩
theorem room_units (hr : Room A n) : A.units + 64 < cLine := by
  have := hr.units
  refine (?_ : A.units + 64 < 9900)
  omega
theorem eq_ok {a b : V} {va vb : Value} {k : Bool} {Q : Value → Shared → Prop} (h : cmpEq σ a b = some k) (hr : Room A n) (R : StR C W σ s) (xa : VR C.toCx W s.heap a va) (xb : VR C.toCx W s.heap b vb) (q : Q (.bool k) s) :
    wpAny C.M A (compareOp .Eq va vb) Q E s := by
  refine W2 (cmpEq_split h) fun h1 h2 h3 => ?_
  refine x8 (dat_reads R 40 h1 xa) fun p as r1 l1 d1 e1 => ?_
  refine x8 (dat_reads R 40 h2 xb) fun p' bs r2 l2 d2 e2 => ?_
  have := eqV_den 40 a b k h3 p p' e1 e2
  exact eq_dataH r1 r2 (shaped_of l1 d1) (shaped_of l2 d2) (room_units hr) (by refine rwm (this) ?_; exact q)
theorem ne_ok {a b : V} {va vb : Value} {k : Bool} {Q : Value → Shared → Prop} (h : cmpEq σ a b = some k) (hr : Room A n) (R : StR C W σ s) (xa : VR C.toCx W s.heap a va) (xb : VR C.toCx W s.heap b vb) (q : Q (.bool (!k)) s) :
    wpAny C.M A (compareOp .NotEq va vb) Q E s := by
  refine W2 (cmpEq_split h) fun h1 h2 h3 => ?_
  refine x8 (dat_reads R 40 h1 xa) fun p as r1 l1 d1 e1 => ?_
  refine x8 (dat_reads R 40 h2 xb) fun p' bs r2 l2 d2 e2 => ?_
  have := eqV_den 40 a b k h3 p p' e1 e2
  exact ne_dataH r1 r2 (shaped_of l1 d1) (shaped_of l2 d2) (room_units hr) (by refine rwm (this) ?_; exact q)
theorem isIn_den {a : V} {p : PyData} (dp : Den σ W.syms a p) : ∀ {l : List V} {k : Bool} {ps : List PyData}, isIn (fun y => eqV σ 40 y a) l = some k → Den σ W.syms (.tup l) (.tuple ps) → (ps.any fun y => PyData.eqv y p) = k
  | [], k, ps, h, d => by (revert h; refine sm_r fun zz => ?_; subst zz); cases d; rfl
  | y :: l, k, ps, h, d => by
    have h : (match eqV σ 40 y a with | some b => (match isIn (fun y => eqV σ 40 y a) l with | some c => some (b || c) | none => none) | none => none) = some k := h
    cases d with
    | tupC d1 d2 =>
      induction q1 : eqV σ 40 y a using Option.casesOn with
      | none => rw [q1] at h; exact nsx h
      | some b =>
        rw [q1] at h
        induction q2 : isIn (fun y => eqV σ 40 y a) l using Option.casesOn with
        | none => rw [q2] at h; exact nsx h
        | some c =>
          rw [q2] at h; (revert h; refine sm_r fun zz => ?_; subst zz)
          (refine rwm (List.any_cons) ?_; refine rwm (eqV_den 40 y a b q1 _ _ d1 dp) ?_; exact rwm (isIn_den dp q2 d2) rfl)
theorem hasKey_look {x : Str} : ∀ {l : List (Str × V)}, hasKey x l = (look x l).isSome
  | [] => rfl
  | (y, v) :: l => by
    refine (?_ : (match sq y x with | true => true | false => hasKey x l) = (match sq y x with | true => some v | false => look x l).isSome)
    induction sq y x using Bool.casesOn with
    | true => rfl
    | false => exact hasKey_look
theorem VRd.look {h : Heap} {f : Str → Option Value} {x : Str} {d : V} {l : List (Str × V)} (y : VRd C.toCx W h f l) : Mine.look x l = some d → ∃ v, f x = some v ∧ VR C.toCx W h d v :=
  VRd.ind (motive := fun l => Mine.look x l = some d → ∃ v, f x = some v ∧ VR C.toCx W h d v) (fun e => nsx e) (fun {y w l v} e1 a _ ih e => by
    have e : (match sq y x with | true => some w | false => Mine.look x l) = some d := e
    induction q : sq y x using Bool.casesOn with
    | true => rw [q] at e; exact ⟨v, of_sq q ▸ e1, Option.some.inj e ▸ a⟩
    | false => rw [q] at e; exact ih e) y
theorem mem_ok {a b : V} {va vb : Value} {k : Bool} {Q : Value → Shared → Prop} (h : memOf σ a b = some k) (hr : Room A n) (R : StR C W σ s) (xa : VR C.toCx W s.heap a va) (xb : VR C.toCx W s.heap b vb)
    (q : ∀ tk, Q (.bool k) { s with toks := tk }) :
    wpAny C.M A (compareOp .In va vb) Q E s := by
  have hu : ∀ x y : Nat, x ≤ 40 → y ≤ 40 → A.units + 1 + min x y < cLine := by
    intro x y hx _
    have := hr.units
    have := Nat.min_le_left x y
    refine (?_ : A.units + 1 + min x y < 9900)
    omega
  induction b using V.casesOn with
  | tup l =>
    have h : (match datOk σ 40 a with | true => (match datOk σ 40 (.tup l) with | true => isIn (fun y => eqV σ 40 y a) l | false => none) | false => none) = some k := h
    induction q1 : datOk σ 40 a using Bool.casesOn with
    | false => rw [q1] at h; exact nsx h
    | true =>
      rw [q1] at h
      induction q2 : datOk σ 40 (.tup l) using Bool.casesOn with
      | false => rw [q2] at h; exact nsx h
      | true =>
        rw [q2] at h
        refine x8 (dat_reads R 40 q1 xa) fun p as r1 l1 d1 e1 => ?_
        refine x8 (dat_reads R 40 q2 xb) fun p' bs r2 l2 d2 e2 => ?_
        refine w5 (e2.inv) fun ps zz1 => ?_
        subst zz1
        have := isIn_den e1 h e2
        rw [pd_depth_tup] at d2
        exact SeqAt.in_tuple_reads r2 r1 l2 l1 (hu _ _ (by omega) d1) (by refine rwm (this) ?_; exact q s.toks)
  | lst i =>
    have h : (match σ.list i with | some l => (match datOk σ 40 a with | true => (match datOk σ 40 (.lst i) with | true => isIn (fun y => eqV σ 40 y a) l | false => none) | false => none) | none => none) = some k := h
    induction q0 : σ.list i using Option.casesOn with
    | none => rw [q0] at h; exact nsx h
    | some l =>
      rw [q0] at h
      induction q1 : datOk σ 40 a using Bool.casesOn with
      | false => rw [q1] at h; exact nsx h
      | true =>
        rw [q1] at h
        induction q2 : datOk σ 40 (.lst i) using Bool.casesOn with
        | false => rw [q2] at h; exact nsx h
        | true =>
          rw [q2] at h
          refine x8 (dat_reads R 40 q1 xa) fun p as r1 l1 d1 e1 => ?_
          refine x8 (dat_reads R 40 q2 xb) fun p' bs r2 l2 d2 e2 => ?_
          replace e2 := e2.inv
          refine x6 e2 fun l' ps f1 zz1 f2 => ?_
          clear e2
          subst zz1
          rw [q0] at f1; (revert f1; refine sm_r fun zz => ?_; subst zz)
          have := isIn_den e1 h f2
          rw [pd_depth_lst] at d2
          exact SeqAt.in_list_reads r2 r1 l2 l1 (hu _ _ (by omega) d1) (by refine rwm (this) ?_; exact q s.toks)
  | dct l =>
    induction a using V.casesOn with
    | str x =>
      have h : some (hasKey x l) = some k := h
      (revert h; refine sm_r fun zz => ?_; subst zz)
      replace xa := xa.inv
      refine w5 xa fun t zz1 => ?_
      clear xa
      subst zz1
      replace xb := xb.inv
      refine X0 xb fun _ _ D ns hk _ zz1 => ?_
      clear xb
      subst zz1
      refine w6 D fun o z hm => ?_
      clear D
      exact wpAny_in_of (knd := strKind C.prog C.w) (k := x) (strKind_is _ _ x t) ns (hm _ z.1) (by refine rwm (hk x) ?_; exact q _)
    | _ => exact nsx h
  | _ => exact nsx h
theorem notIn_ok {a b : V} {va vb : Value} {k : Bool} {Q : Value → Shared → Prop} (h : memOf σ a b = some k) (hr : Room A n) (R : StR C W σ s) (xa : VR C.toCx W s.heap a va) (xb : VR C.toCx W s.heap b vb)
    (q : ∀ tk, Q (.bool (!k)) { s with toks := tk }) :
    wpAny C.M A (compareOp .NotIn va vb) Q E s := by
  have hu : ∀ x y : Nat, x ≤ 40 → y ≤ 40 → A.units + 1 + min x y < cLine := by
    intro x y hx _
    have := hr.units
    have := Nat.min_le_left x y
    refine (?_ : A.units + 1 + min x y < 9900)
    omega
  induction b using V.casesOn with
  | tup l =>
    have h : (match datOk σ 40 a with | true => (match datOk σ 40 (.tup l) with | true => isIn (fun y => eqV σ 40 y a) l | false => none) | false => none) = some k := h
    induction q1 : datOk σ 40 a using Bool.casesOn with
    | false => rw [q1] at h; exact nsx h
    | true =>
      rw [q1] at h
      induction q2 : datOk σ 40 (.tup l) using Bool.casesOn with
      | false => rw [q2] at h; exact nsx h
      | true =>
        rw [q2] at h
        refine x8 (dat_reads R 40 q1 xa) fun p as r1 l1 d1 e1 => ?_
        refine x8 (dat_reads R 40 q2 xb) fun p' bs r2 l2 d2 e2 => ?_
        refine w5 (e2.inv) fun ps zz1 => ?_
        subst zz1
        have := isIn_den e1 h e2
        rw [pd_depth_tup] at d2
        exact SeqAt.notIn_tuple_reads r2 r1 l2 l1 (hu _ _ (by omega) d1) (by refine rwm (this) ?_; exact q s.toks)
  | lst i =>
    have h : (match σ.list i with | some l => (match datOk σ 40 a with | true => (match datOk σ 40 (.lst i) with | true => isIn (fun y => eqV σ 40 y a) l | false => none) | false => none) | none => none) = some k := h
    induction q0 : σ.list i using Option.casesOn with
    | none => rw [q0] at h; exact nsx h
    | some l =>
      rw [q0] at h
      induction q1 : datOk σ 40 a using Bool.casesOn with
      | false => rw [q1] at h; exact nsx h
      | true =>
        rw [q1] at h
        induction q2 : datOk σ 40 (.lst i) using Bool.casesOn with
        | false => rw [q2] at h; exact nsx h
        | true =>
          rw [q2] at h
          refine x8 (dat_reads R 40 q1 xa) fun p as r1 l1 d1 e1 => ?_
          refine x8 (dat_reads R 40 q2 xb) fun p' bs r2 l2 d2 e2 => ?_
          replace e2 := e2.inv
          refine x6 e2 fun l' ps f1 zz1 f2 => ?_
          clear e2
          subst zz1
          rw [q0] at f1; (revert f1; refine sm_r fun zz => ?_; subst zz)
          have := isIn_den e1 h f2
          rw [pd_depth_lst] at d2
          exact SeqAt.notIn_list_reads r2 r1 l2 l1 (hu _ _ (by omega) d1) (by refine rwm (this) ?_; exact q s.toks)
  | dct l =>
    induction a using V.casesOn with
    | str x =>
      have h : some (hasKey x l) = some k := h
      (revert h; refine sm_r fun zz => ?_; subst zz)
      replace xa := xa.inv
      refine w5 xa fun t zz1 => ?_
      clear xa
      subst zz1
      replace xb := xb.inv
      refine X0 xb fun _ _ D ns hk _ zz1 => ?_
      clear xb
      subst zz1
      refine w6 D fun o z hm => ?_
      clear D
      exact wpAny_notIn_of (knd := strKind C.prog C.w) (k := x) (strKind_is _ _ x t) ns (hm _ z.1) (by refine rwm (hk x) ?_; exact q _)
    | _ => exact nsx h
  | _ => exact nsx h
theorem isNone_ok {h : Heap} {a : V} {va : Value} (xa : VR C.toCx W h a va) : isNone a = (va == .none) := by
  cases xa with
  | none => rfl
  | con _ hc => rcases hc with ⟨t, rfl⟩ | ⟨t, rfl, _⟩ <;> rfl
  | any _ h => exact h.1.symm
  | _ => rfl
theorem no_some {x : Option Bool} {k : Bool} (h : no x = some k) : ∃ b, x = some b ∧ k = !b := by
  induction x using Option.casesOn with
  | none => exact nsx h
  | some b => (revert h; refine sm_r fun zz => ?_; subst zz); exact (w7 b rfl rfl)
theorem cmpI_ok {op : CmpOp} {a b : Int} {t u : Tok} {k : Bool} {Q : Value → Shared → Prop} (h : cmpI op a b = some k) (q : Q (.bool k) s) : wpAny C.M A (compareOp op (.int a t) (.int b u)) Q E s := by
  induction op using CmpOp.casesOn with
  | Lt => (revert h; refine sm_r fun zz => ?_; subst zz); exact PyProof.Rows.lt_int q
  | LtE => (revert h; refine sm_r fun zz => ?_; subst zz); exact PyProof.Rows.le_int q
  | Gt => (revert h; refine sm_r fun zz => ?_; subst zz); exact PyProof.Rows.gt_int q
  | GtE => (revert h; refine sm_r fun zz => ?_; subst zz); exact PyProof.Rows.ge_int q
  | _ => exact nsx h
theorem cmp_ok {op : CmpOp} {a b : V} {va vb : Value} {k : Bool} {Q : Value → Shared → Prop} (h : cmp op a b σ = some k) (hr : Room A n) (R : StR C W σ s) (xa : VR C.toCx W s.heap a va) (xb : VR C.toCx W s.heap b vb)
    (q : ∀ tk, Q (.bool k) { s with toks := tk }) : wpAny C.M A (compareOp op va vb) Q E s := by
  have hInts : ∀ op, (match a with | .int (.lit x) => (match b with | .int (.lit y) => cmpI op x y | _ => none) | _ => none) = some k → wpAny C.M A (compareOp op va vb) Q E s := by
    intro op h
    induction a using V.casesOn with
    | int z =>
      induction z using Z.casesOn with
      | lit x =>
        induction b using V.casesOn with
        | int z' =>
          induction z' using Z.casesOn with
          | lit y =>
            replace xa := xa.inv
            refine w5 xa fun t zz1 => ?_
            clear xa
            subst zz1
            replace xb := xb.inv
            refine w5 xb fun u zz1 => ?_
            clear xb
            subst zz1
            exact cmpI_ok h (q s.toks)
          | sym j => exact nsx h
        | _ => exact nsx h
      | sym i => exact nsx h
    | _ => exact nsx h
  induction op using CmpOp.casesOn with
  | Eq => exact eq_ok h hr R xa xb (q s.toks)
  | NotEq => (refine w6 (no_some (show no (cmpEq σ a b) = some k from h)) fun c h2 zz1 => ?_; clear h hInts; subst zz1); exact ne_ok h2 hr R xa xb (q s.toks)
  | Is =>
    induction b using V.casesOn with
    | none =>
      obtain rfl := xb.inv
      have h : some (isNone a) = some k := h
      clear hInts
      (revert h; refine sm_r fun zz => ?_; subst zz)
      exact is_none (by refine rwl (isNone_ok xa) ?_; exact q s.toks)
    | _ => exact nsx h
  | IsNot =>
    induction b using V.casesOn with
    | none =>
      obtain rfl := xb.inv
      have h : some (!isNone a) = some k := h
      clear hInts
      (revert h; refine sm_r fun zz => ?_; subst zz)
      exact isNot_none (by refine rwl (isNone_ok xa) ?_; exact q s.toks)
    | _ => exact nsx h
  | In => exact mem_ok h hr R xa xb q
  | NotIn => (refine w6 (no_some (show no (memOf σ a b) = some k from h)) fun c h2 zz1 => ?_; clear h hInts; subst zz1); exact notIn_ok h2 hr R xa xb q
  | Lt => exact hInts _ h
  | LtE => exact hInts _ h
  | Gt => exact hInts _ h
  | GtE => exact hInts _ h
end
theorem noR_tuple_rmul : typeLookup (.type "tuple") (dunderR "mul") = pure (some (.builtin "tuple.__rmul__")) := by (refine rwm (typeLookup_type ..) ?_; refine rwm (builtinLookup_eq_fast) ?_); kernel_rfl
theorem noFill_tuple_mul : fillsNumberSlot (.type "tuple") "mul" = pure false := PySem.fillsNumberSlot_seq (id := "tuple.__mul__") (r := some (.builtin "tuple.__rmul__")) PySem.F.slot_tuple_mul.lookup (by decide +kernel) noR_tuple_rmul (by decide +kernel)
theorem seqR_tuple : seqSlot? (.type "tuple") "__rmul__" = pure (some (.builtin "tuple.__rmul__")) := PySem.seqSlot_of noR_tuple_rmul (by decide +kernel)
theorem repeat_tuple : seqRepeat? (.type "tuple") = pure (some (.builtin "tuple.__mul__")) := by
  unfold seqRepeat?
  (refine rwm (PySem.seqSlot_of (T := "tuple") (name := "__mul__") (id := "tuple.__mul__") PySem.F.slot_tuple_mul.lookup (by decide +kernel)) ?_; refine rwm (seqR_tuple) ?_)
  rfl
theorem rmul_int_tuple (a : Int) (t : Tok) (l : Addr) (items : Array Value) (n : Nat) :
    Meets (Builtin.«int.__rmul__» ⟨[.int a t, .ref l], []⟩) (fun _ R s => s.heap.get? l = some { cls := .type "tuple", dict := none, data := .seq items n, slots := #[] } ∧ R (.ok (.ret Value.notImplemented)) s) :=
  .of_wp fun prog w A R s h => by obtain ⟨hp, g, d, tk, os⟩ := s; (revert h; intro zz0; refine w8 zz0 fun hl h => ?_; clear zz0); wp_walk; exact (w7 _ rfl h)
theorem mul_tuple_zero (l : Addr) (items : Array Value) (n : Nat) (u : Tok) (h0 : items.isEmpty = false) :
    Meets (Builtin.«tuple.__mul__» ⟨[.ref l, .int 0 u], []⟩) (fun _ R s => s.heap.get? l = some { cls := .type "tuple", dict := none, data := .seq items n, slots := #[] } ∧ R (.ok (.ret (Value.ref s.heap.objs.size))) { s with heap := s.heap.push { cls := Value.type "tuple", data := Data.seq #[] }, toks := s.toks }) :=
  .of_wp fun prog w A R s h => by
    obtain ⟨hp, g, d, tk, os⟩ := s; (revert h; intro zz0; refine w8 zz0 fun hl h => ?_; clear zz0)
    have e1 : ¬ ((items.isEmpty || (0 : Int) == 1) = true) := by refine rwm (h0) ?_; decide
    have e2 : (decide ((0 : Int) ≤ 0) || items.isEmpty) = true := by simp
    wp_walk
    exact (w7 _ rfl h)
section
variable {C : Cy} {A : Around} {own : List Addr} {W W' W₁ : Wd} {s s' s₁ : Shared} {σ σ' : St} {env : Env} {ρ : Fr} {r : Rec} {n : Nat} {E : Value → Shared → Prop}
theorem mul_tuple0 {l : Addr} {items : Array Value} {k : Nat} {u : Tok} {Q : Value → Shared → Prop} (hl : s.heap.get? l = some { cls := .type "tuple", data := .seq items k }) (h0 : items.isEmpty = false)
    (h : Q (.ref s.heap.objs.size) { s with heap := s.heap.push { cls := .type "tuple", data := .seq #[] } }) : wpAny C.M A (binaryOp .Mult (.ref l) (.int 0 u)) Q E s :=
  wpAny_binaryOp_repeat_ref (T := "tuple") (U := "int") (by decide) (w7 _ hl rfl) (fun s' => typeIs_int s' 0 u) noFill_tuple_mul PySem.F.fills_int_mul PySem.F.slot_int_rmul repeat_tuple PySem.F.slot_int_index.lookup
    (call_meets PySem.F.slot_int_rmul (typeIs_int s 0 u) PySem.F.entry_int_rmul (PySem.F.args_int_rmul_2 _ _) (rmul_int_tuple 0 u l items k)
      (X9 hl rfl (w7 _ hl rfl) (call_meets PySem.F.slot_tuple_mul (w7 _ hl rfl) PySem.F.entry_tuple_mul (PySem.F.args_tuple_mul_2 _ _) (mul_tuple_zero l items k u h0) ⟨hl, h⟩)))
theorem two64 : (2 : Int) ^ 64 = 18446744073709551616 := by decide
theorem small_bits {k : Int} (h : k.natAbs < 1000000000) : Builtin.Int.intBits k ≤ 64 := by
  refine intBits_le_64 ?_ ?_
  · refine rwm (two64) ?_; omega
  · refine rwm (two64) ?_; omega
theorem add_lists' {l b : Addr} {vs ws : List Value} {Q : Value → Shared → Prop} (hl : PlainL s.heap l vs.toArray) (hb : PlainL s.heap b ws.toArray)
    (h : Q (.ref s.heap.objs.size) { s with heap := s.heap.push { cls := .type "list", data := .seq (vs ++ ws).toArray } }) (hsz : vs.length + ws.length ≤ sizeLine) : wpAny C.M A (binaryOp .Add (.ref l) (.ref b)) Q E s := by
  refine x8 (id hl) fun zz1 n ho hc _ hd => ?_
  obtain ⟨cls, dd, data, sl⟩ := zz1
  refine x8 (id hb) fun zz1 n2 ho2 hc2 _ hd2 => ?_
  obtain ⟨cls2, dd2, data2, sl2⟩ := zz1
  simp only at hc hd hc2 hd2
  subst hc hd hc2 hd2
  have e : vs.toArray ++ ws.toArray = (vs ++ ws).toArray := by simp
  refine concat_meets (w7 _ ho rfl) (w7 _ ho2 rfl) noFill_list_add seq_list_add PySem.F.slot_list_add PySem.F.entry_list_add (PySem.F.args_list_add_2 _ _) (list_addW l b vs.toArray ws.toArray n n2 dd dd2 sl sl2 (by simpa using hsz)) ⟨ho, ho2, ?_⟩
  refine rwm (e) ?_; exact h
theorem fz_get {h : Heap} {a : Addr} {o : Obj} (z : Fz W h a o) : h.get? a = some o := z.1
theorem newT_some {vs : List V} {v : V} (h : newT σ vs = some (v, σ')) : v = .tup vs ∧ σ' = σ ∧ vs.length ≤ 1000 := by
  unfold newT at h
  induction q : few vs using Bool.casesOn with
  | false => rw [q] at h; exact nsx h
  | true => rw [q] at h; (revert q; (first | refine sp3_g h ?_ | refine sp_g h ?_); intro q); exact ⟨rfl, rfl, few_le q⟩
theorem binop_ok {op : Operator} {a b v : V} {va vb : Value} {Q : Value → Shared → Prop} (h : binop op a b σ = some (v, σ')) (hr : Room A n) (R : StR C W σ s) (xa : VR C.toCx W s.heap a va) (xb : VR C.toCx W s.heap b vb)
    (q : ∀ W' s' v', Go C A [] W s W' s' → StR C W' σ' s' → VR C.toCx W' s'.heap v v' → Q v' s') : wpAny C.M A (binaryOp op va vb) Q E s := by
  have qi : ∀ {k : Int} {v : V} {σ' : St}, pair (mkI k) σ = some (v, σ') → (∀ W' s' v', Go C A [] W s W' s' → StR C W' σ' s' → VR C.toCx W' s'.heap v v' → Q v' s') → Q (.int k s.toks) { s with toks := s.toks + 1 } := by
    intro k v σ' h q
    refine w6 (pair_some h) fun u h1 h2 => ?_
    refine w8 (mkI_some h1) fun zz1 _ => ?_
    clear h1
    subst zz1
    first | ((refine w8 (Prod.mk.inj h2) fun zz1 zz2 => ?_; subst zz1; clear h h2; subst zz2)) | cases h2
    exact q _ _ _ (Go.tok _) (R.tok _) (.lit k _)
  induction op using Operator.casesOn with
  | Add =>
    induction a using V.casesOn with
    | int z =>
      induction z using Z.casesOn with
      | sym i => exact nsx h
      | lit x =>
        induction b using V.casesOn with
        | int z' =>
          induction z' using Z.casesOn with
          | sym i => exact nsx h
          | lit y =>
            replace xa := xa.inv
            refine w5 xa fun t zz1 => ?_
            clear xa
            subst zz1
            replace xb := xb.inv
            refine w5 xb fun u zz1 => ?_
            clear xb
            subst zz1
            exact PyProof.Rows.add_int (qi h q)
        | _ => exact nsx h
    | tup xs =>
      induction b using V.casesOn with
      | tup ys =>
        replace xa := xa.inv
        refine W6 xa fun _ _ _ z1 b1 r1 zz1 => ?_
        clear xa
        subst zz1
        replace xb := xb.inv
        refine W6 xb fun _ _ _ z2 b2 r2 zz1 => ?_
        clear xb
        subst zz1
        rename_i t n1 vs t2 n2 ws
        refine W2 (newT_some (show newT σ (xs ++ ys) = some (v, σ') from h)) fun zz1 zz2 hl => ?_
        subst zz1
        clear qi
        subst zz2
        have e : vs.toArray ++ ws.toArray = (vs ++ ws).toArray := by simp
        by_cases hv : vs = []
        · clear e
          subst hv
          clear b1 h hl
          obtain rfl := r1.nil_of
          exact concat_meets (w7 _ z1.1 rfl) (w7 _ z2.1 rfl) noFill_tuple_add seq_tuple_add PySem.F.slot_tuple_add PySem.F.entry_tuple_add (PySem.F.args_tuple_add_2 _ _)
            (tuple_addW0 t t2 _ _ n1 n2 none none #[] #[] (by simp)) ⟨z1.1, z2.1, q W s _ (.refl ..) R (.tup z2 b2 r2)⟩
        · by_cases hw : ws = []
          · clear e
            subst hw
            clear b2 h hl
            obtain rfl := r2.nil_of
            rw [List.append_nil] at q
            exact concat_meets (w7 _ z1.1 rfl) (w7 _ z2.1 rfl) noFill_tuple_add seq_tuple_add PySem.F.slot_tuple_add PySem.F.entry_tuple_add (PySem.F.args_tuple_add_2 _ _)
              (tuple_addW1 t t2 _ _ n1 n2 none none #[] #[] (by simpa using hv) (by simp)) ⟨z1.1, z2.1, q W s _ (.refl ..) R (.tup z1 b1 r1)⟩
          · have k := push_keeps s.heap { cls := .type "tuple", data := .seq (vs ++ ws).toArray }
            refine concat_meets (w7 _ z1.1 rfl) (w7 _ z2.1 rfl) noFill_tuple_add seq_tuple_add PySem.F.slot_tuple_add PySem.F.entry_tuple_add (PySem.F.args_tuple_add_2 _ _)
              (tuple_addW2 t t2 _ _ n1 n2 none none #[] #[] (by simpa using hv) (by simpa using hw) (by
                (refine rwm (List.size_toArray) ?_; refine rwm (List.size_toArray) ?_; refine rwm (VRs.length r1) ?_; refine rwm (VRs.length r2) ?_)
                rw [List.length_append] at hl
                exact le_sizeLine hl)) ⟨z1.1, z2.1, ?_⟩
            refine rwm (e) ?_
            refine q W _ _ (Go.grow (tk := s.toks) k) (R.grow (tk := s.toks) k) (.tup (R.fz_push rfl rfl) hl ?_)
            exact (r1.append r2).mono (.refl _ _) (.of (fun _ => False) (fun _ => False) fun b o e _ => k b o e) (fun _ t => t.elim) (fun _ t => t.elim)
      | _ => exact nsx h
    | lst i =>
      induction b using V.casesOn with
      | lst j =>
        refine bd_e (show bd (σ.list i) _ = some (v, σ') from h) fun xs e1 h => ?_
        refine bd_e h fun ys e2 h => ?_
        refine X0 (xa.list R e1) fun a1 vs zz1 _ p1 r1 l1 => ?_
        clear xa
        subst zz1
        refine X0 (xb.list R e2) fun a2 ws zz1 _ p2 r2 l2 => ?_
        clear xb
        subst zz1
        refine add_lists' p1 p2 (newL_ok (A := A) h R (r1.append r2) q).2 ?_
        (refine rwm (VRs.length r1) ?_; refine rwm (VRs.length r2) ?_)
        have : sizeLine = 16777216 := by decide
        omega
      | _ => exact nsx h
    | _ => exact nsx h
  | Sub =>
    induction a using V.casesOn with
    | int z =>
      induction z using Z.casesOn with
      | sym i => exact nsx h
      | lit x =>
        induction b using V.casesOn with
        | int z' =>
          induction z' using Z.casesOn with
          | sym i => exact nsx h
          | lit y =>
            replace xa := xa.inv
            refine w5 xa fun t zz1 => ?_
            clear xa
            subst zz1
            replace xb := xb.inv
            refine w5 xb fun u zz1 => ?_
            clear xb
            subst zz1
            exact PyProof.Rows.sub_int (qi h q)
        | _ => exact nsx h
    | _ => exact nsx h
  | Mult =>
    induction a using V.casesOn with
    | int z =>
      induction z using Z.casesOn with
      | sym i => exact nsx h
      | lit x =>
        induction b using V.casesOn with
        | int z' =>
          induction z' using Z.casesOn with
          | sym i => exact nsx h
          | lit y =>
            replace xa := xa.inv
            refine w5 xa fun t zz1 => ?_
            clear xa
            subst zz1
            replace xb := xb.inv
            refine w5 xb fun u zz1 => ?_
            clear xb
            subst zz1
            have h' : pair (mkI (x * y)) σ = some (v, σ') := h
            refine PyProof.Rows.mul_int (qi h' q) ?_
            replace h' := pair_some h'
            refine w6 h' fun u h1 h2 => ?_
            clear h'
            refine w8 (mkI_some h1) fun _ hs => ?_
            by_cases hx : x.natAbs < 1000000000
            · exact IntMulOk.of_left (small_bits hx)
            · by_cases hy : y.natAbs < 1000000000
              · exact IntMulOk.of_right (small_bits hy)
              · rw [Int.natAbs_mul] at hs
                have := Nat.mul_le_mul (Nat.le_of_not_lt hx) (Nat.le_of_not_lt hy)
                omega
        | _ => exact nsx h
    | tup xs =>
      induction b using V.casesOn with
      | int z' =>
        induction z' using Z.casesOn with
        | sym i => clear xa; induction xs using List.casesOn <;> exact nsx h
        | lit y =>
          induction xs using List.casesOn with
          | nil => exact nsx h
          | cons x xs =>
            induction xs using List.casesOn with
            | cons x' xs => exact nsx h
            | nil =>
              have h2 : (match decide (y = 0) with | true => newT σ [] | false => none) = some (v, σ') := h
              induction hy : decide (y = 0) using Bool.casesOn with
              | false => rw [hy] at h2; exact nsx h2
              | true =>
                rw [hy] at h2
                have := of_decide_eq_true hy
                clear hy
                subst this
                refine W2 (newT_some h2) fun zz1 zz2 hl => ?_
                subst zz1
                clear h h2 qi
                subst zz2
                replace xa := xa.inv
                refine W6 xa fun _ _ _ z1 b1 r1 zz1 => ?_
                clear xa
                subst zz1
                replace xb := xb.inv
                refine w5 xb fun u zz1 => ?_
                clear xb
                subst zz1
                obtain ⟨_, _, r1, r2, rfl⟩ := r1.invC
                · obtain rfl := r2.invN
                  have k := push_keeps s.heap { cls := .type "tuple", data := .seq #[] }
                  exact mul_tuple0 z1.1 rfl (q W _ _ (Go.grow (tk := s.toks) k) (R.grow (tk := s.toks) k) (.tup (n := 0) (vs := []) (R.fz_push rfl rfl) hl .nil))
      | _ => clear xa; induction xs using List.casesOn <;> exact nsx h
    | _ => exact nsx h
  | FloorDiv =>
    induction a using V.casesOn with
    | int z =>
      induction z using Z.casesOn with
      | sym i => exact nsx h
      | lit x =>
        induction b using V.casesOn with
        | int z' =>
          induction z' using Z.casesOn with
          | sym i => exact nsx h
          | lit y =>
            replace xa := xa.inv
            refine w5 xa fun t zz1 => ?_
            clear xa
            subst zz1
            replace xb := xb.inv
            refine w5 xb fun u zz1 => ?_
            clear xb
            subst zz1
            have h : (match decide (0 < y) && small y with | true => pair (mkI (Int.fdiv x y)) σ | false => none) = some (v, σ') := h
            induction hy : decide (0 < y) && small y using Bool.casesOn with
            | false => rw [hy] at h; exact nsx h
            | true =>
              rw [hy] at h
              refine w8 (Bool.and_eq_true_iff.mp hy) fun h1 h2 => ?_
              have h1 := of_decide_eq_true h1
              have h2 : y.natAbs < 1000000000 := Nat.le_of_ble_eq_true h2
              exact floordiv_int (by omega) (qi h q) (.inl (PyProof.noPylong_small (by omega)))
        | _ => exact nsx h
    | _ => exact nsx h
  | Mod =>
    induction a using V.casesOn with
    | int z =>
      induction z using Z.casesOn with
      | sym i => exact nsx h
      | lit x =>
        induction b using V.casesOn with
        | int z' =>
          induction z' using Z.casesOn with
          | sym i => exact nsx h
          | lit y =>
            replace xa := xa.inv
            refine w5 xa fun t zz1 => ?_
            clear xa
            subst zz1
            replace xb := xb.inv
            refine w5 xb fun u zz1 => ?_
            clear xb
            subst zz1
            have h : (match decide (0 < y) && small y with | true => pair (mkI (Int.fmod x y)) σ | false => none) = some (v, σ') := h
            induction hy : decide (0 < y) && small y using Bool.casesOn with
            | false => rw [hy] at h; exact nsx h
            | true =>
              rw [hy] at h
              refine w8 (Bool.and_eq_true_iff.mp hy) fun h1 h2 => ?_
              have h1 := of_decide_eq_true h1
              have h2 : y.natAbs < 1000000000 := Nat.le_of_ble_eq_true h2
              exact mod_int' (by omega) (qi h q)
        | _ => exact nsx h
    | _ => exact nsx h
  | _ => exact nsx h
theorem placeOf_seq {k : Int} {n j : Nat} (h : placeOf k n = some j) : seqIndex? k n = some j ∧ j < n ∧ (0 ≤ k → j = k.toNat) ∧ (k < 0 → -(n : Int) ≤ k ∧ j = (k + n).toNat) := by
  induction k using Int.casesOn with
  | ofNat a =>
    have h : (match Nat.blt a n with | true => some a | false => none) = some j := h
    induction q : Nat.blt a n using Bool.casesOn with
    | false => rw [q] at h; exact nsx h
    | true =>
      rw [q] at h; cases h
      have hl : j < n := Nat.le_of_ble_eq_true q
      refine (X9 ?_ hl (fun _ => rfl) (fun h => ?_))
      · unfold seqIndex?
        have h1 : ¬ ((Int.ofNat j) < 0) := by simp
        have h2 : (decide (0 ≤ Int.ofNat j) && decide (Int.ofNat j < (n : Int))) = true := by
          simp; exact hl
        simp only [h1, if_false]
        refine rwm (if_pos h2) ?_; rfl
      · exact absurd h (by simp)
  | negSucc a =>
    have h : (match Nat.blt a n with | true => some (n - (a + 1)) | false => none) = some j := h
    induction q : Nat.blt a n using Bool.casesOn with
    | false => rw [q] at h; exact nsx h
    | true =>
      rw [q] at h; (revert h; refine sm_r fun zz => ?_; subst zz)
      have hl : a < n := Nat.le_of_ble_eq_true q
      have e : Int.negSucc a = -((a : Int) + 1) := by omega
      refine (X9 ?_ (by omega) (fun h => absurd h (by refine rwm (e) ?_; omega)) (fun _ => ⟨by omega, by omega⟩))
      unfold seqIndex?
      have h1 : (Int.negSucc a) < 0 := by omega
      simp only [h1, if_true]
      have h2 : (decide (0 ≤ Int.negSucc a + (n : Int)) && decide (Int.negSucc a + (n : Int) < (n : Int))) = true := by
        simp only [Bool.and_eq_true, decide_eq_true_eq]; omega
      refine rwm (if_pos h2) ?_
      congr 1
      omega
theorem itemL_some {l : List V} {k : Int} {v : V} (h : itemL l k = some v) : ∃ j, placeOf k l.length = some j ∧ l[j]? = some v := bd_some h
theorem sliceOf_some {i : Expr} {lo hi : Option Expr} (h : sliceOf i = some (lo, hi)) : ∃ p, i = .Slice lo hi none p := view_some (o := vSlice0 i) h
theorem sliceOf_none {i : Expr} (h : sliceOf i = none) (o v : Value) : subscripted i false o v = operate [o, v] (getItem o v) := by
  induction i using Expr.casesOn with
  | Slice a b c p =>
    induction c using Option.casesOn with
    | none => exact snx h
    | some c => rfl
  | _ => rfl
theorem small_bound {k : Int} (h : small k = true) : -(2 ^ 63) ≤ k ∧ k < 2 ^ 63 := by
  have h : k.natAbs < 1000000000 := Nat.le_of_ble_eq_true h
  have : (2 : Int) ^ 63 = 9223372036854775808 := by decide
  refine rwm (this) ?_
  omega
theorem item_ok {o i v : V} {vo vi : Value} {value slice : Expr} {Q : Value → Shared → Prop} (h : item o i σ = some v) (hs : sliceOf slice = none) (R : StR C W σ s) (xo : VR C.toCx W s.heap o vo) (xi : VR C.toCx W s.heap i vi)
    (q : ∀ tk v', VR C.toCx W s.heap v v' → Q v' { s with toks := tk }) : wpAny C.M A (subscriptTail value slice vo vi) Q E s := by
  induction o using V.casesOn with
  | tup l =>
    induction i using V.casesOn with
    | int z =>
      induction z using Z.casesOn with
      | sym j => exact nsx h
      | lit k =>
        have h : (match small k with | true => itemL l k | false => none) = some v := h
        induction hk : small k using Bool.casesOn with
        | false => rw [hk] at h; exact nsx h
        | true =>
          rw [hk] at h
          refine w6 (itemL_some h) fun j h1 h2 => ?_
          refine w8 (small_bound hk) fun hb1 hb2 => ?_
          replace xo := xo.inv
          refine W6 xo fun _ _ _ z b rs zz1 => ?_
          clear xo
          subst zz1
          replace xi := xi.inv
          refine w5 xi fun u zz1 => ?_
          clear xi
          subst zz1
          refine w6 (rs.get h2) fun v' e x => ?_
          have hl := VRs.length rs
          exact item_tupleT (Y5 _ z.1 rfl _ rfl) hb1 hb2 (by refine rwm (hl) ?_; exact (placeOf_seq h1).1) e (q s.toks v' x) (sliceOf_none hs _ _)
    | _ => exact nsx h
  | lst a =>
    induction i using V.casesOn with
    | int z =>
      induction z using Z.casesOn with
      | sym j => exact nsx h
      | lit k =>
        have h : (match small k with | true => bd (σ.list a) fun l => itemL l k | false => none) = some v := h
        induction hk : small k using Bool.casesOn with
        | false => rw [hk] at h; exact nsx h
        | true =>
          rw [hk] at h
          refine bd_e h fun l h0 h => ?_
          refine w6 (itemL_some h) fun j h1 h2 => ?_
          refine w8 (small_bound hk) fun hb1 hb2 => ?_
          refine X0 (xo.list R h0) fun ad vs zz1 _ p rs _ => ?_
          clear xo
          subst zz1
          replace xi := xi.inv
          refine w5 xi fun u zz1 => ?_
          clear xi
          subst zz1
          refine w6 (rs.get h2) fun v' e x => ?_
          have hl := VRs.length rs
          refine Y6 (placeOf_seq h1) fun _ hj g0 g1 => ?_
          refine tail_any p.isList.typeIs PySem.slot_list_getitem.lookup ?_ (sliceOf_none hs _ _)
          by_cases hn : 0 ≤ k
          · exact wpAny_getItem_list p.isList hn hb2 (by refine rwl (g0 hn) ?_; simpa using e) (q s.toks v' x)
          · refine w8 (g1 (by omega)) fun g2 g3 => ?_
            refine wpAny_getItem_list_neg p.isList (by omega) ?_ hb1 ?_ (q s.toks v' x)
            · (refine rwm (List.size_toArray) ?_; refine rwm (hl) ?_); exact g2
            · (refine rwm (List.size_toArray) ?_; refine rwm (hl) ?_; refine rwl (g3) ?_); simpa using e
    | _ => exact nsx h
  | dct l =>
    induction i using V.casesOn with
    | str x =>
      have h : look x l = some v := h
      replace xo := xo.inv
      refine X0 xo fun _ _ D ns hk rd zz1 => ?_
      clear xo
      subst zz1
      replace xi := xi.inv
      refine w5 xi fun t zz1 => ?_
      clear xi
      subst zz1
      refine w6 D fun o z hm => ?_
      clear D
      refine w6 (rd.look h) fun v' e xv => ?_
      exact tail_any (hm _ z.1).typeIs slot_dict_getitem.lookup (wpAny_getItem_of (knd := strKind C.prog C.w) (strKind_is _ _ x t) (hm _ z.1) e (q _ v' xv)) (sliceOf_none hs _ _)
    | _ => exact nsx h
  | _ => exact nsx h
theorem adjust_lo (a n : Nat) : Builtin.Slice.sliceAdjust (some (a : Int)) none 1 (n : Int) = (((min a n : Nat) : Int), (n : Int)) := by
  unfold Builtin.Slice.sliceAdjust
  have h1 : ¬ ((1 : Int) < 0) := by omega
  have h2 : ¬ ((a : Int) < 0) := by omega
  simp only [h1, h2, if_false]
  congr 1
  omega
theorem adjust_hi (b n : Nat) : Builtin.Slice.sliceAdjust none (some (b : Int)) 1 (n : Int) = ((0 : Int), ((min b n : Nat) : Int)) := by
  unfold Builtin.Slice.sliceAdjust
  have h1 : ¬ ((1 : Int) < 0) := by omega
  have h2 : ¬ ((b : Int) < 0) := by omega
  simp only [h1, h2, if_false]
  congr 1
  omega
theorem places_one (a b : Nat) : Builtin.Slice.slicePlaces (a : Int) (b : Int) 1 = b - a := by
  unfold Builtin.Slice.slicePlaces
  have h1 : (1 : Int) > 0 := by omega
  simp only [h1, if_true, Int.ediv_one]
  split <;> omega
theorem pick_at (xs : Array Value) (a k : Nat) : ((List.range k).filterMap fun (j : Nat) => xs[((a : Int) + (j : Int) * 1).toNat]?).toArray = ((xs.toList.drop a).take k).toArray := by
  have e : (fun (j : Nat) => xs[((a : Int) + (j : Int) * 1).toNat]?) = fun j => xs[a + j]? := by
    funext j
    have : ((a : Int) + (j : Int) * 1).toNat = a + j := by omega
    exact rwm (this) rfl
  refine rwm (e) ?_
  have := pick_run xs a k
  rw [List.filterMap_map] at this
  have e2 : ((fun x => xs[x]?) ∘ fun x => a + x) = fun j => xs[a + j]? := rfl
  rw [e2] at this
  exact rwm (this) rfl
theorem getItem_tuple_part {t sl : Addr} {items : Array Value} {vl vu : Value} {lo hi : Option Int} {a b : Nat} {Q : Value → Shared → Prop} (ht : IsTup s.heap t items) (hs : s.heap.IsSliceOf sl vl vu .none) (pl : IsPart vl lo) (pu : IsPart vu hi)
    (had : Builtin.Slice.sliceAdjust lo hi 1 (items.size : Int) = ((a : Int), (b : Int)))
    (h1 : a = 0 → b = items.size → Q (.ref t) s)
    (h2 : Q (.ref s.heap.objs.size) { s with heap := s.heap.push { cls := .type "tuple", data := .seq ((items.toList.drop a).take (b - a)).toArray } })
    (hsz : items.size ≤ sizeLine) : wpAny C.M A (getItem (.ref t) (.ref sl)) Q E s := by
  have part : ∀ {A : Around} {E : Value → Shared → Prop} {v : Value} {p : Option Int} {Q : Option Int → Shared → Prop}, IsPart v p → Q p s → wpAny C.M A (Builtin.Slice.slicePartIndex v) Q E s := by
    intro A E v p Q hp hq
    cases hp with
    | none => exact slicePart_none hq
    | int i u => exact slicePart_int hq
  have applied : ∀ {A : Around} {E : Value → Shared → Prop} {Q : (Int × Int × Nat) → Shared → Prop}, Q ((a : Int), (1 : Int), b - a) s → wpAny C.M A (Builtin.Slice.sliceApplied (.ref sl) (pure (items.size : Int))) Q E s := by
    intro A E Q h
    refine W3 (id hs) fun os hos hcs hds => ?_
    unfold Builtin.Slice.sliceApplied Builtin.Slice.sliceFields
    refine wpAny_bind (wpAny_bind (wpAny_field hos hds (x := vl) rfl (wpAny_bind (wpAny_field hos hds (x := vu) rfl (wpAny_bind (wpAny_field hos hds (x := .none) rfl (wpAny_pure ?_)))))))
    refine wpAny_bind (slicePart_none ?_)
    refine (?_ : wpAny _ _ (if ((1 : Int) == 0) = true then _ else _) _ _ s)
    refine rwm (if_neg (by decide)) ?_
    refine wpAny_bind (part pl (wpAny_bind (part pu (wpAny_bind (wpAny_pure ?_)))))
    refine (?_ : wpAny _ _ (match Builtin.Slice.sliceAdjust lo hi 1 (items.size : Int) with | (lo, hi) => pure (lo, (1 : Int), Builtin.Slice.slicePlaces lo hi 1)) _ _ s)
    refine rwm (had) ?_
    refine (?_ : wpAny _ _ (pure ((a : Int), (1 : Int), Builtin.Slice.slicePlaces (a : Int) (b : Int) 1)) _ _ s)
    refine rwm (places_one a b) ?_
    exact wpAny_pure h
  have hdrop : sizeOk (.seq ((items.toList.drop a).take (b - a)).toArray) := by
    refine (?_ : ((items.toList.drop a).take (b - a)).toArray.size ≤ sizeLine)
    (refine rwm (List.size_toArray) ?_; refine rwm (List.length_take) ?_; refine rwm (List.length_drop) ?_; refine rwm (Array.length_toList) ?_)
    omega
  refine W3 (id hs) fun os hos hcs hds => ?_
  have hTs : s.TypeIs (.ref sl) "slice" := (w7 os hos hcs)
  unfold getItem
  try with_reducible refine wpAny_holding ?_
  first | refine wpAny_bind (wpAny_pure ?_) | skip
  refine wpAny_bind (wpAny_sequenceKey ht.typeIs (by decide) ?_)
  refine wpAny_bind (wpAny_callSpecial?_slot (name := Str.ofString "__getitem__") ht.typeIs PyProof.Rows.slot_tuple_getitem
    (wpAny_call_entry PyProof.Rows.slot_tuple_getitem ht.typeIs PyProof.Rows.entry_tuple_getitem ?_ (PyProof.Rows.args_tuple_getitem _ _)))
  refine (?_ : wpAny _ _ (Builtin.Tuple.tupleItemsOf (.ref t) >>= _) _ _ s)
  refine wpAny_bind (tupleItemsOf_ ht ?_)
  refine wpAny_bind (wpAny_typeOf hTs ?_)
  refine rwm (if_pos (by decide)) ?_
  refine wpAny_bind (applied ?_)
  refine (?_ : wpAny _ _ (if ((a : Int) == 0 && (1 : Int) == 1 && (b - a) == items.size) = true then _ else _) _ _ s)
  by_cases hw : ((a : Int) == 0 && (1 : Int) == 1 && (b - a) == items.size) = true
  · refine rwm (if_pos hw) ?_
    have q1 := Bool.and_eq_true_iff.mp hw
    have q2 := (Bool.and_eq_true_iff.mp q1.1).1
    have e1 : a = 0 := by have := eq_of_beq q2; omega
    have e2 : b = items.size := by have := eq_of_beq q1.2; omega
    refine wpAny_bind (m := Builtin.Tuple.tupleIsExact _) (wpAny_bind (wpAny_typeOf ht.typeIs (wpAny_pure ?_)))
    refine rwm (if_pos (by decide)) ?_
    refine wpAny_bind ?_
    first
      | exact wpAny_pure (wpAny_pure (w7 _ rfl (wpAny_pure (h1 e1 e2))))
      | exact wpAny_pure ⟨_, rfl, wpAny_pure (h1 e1 e2)⟩
      | exact wpAny_rule (wpAny_pure (w7 _ rfl (wpAny_pure (h1 e1 e2))))
      | exact wpAny_rule (wpAny_bind (wpAny_pure (wpAny_pure ⟨_, rfl, wpAny_pure (h1 e1 e2)⟩)))
  · (refine rwm (if_neg hw) ?_; refine rwm (pick_at items a (b - a)) ?_)
    first
      | exact wpAny_bind (m := Builtin.Tuple.tupleExact _) (wpAny_newObj_type (wpAny_pure (w7 _ rfl (wpAny_pure h2))) hdrop)
      | exact wpAny_bind (m := Builtin.Tuple.tupleExact _) (wpAny_newObj_type (wpAny_bind (wpAny_pure (wpAny_pure ⟨_, rfl, wpAny_pure h2⟩))) hdrop)
      | exact wpAny_bind (wpAny_bind (m := Builtin.Tuple.tupleExact _) (wpAny_newObj_type (wpAny_pure (wpAny_pure ⟨_, rfl, wpAny_pure h2⟩)) hdrop))
      | exact wpAny_bind (wpAny_bind (m := Builtin.Tuple.tupleExact _) (wpAny_newObj_type (wpAny_pure ⟨_, rfl, wpAny_pure h2⟩) hdrop))
noncomputable def PartR (o : Option Nat) (v : Value) : Prop := (o = none ∧ v = .none) ∨ ∃ a t, o = some a ∧ v = .int (a : Int) t
theorem PartR.is {o : Option Nat} {v : Value} (p : PartR o v) : IsPart v (o.map fun a => (a : Int)) := by
  rcases p with ⟨rfl, rfl⟩ | ⟨a, t, rfl, rfl⟩
  · exact .none
  · exact .int _ _
theorem cut_some {l l' : List V} {lo hi : Option Nat} (h : cut l lo hi = some l') : (∃ a, lo = some a ∧ hi = none ∧ l' = l.drop a) ∨ (∃ b, lo = none ∧ hi = some b ∧ l' = l.take b) := by
  induction lo using Option.casesOn with
  | some a =>
    induction hi using Option.casesOn with
    | some b => exact nsx h
    | none => (revert h; refine sm_r fun zz => ?_; subst zz); exact .inl (W4 a rfl rfl rfl)
  | none =>
    induction hi using Option.casesOn with
    | some b => (revert h; refine sm_r fun zz => ?_; subst zz); exact .inr (W4 b rfl rfl rfl)
    | none => exact nsx h
theorem slice_ok {o v : V} {lo hi : Option Nat} {vo vl vu : Value} {value : Expr} {elo ehi : Option Expr} {p : Pos} {Q : Value → Shared → Prop} (h : slice o lo hi σ = some (v, σ')) (R : StR C W σ s) (xo : VR C.toCx W s.heap o vo) (pl : PartR lo vl) (pu : PartR hi vu)
    (q : ∀ W' s' v', Go C A [] W s W' s' → StR C W' σ' s' → VR C.toCx W' s'.heap v v' → Q v' s') :
    wpAny C.M A (subscriptTail value (.Slice elo ehi none p) vo (.ref s.heap.objs.size)) Q E { s with heap := s.heap.push { cls := .type "slice", data := .fields #[vl, vu, .none] } } := by
  have k := push_keeps s.heap { cls := .type "slice", data := .fields #[vl, vu, .none] }
  have g0 : Go C A [] W s W { s with heap := s.heap.push { cls := .type "slice", data := .fields #[vl, vu, .none] } } := Go.grow (tk := s.toks) k
  have R0 : StR C W σ { s with heap := s.heap.push { cls := .type "slice", data := .fields #[vl, vu, .none] } } := R.grow (tk := s.toks) k
  have up : ∀ {ds : List V} {vs : List Value}, VRs C.toCx W s.heap ds vs → VRs C.toCx W (s.heap.push { cls := .type "slice", data := .fields #[vl, vu, .none] }) ds vs := fun r => r.mono (.refl _ _) (.of (fun _ => False) (fun _ => False) fun b o e _ => k b o e) (fun _ t => t.elim) (fun _ t => t.elim)
  induction o using V.casesOn with
  | tup l =>
    have h : (bd (cut l lo hi) fun l => newT σ l) = some (v, σ') := h
    refine bd_e h fun l' h1 h2 => ?_
    replace xo := xo.inv
    refine W6 xo fun a n vs z b rs zz1 => ?_
    clear xo
    subst zz1
    have rs' := up rs
    have hl := VRs.length rs
    have ht : IsTup { s with heap := s.heap.push { cls := .type "slice", data := .fields #[vl, vu, .none] } }.heap a vs.toArray := (Y5 _ (k _ _ z.1) rfl _ rfl)
    have hz : Fz W (s.heap.push { cls := .type "slice", data := .fields #[vl, vu, .none] }) a { cls := .type "tuple", data := .seq vs.toArray n } := z.mono (.refl _ _) (.of (fun _ => False) (fun _ => False) fun b o e _ => k b o e) (fun _ t => t.elim) (fun _ t => t.elim)
    have hsz : vs.toArray.size ≤ sizeLine := by (refine rwm (List.size_toArray) ?_; refine rwm (hl) ?_); exact le_sizeLine b
    obtain ⟨hn, hv, hs⟩ : few l' = true ∧ v = .tup l' ∧ σ' = σ := by
      unfold newT at h2
      induction hf : few l' using Bool.casesOn with
      | false => rw [hf] at h2; exact nsx h2
      | true => rw [hf] at h2; (revert q; (first | refine sp3_g h2 ?_ | refine sp_g h2 ?_); intro q); exact ⟨rfl, rfl, rfl⟩
    clear R
    subst hs
    refine tail_any ht.typeIs PyProof.Rows.slot_tuple_getitem.lookup ?_ (ops := [.ref s.heap.objs.size, .ref a]) (by with_unfolding_all rfl)
    clear h hn
    rcases cut_some h1 with ⟨a', rfl, rfl, rfl⟩ | ⟨b', rfl, rfl, rfl⟩
    · refine getItem_tuple_part ht (Heap.IsSliceOf.new ..) pl.is pu.is (adjust_lo a' _) (fun e1 e2 => ?_) ?_ hsz
      · refine q _ _ _ g0 R0 ?_
        have e3 : l.drop a' = l := by
          rw [List.size_toArray] at e1
          have : a' = 0 ∨ vs.length = 0 := by omega
          rcases this with e | e
          · refine rwm (e) ?_; rfl
          · rw [hl] at e; refine rwm (List.length_eq_zero_iff.mp e) ?_; simp
        (refine rwm (hv) ?_; refine rwm (e3) ?_)
        exact .tup hz b rs'
      · have rd := rs'.drop a'
        have e4 : (List.take (vs.toArray.size - min a' vs.toArray.size) (List.drop (min a' vs.toArray.size) vs.toArray.toList)) = vs.drop a' := by
          (refine rwm (List.size_toArray) ?_; refine rwm (List.take_of_length_le (by simp)) ?_)
          rcases Nat.le_total a' vs.length with e | e
          · exact rwm (Nat.min_eq_left e) rfl
          · (refine rwm (Nat.min_eq_right e) ?_; refine rwm (List.drop_of_length_le (by simp)) ?_; exact rwm (List.drop_of_length_le (by simpa using e)) rfl)
        refine rwm (e4) ?_
        exact (newT_ok (A := A) h2 R0 rd fun s' v' g R' r' => q _ _ _ (g0.trans g) R' r').2
    · refine getItem_tuple_part ht (Heap.IsSliceOf.new ..) pl.is pu.is (adjust_hi b' _) (fun e1 e2 => ?_) ?_ hsz
      · refine q _ _ _ g0 R0 ?_
        have e3 : l.take b' = l := by
          rw [List.size_toArray, hl] at e2
          exact List.take_of_length_le (by omega)
        (refine rwm (hv) ?_; refine rwm (e3) ?_)
        exact .tup hz b rs'
      · have rd := rs'.take b'
        have e4 : (List.take (min b' vs.toArray.size - 0) (List.drop 0 vs.toArray.toList)) = vs.take b' := by
          (refine rwm (List.size_toArray) ?_; refine rwm (Nat.sub_zero ..) ?_; refine rwm (List.drop_zero) ?_)
          rcases Nat.le_total b' vs.length with e | e
          · exact rwm (Nat.min_eq_left e) rfl
          · (refine rwm (Nat.min_eq_right e) ?_; refine rwm (List.take_of_length_le (by simp)) ?_; exact rwm (List.take_of_length_le (by simpa using e)) rfl)
        refine rwm (e4) ?_
        exact (newT_ok (A := A) h2 R0 rd fun s' v' g R' r' => q _ _ _ (g0.trans g) R' r').2
  | lst a =>
    have h : (bd (σ.list a) fun l => bd (cut l lo hi) fun l => newL σ l) = some (v, σ') := h
    refine bd_e h fun l h0 h => ?_
    refine bd_e h fun l' h1 h2 => ?_
    have xo' : VR C.toCx W (s.heap.push { cls := .type "slice", data := .fields #[vl, vu, .none] }) (.lst a) vo := xo.mono (.refl _ _) (.of (fun _ => False) (fun _ => False) fun b o e _ => k b o e) (fun _ t => t.elim) (fun _ t => t.elim)
    refine X0 (VR.list R0 h0 xo') fun ad vs zz1 _ p rs hb => ?_
    clear xo xo'
    subst zz1
    refine tail_any p.isList.typeIs PySem.slot_list_getitem.lookup ?_ (ops := [.ref s.heap.objs.size, .ref ad]) (by with_unfolding_all rfl)
    have hsz : vs.toArray.size ≤ sizeLine := by (refine rwm (List.size_toArray) ?_; refine rwm (VRs.length rs) ?_); exact le_sizeLine hb
    refine wpAny_getItem_list_slice p.isList (Heap.IsSliceOf.new ..) pl.is pu.is .none (by simp) ?_ hsz
    clear h pl pu
    rcases cut_some h1 with ⟨a', rfl, rfl, rfl⟩ | ⟨b', rfl, rfl, rfl⟩
    · show Q _ { s with heap := (s.heap.push _).push { cls := .type "list", data := .seq (slicePick vs.toArray (some (a' : Int)) none none) } }
      refine rwm (slicePick_from' ..) ?_
      exact (newL_ok (A := A) h2 R0 (rs.drop a') fun W' s' v' g R' r' => q _ _ _ (g0.trans g) R' r').2
    · show Q _ { s with heap := (s.heap.push _).push { cls := .type "list", data := .seq (slicePick vs.toArray none (some (b' : Int)) none) } }
      refine rwm (slicePick_upto' ..) ?_
      exact (newL_ok (A := A) h2 R0 (rs.take b') fun W' s' v' g R' r' => q _ _ _ (g0.trans g) R' r').2
  | _ => exact nsx h
end
structure Gr (C : Cy) (X : Tx) : Prop where
  kept : ∀ {x : Str} {a : Addr}, C.addr x = some a → ∀ h, Gd C h → ∃ k, (k = Keeper.frame ∨ k = Keeper.machine ∨ k = Keeper.boundFrame) ∧ Looks C.M h (keeperOf (.ref a)) k
  meth : ∀ {o : V} {a : Str} {f : V} {first : List V}, methOf X o a = some (f, first) → ∀ {A : Around} {W : Wd} {σ : St} {s : Shared} {vo : Value} {pl : Sem Bool} {Q : Value × List Value → Shared → Prop} {E : Value → Shared → Prop}, StR C W σ s → VR C.toCx W s.heap o vo →
    (∀ vf vfs tk, VR C.toCx W s.heap f vf → VRs C.toCx W s.heap first vfs → Q (vf, vfs) { s with toks := tk }) → wpAny C.M A (getMethod vo a pl) Q E s
  types : ∀ {x : Str} {t : String}, (x = "zip" ∧ t = "zip") ∨ (x = "enumerate" ∧ t = "enumerate") ∨ (x = "list" ∧ t = "list") → ∀ {A : Around} {W : Wd} {σ : St} {s : Shared} {env : Env} {Q : Value → Shared → Prop} {E : Value → Shared → Prop}, StR C W σ s →
    env.scope.kind = .function → env.kindOf x = some .globalImplicit → env.globals = mainGlobals → env.builtins = builtinsNs → Q (.type t) s → wpAny C.M A (loadName env x) Q E s
  sys : ∃ o, C.h₀.get? mainGlobals = some o
  glob : ∀ {x : Str} {v : V}, X.glob x = some v → ∀ {A : Around} {W : Wd} {σ : St} {s : Shared} {env : Env} {Q : Value → Shared → Prop} {E : Value → Shared → Prop}, StR C W σ s →
    env.scope.kind = .function → env.kindOf x = some .globalImplicit → env.globals = mainGlobals → env.builtins = builtinsNs → (∀ v', VR C.toCx W s.heap v v' → Q v' s) → wpAny C.M A (loadName env x) Q E s
  attr : ∀ {o : V} {a : Str} {v : V}, attrOf X o a = some v → ∀ {A : Around} {W : Wd} {σ : St} {s : Shared} {vo : Value} {Q : Value → Shared → Prop} {E : Value → Shared → Prop}, StR C W σ s → VR C.toCx W s.heap o vo →
    (∀ v' tk, VR C.toCx W s.heap v v' → Q v' { s with toks := tk }) → wpAny C.M A (getAttr vo a true) Q E s
theorem dunder_debug {x : Str} (h : dunder x = false) : (x == ("__debug__" : Str)) = false := by
  induction q : x == ("__debug__" : Str) using Bool.casesOn with
  | false => rfl
  | true => rw [eq_of_beq q] at h; exact absurd h (by decide +kernel)
theorem dunder_classdict {x : Str} (h : dunder x = false) : (x == ("__classdict__" : Str)) = false := by
  induction q : x == ("__classdict__" : Str) using Bool.casesOn with
  | false => rfl
  | true => rw [eq_of_beq q] at h; exact absurd h (by decide +kernel)
theorem notSet_marks {op : CmpOp} {e : Expr} (h : isSet e = false) : behindInMarks op e = false := by
  induction e using Expr.casesOn <;> first | rfl | exact tfx h
theorem lastMarks_of : ∀ (ops : List CmpOp) (es : List Expr), es.any isSet = false → lastMarks ops es = false
  | [], _, _ => by simp [lastMarks]
  | [_], [], _ => by simp [lastMarks]
  | [op], [e], h => by
    have : isSet e = false := by simpa using h
    simpa [lastMarks] using notSet_marks (op := op) this
  | [_], _ :: _ :: _, h => by simp [lastMarks]
  | _ :: _ :: _, [], _ => by simp [lastMarks]
  | _ :: o :: ops, e :: es, h => by
    have h' : es.any isSet = false := by
      rw [List.any_cons] at h
      induction q : es.any isSet using Bool.casesOn with
      | false => rfl
      | true => rw [q] at h; simp at h
    have := lastMarks_of (o :: ops) es h'
    clear h h'
    induction es using List.casesOn <;> simpa [lastMarks] using this
section
variable {C : Cy} {X : Tx} {A : Around} {own : List Addr} {W W' W₁ : Wd} {s s' s₁ : Shared} {σ σ' : St} {env : Env} {ρ : Fr} {r : Rec} {n : Nat} {E : Value → Shared → Prop}
theorem name_ok (G : Gr C X) {x : Str} {p : Pos} {v : V} {Q : Value → Shared → Prop} (hd : dunder x = false)
    (h : (match look x ρ.vars with | some v => some (v, σ) | none => match isGlob x ρ with | true => pair (X.glob x) σ | false => none) = some (v, σ')) (F : FrR C A W env own ρ s.heap) (R : StR C W σ s)
    (q : ∀ W' s' v', Go C A [] W s W' s' → StR C W' σ' s' → VR C.toCx W' s'.heap v v' → Q v' s') : wpAny C.M A (eval (.Name x p) env) Q E s := by
  refine wpAny_Name ?_ (dunder_debug hd)
  induction hl : look x ρ.vars using Option.casesOn with
  | some v₀ =>
    rw [hl] at h; (revert q; (first | refine sp3_g h ?_ | refine sp_g h ?_); intro q)
    by_cases hk : env.kindOf x = some .local
    · refine w6 (F.ns) fun m hm hv => ?_
      refine w6 (hv x _ hl hk) fun v' e rv => ?_
      exact wpAny_loadName_local F.kind hk hm e (q W s v' (.refl ..) R rv)
    · refine X4 (F.cells x _ hl hk) fun hk' c v' h1 h2 h3 _ => ?_
      rcases hk' with hk' | hk'
      · exact wpAny_loadName_cell F.kind hk' h1 h2 (q W s v' (.refl ..) R h3)
      · exact wpAny_loadName_free F.kind hk' h1 h2 (q W s v' (.refl ..) R h3) (dunder_classdict hd)
  | none =>
    rw [hl] at h
    induction hg : isGlob x ρ using Bool.casesOn with
    | false => rw [hg] at h; exact nsx h
    | true =>
      rw [hg] at h
      replace h := pair_some h
      refine w6 h fun v₀ e ep => ?_
      clear h
      first | ((refine w8 (Prod.mk.inj ep) fun zz1 zz2 => ?_; subst zz1; clear ep; subst zz2)) | cases ep
      have hn : ρ.names.lookup x = some .globalImplicit := by
        unfold isGlob at hg
        split at hg
        · assumption
        · exact ftx hg
      exact G.glob e R F.kind (F.nmG x hn) F.glob F.blt fun v' rv => q W s v' (.refl ..) R rv
theorem boolOps_ok (H : OkE C r n) (hr : Room A n) {op : BoolOp} {p : Pos} : ∀ {es : List Expr} {σ σ' : St} {v : V} {W : Wd} {s : Shared} {Q : Value → Shared → Prop}, boolOps r op es ρ σ = some (v, σ') → FrR C A W env own ρ s.heap → StR C W σ s →
    (∀ W' s' v', Go C A [] W s W' s' → StR C W' σ' s' → VR C.toCx W' s'.heap v v' → Q v' s') → wpAny C.M A (eval (.BoolOp op es p) env) Q E s
  | [], _, _, _, _, _, _, h, _, _, _ => by exact nsx h
  | [e], σ, σ', v, W, s, Q, h, F, R, q => BoolOp_one (H (show r.E e ρ σ = _ from h) hr F R q)
  | e :: e₂ :: es, σ, σ', v, W, s, Q, h, F, R, q => by
    refine bd_e2 (show (bd (r.E e ρ σ) fun p => match p.1 with | .bool b => (match op with | .And => (match b with | true => boolOps r op (e₂ :: es) ρ p.2 | false => some p) | .Or => (match b with | true => some p | false => boolOps r op (e₂ :: es) ρ p.2)) | _ => none) = some (v, σ') from h) fun v₁ σ₁ h1 h => ?_
    induction v₁ using V.casesOn with
    | bool b =>
      induction op using BoolOp.casesOn with
      | And =>
        refine BoolOp_and (H h1 hr F R fun W₁ s₁ v' g R₁ x => ?_)
        refine VR.eB x ?_
        refine wpAny_truthy_bool ?_
        clear h1 x
        induction b using Bool.casesOn with
        | true => exact boolOps_ok H hr h (F.mono R g) R₁ fun W₂ s₂ v₂ g₂ R₂ x₂ => q _ _ _ (g.trans g₂) R₂ x₂
        | false => (revert q; (first | refine sp3_g h ?_ | refine sp_g h ?_); intro q); exact q _ _ _ g R₁ (.bool false)
      | Or =>
        refine BoolOp_or (H h1 hr F R fun W₁ s₁ v' g R₁ x => ?_)
        refine VR.eB x ?_
        refine wpAny_truthy_bool ?_
        clear h1 x
        induction b using Bool.casesOn with
        | false => exact boolOps_ok H hr h (F.mono R g) R₁ fun W₂ s₂ v₂ g₂ R₂ x₂ => q _ _ _ (g.trans g₂) R₂ x₂
        | true => (revert q; (first | refine sp3_g h ?_ | refine sp_g h ?_); intro q); exact q _ _ _ g R₁ (.bool true)
    | _ => exact nsx h
theorem allT_ok (H : OkT C r n) (hr : Room A n) {op : BoolOp} : ∀ {es : List Expr} {σ σ' : St} {b : Bool} {W : Wd} {s : Shared} {Q : Bool → Shared → Prop}, allT r op es ρ σ = some (b, σ') → FrR C A W env own ρ s.heap → StR C W σ s →
    (∀ W' s', Go C A [] W s W' s' → StR C W' σ' s' → Q b s') → wpAny C.M A (allTrue op es env) Q E s
  | [], σ, σ', b, W, s, Q, h, F, R, q => by
    induction op using BoolOp.casesOn with
    | And => (revert q; (first | refine sp3_g h ?_ | refine sp_g h ?_); intro q); exact wpAny_allTrue_And_nil (q _ _ (.refl ..) R)
    | Or => (revert q; (first | refine sp3_g h ?_ | refine sp_g h ?_); intro q); exact wpAny_allTrue_Or_nil (q _ _ (.refl ..) R)
  | e :: es, σ, σ', b, W, s, Q, h, F, R, q => by
    revert h
    refine bd_r2 fun b₁ σ₁ h1 h => ?_
    induction op using BoolOp.casesOn with
    | And =>
      refine wpAny_allTrue_And_cons (H h1 hr F R fun W₁ s₁ g R₁ => ?_)
      clear h1
      induction b₁ using Bool.casesOn with
      | true => exact allT_ok H hr h (F.mono R g) R₁ fun W₂ s₂ g₂ R₂ => q _ _ (g.trans g₂) R₂
      | false => (revert q; (first | refine sp3_g h ?_ | refine sp_g h ?_); intro q); exact q _ _ g R₁
    | Or =>
      refine wpAny_allTrue_Or_cons (H h1 hr F R fun W₁ s₁ g R₁ => ?_)
      clear h1
      induction b₁ using Bool.casesOn with
      | true => (revert q; (first | refine sp3_g h ?_ | refine sp_g h ?_); intro q); exact q _ _ g R₁
      | false => exact allT_ok H hr h (F.mono R g) R₁ fun W₂ s₂ g₂ R₂ => q _ _ (g.trans g₂) R₂
theorem cmps_marks : ∀ {ops : List CmpOp} {es : List Expr} {σ σ' : St} {a : V} {b : Bool}, cmps r a ops es ρ σ = some (b, σ') → lastMarks ops es = false ∧ ops ≠ [] ∧ es.length = ops.length
  | [], [], _, _, _, _, h => by exact nsx h
  | [], _ :: _, _, _, _, _, h => by exact nsx h
  | [_], [], _, _, _, _, h => by exact nsx h
  | [op], [e], σ, σ', a, b, h => by
    have h : (match isSet e with | true => none | false => bd (r.E e ρ σ) fun p => bd (cmp op a p.1 p.2) fun b => some (b, p.2)) = some (b, σ') := h
    induction hs : isSet e using Bool.casesOn with
    | true => rw [hs] at h; exact nsx h
    | false => exact ⟨by simpa [lastMarks] using notSet_marks (op := op) hs, by simp, rfl⟩
  | [op], e :: e₂ :: es, σ, σ', a, b, h => by
    refine bd_e2 (show (bd (r.E e ρ σ) fun p => bd (cmp op a p.1 p.2) fun b => match b with | true => cmps r p.1 [] (e₂ :: es) ρ p.2 | false => none) = some (b, σ') from h) fun v σ₁ h1 h => ?_
    refine bd_e h fun c h2 h => ?_
    clear h2
    induction c using Bool.casesOn <;> exact nsx h
  | op :: op₂ :: ops, [], _, _, _, _, h => by exact nsx h
  | op :: op₂ :: ops, e :: es, σ, σ', a, b, h => by
    refine bd_e2 (show (bd (r.E e ρ σ) fun p => bd (cmp op a p.1 p.2) fun b => match b with | true => cmps r p.1 (op₂ :: ops) es ρ p.2 | false => (match (op₂ :: ops).length == es.length && !(es.any isSet) with | true => some (false, p.2) | false => none)) = some (b, σ') from h) fun v σ₁ h1 h => ?_
    refine bd_e h fun c h2 h => ?_
    clear h2
    induction c using Bool.casesOn with
    | true =>
      refine W2 (cmps_marks (show cmps r v (op₂ :: ops) es ρ σ₁ = some (b, σ') from h)) fun h3 _ h4 => ?_
      refine ⟨?_, by simp, by (refine rwm (List.length_cons) ?_; refine rwm (h4) ?_); rfl⟩
      clear h
      induction es using List.casesOn with
      | nil => simp at h4
      | cons e' es => simpa [lastMarks] using h3
    | false =>
      have h : (match (op₂ :: ops).length == es.length && !(es.any isSet) with | true => some (false, σ₁) | false => none) = some (b, σ') := h
      induction q : ((op₂ :: ops).length == es.length && !(es.any isSet)) using Bool.casesOn with
      | false => rw [q] at h; exact nsx h
      | true =>
        refine w8 (Bool.and_eq_true_iff.mp q) fun q1 q2 => ?_
        have q1 := eq_of_beq q1
        have q2 : es.any isSet = false := by simpa using q2
        refine ⟨?_, by simp, by (refine rwm (List.length_cons) ?_; refine rwl (q1) ?_); rfl⟩
        have := lastMarks_of (op₂ :: ops) es q2
        clear h q q2
        induction es using List.casesOn with
        | nil => simp at q1
        | cons e' es => simpa [lastMarks] using this
theorem links_ok (H : OkE C r n) (hr : Room A n) {p : Pos} : ∀ {ops : List CmpOp} {es : List Expr} {σ σ' : St} {a : V} {va : Value} {b : Bool} {W : Wd} {s : Shared}, cmps r a ops es ρ σ = some (b, σ') → FrR C A W env own ρ s.heap → StR C W σ s → VR C.toCx W s.heap a va →
    (∀ {Q : Bool → Shared → Prop}, (∀ W' s', Go C A [] W s W' s' → StR C W' σ' s' → Q b s') → wpAny C.M A (testChain p va ops (evalEach es env)) Q E s) ∧
    (∀ {Q : Value → Shared → Prop}, (∀ W' s', Go C A [] W s W' s' → StR C W' σ' s' → Q (.bool b) s') → wpAny C.M A (compareChain p va ops (evalEach es env)) Q E s)
  | [], [], _, _, _, _, _, _, _, h, _, _, _ => by exact nsx h
  | [], _ :: _, _, _, _, _, _, _, _, h, _, _, _ => by exact nsx h
  | [_], [], _, _, _, _, _, _, _, h, _, _, _ => by exact nsx h
  | [op], [e], σ, σ', a, va, b, W, s, h, F, R, xa => by
    have h : (match isSet e with | true => none | false => bd (r.E e ρ σ) fun p => bd (cmp op a p.1 p.2) fun b => some (b, p.2)) = some (b, σ') := h
    induction hs : isSet e using Bool.casesOn with
    | true => rw [hs] at h; exact nsx h
    | false =>
      rw [hs] at h
      revert h
      refine bd_r2 fun v σ₁ h1 h => ?_
      refine bd_e h fun c h2 h => ?_
      (first | (obtain ⟨rfl, rfl, rfl⟩ := sp3 h) | (obtain ⟨rfl, rfl⟩ := sp h) | cases h)
      refine ⟨fun q => test_last (H h1 hr F R fun W₁ s₁ v' g R₁ x => ?_), fun q => chain_last (H h1 hr F R fun W₁ s₁ v' g R₁ x => ?_)⟩
      · exact cmp_ok h2 hr R₁ (g.vr R F.fm (fun _ m => nomatch m) xa) x fun tk => wpAny_truthy_bool (q _ _ (g.trans (Go.tok tk)) (R₁.tok tk))
      · exact cmp_ok h2 hr R₁ (g.vr R F.fm (fun _ m => nomatch m) xa) x fun tk => q _ _ (g.trans (Go.tok tk)) (R₁.tok tk)
  | [op], e :: e₂ :: es, σ, σ', a, va, b, W, s, h, F, R, xa => by have := (cmps_marks h).2.2; simp at this
  | op :: op₂ :: ops, [], _, _, _, _, _, _, _, h, _, _, _ => by exact nsx h
  | op :: op₂ :: ops, [e], σ, σ', a, va, b, W, s, h, F, R, xa => by have := (cmps_marks h).2.2; simp at this
  | op :: op₂ :: ops, e :: e₂ :: es, σ, σ', a, va, b, W, s, h, F, R, xa => by
    refine bd_e2 (show (bd (r.E e ρ σ) fun p => bd (cmp op a p.1 p.2) fun b => match b with | true => cmps r p.1 (op₂ :: ops) (e₂ :: es) ρ p.2 | false => (match (op₂ :: ops).length == (e₂ :: es).length && !((e₂ :: es).any isSet) with | true => some (false, p.2) | false => none)) = some (b, σ') from h) fun v σ₁ h1 h => ?_
    refine bd_e h fun c h2 h => ?_
    refine ⟨fun q => test_link (H h1 hr F R fun W₁ s₁ v' g R₁ x => ?_), fun q => chain_link (H h1 hr F R fun W₁ s₁ v' g R₁ x => ?_)⟩
    · refine cmp_ok h2 hr R₁ (g.vr R F.fm (fun _ m => nomatch m) xa) x fun tk => wpAny_truthy_bool ?_
      have g' := g.trans (Go.tok (C := C) (A := A) (own := []) tk)
      clear h2
      induction c using Bool.casesOn with
      | true => exact (links_ok H hr (show cmps r v (op₂ :: ops) (e₂ :: es) ρ σ₁ = some (b, σ') from h) (F.mono R g') (R₁.tok tk) x).1 fun W₂ s₂ g₂ R₂ => q _ _ (g'.trans g₂) R₂
      | false =>
        have h : (match (op₂ :: ops).length == (e₂ :: es).length && !((e₂ :: es).any isSet) with | true => some (false, σ₁) | false => none) = some (b, σ') := h
        split at h
        · (revert q; (first | refine sp3_g h ?_ | refine sp_g h ?_); intro q); exact q _ _ g' (R₁.tok tk)
        · exact nsx h
    · refine cmp_ok h2 hr R₁ (g.vr R F.fm (fun _ m => nomatch m) xa) x fun tk => wpAny_truthy_bool ?_
      have g' := g.trans (Go.tok (C := C) (A := A) (own := []) tk)
      clear h2
      induction c using Bool.casesOn with
      | true => exact (links_ok H hr (show cmps r v (op₂ :: ops) (e₂ :: es) ρ σ₁ = some (b, σ') from h) (F.mono R g') (R₁.tok tk) x).2 fun W₂ s₂ g₂ R₂ => q _ _ (g'.trans g₂) R₂
      | false =>
        have h : (match (op₂ :: ops).length == (e₂ :: es).length && !((e₂ :: es).any isSet) with | true => some (false, σ₁) | false => none) = some (b, σ') := h
        split at h
        · (revert q; (first | refine sp3_g h ?_ | refine sp_g h ?_); intro q); exact q _ _ g' (R₁.tok tk)
        · exact nsx h
theorem compare_ok (H : OkE C r n) (hr : Room A n) {l : Expr} {ops : List CmpOp} {es : List Expr} {p : Pos} {a : V} {σ₁ : St} {b : Bool} {Q : Value → Shared → Prop} (h1 : r.E l ρ σ = some (a, σ₁)) (h2 : cmps r a ops es ρ σ₁ = some (b, σ')) (F : FrR C A W env own ρ s.heap) (R : StR C W σ s)
    (q : ∀ W' s' v', Go C A [] W s W' s' → StR C W' σ' s' → VR C.toCx W' s'.heap (.bool b) v' → Q v' s') : wpAny C.M A (eval (.Compare l ops es p) env) Q E s := by
  refine W2 (cmps_marks h2) fun hm _ _ => ?_
  refine (?_ : wpAny C.M A (do compareChain p (← eval l env) ops (markedEach ops es (evalEach es env))) Q E s)
  refine rwm (markedEach_of_false _ _ _ hm) ?_
  refine wpAny_bind (H h1 hr F R fun W₁ s₁ v' g R₁ x => ?_)
  exact (links_ok H hr h2 (F.mono R g) R₁ x).2 fun W₂ s₂ g₂ R₂ => q _ _ _ (g.trans g₂) R₂ (.bool b)
theorem compareT_ok (H : OkE C r n) (hr : Room A n) {l : Expr} {ops : List CmpOp} {es : List Expr} {p : Pos} {a : V} {σ₁ : St} {b : Bool} {whole : Sem Value} {Q : Bool → Shared → Prop} (h1 : r.E l ρ σ = some (a, σ₁)) (h2 : cmps r a ops es ρ σ₁ = some (b, σ')) (F : FrR C A W env own ρ s.heap) (R : StR C W σ s)
    (q : ∀ W' s', Go C A [] W s W' s' → StR C W' σ' s' → Q b s') : wpAny C.M A (isTrue (.Compare l ops es p) env whole) Q E s := by
  refine W2 (cmps_marks h2) fun hm _ _ => ?_
  refine (?_ : wpAny C.M A (do testChain p (← eval l env) ops (markedEach ops es (evalEach es env))) Q E s)
  refine rwm (markedEach_of_false _ _ _ hm) ?_
  refine wpAny_bind (H h1 hr F R fun W₁ s₁ v' g R₁ x => ?_)
  exact (links_ok H hr h2 (F.mono R g) R₁ x).1 fun W₂ s₂ g₂ R₂ => q _ _ (g.trans g₂) R₂
theorem stepT_ok (H : OkE C r n) (HT : OkT C r n) : ∀ {e : Expr} {σ : St} {b : Bool} {σ' : St}, stepT r e ρ σ = some (b, σ') →
    ∀ {A : Around} {env : Env} {own : List Addr} {W : Wd} {s : Shared}, Room A n → FrR C A W env own ρ s.heap → StR C W σ s →
    ∀ {Q : Bool → Shared → Prop} {E : Value → Shared → Prop}, (∀ W' s', Go C A [] W s W' s' → StR C W' σ' s' → Q b s') → wpAny C.M A (isTrue e env (eval e env)) Q E s := by
  intro e σ b σ' h A env own W s hr F R Q E q
  have value : ∀ (he : isTrue e env (eval e env) = (do let v ← eval e env; standAt e.pos; holding [v] (truthy v))), (bd (r.E e ρ σ) fun p => match p.1 with | .bool b => some (b, p.2) | _ => none) = some (b, σ') → wpAny C.M A (isTrue e env (eval e env)) Q E s := by
    intro he h
    revert h
    refine bd_r2 fun v σ₁ h1 h => ?_
    induction v using V.casesOn with
    | bool b' =>
      (revert q; (first | refine sp3_g h ?_ | refine sp_g h ?_); intro q)
      refine isTrue_plain (H h1 hr F R fun W₁ s₁ v' g R₁ x => ?_) he
      refine VR.eB x ?_
      exact wpAny_truthy_bool (q _ _ g R₁)
    | _ => exact nsx h
  induction e using Expr.casesOn with
  | UnaryOp op x p =>
    induction op using UnaryOp.casesOn with
    | Not =>
      refine bd_e2 (show (bd (r.T x ρ σ) fun p => some (!p.1, p.2)) = some (b, σ') from h) fun b₁ σ₁ h1 h => ?_
      (revert q; (first | refine sp3_g h ?_ | refine sp_g h ?_); intro q)
      exact isTrue_not (HT h1 hr F R fun W₁ s₁ g R₁ => q _ _ g R₁)
    | _ => exact value rfl h
  | BoolOp op es p => exact wpAny_isTrue_BoolOp (allT_ok HT hr (show allT r op es ρ σ = _ from h) F R q)
  | IfExp t a c p =>
    refine bd_e2 (show (bd (r.T t ρ σ) fun p => match p.1 with | true => r.T a ρ p.2 | false => r.T c ρ p.2) = some (b, σ') from h) fun b₁ σ₁ h1 h => ?_
    refine isTrue_IfExp (HT h1 hr F R fun W₁ s₁ g R₁ => ?_)
    clear h1
    induction b₁ using Bool.casesOn with
    | true => exact HT h hr (F.mono R g) R₁ fun W₂ s₂ g₂ R₂ => q _ _ (g.trans g₂) R₂
    | false => exact HT h hr (F.mono R g) R₁ fun W₂ s₂ g₂ R₂ => q _ _ (g.trans g₂) R₂
  | Compare l ops es p =>
    refine bd_e2 (show (bd (r.E l ρ σ) fun p => cmps r p.1 ops es ρ p.2) = some (b, σ') from h) fun v σ₁ h1 h => ?_
    exact compareT_ok H hr h1 h F R q
  | _ => exact value rfl h
theorem noSuper_base {o : Expr} {a : Str} {whole : Sem Value} (h : noSuper o = true) : attributeBase o a env whole = whole := by
  induction o using Expr.casesOn with
  | Call f args ks p =>
    induction f using Expr.casesOn with
    | Name x q =>
      induction args using List.casesOn with
      | nil => induction ks using List.casesOn with
        | nil => exact ftx h
        | cons => rfl
      | cons => rfl
    | _ => rfl
  | _ => rfl
theorem attr_ok (G : Gr C X) (H : OkE C r n) (hr : Room A n) {o : Expr} {a : Str} {p : Pos} {vo v : V} {Q : Value → Shared → Prop} (hn : noSuper o = true) (h1 : r.E o ρ σ = some (vo, σ')) (h2 : attrOf X vo a = some v) (F : FrR C A W env own ρ s.heap) (R : StR C W σ s)
    (q : ∀ W' s' v', Go C A [] W s W' s' → StR C W' σ' s' → VR C.toCx W' s'.heap v v' → Q v' s') : wpAny C.M A (eval (.Attribute o a p) env) Q E s := by
  refine Attribute_any_ ?_ (by (refine rwm (arm_eval_Attribute ..) ?_; exact rwm (noSuper_base hn) rfl))
  refine H h1 hr F R fun W₁ s₁ v' g R₁ x => ?_
  exact G.attr h2 R₁ x fun v₂ tk x₂ => q W₁ _ v₂ (g.trans (Go.tok tk)) (R₁.tok tk) x₂
theorem natOf_some {v : V} {k : Nat} (h : natOf v = some k) : v = .int (.lit (k : Int)) ∧ k < 1000000 := by
  unfold natOf at h
  split at h
  · split at h
    · rename_i q; cases h; exact ⟨rfl, Nat.le_of_ble_eq_true q⟩
    · exact nsx h
  · exact nsx h
theorem optN_ok (H : OkE C r n) (hr : Room A n) {e : Option Expr} {k : Option Nat} {Q : Value → Shared → Prop} (h : optN r e ρ σ = some (k, σ')) (F : FrR C A W env own ρ s.heap) (R : StR C W σ s)
    (q : ∀ W' s' v', Go C A [] W s W' s' → StR C W' σ' s' → PartR k v' → Q v' s') : wpAny C.M A (evalPart e env) Q E s := by
  induction e using Option.casesOn with
  | none => (revert q; (first | refine sp3_g h ?_ | refine sp_g h ?_); intro q); exact wpAny_evalPart_none (q _ _ _ (.refl ..) R (.inl ⟨rfl, rfl⟩))
  | some e =>
    revert h
    refine bd_r2 fun v σ₁ h1 h => ?_
    refine bd_e h fun k' h2 h => ?_
    (revert q; (first | refine sp3_g h ?_ | refine sp_g h ?_); intro q)
    refine w8 (natOf_some h2) fun zz1 _ => ?_
    clear h h2
    subst zz1
    refine wpAny_evalPart_some (H h1 hr F R fun W₁ s₁ v' g R₁ x => ?_)
    replace x := x.inv
    refine w5 x fun t zz1 => ?_
    clear x
    subst zz1
    exact q _ _ _ g R₁ (.inr (x9 k' t rfl rfl))
theorem sub_ok (H : OkE C r n) (hr : Room A n) {o i : Expr} {p : Pos} {vo vi v : V} {σ₁ : St} {Q : Value → Shared → Prop} (hs : sliceOf i = none) (h1 : r.E o ρ σ = some (vo, σ₁)) (h2 : r.E i ρ σ₁ = some (vi, σ')) (h3 : item vo vi σ' = some v) (F : FrR C A W env own ρ s.heap) (R : StR C W σ s)
    (q : ∀ W' s' v', Go C A [] W s W' s' → StR C W' σ' s' → VR C.toCx W' s'.heap v v' → Q v' s') : wpAny C.M A (eval (.Subscript o i p) env) Q E s := by
  refine Subscript_ (H h1 hr F R fun W₁ s₁ v₁ g₁ R₁ x₁ => ?_)
  have F₁ := F.mono R g₁
  refine H h2 hr F₁ R₁ fun W₂ s₂ v₂ g₂ R₂ x₂ => ?_
  exact item_ok h3 hs R₂ (g₂.vr R₁ F₁.fm (fun _ m => nomatch m) x₁) x₂ fun tk v' x => q _ _ v' ((g₁.trans g₂).trans (Go.tok tk)) (R₂.tok tk) x
theorem subSlice_ok (H : OkE C r n) (hr : Room A n) {o : Expr} {lo hi : Option Expr} {p p' : Pos} {vo v : V} {klo khi : Option Nat} {σ₁ σ₂ σ₃ : St} {Q : Value → Shared → Prop} (h1 : r.E o ρ σ = some (vo, σ₁)) (h2 : optN r lo ρ σ₁ = some (klo, σ₂)) (h3 : optN r hi ρ σ₂ = some (khi, σ₃)) (h4 : slice vo klo khi σ₃ = some (v, σ')) (F : FrR C A W env own ρ s.heap) (R : StR C W σ s)
    (q : ∀ W' s' v', Go C A [] W s W' s' → StR C W' σ' s' → VR C.toCx W' s'.heap v v' → Q v' s') : wpAny C.M A (eval (.Subscript o (.Slice lo hi none p') p) env) Q E s := by
  refine Subscript_ (H h1 hr F R fun W₁ s₁ v₁ g₁ R₁ x₁ => ?_)
  have F₁ := F.mono R g₁
  refine wpAny_Slice (optN_ok H hr h2 F₁ R₁ fun W₂ s₂ v₂ g₂ R₂ x₂ => ?_)
  have F₂ := F₁.mono R₁ g₂
  refine optN_ok H hr h3 F₂ R₂ fun W₃ s₃ v₃ g₃ R₃ x₃ => ?_
  refine wpAny_evalPart_none ?_
  exact slice_ok h4 R₃ (g₃.vr R₂ F₂.fm (fun _ m => nomatch m) (g₂.vr R₁ F₁.fm (fun _ m => nomatch m) x₁)) x₂ x₃ fun W₄ s₄ v' g₄ R₄ x => q _ _ v' (((g₁.trans g₂).trans g₃).trans g₄) R₄ x
theorem keyL_cons {k : Option Expr} {ks : List (Option Expr)} {l : List Str} (h : keyL (k :: ks) = some l) : ∃ x u p l', k = some (.Constant (.str x) u p) ∧ keyL ks = some l' ∧ l = x :: l' := by
  refine bd_e (show bd k _ = some l from h) fun e h0 h => ?_
  refine bd_e3 h fun c u p h1 h => ?_
  refine bd_e h fun x h2 h => ?_
  refine bd_e h fun l' h3 h4 => ?_
  obtain rfl := vCon_some h1
  obtain rfl := cStr_some h2
  exact (X6 x u p l' h0 h3 (Option.some.inj h4).symm)
theorem keyL_isSome : ∀ {ks : List (Option Expr)} {l : List Str}, keyL ks = some l → ks.all (·.isSome) = true ∧ l.length = ks.length
  | [], l, h => by (revert h; refine sm_r fun zz => ?_; subst zz); exact ⟨rfl, rfl⟩
  | k :: ks, l, h => by
    refine Z0 (keyL_cons h) fun x u p l' zz1 h1 zz2 => ?_
    subst zz1
    clear h
    subst zz2
    refine w8 (keyL_isSome h1) fun h2 h3 => ?_
    exact ⟨by (refine rwm (List.all_cons) ?_; refine rwm (h2) ?_); rfl, by simp [h3]⟩
theorem pairs_ok (H : OkE C r n) (hr : Room A n) {p : Pos} : ∀ {ks : List (Option Expr)} {l : List Str} {es : List Expr} {σ σ' : St} {vs : List V} {W : Wd} {s : Shared} {Q : List (Value × Value) → Shared → Prop},
    keyL ks = some l → ks.length = es.length → evL r es ρ σ = some (vs, σ') → FrR C A W env own ρ s.heap → StR C W σ s →
    (∀ W' s' vs' ps, Go C A [] W s W' s' → StR C W' σ' s' → VRs C.toCx W' s'.heap vs vs' → allStrKeys ps = true → strPairs ps = l.zip vs' → Q ps s') → wpAny C.M A (evalPairs (pairTrees ks es env p)) Q E s
  | [], l, [], σ, σ', vs, W, s, Q, hk, hl, h, F, R, q => by
    (revert hk; refine sm_r fun zz => ?_; subst zz); (revert q; (first | refine sp3_g h ?_ | refine sp_g h ?_); intro q)
    exact pairTrees_nil_walk (q W s [] [] (.refl ..) R .nil rfl rfl)
  | [], _, _ :: _, _, _, _, _, _, _, _, hl, _, _, _, _ => by simp at hl
  | _ :: _, _, [], _, _, _, _, _, _, _, hl, _, _, _, _ => by simp at hl
  | k :: ks, l, e :: es, σ, σ', vs, W, s, Q, hk, hl, h, F, R, q => by
    refine Z0 (keyL_cons hk) fun x u p' l' zz1 hk' zz2 => ?_
    subst zz1
    clear hk
    subst zz2
    have h : (match isStar e with | true => none | false => bd (r.E e ρ σ) fun p => bd (evL r es ρ p.2) fun q => some (p.1 :: q.1, q.2)) = some (vs, σ') := h
    induction hs : isStar e using Bool.casesOn with
    | true => rw [hs] at h; exact nsx h
    | false =>
      rw [hs] at h
      revert h
      refine bd_r2 fun v σ₁ h1 h => ?_
      revert h
      refine bd_r2 fun ws σ₂ h2 h => ?_
      (revert q; (first | refine sp3_g h ?_ | refine sp_g h ?_); intro q)
      refine pairTrees_cons_walk (wpAny_Constant_str ?_)
      have g₀ := Go.tok (C := C) (A := A) (own := []) (W := W) (s := s) (s.toks + 1)
      refine H h1 hr (F.mono R g₀) (R.tok _) fun W₁ s₁ v' g R₁ x₁ => ?_
      have F₁ := (F.mono R g₀).mono (R.tok _) g
      refine pairs_ok H hr hk' (by simpa using hl) h2 F₁ R₁ fun W₂ s₂ vs' ps g₂ R₂ x₂ ha hp => ?_
      exact q W₂ s₂ (v' :: vs') _ ((g₀.trans g).trans g₂) R₂ (.cons (g₂.vr R₁ F₁.fm (fun _ m => nomatch m) x₁) x₂) ha (by refine (?_ : (x, v') :: strPairs ps = _); refine rwm (hp) ?_; rfl)
noncomputable def Wd.drop (W : Wd) (a : Addr) : Wd := ⟨W.adr, W.syms, W.mt.filter fun b => b != a⟩
theorem Wd.mem_drop {a b : Addr} : b ∈ (W.drop a).mt ↔ b ∈ W.mt ∧ b ≠ a := by
  unfold Wd.drop
  rw [List.mem_filter]
  simp
theorem Wd.drop_lv (W : Wd) (h : Heap) (a : Addr) : W.Lv h (W.drop a) := ⟨List.prefix_refl _, List.prefix_refl _, fun _ m => .inl (Wd.mem_drop.mp m).1⟩
theorem StR.drop {a : Addr} (R : StR C W σ s) (h1 : a ∉ W.adr) (h2 : a ∉ C.tabs) : StR C (W.drop a) σ s := by
  have up : ∀ {ds : List V} {vs : List Value}, VRs C.toCx W s.heap ds vs → VRs C.toCx (W.drop a) s.heap ds vs := fun x => x.monoL (W.drop_lv s.heap a) (.refl (fun _ => False) (fun _ => False) _) (fun _ t => t.elim) (fun _ t => t.elim)
  refine ⟨R.len, R.nd, R.sy, fun i l e => ?_, R.lists, R.forge, fun b m => ?_, fun b m => ?_, R.apart, fun c m => ?_, fun b m => ?_, R.ground, fun b m => ?_, R.gens, R.os⟩
  · refine x8 (R.lst i l e) fun b vs h1 h2 h3 h4 => ?_
    exact (y8 b vs h1 h2 (up h3) h4)
  · exact Wd.mem_drop.mpr ⟨R.adr b m, fun e => h1 (e ▸ m)⟩
  · exact Wd.mem_drop.mpr ⟨R.tabs b m, fun e => h2 (e ▸ m)⟩
  · refine w6 (R.tab c m) fun ps e t => ?_
    refine (w7 ps e (t.imp id ?_))
    rintro ⟨cc, oc, vs, t, h1, h2, h3⟩
    exact (X6 cc oc vs t h1 (h2.monoL (W.drop_lv s.heap a) (.refl (fun _ => False) (fun _ => False) _) (fun _ t => t.elim) (fun _ t => t.elim)) h3)
  · exact R.live b (Wd.mem_drop.mp m).1
  · exact R.fresh b (Wd.mem_drop.mp m).1
theorem nodupK_ok : ∀ {l : List Str}, nodupK l = true → l.Nodup
  | [], _ => List.nodup_nil
  | x :: l, h => by
    refine w8 (Bool.and_eq_true_iff.mp (show (!(l.any fun y => sq y x) && nodupK l) = true from h)) fun h1 h2 => ?_
    refine List.nodup_cons.mpr ⟨fun m => ?_, nodupK_ok h2⟩
    have : (l.any fun y => sq y x) = true := List.any_eq_true.mpr (w7 x m (sq_t rfl))
    rw [this] at h1; exact ftx h1
theorem valueAt_has : ∀ {l : List Str} {vs : List V} {vs' : List Value} {h : Heap}, VRs C.toCx W h vs vs' → ∀ x, (valueAt (l.zip vs') x).isSome = hasKey x (l.zip vs)
  | [], _, _, _, _, x => by simp [valueAt, hasKey]
  | y :: l, _, _, _, .nil, x => by simp [valueAt, hasKey]
  | y :: l, _, _, _, .cons a b, x => by
    refine (?_ : _ = (match sq y x with | true => true | false => hasKey x _))
    have := valueAt_has (l := l) b x
    by_cases e : y = x
    · simp [valueAt, e, sq_t]
    · simp only [sq_f e]
      refine Eq.trans ?_ this
      simp [valueAt, e]
theorem VRd.grow {h : Heap} {f g : Str → Option Value} {l : List (Str × V)} (y : VRd C.toCx W h f l) : (∀ x v, (∃ d, (x, d) ∈ l) → f x = some v → g x = some v) → VRd C.toCx W h g l :=
  VRd.ind (motive := fun l => (∀ x v, (∃ d, (x, d) ∈ l) → f x = some v → g x = some v) → VRd C.toCx W h g l) (fun _ => .nil) (fun e a _ ih k => .cons (k _ _ ⟨_, .head _⟩ e) a (ih fun x v m => k x v (m.imp fun _ m => .tail _ m))) y
theorem VRd.of_zip : ∀ {l : List Str} {vs : List V} {vs' : List Value} {h : Heap}, VRs C.toCx W h vs vs' → l.Nodup → VRd C.toCx W h (valueAt (l.zip vs')) (l.zip vs)
  | [], _, _, _, _, _ => by simpa using VRd.nil
  | y :: l, _, _, _, .nil, _ => by simpa using VRd.nil
  | y :: l, _, _, _, .cons a b, hn => by
    refine w8 (List.nodup_cons.mp hn) fun h1 h2 => ?_
    refine .cons (by simp [valueAt]) a (VRd.grow (VRd.of_zip b h2) fun x v m e => ?_)
    revert m
    intro zz0
    refine w5 zz0 fun d m => ?_
    clear zz0
    have : x ∈ l := (List.of_mem_zip m).1
    have ne : y ≠ x := fun e => h1 (e ▸ this)
    simpa [valueAt, ne] using e
theorem dict_ok (G : Gr C X) (H : OkE C r n) (hr : Room A n) {ks : List (Option Expr)} {l : List Str} {es : List Expr} {p : Pos} {vs : List V} {Q : Value → Shared → Prop} (h1 : keyL ks = some l) (h2 : dictOk l es.length = true) (h3 : evL r es ρ σ = some (vs, σ')) (F : FrR C A W env own ρ s.heap) (R : StR C W σ s)
    (q : ∀ W' s' v', Go C A [] W s W' s' → StR C W' σ' s' → VR C.toCx W' s'.heap (.dct (l.zip vs)) v' → Q v' s') : wpAny C.M A (eval (.Dict ks es p) env) Q E s := by
  refine w8 (Bool.and_eq_true_iff.mp h2) fun h2 n4 => ?_
  refine w8 (Bool.and_eq_true_iff.mp h2) fun h2 n3 => ?_
  refine w8 (Bool.and_eq_true_iff.mp h2) fun n1 n2 => ?_
  have n1 := Nat.eq_of_beq_eq_true n1
  have n2 : l.length ≤ 15 := Nat.le_of_ble_eq_true n2
  have n3 : 0 < l.length := Nat.le_of_ble_eq_true n3
  refine w8 (keyL_isSome h1) fun k1 k2 => ?_
  have kl : ks.length = es.length := by omega
  have fr : s.heap.get? s.heap.objs.size = none := get_size_none _
  have kp := push_keeps s.heap { cls := .type "dict", data := .dict #[] }
  have notMt : s.heap.objs.size ∉ W.mt := fun m => by refine w5 (R.live _ m) fun o e => ?_; rw [fr] at e; exact nsx e
  have notAdr : s.heap.objs.size ∉ W.adr := fun m => notMt (R.adr _ m)
  have notTab : s.heap.objs.size ∉ C.tabs := fun m => notMt (R.tabs _ m)
  have h₀n : C.h₀.get? s.heap.objs.size = none := by
    induction z : C.h₀.get? s.heap.objs.size using Option.casesOn with
    | none => rfl
    | some o => rw [R.ground _ o z] at fr; exact snx fr
  have le0 : W.Le s.heap ⟨W.adr, W.syms, s.heap.objs.size :: W.mt⟩ := ⟨List.prefix_refl _, List.prefix_refl _, fun b m => .tail _ m, fun b m => by
    rcases mc m with rfl | m
    · exact .inr fr
    · exact .inl m, fun b m => .inl m⟩
  have g0 : Go C A [] W s ⟨W.adr, W.syms, s.heap.objs.size :: W.mt⟩ { s with heap := s.heap.push { cls := .type "dict", data := .dict #[] } } := ⟨le0, .of _ _ fun b o e _ => kp b o e, fun b o e => ⟨o, kp b o e⟩, rfl⟩
  have R0 : StR C ⟨W.adr, W.syms, s.heap.objs.size :: W.mt⟩ σ { s with heap := s.heap.push { cls := .type "dict", data := .dict #[] } } :=
    R.move (tk := s.toks) (S := fun _ => False) (P := fun _ => False) le0 rfl rfl (.of _ _ fun b o e _ => kp b o e) (fun _ t => t.elim) (fun _ t => t.elim) (fun b m => by
      rcases mc m with rfl | m
      · exact .inr ⟨_, Heap.get?_push_size _ rfl⟩
      · exact .inl ⟨m, id⟩)
  have F0 := F.mono R g0
  refine wpAny_Dict_walk (knd := strKind C.prog C.w) k1 kl (by rintro rfl; rw [k2] at n3; exact absurd n3 (by simp)) (by omega) ?_
  refine pairs_ok H hr h1 kl h3 F0 R0 fun W₁ s₁ vs' ps g₁ R₁ x₁ ha hp => ?_
  have at₁ : s₁.heap.get? s.heap.objs.size = some { cls := .type "dict", data := .dict #[] } := by
    rcases g₁.keep _ _ (Heap.get?_push_size _ rfl) (by rintro (t | t | t); exact notAdr t; exact notTab t; exact nomatch t) with e | ⟨t, _⟩
    · exact e
    · exact absurd (F.fm.onStk t).1 notMt
  have nd := nodupK_ok n4
  have hl := VRs.length x₁
  have hvl : vs.length = l.length := by
    have : ∀ {es : List Expr} {σ : St} {vs : List V} {σ' : St}, evL r es ρ σ = some (vs, σ') → vs.length = es.length := by
      intro es
      induction es with
      | nil => intro σ vs σ' h; (revert q; (first | refine sp3_g h ?_ | refine sp_g h ?_); intro q); rfl
      | cons e es ih =>
        intro σ vs σ' h
        have h : (match isStar e with | true => none | false => bd (r.E e ρ σ) fun p => bd (evL r es ρ p.2) fun q => some (p.1 :: q.1, q.2)) = some (vs, σ') := h
        split at h
        · exact nsx h
        · refine bd_e2 h fun v σ₁ h1 h => ?_
          revert h
          refine bd_r2 fun ws σ₂ h2 h => ?_
          (revert q; (first | refine sp3_g h ?_ | refine sp_g h ?_); intro q)
          (refine rwm (List.length_cons) ?_; refine rwm (List.length_cons) ?_; exact rwm (ih h2) rfl)
    refine rwm (this h3) ?_; omega
  refine display_done_str ha ?_ ?_ fun h' hd hsb => ?_
  · (refine rwm (hp) ?_; refine rwm (List.map_fst_zip (by omega)) ?_); exact nd
  · exact (wi9 _ #[] 0 at₁ ⟨rfl, rfl, rfl⟩ rfl (by intro e m; simp at m) .nil List.nodup_nil)
  · have le1 := g₁.le
    have mta : s.heap.objs.size ∈ W₁.mt := le1.mt _ (.head _)
    have nA : s.heap.objs.size ∉ W₁.adr := le1.notAdr (Heap.get?_push_size _ rfl) notAdr
    have kk : Keep (· = s.heap.objs.size) (fun _ => False) s₁.heap h' := .of _ _ fun b o e n => (hsb.2 b n).trans e
    have R₂ : StR C W₁ σ' { s₁ with heap := h', toks := s₁.toks + ps.length } := R₁.move (S := (· = s.heap.objs.size)) (P := fun _ => False) (.refl _ _) rfl rfl kk
      (fun b t => by subst t; exact (X9 (.inl mta) nA notTab h₀n)) (fun _ t => t.elim) (fun b m => by
        by_cases e : b = s.heap.objs.size
        · clear m
          subst e; (refine y9 hd fun o _ _ e _ => ?_; clear hd); exact .inr ⟨o, e⟩
        · exact .inl ⟨m, e⟩)
    have R₃ := R₂.drop nA notTab
    have x₃ : VRs C.toCx (W₁.drop s.heap.objs.size) h' vs vs' := (x₁.mono (.refl _ _) kk (fun b t => by subst t; exact .inl mta) (fun _ t => t.elim)).monoL (W₁.drop_lv h' _) (.refl (fun _ => False) (fun _ => False) _) (fun _ t => t.elim) (fun _ t => t.elim)
    have keepAll : ∀ b o, s.heap.get? b = some o → b ≠ s.heap.objs.size := fun b o e q => by rw [q, fr] at e; exact nsx e
    refine q (W₁.drop s.heap.objs.size) _ _ ⟨⟨le1.adr, le1.syms, fun b m => Wd.mem_drop.mpr ⟨le1.mt b (.tail _ m), fun e => notMt (e ▸ m)⟩, fun b m => ?_, fun b m => ?_⟩, fun b o e t => ?_, fun b o e => ?_, g₁.drawn⟩ R₃ ?_
    · refine w8 (Wd.mem_drop.mp m) fun m ne => ?_
      rcases le1.new b m with m | m
      · rcases List.mem_cons.mp m with e | m
        · exact absurd e ne
        · exact .inl m
      · refine .inr ?_
        induction z : s.heap.get? b using Option.casesOn with
        | none => rfl
        | some o => have := kp b o z; rw [this] at m; exact snx m
    · rcases le1.newAdr b m with m | m
      · exact .inl m
      · refine .inr ?_
        induction z : s.heap.get? b using Option.casesOn with
        | none => rfl
        | some o => have := kp b o z; rw [this] at m; exact snx m
    · rcases g₁.keep b o (kp b o e) t with z | ⟨z1, sl, z2⟩
      · exact .inl ((hsb.2 b (keepAll b o e)).trans z)
      · exact .inr (X8 z1 sl ((hsb.2 b (keepAll b o e)).trans z2))
    · refine w5 (g₁.live b o (kp b o e)) fun o' z => ?_
      exact ⟨o', (hsb.2 b (keepAll b o e)).trans z⟩
    · rw [hp] at hd
      refine W6 (hd.mapOf) fun o es' ep e1 e2 e3 e4 => ?_
      refine w5 (G.sys) fun osys esys => ?_
      refine .dct (f := valueAt (l.zip vs')) (w7 o ⟨e1, fun m => (Wd.mem_drop.mp m).2 rfl, ?_⟩ (fun h₂ e => (X7 o es' ep e e2 e3 e4))) ?_ (valueAt_has x₃) (VRd.of_zip x₃ nd)
      · have c : o.cls = .type "dict" := by first | exact e2.1 | exact e2.2
        unfold isIter
        refine rwm (c) ?_; rfl
      · rw [beq_eq_false_iff_ne]
        intro e
        have lt := Heap.lt_size (R.ground _ _ esys)
        rw [e] at lt
        exact absurd lt (by decide)
end
inductive Ph where
  | raw
  | fly (T : Addr)
  | held (T L : Addr)
noncomputable def Ph.own : Ph → List Addr
  | .raw => []
  | .fly T => [T]
  | .held T _ => [T]
noncomputable def Ph.ok (ph : Ph) (h : Heap) (vs : Array Value) : Prop := match ph with
  | .raw => vs[1]? = some .none
  | .fly T => vs[1]? = some (.ref T) ∧ ∃ oT ts, h.get? T = some oT ∧ oT.data = .fields ts ∧ ts[3]? = some .none
  | .held T L => vs[1]? = some (.ref T) ∧ ∃ oT ts, h.get? T = some oT ∧ oT.data = .fields ts ∧ ts[3]? = some (rawInt L)
inductive ExcD (W : Wd) (h : Heap) (oe : Obj) (x : Str) : Prop
  | mk (d : Addr) (od : Obj) (t₀ : Addr) (vs₀ : Array Value) (n₀ : Nat) (t₁ : Addr) (vs₁ : Array Value) (n₁ : Nat) (k : Tok) : oe.dict = some d → Fz W h d od → lookIn "value" od = some (some (.ref t₀)) → Fz W h t₀ { cls := .type "tuple", data := .seq vs₀ n₀ } → vs₀[1]? = some (.ref t₁) → Fz W h t₁ { cls := .type "tuple", data := .seq vs₁ n₁ } → vs₁[1]? = some (.str x k) → ExcD W h oe x
inductive ExcO (C : Cx) (W : Wd) (h : Heap) (e : Addr) (x : Str) (ph : Ph) : Prop
  | mk (oe : Obj) (vs : Array Value) : h.get? e = some oe → oe.cls = .ref C.thrown → oe.data = .fields vs → ph.ok h vs → ExcD W h oe x → ExcO C W h e x ph
structure ExcS (C : Cx) (W : Wd) (h : Heap) (e : Addr) (x : Str) (ph : Ph) : Prop where
  obj : ExcO C W h e x ph
  ne : ∀ T ∈ ph.own, T ≠ e
  mt : ∀ b ∈ e :: ph.own, b ∈ W.mt
  adr : ∀ b ∈ e :: ph.own, b ∉ W.adr
  tabs : ∀ b ∈ e :: ph.own, b ∉ C.tabs
noncomputable def Thr (C : Cy) (A : Around) (own : List Addr) (W : Wd) (s : Shared) (σ' : St) (x : Str) (E : Value → Shared → Prop) : Prop :=
  ∀ W' s' a T, s.heap.get? a = none → s.heap.get? T = none → Go C A own W s W' s' → StR C W' σ' s' → ExcS C.toCx W' s'.heap a x (.fly T) → E (.ref a) s'
noncomputable def Val (C : Cy) (A : Around) (own : List Addr) (W : Wd) (s : Shared) (σ' : St) (v : V) (Q : Value → Shared → Prop) : Prop :=
  ∀ W' s' v', Go C A own W s W' s' → StR C W' σ' s' → VR C.toCx W' s'.heap v v' → Q v' s'
noncomputable def Two (C : Cy) (A : Around) (W : Wd) (s : Shared) (σ' : St) (R : Rs) (Q E : Value → Shared → Prop) : Prop := match R with
  | .val v => Val C A [] W s σ' v Q
  | .exc x => Thr C A [] W s σ' x E
noncomputable def OkC (C : Cy) (r : Rec) (n : Nat) : Prop := ∀ {f : V} {args : List V} {σ : St} {R : Rs} {σ' : St}, r.C f args σ = some (R, σ') →
  ∀ {A : Around} {W : Wd} {s : Shared} {vf : Value} {vargs : List Value}, Room A n → FmR C A W s.heap → StR C W σ s → VR C.toCx W s.heap f vf → VRs C.toCx W s.heap args vargs →
  ∀ {Q : Value → Shared → Prop} {E : Value → Shared → Prop}, Two C A W s σ' R Q E → wpAny C.M A (call vf vargs) Q E s
theorem Two.before {C : Cy} {A : Around} {W W₁ : Wd} {s s₁ : Shared} {σ' : St} {R : Rs} {Q E : Value → Shared → Prop} (x : Two C A W s σ' R Q E) (g : Go C A [] W s W₁ s₁) : Two C A W₁ s₁ σ' R Q E := by
  have back : ∀ b, s₁.heap.get? b = none → s.heap.get? b = none := by
    intro b n
    induction q : s.heap.get? b using Option.casesOn with
    | none => rfl
    | some o =>
      refine w5 (g.live b o q) fun o' e => ?_
      rw [e] at n; exact snx n
  induction R using Rs.casesOn with
  | val v => exact fun W' s' v' g' R' x' => x W' s' v' (g.trans g') R' x'
  | exc n => exact fun W' s' a T f1 f2 g' R' x' => x W' s' a T (back a f1) (back T f2) (g.trans g') R' x'
noncomputable def Kept (C : Cy) (h : Heap) (v : Value) : Prop := ∃ k, (k = Keeper.frame ∨ k = Keeper.machine ∨ k = Keeper.boundFrame) ∧ Looks C.M h (keeperOf v) k
section
variable {C : Cy} {X : Tx} {A : Around} {own : List Addr} {W W' W₁ : Wd} {s s' s₁ : Shared} {σ σ' : St} {env : Env} {ρ : Fr} {r : Rec} {n : Nat} {E : Value → Shared → Prop}
theorem val_some {p : Option (V × St)} {R : Rs} (h : val p = some (R, σ')) : ∃ v, p = some (v, σ') ∧ R = .val v := by
  induction p using Option.casesOn with
  | none => exact nsx h
  | some p => (first | (obtain ⟨rfl, rfl, rfl⟩ := sp3 h) | (obtain ⟨rfl, rfl⟩ := sp h) | cases h); exact (w7 p.1 rfl rfl)
theorem callTup_ok {a v : V} {va : Value} {Q : Value → Shared → Prop} (h : callTup a σ = some (v, σ')) (R : StR C W σ s) (xa : VR C.toCx W s.heap a va) (q : Val C A [] W s σ' v Q) : wpAny C.M A (call (.type "tuple") [va]) Q E s := by
  induction a using V.casesOn with
  | tup l =>
    (revert q; (first | refine sp3_g h ?_ | refine sp_g h ?_); intro q)
    replace xa := xa.inv
    refine W6 xa fun _ _ _ z b rs zz1 => ?_
    clear xa
    subst zz1
    exact PySem.call_tuple_same (Y5 _ z.1 rfl _ rfl) (q W s _ (.refl ..) R (.tup z b rs))
  | lst i =>
    refine bd_e (show (bd (σ.list i) fun l => newT σ l) = some (v, σ') from h) fun l h1 h2 => ?_
    refine X0 (VR.list R h1 xa) fun ad vs zz1 _ p rs hb => ?_
    clear xa
    subst zz1
    refine PySem.call_tuple_list p.isList (fun h' hk => ?_) (by (refine rwm (List.size_toArray) ?_; refine rwm (VRs.length rs) ?_); exact le_sizeLine hb)
    have g₁ : Go C A [] W s W { s with heap := h' } := Go.grow (tk := s.toks) hk
    have R₁ : StR C W σ { s with heap := h' } := R.grow (tk := s.toks) hk
    have rs₁ : VRs C.toCx W h' l vs := rs.mono (.refl _ _) (.of (fun _ => False) (fun _ => False) fun b o e _ => hk b o e) (fun _ t => t.elim) (fun _ t => t.elim)
    exact (newT_ok (A := A) h2 R₁ rs₁ fun s' v' g R' r' => q _ _ _ (g₁.trans g) R' r').2
  | _ => exact nsx h
theorem callLst_ok {a v : V} {va : Value} {Q : Value → Shared → Prop} (h : callLst a σ = some (v, σ')) (R : StR C W σ s) (xa : VR C.toCx W s.heap a va) (q : Val C A [] W s σ' v Q) : wpAny C.M A (call (.type "list") [va]) Q E s := by
  have made : ∀ {l : List V} {it : Addr} {T : String} {o : Obj} {vs : List Value} {m : Nat}, T = "list" ∨ T = "tuple" → s.heap.get? it = some o → o.cls = .type T → o.data = .seq vs.toArray m → VRs C.toCx W s.heap l vs → l.length ≤ 1000 → newL σ l = some (v, σ') → wpAny C.M A (call (.type "list") [.ref it]) Q E s := by
    intro l it T o vs m hT ho hc hd rs hb h2
    refine PySem.call_list_seq it hT ho hc hd (fun h' c' hk hD => ?_) (by (refine rwm (List.size_toArray) ?_; refine rwm (VRs.length rs) ?_); exact le_sizeLine hb)
    unfold newL at h2
    induction hf : few l && Nat.blt σ.n 1000000 using Bool.casesOn with
    | false => rw [hf] at h2; exact nsx h2
    | true =>
      rw [hf] at h2
      refine w8 (Bool.and_eq_true_iff.mp hf) fun f1 f2 => ?_
      have hn : σ.n < 1000000 := Nat.le_of_ble_eq_true f2
      have hp : PlainL h' s.heap.objs.size vs.toArray := (y8 _ c' hD rfl rfl rfl)
      have e := Option.some.inj h2
      have e1 : v = .lst σ.n := (congrArg Prod.fst e).symm
      have e2 : σ' = (σ.new l).2 := (congrArg Prod.snd e).symm
      clear e h h2
      subst e1 e2
      refine q _ _ _ (Go.new (tk := s.toks) hk (get_size_none _)) (R.new (tk := s.toks) hn hk (get_size_none _) hp rs hb) (.lst ?_)
      (refine rwl (R.len) ?_; refine rwm (List.getElem?_append_right (Nat.le_refl _)) ?_; refine rwm (Nat.sub_self ..) ?_); rfl
  induction a using V.casesOn with
  | tup l =>
    replace xa := xa.inv
    refine W6 xa fun _ _ _ z b rs zz1 => ?_
    clear xa
    subst zz1
    exact made (.inr rfl) z.1 rfl rfl rs b h
  | lst i =>
    refine bd_e (show (bd (σ.list i) fun l => newL σ l) = some (v, σ') from h) fun l h1 h2 => ?_
    refine X0 (VR.list R h1 xa) fun ad vs zz1 _ zz2 rs hb => ?_
    clear xa
    subst zz1
    obtain ⟨o, m, e1, e2, _, e4⟩ := zz2
    exact made (.inl rfl) e1 e2 e4 rs hb h2
  | _ => exact nsx h
theorem callLen_ok {a v : V} {va : Value} {Q : Value → Shared → Prop} (h : callLen a σ = some (v, σ')) (R : StR C W σ s) (xa : VR C.toCx W s.heap a va) (q : Val C A [] W s σ' v Q) : wpAny C.M A (call (.builtin "len") [va]) Q E s := by
  induction a using V.casesOn with
  | tup l =>
    refine w6 (pair_some (show pair (mkI (Int.ofNat l.length)) σ = some (v, σ') from h)) fun v₁ e ep => ?_
    first | ((refine w8 (Prod.mk.inj ep) fun zz1 zz2 => ?_; subst zz1; subst zz2)) | cases ep
    refine w8 (mkI_some e) fun zz1 hs => ?_
    clear e ep h
    subst zz1
    replace xa := xa.inv
    refine W6 xa fun _ _ _ z b rs zz1 => ?_
    clear xa
    subst zz1
    have hl := VRs.length rs
    refine PyProof.Rows.len_tuple (Y5 _ z.1 rfl _ rfl) (by (refine rwm (List.size_toArray) ?_; refine rwm (hl) ?_); omega) (q W _ _ (Go.tok _) (R.tok _) ?_)
    (refine rwm (List.size_toArray) ?_; refine rwm (hl) ?_)
    exact .lit _ _
  | lst i =>
    refine bd_e (show (bd (σ.list i) fun l => pair (mkI (Int.ofNat l.length)) σ) = some (v, σ') from h) fun l h1 h2 => ?_
    replace h2 := pair_some h2
    refine w6 h2 fun v₁ e ep => ?_
    clear h2
    first | ((refine w8 (Prod.mk.inj ep) fun zz1 zz2 => ?_; subst zz1; subst zz2)) | cases ep
    refine w8 (mkI_some e) fun zz1 hs => ?_
    clear e ep h
    subst zz1
    refine X0 (VR.list R h1 xa) fun ad vs zz1 _ p rs hb => ?_
    clear xa
    subst zz1
    have hl := VRs.length rs
    refine PyProof.Rows.len_list p.isList (by (refine rwm (List.size_toArray) ?_; refine rwm (hl) ?_); omega) (q W _ _ (Go.tok _) (R.tok _) ?_)
    (refine rwm (List.size_toArray) ?_; refine rwm (hl) ?_)
    exact .lit _ _
  | _ => exact nsx h
theorem callMax_ok {a b v : V} {va vb : Value} {Q : Value → Shared → Prop} (h : callMax a b σ = some (v, σ')) (hr : Room A n) (R : StR C W σ s) (xa : VR C.toCx W s.heap a va) (xb : VR C.toCx W s.heap b vb) (q : Val C A [] W s σ' v Q) : wpAny C.M A (call (.builtin "max") [va, vb]) Q E s := by
  induction a using V.casesOn with
  | int z =>
    induction z using Z.casesOn with
    | sym i => exact nsx h
    | lit x =>
      induction b using V.casesOn with
      | int z' =>
        induction z' using Z.casesOn with
        | sym i => exact nsx h
        | lit y =>
          replace xa := xa.inv
          refine w5 xa fun t zz1 => ?_
          clear xa
          subst zz1
          replace xb := xb.inv
          refine w5 xb fun u zz1 => ?_
          clear xb
          subst zz1
          have h : (match decide (x < y) with | true => some (V.int (.lit y), σ) | false => some (V.int (.lit x), σ)) = some (v, σ') := h
          refine max_two_ints hr.handled fun h' tk hk => ?_
          induction q3 : decide (x < y) using Bool.casesOn with
          | true =>
            rw [q3] at h; (revert q; (first | refine sp3_g h ?_ | refine sp_g h ?_); intro q)
            refine rwm (if_pos (show y > x from of_decide_eq_true q3)) ?_
            exact q W _ _ (Go.grow hk) (R.grow hk) (.lit _ _)
          | false =>
            rw [q3] at h; (revert q; (first | refine sp3_g h ?_ | refine sp_g h ?_); intro q)
            refine rwm (if_neg (show ¬ y > x from of_decide_eq_false q3)) ?_
            exact q W _ _ (Go.grow hk) (R.grow hk) (.lit _ _)
      | _ => exact nsx h
  | _ => exact nsx h
theorem callCon_ok {c : Value} {args : List V} {v : V} {vargs : List Value} {Q : Value → Shared → Prop} (h : callCon c args σ = some (v, σ')) (hr : Room A n) (R : StR C W σ s) (xs : VRs C.toCx W s.heap args vargs)
    (q : Val C A [] W s σ' v Q) : wpAny C.M A (call c vargs) Q E s := by
  induction c using Value.casesOn with
  | type t =>
    cases xs with
    | nil => exact nsx h
    | @cons a as va vas xa xr =>
      cases xr with
      | cons _ _ => exact nsx h
      | nil =>
        have h : callT t a σ = some (v, σ') := h
        unfold callT at h
        induction q1 : decide (t = "tuple") using Bool.casesOn with
        | true =>
          have e := of_decide_eq_true q1
          rw [q1] at h; clear h q1; subst e
          exact callTup_ok h R xa q
        | false =>
          rw [q1] at h
          induction q2 : decide (t = "list") using Bool.casesOn with
          | true =>
            have e := of_decide_eq_true q2
            rw [q2] at h; clear h q1 q2; subst e
            exact callLst_ok h R xa q
          | false =>
            rw [q2] at h
            induction q3 : decide (t = "range") using Bool.casesOn with
            | false => rw [q3] at h; exact nsx h
            | true =>
              have e := of_decide_eq_true q3
              rw [q3] at h; clear q1 q2 q3; subst e
              refine bd_e (show (bd (natOf a) fun n => some (.rng n, σ)) = some (v, σ') from h) fun k h1 h2 => ?_
              (revert q; (first | refine sp3_g h2 ?_ | refine sp_g h2 ?_); intro q)
              refine w8 (natOf_some h1) fun zz1 _ => ?_
              clear h h1
              subst zz1
              replace xa := xa.inv
              refine w5 xa fun t zz1 => ?_
              clear xa
              subst zz1
              have kp := push_keeps s.heap { cls := .type "range", data := .fields #[.int 0 s.toks, .int (k : Int) t, .int 1 (s.toks + 1)] }
              exact PySem.call_range_1 (q W _ _ (Go.grow (tk := s.toks + 1 + 1) kp) (R.grow (tk := s.toks + 1 + 1) kp) (.rng (R.fz_push rfl rfl)))
  | builtin b =>
    cases xs with
    | nil => exact nsx h
    | @cons a as va vas xa xr =>
      cases xr with
      | nil =>
        have h : (match decide (b = "len") with | true => callLen a σ | false => none) = some (v, σ') := h
        induction q1 : decide (b = "len") using Bool.casesOn with
        | true =>
          have e := of_decide_eq_true q1
          rw [q1] at h; clear q1; subst e
          exact callLen_ok h R xa q
        | false => rw [q1] at h; exact nsx h
      | @cons a₂ as va₂ vas xa₂ xr =>
        cases xr with
        | nil =>
          have h : (match decide (b = "max") with | true => callMax a a₂ σ | false => none) = some (v, σ') := h
          induction q1 : decide (b = "max") using Bool.casesOn with
          | true =>
            have e := of_decide_eq_true q1
            rw [q1] at h; clear q1; subst e
            exact callMax_ok h hr R xa xa₂ q
          | false => rw [q1] at h; exact nsx h
        | cons _ _ => exact nsx h
  | _ => exact nsx h
theorem kept_ok (G : Gr C X) {f : V} {vf : Value} (hc : callable f = true) (x : VR C.toCx W s.heap f vf) (R : StR C W σ s) : Kept C s.heap vf := by
  induction x using VR.casesOn with
  | con _ h =>
    clear hc
    rcases h with ⟨t, rfl⟩ | ⟨t, rfl, _⟩
    · exact (w7 .machine (.inr (.inl rfl)) .now)
    · exact (w7 .machine (.inr (.inl rfl)) .now)
  | fn e => exact G.kept e _ R.ground
  | clo h _ =>
    obtain ⟨o, fd, c, oc, vs, t, z, e1, _⟩ := h
    obtain ⟨cl, di, da, sl⟩ := o
    have e1 : da = _ := e1
    subst e1
    exact (w7 .frame (.inl rfl) ((Looks.ld (part := none) z.1).andThen .now))
  | _ => exact ftx hc
theorem evL_star : ∀ {es : List Expr} {σ σ' : St} {vs : List V}, evL r es ρ σ = some (vs, σ') → ∀ e ∈ es, isStar e = false
  | [], _, _, _, _, _, m => nomatch m
  | e :: es, σ, σ', vs, h, x, m => by
    have h : (match isStar e with | true => none | false => bd (r.E e ρ σ) fun p => bd (evL r es ρ p.2) fun q => some (p.1 :: q.1, q.2)) = some (vs, σ') := h
    induction hs : isStar e using Bool.casesOn with
    | true => rw [hs] at h; exact nsx h
    | false =>
      rw [hs] at h
      revert h
      refine bd_r2 fun v σ₁ h1 h => ?_
      revert h
      refine bd_r2 fun ws σ₂ h2 h => ?_
      rcases mc m with rfl | m
      · exact hs
      · exact evL_star h2 x m
theorem starEach_plain {pos : Pos} : ∀ {es : List Expr}, (∀ e ∈ es, isStar e = false) → (backTo pos (starEach es env)).any (·.1) = false ∧ (starEach es env).all (fun x => !x.1) = true
  | [], _ => ⟨rfl, rfl⟩
  | e :: es, h => by
    have h1 := h e (.head _)
    refine w8 (starEach_plain (pos := pos) (es := es) fun x m => h x (.tail _ m)) fun h2 h3 => ?_
    refine rwm (starEach_cons h1) ?_
    refine ⟨?_, by (refine rwm (List.all_cons) ?_; refine rwm (h3) ?_); rfl⟩
    clear h3
    induction es using List.casesOn with
    | nil => rfl
    | cons e' es =>
      rw [starEach_cons (h e' (.tail _ (.head _)))] at h2 ⊢
      first
        | exact h2
        | simpa [backTo] using h2
theorem callWith_ok (G : Gr C X) (H : OkE C r n) (HC : OkC C r n) (hr : Room A n) {pos : Pos} {f : V} {first : List V} {es : List Expr} {vs : List V} {σ₁ : St} {Rr : Rs} {vf : Value} {vfirst : List Value} {Q : Value → Shared → Prop}
    (h1 : evL r es ρ σ = some (vs, σ₁)) (h2 : callV r f (first ++ vs) σ₁ = some (Rr, σ')) (F : FrR C A W env own ρ s.heap) (R : StR C W σ s) (xf : VR C.toCx W s.heap f vf) (xs : VRs C.toCx W s.heap first vfirst)
    (q : Two C A W s σ' Rr Q E) : wpAny C.M A (callWith pos vf vfirst (backTo pos (starEach es env)) []) Q E s := by
  unfold callV at h2
  induction hc : callable f using Bool.casesOn with
  | false => rw [hc] at h2; exact nsx h2
  | true =>
    rw [hc] at h2
    refine w8 (starEach_plain (env := env) (pos := pos) (evL_star h1)) fun hp _ => ?_
    refine callWith_of (P := fun h => Kept C h vf) (by refine rwm (hp) ?_; rfl) (fun _ k => k) ?_
    have go : ∀ W₁ s₁ vs', Go C A [] W s W₁ s₁ → StR C W₁ σ₁ s₁ → VRs C.toCx W₁ s₁.heap vs vs' → Kept C s₁.heap vf ∧ wpAny C.M A (call vf (vfirst ++ vs')) Q E s₁ := by
      intro W₁ s₁ vs' g R₁ xv
      have xf₁ := g.vr R F.fm (fun _ m => nomatch m) xf
      have xs₁ := g.vrs R F.fm (fun _ m => nomatch m) xs
      exact ⟨kept_ok G hc xf₁ R₁, HC h2 hr (F.fm.mono0 g) R₁ xf₁ (xs₁.append xv) (q.before g)⟩
    clear hp
    induction es using List.casesOn with
    | nil =>
      (first | (obtain ⟨rfl, rfl, rfl⟩ := sp3 h1) | (obtain ⟨rfl, rfl⟩ := sp h1) | cases h1)
      refine evalArgs_nil3 ?_
      have := go W s [] (.refl ..) R .nil
      exact this
    | cons e es =>
      have hs := evL_star h1 e (.head _)
      have := evL_ok (E := E) H hr (pos := pos) h1 F R go
      rw [starEach_cons hs] at this ⊢
      exact Calls.evalArgs_plain this
theorem put_some {i : Nat} {l : List V} (h : σ.put i l = some σ') : i < 1000000 ∧ σ' = { σ with tr := Tr.set (.lst l) 40 σ.tr i } := by
  unfold St.put at h
  induction q : Nat.blt i 1000000 using Bool.casesOn with
  | false => rw [q] at h; exact nsx h
  | true => rw [q] at h; (revert h; refine sm_r fun zz => ?_; subst zz); exact ⟨Nat.le_of_ble_eq_true q, rfl⟩
theorem append_ok (H : OkE C r n) (hr : Room A n) {o x : Expr} {ap pos : Pos} {i : Nat} {v : V} {l : List V} {σ₁ σ₂ : St} {Q : Value → Shared → Prop} (hn : noSuper o = true) (hs : isStar x = false) (hl : (ap.endLine == pos.line) = true)
    (h1 : r.E o ρ σ = some (.lst i, σ₁)) (h2 : r.E x ρ σ₁ = some (v, σ₂)) (h3 : σ₂.list i = some l) (h4 : Nat.blt l.length 1000 = true) (h5 : σ₂.put i (l ++ [v]) = some σ') (F : FrR C A W env own ρ s.heap) (R : StR C W σ s)
    (q : Val C A [] W s σ' .none Q) : wpAny C.M A (eval (.Call (.Attribute o "append" ap) [x] [] pos) env) Q E s := by
  have ht : backTo pos (starEach [x] env) = [(false, eval x env)] := by refine rwm (starEach_cons hs) ?_; rfl
  refine wpAny_Call_append (noSuper_base hn) (by refine rwm (ht) ?_; rfl) hl ht ?_
  refine H h1 hr F R fun W₁ s₁ v₁ g₁ R₁ x₁ => ?_
  replace x₁ := x₁.inv
  refine w6 x₁ fun a ha zz1 => ?_
  clear x₁
  subst zz1
  refine w5 (R₁.lists a (List.mem_of_getElem? ha)) fun its p => ?_
  refine (y7 a its rfl p ?_)
  have F₁ := F.mono R g₁
  refine H h2 hr F₁ R₁ fun W₂ s₂ v₂ g₂ R₂ x₂ => ?_
  have xl : VR C.toCx W₂ s₂.heap (.lst i) (.ref a) := g₂.vr R₁ F₁.fm (fun _ m => nomatch m) (.lst ha)
  refine X0 (VR.list R₂ h3 xl) fun a' vs e ha' p' rs hb => ?_
  cases e
  have hlt : l.length < 1000 := Nat.le_of_ble_eq_true h4
  refine w8 (put_some h5) fun hi zz1 => ?_
  clear h5
  subst zz1
  refine list_append_plainL p' (fun h' ph hsb => ?_) (by (refine rwm (List.size_toArray) ?_; refine rwm (VRs.length rs) ?_); exact le_sizeLine hb)
  have ph : PlainL h' a (vs ++ [v₂]).toArray := by simpa using ph
  refine q W₂ _ _ ((g₁.trans g₂).trans (Go.put (tk := s₂.toks) ha' hsb ph)) (R₂.put (tk := s₂.toks) hi ha' hsb ph (rs.append (.cons x₂ .nil)) (by refine rwm (List.length_append) ?_; simp; omega)) .none
theorem meth_ok (G : Gr C X) (H : OkE C r n) (HC : OkC C r n) (hr : Room A n) {o : Expr} {a : Str} {ap pos : Pos} {es : List Expr} {vo : V} {c : V × List V} {vs : List V} {σ₁ σ₂ : St} {Rr : Rs} {Q : Value → Shared → Prop}
    (hn : noSuper o = true) (hl : (ap.endLine == pos.line) = true) (hlt : Nat.blt es.length 20 = true) (h1 : r.E o ρ σ = some (vo, σ₁)) (h2 : methOf X vo a = some c) (h3 : evL r es ρ σ₁ = some (vs, σ₂)) (h4 : callV r c.1 (c.2 ++ vs) σ₂ = some (Rr, σ'))
    (F : FrR C A W env own ρ s.heap) (R : StR C W σ s) (q : Two C A W s σ' Rr Q E) : wpAny C.M A (eval (.Call (.Attribute o a ap) es [] pos) env) Q E s := by
  refine w8 (starEach_plain (env := env) (pos := pos) (evL_star h3)) fun hp1 hp2 => ?_
  have hlt : es.length < 20 := Nat.le_of_ble_eq_true hlt
  have hform : methodCallForm (es.length + ([] : List Keyword).length) (backTo pos (starEach es env)) (backToKw pos (keywordEach [] env)) = true := by
    unfold methodCallForm
    have e1 : (backTo pos (starEach es env)).all (fun x => !x.1) = true := by
      rw [List.all_eq_true]
      intro y m
      have := List.any_eq_false.mp hp1 y m
      simpa using this
    refine rwm (e1) ?_
    simp only [Bool.true_and]
    have : (backToKw pos (keywordEach [] env)) = [] := rfl
    refine rwm (this) ?_
    simp
    omega
  (refine rwm (arm_eval_Call ..) ?_; refine rwm (noSuper_base hn) ?_)
  refine wpAny_bind (H h1 hr F R fun W₁ s₁ v₁ g₁ R₁ x₁ => wpAny_bind (wpAny_standAt ?_))
  have hpos : methodCallPos true o env ap pos = pure pos := by unfold methodCallPos; simp [hl]
  unfold methodCall
  refine rwm (hform) ?_
  refine wpAny_bind (wpAny_holding ?_)
  refine G.meth h2 R₁ x₁ fun vf vfs tk xf xs => ?_
  refine wpAny_bind (wpAny_of_eq hpos ?_)
  have g₂ := g₁.trans (Go.tok (C := C) (A := A) (own := []) tk)
  exact callWith_ok G H HC hr h3 h4 (F.mono R g₂) (R₁.tok tk) xf xs (q.before g₂)
theorem plain_ok (G : Gr C X) (H : OkE C r n) (HC : OkC C r n) (hr : Room A n) {f : Expr} {pos : Pos} {es : List Expr} {vf : V} {vs : List V} {σ₁ σ₂ : St} {Rr : Rs} {Q : Value → Shared → Prop}
    (hf : ∀ o a p, f ≠ .Attribute o a p) (h1 : r.E f ρ σ = some (vf, σ₁)) (h3 : evL r es ρ σ₁ = some (vs, σ₂)) (h4 : callV r vf vs σ₂ = some (Rr, σ'))
    (F : FrR C A W env own ρ s.heap) (R : StR C W σ s) (q : Two C A W s σ' Rr Q E) : wpAny C.M A (eval (.Call f es [] pos) env) Q E s := by
  refine Call_ ?_ (by clear h1; induction f using Expr.casesOn <;> first | rfl | exact absurd rfl (hf _ _ _))
  refine H h1 hr F R fun W₁ s₁ v₁ g₁ R₁ x₁ => ?_
  exact callWith_ok G H HC hr (first := []) h3 h4 (F.mono R g₁) R₁ x₁ .nil (q.before g₁)
end
section
variable {prog : Program} {w : World} {A : Around} {E : Value → Shared → Prop} {s : Shared}
theorem nextOf_tup_item {it t : Addr} {i : Nat} {items : Array Value} {x : Value} {Q : Value → Shared → Prop} (hit : s.heap.IsTupleIter it t i) (ht : s.heap.IsTuple t items) (hx : items[i]? = some x)
    (hQ : ∀ h', h'.IsTupleIter it t (i + 1) → Heap.SameBut it s.heap h' → Q x { s with heap := h' }) : wpAny (model prog w) A (Builtin.SmallTypes.nextOf (.ref it)) Q E s := by
  refine W3 (id hit) fun o ho hc hd => ?_
  refine wi3 ht fun ol hol _ nl hdl => ?_
  clear ht
  unfold Builtin.SmallTypes.nextOf
  refine wpAny_bind (wpAny_callSpecial?_slot (name := Str.ofString "__next__") hit.typeIs F.slot_tuple_iterator_next
    (wpAny_call_entry F.slot_tuple_iterator_next hit.typeIs F.entry_tuple_iterator_next ?_ (F.args_tuple_iterator_next_1 _)))
  refine (?_ : wpAny _ _ (field (.ref it) 0 >>= _) _ _ s)
  refine wpAny_bind (wpAny_field ho hd (x := .ref t) rfl ?_)
  refine (?_ : wpAny _ _ (if (Value.ref t == Value.none) = true then _ else _) _ _ s)
  refine rwm (if_neg (show ¬ ((Value.ref t == Value.none) = true) from Bool.false_ne_true)) ?_
  refine (?_ : wpAny _ _ (field (.ref it) 1 >>= _) _ _ s)
  refine wpAny_bind (wpAny_field ho hd (x := .int i 0) rfl ?_)
  refine (?_ : wpAny _ _ (seqItems? (.ref t) >>= _) _ _ s)
  refine wpAny_bind (wpAny_seqItems hol hdl ?_)
  simp only [Int.toNat_natCast, hx]
  refine wpAny_bind (wpAny_setField ho hd (by simp) (wpAny_pure (w7 x rfl (wpAny_pure (hQ _ ?_ (Heap.SameBut.update ..))))))
  exact ⟨_, Heap.get?_update_self _ ho (Obj.isFreed_of_fields (Obj.data_mapFields hd _)), (Obj.cls_mapFields ..).trans hc, by
    refine rwm (Obj.data_mapFields hd ..) ?_; simp [rawInt]⟩
theorem nextOf_tup_end {it t : Addr} {i : Nat} {items : Array Value} {Q : Value → Shared → Prop} (hh : A.handled = none) (hit : s.heap.IsTupleIter it t i) (ht : s.heap.IsTuple t items) (hx : items[i]? = none)
    (hE : ∀ h' e, Heap.ExtBut it s.heap h' → (∃ o, h'.get? e = some o ∧ o.cls = .type "StopIteration") → E (.ref e) { s with heap := h' }) : wpAny (model prog w) A (Builtin.SmallTypes.nextOf (.ref it)) Q E s := by
  refine W3 (id hit) fun o ho hc hd => ?_
  refine wi3 ht fun ol hol _ nl hdl => ?_
  clear ht
  unfold Builtin.SmallTypes.nextOf
  refine wpAny_bind (wpAny_callSpecial?_slot (name := Str.ofString "__next__") hit.typeIs F.slot_tuple_iterator_next
    (wpAny_call_entry F.slot_tuple_iterator_next hit.typeIs F.entry_tuple_iterator_next ?_ (F.args_tuple_iterator_next_1 _)))
  refine (?_ : wpAny _ _ (field (.ref it) 0 >>= _) _ _ s)
  refine wpAny_bind (wpAny_field ho hd (x := .ref t) rfl ?_)
  refine (?_ : wpAny _ _ (if (Value.ref t == Value.none) = true then _ else _) _ _ s)
  refine rwm (if_neg (show ¬ ((Value.ref t == Value.none) = true) from Bool.false_ne_true)) ?_
  refine (?_ : wpAny _ _ (field (.ref it) 1 >>= _) _ _ s)
  refine wpAny_bind (wpAny_field ho hd (x := .int i 0) rfl ?_)
  refine (?_ : wpAny _ _ (seqItems? (.ref t) >>= _) _ _ s)
  refine wpAny_bind (wpAny_seqItems hol hdl ?_)
  simp only [Int.toNat_natCast, hx]
  refine wpAny_bind (wpAny_rule (wpAny_bind (wpAny_setField ho hd (by simp) ?_)))
  refine (?_ : wpAny _ _ (newExc (.type "StopIteration") [] >>= _) _ _ _)
  refine wpAny_bind ?_
  simp only [newExc, newTuple]
  refine wpAny_bind (wpAny_newObj_type ?_ (by size_fits))
  refine wpAny_bind (m := firstArgMember _ _) (wpAny_of_eq (a := Value.none) (by first | rfl | (simp only [firstArgMember]; rfl)) ?_)
  refine wpAny_newObj_type ?_ (by size_fits)
  simp only [raiseNew]
  refine wpAny_bind (wpAny_handled ?_)
  first | refine rwm (show A.in1.handled = none from hh) ?_ | rw [hh]
  refine wpAny_bind (wpAny_pure (wpAny_throw ?_))
  exact hE _ _ (((Heap.SameBut.update ..).extBut.push _).push _) (w7 _ (Heap.get?_push_size _ rfl) rfl)
end
structure Sc where
  J : Addr
  T : Addr
  arr : Array Value
  k : Nat
  tup : Bool
noncomputable def Sc.At (x : Sc) (h : Heap) : Prop := match x.tup with
  | true => h.IsTupleIter x.J x.T x.k ∧ h.IsTuple x.T x.arr
  | false => h.IsListIter x.J x.T x.k ∧ h.IsList x.T x.arr
noncomputable def Sc.next (x : Sc) : Sc := { x with k := x.k + 1 }
theorem Sc.keep {x : Sc} {h h' : Heap} (a : x.At h) (k : ∀ o, h.get? x.J = some o → h'.get? x.J = some o) (kt : ∀ o, h.get? x.T = some o → h'.get? x.T = some o) : x.At h' := by
  unfold Sc.At at *
  induction q : x.tup using Bool.casesOn with
  | true =>
    rw [q] at a
    refine Y9 a fun zz1 o' e' r' => ?_
    clear a
    obtain ⟨o, e, r⟩ := zz1
    exact ⟨(w7 o (k o e) r), (w7 o' (kt o' e') r')⟩
  | false =>
    rw [q] at a
    refine Y9 a fun zz1 o' e' r' => ?_
    clear a
    obtain ⟨o, e, r⟩ := zz1
    exact ⟨(w7 o (k o e) r), (w7 o' (kt o' e') r')⟩
theorem Sc.obj {x : Sc} {h : Heap} (a : x.At h) : ∃ o, h.get? x.J = some o ∧ isIter o = true ∧ ∃ vs, o.data = .fields vs := by
  unfold Sc.At at a
  induction q : x.tup using Bool.casesOn with
  | true =>
    rw [q] at a
    refine w8 a fun zz1 _ => ?_
    clear a
    obtain ⟨o, e, c, d⟩ := zz1
    exact (Y5 o e (by unfold isIter notCell; (refine rwm (c) ?_; refine rwm (d) ?_); rfl) _ d)
  | false =>
    rw [q] at a
    refine w8 a fun zz1 _ => ?_
    clear a
    obtain ⟨o, e, c, d⟩ := zz1
    exact (Y5 o e (by unfold isIter notCell; (refine rwm (c) ?_; refine rwm (d) ?_); rfl) _ d)
theorem Sc.src {x : Sc} {h : Heap} (a : x.At h) : ∃ o, h.get? x.T = some o ∧ isIter o = false ∧ ∃ vs n, o.data = .seq vs n := by
  unfold Sc.At at a
  induction q : x.tup using Bool.casesOn with
  | true =>
    rw [q] at a
    refine wi8 a fun _ o e c n d => ?_
    clear a
    exact ⟨o, e, by unfold isIter notCell; (refine rwm (c) ?_; refine rwm (d) ?_); rfl, _, n, d⟩
  | false =>
    rw [q] at a
    refine wi8 a fun _ o e c n d => ?_
    clear a
    exact ⟨o, e, by unfold isIter notCell; (refine rwm (c) ?_; refine rwm (d) ?_); rfl, _, n, d⟩
theorem Sc.TJ {x : Sc} {h : Heap} (a : x.At h) : x.T ≠ x.J := by
  refine W3 (Sc.obj a) fun o e i _ => ?_
  refine W3 (Sc.src a) fun o' e' i' _ => ?_
  intro q
  rw [q, e] at e'; (revert e'; refine sm_r fun zz => ?_; subst zz)
  rw [i] at i'; exact tfx i'
section
variable {prog : Program} {w : World} {A : Around} {E : Value → Shared → Prop} {s : Shared}
theorem Sc.item {x : Sc} {v : Value} {Q : Value → Shared → Prop} (a : x.At s.heap) (e : x.arr[x.k]? = some v) (hQ : ∀ h', x.next.At h' → Heap.SameBut x.J s.heap h' → Q v { s with heap := h' }) :
    wpAny (model prog w) A (Builtin.SmallTypes.nextOf (.ref x.J)) Q E s := by
  have ne := Sc.TJ a
  unfold Sc.At at a
  induction q : x.tup using Bool.casesOn with
  | true =>
    rw [q] at a
    refine nextOf_tup_item a.1 a.2 e fun h' hi hs => hQ h' ?_ hs
    unfold Sc.At Sc.next
    refine rwm (q) ?_
    refine w6 (a.2) fun o' e' r' => ?_
    exact ⟨hi, (w7 o' ((hs.2 _ ne).trans e') r')⟩
  | false =>
    rw [q] at a
    refine PySem.wpAny_nextOf_list_item a.1 a.2 e fun h' hi hs => hQ h' ?_ hs
    unfold Sc.At Sc.next
    refine rwm (q) ?_
    refine w6 (a.2) fun o' e' r' => ?_
    exact ⟨hi, (w7 o' ((hs.2 _ ne).trans e') r')⟩
theorem Sc.done {x : Sc} {Q : Value → Shared → Prop} (hh : A.handled = none) (a : x.At s.heap) (e : x.arr[x.k]? = none)
    (hE : ∀ h' e, Heap.ExtBut x.J s.heap h' → (∃ o, h'.get? e = some o ∧ o.cls = .type "StopIteration") → E (.ref e) { s with heap := h' }) :
    wpAny (model prog w) A (Builtin.SmallTypes.nextOf (.ref x.J)) Q E s := by
  unfold Sc.At at a
  induction q : x.tup using Bool.casesOn with
  | true => rw [q] at a; exact nextOf_tup_end hh a.1 a.2 e hE
  | false => rw [q] at a; exact PySem.wpAny_nextOf_list_end hh a.1 a.2 e hE
theorem Sc.pyItem {x : Sc} {v : Value} {Q : Option Value → Shared → Prop} (a : x.At s.heap) (e : x.arr[x.k]? = some v) (hQ : ∀ h', x.next.At h' → Heap.SameBut x.J s.heap h' → Q (some v) { s with heap := h' }) :
    wpAny (model prog w) A (pyNext (.ref x.J)) Q E s := by
  have ne := Sc.TJ a
  unfold Sc.At at a
  induction q : x.tup using Bool.casesOn with
  | true =>
    rw [q] at a
    refine PySem.wpAny_pyNext_tuple_item a.1 a.2 e fun h' hi hs => hQ h' ?_ hs
    unfold Sc.At Sc.next
    refine rwm (q) ?_
    refine w6 (a.2) fun o' e' r' => ?_
    exact ⟨hi, (w7 o' ((hs.2 _ ne).trans e') r')⟩
  | false =>
    rw [q] at a
    refine PySem.wpAny_pyNext_list_item a.1 a.2 e fun h' hi hs => hQ h' ?_ hs
    unfold Sc.At Sc.next
    refine rwm (q) ?_
    refine w6 (a.2) fun o' e' r' => ?_
    exact ⟨hi, (w7 o' ((hs.2 _ ne).trans e') r')⟩
theorem Sc.pyDone {x : Sc} {Q : Option Value → Shared → Prop} (hh : A.handled = none) (a : x.At s.heap) (e : x.arr[x.k]? = none)
    (hQ : ∀ h', Heap.ExtBut x.J s.heap h' → Q none { s with heap := h' }) : wpAny (model prog w) A (pyNext (.ref x.J)) Q E s := by
  unfold Sc.At at a
  induction q : x.tup using Bool.casesOn with
  | true => rw [q] at a; exact PySem.wpAny_pyNext_tuple_end hh a.1 a.2 e hQ
  | false => rw [q] at a; exact PySem.wpAny_pyNext_list_end hh a.1 a.2 e hQ
theorem forIn_go {α β : Type} {f : α → β → Sem (ForInStep β)} {b : β} {P : Nat → Shared → Prop} {Q : β → Shared → Prop} : ∀ (l : List α) (i : Nat) (s : Shared), P i s →
    (∀ j x s, l[j]? = some x → P (i + j) s → wpAny (model prog w) A (f x b) (fun r s' => r = .yield b ∧ P (i + j + 1) s') E s) → (∀ s, P (i + l.length) s → Q b s) → wpAny (model prog w) A (forIn l b f) Q E s
  | [], i, s, h, _, q => by
    refine rwm (List.forIn_nil) ?_
    exact wpAny_pure (q s h)
  | x :: l, i, s, h, st, q => by
    refine rwm (List.forIn_cons ..) ?_
    refine wpAny_bind (wpAny_mono (st 0 x s rfl h) (fun r s' hr => ?_) fun _ _ e => e)
    refine w8 hr fun zz1 hp => ?_
    clear hr
    subst zz1
    refine forIn_go l (i + 1) s' hp (fun j y s₂ e hp₂ => ?_) fun s₂ hp₂ => q s₂ ?_
    · have e' : i + 1 + j = i + (j + 1) := by omega
      rw [e'] at hp₂ ⊢
      exact st (j + 1) y s₂ (by simpa using e) hp₂
    · have e' : i + (x :: l).length = i + 1 + l.length := by refine rwm (List.length_cons) ?_; omega
      refine rwm (e') ?_; exact hp₂
end
structure ZApart (z TI TO : Addr) (l : List Sc) : Prop where
  TIz : TI ≠ z
  TOz : TO ≠ z
  TITO : TI ≠ TO
  Jz : ∀ x ∈ l, x.J ≠ z
  JTI : ∀ x ∈ l, x.J ≠ TI
  JTO : ∀ x ∈ l, x.J ≠ TO
  Tz : ∀ x ∈ l, x.T ≠ z
  TTO : ∀ x ∈ l, x.T ≠ TO
  TJ : ∀ x ∈ l, ∀ y ∈ l, x.T ≠ y.J
  nd : (l.map (·.J)).Nodup
structure ZMid (s₀ : Shared) (z TI TO : Addr) (l : List Sc) (vals : List Value) (j : Nat) (s : Shared) : Prop where
  iz : IsZip s.heap z TI TO .ellipsis
  own : ∃ arr n, s.heap.get? TO = some { cls := .type "tuple", data := .seq arr n } ∧ arr.size = l.length ∧ ∀ i, i < j → arr[i]? = vals[i]?
  src : ∀ (i : Nat) (x : Sc), l[i]? = some x → (if i < j then x.next else x).At s.heap
  size : s.heap.objs.size = s₀.heap.objs.size
  keep : ∀ c o, c ≠ z → c ≠ TO → (∀ x ∈ l, c ≠ x.J) → s₀.heap.get? c = some o → s.heap.get? c = some o
  is : s = { s₀ with heap := s.heap }
theorem nodup_J {l : List Sc} (h : (l.map (·.J)).Nodup) {i j : Nat} {x y : Sc} (e : l[i]? = some x) (e' : l[j]? = some y) (ne : i ≠ j) : x.J ≠ y.J := by
  intro q
  exact ne (nodup_idx h (by (refine rwm (List.getElem?_map) ?_; refine rwm (e) ?_); rfl) (by (refine rwm (List.getElem?_map) ?_; refine rwm (e') ?_); exact congrArg some q.symm))
section
variable {prog : Program} {w : World} {A : Around} {E : Value → Shared → Prop} {s s₀ : Shared}
theorem zmid_step {z TI TO : Addr} {l : List Sc} {vals : List Value} {j : Nat} {x : Sc} {v : Value} {h₁ : Heap} (D : ZApart z TI TO l) (M : ZMid s₀ z TI TO l vals j s) (hx : l[j]? = some x) (hv : vals[j]? = some v)
    (a : x.next.At h₁) (sb : Heap.SameBut x.J s.heap h₁) {arr : Array Value} {n n' : Nat} {h₂ : Heap} (e₂ : h₂.get? TO = some { cls := .type "tuple", data := .seq (arr.setIfInBounds j v) n' }) (sb₂ : Heap.SameBut TO h₁ h₂)
    (e₁ : s.heap.get? TO = some { cls := .type "tuple", data := .seq arr n }) (hs : arr.size = l.length) (ha : ∀ i, i < j → arr[i]? = vals[i]?) : ZMid s₀ z TI TO l vals (j + 1) { s with heap := h₂ } := by
  have mx := List.mem_of_getElem? hx
  have up : ∀ c o, c ≠ TO → c ≠ x.J → s.heap.get? c = some o → h₂.get? c = some o := fun c o n1 n2 e => (sb₂.2 c n1).trans ((sb.2 c n2).trans e)
  refine ⟨up _ _ (Ne.symm D.TOz) (Ne.symm (D.Jz x mx)) M.iz, (y7 _ n' e₂ (by simpa using hs) (fun i hi => ?_)), fun i y ey => ?_, by (refine rwm (sb₂.1) ?_; refine rwm (sb.1) ?_; exact rwm (M.size) rfl), fun c o n1 n2 n3 e => up c o n2 (n3 x mx) (M.keep c o n1 n2 n3 e), by have := M.is; exact rwm (this) rfl⟩
  · by_cases q : i = j
    · clear M e₂ ha hi
      subst q
      have : i < arr.size := by refine rwm (hs) ?_; exact (List.getElem?_eq_some_iff.mp hx).1
      simp [hv, this]
    · refine rwm (Array.getElem?_setIfInBounds_ne (Ne.symm q)) ?_
      exact ha i (by omega)
  · have my := List.mem_of_getElem? ey
    by_cases q : i = j
    · clear M e₂ ha hv
      subst q
      rw [hx] at ey; (revert ey; refine sm_r fun zz => ?_; clear my; subst zz)
      refine rwm (if_pos (by omega)) ?_
      exact Sc.keep a (fun o e => (sb₂.2 _ (D.JTO x mx)).trans e) (fun o e => (sb₂.2 _ (D.TTO x mx)).trans e)
    · have b := M.src i y ey
      have hJ : (if i < j + 1 then y.next else y) = (if i < j then y.next else y) := by
        by_cases p : i < j
        · (refine rwm (if_pos p) ?_; exact rwm (if_pos (by omega)) rfl)
        · (refine rwm (if_neg p) ?_; exact rwm (if_neg (by omega)) rfl)
      refine rwm (hJ) ?_
      have hyJ : ∀ (c : Bool), (if c = true then y.next else y).J = y.J := by intro c; induction c using Bool.casesOn <;> rfl
      have hyT : ∀ (c : Bool), (if c = true then y.next else y).T = y.T := by intro c; induction c using Bool.casesOn <;> rfl
      have eJ : (if i < j then y.next else y).J = y.J := by split <;> rfl
      have eT : (if i < j then y.next else y).T = y.T := by split <;> rfl
      refine Sc.keep b (fun o e => ?_) (fun o e => ?_)
      · rw [eJ] at e ⊢
        exact up _ _ (D.JTO y my) (nodup_J D.nd ey hx q) e
      · rw [eT] at e ⊢
        exact up _ _ (D.TTO y my) (D.TJ y my x mx) e
theorem zip_item {z TI TO : Addr} {l : List Sc} {vals : List Value} {n : Nat} {arr₀ : Array Value} {n₀ : Nat} {Q : Value → Shared → Prop} (D : ZApart z TI TO l) (hz : IsZip s.heap z TI TO .none)
    (hTI : s.heap.get? TI = some { cls := .type "tuple", data := .seq (l.map fun x => Value.ref x.J).toArray n }) (hTO : s.heap.get? TO = some { cls := .type "tuple", data := .seq arr₀ n₀ }) (h0 : arr₀.size = l.length)
    (hne : l ≠ []) (hsz : l.length ≤ 1000) (src : ∀ x ∈ l, x.At s.heap) (hlen : vals.length = l.length) (hvals : ∀ (i : Nat) (x : Sc), l[i]? = some x → x.arr[x.k]? = vals[i]?)
    (hQ : ∀ h', IsZip h' z TI TO (rawInt s.heap.objs.size) → (∃ n, h'.get? TO = some { cls := .type "tuple", data := .seq vals.toArray n }) → (∀ x ∈ l, x.next.At h') → h'.get? s.heap.objs.size = some { cls := .type "tuple", data := .seq vals.toArray } →
      (∀ c o, c ≠ z → c ≠ TO → (∀ x ∈ l, c ≠ x.J) → s.heap.get? c = some o → h'.get? c = some o) → Q (.ref s.heap.objs.size) { s with heap := h' }) :
    wpAny (model prog w) A (Builtin.«zip.__next__» ⟨[.ref z], []⟩) (fun fin s' => ∃ v, fin = .done (.ret v) ∧ Q v s') E s := by
  refine (?_ : wpAny _ _ (field (.ref z) 2 >>= _) _ _ _)
  refine wpAny_bind (wpAny_field hz rfl (x := .bool false) rfl ?_)
  refine (?_ : wpAny _ _ (field (.ref z) 3 >>= _) _ _ _)
  refine wpAny_bind (wpAny_field hz rfl (x := .ref TI) rfl ?_)
  refine wpAny_bind (wpAny_seqItems hTI rfl ?_)
  have hemp : (l.map fun x => Value.ref x.J).toArray.isEmpty = false := by
    clear D h0 hQ hTI hlen hsz hvals src
    induction l using List.casesOn with
    | nil => exact absurd rfl hne
    | cons => rfl
  simp only [hemp, Bool.false_eq_true, if_false]
  refine (?_ : wpAny _ _ (Builtin.SmallTypes.ownedTupleIsFree (.ref z) >>= _) _ _ _)
  refine wpAny_bind ?_
  unfold Builtin.SmallTypes.ownedTupleIsFree
  refine wpAny_bind (wpAny_field hz rfl (x := .none) rfl (wpAny_pure ?_))
  simp only [if_true]
  refine wpAny_bind (wpAny_rule ?_)
  refine wpAny_bind (wpAny_field hz rfl (x := .ref TO) rfl ?_)
  refine wpAny_bind (wpAny_setField_rec hz (by simp) fun h₁ hz₁ hs₁ => ?_)
  replace hz₁ : IsZip h₁ z TI TO .ellipsis := hz₁
  refine wpAny_bind ?_
  refine forIn_go (P := ZMid s z TI TO l vals) _ 0 _ ?_ ?_ ?_
  · refine ⟨hz₁, (y7 arr₀ n₀ ((hs₁.2 _ D.TOz).trans hTO) h0 (fun i hi => absurd hi (Nat.not_lt_zero _))), fun i x ex => ?_, hs₁.1, fun c o c1 c2 c3 e => (hs₁.2 c c1).trans e, rfl⟩
    have mx := List.mem_of_getElem? ex
    refine rwm (if_neg (Nat.not_lt_zero _)) ?_
    exact Sc.keep (src x mx) (fun o e => (hs₁.2 _ (D.Jz x mx)).trans e) (fun o e => (hs₁.2 _ (D.Tz x mx)).trans e)
  · intro j p s₂ ej M
    obtain ⟨x, ex, rfl⟩ : ∃ x, l[j]? = some x ∧ p = (Value.ref x.J, j) := by
      rw [List.getElem?_zipIdx, List.getElem?_map] at ej
      induction q : l[j]? using Option.casesOn with
      | none => rw [q] at ej; exact nsx ej
      | some x => rw [q] at ej; refine (w7 x rfl ?_); simpa using ej.symm
    have mx := List.mem_of_getElem? ex
    rw [Nat.zero_add] at M ⊢
    have hj : j < vals.length := by refine rwm (hlen) ?_; exact (List.getElem?_eq_some_iff.mp ex).1
    have hv : vals[j]? = some vals[j] := List.getElem?_eq_getElem hj
    have a : x.At s₂.heap := by have := M.src j x ex; rwa [if_neg (Nat.lt_irrefl _)] at this
    refine wpAny_bind (wpAny_onRaise ?_)
    refine (?_ : wpAny _ _ (Builtin.SmallTypes.nextOf (.ref x.J) >>= _) _ _ _)
    refine wpAny_bind (Sc.item a ((hvals j x ex).trans hv) fun h₂ ha hs₂ => wpAny_pure ?_)
    refine x6 (M.own) fun arr n' e1 hs ha' => ?_
    have e1' : h₂.get? TO = some { cls := .type "tuple", data := .seq arr n' } := (hs₂.2 _ (Ne.symm (D.JTO x mx))).trans e1
    refine wpAny_bind (wpAny_seqItems e1' rfl ?_)
    refine wpAny_bind (wpAny_updateSeq e1' rfl ?_ (by refine rwm (hs) ?_; exact le_sizeLine hsz))
    refine wpAny_bind (wpAny_letGo (wpAny_pure ⟨rfl, ?_⟩))
    exact zmid_step D M ex hv ha hs₂ (Heap.get?_update_self _ e1' rfl) (Heap.SameBut.update ..) e1 hs ha'
  · intro s₂ M
    have el : 0 + (List.map (fun x => Value.ref x.J) l).zipIdx.length = l.length := by simp
    rw [el] at M
    refine x6 (M.own) fun arr n' e1 hs ha' => ?_
    have earr : arr = vals.toArray := by
      apply Array.ext_getElem?
      intro i
      by_cases hi : i < l.length
      · refine rwm (ha' i hi) ?_; simp
      · (refine rwm (Array.getElem?_eq_none (by omega)) ?_; exact rwm (Array.getElem?_eq_none (by rw [List.size_toArray]; omega)) rfl)
    clear ha' hs
    subst earr
    refine wpAny_bind (wpAny_seqItems e1 rfl ?_)
    refine wpAny_bind (wpAny_newTuple ?_ (by refine (?_ : vals.toArray.toList.length ≤ sizeLine); (refine rwm (List.toList_toArray) ?_; refine rwm (hlen) ?_); exact le_sizeLine hsz))
    have hz₆ : IsZip (s₂.heap.push { cls := .type "tuple", data := .seq vals.toArray }) z TI TO .ellipsis := Heap.get?_push_of_some _ M.iz
    refine (?_ : wpAny _ _ (Builtin.SmallTypes.ownedTupleHandOut (.ref z) (.ref s₂.heap.objs.size) >>= _) _ _ _)
    refine wpAny_bind ?_
    unfold Builtin.SmallTypes.ownedTupleHandOut
    refine wpAny_bind (wpAny_setField_rec hz₆ (by simp) fun h₇ hz₇ hs₇ => ?_)
    replace hz₇ : IsZip h₇ z TI TO (rawInt s₂.heap.objs.size) := hz₇
    refine wpAny_setField_rec hz₇ (by simp) fun h₈ hz₈ hs₈ => ?_
    replace hz₈ : IsZip h₈ z TI TO (rawInt s₂.heap.objs.size) := hz₈
    have up : ∀ c o, c ≠ z → s₂.heap.get? c = some o → h₈.get? c = some o := fun c o c1 e => (hs₈.2 _ c1).trans ((hs₇.2 _ c1).trans (Heap.get?_push_of_some _ e))
    have hzlt : z < s₂.heap.objs.size := Heap.lt_size M.iz
    have hT₈ : h₈.get? s₂.heap.objs.size = some { cls := .type "tuple", data := .seq vals.toArray } := (hs₈.2 _ (Nat.ne_of_gt hzlt)).trans ((hs₇.2 _ (Nat.ne_of_gt hzlt)).trans (Heap.get?_push_size _ rfl))
    have e2 : s₂ = { s with heap := s₂.heap } := M.is
    refine wpAny_pure (w7 _ rfl ?_)
    have hsize := M.size
    rw [hsize] at hz₈ hT₈
    refine rwm (hsize) ?_
    have := hQ h₈ hz₈ ⟨n', up _ _ D.TOz e1⟩ (fun x m => ?_) hT₈ (fun c o c1 c2 c3 e => up c o c1 (M.keep c o c1 c2 c3 e))
    · refine rwm (e2) ?_; exact this
    · (refine w5 (List.getElem_of_mem m) fun i zz1 => ?_; obtain ⟨hi, ei⟩ := zz1)
      have := M.src i x (by (refine rwm (List.getElem?_eq_getElem hi) ?_; exact rwm (ei) rfl))
      rw [if_pos hi] at this
      exact Sc.keep this (fun o e => up _ o (D.Jz x m) e) (fun o e => up _ o (D.Tz x m) e)
theorem zip_end {z TI TO : Addr} {l : List Sc} {vals : List Value} {n : Nat} {arr₀ : Array Value} {n₀ : Nat} {j₀ : Nat} {x₀ : Sc} {Q : Fin → Shared → Prop} (hh : A.handled = none) (D : ZApart z TI TO l) (hz : IsZip s.heap z TI TO .none)
    (hTI : s.heap.get? TI = some { cls := .type "tuple", data := .seq (l.map fun x => Value.ref x.J).toArray n }) (hTO : s.heap.get? TO = some { cls := .type "tuple", data := .seq arr₀ n₀ }) (h0 : arr₀.size = l.length)
    (hsz : l.length ≤ 1000) (src : ∀ x ∈ l, x.At s.heap) (hlen : vals.length = j₀) (hx₀ : l[j₀]? = some x₀) (hv₀ : x₀.arr[x₀.k]? = none) (hvals : ∀ (i : Nat) (x : Sc), i < j₀ → l[i]? = some x → x.arr[x.k]? = vals[i]?)
    (hE : ∀ h' e, (∀ c o, c ≠ z → c ≠ TO → (∀ x ∈ l, c ≠ x.J) → s.heap.get? c = some o → h'.get? c = some o) → (∃ o, h'.get? e = some o ∧ o.cls = .type "StopIteration") → (∃ o, h'.get? TO = some o) → E (.ref e) { s with heap := h' }) :
    wpAny (model prog w) A (Builtin.«zip.__next__» ⟨[.ref z], []⟩) Q E s := by
  refine (?_ : wpAny _ _ (field (.ref z) 2 >>= _) _ _ _)
  refine wpAny_bind (wpAny_field hz rfl (x := .bool false) rfl ?_)
  refine (?_ : wpAny _ _ (field (.ref z) 3 >>= _) _ _ _)
  refine wpAny_bind (wpAny_field hz rfl (x := .ref TI) rfl ?_)
  refine wpAny_bind (wpAny_seqItems hTI rfl ?_)
  have hemp : (l.map fun x => Value.ref x.J).toArray.isEmpty = false := by
    clear D h0 hE hTI hsz hvals src
    induction l using List.casesOn with
    | nil => simp at hx₀
    | cons => rfl
  simp only [hemp, Bool.false_eq_true, if_false]
  refine (?_ : wpAny _ _ (Builtin.SmallTypes.ownedTupleIsFree (.ref z) >>= _) _ _ _)
  refine wpAny_bind ?_
  unfold Builtin.SmallTypes.ownedTupleIsFree
  refine wpAny_bind (wpAny_field hz rfl (x := .none) rfl (wpAny_pure ?_))
  simp only [if_true]
  refine wpAny_bind (wpAny_rule ?_)
  refine wpAny_bind (wpAny_field hz rfl (x := .ref TO) rfl ?_)
  refine wpAny_bind (wpAny_setField_rec hz (by simp) fun h₁ hz₁ hs₁ => ?_)
  replace hz₁ : IsZip h₁ z TI TO .ellipsis := hz₁
  have hj₀ : j₀ < l.length := (List.getElem?_eq_some_iff.mp hx₀).1
  refine wpAny_bind ?_
  refine forIn_go (P := fun j s' => ZMid s z TI TO l vals j s' ∧ j ≤ j₀) _ 0 _ ⟨?_, Nat.zero_le _⟩ ?_ ?_
  · refine ⟨hz₁, (y7 arr₀ n₀ ((hs₁.2 _ D.TOz).trans hTO) h0 (fun i hi => absurd hi (Nat.not_lt_zero _))), fun i x ex => ?_, hs₁.1, fun c o c1 c2 c3 e => (hs₁.2 c c1).trans e, rfl⟩
    have mx := List.mem_of_getElem? ex
    refine rwm (if_neg (Nat.not_lt_zero _)) ?_
    exact Sc.keep (src x mx) (fun o e => (hs₁.2 _ (D.Jz x mx)).trans e) (fun o e => (hs₁.2 _ (D.Tz x mx)).trans e)
  · intro j p s₂ ej M
    obtain ⟨x, ex, rfl⟩ : ∃ x, l[j]? = some x ∧ p = (Value.ref x.J, j) := by
      rw [List.getElem?_zipIdx, List.getElem?_map] at ej
      induction q : l[j]? using Option.casesOn with
      | none => rw [q] at ej; exact nsx ej
      | some x => rw [q] at ej; refine (w7 x rfl ?_); simpa using ej.symm
    have mx := List.mem_of_getElem? ex
    rw [Nat.zero_add] at M ⊢
    revert M
    intro zz0
    refine w8 zz0 fun M hle => ?_
    clear zz0
    have a : x.At s₂.heap := by have := M.src j x ex; rwa [if_neg (Nat.lt_irrefl _)] at this
    refine wpAny_bind (wpAny_onRaise ?_)
    refine (?_ : wpAny _ _ (Builtin.SmallTypes.nextOf (.ref x.J) >>= _) _ _ _)
    by_cases hj : j < j₀
    · have hjv : j < vals.length := by refine rwm (hlen) ?_; exact hj
      have hv : vals[j]? = some vals[j] := List.getElem?_eq_getElem hjv
      refine wpAny_bind (Sc.item a ((hvals j x hj ex).trans hv) fun h₂ ha hs₂ => wpAny_pure ?_)
      refine x6 (M.own) fun arr n' e1 hs ha' => ?_
      have e1' : h₂.get? TO = some { cls := .type "tuple", data := .seq arr n' } := (hs₂.2 _ (Ne.symm (D.JTO x mx))).trans e1
      refine wpAny_bind (wpAny_seqItems e1' rfl ?_)
      refine wpAny_bind (wpAny_updateSeq e1' rfl ?_ (by refine rwm (hs) ?_; exact le_sizeLine hsz))
      refine wpAny_bind (wpAny_letGo (wpAny_pure ⟨rfl, ?_, hj⟩))
      exact zmid_step D M ex hv ha hs₂ (Heap.get?_update_self _ e1' rfl) (Heap.SameBut.update ..) e1 hs ha'
    · have ej : j = j₀ := by omega
      clear hj hj₀ hle hlen hvals
      subst ej
      rw [hx₀] at ex; (revert ex; refine sm_r fun zz => ?_; clear ej; subst zz)
      refine wpAny_bind (Sc.done hh a hv₀ fun h₂ e hs₂ he => ?_)
      refine w6 he fun oe hoe hce => ?_
      clear he
      have hz₂ : IsZip h₂ z TI TO .ellipsis := hs₂ _ _ (Ne.symm (D.Jz _ mx)) M.iz
      have hez : e ≠ z := fun q => by clear D M hE hs₁ hz hz₁; subst q; rw [hz₂] at hoe; (revert hoe; refine sm_r fun zz => ?_; subst zz); simp at hce
      refine wpAny_setField_rec hz₂ (by simp) fun h₅ hz₅ hs₅ => ?_
      have e2 : s₂ = { s with heap := s₂.heap } := M.is
      have := hE h₅ e (fun c o c1 c2 c3 q => (hs₅.2 _ c1).trans (hs₂ _ _ (c3 _ mx) (M.keep c o c1 c2 c3 q))) (w7 oe ((hs₅.2 _ hez).trans hoe) hce) (by
        refine x5 (M.own) fun arr n' e1 _ => ?_
        exact ⟨_, (hs₅.2 _ D.TOz).trans (hs₂ _ _ (Ne.symm (D.JTO _ mx)) e1)⟩)
      refine rwm (e2) ?_; exact this
  · intro s₂ M
    have el : 0 + (List.map (fun x => Value.ref x.J) l).zipIdx.length = l.length := by simp
    rw [el] at M
    exact absurd M.2 (by omega)
theorem zip_pyItem {z TI TO : Addr} {l : List Sc} {vals : List Value} {n : Nat} {arr₀ : Array Value} {n₀ : Nat} {Q : Option Value → Shared → Prop} (D : ZApart z TI TO l) (hz : IsZip s.heap z TI TO .none)
    (hTI : s.heap.get? TI = some { cls := .type "tuple", data := .seq (l.map fun x => Value.ref x.J).toArray n }) (hTO : s.heap.get? TO = some { cls := .type "tuple", data := .seq arr₀ n₀ }) (h0 : arr₀.size = l.length)
    (hne : l ≠ []) (hsz : l.length ≤ 1000) (src : ∀ x ∈ l, x.At s.heap) (hlen : vals.length = l.length) (hvals : ∀ (i : Nat) (x : Sc), l[i]? = some x → x.arr[x.k]? = vals[i]?)
    (hQ : ∀ h', IsZip h' z TI TO (rawInt s.heap.objs.size) → (∃ n, h'.get? TO = some { cls := .type "tuple", data := .seq vals.toArray n }) → (∀ x ∈ l, x.next.At h') → h'.get? s.heap.objs.size = some { cls := .type "tuple", data := .seq vals.toArray } →
      (∀ c o, c ≠ z → c ≠ TO → (∀ x ∈ l, c ≠ x.J) → s.heap.get? c = some o → h'.get? c = some o) → Q (some (.ref s.heap.objs.size)) { s with heap := h' }) :
    wpAny (model prog w) A (pyNext (.ref z)) Q E s := by
  have hT : s.TypeIs (.ref z) "zip" := (w7 _ hz rfl)
  unfold pyNext
  exact wpAny_bind (wpAny_attempt (wpAny_callSpecial?_slot (name := Str.ofString "__next__") hT F.slot_zip_next
    (wpAny_call_entry F.slot_zip_next hT F.entry_zip_next
      (zip_item D hz hTI hTO h0 hne hsz src hlen hvals fun h' a1 a2 a3 a4 a5 => wpAny_pure (hQ h' a1 a2 a3 a4 a5)) (F.args_zip_next_1 _))))
theorem zip_pyEnd {z TI TO : Addr} {l : List Sc} {vals : List Value} {n : Nat} {arr₀ : Array Value} {n₀ : Nat} {j₀ : Nat} {x₀ : Sc} {Q : Option Value → Shared → Prop} (hh : A.handled = none) (D : ZApart z TI TO l) (hz : IsZip s.heap z TI TO .none)
    (hTI : s.heap.get? TI = some { cls := .type "tuple", data := .seq (l.map fun x => Value.ref x.J).toArray n }) (hTO : s.heap.get? TO = some { cls := .type "tuple", data := .seq arr₀ n₀ }) (h0 : arr₀.size = l.length)
    (hsz : l.length ≤ 1000) (src : ∀ x ∈ l, x.At s.heap) (hlen : vals.length = j₀) (hx₀ : l[j₀]? = some x₀) (hv₀ : x₀.arr[x₀.k]? = none) (hvals : ∀ (i : Nat) (x : Sc), i < j₀ → l[i]? = some x → x.arr[x.k]? = vals[i]?)
    (hQ : ∀ h', (∀ c o, c ≠ z → c ≠ TO → (∀ x ∈ l, c ≠ x.J) → s.heap.get? c = some o → h'.get? c = some o) → (∃ o, h'.get? TO = some o) → Q none { s with heap := h' }) : wpAny (model prog w) A (pyNext (.ref z)) Q E s := by
  have hT : s.TypeIs (.ref z) "zip" := (w7 _ hz rfl)
  unfold pyNext
  refine wpAny_bind (wpAny_attempt (wpAny_callSpecial?_slot (name := Str.ofString "__next__") hT F.slot_zip_next
    (wpAny_call_entry F.slot_zip_next hT F.entry_zip_next (zip_end (A := A.in1) hh D hz hTI hTO h0 hsz src hlen hx₀ hv₀ hvals fun h' e hk he hto => ?_) (F.args_zip_next_1 _))))
  refine w6 he fun o ho hc => ?_
  clear he
  refine wpAny_bind (wpAny_isInstance (T := "StopIteration") (b := true) (w7 o ho hc) isSubtype_stop ?_)
  exact wpAny_pure (hQ _ hk hto)
end
section
open AutoSeq1 (wpAny_loadPart')
noncomputable def Box (h : Heap) (T : Addr) (arr : Array Value) (tup : Bool) : Prop := match tup with
  | true => h.IsTuple T arr
  | false => h.IsList T arr
noncomputable def boxIter (T : Addr) (tup : Bool) : Obj := { cls := .type (match tup with | true => "tuple_iterator" | false => "list_iterator"), data := .fields #[.ref T, .int 0 0] }
theorem Box.keeps {h h' : Heap} {T : Addr} {arr : Array Value} {tup : Bool} (x : Box h T arr tup) (k : ∀ o, h.get? T = some o → h'.get? T = some o) : Box h' T arr tup := by
  unfold Box at *
  induction tup using Bool.casesOn with
  | true => (refine w6 x fun o e r => ?_; clear x); exact (w7 o (k o e) r)
  | false => (refine w6 x fun o e r => ?_; clear x); exact (w7 o (k o e) r)
theorem Box.push {h : Heap} {T : Addr} {arr : Array Value} {tup : Bool} (x : Box h T arr tup) (o : Obj) : Box (h.push o) T arr tup := Box.keeps x fun _ e => Heap.get?_push_of_some _ e
theorem Box.at {h : Heap} {T J : Addr} {arr : Array Value} {tup : Bool} (x : Box h T arr tup) (e : h.get? J = some (boxIter T tup)) : (Sc.mk J T arr 0 tup).At h := by
  unfold Box at x
  unfold Sc.At
  induction tup using Bool.casesOn with
  | true => exact ⟨(W4 _ e rfl rfl), x⟩
  | false => exact ⟨(W4 _ e rfl rfl), x⟩
section
variable {prog : Program} {w : World} {A : Around} {E : Value → Shared → Prop} {s : Shared}
theorem pyIter_box {T : Addr} {arr : Array Value} {tup : Bool} {Q : Value → Shared → Prop} (x : Box s.heap T arr tup) (hQ : Q (.ref s.heap.objs.size) { s with heap := s.heap.push (boxIter T tup) }) : wpAny (model prog w) A (pyIter (.ref T)) Q E s := by
  unfold Box at x
  induction tup using Bool.casesOn with
  | true => exact wpAny_pyIter_tuple x hQ
  | false => exact wpAny_pyIter_list x hQ
theorem Sc.draws (hh : A.handled = none) (x : Sc) : Draws prog w A x.J [x.J, x.T] x.arr.size (fun i v => x.arr[i]? = some v) (fun i h => ({ x with k := i } : Sc).At h) where
  live := fun i h a => let ⟨o, e, _⟩ := Sc.obj a; ⟨o, e⟩
  frame := fun i h h' a k => Sc.keep a (fun o e => k _ (by simp) o e) (fun o e => k _ (by simp) o e)
  item := fun i s Q E hi a hQ => Sc.item (x := { x with k := i }) a (v := x.arr[i]) (by simp [hi]) fun h' b hs => hQ _ h' s.toks (by simp [hi]) b hs
  done := fun s Q E a hE => Sc.done (x := { x with k := x.arr.size }) hh a (by simp) hE
theorem enum_pyItem {e : Addr} {x : Sc} {v old : Value} {Q : Option Value → Shared → Prop} (hh : A.handled = none) (he : IsEnum s.heap e x.J x.k old) (a : x.At s.heap) (hv : x.arr[x.k]? = some v) (hne : e ≠ x.J) (hT : e ≠ x.T)
    (hQ : ∀ h' tk tk', IsEnumOut h' e x.J ((x.k : Int) + 1) v s.heap.objs.size → x.next.At h' → h'.get? s.heap.objs.size = some { cls := .type "tuple", data := .seq #[.int x.k tk, v] } →
      (∀ b o, b ≠ e → b ≠ x.J → s.heap.get? b = some o → h'.get? b = some o) → Q (some (.ref s.heap.objs.size)) { s with heap := h', toks := tk' }) : wpAny (model prog w) A (pyNext (.ref e)) Q E s := by
  refine wpAny_pyNext_enum_itemD (Sc.draws (A := A.in1) hh x) he a (Array.getElem?_eq_some_iff.mp hv).1 hne (by simp [hne, hT]) fun y h' tk hy b1 b2 b3 _ b5 => ?_
  rw [hv] at hy; (revert hy; refine sm_r fun zz => ?_; subst zz)
  exact hQ h' tk (tk + 1) b1 b2 b3 b5
theorem enum_pyEnd {e : Addr} {x : Sc} {i : Int} {old : Value} {Q : Option Value → Shared → Prop} (hh : A.handled = none) (he : IsEnum s.heap e x.J i old) (a : x.At s.heap) (hv : x.arr[x.k]? = none)
    (hQ : ∀ h', Heap.ExtBut x.J s.heap h' → Q none { s with heap := h' }) : wpAny (model prog w) A (pyNext (.ref e)) Q E s := by
  have hT : s.TypeIs (.ref e) "enumerate" := (w7 _ he rfl)
  unfold pyNext
  refine wpAny_bind (wpAny_attempt (wpAny_callSpecial?_slot (name := Str.ofString "__next__") hT F.slot_enumerate_next
    (wpAny_call_entry F.slot_enumerate_next hT F.entry_enumerate_next ?_ (F.args_enumerate_next_1 _))))
  refine (?_ : wpAny _ _ (field (.ref e) 2 >>= _) _ _ _)
  refine wpAny_bind (wpAny_field he rfl (x := .ref x.J) rfl ?_)
  refine wpAny_bind (Sc.done (A := A.in1) hh a hv fun h' y he' hx' => ?_)
  refine w6 hx' fun o ho hc => ?_
  clear hx'
  refine wpAny_bind (wpAny_isInstance (T := "StopIteration") (b := true) (w7 o ho hc) isSubtype_stop ?_)
  exact wpAny_pure (hQ _ he')
theorem enum_iter {e it : Addr} {i : Int} {old : Value} {Q : Value → Shared → Prop} (he : IsEnum s.heap e it i old) (h : Q (.ref e) s) : wpAny (model prog w) A (pyIter (.ref e)) Q E s := by
  have hT : s.TypeIs (.ref e) "enumerate" := (w7 _ he rfl)
  refine wpAny_pyIter_slot hT F.slot_enumerate_iter (wpAny_call_entry F.slot_enumerate_iter hT F.entry_enumerate_iter ?_ (F.args_enumerate_iter_1 _))
  refine (?_ : wpAny _ _ (ret (.ref e)) _ _ s)
  exact wpAny_pure ⟨_, rfl, "enumerate", _, hT, F.slot_enumerate_next.lookup, h⟩
end
theorem meets_enum_new (l : Addr) (arr : Array Value) (tup : Bool) :
    Meets (Builtin.«enumerate.__new__» ⟨[.type "enumerate", .ref l], []⟩) (fun _ R s => Box s.heap l arr tup ∧
      R (.ok (.ret (.ref (s.heap.push (boxIter l tup)).objs.size)))
        { s with heap := (s.heap.push (boxIter l tup)).push { cls := .type "enumerate", data := .fields #[.none, .bool false, .ref s.heap.objs.size, rawInt 0, .none, .none] } }) :=
  .of_wp fun prog w A R s h => by
    obtain ⟨hp, g, d, tk, os⟩ := s; (revert h; intro zz0; refine w8 zz0 fun hl h => ?_; clear zz0)
    have hsub := sub_enumerate
    have hL : Box (Shared.heap ⟨hp, g, d, tk, os⟩) l arr tup := hl
    wp_walk
    refine wpAny_stack_any fun st => wpAny_pure ?_
    split
    · rename_i c _ _ _ _ _
      induction (c == Value.type "enumerate") using Bool.casesOn
      · wp_walk using pyIter_box hL
        exact (w7 _ rfl h)
      · wp_walk using pyIter_box hL
        exact (w7 _ rfl h)
    · wp_walk using pyIter_box hL
      exact (w7 _ rfl h)
noncomputable abbrev zt2 (h : Heap) (l1 l2 : Addr) (t1 t2 : Bool) : Heap := (h.push (boxIter l1 t1)).push (boxIter l2 t2)
noncomputable abbrev zo2 (h : Heap) (l1 l2 : Addr) (t1 t2 : Bool) : Heap := (zt2 h l1 l2 t1 t2).push { cls := .type "tuple", data := .seq #[.ref h.objs.size, .ref (h.push (boxIter l1 t1)).objs.size] }
noncomputable abbrev zz2 (h : Heap) (l1 l2 : Addr) (t1 t2 : Bool) : Heap := (zo2 h l1 l2 t1 t2).push { cls := .type "tuple", data := .seq #[.none, .none] }
noncomputable abbrev ze2 (h : Heap) (l1 l2 : Addr) (t1 t2 : Bool) : Heap := (zz2 h l1 l2 t1 t2).push { cls := .type "zip", data := .fields #[.none, .bool false, .bool false, .ref (zt2 h l1 l2 t1 t2).objs.size, .ref (zo2 h l1 l2 t1 t2).objs.size] }
noncomputable abbrev zt3 (h : Heap) (l1 l2 l3 : Addr) (t1 t2 t3 : Bool) : Heap := (zt2 h l1 l2 t1 t2).push (boxIter l3 t3)
noncomputable abbrev zo3 (h : Heap) (l1 l2 l3 : Addr) (t1 t2 t3 : Bool) : Heap := (zt3 h l1 l2 l3 t1 t2 t3).push { cls := .type "tuple", data := .seq #[.ref h.objs.size, .ref (h.push (boxIter l1 t1)).objs.size, .ref (zt2 h l1 l2 t1 t2).objs.size] }
noncomputable abbrev zz3 (h : Heap) (l1 l2 l3 : Addr) (t1 t2 t3 : Bool) : Heap := (zo3 h l1 l2 l3 t1 t2 t3).push { cls := .type "tuple", data := .seq #[.none, .none, .none] }
noncomputable abbrev ze3 (h : Heap) (l1 l2 l3 : Addr) (t1 t2 t3 : Bool) : Heap := (zz3 h l1 l2 l3 t1 t2 t3).push { cls := .type "zip", data := .fields #[.none, .bool false, .bool false, .ref (zt3 h l1 l2 l3 t1 t2 t3).objs.size, .ref (zo3 h l1 l2 l3 t1 t2 t3).objs.size] }
theorem meets_zip2 (l1 l2 : Addr) (xs ys : Array Value) (t1 t2 : Bool) :
    Meets (Builtin.«zip.__new__» ⟨[.type "zip", .ref l1, .ref l2], []⟩) (fun _ R s => Box s.heap l1 xs t1 ∧ Box s.heap l2 ys t2 ∧
      R (.ok (.ret (.ref (zz2 s.heap l1 l2 t1 t2).objs.size))) { s with heap := ze2 s.heap l1 l2 t1 t2 }) :=
  .of_wp fun prog w A R s h => by
    obtain ⟨hp, g, d, tk, os⟩ := s; (revert h; intro zz0; refine W2 zz0 fun hl1 hl2 h => ?_; clear zz0)
    have hsub := sub_zip
    have hL1 : Box (Shared.heap ⟨hp, g, d, tk, os⟩) l1 xs t1 := hl1
    have hL2 : Box (Shared.heap ⟨hp.push (boxIter l1 t1), g, d, tk, os⟩) l2 ys t2 := Box.push hl2 _
    wp_walk using pyIter_box hL1, pyIter_box hL2
    exact (w7 _ rfl h)
theorem meets_zip3 (l1 l2 l3 : Addr) (xs ys zs : Array Value) (t1 t2 t3 : Bool) :
    Meets (Builtin.«zip.__new__» ⟨[.type "zip", .ref l1, .ref l2, .ref l3], []⟩) (fun _ R s => Box s.heap l1 xs t1 ∧ Box s.heap l2 ys t2 ∧ Box s.heap l3 zs t3 ∧
      R (.ok (.ret (.ref (zz3 s.heap l1 l2 l3 t1 t2 t3).objs.size))) { s with heap := ze3 s.heap l1 l2 l3 t1 t2 t3 }) :=
  .of_wp fun prog w A R s h => by
    obtain ⟨hp, g, d, tk, os⟩ := s; (revert h; intro zz0; refine Y6 zz0 fun hl1 hl2 hl3 h => ?_; clear zz0)
    have hsub := sub_zip
    have hL1 : Box (Shared.heap ⟨hp, g, d, tk, os⟩) l1 xs t1 := hl1
    have hL2 : Box (Shared.heap ⟨hp.push (boxIter l1 t1), g, d, tk, os⟩) l2 ys t2 := Box.push hl2 _
    have hL3 : Box (Shared.heap ⟨(hp.push (boxIter l1 t1)).push (boxIter l2 t2), g, d, tk, os⟩) l3 zs t3 := Box.push (Box.push hl3 _) _
    wp_walk using pyIter_box hL1, pyIter_box hL2, pyIter_box hL3
    exact (w7 _ rfl h)
theorem typeCall_zip_3 (a b c : Value) : checkTypeCall "zip" ⟨[a, b, c], []⟩ = pure () := by kernel_rfl
theorem newCall_zip_3 (a b c : Value) : checkBuiltinCall "zip.__new__" ⟨[.type "zip", a, b, c], []⟩ = pure () := by kernel_rfl
theorem args_object_init_4 (a b c d : Value) : argsOk "object.__init__" ⟨[a, b, c, d], []⟩ := by
  unfold argsOk; refine rwm (signature?_of (id := "object.__init__") (n := ['_', '_', 't', 'i', 'n', 'i', '_', '_']) (o := ['t', 'c', 'e', 'j', 'b', 'o']) (by kernel_rfl) PySem.F.owner_object) ?_; kernel_rfl
section
variable {prog : Program} {w : World} {A : Around} {E : Value → Shared → Prop} {s : Shared}
inductive ZipMade (s : Shared) (ls : List (Addr × Array Value × Bool)) (h' : Heap) (z : Addr) : Prop
  | mk (TI TO : Addr) (scs : List Sc) : IsZip h' z TI TO .none → h'.get? TI = some { cls := .type "tuple", data := .seq (scs.map fun x => Value.ref x.J).toArray } → (∃ arr, h'.get? TO = some { cls := .type "tuple", data := .seq arr } ∧ arr.size = scs.length) →
    scs.map (fun x => (x.T, x.arr, x.tup)) = ls → (∀ x ∈ scs, x.At h' ∧ x.k = 0 ∧ s.heap.objs.size ≤ x.J) → (scs.map (·.J)).Nodup → s.heap.objs.size ≤ z → s.heap.objs.size ≤ TI → s.heap.objs.size ≤ TO → TI ≠ z → TO ≠ z → TI ≠ TO → (∀ x ∈ scs, x.J ≠ z ∧ x.J ≠ TI ∧ x.J ≠ TO) →
    (∀ c o, s.heap.get? c = some o → h'.get? c = some o) → ZipMade s ls h' z
theorem call_zip2 {l1 l2 : Addr} {xs ys : Array Value} {t1 t2 : Bool} {Q : Value → Shared → Prop} (h1 : Box s.heap l1 xs t1) (h2 : Box s.heap l2 ys t2)
    (h : ∀ h' z, ZipMade s [(l1, xs, t1), (l2, ys, t2)] h' z → Q (.ref z) { s with heap := h' }) : wpAny (model prog w) A (call (.type "zip") [.ref l1, .ref l2]) Q E s := by
  refine callType_new F.called_zip (by decide) (F.typeCall_zip_2 _ _) (F.newCall_zip_2 _ _) (fun obj => F.args_object_init_3 obj _ _) F.entry_zip_new (meets_zip2 l1 l2 xs ys t1 t2) ⟨h1, h2, ?_⟩
  have s1 : (s.heap.push (boxIter l1 t1)).objs.size = s.heap.objs.size + 1 := Heap.size_push ..
  have s2 : (zt2 s.heap l1 l2 t1 t2).objs.size = s.heap.objs.size + 2 := by (refine rwm (Heap.size_push ..) ?_; exact rwm (s1) rfl)
  have s3 : (zo2 s.heap l1 l2 t1 t2).objs.size = s.heap.objs.size + 3 := by (refine rwm (Heap.size_push ..) ?_; exact rwm (s2) rfl)
  have s4 : (zz2 s.heap l1 l2 t1 t2).objs.size = s.heap.objs.size + 4 := by (refine rwm (Heap.size_push ..) ?_; exact rwm (s3) rfl)
  have kp : ∀ c o, s.heap.get? c = some o → (ze2 s.heap l1 l2 t1 t2).get? c = some o := fun c o x =>
    Heap.get?_push_of_some _ (Heap.get?_push_of_some _ (Heap.get?_push_of_some _ (Heap.get?_push_of_some _ (Heap.get?_push_of_some _ x))))
  have g5 : (ze2 s.heap l1 l2 t1 t2).get? (zz2 s.heap l1 l2 t1 t2).objs.size = some _ := Heap.get?_push_size _ rfl
  have g4 : (ze2 s.heap l1 l2 t1 t2).get? (zo2 s.heap l1 l2 t1 t2).objs.size = some _ := Heap.get?_push_of_some _ (Heap.get?_push_size _ rfl)
  have g3 : (ze2 s.heap l1 l2 t1 t2).get? (zt2 s.heap l1 l2 t1 t2).objs.size = some _ := Heap.get?_push_of_some _ (Heap.get?_push_of_some _ (Heap.get?_push_size _ rfl))
  have g2 : (ze2 s.heap l1 l2 t1 t2).get? (s.heap.push (boxIter l1 t1)).objs.size = some (boxIter l2 t2) := Heap.get?_push_of_some _ (Heap.get?_push_of_some _ (Heap.get?_push_of_some _ (Heap.get?_push_size _ rfl)))
  have g1 : (ze2 s.heap l1 l2 t1 t2).get? s.heap.objs.size = some (boxIter l1 t1) := Heap.get?_push_of_some _ (Heap.get?_push_of_some _ (Heap.get?_push_of_some _ (Heap.get?_push_of_some _ (Heap.get?_push_size _ rfl))))
  refine ⟨(w7 _ g5 rfl), h _ _ ⟨(zt2 s.heap l1 l2 t1 t2).objs.size, (zo2 s.heap l1 l2 t1 t2).objs.size, [⟨s.heap.objs.size, l1, xs, 0, t1⟩, ⟨(s.heap.push (boxIter l1 t1)).objs.size, l2, ys, 0, t2⟩], g5, g3, (w7 _ g4 rfl), rfl, ?_, ?_, ?_, ?_, ?_, ?_, ?_, ?_, ?_, kp⟩⟩
  · intro x m
    rcases mc m with rfl | m
    · exact ⟨Box.at (Box.keeps h1 fun o e => kp _ o e) g1, rfl, Nat.le_refl _⟩
    · refine rwm (List.mem_singleton.mp m) ?_; exact ⟨Box.at (Box.keeps h2 fun o e => kp _ o e) g2, rfl, by refine (?_ : _ ≤ (s.heap.push (boxIter l1 t1)).objs.size); omega⟩
  · show [s.heap.objs.size, (s.heap.push (boxIter l1 t1)).objs.size].Nodup
    refine rwm (s1) ?_; simp
  · omega
  · omega
  · omega
  · refine (?_ : (zt2 s.heap l1 l2 t1 t2).objs.size ≠ (zz2 s.heap l1 l2 t1 t2).objs.size); omega
  · refine (?_ : (zo2 s.heap l1 l2 t1 t2).objs.size ≠ (zz2 s.heap l1 l2 t1 t2).objs.size); omega
  · refine (?_ : (zt2 s.heap l1 l2 t1 t2).objs.size ≠ (zo2 s.heap l1 l2 t1 t2).objs.size); omega
  · intro x m
    rcases mc m with rfl | m
    · refine ⟨?_, ?_, ?_⟩ <;> (refine (?_ : s.heap.objs.size ≠ _)) <;> omega
    · refine rwm (List.mem_singleton.mp m) ?_; refine ⟨?_, ?_, ?_⟩ <;> (refine (?_ : (s.heap.push (boxIter l1 t1)).objs.size ≠ _)) <;> omega
theorem call_zip3 {l1 l2 l3 : Addr} {xs ys zs : Array Value} {t1 t2 t3 : Bool} {Q : Value → Shared → Prop} (h1 : Box s.heap l1 xs t1) (h2 : Box s.heap l2 ys t2) (h3 : Box s.heap l3 zs t3)
    (h : ∀ h' z, ZipMade s [(l1, xs, t1), (l2, ys, t2), (l3, zs, t3)] h' z → Q (.ref z) { s with heap := h' }) : wpAny (model prog w) A (call (.type "zip") [.ref l1, .ref l2, .ref l3]) Q E s := by
  refine callType_new F.called_zip (by decide) (typeCall_zip_3 _ _ _) (newCall_zip_3 _ _ _) (fun obj => args_object_init_4 obj _ _ _) F.entry_zip_new (meets_zip3 l1 l2 l3 xs ys zs t1 t2 t3) (X9 h1 h2 h3 ?_)
  have s1 : (s.heap.push (boxIter l1 t1)).objs.size = s.heap.objs.size + 1 := Heap.size_push ..
  have s2 : (zt2 s.heap l1 l2 t1 t2).objs.size = s.heap.objs.size + 2 := by (refine rwm (Heap.size_push ..) ?_; exact rwm (s1) rfl)
  have s3 : (zt3 s.heap l1 l2 l3 t1 t2 t3).objs.size = s.heap.objs.size + 3 := by (refine rwm (Heap.size_push ..) ?_; exact rwm (s2) rfl)
  have s4 : (zo3 s.heap l1 l2 l3 t1 t2 t3).objs.size = s.heap.objs.size + 4 := by (refine rwm (Heap.size_push ..) ?_; exact rwm (s3) rfl)
  have s5 : (zz3 s.heap l1 l2 l3 t1 t2 t3).objs.size = s.heap.objs.size + 5 := by (refine rwm (Heap.size_push ..) ?_; exact rwm (s4) rfl)
  have kp : ∀ c o, s.heap.get? c = some o → (ze3 s.heap l1 l2 l3 t1 t2 t3).get? c = some o := fun c o x =>
    Heap.get?_push_of_some _ (Heap.get?_push_of_some _ (Heap.get?_push_of_some _ (Heap.get?_push_of_some _ (Heap.get?_push_of_some _ (Heap.get?_push_of_some _ x)))))
  have g6 : (ze3 s.heap l1 l2 l3 t1 t2 t3).get? (zz3 s.heap l1 l2 l3 t1 t2 t3).objs.size = some _ := Heap.get?_push_size _ rfl
  have g5 : (ze3 s.heap l1 l2 l3 t1 t2 t3).get? (zo3 s.heap l1 l2 l3 t1 t2 t3).objs.size = some _ := Heap.get?_push_of_some _ (Heap.get?_push_size _ rfl)
  have g4 : (ze3 s.heap l1 l2 l3 t1 t2 t3).get? (zt3 s.heap l1 l2 l3 t1 t2 t3).objs.size = some _ := Heap.get?_push_of_some _ (Heap.get?_push_of_some _ (Heap.get?_push_size _ rfl))
  have g3 : (ze3 s.heap l1 l2 l3 t1 t2 t3).get? (zt2 s.heap l1 l2 t1 t2).objs.size = some (boxIter l3 t3) := Heap.get?_push_of_some _ (Heap.get?_push_of_some _ (Heap.get?_push_of_some _ (Heap.get?_push_size _ rfl)))
  have g2 : (ze3 s.heap l1 l2 l3 t1 t2 t3).get? (s.heap.push (boxIter l1 t1)).objs.size = some (boxIter l2 t2) := Heap.get?_push_of_some _ (Heap.get?_push_of_some _ (Heap.get?_push_of_some _ (Heap.get?_push_of_some _ (Heap.get?_push_size _ rfl))))
  have g1 : (ze3 s.heap l1 l2 l3 t1 t2 t3).get? s.heap.objs.size = some (boxIter l1 t1) := Heap.get?_push_of_some _ (Heap.get?_push_of_some _ (Heap.get?_push_of_some _ (Heap.get?_push_of_some _ (Heap.get?_push_of_some _ (Heap.get?_push_size _ rfl)))))
  refine ⟨(w7 _ g6 rfl), h _ _ ⟨(zt3 s.heap l1 l2 l3 t1 t2 t3).objs.size, (zo3 s.heap l1 l2 l3 t1 t2 t3).objs.size, [⟨s.heap.objs.size, l1, xs, 0, t1⟩, ⟨(s.heap.push (boxIter l1 t1)).objs.size, l2, ys, 0, t2⟩, ⟨(zt2 s.heap l1 l2 t1 t2).objs.size, l3, zs, 0, t3⟩], g6, g4, (w7 _ g5 rfl), rfl, ?_, ?_, ?_, ?_, ?_, ?_, ?_, ?_, ?_, kp⟩⟩
  · intro x m
    rcases mc m with rfl | m
    · exact ⟨Box.at (Box.keeps h1 fun o e => kp _ o e) g1, rfl, Nat.le_refl _⟩
    · rcases mc m with rfl | m
      · exact ⟨Box.at (Box.keeps h2 fun o e => kp _ o e) g2, rfl, by refine (?_ : _ ≤ (s.heap.push (boxIter l1 t1)).objs.size); omega⟩
      · refine rwm (List.mem_singleton.mp m) ?_; exact ⟨Box.at (Box.keeps h3 fun o e => kp _ o e) g3, rfl, by refine (?_ : _ ≤ (zt2 s.heap l1 l2 t1 t2).objs.size); omega⟩
  · show [s.heap.objs.size, (s.heap.push (boxIter l1 t1)).objs.size, (zt2 s.heap l1 l2 t1 t2).objs.size].Nodup
    (refine rwm (s1) ?_; refine rwm (s2) ?_); simp
  · omega
  · omega
  · omega
  · refine (?_ : (zt3 s.heap l1 l2 l3 t1 t2 t3).objs.size ≠ (zz3 s.heap l1 l2 l3 t1 t2 t3).objs.size); omega
  · refine (?_ : (zo3 s.heap l1 l2 l3 t1 t2 t3).objs.size ≠ (zz3 s.heap l1 l2 l3 t1 t2 t3).objs.size); omega
  · refine (?_ : (zt3 s.heap l1 l2 l3 t1 t2 t3).objs.size ≠ (zo3 s.heap l1 l2 l3 t1 t2 t3).objs.size); omega
  · intro x m
    rcases mc m with rfl | m
    · refine ⟨?_, ?_, ?_⟩ <;> (refine (?_ : s.heap.objs.size ≠ _)) <;> omega
    · rcases mc m with rfl | m
      · refine ⟨?_, ?_, ?_⟩ <;> (refine (?_ : (s.heap.push (boxIter l1 t1)).objs.size ≠ _)) <;> omega
      · refine rwm (List.mem_singleton.mp m) ?_; refine ⟨?_, ?_, ?_⟩ <;> (refine (?_ : (zt2 s.heap l1 l2 t1 t2).objs.size ≠ _)) <;> omega
theorem call_enum {l : Addr} {arr : Array Value} {tup : Bool} {Q : Value → Shared → Prop} (hL : Box s.heap l arr tup)
    (h : ∀ h', IsEnum h' (s.heap.objs.size + 1) s.heap.objs.size 0 .none → (Sc.mk s.heap.objs.size l arr 0 tup).At h' → (∀ b o, s.heap.get? b = some o → h'.get? b = some o) → Q (.ref (s.heap.objs.size + 1)) { s with heap := h' }) :
    wpAny (model prog w) A (call (.type "enumerate") [.ref l]) Q E s := by
  refine callType_new F.called_enumerate (by decide) (F.typeCall_enumerate_1 _) (F.newCall_enumerate_1 _) (fun obj => F.args_object_init_2 obj _) F.entry_enumerate_new (meets_enum_new l arr tup) ⟨hL, ?_⟩
  have hz : (s.heap.push (boxIter l tup)).objs.size = s.heap.objs.size + 1 := Heap.size_push ..
  refine (?_ : _ ∧ _)
  refine rwm (hz) ?_
  have he : IsEnum ((s.heap.push (boxIter l tup)).push { cls := .type "enumerate", data := .fields #[.none, .bool false, .ref s.heap.objs.size, rawInt 0, .none, .none] }) (s.heap.objs.size + 1) s.heap.objs.size 0 .none := by
    have := Heap.get?_push_size (s.heap.push (boxIter l tup)) (o := { cls := .type "enumerate", data := .fields #[.none, .bool false, .ref s.heap.objs.size, rawInt 0, .none, .none] }) rfl
    rw [hz] at this; exact this
  refine ⟨(w7 _ he rfl), h _ he (Box.at (Box.push (Box.push hL _) _) (Heap.get?_push_of_some _ (Heap.get?_push_size _ rfl))) fun b o x => Heap.get?_push_of_some _ (Heap.get?_push_of_some _ x)⟩
end
end
noncomputable def SrR (C : Cx) (W : Wd) (h : Heap) (it : It) (J : Addr) (k : Nat) : Prop := match it with
  | .tup l => ∃ T arr n ds, h.IsTupleIter J T k ∧ Fz W h T { cls := .type "tuple", data := .seq arr n } ∧ VRs C W h ds arr.toList ∧ l = ds.drop k
  | .lst i k' => k' = k ∧ ∃ a, h.IsListIter J a k ∧ W.adr[i]? = some a
  | _ => False
inductive SrRs (C : Cx) (W : Wd) (h : Heap) : List It → List Addr → Prop
  | nil : SrRs C W h [] []
  | cons {it : It} {is : List It} {J : Addr} {Js : List Addr} {k : Nat} : SrR C W h it J k → SrRs C W h is Js → SrRs C W h (it :: is) (J :: Js)
inductive ItR (C : Cx) (W : Wd) (h : Heap) : It → List Addr → Addr → Prop
  | src {it : It} {I : Addr} {k : Nat} : SrR C W h it I k → I ∉ W.mt → ItR C W h it [I] I
  | rng {k n : Nat} {I : Addr} : IsRangeIter h I k ((n - k : Nat) : Int) 1 → I ∉ W.mt → ItR C W h (.rng k n) [I] I
  | enu {it : It} {I J : Addr} {k : Nat} {old : Value} : SrR C W h it J k → IsEnum h I J k old → (∀ b ∈ [I, J], b ∉ W.mt) → ItR C W h (.enu k it) [I, J] I
  | zip {is : List It} {I TI TO : Addr} {Js : List Addr} {arr : Array Value} {n n' : Nat} : IsZip h I TI TO .none → Fz W h TI { cls := .type "tuple", data := .seq (Js.map Value.ref).toArray n } → h.get? TO = some { cls := .type "tuple", data := .seq arr n' } → arr.size = Js.length →
      TO ∈ W.mt → Js ≠ [] → Js.length ≤ 1000 → SrRs C W h is Js → (∀ b ∈ I :: Js, b ∉ W.mt) → ItR C W h (.zip is) (I :: TO :: Js) I
structure Side (C : Cy) (A : Around) (W : Wd) (own its : List Addr) : Prop where
  nd : its.Nodup
  adr : ∀ b ∈ its, b ∉ W.adr
  tabs : ∀ b ∈ its, b ∉ C.tabs
  own : ∀ b ∈ its, b ∉ own
  stk : ∀ b ∈ its, ¬ Mine.stk A b
  h₀ : ∀ b ∈ its, C.h₀.get? b = none
theorem SrR.obj {C : Cx} {W : Wd} {h : Heap} {it : It} {J : Addr} {k : Nat} (x : SrR C W h it J k) : ∃ o, h.get? J = some o ∧ isIter o = true ∧ ∀ v, o.data ≠ .cell v := by
  unfold SrR at x
  split at x
  · (refine Y3 x fun T arr n ds zz1 _ => ?_; clear x; obtain ⟨o, e, c, d⟩ := zz1)
    exact (W4 o e (by unfold isIter notCell; (refine rwm (c) ?_; refine rwm (d) ?_); rfl) (fun v q => by rw [d] at q; exact (nomatch q)))
  · (refine Y9 x fun _ a zz1 _ => ?_; clear x; obtain ⟨o, e, c, d⟩ := zz1)
    exact (W4 o e (by unfold isIter notCell; (refine rwm (c) ?_; refine rwm (d) ?_); rfl) (fun v q => by rw [d] at q; exact (nomatch q)))
  · exact x.elim
theorem SrRs.obj {C : Cx} {W : Wd} {h : Heap} {is : List It} {Js : List Addr} (x : SrRs C W h is Js) : ∀ J ∈ Js, ∃ o, h.get? J = some o ∧ isIter o = true ∧ ∀ v, o.data ≠ .cell v := by
  induction x with
  | nil => exact fun _ m => nomatch m
  | cons a _ ih => exact List.forall_mem_cons.mpr ⟨SrR.obj a, ih⟩
theorem ItR.objs {C : Cx} {W : Wd} {h : Heap} {it : It} {its : List Addr} {I : Addr} (x : ItR C W h it its I) : ∀ b ∈ its, ∃ o, h.get? b = some o ∧ (isIter o = true ∨ b ∈ W.mt) ∧ ∀ v, o.data ≠ .cell v := by
  intro b m
  induction x using ItR.casesOn with
  | src a _ => refine rwm (List.mem_singleton.mp m) ?_; refine W3 (SrR.obj a) fun o e i d => ?_; exact (W4 o e (.inl i) d)
  | rng a _ => refine rwm (List.mem_singleton.mp m) ?_; exact (W4 _ a (.inl rfl) (fun v q => by exact (nomatch q)))
  | enu a e _ =>
    rcases mc m with rfl | m
    · exact (W4 _ e (.inl rfl) (fun v q => by exact (nomatch q)))
    · refine rwm (List.mem_singleton.mp m) ?_; refine W3 (SrR.obj a) fun o e i d => ?_; exact (W4 o e (.inl i) d)
  | zip a _ c _ mt _ _ ss _ =>
    rcases mc m with rfl | m
    · exact (W4 _ a (.inl rfl) (fun v q => by exact (nomatch q)))
    · rcases mc m with rfl | m
      · exact (W4 _ c (.inr mt) (fun v q => by exact (nomatch q)))
      · refine W3 (SrRs.obj ss b m) fun o e i d => ?_; exact (W4 o e (.inl i) d)
theorem ItR.loose {C : Cx} {W : Wd} {h : Heap} {it : It} {its : List Addr} {I : Addr} (x : ItR C W h it its I) : ∀ b ∈ its, Loose W h b := fun b m => by
  refine W3 (x.objs b m) fun o e i _ => ?_
  rcases i with i | i
  · exact .inr (w7 o e i)
  · exact .inl i
section
variable {C : Cy} {X : Tx} {A : Around} {own its : List Addr} {W W' W₁ : Wd} {s s' s₁ : Shared} {σ σ' : St} {env : Env} {ρ : Fr} {r : Rec} {n : Nat} {E : Value → Shared → Prop}
theorem its_step {h' : Heap} {tk : Nat} (R : StR C W σ s) (Sd : Side C A W own its) (lo : ∀ b ∈ its, Loose W s.heap b) (k : ∀ c o, c ∉ its → s.heap.get? c = some o → h'.get? c = some o) (lv : ∀ b ∈ its, b ∈ W.mt → ∃ o, h'.get? b = some o) :
    StR C W σ { s with heap := h', toks := tk } :=
  R.move (S := (· ∈ its)) (P := fun _ => False) (.refl _ _) rfl rfl (.of _ _ fun b o e n => k b o n e) (fun b m => (X9 (lo b m) (Sd.adr b m) (Sd.tabs b m) (Sd.h₀ b m))) (fun _ t => t.elim)
    (fun b m => by
      by_cases q : b ∈ its
      · exact .inr (lv b q m)
      · exact .inl ⟨m, q⟩)
theorem its_go {h' : Heap} {tk : Nat} (k : ∀ c o, c ∉ its → s.heap.get? c = some o → h'.get? c = some o) (lv : ∀ b ∈ its, ∃ o, h'.get? b = some o) : Go C A its W s W { s with heap := h', toks := tk } :=
  ⟨.refl _ _, .of _ _ fun b o e n => k b o (fun m => n (.inr (.inr m))) e, fun b o e => by
    by_cases q : b ∈ its
    · exact lv b q
    · exact ⟨o, k b o q e⟩, rfl⟩
theorem its_vr {h' : Heap} (lo : ∀ b ∈ its, Loose W s.heap b) (k : ∀ c o, c ∉ its → s.heap.get? c = some o → h'.get? c = some o) {d : V} {v : Value} (x : VR C.toCx W s.heap d v) : VR C.toCx W h' d v :=
  x.mono (S := (· ∈ its)) (P := fun _ => False) (.refl _ _) (.of _ _ fun b o e n => k b o n e) lo (fun _ t => t.elim)
theorem its_vrs {h' : Heap} (lo : ∀ b ∈ its, Loose W s.heap b) (k : ∀ c o, c ∉ its → s.heap.get? c = some o → h'.get? c = some o) {d : List V} {v : List Value} (x : VRs C.toCx W s.heap d v) : VRs C.toCx W h' d v :=
  x.mono (S := (· ∈ its)) (P := fun _ => False) (.refl _ _) (.of _ _ fun b o e n => k b o n e) lo (fun _ t => t.elim)
theorem its_fz {h' : Heap} {a : Addr} {o : Obj} (lo : ∀ b ∈ its, Loose W s.heap b) (k : ∀ c o, c ∉ its → s.heap.get? c = some o → h'.get? c = some o) (x : Fz W s.heap a o) : Fz W h' a o :=
  x.mono (S := (· ∈ its)) (P := fun _ => False) (.refl _ _) (.of _ _ fun b o e n => k b o n e) lo (fun _ t => t.elim)
theorem SrR.keep {S P : Addr → Prop} {h h' : Heap} {it : It} {J : Addr} {k : Nat} (x : SrR C.toCx W h it J k) (l : W.Le h W') (kp : Keep S P h h') (hs : ∀ b, S b → Loose W h b) (hp : ∀ b, P b → b ∈ W.mt) (nJ : ∀ o, h.get? J = some o → h'.get? J = some o) : SrR C.toCx W' h' it J k := by
  unfold SrR at *
  split at x
  · (refine Z4 x fun T arr n ds zz1 z rs hl => ?_; clear x; obtain ⟨o, e, r⟩ := zz1)
    exact (Z1 T arr n ds (w7 o (nJ o e) r) (z.mono l kp hs hp) (rs.mono l kp hs hp) hl)
  · (refine Y9 x fun hk a zz1 ha => ?_; clear x; obtain ⟨o, e, r⟩ := zz1)
    exact (Z2 hk a (w7 o (nJ o e) r) (prefix_get l.adr ha))
  · exact x.elim
theorem SrRs.keep {S P : Addr → Prop} {h h' : Heap} (l : W.Le h W') (kp : Keep S P h h') (hs : ∀ b, S b → Loose W h b) (hp : ∀ b, P b → b ∈ W.mt) {is : List It} {Js : List Addr} (x : SrRs C.toCx W h is Js) : (∀ J ∈ Js, ∀ o, h.get? J = some o → h'.get? J = some o) → SrRs C.toCx W' h' is Js := by
  induction x with
  | nil => exact fun _ => .nil
  | cons a _ ih => exact fun nJ => .cons (SrR.keep a l kp hs hp (nJ _ (.head _))) (ih fun J m => nJ J (.tail _ m))
theorem ItR.go {it : It} {I : Addr} (x : ItR C.toCx W s.heap it its I) (Sd : Side C A W own its) (g : Go C A own W s W' s') (R : StR C W σ s) (F : FmR C A W s.heap) (ho : ∀ b, b ∈ own → b ∈ W.mt) : ItR C.toCx W' s'.heap it its I ∧ Side C A W' own its := by
  have keep : ∀ b ∈ its, ∀ o, s.heap.get? b = some o → s'.heap.get? b = some o := by
    intro b m o e
    rcases g.keep b o e (by rintro (t | t | t); exact Sd.adr b m t; exact Sd.tabs b m t; exact Sd.own b m t) with q | ⟨q, _⟩
    · exact q
    · exact absurd q (Sd.stk b m)
  have hs : ∀ b, Turn C W own b → Loose W s.heap b := fun b t => .inl (Turn.mt R ho t)
  have hp : ∀ b, stk A b → b ∈ W.mt := fun b t => (F.onStk t).1
  have ob := x.objs
  refine ⟨?_, Sd.nd, fun b m => ?_, Sd.tabs, Sd.own, Sd.stk, Sd.h₀⟩
  · cases x with
    | src a m => exact .src (SrR.keep a g.le g.keep hs hp (keep _ (.head _))) (by refine w6 (SrR.obj a) fun o e _ => ?_; exact g.le.notMt e m)
    | rng a m => exact .rng (keep _ (.head _) _ a) (g.le.notMt a m)
    | enu a e m => exact .enu (SrR.keep a g.le g.keep hs hp (keep _ (.tail _ (.head _)))) (keep _ (.head _) _ e) (fun b mb => by refine w6 (ob b mb) fun o eo _ => ?_; exact g.le.notMt eo (m b mb))
    | zip a b c d mt ne hl ss m => exact .zip (keep _ (.head _) _ a) (b.mono g.le g.keep hs hp) (keep _ (.tail _ (.head _)) _ c) d (g.le.mt _ mt) ne hl (SrRs.keep g.le g.keep hs hp ss fun J m => keep J (.tail _ (.tail _ m))) (fun b mb => by
        refine w6 (ob b (by rcases mc mb with rfl | mb; exact .head _; exact .tail _ (.tail _ mb))) fun o eo _ => ?_
        exact g.le.notMt eo (m b mb))
  · refine w6 (x.objs b m) fun o e _ => ?_
    exact g.le.notAdr e (Sd.adr b m)
theorem SrR.sc {it : It} {J : Addr} {k : Nat} (R : StR C W σ s) (x : SrR C.toCx W s.heap it J k) {o : Option (V × It)} (h : nextS σ it = some o) :
    ∃ y : Sc, y.J = J ∧ y.k = k ∧ y.At s.heap ∧ (y.T ∈ W.adr ∨ ¬ Loose W s.heap y.T) ∧ (o = none → y.arr[y.k]? = none) ∧ ∀ v it', o = some (v, it') → ∃ v', y.arr[y.k]? = some v' ∧ VR C.toCx W s.heap v v' ∧
      ∀ h', y.next.At h' → (∀ {d : List V} {u : List Value}, VRs C.toCx W s.heap d u → VRs C.toCx W h' d u) → (∀ {a : Addr} {o : Obj}, Fz W s.heap a o → Fz W h' a o) → SrR C.toCx W h' it' J (k + 1) := by
  induction it using It.casesOn with
  | tup l =>
    refine Z4 x fun T arr m ds hit z rs zz1 => ?_
    clear x
    subst zz1
    have hl := VRs.length rs
    refine ⟨⟨J, T, arr, k, true⟩, rfl, rfl, ⟨hit, _, z.1, rfl, _, rfl⟩, .inr z.not, fun ho => ?_, fun v it' ho => ?_⟩
    · subst ho
      refine (?_ : arr[k]? = none)
      induction hd : ds.drop k using List.casesOn with
      | nil =>
        have : ds.length ≤ k := by simpa using hd
        exact Array.getElem?_eq_none (by (refine rwl (Array.length_toList) ?_; refine rwm (hl) ?_); exact this)
      | cons a b => rw [hd] at h; exact (nomatch h)
    · subst ho
      induction hd : ds.drop k using List.casesOn with
      | nil => rw [hd] at h; exact (nomatch h)
      | cons a b =>
        rw [hd] at h; cases h
        have e : ds[k]? = some v := by
          have : (ds.drop k)[0]? = some v := by refine rwm (hd) ?_; rfl
          simpa using this
        refine w6 (rs.get e) fun v' e' xv => ?_
        refine (W4 v' (by refine (?_ : arr[k]? = some v'); simpa using e') xv (fun h' a up upf => (Z1 T arr m ds ?_ (upf z) (up rs) ?_)))
        · exact a.1
        · have : ds.drop (k + 1) = (ds.drop k).drop 1 := by exact rwm (List.drop_drop) rfl
          (refine rwm (this) ?_; refine rwm (hd) ?_); rfl
  | lst i k' =>
    refine Y9 x fun zz1 a hit ha => ?_
    clear x
    subst zz1
    refine bd_e (show (bd (σ.list i) fun l => match l[k']? with | some v => some (some (v, It.lst i (k' + 1))) | none => some none) = some o from h) fun l h0 h1 => ?_
    refine X0 (VR.list R h0 (.lst ha)) fun a' vs e ha' p rs hb => ?_
    clear ha'
    cases e
    have hl := VRs.length rs
    refine ⟨⟨J, a, vs.toArray, k', false⟩, rfl, rfl, ⟨hit, p.isList⟩, .inl (List.mem_of_getElem? ha), fun ho => ?_, fun v it' ho => ?_⟩
    · clear h
      subst ho
      refine (?_ : vs.toArray[k']? = none)
      induction e : l[k']? using Option.casesOn with
      | none =>
        have : l.length ≤ k' := by simpa using e
        exact Array.getElem?_eq_none (by (refine rwm (List.size_toArray) ?_; refine rwm (hl) ?_); exact this)
      | some v => rw [e] at h1; exact (nomatch h1)
    · subst ho
      induction e : l[k']? using Option.casesOn with
      | none => rw [e] at h1; exact (nomatch h1)
      | some v₁ =>
        rw [e] at h1; clear h; cases h1
        refine w6 (rs.get e) fun v' e' xv => ?_
        exact (W4 v' (by refine (?_ : vs.toArray[k']? = some v'); simpa using e') xv (fun h' b up upf => (Z2 rfl a b.1 ha)))
  | _ => exact x.elim
theorem SrR.at {it : It} {J : Addr} {k : Nat} (R : StR C W σ s) (x : SrR C.toCx W s.heap it J k) : ∃ y : Sc, y.J = J ∧ y.At s.heap ∧ (y.T ∈ W.adr ∨ ¬ Loose W s.heap y.T) := by
  induction it using It.casesOn with
  | tup l =>
    refine Z4 x fun T arr m ds hit z rs zz1 => ?_
    clear x
    subst zz1
    exact (W4 ⟨J, T, arr, k, true⟩ rfl ⟨hit, _, z.1, rfl, _, rfl⟩ (.inr z.not))
  | lst i k' =>
    refine Y9 x fun zz1 a hit ha => ?_
    clear x
    subst zz1
    refine w5 (R.lists a (List.mem_of_getElem? ha)) fun itm p => ?_
    exact (W4 ⟨J, a, itm, k', false⟩ rfl ⟨hit, p.isList⟩ (.inl (List.mem_of_getElem? ha)))
  | _ => exact x.elim
theorem SrRs.at (R : StR C W σ s) {is : List It} {Js : List Addr} (x : SrRs C.toCx W s.heap is Js) : ∃ scs : List Sc, scs.map (·.J) = Js ∧ ∀ x ∈ scs, x.At s.heap ∧ (x.T ∈ W.adr ∨ ¬ Loose W s.heap x.T) := by
  induction x with
  | nil => exact w7 [] rfl (fun _ m => nomatch m)
  | cons a _ ih =>
    refine w6 (SrR.at R a) fun y e h => ?_
    refine w6 ih fun ys es hs => ?_
    refine (w7 (y :: ys) (by (refine rwm (List.map_cons) ?_; refine rwm (e) ?_; exact rwm (es) rfl)) (fun x m => ?_))
    rcases mc m with rfl | m
    · exact h
    · exact hs x m
theorem nextAll_cons {i : It} {is : List It} {q : Option (List V × List It)} (h : nextAll σ (i :: is) = some q) :
    ∃ o, nextS σ i = some o ∧ (match o with | none => some none | some (v, i') => bd (nextAll σ is) fun q => match q with | none => some none | some (vs, is') => some (some (v :: vs, i' :: is'))) = some q := bd_some h
inductive SrV (C : Cy) (W : Wd) (s : Shared) (vs : List V) (is' : List It) (Js : List Addr) : Prop
  | mk (scs : List Sc) (vals : List Value) : scs.map (·.J) = Js → (∀ x ∈ scs, x.At s.heap ∧ (x.T ∈ W.adr ∨ ¬ Loose W s.heap x.T)) → vals.length = scs.length → (∀ (i : Nat) (x : Sc), scs[i]? = some x → x.arr[x.k]? = vals[i]?) → VRs C.toCx W s.heap vs vals →
      (∀ h', (∀ x ∈ scs, x.next.At h') → (∀ {d : List V} {u : List Value}, VRs C.toCx W s.heap d u → VRs C.toCx W h' d u) → (∀ {a : Addr} {o : Obj}, Fz W s.heap a o → Fz W h' a o) → SrRs C.toCx W h' is' Js) → SrV C W s vs is' Js
inductive SrN (C : Cy) (W : Wd) (s : Shared) (Js : List Addr) : Prop
  | mk (scs : List Sc) (vals : List Value) (j₀ : Nat) (x₀ : Sc) : scs.map (·.J) = Js → (∀ x ∈ scs, x.At s.heap ∧ (x.T ∈ W.adr ∨ ¬ Loose W s.heap x.T)) → vals.length = j₀ → scs[j₀]? = some x₀ → x₀.arr[x₀.k]? = none → (∀ (i : Nat) (x : Sc), i < j₀ → scs[i]? = some x → x.arr[x.k]? = vals[i]?) → SrN C W s Js
theorem SrRs.go1 (R : StR C W σ s) {is : List It} {Js : List Addr} (x : SrRs C.toCx W s.heap is Js) : ∀ {vs : List V} {is' : List It}, nextAll σ is = some (some (vs, is')) → SrV C W s vs is' Js := by
  induction x with
  | nil => exact fun h => by cases h; exact ⟨[], [], rfl, fun _ m => (nomatch m), rfl, fun i x e => by simp at e, .nil, fun _ _ _ _ => .nil⟩
  | cons a _ ih =>
    intro vs is' h
    refine w6 (nextAll_cons h) fun o h1 h2 => ?_
    induction o using Option.casesOn with
    | none => exact (nomatch h2)
    | some p =>
      obtain ⟨v, i'⟩ := p
      refine bd_e h2 fun q h3 h4 => ?_
      induction q using Option.casesOn with
      | none => exact (nomatch h4)
      | some q =>
        obtain ⟨vs₁, is₁⟩ := q
        clear h h2
        cases h4
        refine Z6 (SrR.sc R a h1) fun y ej ek at' tc _ sm => ?_
        refine W3 (sm v i' rfl) fun v' ev xv back => ?_
        obtain ⟨scs, vals, m1, m2, m3, m4, m5, m6⟩ := ih h3
        refine ⟨y :: scs, v' :: vals, by (refine rwm (List.map_cons) ?_; refine rwm (ej) ?_; exact rwm (m1) rfl), fun x m => ?_, by simp [m3], fun j x e => ?_, .cons xv m5, fun h' hn up upf => .cons (back h' (hn y (.head _)) up upf) (m6 h' (fun x m => hn x (.tail _ m)) up upf)⟩
        · rcases mc m with rfl | m
          · exact ⟨at', tc⟩
          · exact m2 x m
        · induction j using Nat.casesAuxOn with
          | zero => simp at e; subst e; simpa using ev
          | succ j => simp at e; simpa using m4 j x e
theorem SrRs.go0 (R : StR C W σ s) {is : List It} {Js : List Addr} (x : SrRs C.toCx W s.heap is Js) : nextAll σ is = some none → SrN C W s Js := by
  induction x with
  | nil => exact fun h => nomatch h
  | cons a b ih =>
    intro h
    refine w6 (nextAll_cons h) fun o h1 h2 => ?_
    refine Z6 (SrR.sc R a h1) fun y ej ek at' tc en sm => ?_
    clear h1
    induction o using Option.casesOn with
    | none =>
      refine w6 (SrRs.at R b) fun scs m1 m2 => ?_
      refine ⟨y :: scs, [], 0, y, by (refine rwm (List.map_cons) ?_; refine rwm (ej) ?_; exact rwm (m1) rfl), fun x m => ?_, rfl, rfl, en rfl, fun j x hj => absurd hj (Nat.not_lt_zero _)⟩
      rcases mc m with rfl | m
      · exact ⟨at', tc⟩
      · exact m2 x m
    | some p =>
      clear en
      obtain ⟨v, i'⟩ := p
      refine bd_e h2 fun q h3 h4 => ?_
      induction q using Option.casesOn with
      | some q => exact (nomatch h4)
      | none =>
        refine W3 (sm v i' rfl) fun v' ev xv back => ?_
        obtain ⟨scs, vals, j₀, x₀, m1, m2, m3, m4, m5, m6⟩ := ih h3
        refine ⟨y :: scs, v' :: vals, j₀ + 1, x₀, by (refine rwm (List.map_cons) ?_; refine rwm (ej) ?_; exact rwm (m1) rfl), fun x m => ?_, by simp [m3], by simpa using m4, m5, fun j x hj e => ?_⟩
        · rcases mc m with rfl | m
          · exact ⟨at', tc⟩
          · exact m2 x m
        · induction j using Nat.casesAuxOn with
          | zero => simp at e; subst e; simpa using ev
          | succ j => simp at e; simpa using m6 j x (by omega) e
theorem go_plain {I : Addr} {v : Value} {t : Expr} {o : Obj} {T : String} {vs : Array Value} {Q : Unit → Shared → Prop} {M : Model} (e : s.heap.get? I = some o) (c : o.cls = .type T) (d : o.data = .fields vs) (hT : (["enumerate", "zip", "dict_itemiterator", "dict_reverseitemiterator", "odict_iterator", "itertools.zip_longest", "itertools.pairwise"].contains T) = false) (q : Q () s) :
    wpAny M A (letOwnedTupleGo t (.ref I) v) Q E s := by
  have main : ∀ {elts : List Expr} {k : Nat} {pos : Pos}, wpAny M A (letOwnedTupleGo (.Tuple elts k pos) (.ref I) v) Q E s := by
    intro elts k pos
    unfold letOwnedTupleGo
    induction v using Value.casesOn with
    | ref a =>
      refine wpAny_bind (wpAny_load e ?_)
      simp only [c, d, hT, Bool.false_and, Bool.false_eq_true, if_false]
      exact wpAny_pure q
    | _ => exact wpAny_pure q
  have main2 : ∀ {elts : List Expr} {pos : Pos}, wpAny M A (letOwnedTupleGo (.List elts pos) (.ref I) v) Q E s := by
    intro elts pos
    unfold letOwnedTupleGo
    clear main
    induction v using Value.casesOn with
    | ref a =>
      refine wpAny_bind (wpAny_load e ?_)
      simp only [c, d, hT, Bool.false_and, Bool.false_eq_true, if_false]
      exact wpAny_pure q
    | _ => exact wpAny_pure q
  induction t using Expr.casesOn with
  | Tuple _ _ _ => exact main
  | List _ _ => exact main2
  | _ => exact wpAny_pure q
theorem next_tgt {it it' : It} {t : Expr} {v : V} (h : next σ it = some (some (v, it'))) (ht : tgtOk it t = true) : tgtOk it' t = true := by
  induction t using Expr.casesOn with
  | Tuple _ _ _ => rfl
  | Name x p =>
    induction it using It.casesOn with
    | zip _ => exact ftx ht
    | enu _ _ => exact ftx ht
    | tup l =>
      clear ht
      induction l using List.casesOn with
      | nil => exact (nomatch h)
      | cons a l => cases h; rfl
    | lst i k =>
      refine bd_e (show (bd (σ.list i) fun l => match l[k]? with | some v => some (some (v, It.lst i (k + 1))) | none => some none) = some (some (v, it')) from h) fun l h0 h1 => ?_
      induction e : l[k]? using Option.casesOn with
      | none => rw [e] at h1; exact (nomatch h1)
      | some v₁ => rw [e] at h1; clear e h; cases h1; rfl
    | rng k m =>
      have h : (match Nat.blt k m with | true => some (some (V.int (.lit (Int.ofNat k)), It.rng (k + 1) m)) | false => some none) = some (some (v, it')) := h
      induction e : Nat.blt k m using Bool.casesOn with
      | true => rw [e] at h; cases h; rfl
      | false => rw [e] at h; exact (nomatch h)
  | _ => exact ftx ht
noncomputable def Drawn (C : Cy) (A : Around) (W : Wd) (s : Shared) (σ : St) (its : List Addr) (I : Addr) (t : Expr) (v : V) (it' : It) (v' : Value) (s₁ : Shared) : Prop :=
  ∀ {Q' : Unit → Shared → Prop} {E' : Value → Shared → Prop}, (∀ s₂, Go C A its W s W s₂ → StR C W σ s₂ → VR C.toCx W s₂.heap v v' → ItR C.toCx W s₂.heap it' its I → Q' () s₂) → wpAny C.M A (letOwnedTupleGo t (.ref I) v') Q' E' s₁
theorem ext_its {J : Addr} {h h' : Heap} (e : Heap.ExtBut J h h') (m : J ∈ its) : ∀ c o, c ∉ its → h.get? c = some o → h'.get? c = some o := fun c o n x => e c o (fun q => n (q ▸ m)) x
theorem same_its {J : Addr} {h h' : Heap} (e : Heap.SameBut J h h') (m : J ∈ its) : ∀ c o, c ∉ its → h.get? c = some o → h'.get? c = some o := fun c o n x => (e.2 c fun q => n (q ▸ m)).trans x
theorem next_src {it : It} {I : Addr} {k : Nat} {t : Expr} {o : Option (V × It)} {Q : Option Value → Shared → Prop} (hh : A.handled = none) (R : StR C W σ s) (x : SrR C.toCx W s.heap it I k) (nm : I ∉ W.mt) (Sd : Side C A W own [I]) (h : nextS σ it = some o)
    (qn : o = none → ∀ h', (∀ c o, c ∉ [I] → s.heap.get? c = some o → h'.get? c = some o) → StR C W σ { s with heap := h' } → Q none { s with heap := h' })
    (qs : ∀ v it', o = some (v, it') → ∀ v' s₁, Drawn C A W s σ [I] I t v it' v' s₁ → Q (some v') s₁) : wpAny C.M A (pyNext (.ref I)) Q E s := by
  have lo := (ItR.src x nm).loose
  refine Z6 (SrR.sc R x h) fun y zz1 ek at' tc en sm => ?_
  clear x
  subst zz1
  clear h
  induction o using Option.casesOn with
  | none =>
    refine Sc.pyDone hh at' (en rfl) fun h' eb => ?_
    have kp := ext_its (its := [y.J]) eb (.head _)
    refine qn rfl h' kp (its_step (tk := s.toks) R Sd lo kp fun b m mt => ?_)
    rw [List.mem_singleton.mp m] at mt
    exact absurd mt nm
  | some p =>
    clear en qn
    obtain ⟨v, it'⟩ := p
    refine W3 (sm v it' rfl) fun v' ev xv back => ?_
    refine Sc.pyItem at' ev fun h' na sb => qs v it' rfl v' _ fun q => ?_
    have kp := same_its (its := [y.J]) sb (.head _)
    refine wi3 (Sc.obj na) fun oy ey iy vs dy => ?_
    have lv : ∀ b ∈ [y.J], ∃ o, h'.get? b = some o := fun b m => by refine rwm (List.mem_singleton.mp m) ?_; exact ⟨_, ey⟩
    have fin := q { s with heap := h' } (its_go (tk := s.toks) kp lv) (its_step (tk := s.toks) R Sd lo kp fun b m _ => lv b m) (its_vr lo kp xv) (.src (back h' na (fun r => its_vrs lo kp r) (fun z => its_fz lo kp z)) nm)
    have hT : ∃ T vs, oy.cls = .type T ∧ oy.data = .fields vs ∧ (["enumerate", "zip", "dict_itemiterator", "dict_reverseitemiterator", "odict_iterator", "itertools.zip_longest", "itertools.pairwise"].contains T) = false := by
      unfold Sc.At at na
      induction qt : y.next.tup using Bool.casesOn with
      | true =>
        rw [qt] at na
        refine w8 na fun zz1 _ => ?_
        clear na
        obtain ⟨o', e', c', d'⟩ := zz1
        have : o' = oy := by
          have e' : h'.get? y.J = some o' := e'
          have ey : h'.get? y.J = some oy := ey
          rw [ey] at e'; exact (Option.some.inj e').symm
        clear dy ey iy
        subst this
        exact (y7 _ _ c' d' (by decide +kernel))
      | false =>
        rw [qt] at na
        refine w8 na fun zz1 _ => ?_
        clear na
        obtain ⟨o', e', c', d'⟩ := zz1
        have : o' = oy := by
          have e' : h'.get? y.J = some o' := e'
          have ey : h'.get? y.J = some oy := ey
          rw [ey] at e'; exact (Option.some.inj e').symm
        clear dy ey iy
        subst this
        exact (y7 _ _ c' d' (by decide +kernel))
    revert hT
    intro zz0
    refine x6 zz0 fun T vs' c d hT => ?_
    clear zz0
    exact go_plain (show ({ s with heap := h' } : Shared).heap.get? y.J = some oy from ey) c d hT fin
theorem next_ok {it : It} {I : Addr} {t : Expr} {o : Option (V × It)} {Q : Option Value → Shared → Prop} (hh : A.handled = none) (R : StR C W σ s) (x : ItR C.toCx W s.heap it its I) (Sd : Side C A W own its) (ht : tgtOk it t = true) (h : next σ it = some o)
    (qn : o = none → ∀ h', (∀ c o, c ∉ its → s.heap.get? c = some o → h'.get? c = some o) → StR C W σ { s with heap := h' } → Q none { s with heap := h' })
    (qs : ∀ v it', o = some (v, it') → ∀ v' s₁, Drawn C A W s σ its I t v it' v' s₁ → Q (some v') s₁) : wpAny C.M A (pyNext (.ref I)) Q E s := by
  have lo := x.loose
  cases x with
  | @src _ _ k a nm =>
    refine next_src hh R a nm Sd (o := o) ?_ qn qs
    clear ht
    induction it using It.casesOn with
    | tup l => exact h
    | lst i k => exact h
    | _ => exact a.elim
  | @rng k m _ a nm =>
    have h : (match Nat.blt k m with | true => some (some (V.int (.lit (Int.ofNat k)), It.rng (k + 1) m)) | false => some none) = some o := h
    induction q : Nat.blt k m using Bool.casesOn with
    | true =>
      rw [q] at h; clear qn; (revert h; refine sm_r fun zz => ?_; subst zz)
      have hk : k < m := Nat.le_of_ble_eq_true q
      refine PySem.wpAny_pyNext_range_item a (by omega) fun h' ni sb => qs _ _ rfl _ _ fun fin => ?_
      have kp := same_its (its := [I]) sb (.head _)
      have lv : ∀ b ∈ [I], ∃ o, h'.get? b = some o := fun b mb => by refine rwm (List.mem_singleton.mp mb) ?_; exact ⟨_, ni⟩
      have e1 : (k : Int) + 1 = ((k + 1 : Nat) : Int) := by omega
      have e2 : ((m - k : Nat) : Int) - 1 = ((m - (k + 1) : Nat) : Int) := by omega
      rw [e1, e2] at ni
      have := fin { s with heap := h', toks := s.toks + 1 } (its_go kp lv) (its_step R Sd lo kp fun b mb _ => lv b mb) (.lit _ _) (.rng ni nm)
      exact go_plain (show ({ s with heap := h', toks := s.toks + 1 } : Shared).heap.get? I = some _ from ni) rfl rfl (by decide +kernel) this
    | false =>
      rw [q] at h; clear qs; (revert h; refine sm_r fun zz => ?_; subst zz)
      have hk : ¬ k < m := fun c => by rw [show Nat.blt k m = true from Nat.ble_eq_true_of_le c] at q; exact tfx q
      refine PySem.wpAny_pyNext_range_end hh a (by omega) fun h' eb => ?_
      have kp := ext_its (its := [I]) eb (.head _)
      exact qn rfl h' kp (its_step (tk := s.toks) R Sd lo kp fun b mb mt => by rw [List.mem_singleton.mp mb] at mt; exact absurd mt nm)
  | @enu it₁ _ J k old a e nm =>
    refine bd_e (show (bd (nextS σ it₁) fun o => match o with | some (v, i') => some (some (V.tup [.int (.lit (Int.ofNat k)), v], It.enu (k + 1) i')) | none => some none) = some o from h) fun o₁ h1 h2 => ?_
    refine Z6 (SrR.sc R a h1) fun y ej ek at' tc en sm => ?_
    subst ej; clear a; subst ek
    have nIJ : I ≠ y.J := fun q => by have := Sd.nd; rw [q] at this; simp at this
    have nIT : I ≠ y.T := fun q => by
      rcases tc with tc | tc
      · exact Sd.adr I (.head _) (q ▸ tc)
      · exact tc (q ▸ lo I (.head _))
    clear h1
    induction o₁ using Option.casesOn with
    | none =>
      clear h qs
      (revert h2; refine sm_r fun zz => ?_; subst zz)
      refine enum_pyEnd hh e at' (en rfl) fun h' eb => ?_
      have kp := ext_its (its := [I, y.J]) eb (.tail _ (.head _))
      exact qn rfl h' kp (its_step (tk := s.toks) R Sd lo kp fun b mb mt => absurd mt (nm b mb))
    | some p =>
      clear en
      obtain ⟨v, i'⟩ := p
      clear h qn
      (revert h2; refine sm_r fun zz => ?_; subst zz)
      refine W3 (sm v i' rfl) fun v' ev xv back => ?_
      refine enum_pyItem hh e at' ev nIJ nIT fun h' tk tk' b1 b2 b3 b5 => qs _ _ rfl _ _ fun fin => ?_
      clear qs
      induction t using Expr.casesOn with
      | Tuple elts kk pos =>
        refine wpAny_letOwnedTupleGo_enum b1 fun h₂ c1 c2 => ?_
        have nT : s.heap.objs.size ≠ I := fun q => by
          have e' : s.heap.get? I = some _ := e
          rw [← q, get_size_none] at e'; exact nsx e'
        have kp : ∀ c o, c ∉ [I, y.J] → s.heap.get? c = some o → h₂.get? c = some o := fun c o n z => (c2.2 c fun q => n (by refine rwm (q) ?_; exact .head _)).trans (b5 c o (fun q => n (by refine rwm (q) ?_; exact .head _)) (fun q => n (by refine rwm (q) ?_; exact .tail _ (.head _))) z)
        have na : y.next.At h₂ := Sc.keep b2 (fun o z => (c2.2 _ (Ne.symm nIJ)).trans z) (fun o z => (c2.2 _ (Ne.symm nIT)).trans z)
        refine w6 (Sc.obj na) fun oy ey _ => ?_
        have lv : ∀ b ∈ [I, y.J], ∃ o, h₂.get? b = some o := fun b mb => by
          rcases mc mb with rfl | mb
          · exact ⟨_, c1⟩
          · refine rwm (List.mem_singleton.mp mb) ?_; exact ⟨_, ey⟩
        have g := its_go (C := C) (A := A) (W := W) (s := s) (tk := tk') kp lv
        have zt : Fz W h₂ s.heap.objs.size { cls := .type "tuple", data := .seq #[.int (y.k : Int) tk, v'] } := ⟨(c2.2 _ nT).trans b3, (fun mt => by refine w5 (R.live _ mt) fun o z => ?_; rw [get_size_none] at z; exact nsx z), rfl⟩
        have e1 : (y.k : Int) + 1 = ((y.k + 1 : Nat) : Int) := by omega
        rw [e1] at c1
        exact fin { s with heap := h₂, toks := tk' } g (its_step R Sd lo kp fun b mb _ => lv b mb) (.tup (vs := [.int (y.k : Int) tk, v']) (n := 0) zt (by simp) (.cons (.lit _ _) (.cons (its_vr lo kp xv) .nil)))
          (.enu (back h₂ na (fun r => its_vrs lo kp r) (fun z => its_fz lo kp z)) c1 nm)
      | _ => exact ftx ht
  | @zip is _ TI TO Js arr nn nn' a b c d mt ne hl ss nm =>
    refine bd_e (show (bd (nextAll σ is) fun o => match o with | some (vs, is') => some (some (V.tup vs, It.zip is')) | none => some none) = some o from h) fun o₁ h1 h2 => ?_
    have nTO : TO ≠ I := fun q => nm I (.head _) (q ▸ mt)
    have nTI : ∀ z ∈ I :: TO :: Js, TI ≠ z := fun z mz q => b.not (q ▸ lo z mz)
    have apart : ∀ scs : List Sc, scs.map (·.J) = Js → (∀ x ∈ scs, x.At s.heap ∧ (x.T ∈ W.adr ∨ ¬ Loose W s.heap x.T)) → ZApart I TI TO scs := by
      intro scs ej hs
      have mj : ∀ x ∈ scs, x.J ∈ Js := fun x m => by refine rwl (ej) ?_; exact List.mem_map_of_mem m
      have nT : ∀ x ∈ scs, ∀ z ∈ I :: TO :: Js, x.T ≠ z := fun x m z mz q => by
        rcases (hs x m).2 with tc | tc
        · exact Sd.adr z mz (q ▸ tc)
        · exact tc (q ▸ lo z mz)
      have nd := Sd.nd
      refine w8 (List.nodup_cons.mp nd) fun nd1 nd2 => ?_
      refine w8 (List.nodup_cons.mp nd2) fun nd3 nd4 => ?_
      refine ⟨nTI I (.head _), nTO, nTI TO (.tail _ (.head _)), fun x m q => nd1 (.tail _ (q ▸ mj x m)), fun x m q => nTI x.J (.tail _ (.tail _ (mj x m))) q.symm, fun x m q => nd3 (q ▸ mj x m), fun x m => nT x m I (.head _), fun x m => nT x m TO (.tail _ (.head _)), fun x m y my => nT x m y.J (.tail _ (.tail _ (mj y my))), by refine rwm (ej) ?_; exact nd4⟩
    induction o₁ using Option.casesOn with
    | none =>
      clear h qs
      (revert h2; refine sm_r fun zz => ?_; subst zz)
      obtain ⟨scs, vals, j₀, x₀, m1, m2, m3, m4, m5, m6⟩ := SrRs.go0 R ss h1
      have ll : scs.length = Js.length := by (refine rwl (m1) ?_; rw [List.length_map])
      have em : (scs.map fun x => Value.ref x.J) = Js.map Value.ref := by (refine rwl (m1) ?_; refine rwm (List.map_map) ?_); rfl
      refine zip_pyEnd hh (apart scs m1 m2) a (by refine rwm (em) ?_; exact b.1) c (d.trans ll.symm) (by omega) (fun x m => (m2 x m).1) m3 m4 m5 m6 fun h' hk hto => ?_
      have kp : ∀ c o, c ∉ I :: TO :: Js → s.heap.get? c = some o → h'.get? c = some o := fun c o n z => hk c o (fun q => n (by refine rwm (q) ?_; exact .head _)) (fun q => n (by refine rwm (q) ?_; exact .tail _ (.head _))) (fun x m q => n (by (refine rwm (q) ?_; refine rwl (m1) ?_); exact .tail _ (.tail _ (List.mem_map_of_mem m)))) z
      refine qn rfl h' kp (its_step (tk := s.toks) R Sd lo kp fun y my ymt => ?_)
      rcases mc my with rfl | my
      · exact absurd ymt (nm _ (.head _))
      · rcases mc my with rfl | my
        · exact hto
        · exact absurd ymt (nm y (.tail _ my))
    | some p =>
      obtain ⟨vs, is'⟩ := p
      clear h qn
      (revert h2; refine sm_r fun zz => ?_; subst zz)
      obtain ⟨scs, vals, m1, m2, m3, m4, m5, m6⟩ := SrRs.go1 R ss h1
      have ll : scs.length = Js.length := by (refine rwl (m1) ?_; rw [List.length_map])
      have em : (scs.map fun x => Value.ref x.J) = Js.map Value.ref := by (refine rwl (m1) ?_; refine rwm (List.map_map) ?_); rfl
      have D := apart scs m1 m2
      refine zip_pyItem D a (by refine rwm (em) ?_; exact b.1) c (d.trans ll.symm) (fun q => ne (by (refine rwl (m1) ?_; refine rwm (q) ?_); rfl)) (by omega) (fun x m => (m2 x m).1) m3 m4 fun h' z1 z2 z3 z4 z5 => qs _ _ rfl _ _ fun fin => ?_
      clear qs
      induction t using Expr.casesOn with
      | Tuple elts kk pos =>
        refine wpAny_letOwnedTupleGo_zip z1 fun h₂ c1 c2 => ?_
        have nT : s.heap.objs.size ≠ I := fun q => by have a : s.heap.get? I = _ := a; rw [← q, get_size_none] at a; exact nsx a
        have kp : ∀ c o, c ∉ I :: TO :: Js → s.heap.get? c = some o → h₂.get? c = some o := fun c o n z => (c2.2 c fun q => n (by refine rwm (q) ?_; exact .head _)).trans
          (z5 c o (fun q => n (by refine rwm (q) ?_; exact .head _)) (fun q => n (by refine rwm (q) ?_; exact .tail _ (.head _))) (fun x m q => n (by (refine rwm (q) ?_; refine rwl (m1) ?_); exact .tail _ (.tail _ (List.mem_map_of_mem m)))) z)
        have na : ∀ x ∈ scs, x.next.At h₂ := fun x m => Sc.keep (z3 x m) (fun o z => (c2.2 _ (D.Jz x m)).trans z) (fun o z => (c2.2 _ (D.Tz x m)).trans z)
        revert z2
        intro zz0
        refine w5 zz0 fun n₂ z2 => ?_
        clear zz0
        have z2' : h₂.get? TO = some { cls := .type "tuple", data := .seq vals.toArray n₂ } := (c2.2 _ D.TOz).trans z2
        have lv : ∀ b ∈ I :: TO :: Js, ∃ o, h₂.get? b = some o := fun b mb => by
          rcases mc mb with rfl | mb
          · exact ⟨_, c1⟩
          · rcases mc mb with rfl | mb
            · exact ⟨_, z2'⟩
            · rw [← m1] at mb
              refine w6 (List.mem_map.mp mb) fun x mx zz1 => ?_
              clear mb
              subst zz1
              refine w6 (Sc.obj (na x mx)) fun o e _ => ?_
              exact ⟨o, e⟩
        have zt : Fz W h₂ s.heap.objs.size { cls := .type "tuple", data := .seq vals.toArray } := ⟨(c2.2 _ nT).trans z4, (fun mt => by refine w5 (R.live _ mt) fun o z => ?_; rw [get_size_none] at z; exact nsx z), rfl⟩
        refine fin { s with heap := h₂ } (its_go (tk := s.toks) kp lv) (its_step (tk := s.toks) R Sd lo kp fun b mb _ => lv b mb) (.tup (n := 0) zt ?_ (its_vrs lo kp m5))
          (.zip c1 (its_fz lo kp b) z2' (by (refine rwm (List.size_toArray) ?_; refine rwm (m3) ?_; exact rwm (ll) rfl)) mt ne hl (m6 h₂ na (fun r => its_vrs lo kp r) (fun z => its_fz lo kp z)) nm)
        (refine rwl (VRs.length m5) ?_; refine rwm (m3) ?_; refine rwm (ll) ?_); exact hl
      | _ => exact ftx ht
theorem srcOf_cases (e : Expr) : ((vCN0 e).map (·.1) = none ∧ srcOf e ρ = .plain e) ∨ ∃ x args p r, e = .Call (.Name x p) args [] r ∧ srcOf e ρ = (match isBuiltin x "zip" ρ with
    | true => .zip args
    | false => match args with
      | [a] => match isBuiltin x "enumerate" ρ with
        | true => .enu a
        | false => .plain e
      | _ => .plain e) := by
  unfold srcOf
  induction q : (vCN0 e).map (·.1) using Option.casesOn with
  | none => exact .inl ⟨rfl, rfl⟩
  | some v =>
    obtain ⟨p, r, e1⟩ := view_some q
    exact .inr ⟨v.1, v.2, p, r, e1, rfl⟩
theorem srcOf_zip {e : Expr} {l : List Expr} (h : srcOf e ρ = .zip l) : ∃ x p q, e = .Call (.Name x p) l [] q ∧ isBuiltin x "zip" ρ = true := by
  rcases srcOf_cases (ρ := ρ) e with ⟨_, k⟩ | ⟨x, args, p, r, e1, k⟩
  · exact nomatch h.symm.trans k
  · replace k := h.symm.trans k
    induction z : isBuiltin x "zip" ρ using Bool.casesOn with
    | true => rw [z] at k; injection k with k; subst k; exact ⟨x, p, r, e1, z⟩
    | false =>
      rw [z] at k
      match args with
      | [a] => induction w : isBuiltin x "enumerate" ρ using Bool.casesOn <;> (rw [w] at k; exact nomatch k)
      | [] => exact nomatch k
      | _ :: _ :: _ => exact nomatch k
theorem srcOf_enu {e a : Expr} (h : srcOf e ρ = .enu a) : ∃ x p q, e = .Call (.Name x p) [a] [] q ∧ isBuiltin x "enumerate" ρ = true := by
  rcases srcOf_cases (ρ := ρ) e with ⟨_, k⟩ | ⟨x, args, p, r, e1, k⟩
  · exact nomatch h.symm.trans k
  · replace k := h.symm.trans k
    induction z : isBuiltin x "zip" ρ using Bool.casesOn with
    | true => rw [z] at k; exact nomatch k
    | false =>
      rw [z] at k
      match args with
      | [b] =>
        induction w : isBuiltin x "enumerate" ρ using Bool.casesOn with
        | true => rw [w] at k; injection k with k; subst k; exact ⟨x, p, r, e1, w⟩
        | false => rw [w] at k; exact nomatch k
      | [] => exact nomatch k
      | _ :: _ :: _ => exact nomatch k
theorem srcOf_plain {e a : Expr} (h : srcOf e ρ = .plain a) : a = e := by
  rcases srcOf_cases (ρ := ρ) e with ⟨_, k⟩ | ⟨x, args, p, r, e1, k⟩
  · replace k := h.symm.trans k
    injection k
  · replace k := h.symm.trans k
    clear e1
    induction z : isBuiltin x "zip" ρ using Bool.casesOn with
    | true => rw [z] at k; exact nomatch k
    | false =>
      rw [z] at k
      match args with
      | [b] =>
        induction w : isBuiltin x "enumerate" ρ using Bool.casesOn with
        | true => rw [w] at k; exact nomatch k
        | false => rw [w] at k; injection k
      | [] => injection k
      | _ :: _ :: _ => injection k
theorem isBuiltin_ok {x b : Str} (h : isBuiltin x b ρ = true) : x = b ∧ look x ρ.vars = none ∧ ρ.names.lookup x = some .globalImplicit := by
  unfold isBuiltin at h
  induction q : sq x b using Bool.casesOn with
  | false => rw [q] at h; exact ftx h
  | true =>
    rw [q] at h
    induction hl : look x ρ.vars using Option.casesOn with
    | some v => rw [hl] at h; exact ftx h
    | none =>
      rw [hl] at h
      refine ⟨of_sq q, rfl, ?_⟩
      have h : isGlob x ρ = true := h
      unfold isGlob at h
      split at h
      · assumption
      · exact ftx h
theorem box_of {v : V} {vv : Value} {it : It} (R : StR C W σ s) (x : VR C.toCx W s.heap v vv) (h : toItS v = some it) : ∃ T arr tup, vv = .ref T ∧ Box s.heap T arr tup ∧ (T ∈ W.adr ∨ ¬ Loose W s.heap T) ∧
    ∀ (W' : Wd) (h' : Heap) (J : Addr), (Sc.mk J T arr 0 tup).At h' → VR C.toCx W' h' v vv → SrR C.toCx W' h' it J 0 := by
  induction v using V.casesOn with
  | tup l =>
    (revert h; refine sm_r fun zz => ?_; subst zz)
    replace x := x.inv
    refine W6 x fun a m vs z b rs zz1 => ?_
    clear x
    subst zz1
    refine (X7 a vs.toArray true rfl (Y5 _ z.1 rfl _ rfl) (.inr z.not) (fun W' h' J at' x' => ?_))
    have e1 := at'.2
    replace x' := x'.inv
    refine W6 x' fun _ m' vs' z' b' rs' q => ?_
    clear x'
    obtain rfl := Value.ref.inj q
    refine wi3 e1 fun o e c n'' d => ?_
    clear e1
    have z1 : h'.get? a = some { cls := .type "tuple", data := .seq vs'.toArray m' } := z'.1
    rw [e] at z1; (revert z1; refine sm_r fun zz => ?_; subst zz)
    clear c e
    cases d
    exact (Z1 a _ m' l at'.1 z' rs' rfl)
  | lst i =>
    (revert h; refine sm_r fun zz => ?_; subst zz)
    replace x := x.inv
    refine w6 x fun a ha zz1 => ?_
    clear x
    subst zz1
    refine w5 (R.lists a (List.mem_of_getElem? ha)) fun its p => ?_
    refine (X7 a its false rfl p.isList (.inl (List.mem_of_getElem? ha)) (fun W' h' J at' x' => ?_))
    replace x' := x'.inv
    refine w6 x' fun _ ha' q => ?_
    clear x'
    obtain rfl := Value.ref.inj q
    exact (Z2 rfl a at'.1 ha')
  | _ => exact nsx h
structure Fresh (s : Shared) (its : List Addr) : Prop where
  fr : ∀ b ∈ its, s.heap.get? b = none
noncomputable def Begun (C : Cy) (A : Around) (own : List Addr) (W : Wd) (s : Shared) (σ' : St) (it : It) (Q : Value → Shared → Prop) : Prop :=
  ∀ W' s' its I, (∀ b ∈ its, s.heap.get? b = none) → Go C A [] W s W' s' → StR C W' σ' s' → ItR C.toCx W' s'.heap it its I → Side C A W' own its → Q (.ref I) s'
theorem side_fresh (R : StR C W σ s) (F : FmR C A W s.heap) (ho : ∀ b, b ∈ own → b ∈ W.mt) (nd : its.Nodup) (fr : ∀ b ∈ its, s.heap.get? b = none) (W' : Wd) (ha : W'.adr = W.adr) : Side C A W' own its := by
  have live : ∀ b, b ∈ W.mt → b ∉ its := fun b m q => by refine w5 (R.live b m) fun o e => ?_; rw [fr b q] at e; exact nsx e
  refine ⟨nd, fun b m q => live b (R.adr b (ha ▸ q)) m, fun b m q => live b (R.tabs b q) m, fun b m q => live b (ho b q) m, fun b m q => live b (F.onStk q).1 m, fun b m => ?_⟩
  induction z : C.h₀.get? b using Option.casesOn with
  | none => rfl
  | some o => have := R.ground b o z; rw [fr b m] at this; exact nsx this
theorem range_small {k : Nat} (h : k < 1000000) : Builtin.Range.small 0 (k : Int) 1 = true := by
  unfold Builtin.Range.small
  have e : Builtin.Range.rangeSize 0 (k : Int) 1 = (k : Int) := by refine rwm (rangeSize_nat ..) ?_; omega
  refine rwm (e) ?_
  unfold Builtin.Range.rangeFitsLong
  have h2 : (2 : Int) ^ 63 = 9223372036854775808 := by decide
  simp only [h2]
  have h1 : (1 : Int) > 0 := by omega
  simp only [h1, if_true]
  simp only [Bool.and_eq_true, decide_eq_true_eq, Bool.or_eq_true]
  refine ⟨⟨⟨⟨?_, ?_⟩, ?_⟩, ?_⟩, .inr ?_⟩ <;> omega
theorem iter_ok {v : V} {vv : Value} {it : It} {Q : Value → Shared → Prop} (R : StR C W σ s) (F : FmR C A W s.heap) (ho : ∀ b, b ∈ own → b ∈ W.mt) (x : VR C.toCx W s.heap v vv) (h : toIt v = some it) (q : Begun C A own W s σ it Q) : wpAny C.M A (pyIter vv) Q E s := by
  have simple : toItS v = some it → wpAny C.M A (pyIter vv) Q E s := by
    intro h
    refine W6 (box_of R x h) fun T arr tup zz1 bx tc back => ?_
    subst zz1
    refine pyIter_box bx ?_
    have kp := push_keeps s.heap (boxIter T tup)
    have fr : ∀ b ∈ [s.heap.objs.size], s.heap.get? b = none := fun b m => by refine rwm (List.mem_singleton.mp m) ?_; exact get_size_none _
    have x' : VR C.toCx W (s.heap.push (boxIter T tup)) v (.ref T) := x.mono (.refl _ _) (.of (fun _ => False) (fun _ => False) fun b o e _ => kp b o e) (fun _ t => t.elim) (fun _ t => t.elim)
    have nm : s.heap.objs.size ∉ W.mt := fun m => by refine w5 (R.live _ m) fun o e => ?_; rw [get_size_none] at e; exact nsx e
    exact q W _ [s.heap.objs.size] s.heap.objs.size fr (Go.grow (tk := s.toks) kp) (R.grow (tk := s.toks) kp) (.src (back W _ _ (Box.at (Box.push bx _) (Heap.get?_push_size _ (by unfold boxIter; rfl))) x') nm) (side_fresh R F ho (by simp) fr W rfl)
  induction v using V.casesOn with
  | rng k =>
    have h : (match Nat.blt k 1000000 with | true => some (It.rng 0 k) | false => none) = some it := h
    induction z : Nat.blt k 1000000 using Bool.casesOn with
    | false => rw [z] at h; exact nsx h
    | true =>
      rw [z] at h; (revert h; refine sm_r fun zz => ?_; subst zz)
      have hk : k < 1000000 := Nat.le_of_ble_eq_true z
      replace x := x.inv
      refine Y3 x fun _ _ _ _ fz zz1 => ?_
      clear x
      clear simple
      subst zz1
      refine PySem.wpAny_pyIter_range fz.1 (range_small hk) ?_
      have e : Builtin.Range.rangeSize 0 (k : Int) 1 = ((k - 0 : Nat) : Int) := by refine rwm (rangeSize_nat ..) ?_; omega
      refine rwm (e) ?_
      have kp := push_keeps s.heap { cls := .type "range_iterator", data := .fields #[rawInt 0, rawInt ((k - 0 : Nat) : Int), rawInt 1] }
      have fr : ∀ b ∈ [s.heap.objs.size], s.heap.get? b = none := fun b m => by refine rwm (List.mem_singleton.mp m) ?_; exact get_size_none _
      have nm : s.heap.objs.size ∉ W.mt := fun m => by refine w5 (R.live _ m) fun o e => ?_; rw [get_size_none] at e; exact nsx e
      exact q W _ [s.heap.objs.size] s.heap.objs.size fr (Go.grow (tk := s.toks) kp) (R.grow (tk := s.toks) kp) (.rng (Heap.get?_push_size _ rfl) nm) (side_fresh R F ho (by simp) fr W rfl)
  | tup l => exact simple h
  | lst i => exact simple h
  | _ => exact nsx h
theorem boxes_of (R : StR C W σ s) : ∀ {vs : List V} {vals : List Value} {is : List It}, VRs C.toCx W s.heap vs vals → toIts vs = some is →
    ∃ ls : List (Addr × Array Value × Bool), vals = ls.map (fun x => Value.ref x.1) ∧ (∀ x ∈ ls, Box s.heap x.1 x.2.1 x.2.2) ∧
      ∀ (W' : Wd) (h' : Heap) (scs : List Sc), scs.map (fun x => (x.T, x.arr, x.tup)) = ls → (∀ x ∈ scs, x.At h' ∧ x.k = 0) → VRs C.toCx W' h' vs vals → SrRs C.toCx W' h' is (scs.map (·.J))
  | _, _, _, .nil, h => by
    (revert h; refine sm_r fun zz => ?_; subst zz)
    refine (W4 [] rfl (fun _ m => (nomatch m)) (fun W' h' scs e _ _ => ?_))
    induction scs using List.casesOn with
    | nil => exact .nil
    | cons => exact (nomatch e)
  | v :: vs, _ :: vals, is, .cons a b, h => by
    refine bd_e (show (bd (toItS v) fun i => bd (toIts vs) fun is => some (i :: is)) = some is from h) fun i h1 h => ?_
    refine bd_e h fun is' h2 h => ?_
    (revert h; refine sm_r fun zz => ?_; subst zz)
    refine W6 (box_of R a h1) fun T arr tup zz1 bx _ back => ?_
    subst zz1
    refine W3 (boxes_of R b h2) fun ls zz1 bxs backs => ?_
    clear b
    subst zz1
    refine (W4 ((T, arr, tup) :: ls) rfl (fun x m => ?_) (fun W' h' scs e hs xs => ?_))
    · rcases mc m with rfl | m
      · exact bx
      · exact bxs x m
    · induction scs using List.casesOn with
      | nil => exact (nomatch e)
      | cons y scs =>
        cases xs with
        | cons xa xb =>
          obtain ⟨J, T', arr', k, tup'⟩ := y
          refine w8 (List.cons.inj e) fun e1 e2 => ?_
          first | (obtain ⟨rfl, rfl⟩ := Prod.mk.inj e1) | cases e1
          refine w8 (hs _ (.head _)) fun at' hk => ?_
          have hk : k = 0 := hk
          clear a bx e
          subst hk
          exact .cons (back W' h' J at' xa) (backs W' h' scs e2 (fun x m => hs x (.tail _ m)) xb)
theorem zip_made {vs : List V} {vals : List Value} {is : List It} {ls : List (Addr × Array Value × Bool)} {h' : Heap} {z : Addr} {Q : Value → Shared → Prop} (R : StR C W σ s) (F : FmR C A W s.heap) (ho : ∀ b, b ∈ own → b ∈ W.mt) (xs : VRs C.toCx W s.heap vs vals) (hls : ls ≠ []) (hll : ls.length ≤ 1000)
    (back : ∀ (W' : Wd) (h' : Heap) (scs : List Sc), scs.map (fun x => (x.T, x.arr, x.tup)) = ls → (∀ x ∈ scs, x.At h' ∧ x.k = 0) → VRs C.toCx W' h' vs vals → SrRs C.toCx W' h' is (scs.map (·.J)))
    (zm : ZipMade s ls h' z) (q : Begun C A own W s σ (.zip is) Q) : Q (.ref z) { s with heap := h' } := by
  obtain ⟨TI, TO, scs, m1, m2, ⟨arr, m3, m4⟩, m5, m6, m7, m8, m9, m10, m11, m12, m13, m14, kp⟩ := zm
  have fresh : ∀ {b : Addr}, s.heap.objs.size ≤ b → s.heap.get? b = none := by
    intro b h
    induction z : s.heap.get? b using Option.casesOn with
    | none => rfl
    | some o => exact absurd (Heap.lt_size z) (Nat.not_lt.mpr h)
  have fr : ∀ b ∈ z :: TO :: scs.map (·.J), s.heap.get? b = none := fun b m => by
    rcases mc m with rfl | m
    · exact fresh m8
    · rcases mc m with rfl | m
      · exact fresh m10
      · (refine w6 (List.mem_map.mp m) fun x mx zz1 => ?_; clear m; subst zz1)
        exact fresh (m6 x mx).2.2
  have nmt : ∀ {b : Addr}, s.heap.get? b = none → b ∉ W.mt := fun e m => by refine w5 (R.live _ m) fun o e' => ?_; rw [e] at e'; exact nsx e'
  have le : W.Le s.heap ⟨W.adr, W.syms, TO :: W.mt⟩ := ⟨List.prefix_refl _, List.prefix_refl _, fun b m => .tail _ m, fun b m => by
    rcases mc m with rfl | m
    · exact .inr (fresh m10)
    · exact .inl m, fun b m => .inl m⟩
  have kk : Keep (fun _ => False) (fun _ => False) s.heap h' := .of _ _ fun b o e _ => kp b o e
  have R' : StR C ⟨W.adr, W.syms, TO :: W.mt⟩ σ { s with heap := h' } := R.move (tk := s.toks) le rfl rfl kk (fun _ t => t.elim) (fun _ t => t.elim) (fun b m => by
    rcases mc m with rfl | m
    · exact .inr ⟨_, m3⟩
    · exact .inl ⟨m, id⟩)
  have xs' : VRs C.toCx ⟨W.adr, W.syms, TO :: W.mt⟩ h' vs vals := xs.mono le kk (fun _ t => t.elim) (fun _ t => t.elim)
  have nd : (z :: TO :: scs.map (·.J)).Nodup := by
    refine List.nodup_cons.mpr ⟨fun m => ?_, List.nodup_cons.mpr ⟨fun m => ?_, m7⟩⟩
    · rcases List.mem_cons.mp m with e | m
      · exact m12 e.symm
      · refine w6 (List.mem_map.mp m) fun x mx e => ?_
        exact (m14 x mx).1 e
    · refine w6 (List.mem_map.mp m) fun x mx e => ?_
      exact (m14 x mx).2.2 e
  refine q ⟨W.adr, W.syms, TO :: W.mt⟩ _ (z :: TO :: scs.map (·.J)) z fr ⟨le, .of _ _ fun b o e _ => kp b o e, fun b o e => ⟨o, kp b o e⟩, rfl⟩ R' ?_ (side_fresh R F ho nd fr ⟨W.adr, W.syms, TO :: W.mt⟩ rfl)
  have em : (scs.map fun x => Value.ref x.J) = (scs.map (·.J)).map Value.ref := by refine rwm (List.map_map) ?_; rfl
  refine .zip m1 ⟨by refine rwl (em) ?_; exact m2, fun m => ?_, rfl⟩ m3 (by refine rwm (List.length_map ..) ?_; exact m4) (.head _) (fun e => ?_) ?_ (back _ _ scs m5 (fun x m => ⟨(m6 x m).1, (m6 x m).2.1⟩) xs') (fun b m mt => ?_)
  · rcases List.mem_cons.mp m with e | m
    · exact m13 e
    · exact nmt (fresh m9) m
  · rw [List.map_eq_nil_iff] at e; clear em fr m14 m2 m4 m6 m7 nd; subst e; exact hls m5.symm
  · (refine rwm (List.length_map ..) ?_; refine rwl (List.length_map (f := fun x : Sc => (x.T, x.arr, x.tup))) ?_; refine rwm (m5) ?_); exact hll
  · rcases List.mem_cons.mp mt with e | mt
    · clear R' fr le m1 m10 m13 m3 mt nd xs'
      subst e
      rcases List.mem_cons.mp m with e | m
      · exact m12 e
      · refine w6 (List.mem_map.mp m) fun x mx e => ?_
        exact (m14 x mx).2.2 e
    · refine nmt (fr b ?_) mt
      rcases mc m with rfl | m
      · exact .head _
      · exact .tail _ (.tail _ m)
theorem Begun.after {it : It} {Q : Value → Shared → Prop} (q : Begun C A own W s σ' it Q) (g : Go C A [] W s W₁ s₁) : Begun C A own W₁ s₁ σ' it Q := fun W' s' its I fr g' R' x Sd => q W' s' its I (fun b m => by
  induction z : s.heap.get? b using Option.casesOn with
  | none => rfl
  | some o =>
    refine w5 (g.live b o z) fun o' e => ?_
    rw [fr b m] at e; exact nsx e) (g.trans g') R' x Sd
theorem iterE_ok (G : Gr C X) (H : OkE C r n) (hr : Room A n) {e : Expr} {it : It} {own₂ : List Addr} {Q : Value → Shared → Prop} (h : iterE r e ρ σ = some (it, σ')) (F : FrR C A W env own ρ s.heap) (R : StR C W σ s) (ho₂ : ∀ b, b ∈ own₂ → b ∈ W.mt) (q : Begun C A own₂ W s σ' it Q) :
    isSet e = false ∧ wpAny C.M A (eval e env) (fun x s₁ => wpAny C.M A (pyIter x) Q E s₁) E s := by
  unfold iterE at h
  induction hse : isSet e using Bool.casesOn with
  | true => rw [hse] at h; exact nsx h
  | false =>
    rw [hse] at h
    refine ⟨rfl, ?_⟩
    have typed : ∀ {x : Str} {t : String} {p pos : Pos} {es : List Expr} {vs : List V} {σ₁ : St} {Q : Value → Shared → Prop}, ((x = "zip" ∧ t = "zip") ∨ (x = "enumerate" ∧ t = "enumerate") ∨ (x = "list" ∧ t = "list")) → ρ.names.lookup x = some .globalImplicit → (x == ("__debug__" : Str)) = false →
        evL r es ρ σ = some (vs, σ₁) → (∀ W₁ s₁ vals, Go C A [] W s W₁ s₁ → StR C W₁ σ₁ s₁ → VRs C.toCx W₁ s₁.heap vs vals → wpAny C.M A (call (.type t) vals) Q E s₁) → wpAny C.M A (eval (.Call (.Name x p) es [] pos) env) Q E s := by
      intro x t p pos es vs σ₁ Q ht hn hd h1 k
      refine Call_ (wpAny_Name (G.types ht R F.kind (F.nmG x hn) F.glob F.blt ?_) hd) rfl
      refine w8 (starEach_plain (env := env) (pos := pos) (evL_star h1)) fun hp _ => ?_
      refine callWith_of (P := fun h => Kept C h (.type t)) (by refine rwm (hp) ?_; rfl) (fun _ k => k) ?_
      have kept : ∀ h, Kept C h (.type t) := fun h => (w7 .machine (.inr (.inl rfl)) .now)
      clear hp
      induction es using List.casesOn with
      | nil =>
        (first | (obtain ⟨rfl, rfl, rfl⟩ := sp3 h1) | (obtain ⟨rfl, rfl⟩ := sp h1) | cases h1)
        refine evalArgs_nil3 ?_
        exact ⟨kept _, k W s [] (.refl ..) R .nil⟩
      | cons e es =>
        have hs := evL_star h1 e (.head _)
        have := evL_ok (E := E) H hr (pos := pos) (Q := fun vs' s₁ => Kept C s₁.heap (.type t) ∧ wpAny C.M A (call (.type t) ([] ++ vs')) Q E s₁) h1 F R fun W₁ s₁ vs' g R₁ xv => ⟨kept _, k W₁ s₁ vs' g R₁ xv⟩
        rw [starEach_cons hs] at this ⊢
        exact Calls.evalArgs_plain this
    induction hs : srcOf e ρ using Src.casesOn with
    | zip l =>
      rw [hs] at h
      refine y9 (srcOf_zip hs) fun x p pos zz1 hb => ?_
      subst zz1
      refine W2 (isBuiltin_ok hb) fun zz1 _ hn => ?_
      clear hb hs hse
      subst zz1
      have h : (match few23 l.length with | true => bd (evL r l ρ σ) fun p => bd (toIts p.1) fun is => some (It.zip is, p.2) | false => none) = some (it, σ') := h
      induction hf : few23 l.length using Bool.casesOn with
      | false => rw [hf] at h; exact nsx h
      | true =>
        rw [hf] at h
        revert h
        refine bd_r2 fun vs σ₁ h1 h => ?_
        refine bd_e h fun is h2 h => ?_
        (revert q; (first | refine sp3_g h ?_ | refine sp_g h ?_); intro q)
        refine typed (.inl ⟨rfl, rfl⟩) hn (by decide +kernel) h1 fun W₁ s₁ vals g R₁ xv => ?_
        refine W3 (boxes_of R₁ xv h2) fun ls zz1 bxs back => ?_
        subst zz1
        have F₁ := F.mono R g
        have fin : ∀ h' z, ls ≠ [] → ls.length ≤ 1000 → ZipMade s₁ ls h' z → wpAny C.M A (pyIter (.ref z)) Q E { s₁ with heap := h' } := fun h' z ne hl zm => by
          have iz : ∃ TI TO, IsZip h' z TI TO .none := by (obtain ⟨TI, TO, _, m1⟩ := zm; exact ⟨TI, TO, m1⟩)
          revert iz
          intro zz0
          refine w9 zz0 fun TI TO iz => ?_
          clear zz0
          exact wpAny_pyIter_zip (s := { s₁ with heap := h' }) iz (zip_made R₁ F₁.fm (fun b m => g.le.mt b (ho₂ b m)) xv ne hl back zm (q.after g))
        have len : ls.length = l.length := by
          have e1 := VRs.length xv
          have : ∀ {es : List Expr} {σ : St} {vs : List V} {σ' : St}, evL r es ρ σ = some (vs, σ') → vs.length = es.length := by
            intro es
            induction es with
            | nil => intro σ vs σ' h; (revert q; (first | refine sp3_g h ?_ | refine sp_g h ?_); intro q); rfl
            | cons e es ih =>
              intro σ vs σ' h
              have h : (match isStar e with | true => none | false => bd (r.E e ρ σ) fun p => bd (evL r es ρ p.2) fun q => some (p.1 :: q.1, q.2)) = some (vs, σ') := h
              split at h
              · exact nsx h
              · refine bd_e2 h fun v σ₁ h1 h => ?_
                revert h
                refine bd_r2 fun ws σ₂ h2 h => ?_
                (revert q; (first | refine sp3_g h ?_ | refine sp_g h ?_); intro q)
                (refine rwm (List.length_cons) ?_; refine rwm (List.length_cons) ?_; exact rwm (ih h2) rfl)
          rw [List.length_map] at e1
          (refine rwm (e1) ?_; exact rwm (this h1) rfl)
        unfold few23 at hf
        rcases Bool.or_eq_true_iff.mp hf with hf | hf
        · have hf := Nat.eq_of_beq_eq_true hf
          obtain ⟨a, b, rfl⟩ := len2 (len.trans hf)
          exact call_zip2 (bxs a (.head _)) (bxs b (.tail _ (.head _))) fun h' z zm => fin h' z (by simp) (by simp) zm
        · have hf := Nat.eq_of_beq_eq_true hf
          obtain ⟨a, b, c, rfl⟩ := len3 (len.trans hf)
          exact call_zip3 (bxs a (.head _)) (bxs b (.tail _ (.head _))) (bxs c (.tail _ (.tail _ (.head _)))) fun h' z zm => fin h' z (by simp) (by simp) zm
    | enu a =>
      rw [hs] at h
      refine y9 (srcOf_enu hs) fun x p pos zz1 hb => ?_
      subst zz1
      refine W2 (isBuiltin_ok hb) fun zz1 _ hn => ?_
      clear hb hs hse
      subst zz1
      have h : (match isStar a with | true => none | false => bd (r.E a ρ σ) fun p => bd (toItS p.1) fun i => some (It.enu 0 i, p.2)) = some (it, σ') := h
      induction hst : isStar a using Bool.casesOn with
      | true => rw [hst] at h; exact nsx h
      | false =>
        rw [hst] at h
        revert h
        refine bd_r2 fun v σ₁ h1 h => ?_
        refine bd_e h fun i h2 h => ?_
        (revert q; (first | refine sp3_g h ?_ | refine sp_g h ?_); intro q)
        have hL : evL r [a] ρ σ = some ([v], σ₁) := by
          refine (?_ : (match isStar a with | true => none | false => bd (r.E a ρ σ) fun p => bd (evL r [] ρ p.2) fun q => some (p.1 :: q.1, q.2)) = _)
          (refine rwm (hst) ?_; refine rwm (h1) ?_); rfl
        refine typed (.inr (.inl ⟨rfl, rfl⟩)) hn (by decide +kernel) hL fun W₁ s₁ vals g R₁ xv => ?_
        refine VRs.e1 xv fun va xa => ?_
        · refine W6 (box_of R₁ xa h2) fun T arr tup zz1 bx tc back => ?_
          subst zz1
          refine call_enum bx fun h' ie at' kp => ?_
          refine enum_iter (s := { s₁ with heap := h' }) ie ?_
          have F₁ := F.mono R g
          have fr : ∀ b ∈ [s₁.heap.objs.size + 1, s₁.heap.objs.size], s₁.heap.get? b = none := fun b m => by
            have : s₁.heap.objs.size ≤ b := by
              rcases mc m with rfl | m
              · exact Nat.le_succ _
              · refine rwm (List.mem_singleton.mp m) ?_; exact Nat.le_refl _
            induction z : s₁.heap.get? b using Option.casesOn with
            | none => rfl
            | some o => exact absurd (Heap.lt_size z) (Nat.not_lt.mpr this)
          have x' : VR C.toCx W₁ h' v (.ref T) := xa.mono (.refl _ _) (.of (fun _ => False) (fun _ => False) fun b o e _ => kp b o e) (fun _ t => t.elim) (fun _ t => t.elim)
          refine q W₁ _ [s₁.heap.objs.size + 1, s₁.heap.objs.size] (s₁.heap.objs.size + 1) (fun b m => ?_) (g.trans (Go.grow (tk := s₁.toks) kp)) (R₁.grow (tk := s₁.toks) kp) (.enu (back W₁ h' _ at' x') ie (fun b m mt => ?_)) (side_fresh R₁ F₁.fm (fun b m => g.le.mt b (ho₂ b m)) (by simp) fr W₁ rfl)
          · induction z : s.heap.get? b using Option.casesOn with
            | none => rfl
            | some o => refine w5 (g.live b o z) fun o' e => ?_; rw [fr b m] at e; exact nsx e
          · refine w5 (R₁.live b mt) fun o e => ?_; rw [fr b m] at e; exact nsx e
    | plain e' =>
      rw [hs] at h
      have := srcOf_plain hs
      clear hs hse
      subst this
      refine bd_e2 (show (bd (r.E e' ρ σ) fun p => bd (toIt p.1) fun i => some (i, p.2)) = some (it, σ') from h) fun v σ₁ h1 h => ?_
      refine bd_e h fun i h2 h => ?_
      (revert q; (first | refine sp3_g h ?_ | refine sp_g h ?_); intro q)
      refine H h1 hr F R fun W₁ s₁ v' g R₁ x₁ => ?_
      exact iter_ok R₁ (F.fm.mono0 g) (fun b m => g.le.mt b (ho₂ b m)) x₁ h2 (q.after g)
theorem look_setVar {x y : Str} {v : V} : ∀ {m : List (Str × V)}, look y (setVar x v m) = if y = x then some v else look y m
  | [] => by
    refine (?_ : (match sq x y with | true => some v | false => none) = _)
    by_cases h : y = x
    · subst h; simp [sq_t]
    · have : ¬ x = y := fun e => h e.symm
      simp [h, sq_f this, look]
  | (z, w) :: m => by
    refine (?_ : look y (match sq z x with | true => (x, v) :: m | false => (z, w) :: setVar x v m) = _)
    by_cases hz : z = x
    · subst hz
      refine rwm (sq_t rfl) ?_
      refine (?_ : (match sq z y with | true => some v | false => look y m) = _)
      by_cases h : y = z
      · subst h; simp [sq_t]
      · have : ¬ z = y := fun e => h e.symm
        (refine rwm (sq_f this) ?_; refine rwm (if_neg h) ?_)
        refine (?_ : look y m = (match sq z y with | true => some w | false => look y m))
        exact rwm (sq_f this) rfl
    · refine rwm (sq_f hz) ?_
      refine (?_ : (match sq z y with | true => some w | false => look y (setVar x v m)) = _)
      have ih := look_setVar (x := x) (y := y) (v := v) (m := m)
      by_cases h : z = y
      · clear ih
        subst h
        (refine rwm (sq_t rfl) ?_; refine rwm (if_neg hz) ?_)
        refine (?_ : some w = (match sq z z with | true => some w | false => look z m))
        exact rwm (sq_t rfl) rfl
      · (refine rwm (sq_f h) ?_; refine rwm (ih) ?_)
        refine (?_ : (if y = x then some v else look y m) = (if y = x then some v else (match sq z y with | true => some w | false => look y m)))
        exact rwm (sq_f h) rfl
theorem bind1_some {names : List (Str × NameKind)} {pars : List Str} {x : Str} {v : V} {m m' : List (Str × V)} (h : bind1 names pars x v m = some m') : m' = setVar x v m ∧ (names.lookup x = some .local ∨ (names.lookup x = some .cell ∧ x ∉ pars)) := by
  unfold bind1 at h
  induction q : stores names pars x using Bool.casesOn with
  | false => rw [q] at h; exact nsx h
  | true =>
    rw [q] at h; (revert h; refine sm_r fun zz => ?_; subst zz)
    refine ⟨rfl, ?_⟩
    unfold stores at q
    split at q
    · rename_i e; exact .inl e
    · rename_i e
      refine .inr ⟨e, fun mm => ?_⟩
      have : pars.contains x = true := by simpa using mm
      rw [this] at q; exact ftx q
    · exact ftx q
theorem own_step {a : Addr} {h' : Heap} {tk : Nat} (R : StR C W σ s) (mt : a ∈ W.mt) (na : a ∉ W.adr) (nt : a ∉ C.tabs) (sb : Heap.SameBut a s.heap h') (lv : ∃ o, h'.get? a = some o) : StR C W σ { s with heap := h', toks := tk } :=
  R.move (S := (· = a)) (P := fun _ => False) (.refl _ _) rfl rfl (.of _ _ fun b o e n => (sb.2 b n).trans e) (fun b t => by clear lv sb; subst t; exact (X9 (.inl mt) na nt (R.fresh _ mt))) (fun _ t => t.elim)
    (fun b m => by
      by_cases q : b = a
      · clear mt na nt sb
        subst q; exact .inr lv
      · exact .inl ⟨m, q⟩)
theorem own_go {a : Addr} {h' : Heap} {tk : Nat} (m : a ∈ own) (sb : Heap.SameBut a s.heap h') (lv : ∃ o, h'.get? a = some o) : Go C A own W s W { s with heap := h', toks := tk } :=
  ⟨.refl _ _, .of _ _ fun b o e n => (sb.2 b fun q => n (.inr (.inr (q ▸ m)))).trans e, fun b o e => by
    by_cases q : b = a
    · clear m sb
      subst q; exact lv
    · exact ⟨o, (sb.2 b q).trans e⟩, rfl⟩
theorem own_vr {a : Addr} {h' : Heap} (mt : a ∈ W.mt) (sb : Heap.SameBut a s.heap h') {d : V} {v : Value} (x : VR C.toCx W s.heap d v) : VR C.toCx W h' d v :=
  x.mono (S := (· = a)) (P := fun _ => False) (.refl _ _) (.of _ _ fun b o e n => (sb.2 b n).trans e) (fun b t => by clear sb; subst t; exact .inl mt) (fun _ t => t.elim)
theorem store_ok {x : Str} {v : V} {vv : Value} {m m' : List (Str × V)} {Q : Unit → Shared → Prop} (h : bind1 ρ.names ρ.pars x v m = some m') (F : FrR C A W env own (ρ.at m) s.heap) (R : StR C W σ s) (xv : VR C.toCx W s.heap v vv)
    (q : ∀ s', Go C A own W s W s' → StR C W σ s' → FrR C A W env own (ρ.at m') s'.heap → Q () s') : wpAny C.M A (storeName env x vv) Q E s := by
  refine w8 (bind1_some h) fun zz1 hk => ?_
  subst zz1
  refine w6 (F.ns) fun mm hm hv => ?_
  have nCell : ∀ {c : Addr} {o : Option Value}, s.heap.IsCell c o → c ≠ env.locals := fun hc q => by
    refine w6 hc fun o1 e1 d1 => ?_
    clear hc
    refine W5 hm fun o2 es ep e2 d2 _ => ?_
    clear hm
    rw [q, e2] at e1; clear e2; cases e1
    rw [d2] at d1; exact (nomatch d1)
  rcases hk with hk | ⟨hk, hp⟩
  · have kl := (F.nmL x).mp hk
    have mL := F.ownMt _ F.L
    refine w8 (F.ownAp _ F.L) fun aL tL => ?_
    refine wpAny_storeName_local kl hm (fun h' hn sb => ?_) (by refine rwm (F.kind) ?_; rfl)
    have lv : ∃ o, h'.get? env.locals = some o := by (refine y9 hn fun o _ _ e _ => ?_; clear hn); exact ⟨o, e⟩
    have g : Go C A own W s W { s with heap := h', toks := s.toks + 1 } := own_go F.L sb lv
    have vr : ∀ {d : V} {v : Value}, VR C.toCx W s.heap d v → VR C.toCx W h' d v := fun x => own_vr mL sb x
    refine q _ g (own_step R mL aL tL sb lv) ⟨F.fm.mono g fun b mb st => ?_, F.kind, F.glob, F.blt, F.frame, F.code, F.ownMt, F.ownAp, F.ownStk, F.L, F.nmG, F.nmL, fun y hy hp => ?_, (w7 _ hn (fun y w hy hk' => ?_)), fun y w hy hk' => ?_, F.apart⟩
    · refine rwm (F.ownStk b mb st) ?_; exact ⟨_, hn⟩
    · refine z0 (F.nmC y hy hp) fun k c ov h1 h2 h3 => ?_
      exact (W1 k c ov h1 h2 (h3.sameBut sb (nCell h3)))
    · have hy : look y (setVar x v m) = some w := hy
      rw [look_setVar] at hy
      by_cases e : y = x
      · rw [if_pos e] at hy; (revert hy; refine sm_r fun zz => ?_; clear hy; subst zz)
        exact (w7 vv (by exact rwm (if_pos e) rfl) (vr xv))
      · rw [if_neg e] at hy
        refine w6 (hv y w hy hk') fun v' e' xr => ?_
        exact (w7 v' (by refine rwm (if_neg e) ?_; exact e') (vr xr))
    · have hy : look y (setVar x v m) = some w := hy
      rw [look_setVar] at hy
      by_cases e : y = x
      · clear h hk hn hy q
        subst e; exact absurd kl hk'
      · rw [if_neg e] at hy
        refine X4 (F.cells y w hy hk') fun k c v' h1 h2 h3 h4 => ?_
        exact (W7 k c v' h1 (h2.sameBut sb (nCell h2)) (vr h3) h4)
  · refine z0 (F.nmC x hk hp) fun kc c ov hc mc hic => ?_
    have mC := F.ownMt _ mc
    refine w8 (F.ownAp _ mc) fun aC tC => ?_
    refine wpAny_storeName_cell F.kind kc hc hic fun h' hn sb => ?_
    have lv : ∃ o, h'.get? c = some o := by (refine w6 hn fun o e _ => ?_; clear hn); exact ⟨o, e⟩
    have g : Go C A own W s W { s with heap := h' } := own_go (tk := s.toks) mc sb lv
    have vr : ∀ {d : V} {v : Value}, VR C.toCx W s.heap d v → VR C.toCx W h' d v := fun x => own_vr mC sb x
    have hm' : h'.Ns env.locals mm := hm.sameBut sb (fun q => nCell hic q.symm)
    have other : ∀ {y : Str} {c' : Addr}, y ≠ x → env.cells.lookup y = some c' → c' ≠ c := fun ne h1 q => by
      clear aC hic hn lv mC mc sb tC
      subst q
      exact ne (name_of_addr F.apart (mem_of_lookup h1) (mem_of_lookup hc))
    refine q _ g (own_step (tk := s.toks) R mC aC tC sb lv) ⟨F.fm.mono g fun b mb st => ?_, F.kind, F.glob, F.blt, F.frame, F.code, F.ownMt, F.ownAp, F.ownStk, F.L, F.nmG, F.nmL, fun y hy hp => ?_, (w7 mm hm' (fun y w hy hk' => ?_)), fun y w hy hk' => ?_, F.apart⟩
    · refine rwm (F.ownStk b mb st) ?_; exact ⟨_, hm'⟩
    · refine z0 (F.nmC y hy hp) fun k c' ov' h1 h2 h3 => ?_
      by_cases e : y = x
      · clear h hk hp hy kc other q
        subst e
        rw [hc] at h1; (revert h1; refine sm_r fun zz => ?_; clear h3; subst zz)
        exact (W1 k _ _ hc h2 hn)
      · exact (W1 k c' ov' h1 h2 (h3.sameBut sb (other e h1)))
    · have hy : look y (setVar x v m) = some w := hy
      rw [look_setVar] at hy
      by_cases e : y = x
      · clear h hc hk hp hy other q
        subst e; rw [kc] at hk'; exact (nomatch hk')
      · rw [if_neg e] at hy
        refine w6 (hv y w hy hk') fun v' e' xr => ?_
        exact (w7 v' e' (vr xr))
    · have hy : look y (setVar x v m) = some w := hy
      rw [look_setVar] at hy
      by_cases e : y = x
      · clear h hk other q
        subst e
        rw [if_pos rfl] at hy; (revert hy; refine sm_r fun zz => ?_; clear hy; subst zz)
        exact (W7 (.inl kc) c vv hc hn (vr xv) (fun p => absurd p hp))
      · rw [if_neg e] at hy
        refine X4 (F.cells y w hy hk') fun k c' v' h1 h2 h3 h4 => ?_
        exact (W7 k c' v' h1 (h2.sameBut sb (other e h1)) (vr h3) h4)
end
noncomputable def setAll (l : List (Str × V)) (m : List (Str × V)) : List (Str × V) := l.foldl (fun m p => setVar p.1 p.2 m) m
theorem look_append {y : Str} : ∀ {l l' : List (Str × V)}, look y (l ++ l') = match look y l with | some v => some v | none => look y l'
  | [], _ => rfl
  | (x, v) :: l, l' => by
    refine (?_ : (match sq x y with | true => some v | false => look y (l ++ l')) = (match (match sq x y with | true => some v | false => look y l) with | some v => some v | none => look y l'))
    induction sq x y using Bool.casesOn with
    | true => rfl
    | false => exact look_append
theorem look_cons {x y : Str} {v : V} {l : List (Str × V)} : look y ((x, v) :: l) = if y = x then some v else look y l := by
  refine (?_ : (match sq x y with | true => some v | false => look y l) = _)
  by_cases h : y = x
  · subst h; simp [sq_t]
  · have : ¬ x = y := fun e => h e.symm
    (refine rwm (sq_f this) ?_; exact rwm (if_neg h) rfl)
theorem look_setAll {y : Str} : ∀ {l m : List (Str × V)}, look y (setAll l m) = match look y l.reverse with | some v => some v | none => look y m
  | [], _ => rfl
  | (x, v) :: l, m => by
    refine (?_ : look y (setAll l (setVar x v m)) = _)
    (refine rwm (look_setAll (l := l)) ?_; refine rwm (List.reverse_cons) ?_; refine rwm (look_append) ?_)
    induction look y l.reverse using Option.casesOn with
    | some v => rfl
    | none =>
      refine (?_ : look y (setVar x v m) = (match look y [(x, v)] with | some v => some v | none => look y m))
      (refine rwm (look_setVar) ?_; refine rwm (look_cons) ?_)
      by_cases h : y = x
      · (refine rwm (if_pos h) ?_; exact rwm (if_pos h) rfl)
      · (refine rwm (if_neg h) ?_; refine rwm (if_neg h) ?_); rfl
theorem look_mem {y : Str} {v : V} : ∀ {l : List (Str × V)}, (l.map (·.1)).Nodup → (look y l = some v ↔ (y, v) ∈ l)
  | [], _ => by simp [look]
  | (x, w) :: l, h => by
    refine w8 (List.nodup_cons.mp h) fun h1 h2 => ?_
    refine rwm (look_cons) ?_
    by_cases e : y = x
    · subst e
      refine rwm (if_pos rfl) ?_
      constructor
      · intro q; clear h h1; cases q; exact .head _
      · intro q
        rcases List.mem_cons.mp q with q | q
        · (first | (obtain ⟨rfl, rfl⟩ := Prod.mk.inj q) | clear h h1; cases q); rfl
        · exact absurd (List.mem_map_of_mem q) h1
    · (refine rwm (if_neg e) ?_; rewrite [look_mem h2])
      constructor
      · exact fun q => .tail _ q
      · intro q
        rcases List.mem_cons.mp q with q | q
        · (first | ((refine w8 (Prod.mk.inj q) fun zz1 zz2 => ?_; subst zz1; clear h h1 q; subst zz2)) | cases q); exact absurd rfl e
        · exact q
theorem look_reverse {y : Str} {l : List (Str × V)} (h : (l.map (·.1)).Nodup) : look y l.reverse = look y l := by
  have h' : (l.reverse.map (·.1)).Nodup := by refine rwm (List.map_reverse) ?_; exact (List.reverse_perm _).nodup_iff.mpr h
  induction q : look y l using Option.casesOn with
  | some v => exact (look_mem h').mpr (List.mem_reverse.mpr ((look_mem h).mp q))
  | none =>
    induction q' : look y l.reverse using Option.casesOn with
    | none => rfl
    | some v =>
      have := (look_mem h).mpr (List.mem_reverse.mp ((look_mem h').mp q'))
      rw [q] at this; exact nsx this
section
variable {C : Cy} {X : Tx} {A : Around} {own its : List Addr} {W W' W₁ : Wd} {s s' s₁ : Shared} {σ σ' : St} {env : Env} {ρ : Fr} {r : Rec} {n : Nat} {E : Value → Shared → Prop}
theorem FrR.same {m m' : List (Str × V)} (F : FrR C A W env own (ρ.at m) s.heap) (h : ∀ y, look y m' = look y m) : FrR C A W env own (ρ.at m') s.heap := by
  refine ⟨F.fm, F.kind, F.glob, F.blt, F.frame, F.code, F.ownMt, F.ownAp, F.ownStk, F.L, F.nmG, F.nmL, F.nmC, ?_, fun y v e k => F.cells y v ((h y).symm.trans e) k, F.apart⟩
  refine w6 (F.ns) fun mm hm hv => ?_
  exact (w7 mm hm (fun y v e k => hv y v ((h y).symm.trans e) k))
theorem VRs.reverse {h : Heap} {ds : List V} {vs : List Value} (x : VRs C.toCx W h ds vs) : VRs C.toCx W h ds.reverse vs.reverse :=
  VRs.ind (motive := fun ds vs => VRs C.toCx W h ds.reverse vs.reverse) .nil (fun {d ds v vs} a _ ih => by
    (refine rwm (List.reverse_cons) ?_; refine rwm (List.reverse_cons) ?_)
    exact ih.append (.cons a .nil)) x
theorem stores_ok : ∀ {l : List (Str × V)} {vvs : List Value} {m : List (Str × V)} {s : Shared} {Q : Unit → Shared → Prop}, (∀ p ∈ l, stores ρ.names ρ.pars p.1 = true) → FrR C A W env own (ρ.at m) s.heap → StR C W σ s → VRs C.toCx W s.heap (l.map (·.2)) vvs →
    (∀ s', Go C A own W s W s' → StR C W σ s' → FrR C A W env own (ρ.at (setAll l m)) s'.heap → Q () s') → ∀ (f : Str → Value → Sem Unit), (∀ {x : Str} {v : Value} {s : Shared} {Q : Unit → Shared → Prop}, wpAny C.M A (storeName env x v) Q E s → wpAny C.M A (f x v) Q E s) →
    wpAny C.M A (assignInOrder (l.map fun p => f p.1) vvs) Q E s
  | [], vvs, m, s, Q, _, F, R, xs, q, f, hf => by
    obtain rfl := xs.invN
    exact wpAny_pure (q s (.refl ..) R F)
  | (x, v) :: l, vvs, m, s, Q, hs, F, R, xs, q, f, hf => by
    obtain ⟨_, _, xa, xb, rfl⟩ := xs.invC
    · refine (?_ : wpAny C.M A (do holding _ (f x _); assignInOrder (l.map fun p => f p.1) _) Q E s)
      have hb : bind1 ρ.names ρ.pars x v m = some (setVar x v m) := by
        unfold bind1; exact rwm (hs _ (.head _)) rfl
      refine wpAny_bind (wpAny_holding (hf (store_ok hb F R xa fun s₁ g₁ R₁ F₁ => ?_)))
      exact stores_ok (fun p m => hs p (.tail _ m)) F₁ R₁ (g₁.vrs R F.fm F.ownMt xb) (fun s₂ g₂ R₂ F₂ => q s₂ (g₁.trans g₂) R₂ F₂) f hf
theorem tgtNames_some : ∀ {ts : List Expr} {xs : List Str}, tgtNames ts = some xs → ts.length = xs.length ∧ ∀ env, (assignEach ts env).length = ts.length ∧ (assignEach ts env).findIdx? (·.1) = none ∧ ∃ ps : List Pos, ps.length = xs.length ∧ ts = (xs.zip ps).map fun p => Expr.Name p.1 p.2
  | [], xs, h => by (revert h; refine sm_r fun zz => ?_; subst zz); exact ⟨rfl, fun env => ⟨rfl, rfl, [], rfl, rfl⟩⟩
  | t :: ts, xs, h => by
    refine bd_e2 (show bd (vName t) (fun n => bd (tgtNames ts) fun xs => some (n.1 :: xs)) = some xs from h) fun x p hn h => ?_
    obtain rfl := vName_some hn
    · refine bd_e (show (bd (tgtNames ts) fun xs => some (x :: xs)) = some xs from h) fun xs' h1 h => ?_
      (revert h; refine sm_r fun zz => ?_; subst zz)
      refine w8 (tgtNames_some h1) fun e1 e2 => ?_
      refine ⟨by simp [e1], fun env => ?_⟩
      refine wj1 (e2 env) fun e3 e4 ps e5 e6 => ?_
      refine ⟨?_, ?_, p :: ps, by simp [e5], by refine rwm (e6) ?_; rfl⟩
      · show ((false, assign (.Name x p) env) :: assignEach ts env).length = _
        simp [e3]
      · show ((false, assign (.Name x p) env) :: assignEach ts env).findIdx? (·.1) = none
        refine rwm (List.findIdx?_cons) ?_; simp [e4]
theorem bindL_some {names : List (Str × NameKind)} {pars : List Str} : ∀ {ts : List Expr} {vs : List V} {m m' : List (Str × V)}, bindL names pars ts vs m = some m' → ∃ xs, tgtNames ts = some xs ∧ xs.length = vs.length ∧ m' = setAll (xs.zip vs) m ∧ ∀ p ∈ xs.zip vs, stores names pars p.1 = true
  | [], [], m, m', h => by (revert h; refine sm_r fun zz => ?_; subst zz); exact (Y2 [] rfl rfl rfl (fun _ m => nomatch m))
  | [], _ :: _, m, m', h => by exact nsx h
  | _ :: _, [], _, _, h => nsx h
  | t :: ts, v :: vs, m, m', h => by
    refine bd_e2 (show bd (vName t) (fun n => bd (bind1 names pars n.1 v m) fun m => bindL names pars ts vs m) = some m' from h) fun x p hn h => ?_
    obtain rfl := vName_some hn
    refine bd_e (show (bd (bind1 names pars x v m) fun m => bindL names pars ts vs m) = some m' from h) fun m₁ h1 h2 => ?_
    refine Y0 (bindL_some h2) fun xs e1 e2 e3 e4 => ?_
    unfold bind1 at h1
    induction q : stores names pars x using Bool.casesOn with
    | false => rw [q] at h1; exact nsx h1
    | true =>
      rw [q] at h1; clear h2; (revert h1; refine sm_r fun zz => ?_; subst zz)
      refine (Y2 (x :: xs) (by refine (?_ : (bd (tgtNames ts) fun xs => some (x :: xs)) = _); refine rwm (e1) ?_; rfl) (by simp [e2]) e3 (fun p mp => ?_))
      rcases mc mp with rfl | mp
      · exact q
      · exact e4 p mp
theorem assignEach_names : ∀ {xs : List Str} {ps : List Pos}, ps.length = xs.length → (assignEach ((xs.zip ps).map fun p => Expr.Name p.1 p.2) env).map (·.2) = (xs.zip ps).map fun p => assign (.Name p.1 p.2) env
  | [], ps, _ => rfl
  | x :: xs, [], h => by simp at h
  | x :: xs, p :: ps, h => by
    refine (?_ : assign (.Name x p) env :: (assignEach ((xs.zip ps).map fun p => Expr.Name p.1 p.2) env).map (·.2) = _)
    refine rwm (assignEach_names (by simpa using h)) ?_; rfl
theorem assign_ok {t : Expr} {v : V} {vv : Value} {m m' : List (Str × V)} {Q : Unit → Shared → Prop} (hh : A.handled = none) (h : bindT ρ.names ρ.pars t v m = some m') (F : FrR C A W env own (ρ.at m) s.heap) (R : StR C W σ s) (xv : VR C.toCx W s.heap v vv)
    (q : ∀ s', Go C A own W s W s' → StR C W σ s' → FrR C A W env own (ρ.at m') s'.heap → Q () s') : wpAny C.M A (assign t env vv) Q E s := by
  induction t using Expr.casesOn with
  | Name x p => exact wpAny_assign_Name (store_ok (show bind1 ρ.names ρ.pars x v m = some m' from h) F R xv q)
  | Tuple ts k p =>
    induction v using V.casesOn with
    | tup l =>
      refine Y0 (bindL_some (show bindL ρ.names ρ.pars ts l m = some m' from h)) fun xs e1 e2 e3 e4 => ?_
      refine w8 (tgtNames_some e1) fun e5 e6 => ?_
      refine wj1 (e6 env) fun e7 e8 ps e9 e10 => ?_
      refine W6 (xv.inv) fun a n vs z b rs zz1 => ?_
      clear xv
      subst zz1
      have hl := VRs.length rs
      refine wpAny_assign_Tuple hh (Y5 _ z.1 rfl _ rfl) (by (refine rwm (e7) ?_; refine rwm (List.size_toArray) ?_); omega) e8 fun h' eb => ?_
      have kp : ∀ b o, s.heap.get? b = some o → h'.get? b = some o := fun b o e => eb b o (fun q => by rw [q, get_size_none] at e; exact nsx e) e
      have g₁ : Go C A [] W s W { s with heap := h' } := Go.grow (tk := s.toks) kp
      have R₁ : StR C W σ { s with heap := h' } := R.grow (tk := s.toks) kp
      have F₁ := F.mono R g₁
      have rs₁ := g₁.vrs R F.fm (fun _ m => nomatch m) rs
      clear e1 e5 e6 e7 e8 h
      subst e10
      refine rwm (assignEach_names e9) ?_
      have go : ∀ {xs : List Str} {ps : List Pos} {l : List V} {vs : List Value} {m : List (Str × V)} {s : Shared} {Q : Unit → Shared → Prop}, ps.length = xs.length → xs.length = l.length → (∀ p ∈ xs.zip l, stores ρ.names ρ.pars p.1 = true) → FrR C A W env own (ρ.at m) s.heap → StR C W σ s → VRs C.toCx W s.heap l vs →
          (∀ s', Go C A own W s W s' → StR C W σ s' → FrR C A W env own (ρ.at (setAll (xs.zip l) m)) s'.heap → Q () s') → wpAny C.M A (assignInOrder ((xs.zip ps).map fun p => assign (.Name p.1 p.2) env) vs) Q E s := by
        intro xs
        induction xs with
        | nil =>
          intro ps l vs m s Q h1 h2 h3 F R xs q
          exact wpAny_pure (q s (.refl ..) R F)
        | cons x xs ih =>
          intro ps l vs m s Q h1 h2 h3 F R xv q
          induction ps using List.casesOn with
          | nil => simp at h1
          | cons p ps =>
            induction l using List.casesOn with
            | nil => simp at h2
            | cons v l =>
              obtain ⟨_, _, xa, xb, rfl⟩ := xv.invC
              · refine (?_ : wpAny C.M A (do holding _ (assign (.Name x p) env _); assignInOrder ((xs.zip ps).map fun p => assign (.Name p.1 p.2) env) _) Q E s)
                have hb : bind1 ρ.names ρ.pars x v m = some (setVar x v m) := by unfold bind1; exact rwm (h3 (x, v) (.head _)) rfl
                refine wpAny_bind (wpAny_holding (wpAny_assign_Name (store_ok hb F R xa fun s₁ g₁ R₁ F₁ => ?_)))
                exact ih (by simpa using h1) (by simpa using h2) (fun p m => h3 p (.tail _ m)) F₁ R₁ (g₁.vrs R F.fm F.ownMt xb) (fun s₂ g₂ R₂ F₂ => q s₂ (g₁.trans g₂) R₂ F₂)
      have := go e9 e2 e4 F₁ R₁ rs₁ (Q := Q) fun s₂ g₂ R₂ F₂ => q s₂ (g₁.weak0.trans g₂) R₂ (e3 ▸ F₂)
      simpa using this
    | _ => exact nsx h
  | _ => exact nsx h
end
noncomputable def empty : Heap := { objs := #[] }
theorem empty_get (a : Addr) : empty.get? a = none := by
  induction q : empty.get? a using Option.casesOn with
  | none => rfl
  | some o => exact absurd (Heap.lt_size q) (Nat.not_lt_zero _)
section
variable {C : Cy} {X : Tx} {A : Around} {own its : List Addr} {W W' W₁ : Wd} {s s' s₁ : Shared} {σ σ' : St} {env : Env} {ρ : Fr} {r : Rec} {n : Nat} {E : Value → Shared → Prop}
theorem FmR.fun {h : Heap} (F : FmR C A W h) : ∀ l, A.frames = some l → h.FunFrames empty l := by
  intro l hl
  have each : ∀ env ∈ l, env.scope.kind = .function ∧ ∃ L m, env.frame = some L ∧ h.Ns L m := fun env m => by
    refine z0 (F.each l env hl m) fun k L mm f ns _ => ?_
    exact ⟨k, L, mm, f, ns⟩
  clear hl
  induction l with
  | nil => trivial
  | cons env l ih =>
    obtain ⟨k, L, mm, f, ⟨o, es, ep, e, d, _⟩⟩ := each env (.head _)
    exact ⟨by refine rwm (k) ?_; decide, (y8 L o f (empty_get L) e (fun vs q => by rw [d] at q; exact (nomatch q))), ih fun x m => each x (.tail _ m)⟩
theorem entry_ok {env : Env} {outer : List Env} {L e : Addr} {oe : Obj} {vs : Array Value} {head : Value} {hadNext : Bool} {M : Model} {Q : Unit → Shared → Prop}
    (hfr : A.frames = some (env :: outer)) (hl : s.heap.FunFrames empty (env :: outer)) (hf : env.frame = some L) (he : s.heap.get? e = some oe) (hd : oe.data = .fields vs) (hsz : 1 < vs.size)
    (h : ∀ h' T oT ts, (∀ b o, b ≠ e → s.heap.get? b = some o → h'.get? b = some o ∨ (b ∈ (env :: outer).filterMap (·.frame) ∧ ∃ sl, h'.get? b = some { o with slots := sl })) →
      h'.get? e = some { oe with data := .fields (vs.setIfInBounds 1 (.ref T)) } → s.heap.get? T = none → T ≠ e → h'.get? T = some oT → oT.data = .fields ts → ts[3]? = some (rawInt L) → Q () { s with heap := h' }) :
    wpAny M A (do let a ← frameOf env; let pl ← entryPlaceOf L hadNext; let b ← EntryCells.newEntry head a .none (rawInt L) .none pl; setField (.ref e) 1 b) Q E s := by
  have hene : e ∉ (env :: outer).filterMap (·.frame) := fun hm => by
    refine Y9 (hl.mem hm) fun _ o ho hnf => ?_
    rw [he] at ho; injection ho with ho; subst ho; exact hnf vs hd
  refine wpAny_bind (wpAny_frameOf_fun hfr hl hf fun h₁ hs₁ => ?_)
  refine wpAny_bind (wpAny_entryPlaceOf fun pl hpl => ?_)
  unfold EntryCells.newEntry newFields
  refine wpAny_bind (wpAny_newObj_type ?_ (hpl.sizeOk5 _ _ _ _ _))
  have he₁ : h₁.get? e = some oe := (hs₁.2.1 e hene).trans he
  have he₂ := Heap.get?_push_of_some (h := h₁) { cls := .type "traceback", dict := none, data := .fields ([head, .ref L, .none, rawInt L, .none] ++ (if pl.isEmpty then List.replicate 6 Value.none else pl)).toArray } he₁
  have hTe : h₁.objs.size ≠ e := Nat.ne_of_gt (Heap.lt_size he₁)
  obtain ⟨oc, od, odt, os⟩ := oe
  have hd : odt = .fields vs := hd
  clear he he₁
  subst hd
  refine wpAny_setField he₂ rfl hsz (h _ h₁.objs.size _ _ (fun b o hb hbo => ?_) (Heap.get?_update_self _ he₂ rfl) ?_ hTe ((Heap.get?_update_other _ _ (Ne.symm hTe)).trans (Heap.get?_push_size h₁ rfl)) rfl
    (by first | (simp; done) | (rcases hpl with rfl | ⟨_, _, _, _, _, _, _, rfl⟩ <;> simp)))
  · have up : ∀ o', h₁.get? b = some o' → ((h₁.push { cls := .type "traceback", dict := none, data := .fields ([head, .ref L, .none, rawInt L, .none] ++ (if pl.isEmpty then List.replicate 6 Value.none else pl)).toArray }).update e (Obj.mapFields (·.setIfInBounds 1 (Value.ref h₁.objs.size)))).get? b = some o' := fun o' e' => by
      refine rwm (Heap.get?_update_other _ _ (Ne.symm hb)) ?_
      exact Heap.get?_push_of_some _ e'
    by_cases q : b ∈ (env :: outer).filterMap (·.frame)
    · refine w5 (hs₁.2.2 b o hbo) fun sl hsl => ?_
      exact .inr (X8 q sl (up _ hsl))
    · exact .inl (up _ ((hs₁.2.1 b q).trans hbo))
  · induction z : s.heap.get? h₁.objs.size using Option.casesOn with
    | none => rfl
    | some o =>
      have := Heap.lt_size z
      rw [← hs₁.1] at this
      exact absurd this (Nat.lt_irrefl _)
theorem exc_move {e : Addr} {x : Str} {ph : Ph} {h' : Heap} (R : StR C W σ s) (F : FmR C A W s.heap) (X : ExcS C.toCx W s.heap e x ph) (le : W.Le s.heap W') (hadr : W'.adr = W.adr) (hsy : W'.syms = W.syms)
    (k : ∀ b o, b ∉ e :: ph.own → s.heap.get? b = some o → h'.get? b = some o ∨ (stk A b ∧ ∃ sl, h'.get? b = some { o with slots := sl })) (lv : ∀ b ∈ e :: ph.own, ∃ o, h'.get? b = some o) (lvT : ∀ b ∈ W'.mt, b ∈ W.mt ∨ ∃ o, h'.get? b = some o) :
    StR C W' σ { s with heap := h' } ∧ Go C A (e :: ph.own) W s W' { s with heap := h' } ∧ ∀ {a : Addr} {o : Obj}, Fz W s.heap a o → Fz W' h' a o := by
  have kp : Keep (· ∈ e :: ph.own) (stk A) s.heap h' := fun b o eo n => k b o n eo
  refine ⟨R.move (tk := s.toks) (S := (· ∈ e :: ph.own)) (P := stk A) le hadr hsy kp (fun b m => (X9 (.inl (X.mt b m)) (X.adr b m) (X.tabs b m) (R.fresh b (X.mt b m)))) (fun b p => F.onStk p) (fun b m => ?_), ⟨le, fun b o eo n => k b o (fun m => n (.inr (.inr m))) eo, fun b o eo => ?_, rfl⟩, fun z => z.mono le kp (fun b m => .inl (X.mt b m)) (fun b p => (F.onStk p).1)⟩
  · rcases lvT b m with m | m
    · by_cases q : b ∈ e :: ph.own
      · exact .inr (lv b q)
      · exact .inl ⟨m, q⟩
    · exact .inr m
  · by_cases q : b ∈ e :: ph.own
    · exact lv b q
    · rcases k b o q eo with z | ⟨_, sl, z⟩
      · exact ⟨_, z⟩
      · exact ⟨_, z⟩
theorem stk_of {env : Env} {outer : List Env} (hfr : A.frames = some (env :: outer)) {b : Addr} (m : b ∈ (env :: outer).filterMap (·.frame)) : stk A b := by
  refine w6 (List.mem_filterMap.mp m) fun x mx e => ?_
  exact (y7 _ x hfr mx e)
theorem note_ok {env : Env} {outer : List Env} {L e : Addr} {x : Str} {ph : Ph} {Q : Unit → Shared → Prop} (hfr : A.frames = some (env :: outer)) (hf : env.frame = some L) (R : StR C W σ s) (F : FmR C A W s.heap) (X : ExcS C.toCx W s.heap e x ph) (hp : ∀ T L', ph = .held T L' → L' = L)
    (q : ∀ W' s' T, Go C A (e :: ph.own) W s W' s' → StR C W' σ s' → FmR C A W' s'.heap → ExcS C.toCx W' s'.heap e x (.held T L) → (T ∈ ph.own ∨ s.heap.get? T = none) → Q () s') : wpAny C.M A (noteFrame (.ref e) env) Q E s := by
  obtain ⟨oe, vs, he, hc, hd, hph, d, od, t₀, vs₀, n₀, t₁, vs₁, n₁, k, r1, r2, r3, r4, r5, r6, r7⟩ := X.obj
  have fin : ∀ (h' : Heap) (T : Addr) (oT : Obj) (ts : Array Value) (s₀ : Shared), s₀ = s → T ≠ e → (∀ b o, b ∉ e :: ph.own → s.heap.get? b = some o → h'.get? b = some o ∨ (b ∈ (env :: outer).filterMap (·.frame) ∧ ∃ sl, h'.get? b = some { o with slots := sl })) →
      h'.get? e = some { oe with data := .fields (vs.setIfInBounds 1 (.ref T)) } → s.heap.get? T = none → h'.get? T = some oT → oT.data = .fields ts → ts[3]? = some (rawInt L) → 1 < vs.size → (∀ b ∈ ph.own, ∃ o, h'.get? b = some o) → Q () { s with heap := h' } := by
    intro h' T oT ts s₀ _ ne kk ee fT eT dT tT hsz lv
    have nmt : T ∉ W.mt := fun m => by refine w5 (R.live T m) fun o z => ?_; rw [fT] at z; exact nsx z
    have le : W.Le s.heap ⟨W.adr, W.syms, T :: W.mt⟩ := ⟨List.prefix_refl _, List.prefix_refl _, fun b m => .tail _ m, fun b m => by
      rcases mc m with rfl | m
      · exact .inr fT
      · exact .inl m, fun b m => .inl m⟩
    refine W2 (exc_move (W' := ⟨W.adr, W.syms, T :: W.mt⟩) R F X le rfl rfl (fun b o n eo => (kk b o n eo).imp id fun z => ⟨stk_of hfr z.1, z.2⟩) (fun b m => by
      rcases mc m with rfl | m
      · exact ⟨_, ee⟩
      · exact lv b m) (fun b m => by
      rcases mc m with rfl | m
      · exact .inr ⟨_, eT⟩
      · exact .inl m)) fun R' g fz => ?_
    have F' : FmR C A ⟨W.adr, W.syms, T :: W.mt⟩ h' := F.mono g fun b m st => by
      refine x6 st fun l env' hl hm hfe => ?_
      clear st
      refine z0 (F.each l env' hl hm) fun _ L' mm hfe' zz1 _ => ?_
      obtain ⟨o, es, ep, eo, dd, _⟩ := zz1
      rw [hfe] at hfe'; (revert hfe'; refine sm_r fun zz => ?_; subst zz)
      rcases mc m with rfl | m
      · rw [he] at eo; (revert eo; refine sm_r fun zz => ?_; subst zz); rw [hd] at dd; exact (nomatch dd)
      · clear X g hp kk lv q; induction ph using Ph.casesOn with
        | raw => cases m
        | fly T₂ =>
          rw [List.mem_singleton.mp m] at eo
          refine z0 hph fun _ oT₂ ts₂ z1 z2 _ => ?_
          clear hph
          rw [z1] at eo; clear z1; cases eo; rw [z2] at dd; exact (nomatch dd)
        | held T₂ L₂ =>
          rw [List.mem_singleton.mp m] at eo
          refine z0 hph fun _ oT₂ ts₂ z1 z2 _ => ?_
          clear hph
          rw [z1] at eo; clear z1; cases eo; rw [z2] at dd; exact (nomatch dd)
    refine q _ _ T g R' F' ⟨⟨_, _, ee, hc, rfl, (W1 (by simp [hsz]) oT ts eT dT tT), d, od, t₀, vs₀, n₀, t₁, vs₁, n₁, k, r1, fz r2, r3, fz r4, r5, fz r6, r7⟩, fun b m => by refine rwm (List.mem_singleton.mp m) ?_; exact ne, fun b m => ?_, fun b m => ?_, fun b m => ?_⟩ (.inr fT)
    · rcases mc m with rfl | m
      · exact .tail _ (X.mt _ (.head _))
      · refine rwm (List.mem_singleton.mp m) ?_; exact .head _
    · rcases mc m with rfl | m
      · exact X.adr _ (.head _)
      · refine rwm (List.mem_singleton.mp m) ?_; exact fun z => nmt (R.adr _ z)
    · rcases mc m with rfl | m
      · exact X.tabs _ (.head _)
      · refine rwm (List.mem_singleton.mp m) ?_; exact fun z => nmt (R.tabs _ z)
  have hFun := F.fun _ hfr
  unfold noteFrame
  simp only [hf]
  induction ph using Ph.casesOn with
  | raw =>
    have hph : vs[1]? = some .none := hph
    refine wpAny_bind (wpAny_field he hd hph ?_)
    refine rwm (if_neg (by decide)) ?_
    have hsz := (Array.getElem?_eq_some_iff.mp hph).1
    exact entry_ok hfr hFun hf he hd hsz fun h' T oT ts k1 k2 k3 k4 k5 k6 k7 => fin h' T oT ts s rfl k4 (fun b o n eo => k1 b o (fun q => n (by refine rwm (q) ?_; exact .head _)) eo) k2 k3 k5 k6 k7 hsz (fun b m => nomatch m)
  | held T L' =>
    have hL := hp T L' rfl
    clear fin hf hp
    subst hL
    refine z0 hph fun h1 oT ts z1 z2 z3 => ?_
    clear hph
    refine wpAny_bind (wpAny_field he hd h1 ?_)
    refine rwm (if_pos (show (Value.ref T != Value.none) = true from by simp)) ?_
    refine wpAny_bind (wpAny_field z1 z2 z3 ?_)
    refine rwm (if_pos (show (rawInt L' == rawInt L') = true from by simp)) ?_
    exact wpAny_pure (q W s T (.refl ..) R F X (.inl (.head _)))
  | fly T =>
    refine z0 hph fun h1 oT ts z1 z2 z3 => ?_
    clear hph
    have nTe : T ≠ e := X.ne T (.head _)
    refine wpAny_bind (wpAny_field he hd h1 ?_)
    refine rwm (if_pos (show (Value.ref T != Value.none) = true from by simp)) ?_
    refine wpAny_bind (wpAny_field z1 z2 z3 ?_)
    refine rwm (if_neg (show ¬ ((Value.none == rawInt L) = true) from by simp [rawInt])) ?_
    refine wpAny_bind (wpAny_setField z1 z2 (Array.getElem?_eq_some_iff.mp z3).1 ?_)
    have hsz := (Array.getElem?_eq_some_iff.mp h1).1
    have other : ∀ b, b ≠ T → (s.heap.update T (Obj.mapFields (·.setIfInBounds 3 Value.none))).get? b = s.heap.get? b := fun b hb => Heap.get?_update_other _ _ (Ne.symm hb)
    have noRec : ∀ b o, s.heap.get? b = some o → (∀ vs, o.data ≠ .fields vs) → b ≠ T := fun b o hb hnf q => by
      rw [q, z1] at hb; (revert hb; refine sm_r fun zz => ?_; subst zz); exact hnf ts z2
    have hFun' : (s.heap.update T (Obj.mapFields (·.setIfInBounds 3 Value.none))).FunFrames empty (env :: outer) := hFun.of_keeps fun b o hb hnf => (w7 o ((other b (noRec b o hb hnf)).trans hb) rfl)
    refine entry_ok (s := { s with heap := s.heap.update T (Obj.mapFields (·.setIfInBounds 3 Value.none)) }) hfr hFun' hf ((other e (Ne.symm nTe)).trans he) hd hsz fun h' T' oT' ts' k1 k2 k3 k4 k5 k6 k7 => ?_
    have eT : (s.heap.update T (Obj.mapFields (·.setIfInBounds 3 Value.none))).get? T = some (Obj.mapFields (·.setIfInBounds 3 Value.none) oT) := Heap.get?_update_self _ z1 (Obj.isFreed_of_fields (Obj.data_mapFields z2 _))
    have nTT : T' ≠ T := fun q => by rw [q] at k3; have k3 : (s.heap.update T (Obj.mapFields (·.setIfInBounds 3 Value.none))).get? T = none := k3; rw [eT] at k3; exact snx k3
    refine fin h' T' oT' ts' s rfl k4 (fun b o n eo => ?_) k2 ((other T' nTT).symm.trans k3) k5 k6 k7 hsz (fun b m => ?_)
    · exact k1 b o (fun q => n (by refine rwm (q) ?_; exact .head _)) ((other b (fun q => n (by refine rwm (q) ?_; exact .tail _ (.head _)))).trans eo)
    · refine rwm (List.mem_singleton.mp m) ?_
      rcases k1 T _ nTe eT with z | ⟨_, sl, z⟩
      · exact ⟨_, z⟩
      · exact ⟨_, z⟩
theorem flight_ok {e T : Addr} {x : Str} {ph : Ph} {fr : Option Addr} {fl : Value} {Q : Unit → Shared → Prop} (R : StR C W σ s) (F : FmR C A W s.heap) (X : ExcS C.toCx W s.heap e x ph) (hT : (∃ L, ph = .held T L) ∨ ph = .fly T) (hfl : (fr.elim Value.none fun f => rawInt f) = fl)
    (q : ∀ s', Go C A (e :: ph.own) W s W s' → StR C W σ s' → FmR C A W s'.heap → (∀ L : Addr, fl = rawInt (L : Int) → ExcS C.toCx W s'.heap e x (.held T L)) → (fl = .none → ExcS C.toCx W s'.heap e x (.fly T)) → Q () s') : wpAny C.M A (setFlight (.ref e) fr) Q E s := by
  obtain ⟨oe, vs, he, hc, hd, hph, d, od, t₀, vs₀, n₀, t₁, vs₁, n₁, k, r1, r2, r3, r4, r5, r6, r7⟩ := X.obj
  obtain ⟨h1, oT, ts, z1, z2, v3, z3⟩ : vs[1]? = some (.ref T) ∧ ∃ oT ts, s.heap.get? T = some oT ∧ oT.data = .fields ts ∧ ∃ v, ts[3]? = some v := by
    clear X q
    rcases hT with ⟨L, rfl⟩ | rfl
    · (refine z0 hph fun h1 oT ts z1 z2 z3 => ?_; clear hph); exact ⟨h1, oT, ts, z1, z2, _, z3⟩
    · (refine z0 hph fun h1 oT ts z1 z2 z3 => ?_; clear hph); exact ⟨h1, oT, ts, z1, z2, _, z3⟩
  have own : ph.own = [T] := by clear X hph q; rcases hT with ⟨L, rfl⟩ | rfl <;> rfl
  have nTe : T ≠ e := X.ne T (by refine rwm (own) ?_; exact .head _)
  have hsz3 : 3 < ts.size := (Array.getElem?_eq_some_iff.mp z3).1
  unfold setFlight
  refine wpAny_bind (wpAny_field he hd h1 ?_)
  refine rwm (if_pos (show (Value.ref T != Value.none) = true from by simp)) ?_
  refine wpAny_setField z1 z2 hsz3 ?_
  refine rwm (hfl) ?_
  have other : ∀ b, b ≠ T → (s.heap.update T (Obj.mapFields (·.setIfInBounds 3 fl))).get? b = s.heap.get? b := fun b hb => Heap.get?_update_other _ _ (Ne.symm hb)
  have eT : (s.heap.update T (Obj.mapFields (·.setIfInBounds 3 fl))).get? T = some (Obj.mapFields (·.setIfInBounds 3 fl) oT) := Heap.get?_update_self _ z1 (Obj.isFreed_of_fields (Obj.data_mapFields z2 _))
  have ee := (other e (Ne.symm nTe)).trans he
  refine W2 (exc_move (W' := W) (h' := s.heap.update T (Obj.mapFields (·.setIfInBounds 3 fl))) R F X (.refl _ _) rfl rfl (fun b o n eo => .inl ((other b (fun q => n (by (refine rwm (q) ?_; refine rwm (own) ?_); exact .tail _ (.head _)))).trans eo)) (fun b m => by
    rcases mc m with rfl | m
    · exact ⟨_, ee⟩
    · rw [own] at m; refine rwm (List.mem_singleton.mp m) ?_; exact ⟨_, eT⟩) (fun b m => .inl m)) fun R' g fz => ?_
  have F' : FmR C A W (s.heap.update T (Obj.mapFields (·.setIfInBounds 3 fl))) := F.mono g fun b m st => by
    refine x6 st fun l env' hl hm hfe => ?_
    clear st
    refine z0 (F.each l env' hl hm) fun _ L' mm hfe' zz1 _ => ?_
    obtain ⟨o, es, ep, eo, dd, _⟩ := zz1
    rw [hfe] at hfe'; (revert hfe'; refine sm_r fun zz => ?_; subst zz)
    rcases mc m with rfl | m
    · rw [he] at eo; (revert eo; refine sm_r fun zz => ?_; subst zz); rw [hd] at dd; exact (nomatch dd)
    · rw [own] at m; rw [List.mem_singleton.mp m, z1] at eo; (revert eo; refine sm_r fun zz => ?_; subst zz); rw [z2] at dd; exact (nomatch dd)
  have mk : ∀ ph', ph'.own = [T] → ph'.ok (s.heap.update T (Obj.mapFields (·.setIfInBounds 3 fl))) vs → ExcS C.toCx W (s.heap.update T (Obj.mapFields (·.setIfInBounds 3 fl))) e x ph' := fun ph' o' ok' =>
    ⟨⟨oe, vs, ee, hc, hd, ok', d, od, t₀, vs₀, n₀, t₁, vs₁, n₁, k, r1, fz r2, r3, fz r4, r5, fz r6, r7⟩, by (refine rwm (o') ?_; refine rwl (own) ?_); exact X.ne, by (refine rwm (o') ?_; refine rwl (own) ?_); exact X.mt, by (refine rwm (o') ?_; refine rwl (own) ?_); exact X.adr, by (refine rwm (o') ?_; refine rwl (own) ?_); exact X.tabs⟩
  refine q _ g R' F' (fun L hL => mk (.held T L) rfl (W1 h1 _ _ eT (Obj.data_mapFields z2 _) (by simp [hsz3, hL]))) (fun hL => mk (.fly T) rfl (W1 h1 _ _ eT (Obj.data_mapFields z2 _) (by simp [hsz3, hL])))
theorem Go.fresh_end {l : List Addr} (x : Go C A own W s W₁ s₁) (y : Go C A l W₁ s₁ W' s') (fr : ∀ b ∈ l, s.heap.get? b = none) : Go C A own W s W' s' := by
  refine ⟨x.le.trans y.le x.live, x.keep.trans y.keep (fun b o e t => ?_) (fun _ _ _ p => p), fun b o e => ?_, y.drawn.trans x.drawn⟩
  · rcases t with t | t | t
    · rcases x.le.newAdr b t with m | n
      · exact .inl m
      · rw [n] at e; exact nsx e
    · exact .inr (.inl t)
    · rw [fr b t] at e; exact nsx e
  · refine w5 (x.live b o e) fun o₁ e₁ => ?_
    exact y.live b o₁ e₁
theorem Go.fresh_raw {l : List Addr} {h' : Heap} {tk : Nat} (x : Go C A own W s W₁ s₁) (k : ∀ c o, c ∉ l → s₁.heap.get? c = some o → h'.get? c = some o) (fr : ∀ b ∈ l, s.heap.get? b = none) : Go C A own W s W₁ { s₁ with heap := h', toks := tk } := by
  refine ⟨x.le, fun b o e t => ?_, fun b o e => ?_, x.drawn⟩
  · have nb : b ∉ l := fun m => by rw [fr b m] at e; exact nsx e
    rcases x.keep b o e t with q | ⟨q, sl, q'⟩
    · exact .inl (k b o nb q)
    · exact .inr (X8 q sl (k b _ nb q'))
  · have nb : b ∉ l := fun m => by rw [fr b m] at e; exact nsx e
    refine w5 (x.live b o e) fun o₁ e₁ => ?_
    exact ⟨o₁, k b o₁ nb e₁⟩
theorem FrR.drawn {h' : Heap} (F : FrR C A W env own ρ s.heap) (Sd : Side C A W own its) (ob : ∀ b ∈ its, ∃ o, s.heap.get? b = some o ∧ (isIter o = true ∨ b ∈ W.mt) ∧ ∀ v, o.data ≠ .cell v) (k : ∀ c o, c ∉ its → s.heap.get? c = some o → h'.get? c = some o) : FrR C A W env own ρ h' := by
  have lo : ∀ b ∈ its, Loose W s.heap b := fun b m => by
    refine W3 (ob b m) fun o e i _ => ?_
    rcases i with i | i
    · exact .inr (w7 o e i)
    · exact .inl i
  have nIts : ∀ b, b ∈ own → b ∉ its := fun b m q => Sd.own b q m
  have cell : ∀ {c v}, s.heap.IsCell c v → h'.IsCell c v := fun {c v} hc => by
    refine w6 hc fun o e d => ?_
    clear hc
    refine (w7 o (k c o (fun m => ?_) e) d)
    refine W3 (ob c m) fun o' e' _ nd => ?_
    rw [e] at e'; (revert e'; refine sm_r fun zz => ?_; subst zz)
    exact nd v d
  have ns : ∀ {b m}, b ∉ its → s.heap.Ns b m → h'.Ns b m := fun nb ⟨o, es, ep, e, r⟩ => (W8 o es ep (k _ o nb e) r)
  refine ⟨⟨F.fm.has, fun l env hl he => ?_⟩, F.kind, F.glob, F.blt, F.frame, F.code, F.ownMt, F.ownAp, F.ownStk, F.L, F.nmG, F.nmL, fun y hy hp => ?_, ?_, fun y v hv hk => ?_, F.apart⟩
  · refine z0 (F.fm.each l env hl he) fun kd L m hf hm r => ?_
    exact (W1 kd L m hf (ns (fun q => Sd.stk L q (y7 l env hl he hf)) hm) r)
  · refine z0 (F.nmC y hy hp) fun kd c ov h1 h2 h3 => ?_
    exact (W1 kd c ov h1 h2 (cell h3))
  · refine w6 (F.ns) fun m hm hv => ?_
    refine (w7 m (ns (nIts _ F.L) hm) (fun y v e kd => ?_))
    refine w6 (hv y v e kd) fun v' e' xr => ?_
    exact (w7 v' e' (its_vr lo k xr))
  · refine X4 (F.cells y v hv hk) fun kd c v' h1 h2 h3 h4 => ?_
    exact (W7 kd c v' h1 (cell h2) (its_vr lo k h3) h4)
noncomputable def Out (C : Cy) (A : Around) (own : List Addr) (W : Wd) (s : Shared) (σ' : St) (env : Env) (ρ : Fr) (m' : List (Str × V)) (Q : Flow → Shared → Prop) (E : Value → Shared → Prop) : Fl → Prop
  | .next => ∀ W' s', Go C A own W s W' s' → StR C W' σ' s' → FrR C A W' env own (ρ.at m') s'.heap → Q .next s'
  | .ret v => ∀ W' s' v', Go C A own W s W' s' → StR C W' σ' s' → FmR C A W' s'.heap → VR C.toCx W' s'.heap v v' → Q (.ret v') s'
  | .exc x => ∀ W' s' e ph, (∀ b ∈ e :: ph.own, s.heap.get? b = none) → Go C A own W s W' s' → StR C W' σ' s' → FrR C A W' env own (ρ.at m') s'.heap → ExcS C.toCx W' s'.heap e x ph → (∀ T L, ph = .held T L → env.frame = some L) → E (.ref e) s'
noncomputable def OkS (C : Cy) (r : Rec) (n : Nat) : Prop := ∀ {st : Stmt} {ρ : Fr} {σ : St} {fl : Fl} {m' : List (Str × V)} {σ' : St}, r.S st ρ σ = some (fl, m', σ') →
  ∀ {A : Around} {env : Env} {outer : List Env} {own : List Addr} {W : Wd} {s : Shared}, Room A n → A.frames = some (env :: outer) → FrR C A W env own ρ s.heap → StR C W σ s →
  ∀ {Q : Flow → Shared → Prop} {E : Value → Shared → Prop}, Out C A own W s σ' env ρ m' Q E fl → wpAny C.M A (exec st env) Q E s
theorem Out.before {m' : List (Str × V)} {Q : Flow → Shared → Prop} {fl : Fl} (x : Out C A own W s σ' env ρ m' Q E fl) (g : Go C A own W s W₁ s₁) : Out C A own W₁ s₁ σ' env ρ m' Q E fl := by
  have back : ∀ b, s₁.heap.get? b = none → s.heap.get? b = none := by
    intro b n
    induction q : s.heap.get? b using Option.casesOn with
    | none => rfl
    | some o =>
      refine w5 (g.live b o q) fun o' e => ?_
      rw [e] at n; exact snx n
  induction fl using Fl.casesOn with
  | next => exact fun W' s' g' R' F' => x W' s' (g.trans g') R' F'
  | ret v => exact fun W' s' v' g' R' F' xv => x W' s' v' (g.trans g') R' F' xv
  | exc y => exact fun W' s' e ph fr g' R' F' X' hp => x W' s' e ph (fun b m => back b (fr b m)) (g.trans g') R' F' X' hp
theorem execs_ok (HS : OkS C r n) (hr : Room A n) {outer : List Env} (hfr : A.frames = some (env :: outer)) : ∀ {ss : List Stmt} {m : List (Str × V)} {σ : St} {fl : Fl} {m' : List (Str × V)} {σ' : St} {W : Wd} {s : Shared} {Q : Flow → Shared → Prop} {E : Value → Shared → Prop}, execs r ρ ss m σ = some (fl, m', σ') →
    FrR C A W env own (ρ.at m) s.heap → StR C W σ s → Out C A own W s σ' env ρ m' Q E fl → wpAny C.M A (PySem.execs ss env) Q E s
  | [], m, σ, fl, m', σ', W, s, Q, E, h, F, R, q => by
    (revert q; (first | refine sp3_g h ?_ | refine sp_g h ?_); intro q)
    exact wpAny_pure (q W s (.refl ..) R F)
  | st :: ss, m, σ, fl, m', σ', W, s, Q, E, h, F, R, q => by
    refine bd_e3 (show (bd (r.S st (ρ.at m) σ) fun p => match p.1 with | .next => execs r ρ ss p.2.1 p.2.2 | f => some (f, p.2.1, p.2.2)) = some (fl, m', σ') from h) fun f₁ m₁ σ₁ h1 h2 => ?_
    induction f₁ using Fl.casesOn with
    | next =>
      refine wpAny_execs_cons (HS h1 hr hfr F R ?_)
      exact fun W₁ s₁ g R₁ F₁ => execs_ok HS hr hfr h2 F₁ R₁ (q.before g)
    | ret v =>
      (revert q; (first | refine sp3_g h2 ?_ | refine sp_g h2 ?_); intro q)
      refine wpAny_execs_cons (HS h1 hr hfr F R ?_)
      exact fun W₁ s₁ v' g R₁ F₁ x => q W₁ s₁ v' g R₁ F₁ x
    | exc x =>
      (revert q; (first | refine sp3_g h2 ?_ | refine sp_g h2 ?_); intro q)
      refine wpAny_execs_cons (HS h1 hr hfr F R ?_)
      exact fun W₁ s₁ e ph fr g R₁ F₁ X hp => q W₁ s₁ e ph fr g R₁ F₁ X hp
end
section
variable {C : Cy} {X : Tx} {A : Around} {own its : List Addr} {W W' W₀ W₁ : Wd} {s s' s₀ s₁ : Shared} {σ σ' : St} {env : Env} {ρ : Fr} {r : Rec} {n : Nat} {E : Value → Shared → Prop}
theorem FrR.apartMono {l : List Addr} (F : FrR C A W env own ρ s.heap) (R : StR C W σ s) (x : Go C A l W s W' s') (hl : ∀ b ∈ l, b ∈ W.mt ∧ b ∉ own ∧ ¬ stk A b ∧ ∃ o, s.heap.get? b = some o ∧ ∀ v, o.data ≠ .cell v) : FrR C A W' env own ρ s'.heap := by
  have fm := F.fm.mono x fun b m st => absurd st (hl b m).2.2.1
  have notT : ∀ b, b ∈ own → ¬ Turn C W l b := by
    intro b m t
    rcases t with t | t | t
    · exact (F.ownAp b m).1 t
    · exact (F.ownAp b m).2 t
    · exact (hl b t).2.1 m
  have vr := fun {d v} => x.vr R F.fm (fun b m => (hl b m).1) (d := d) (v := v)
  have cellT : ∀ c v, s.heap.IsCell c v → ¬ Turn C W l c := by
    intro c v hc t
    rcases t with t | t | t
    · exact R.notCell_adr t hc
    · exact R.notCell_tab t hc
    · obtain ⟨_, _, _, o, e, nd⟩ := hl c t
      refine w6 hc fun o' e' d => ?_
      clear hc
      rw [e] at e'; (revert e'; refine sm_r fun zz => ?_; subst zz)
      exact nd v d
  refine ⟨fm, F.kind, F.glob, F.blt, F.frame, F.code, fun b m => x.le.mt b (F.ownMt b m), fun b m => ?_, F.ownStk, F.L, F.nmG, F.nmL, fun y hy hp => ?_, ?_, fun y v hv hk => ?_, F.apart⟩
  · refine w5 (R.live b (F.ownMt b m)) fun o e => ?_
    exact ⟨x.le.notAdr e (F.ownAp b m).1, (F.ownAp b m).2⟩
  · refine z0 (F.nmC y hy hp) fun k c ov h1 h2 h3 => ?_
    exact (W1 k c ov h1 h2 (x.keep.cell h3 (notT c h2)))
  · refine w6 (F.ns) fun m hm hv => ?_
    refine (w7 m (x.keep.ns hm (notT _ F.L)) (fun y v e k => ?_))
    refine w6 (hv y v e k) fun v' e' r => ?_
    exact (w7 v' e' (vr r))
  · refine X4 (F.cells y v hv hk) fun k c v' h1 h2 h3 h4 => ?_
    refine (W7 k c v' h1 (x.keep.cell h2 (cellT _ _ h2)) (vr h3) (fun p => ?_))
    refine w5 (isCell_lt h2) fun o e => ?_
    exact x.le.notMt e (h4 p)
structure Here (C : Cy) (A : Around) (own : List Addr) (W₀ : Wd) (s₀ : Shared) (σ : St) (env : Env) (ρ : Fr) (e : Addr) (x : Str) (ph : Ph) (W : Wd) (s : Shared) : Prop where
  fresh : ∀ b ∈ e :: ph.own, s₀.heap.get? b = none
  go : Go C A own W₀ s₀ W s
  st : StR C W σ s
  fr : FrR C A W env own ρ s.heap
  exc : ExcS C.toCx W s.heap e x ph
  held : ∀ T L, ph = .held T L → env.frame = some L
theorem ExcS.objs {e : Addr} {x : Str} {ph : Ph} {h : Heap} (X : ExcS C.toCx W h e x ph) : ∀ b ∈ e :: ph.own, ∃ o vs, h.get? b = some o ∧ o.data = .fields vs := by
  obtain ⟨oe, vs, he, hc, hd, hph, _⟩ := X.obj
  intro b m
  rcases mc m with rfl | m
  · exact (x9 _ _ he hd)
  · clear X; induction ph using Ph.casesOn with
    | raw => cases m
    | fly T => refine rwm (List.mem_singleton.mp m) ?_; (refine z0 hph fun _ oT ts z1 z2 _ => ?_; clear hph); exact (x9 _ _ z1 z2)
    | held T L => refine rwm (List.mem_singleton.mp m) ?_; (refine z0 hph fun _ oT ts z1 z2 _ => ?_; clear hph); exact (x9 _ _ z1 z2)
theorem FmR.notFields {h : Heap} (F : FmR C A W h) {b : Addr} {o : Obj} {vs : Array Value} (e : h.get? b = some o) (d : o.data = .fields vs) : ¬ stk A b := by
  rintro ⟨l, env, hl, he, hf⟩
  refine z0 (F.each l env hl he) fun _ L m hf' zz1 _ => ?_
  obtain ⟨o', es, ep, e', d', _⟩ := zz1
  rw [hf] at hf'; (revert hf'; refine sm_r fun zz => ?_; subst zz)
  rw [e] at e'; (revert e'; refine sm_r fun zz => ?_; subst zz)
  rw [d] at d'; exact (nomatch d')
theorem Here.side {e : Addr} {x : Str} {ph : Ph} (H : Here C A own W₀ s₀ σ env ρ e x ph W s) (hown : ∀ b ∈ own, ∃ o, s₀.heap.get? b = some o) : ∀ b ∈ e :: ph.own, b ∈ W.mt ∧ b ∉ own ∧ ¬ stk A b ∧ ∃ o, s.heap.get? b = some o ∧ ∀ v, o.data ≠ .cell v := by
  intro b m
  refine x5 (H.exc.objs b m) fun o vs z d => ?_
  refine (wi5 (H.exc.mt b m) (fun q => ?_) (H.fr.fm.notFields z d) o z (fun v q => by rw [d] at q; exact (nomatch q)))
  refine w5 (hown b q) fun o' z' => ?_
  rw [H.fresh b m] at z'; exact nsx z'
theorem here_note {outer : List Env} {e : Addr} {x : Str} {ph : Ph} {Q : Unit → Shared → Prop} (hfr : A.frames = some (env :: outer)) (hown : ∀ b ∈ own, ∃ o, s₀.heap.get? b = some o) (H : Here C A own W₀ s₀ σ env ρ e x ph W s)
    (q : ∀ W' s' T L, env.frame = some L → Here C A own W₀ s₀ σ env ρ e x (.held T L) W' s' → Q () s') : wpAny C.M A (noteFrame (.ref e) env) Q E s := by
  obtain ⟨_, L, _, hf, _⟩ := H.fr.fm.each _ env hfr (.head _)
  have sd := H.side hown
  refine note_ok hfr hf H.st H.fr.fm H.exc (fun T L' e' => by have := H.held T L' e'; rw [hf] at this; exact (Option.some.inj this).symm) fun W' s' T g R' F' X' hT => ?_
  refine q W' s' T L hf ⟨fun b m => ?_, H.go.fresh_end g H.fresh, R', H.fr.apartMono H.st g sd, X', fun T₂ L₂ e' => by cases e'; exact hf⟩
  rcases mc m with rfl | m
  · exact H.fresh _ (.head _)
  · refine rwm (List.mem_singleton.mp m) ?_
    rcases hT with hT | hT
    · exact H.fresh _ (.tail _ hT)
    · induction z : s₀.heap.get? T using Option.casesOn with
      | none => rfl
      | some o => refine w5 (H.go.live T o z) fun o' e' => ?_; rw [hT] at e'; exact nsx e'
theorem here_noted {outer : List Env} {e : Addr} {x : Str} {ph : Ph} (hfr : A.frames = some (env :: outer)) (hown : ∀ b ∈ own, ∃ o, s₀.heap.get? b = some o) (H : Here C A own W₀ s₀ σ env ρ e x ph W s)
    (q : ∀ W' s' T L, env.frame = some L → Here C A own W₀ s₀ σ env ρ e x (.held T L) W' s' → E (.ref e) s') : notedBy C.M A env E (.ref e) s := here_note hfr hown H q
theorem here_came {e T L : Addr} {x : Str} (hf : env.frame = some L) (hown : ∀ b ∈ own, ∃ o, s₀.heap.get? b = some o) (H : Here C A own W₀ s₀ σ env ρ e x (.held T L) W s)
    (q : ∀ W' s', Here C A own W₀ s₀ σ env ρ e x (.held T L) W' s' → E (.ref e) s') : cameBackBy C.M A env E (.ref e) s := by
  have sd := H.side hown
  obtain ⟨oe, vs, he, hc, hd, hph, _⟩ := H.exc.obj
  unfold cameBackBy
  refine wpAny_bind (wpAny_field he hd hph.1 ?_)
  refine rwm (if_neg (show ¬ ((Value.ref T == Value.none) = true) from Bool.false_ne_true)) ?_
  refine rwm (hf) ?_
  refine flight_ok (T := T) H.st H.fr.fm H.exc (.inl ⟨L, rfl⟩) rfl fun s' g R' F' X1 X2 => ?_
  exact q W s' ⟨H.fresh, H.go.fresh_end g H.fresh, R', H.fr.apartMono H.st g sd, X1 L rfl, H.held⟩
theorem here_leave {outer : List Env} {e : Addr} {x : Str} {ph : Ph} {Q : Unit → Shared → Prop} (hfr : A.frames = some (env :: outer)) (hown : ∀ b ∈ own, ∃ o, s₀.heap.get? b = some o) (H : Here C A own W₀ s₀ σ env ρ e x ph W s)
    (q : ∀ W' s' T, Here C A own W₀ s₀ σ env ρ e x (.fly T) W' s' → Q () s') : wpAny C.M A (leaving env (.ref e)) Q E s := by
  unfold leaving
  refine wpAny_bind ?_
  refine here_note hfr hown H fun W' s' T L hf H' => ?_
  have sd := H'.side hown
  refine flight_ok (fr := none) (T := T) H'.st H'.fr.fm H'.exc (.inl ⟨L, rfl⟩) rfl fun s₂ g R' F' X1 X2 => ?_
  exact q W' s₂ T ⟨H'.fresh, H'.go.fresh_end g H'.fresh, R', H'.fr.apartMono H'.st g sd, X2 rfl, fun T L e' => by exact (nomatch e')⟩
theorem Out.here {m' : List (Str × V)} {Q : Flow → Shared → Prop} {x : Str} (h : ∀ W' s' e ph, Here C A own W s σ' env (ρ.at m') e x ph W' s' → E (.ref e) s') : Out C A own W s σ' env ρ m' Q E (.exc x) :=
  fun W' s' e ph fr g R F X hp => h W' s' e ph ⟨fr, g, R, F, X, hp⟩
structure LoopAt (C : Cy) (A : Around) (own its : List Addr) (W₀ : Wd) (s₀ : Shared) (r : Rec) (ρ : Fr) (env : Env) (t : Expr) (body : List Stmt) (I : Addr) (fl : Fl) (m' : List (Str × V)) (σ' : St) (k : Nat) (s : Shared) (it : It) (m : List (Str × V)) (σ : St) (W : Wd) : Prop where
  run : forL r ρ t body k it m σ = some (fl, m', σ')
  tgt : tgtOk it t = true
  go : Go C A (own ++ its) W₀ s₀ W s
  st : StR C W σ s
  fr : FrR C A W env own (ρ.at m) s.heap
  itr : ItR C.toCx W s.heap it its I
  side : Side C A W own its
theorem Go.restrict (x : Go C A (own ++ its) W s W' s') (fr : ∀ b ∈ its, s.heap.get? b = none) : Go C A own W s W' s' :=
  ⟨x.le, fun b o e t => x.keep b o e (by
    rintro (q | q | q)
    · exact t (.inl q)
    · exact t (.inr (.inl q))
    · rcases List.mem_append.mp q with q | q
      · exact t (.inr (.inr q))
      · rw [fr b q] at e; exact nsx e), x.live, x.drawn⟩
theorem Go.left (x : Go C A own W s W' s') : Go C A (own ++ its) W s W' s' := x.weak fun _ m => List.mem_append.mpr (.inl m)
theorem Go.right (x : Go C A its W s W' s') : Go C A (own ++ its) W s W' s' := x.weak fun _ m => List.mem_append.mpr (.inr m)
theorem FrR.apartMono' (F : FrR C A W env own ρ s.heap) (R : StR C W σ s) (g : Go C A its W s W s') (Sd : Side C A W own its) (ob : ∀ b ∈ its, ∃ o, s.heap.get? b = some o ∧ (isIter o = true ∨ b ∈ W.mt) ∧ ∀ v, o.data ≠ .cell v) : FrR C A W env own ρ s'.heap := by
  have lo : ∀ b ∈ its, Loose W s.heap b := fun b m => by
    refine W3 (ob b m) fun o e i _ => ?_
    rcases i with i | i
    · exact .inr (w7 o e i)
    · exact .inl i
  have hs : ∀ b, Turn C W its b → Loose W s.heap b := fun b t => by
    rcases t with t | t | t
    · exact .inl (R.adr b t)
    · exact .inl (R.tabs b t)
    · exact lo b t
  have hp : ∀ b, stk A b → b ∈ W.mt := fun b t => (F.fm.onStk t).1
  have fm := F.fm.mono g fun b m st => absurd st (Sd.stk b m)
  have notT : ∀ b, b ∈ own → ¬ Turn C W its b := by
    intro b m t
    rcases t with t | t | t
    · exact (F.ownAp b m).1 t
    · exact (F.ownAp b m).2 t
    · exact Sd.own b t m
  have vr : ∀ {d v}, VR C.toCx W s.heap d v → VR C.toCx W s'.heap d v := fun x => x.mono g.le g.keep hs hp
  have cellT : ∀ c v, s.heap.IsCell c v → ¬ Turn C W its c := by
    intro c v hc t
    rcases t with t | t | t
    · exact R.notCell_adr t hc
    · exact R.notCell_tab t hc
    · refine W3 (ob c t) fun o e _ nd => ?_
      refine w6 hc fun o' e' d => ?_
      clear hc
      rw [e] at e'; (revert e'; refine sm_r fun zz => ?_; subst zz)
      exact nd v d
  refine ⟨fm, F.kind, F.glob, F.blt, F.frame, F.code, F.ownMt, F.ownAp, F.ownStk, F.L, F.nmG, F.nmL, fun y hy hp => ?_, ?_, fun y v hv hk => ?_, F.apart⟩
  · refine z0 (F.nmC y hy hp) fun k c ov h1 h2 h3 => ?_
    exact (W1 k c ov h1 h2 (g.keep.cell h3 (notT c h2)))
  · refine w6 (F.ns) fun m hm hv => ?_
    refine (w7 m (g.keep.ns hm (notT _ F.L)) (fun y v e k => ?_))
    refine w6 (hv y v e k) fun v' e' r => ?_
    exact (w7 v' e' (vr r))
  · refine X4 (F.cells y v hv hk) fun k c v' h1 h2 h3 h4 => ?_
    exact (W7 k c v' h1 (g.keep.cell h2 (cellT _ _ h2)) (vr h3) h4)
theorem forL_ok (HS : OkS C r n) (hr : Room A n) {outer : List Env} (hfr : A.frames = some (env :: outer)) {t : Expr} {body : List Stmt} {fl : Fl} {m' : List (Str × V)} {I : Addr} {Rr : Result → Shared → Prop}
    (hown : ∀ b ∈ own, ∃ o, s₀.heap.get? b = some o) (fresh : ∀ b ∈ its, s₀.heap.get? b = none) {k : Nat} {s : Shared} {it : It} {m : List (Str × V)} {σ : St} {W : Wd} (h : LoopAt C A own its W₀ s₀ r ρ env t body I fl m' σ' k s it m σ W)
    (q : Out C A own W₀ s₀ σ' env ρ m' (fun f s' => Rr (.ok f) s') (fun e s' => notedBy C.M A env (fun e s'' => Rr (.error e) s'') e s') fl) : codeAny C.M A (.forLoop t (.ref I) body [] env) Rr s := by
  refine codeAny_forLoop_any (I := fun k s => ∃ it m σ W, LoopAt C A own its W₀ s₀ r ρ env t body I fl m' σ' k s it m σ W) (fun k s hI => ?_) k ⟨it, m, σ, W, h⟩
  obtain ⟨it, m, σ, W, h⟩ := hI
  induction k using Nat.casesAuxOn with
  | zero => exact nsx h.run
  | succ k =>
    refine bd_e (show (bd (next σ it) fun o => match o with
      | none => some (.next, m, σ)
      | some (v, i') => bd (bindT ρ.names ρ.pars t v m) fun m₁ => bd (execs r ρ body m₁ σ) fun p => match p.1 with
        | .next => forL r ρ t body k i' p.2.1 p.2.2
        | f => some (f, p.2.1, p.2.2)) = some (fl, m', σ') from h.run) fun o h1 h2 => ?_
    refine next_ok hr.handled h.st h.itr h.side h.tgt h1 (fun ho h' kp R' => ?_) (fun v it' ho v' s₁ fin => ?_)
    · clear h1
      subst ho
      (revert q; (first | refine sp3_g h2 ?_ | refine sp_g h2 ?_); intro q)
      refine wpAny_pure ?_
      have ob := h.itr.objs
      exact q W _ ((h.go.restrict fresh).fresh_raw (tk := s.toks) kp fresh) R' (h.fr.drawn h.side ob kp)
    · subst ho
      refine bd_e h2 fun m₁ h3 h4 => ?_
      replace h4 := bd_some h4
      refine wi7 h4 fun f₁ m₂ σ₂ h5 h6 => ?_
      clear h4
      refine fin fun s₂ g₂ R₂ xv I₂ => ?_
      have sd := h.side
      have ob := h.itr.objs
      have F₂ : FrR C A W env own (ρ.at m) s₂.heap := h.fr.apartMono' h.st g₂ sd ob
      refine assign_ok hr.handled h3 F₂ R₂ xv fun s₃ g₃ R₃ F₃ => ?_
      refine w8 (ItR.go I₂ sd g₃ R₂ F₂.fm F₂.ownMt) fun I₃ sd₃ => ?_
      have go₃ : Go C A (own ++ its) W₀ s₀ W s₃ := (h.go.trans g₂.right).trans g₃.left
      refine execs_ok HS hr hfr h5 F₃ R₃ ?_
      clear h5
      induction f₁ using Fl.casesOn with
      | next =>
        intro W₄ s₄ g₄ R₄ F₄
        refine w8 (ItR.go I₃ sd₃ g₄ R₃ F₃.fm F₃.ownMt) fun I₄ sd₄ => ?_
        exact ⟨k, Nat.lt_succ_self k, it', m₂, σ₂, W₄, h6, next_tgt h1 h.tgt, go₃.trans g₄.left, R₄, F₄, I₄, sd₄⟩
      | ret v =>
        (revert q; (first | refine sp3_g h6 ?_ | refine sp_g h6 ?_); intro q)
        intro W₄ s₄ v₄ g₄ R₄ F₄ x₄
        exact q W₄ s₄ v₄ ((go₃.restrict fresh).trans g₄) R₄ F₄ x₄
      | exc x =>
        (revert q; (first | refine sp3_g h6 ?_ | refine sp_g h6 ?_); intro q)
        intro W₄ s₄ e ph fr g₄ R₄ F₄ X₄ hp
        refine q W₄ s₄ e ph (fun b mb => ?_) ((go₃.restrict fresh).trans g₄) R₄ F₄ X₄ hp
        induction z : s₀.heap.get? b using Option.casesOn with
        | none => rfl
        | some o => refine w5 (go₃.live b o z) fun o' e' => ?_; rw [fr b mb] at e'; exact nsx e'
theorem own_live (F : FrR C A W env own ρ s.heap) (R : StR C W σ s) : ∀ b ∈ own, ∃ o, s.heap.get? b = some o := fun b m => R.live b (F.ownMt b m)
theorem notSet_fold {e : Expr} (h : isSet e = false) (x : Value) : foldedSetIterable e env x = pure x := by
  induction e using Expr.casesOn <;> first | rfl | exact tfx h
theorem for_ok (G : Gr C X) (H : OkE C r n) (HS : OkS C r n) (hr : Room A n) {outer : List Env} (hfr : A.frames = some (env :: outer)) {t i : Expr} {body : List Stmt} {p : Pos} {it : It} {σ₁ : St} {fl : Fl} {m' : List (Str × V)} {Q : Flow → Shared → Prop}
    (h1 : iterE r i ρ σ = some (it, σ₁)) (ht : tgtOk it t = true) (h2 : forL r ρ t body turnsMost it ρ.vars σ₁ = some (fl, m', σ')) (F : FrR C A W env own ρ s.heap) (R : StR C W σ s) (q : Out C A own W s σ' env ρ m' Q E fl) : wpAny C.M A (exec (.For t i body [] p) env) Q E s := by
  have hown := own_live F R
  have hset : isSet i = false := (iterE_ok (E := E) (Q := fun _ _ => True) G H hr h1 F R F.ownMt fun _ _ _ _ _ _ _ _ _ => trivial).1
  refine wpAny_For ?_ (notSet_fold hset)
  refine (iterE_ok G H hr h1 F R F.ownMt fun W₁ s₁ its I fr g R₁ I₁ sd => ?_).2
  have F₁ := F.mono R g
  refine forL_ok (W₀ := W) (s₀ := s) (Rr := fun r s' => match r with | .ok f => Q f s' | .error e => cameBackBy C.M A env E e s') HS hr hfr hown fr ⟨h2, ht, g.weak0, R₁, F₁, I₁, sd⟩ ?_
  clear h2
  induction fl using Fl.casesOn with
  | next => exact q
  | ret v => exact q
  | exc x =>
    intro W₂ s₂ e ph f₂ g₂ R₂ F₂ X₂ hp
    refine here_noted (E := fun e s'' => cameBackBy C.M A env E e s'') hfr hown ⟨f₂, g₂, R₂, F₂, X₂, hp⟩ fun W₃ s₃ T L hf H₃ => ?_
    refine here_came hf hown H₃ fun W₄ s₄ H₄ => ?_
    exact q W₄ s₄ e _ H₄.fresh H₄.go H₄.st H₄.fr H₄.exc H₄.held
theorem Two.out (F : FrR C A W env own ρ s.heap) (R : StR C W σ s) {x : Str} {Q : Flow → Shared → Prop} (q : Out C A own W s σ' env ρ ρ.vars Q E (.exc x)) : Thr C A [] W s σ' x E := by
  intro W' s' a T f1 f2 g R' X'
  refine q W' s' a (.fly T) (fun b m => ?_) g.weak0 R' (F.mono R g) X' (fun T L e => by exact (nomatch e))
  rcases mc m with rfl | m
  · exact f1
  · refine rwm (List.mem_singleton.mp m) ?_; exact f2
theorem if_ok (HT : OkT C r n) (HS : OkS C r n) (hr : Room A n) {outer : List Env} (hfr : A.frames = some (env :: outer)) {t : Expr} {a b : List Stmt} {p : Pos} {c : Bool} {σ₁ : St} {fl : Fl} {m' : List (Str × V)} {Q : Flow → Shared → Prop}
    (h1 : r.T t ρ σ = some (c, σ₁)) (h2 : execs r ρ (match c with | true => a | false => b) ρ.vars σ₁ = some (fl, m', σ')) (F : FrR C A W env own ρ s.heap) (R : StR C W σ s) (q : Out C A own W s σ' env ρ m' Q E fl) : wpAny C.M A (exec (.If t a b p) env) Q E s := by
  refine wpAny_If (HT h1 hr F R fun W₁ s₁ g R₁ => ?_)
  have F₁ := F.mono R g
  induction c using Bool.casesOn with
  | true => exact execs_ok HS hr hfr h2 F₁ R₁ (q.before g.weak0)
  | false => exact execs_ok HS hr hfr h2 F₁ R₁ (q.before g.weak0)
theorem swaps_not {e : Expr} {t : Option Expr} {l : Nat} (h : isComp e = false) : swapsWith e t l env = pure false := by
  induction e using Expr.casesOn <;> first | rfl | exact tfx h
theorem evX_ok (hC : ∀ {f : Expr} {es : List Expr} {p : Pos} {ρ : Fr} {σ : St} {Rr : Rs} {σ' : St}, evC X r f es p ρ σ = some (Rr, σ') → ∀ {A : Around} {env : Env} {own : List Addr} {W : Wd} {s : Shared}, Room A n → FrR C A W env own ρ s.heap → StR C W σ s → ∀ {Q E : Value → Shared → Prop}, Two C A W s σ' Rr Q E → wpAny C.M A (eval (.Call f es [] p) env) Q E s)
    (H : OkE C r n) (hr : Room A n) {e : Expr} {Rr : Rs} {Q E : Value → Shared → Prop} (h : evX X r e ρ σ = some (Rr, σ')) (F : FrR C A W env own ρ s.heap) (R : StR C W σ s) (q : Two C A W s σ' Rr Q E) : wpAny C.M A (eval e env) Q E s := by
  have plain : val (r.E e ρ σ) = some (Rr, σ') → wpAny C.M A (eval e env) Q E s := by
    intro h
    refine w6 (val_some h) fun v h1 zz1 => ?_
    clear h
    subst zz1
    exact H h1 hr F R q
  induction e using Expr.casesOn with
  | Call f es ks p =>
    induction ks using List.casesOn with
    | nil => exact hC (show evC X r f es p ρ σ = some (Rr, σ') from h) hr F R q
    | cons k ks => exact plain h
  | _ => exact plain h
theorem two_out (F : FrR C A W env own ρ s.heap) (R : StR C W σ s) {Rr : Rs} {fl : V → Fl} {m' : V → List (Str × V)} {Q : Flow → Shared → Prop} {Q' : Value → Shared → Prop} (hv : ∀ v, Rr = .val v → Val C A [] W s σ' v Q')
    (hx : ∀ x, Rr = .exc x → Out C A own W s σ' env ρ ρ.vars Q E (.exc x)) : Two C A W s σ' Rr Q' E := by
  induction Rr using Rs.casesOn with
  | val v => exact hv v rfl
  | exc x => exact Two.out (ρ := ρ) F R (hx x rfl)
theorem set_plain {prog : Program} {w : World} {l : Addr} {items : Array Value} {k : Int} {t : Tok} {v : Value} {Q : Unit → Shared → Prop} (hl : PlainL s.heap l items) (h0 : 0 ≤ k) (hfit : k < 2 ^ 63) (hn : k < items.size)
    (hQ : ∀ h', PlainL h' l (items.setIfInBounds k.toNat v) → Heap.SameBut l s.heap h' → Q () { s with heap := h' }) : wpAny (model prog w) A (setItem (.ref l) (.int k t) v) Q E s := by
  refine x8 (id hl) fun o ne ho hc hdn hd => ?_
  unfold setItem
  try with_reducible refine wpAny_holding ?_
  first | refine wpAny_bind (wpAny_pure ?_) | skip
  refine wpAny_bind (wpAny_sequenceKey hl.isList.typeIs (by decide) ?_)
  refine wpAny_bind (wpAny_callSpecial?_slot (name := Str.ofString "__setitem__") hl.isList.typeIs slot_list_setitem
    (wpAny_call_entry slot_list_setitem hl.isList.typeIs entry_list_setitem ?_ (args_list_setitem _ _ _)))
  refine (?_ : wpAny _ _ (Builtin.List.listSubscript? (.int k t) >>= _) _ _ s)
  refine wpAny_bind (wpAny_listSubscript_int (fitsIndex_of h0 hfit) ?_)
  clear hfit
  refine w5 (Int.eq_ofNat_of_zero_le h0) fun j zz1 => ?_
  clear h0
  subst zz1
  have hj : j < items.size := by omega
  have hx' : items[j]? = some items[j] := Array.getElem?_eq_getElem hj
  refine (?_ : wpAny _ _ ((seqItemAt l j >>= fun r => pure (r.map (j, ·))) >>= _) _ _ s)
  refine wpAny_bind (wpAny_bind (wpAny_seqItemAt ho hd (wpAny_pure ?_)))
  refine rwm (hx') ?_
  refine (?_ : wpAny _ _ (setSeqItemAt l j v >>= _) _ _ s)
  refine w5 (Obj.data_mapSeq hd (·.setIfInBounds j v)) fun n' hd' => ?_
  have hfin : PlainL (s.heap.update l (Obj.mapSeq (·.setIfInBounds j v))) l (items.setIfInBounds j v) :=
    (y8 _ n' (Heap.get?_update_self _ ho (Obj.isFreed_of_seq hd')) ((Obj.cls_mapSeq ..).trans hc) (by obtain ⟨c, d, dt, sl⟩ := o; have hd : dt = _ := hd; clear hc hd' ho; subst hd; exact hdn) hd')
  refine wpAny_bind (wpAny_setSeqItemAt ho hd ?_)
  first
    | exact wpAny_bind (wpAny_pure (wpAny_pure (w7 .none rfl (wpAny_pure (hQ _ hfin (Heap.SameBut.update ..))))))
    | exact wpAny_pure ⟨.none, rfl, wpAny_pure (hQ _ hfin (Heap.SameBut.update ..))⟩
theorem subset_ok (H : OkE C r n) (hr : Room A n) {o i e : Expr} {p p' : Pos} {v u : V} {a k : Nat} {l : List V} {σ₁ σ₂ σ₃ : St} {Q : Flow → Shared → Prop} (h1 : r.E e ρ σ = some (v, σ₁)) (h2 : r.E o ρ σ₁ = some (.lst a, σ₂)) (h3 : r.E i ρ σ₂ = some (u, σ₃)) (h4 : σ₃.list a = some l) (h5 : natOf u = some k) (h6 : Nat.blt k l.length = true)
    (h7 : σ₃.put a (l.set k v) = some σ') (F : FrR C A W env own ρ s.heap) (R : StR C W σ s) (q : Out C A own W s σ' env ρ ρ.vars Q E .next) : wpAny C.M A (exec (.Assign [.Subscript o i p'] e p) env) Q E s := by
  refine wpAny_Assign_Subscript (H h1 hr F R fun W₁ s₁ v₁ g₁ R₁ x₁ => ?_) (by clear h1; induction e using Expr.casesOn <;> rfl)
  have F₁ := F.mono R g₁
  refine H h2 hr F₁ R₁ fun W₂ s₂ v₂ g₂ R₂ x₂ => ?_
  have F₂ := F₁.mono R₁ g₂
  refine H h3 hr F₂ R₂ fun W₃ s₃ v₃ g₃ R₃ x₃ => ?_
  have F₃ := F₂.mono R₂ g₃
  refine w8 (natOf_some h5) fun zz1 hk => ?_
  clear h3 h5
  subst zz1
  have x₂' := g₃.vr R₂ F₂.fm (fun _ m => nomatch m) x₂
  have x₁' := g₃.vr R₂ F₂.fm (fun _ m => nomatch m) (g₂.vr R₁ F₁.fm (fun _ m => nomatch m) x₁)
  refine X0 (VR.list R₃ h4 x₂') fun ad vs zz1 had pl rs hb => ?_
  clear x₂ x₂'
  subst zz1
  have hl := VRs.length rs
  have hkl : k < l.length := Nat.le_of_ble_eq_true h6
  replace x₃ := x₃.inv
  refine w5 x₃ fun t zz1 => ?_
  clear x₃
  subst zz1
  refine set_plain pl (by omega) (by omega) (by refine rwm (List.size_toArray) ?_; omega) fun h' ph sb => ?_
  have ph : PlainL h' ad (vs.set k v₁).toArray := by simpa using ph
  refine w8 (put_some h7) fun hi zz1 => ?_
  clear h7
  subst zz1
  have g₄ : Go C A [] W₃ s₃ W₃ { s₃ with heap := h' } := Go.put (tk := s₃.toks) had sb ph
  have g := ((g₁.trans g₂).trans g₃).trans g₄
  exact q W₃ _ g.weak0 (R₃.put (tk := s₃.toks) hi had sb ph (rs.set x₁' k) (by refine rwm (List.length_set) ?_; exact hb)) (F₃.mono R₃ g₄)
theorem filterNames {f : Expr → Option Str} (hf : ∀ x p y, f (.Name x p) = some y → y = x) : ∀ {ts : List Expr} {xs : List Str}, tgtNames ts = some xs → (ts.filterMap f).length ≤ ts.length ∧ ((ts.filterMap f).length = ts.length → ts.filterMap f = xs ∧ ∀ x ∈ xs, ∃ p, f (.Name x p) = some x)
  | [], xs, h => by (revert h; refine sm_r fun zz => ?_; subst zz); exact ⟨Nat.le_refl _, fun _ => ⟨rfl, fun _ m => nomatch m⟩⟩
  | t :: ts, xs, h => by
    refine bd_e2 (show bd (vName t) (fun n => bd (tgtNames ts) fun xs => some (n.1 :: xs)) = some xs from h) fun x p hn h => ?_
    obtain rfl := vName_some hn
    · refine bd_e (show (bd (tgtNames ts) fun xs => some (x :: xs)) = some xs from h) fun xs' h1 h => ?_
      (revert h; refine sm_r fun zz => ?_; subst zz)
      refine w8 (filterNames hf h1) fun e1 e2 => ?_
      induction q : f (.Name x p) using Option.casesOn with
      | none =>
        have : (Expr.Name x p :: ts).filterMap f = ts.filterMap f := by (refine rwm (List.filterMap_cons) ?_; exact rwm (q) rfl)
        refine rwm (this) ?_
        refine ⟨by refine rwm (List.length_cons) ?_; omega, fun e => ?_⟩
        rw [List.length_cons] at e; omega
      | some y =>
        have hy := hf x p y q
        clear h
        subst hy
        have : (Expr.Name y p :: ts).filterMap f = y :: ts.filterMap f := by (refine rwm (List.filterMap_cons) ?_; exact rwm (q) rfl)
        refine rwm (this) ?_
        refine ⟨by simp [e1], fun e => ?_⟩
        refine w8 (e2 (by simpa using e)) fun e3 e4 => ?_
        refine ⟨by exact rwm (e3) rfl, fun z m => ?_⟩
        rcases mc m with rfl | m
        · exact ⟨p, q⟩
        · exact e4 z m
theorem swapped_ok {ts : List Expr} {k : Nat} {p' : Pos} {e : Expr} {xs : List Str} (hx : tgtNames ts = some xs) (hv : ∀ vs k' p, e = .Tuple vs k' p → vs.all (constantsAlone 8) = false) : ∃ o, swappedStores [.Tuple ts k p'] e env = pure o ∧ ∀ names, o = some names → names = xs := by
  induction e using Expr.casesOn with
  | Tuple vs k' p =>
    have hc := hv vs k' p rfl
    unfold swappedStores
    simp only []
    split
    · exact (w7 none rfl (fun _ e => by exact nsx e))
    · split
      · exact (w7 none rfl (fun _ e => by exact nsx e))
      · split
        · exact (w7 none rfl (fun _ e => by exact nsx e))
        · rename_i hl
          split
          · exact (w7 none rfl (fun _ e => by exact nsx e))
          · refine rwm (hc) ?_
            refine (w7 (some _) rfl (fun names e => ?_))
            (revert e; refine sm_r fun zz => ?_; subst zz)
            have hlen := bne_eq_false_iff_eq.mp (Bool.or_eq_false_iff.mp (Bool.eq_false_iff.mpr hl)).1
            refine ((filterNames ?_ hx).2 hlen).1
            intro x q y hy
            dsimp only at hy
            split at hy
            · (revert hy; refine sm_r fun zz => ?_; subst zz); rfl
            · exact nsx hy
  | _ => exact (w7 none rfl (fun _ e => by exact nsx e))
theorem assignT_gen (hh : A.handled = none) {ts : List Expr} {e : Expr} {k : Nat} {p p' : Pos} {v : V} {P : Wd → Prop} {m' : List (Str × V)} {Q : Flow → Shared → Prop} (h0 : tupOk ts e = true)
    (hev : ∀ {Q : Value → Shared → Prop}, (∀ W' s' v', P W' → Go C A [] W s W' s' → StR C W' σ' s' → VR C.toCx W' s'.heap v v' → Q v' s') → wpAny C.M A (eval e env) Q E s) (h2 : bindT ρ.names ρ.pars (.Tuple ts k p') v ρ.vars = some m')
    (F : FrR C A W env own ρ s.heap) (R : StR C W σ s) (q : ∀ W' s', P W' → Go C A own W s W' s' → StR C W' σ' s' → FrR C A W' env own (ρ.at m') s'.heap → Q .next s') : wpAny C.M A (exec (.Assign [.Tuple ts k p'] e p) env) Q E s := by
  have hsw : swapsWithSole [.Tuple ts k p'] e p.line env = pure false := by clear h0 hev; induction e using Expr.casesOn <;> rfl
  refine rwm (exec_Assign_arm ..) ?_
  refine wpAny_bind (wpAny_standAt ?_)
  refine rwm (hsw) ?_
  refine wpAny_bind (wpAny_pure ?_)
  refine rwm (if_neg (by decide)) ?_
  refine wpAny_bind (hev fun W₁ s₁ v₁ hP g₁ R₁ x₁ => ?_)
  have F₁ := F.mono R g₁
  have plainRoad : wpAny C.M A (assignStores env v₁ none ((assignEach [.Tuple ts k p'] env).map (·.2))) Q E s₁ := by
    refine (?_ : wpAny C.M A (do assignAll v₁ ((assignEach [.Tuple ts k p'] env).map (·.2)); pure .next) Q E s₁)
    refine wpAny_bind ?_
    refine (?_ : wpAny C.M A (assign (.Tuple ts k p') env v₁) _ E s₁)
    exact assign_ok hh h2 F₁ R₁ x₁ fun s₂ g₂ R₂ F₂ => wpAny_pure (q W₁ s₂ hP (g₁.weak0.trans g₂) R₂ F₂)
  obtain ⟨xs, hx, hnd, hv⟩ : ∃ xs, tgtNames ts = some xs ∧ xs.Nodup ∧ ∀ vs k' p, e = .Tuple vs k' p → vs.all (constantsAlone 8) = false := by
    unfold tupOk at h0
    induction q : tgtNames ts using Option.casesOn with
    | none => rw [q] at h0; exact ftx h0
    | some xs =>
      rw [q] at h0
      refine w8 (Bool.and_eq_true_iff.mp h0) fun h3 h4 => ?_
      refine (W4 xs rfl (nodupK_ok h3) (fun vs k' p e' => ?_))
      clear h0 hev hsw
      subst e'
      have h4 : (!(vs.all (constantsAlone 8))) = true := h4
      simpa using h4
  refine w6 (swapped_ok (env := env) (k := k) (p' := p') hx hv) fun o ho hn => ?_
  refine rwm (ho) ?_
  refine wpAny_bind (wpAny_pure ?_)
  clear ho
  induction o using Option.casesOn with
  | none => exact plainRoad
  | some names =>
    have := hn names rfl
    clear hn
    subst this
    clear hev
    induction v using V.casesOn with
    | tup l =>
      refine Y0 (bindL_some (show bindL ρ.names ρ.pars ts l ρ.vars = some m' from h2)) fun xs' e1 e2 e3 e4 => ?_
      rw [hx] at e1; (revert e1; refine sm_r fun zz => ?_; subst zz)
      replace x₁ := x₁.inv
      refine W6 x₁ fun a n vs z b rs zz1 => ?_
      clear x₁
      clear plainRoad
      subst zz1
      have hl := VRs.length rs
      refine (?_ : wpAny C.M A (do rule "assign.swapped-stores"; let items ← unpackItems (.ref a) names.length none; assignInOrder (names.reverse.map fun n => bindName env n) items.reverse; pure .next) Q E s₁)
      refine wpAny_bind (wpAny_rule ?_)
      have hsz : names.length = vs.toArray.size := by (refine rwm (List.size_toArray) ?_; refine rwm (hl) ?_; exact rwm (e2) rfl)
      refine rwm (hsz) ?_
      refine wpAny_bind (wpAny_unpackItems_tuple hh (Y5 _ z.1 rfl _ rfl) fun h' eb => ?_)
      have kp : ∀ b o, s₁.heap.get? b = some o → h'.get? b = some o := fun b o e => eb b o (fun q => by rw [q, get_size_none] at e; exact nsx e) e
      have g₂ : Go C A [] W₁ s₁ W₁ { s₁ with heap := h' } := Go.grow (tk := s₁.toks) kp
      have R₂ : StR C W₁ σ' { s₁ with heap := h' } := R₁.grow (tk := s₁.toks) kp
      have F₂ := F₁.mono R₁ g₂
      have rs₂ := g₂.vrs R₁ F₁.fm (fun _ m => nomatch m) rs
      have er : (names.reverse.map fun n => bindName env n) = ((names.zip l).reverse.map fun p => bindName env p.1) := by
        have : (names.zip l).reverse.map (·.1) = names.reverse := by (refine rwm (List.map_reverse) ?_; exact rwm (List.map_fst_zip (by omega)) rfl)
        (refine rwl (this) ?_; refine rwm (List.map_map) ?_); rfl
      refine rwm (er) ?_
      have ev : ((names.zip l).reverse.map (·.2)) = l.reverse := by (refine rwm (List.map_reverse) ?_; exact rwm (List.map_snd_zip (by omega)) rfl)
      have rr : VRs C.toCx W₁ h' ((names.zip l).reverse.map (·.2)) vs.reverse := by refine rwm (ev) ?_; exact VRs.reverse rs₂
      have nd : ((names.zip l).map (·.1)).Nodup := by refine rwm (List.map_fst_zip (by omega)) ?_; exact hnd
      refine wpAny_bind ?_
      have := stores_ok (env := env) (m := ρ.vars) (Q := fun _ s' => wpAny C.M A (pure Flow.next) Q E s') (E := E) (l := (names.zip l).reverse) (fun p m => e4 p (List.mem_reverse.mp m)) (show FrR C A W₁ env own (ρ.at ρ.vars) ({ s₁ with heap := h' } : Shared).heap from F₂) R₂ rr
        (fun s₃ g₃ R₃ F₃ => wpAny_pure (q W₁ s₃ hP ((g₁.weak0.trans g₂.weak0).trans g₃) R₃ (F₃.same fun y => by
          (refine rwm (e3) ?_; refine rwm (look_setAll) ?_; refine rwm (look_setAll) ?_; refine rwm (List.reverse_reverse ..) ?_; exact rwm (look_reverse nd) rfl))))
        (fun n => bindName env n) (fun h => wpAny_bindName h)
      simpa using this
    | _ => exact nsx h2
theorem assignT_ok (H : OkE C r n) (hr : Room A n) {ts : List Expr} {e : Expr} {k : Nat} {p p' : Pos} {v : V} {σ₁ : St} {m' : List (Str × V)} {Q : Flow → Shared → Prop} (h0 : tupOk ts e = true) (h1 : r.E e ρ σ = some (v, σ')) (h2 : bindT ρ.names ρ.pars (.Tuple ts k p') v ρ.vars = some m')
    (F : FrR C A W env own ρ s.heap) (R : StR C W σ s) (q : Out C A own W s σ' env ρ m' Q E .next) : wpAny C.M A (exec (.Assign [.Tuple ts k p'] e p) env) Q E s :=
  assignT_gen (P := fun _ => True) hr.handled h0 (fun k => H h1 hr F R fun W' s' v' g R' x => k W' s' v' trivial g R' x) h2 F R fun W' s' _ g R' F' => q W' s' g R' F'
end
theorem cellsFrom_spec : ∀ (names : List (Str × NameKind)) (h : Heap) (acc : List (Str × Addr)), ∃ new : List (Str × Addr), cellsFrom h.objs.size names acc = new ++ acc ∧
    (∀ p ∈ new, h.objs.size ≤ p.2 ∧ (p.1, NameKind.cell) ∈ names ∧ (pushCells h names).get? p.2 = some { cls := .type "cell", data := .cell none }) ∧ (new.Pairwise fun x y => x.2 ≠ y.2) ∧ (∀ x, (x, NameKind.cell) ∈ names → ∃ c, (x, c) ∈ new)
  | [], h, acc => (Y2 [] rfl (fun _ m => (nomatch m)) .nil (fun _ m => nomatch m))
  | (x, k) :: r, h, acc => by
    induction hk : k == NameKind.cell using Bool.casesOn with
    | true =>
      have ek : k = .cell := eq_of_beq hk
      clear hk
      subst ek
      refine Y0 (cellsFrom_spec r (h.push { cls := .type "cell", data := .cell none }) ((x, h.objs.size) :: acc)) fun new e1 e2 e3 e4 => ?_
      have sz : (h.push { cls := .type "cell", data := .cell none }).objs.size = h.objs.size + 1 := Heap.size_push ..
      refine (Y2 (new ++ [(x, h.objs.size)]) ?_ (fun p m => ?_) ?_ (fun y m => ?_))
      · show (if (NameKind.cell == NameKind.cell) = true then cellsFrom (h.objs.size + 1) r ((x, h.objs.size) :: acc) else cellsFrom h.objs.size r acc) = _
        (refine rwm (if_pos (by decide)) ?_; refine rwl (sz) ?_; refine rwm (e1) ?_); simp
      · have ph : pushCells h ((x, NameKind.cell) :: r) = pushCells (h.push { cls := .type "cell", data := .cell none }) r := by
          refine (?_ : (if (NameKind.cell == NameKind.cell) = true then _ else _) = _)
          exact rwm (if_pos (by decide)) rfl
        refine rwm (ph) ?_
        rcases List.mem_append.mp m with m | m
        · refine W2 (e2 p m) fun z1 z2 z3 => ?_
          exact ⟨by rw [sz] at z1; omega, .tail _ z2, z3⟩
        · refine rwm (List.mem_singleton.mp m) ?_
          exact ⟨Nat.le_refl _, .head _, pushCells_keeps r _ _ _ (Heap.get?_push_size _ rfl)⟩
      · refine List.pairwise_append.mpr ⟨e3, by simp, fun p m q mq => ?_⟩
        refine rwm (List.mem_singleton.mp mq) ?_
        have := (e2 p m).1
        rw [sz] at this
        exact fun e => by have e : p.2 = h.objs.size := e; rw [e] at this; exact absurd this (Nat.not_succ_le_self _)
      · rcases List.mem_cons.mp m with e | m
        · (first | (obtain ⟨rfl, rfl⟩ := Prod.mk.inj e) | clear m; cases e); exact ⟨h.objs.size, List.mem_append.mpr (.inr (.head _))⟩
        · refine w5 (e4 y m) fun c z => ?_
          exact ⟨c, List.mem_append.mpr (.inl z)⟩
    | false =>
      refine Y0 (cellsFrom_spec r h acc) fun new e1 e2 e3 e4 => ?_
      have ph : pushCells h ((x, k) :: r) = pushCells h r := by
        refine (?_ : (if (k == NameKind.cell) = true then _ else _) = _)
        refine rwm (hk) ?_; rfl
      refine (Y2 new ?_ (fun p m => ?_) e3 (fun y m => ?_))
      · show (if (k == NameKind.cell) = true then _ else _) = _
        refine rwm (hk) ?_; exact e1
      · refine rwm (ph) ?_
        refine W2 (e2 p m) fun z1 z2 z3 => ?_
        exact ⟨z1, .tail _ z2, z3⟩
      · rcases List.mem_cons.mp m with e | m
        · (first | ((refine w8 (Prod.mk.inj e) fun zz1 zz2 => ?_; subst zz1; clear e m ph; subst zz2)) | cases e); simp at hk
        · exact e4 y m
noncomputable def closN (env : Env) : List (Str × NameKind) → List (Str × Addr) → List (Str × Addr)
  | [], acc => acc
  | (x, k) :: r, acc => if k == .free then closN env r ((x, (env.cells.lookup x).getD 0) :: acc) else closN env r acc
section
variable {C : Cy} {X : Tx} {A : Around} {own its : List Addr} {W W' W₀ W₁ : Wd} {s s' s₀ s₁ : Shared} {σ σ' : St} {env : Env} {ρ : Fr} {r : Rec} {n : Nat} {E : Value → Shared → Prop}
theorem closureFor_ok (sc : Scope) (h : ∀ x, (x, NameKind.free) ∈ sc.names → ∃ c, env.cells.lookup x = some c) : closureFor sc env = pure (closN env sc.names []) := by
  have go : ∀ (names : List (Str × NameKind)) (acc : List (Str × Addr)), (∀ x, (x, NameKind.free) ∈ names → ∃ c, env.cells.lookup x = some c) →
      (forIn names acc fun (p : Str × NameKind) (cs : List (Str × Addr)) => (if p.2 == .free then (do let a ← cellOf env p.1; pure (.yield ((p.1, a) :: cs))) else pure (.yield cs) : Sem (ForInStep (List (Str × Addr))))) = pure (closN env names acc) := by
    intro names
    induction names with
    | nil => intro acc _; refine rwm (List.forIn_nil) ?_; rfl
    | cons p names ih =>
      intro acc h
      obtain ⟨x, k⟩ := p
      refine rwm (List.forIn_cons ..) ?_
      induction hk : k == NameKind.free using Bool.casesOn with
      | true =>
        have ek : k = .free := eq_of_beq hk
        clear hk
        subst ek
        refine w5 (h x (.head _)) fun c e => ?_
        have e1 : cellOf env x = pure c := by unfold cellOf; exact rwm (e) rfl
        have e2 : closN env ((x, NameKind.free) :: names) acc = closN env names ((x, c) :: acc) := by
          refine (?_ : (if (NameKind.free == NameKind.free) = true then closN env names ((x, (env.cells.lookup x).getD 0) :: acc) else closN env names acc) = _)
          (refine rwm (if_pos (by decide)) ?_; refine rwm (e) ?_); rfl
        (refine rwm (e2) ?_; refine rwl (ih ((x, c) :: acc) fun y m => h y (.tail _ m)) ?_)
        simp only [e1]
        rfl
      | false =>
        have e2 : closN env ((x, k) :: names) acc = closN env names acc := by
          refine (?_ : (if (k == NameKind.free) = true then _ else _) = _)
          refine rwm (hk) ?_; rfl
        (refine rwm (e2) ?_; refine rwl (ih acc fun y m => h y (.tail _ m)) ?_)
        rfl
  have := go sc.names [] h
  unfold closureFor
  exact (congrArg (fun m => m >>= pure) this).trans rfl
theorem lookup_nodup {α : Type} : ∀ {l : List (Str × α)}, (l.map (·.1)).Nodup → ∀ {x : Str} {c : α}, (x, c) ∈ l → l.lookup x = some c
  | [], _, _, _, m => nomatch m
  | (y, d) :: l, h, x, c, m => by
    refine w8 (List.nodup_cons.mp h) fun h1 h2 => ?_
    rcases List.mem_cons.mp m with e | m'
    · (first | ((refine w8 (Prod.mk.inj e) fun zz1 zz2 => ?_; subst zz1; clear e h h1 m; subst zz2)) | cases e); simp
    · have ne : (x == y) = false := by
        rw [beq_eq_false_iff_ne]
        intro q; clear h m; subst q
        exact h1 (List.mem_map.mpr (w7 _ m' rfl))
      (refine rwm (List.lookup_cons) ?_; refine rwm (ne) ?_)
      exact lookup_nodup h2 m'
theorem closN_spec (names : List (Str × NameKind)) (h : ∀ x, (x, NameKind.free) ∈ names → ∃ c, env.cells.lookup x = some c) (hn : (names.map (·.1)).Nodup) (ha : env.cells.Pairwise fun x y => x.2 ≠ y.2) :
    (∀ x c, (x, c) ∈ closN env names [] ↔ ((x, NameKind.free) ∈ names ∧ env.cells.lookup x = some c)) ∧ ((closN env names []).map (·.1)).Nodup ∧ (closN env names []).Pairwise (fun x y => x.2 ≠ y.2) := by
  have go : ∀ (names : List (Str × NameKind)) (acc : List (Str × Addr)), (∀ x, (x, NameKind.free) ∈ names → ∃ c, env.cells.lookup x = some c) → (names.map (·.1)).Nodup → (∀ p ∈ acc, p.1 ∉ names.map (·.1)) → (∀ p ∈ acc, env.cells.lookup p.1 = some p.2) → (acc.map (·.1)).Nodup →
      (∀ x c, (x, c) ∈ closN env names acc ↔ ((x, c) ∈ acc ∨ ((x, NameKind.free) ∈ names ∧ env.cells.lookup x = some c))) ∧ ((closN env names acc).map (·.1)).Nodup := by
    intro names
    induction names with
    | nil =>
      intro acc _ _ _ _ h5
      exact ⟨fun x c => ⟨fun m => .inl m, fun m => m.elim id fun z => nomatch z.1⟩, h5⟩
    | cons p names ih =>
      intro acc h1 h2 h3 h4 h5
      obtain ⟨x, k⟩ := p
      refine w8 (List.nodup_cons.mp h2) fun h2a h2b => ?_
      induction hk : k == NameKind.free using Bool.casesOn with
      | true =>
        have ek : k = .free := eq_of_beq hk
        clear hk
        subst ek
        refine w5 (h1 x (.head _)) fun c e => ?_
        have e2 : closN env ((x, NameKind.free) :: names) acc = closN env names ((x, c) :: acc) := by
          refine (?_ : (if (NameKind.free == NameKind.free) = true then closN env names ((x, (env.cells.lookup x).getD 0) :: acc) else closN env names acc) = _)
          (refine rwm (if_pos (by decide)) ?_; refine rwm (e) ?_); rfl
        refine rwm (e2) ?_
        refine w8 (ih ((x, c) :: acc) (fun y m => h1 y (.tail _ m)) h2b (fun p m => by
          rcases mc m with rfl | m
          · exact h2a
          · exact fun q => h3 p m (.tail _ q)) (fun p m => by
          rcases mc m with rfl | m
          · exact e
          · exact h4 p m) (List.nodup_cons.mpr ⟨fun q => by
          obtain ⟨p, mp, ep⟩ := List.mem_map.mp q
          exact h3 p mp (by refine rwm (ep) ?_; exact .head _), h5⟩)) fun i1 i2 => ?_
        refine ⟨fun y d => ?_, i2⟩
        rw [i1 y d]
        constructor
        · rintro (m | ⟨m, q⟩)
          · rcases List.mem_cons.mp m with e' | m
            · (first | ((refine w8 (Prod.mk.inj e') fun zz1 zz2 => ?_; clear h1 h2 h2a h3; subst zz1; clear e' e2 i1 i2 m; subst zz2)) | cases e'); exact .inr ⟨.head _, e⟩
            · exact .inl m
          · exact .inr ⟨.tail _ m, q⟩
        · rintro (m | ⟨m, q⟩)
          · exact .inl (.tail _ m)
          · rcases List.mem_cons.mp m with e' | m
            · (first | (obtain ⟨rfl, rfl⟩ := Prod.mk.inj e') | clear m; cases e'); rw [e] at q; (revert q; refine sm_r fun zz => ?_; subst zz); exact .inl (.head _)
            · exact .inr ⟨m, q⟩
      | false =>
        have e2 : closN env ((x, k) :: names) acc = closN env names acc := by
          refine (?_ : (if (k == NameKind.free) = true then _ else _) = _)
          refine rwm (hk) ?_; rfl
        refine rwm (e2) ?_
        refine w8 (ih acc (fun y m => h1 y (.tail _ m)) h2b (fun p m q => h3 p m (.tail _ q)) h4 h5) fun i1 i2 => ?_
        refine ⟨fun y d => ?_, i2⟩
        rw [i1 y d]
        constructor
        · rintro (m | ⟨m, q⟩)
          · exact .inl m
          · exact .inr ⟨.tail _ m, q⟩
        · rintro (m | ⟨m, q⟩)
          · exact .inl m
          · rcases List.mem_cons.mp m with e' | m
            · (first | ((refine w8 (Prod.mk.inj e') fun zz1 zz2 => ?_; subst zz1; clear e' e2 h1 h2 h2a h3 m; subst zz2)) | cases e'); simp at hk
            · exact .inr ⟨m, q⟩
  refine w8 (go names [] h hn (fun _ m => nomatch m) (fun _ m => nomatch m) List.nodup_nil) fun g1 g2 => ?_
  have g1' : ∀ x c, (x, c) ∈ closN env names [] ↔ ((x, NameKind.free) ∈ names ∧ env.cells.lookup x = some c) := fun x c => by
    rw [g1 x c]
    exact ⟨fun m => m.elim (fun z => nomatch z) id, .inr⟩
  refine ⟨g1', g2, ?_⟩
  have pw : ∀ l : List (Str × Addr), (l.map (·.1)).Nodup → (∀ p ∈ l, env.cells.lookup p.1 = some p.2) → l.Pairwise fun x y => x.2 ≠ y.2 := by
    intro l
    induction l with
    | nil => intro _ _; exact .nil
    | cons p l ih =>
      intro h1 h2
      refine w8 (List.nodup_cons.mp h1) fun h1a h1b => ?_
      refine List.pairwise_cons.mpr ⟨fun q mq e => ?_, ih h1b fun q m => h2 q (.tail _ m)⟩
      have m1 := mem_of_lookup (h2 p (.head _))
      have m2 := mem_of_lookup (h2 q (.tail _ mq))
      rw [← e] at m2
      have := name_of_addr ha m1 m2
      exact h1a (List.mem_map.mpr (w7 q mq this.symm))
  exact pw _ g2 fun p m => ((g1' p.1 p.2).mp m).2
theorem nodupN_ok : ∀ {l : List (Str × NameKind)}, nodupN l = true → (l.map (·.1)).Nodup
  | [], _ => List.nodup_nil
  | (x, k) :: l, h => by
    refine w8 (Bool.and_eq_true_iff.mp (show (!(l.any fun p => sq p.1 x) && nodupN l) = true from h)) fun h1 h2 => ?_
    refine List.nodup_cons.mpr ⟨fun m => ?_, nodupN_ok h2⟩
    refine w6 (List.mem_map.mp m) fun p mp e => ?_
    have : (l.any fun p => sq p.1 x) = true := List.any_eq_true.mpr (w7 p mp (sq_t e))
    rw [this] at h1; exact ftx h1
theorem capsHere_ok (F : FrR C A W env own ρ s.heap) : ∀ {l : List (Str × NameKind)}, capsHere ρ l = true → ∀ x, (x, NameKind.free) ∈ l → ∃ c ov, env.cells.lookup x = some c ∧ s.heap.IsCell c ov ∧ env.kindOf x ≠ some .local ∧ (ρ.names.lookup x ≠ some .local)
  | [], _, _, m => nomatch m
  | (y, k) :: l, h, x, m => by
    induction k using NameKind.casesOn with
    | free =>
      have h : (match ρ.names.lookup y with
        | some .local => false
        | some .cell => match ρ.pars.contains y with
          | true => match look y ρ.vars with
            | some _ => capsHere ρ l
            | none => false
          | false => capsHere ρ l
        | _ => match look y ρ.vars with
          | some _ => capsHere ρ l
          | none => false) = true := h
      have here : ∀ v, look y ρ.vars = some v → ρ.names.lookup y ≠ some .local → ∃ c ov, env.cells.lookup y = some c ∧ s.heap.IsCell c ov ∧ env.kindOf y ≠ some .local ∧ (ρ.names.lookup y ≠ some .local) := fun v hv hn => by
        have hk : env.kindOf y ≠ some .local := fun q => hn ((F.nmL y).mpr q)
        refine z0 (F.cells y v hv hk) fun _ c v' h1 h2 _ => ?_
        exact (y8 c _ h1 h2 hk hn)
      have split : capsHere ρ l = true ∧ ∃ c ov, env.cells.lookup y = some c ∧ s.heap.IsCell c ov ∧ env.kindOf y ≠ some .local ∧ (ρ.names.lookup y ≠ some .local) := by
        split at h
        · exact ftx h
        · rename_i hc
          have hn : ρ.names.lookup y ≠ some .local := by refine rwm (hc) ?_; decide
          split at h
          · split at h
            · rename_i v hv; exact ⟨h, here v hv hn⟩
            · exact ftx h
          · rename_i hp
            have hp : y ∉ ρ.pars := fun m => by
              have : ρ.pars.contains y = true := by simpa using m
              rw [this] at hp; exact tfx hp
            refine z0 (F.nmC y hc hp) fun k c ov h1 _ h3 => ?_
            exact (W7 h c ov h1 h3 (fun q => hn ((F.nmL y).mpr q)) hn)
        · rename_i h1 h2
          split at h
          · rename_i v hv; exact ⟨h, here v hv h1⟩
          · exact ftx h
      rcases List.mem_cons.mp m with e | m
      · (first | (obtain ⟨rfl, rfl⟩ := Prod.mk.inj e) | clear m; cases e); exact split.2
      · exact capsHere_ok F split.1 x m
    | _ =>
      rcases List.mem_cons.mp m with e | m
      · exact (nomatch e)
      · exact capsHere_ok F (show capsHere ρ l = true from h) x m
theorem capOf_look {m : List (Str × V)} {y : Str} {v : V} : ∀ {l : List (Str × NameKind)}, look y (capOf m l) = some v → (y, NameKind.free) ∈ l ∧ look y m = some v
  | [], h => by exact nsx h
  | (x, k) :: l, h => by
    induction k using NameKind.casesOn with
    | free =>
      have h : look y (match look x m with | some v => (x, v) :: capOf m l | none => capOf m l) = some v := h
      induction q : look x m using Option.casesOn with
      | none => rw [q] at h; refine w8 (capOf_look h) fun a b => ?_; exact ⟨.tail _ a, b⟩
      | some w =>
        rw [q] at h
        have h : look y ((x, w) :: capOf m l) = some v := h
        rw [look_cons] at h
        by_cases e : y = x
        · rw [if_pos e] at h; cases h; clear h; subst e; exact ⟨.head _, q⟩
        · rw [if_neg e] at h; refine w8 (capOf_look h) fun a b => ?_; exact ⟨.tail _ a, b⟩
    | _ => refine w8 (capOf_look (show look y (capOf m l) = some v from h)) fun a b => ?_; exact ⟨.tail _ a, b⟩
theorem compEnv_new {sc : Scope} {cl : List (Str × Addr)} {Q : Env → Shared → Prop} {M : Model}
    (q : Q (newEnv sc s.heap.objs.size env.globals (cellsFrom (s.heap.push { cls := .type "dict", data := .dict #[] }).objs.size sc.names cl) env.qual none .none (some env) builtinsNs) { s with heap := pushCells (s.heap.push { cls := .type "dict", data := .dict #[] }) sc.names }) :
    wpAny M A (newFunctionEnv sc env.globals cl [] env.qual none .none (some env)) Q E s := by
  simp only [newFunctionEnv, Option.isSome_some, if_true]
  refine wpAny_bind (wpAny_alloc ?_)
  refine wpAny_bind (wpAny_layCells _ (fun name kind cells => by induction hkc : kind == NameKind.cell using Bool.casesOn <;> simp [hkc]) _ _ _ _ ?_)
  exact wpAny_bind (wpAny_pure (wpAny_pure q))
theorem relabel_names {sc : Scope} {x : Str} {k : NameKind} (h : sc.names.lookup x = some k) : ∃ k', (relabel sc env).names.lookup x = some k' ∧ ((k ≠ .free ∧ k' = k) ∨ (k = .free ∧ (k' = .free ∨ k' = .cell))) := by
  unfold relabel
  have go : ∀ (l : List (Str × NameKind)), l.lookup x = some k → ∃ k', (l.map fun (n, k) => if (k == .free && env.scope.kind == .function && env.kindOf n == some .cell) then (n, NameKind.cell) else (n, k)).lookup x = some k' ∧ ((k ≠ .free ∧ k' = k) ∨ (k = .free ∧ (k' = .free ∨ k' = .cell))) := by
    intro l
    induction l with
    | nil => intro h; exact nsx h
    | cons p l ih =>
      intro h
      obtain ⟨y, j⟩ := p
      refine (?_ : ∃ k', List.lookup x ((if (j == .free && env.scope.kind == .function && env.kindOf y == some .cell) = true then (y, NameKind.cell) else (y, j)) :: _) = some k' ∧ _)
      rw [List.lookup_cons] at h
      by_cases hc : (j == .free && env.scope.kind == .function && env.kindOf y == some .cell) = true
      · (refine rwm (if_pos hc) ?_; refine rwm (List.lookup_cons) ?_)
        have hj : j = .free := eq_of_beq (Bool.and_eq_true_iff.mp (Bool.and_eq_true_iff.mp hc).1).1
        induction q : x == y using Bool.casesOn with
        | true => rw [q] at h; clear hc; cases h; exact (w7 .cell rfl (.inr ⟨hj, .inr rfl⟩))
        | false => rw [q] at h; exact ih h
      · (refine rwm (if_neg hc) ?_; refine rwm (List.lookup_cons) ?_)
        induction q : x == y using Bool.casesOn with
        | true =>
          rw [q] at h
          have ej : j = k := Option.some.inj h
          by_cases hj : j = .free
          · exact (w7 j rfl (.inr ⟨ej ▸ hj, .inl hj⟩))
          · exact (w7 j rfl (.inl ⟨ej ▸ hj, ej⟩))
        | false => rw [q] at h; exact ih h
  exact go _ h
theorem relabel_local {sc : Scope} {x : Str} : (relabel sc env).names.lookup x = some .local ↔ sc.names.lookup x = some .local := by
  constructor
  · intro h
    induction q : sc.names.lookup x using Option.casesOn with
    | none =>
      have : ∀ (l : List (Str × NameKind)), l.lookup x = none → (l.map fun (n, k) => if (k == .free && env.scope.kind == .function && env.kindOf n == some .cell) then (n, NameKind.cell) else (n, k)).lookup x = none := by
        intro l
        induction l with
        | nil => intro _; rfl
        | cons p l ih =>
          intro h
          obtain ⟨y, j⟩ := p
          rw [List.lookup_cons] at h
          refine (?_ : List.lookup x ((if (j == .free && env.scope.kind == .function && env.kindOf y == some .cell) = true then (y, NameKind.cell) else (y, j)) :: _) = none)
          induction e : x == y using Bool.casesOn with
          | true => rw [e] at h; exact snx h
          | false =>
            rw [e] at h
            split <;> ((refine rwm (List.lookup_cons) ?_; refine rwm (e) ?_); exact ih h)
      have h : (sc.names.map fun (n, k) => if (k == .free && env.scope.kind == .function && env.kindOf n == some .cell) then (n, NameKind.cell) else (n, k)).lookup x = some .local := h
      rw [this _ q] at h; exact nsx h
    | some k =>
      refine w6 (relabel_names (env := env) q) fun k' e z => ?_
      rw [h] at e; (revert e; refine sm_r fun zz => ?_; subst zz)
      rcases z with ⟨_, rfl⟩ | ⟨_, z | z⟩
      · rfl
      · exact (nomatch z)
      · exact (nomatch z)
  · intro h
    refine w6 (relabel_names (env := env) h) fun k' e z => ?_
    rcases z with ⟨_, rfl⟩ | ⟨z, _⟩
    · exact e
    · exact (nomatch z)
theorem comp_frame {sc : Scope} (F : FrR C A W env own ρ s.heap) (R : StR C W σ s) (hk : sc.kind = .function) (hn : nodupN sc.names = true) (hc : capsHere ρ sc.names = true) :
    closureFor sc env = pure (closN env sc.names []) ∧ ∀ (h₁ : Heap), (∀ b o, s.heap.get? b = some o → h₁.get? b = some o) → s.heap.objs.size ≤ h₁.objs.size →
      ∃ own' : List Addr, h₁.objs.size ∈ own' ∧ (∀ b ∈ own', h₁.objs.size ≤ b ∧ ∃ o, (pushCells (h₁.push { cls := .type "dict", data := .dict #[] }) sc.names).get? b = some o) ∧
        ∀ (W₃ : Wd), W₃.adr = W.adr → W₃.syms = W.syms → (∀ b, b ∈ W₃.mt → b ∈ W.mt ∨ s.heap.objs.size ≤ b) → (∀ b, b ∈ W.mt → b ∈ W₃.mt) → (∀ b ∈ own', b ∈ W₃.mt) →
          FrR C A W₃ (compEnvC sc (cellsFrom (h₁.push { cls := .type "dict", data := .dict #[] }).objs.size sc.names (closN env sc.names [])) h₁.objs.size env) own' ⟨ρ.fn, sc.names, [], capOf ρ.vars sc.names⟩ (pushCells (h₁.push { cls := .type "dict", data := .dict #[] }) sc.names) := by
  have caps := capsHere_ok F hc
  have nd := nodupN_ok hn
  have hfree : ∀ x, (x, NameKind.free) ∈ sc.names → ∃ c, env.cells.lookup x = some c := fun x m => by refine x5 (caps x m) fun c _ e _ => ?_; exact ⟨c, e⟩
  refine W2 (closN_spec sc.names hfree nd F.apart) fun c1 c2 c3 => ?_
  refine ⟨closureFor_ok sc hfree, fun h₁ k₁ sz => ?_⟩
  refine Y0 (cellsFrom_spec sc.names (h₁.push { cls := .type "dict", data := .dict #[] }) (closN env sc.names [])) fun new n1 n2 n3 n4 => ?_
  have szp : (h₁.push { cls := .type "dict", data := .dict #[] }).objs.size = h₁.objs.size + 1 := Heap.size_push ..
  have kAll : ∀ b o, h₁.get? b = some o → (pushCells (h₁.push { cls := .type "dict", data := .dict #[] }) sc.names).get? b = some o := fun b o e => pushCells_keeps _ _ b o (Heap.get?_push_of_some _ e)
  have nsL : (pushCells (h₁.push { cls := .type "dict", data := .dict #[] }) sc.names).Ns h₁.objs.size fun _ => none := (Heap.Ns.new h₁ (.type "dict")).keeps (pushCells_keeps _ _)
  refine (W4 (h₁.objs.size :: new.map (·.2)) (.head _) (fun b m => ?_) (fun W₃ ha hs hmt1 hmt2 hown => ?_))
  · rcases mc m with rfl | m
    · (refine y9 nsL fun o _ _ e _ => ?_; clear nsL); exact (X8 (Nat.le_refl _) o e)
    · (refine w6 (List.mem_map.mp m) fun p mp zz1 => ?_; clear m; subst zz1)
      refine W2 (n2 p mp) fun z1 _ z3 => ?_
      rw [szp] at z1
      exact (X8 (Nat.le_of_succ_le z1) _ z3)
  · have fresh : ∀ {b : Addr}, s.heap.objs.size ≤ b → s.heap.get? b = none := by
      intro b h
      induction z : s.heap.get? b using Option.casesOn with
      | none => rfl
      | some o => exact absurd (Heap.lt_size z) (Nat.not_lt.mpr h)
    have le : W.Le s.heap W₃ := ⟨by refine rwm (ha) ?_; exact List.prefix_refl _, by refine rwm (hs) ?_; exact List.prefix_refl _, hmt2, fun b m => (hmt1 b m).imp id fresh, fun b m => .inl (ha ▸ m)⟩
    have kk : ∀ b o, s.heap.get? b = some o → (pushCells (h₁.push { cls := .type "dict", data := .dict #[] }) sc.names).get? b = some o := fun b o e => kAll b o (k₁ b o e)
    have kp : Keep (fun _ => False) (fun _ => False) s.heap (pushCells (h₁.push { cls := .type "dict", data := .dict #[] }) sc.names) := .of _ _ fun b o e _ => kk b o e
    have vr : ∀ {d v}, VR C.toCx W s.heap d v → VR C.toCx W₃ (pushCells (h₁.push { cls := .type "dict", data := .dict #[] }) sc.names) d v := fun x => x.mono le kp (fun _ t => t.elim) (fun _ t => t.elim)
    have above : ∀ b ∈ h₁.objs.size :: new.map (·.2), s.heap.objs.size ≤ b := fun b m => by
      rcases mc m with rfl | m
      · exact sz
      · (refine w6 (List.mem_map.mp m) fun p mp zz1 => ?_; clear m; subst zz1)
        have := (n2 p mp).1
        rw [szp] at this
        exact Nat.le_trans sz (Nat.le_of_succ_le this)
    have notLive : ∀ b ∈ h₁.objs.size :: new.map (·.2), ∀ o, s.heap.get? b ≠ some o := fun b m o e => by rw [fresh (above b m)] at e; exact nsx e
    have cells : (compEnvC sc (cellsFrom (h₁.push { cls := .type "dict", data := .dict #[] }).objs.size sc.names (closN env sc.names [])) h₁.objs.size env).cells = new ++ closN env sc.names [] := n1
    have newKey : ∀ {x : Str} {c : Addr}, (x, c) ∈ new → (x, NameKind.cell) ∈ sc.names := fun m => (n2 _ m).2.1
    have two : ∀ {x : Str} {k k' : NameKind}, (x, k) ∈ sc.names → (x, k') ∈ sc.names → k = k' := fun m m' => by
      have e1 := lookup_nodup nd m
      have e2 := lookup_nodup nd m'
      rw [e1] at e2; exact Option.some.inj e2
    have lookFree : ∀ {x : Str} {c : Addr}, (x, NameKind.free) ∈ sc.names → env.cells.lookup x = some c → (new ++ closN env sc.names []).lookup x = some c := by
      intro x c m e
      have mc := (c1 x c).mpr ⟨m, e⟩
      have nn : ∀ l : List (Str × Addr), (∀ p ∈ l, p.1 ≠ x) → (l ++ closN env sc.names []).lookup x = (closN env sc.names []).lookup x := by
        intro l
        induction l with
        | nil => intro _; rfl
        | cons p l ih =>
          intro h
          have ne : (x == p.1) = false := by rw [beq_eq_false_iff_ne]; exact fun q => h p (.head _) q.symm
          obtain ⟨p1, p2⟩ := p
          (refine rwm (List.cons_append) ?_; refine rwm (List.lookup_cons) ?_; refine rwm (ne) ?_)
          exact ih fun q m => h q (.tail _ m)
      refine rwm (nn new fun p mp q => by
        have := two m (q ▸ newKey (x := p.1) (c := p.2) mp)
        cases this) ?_
      exact lookup_nodup c2 mc
    refine ⟨⟨F.fm.has, fun l env' hl he => ?_⟩, ?_, F.glob, F.blt, F.frame, F.code, hown, fun b m => ⟨fun q => ?_, fun q => ?_⟩, fun b m st => ?_, .head _, fun x hx => ?_, fun x => ?_, fun x hx _ => ?_, (w7 _ nsL (fun x v hv hkd => ?_)), fun x v hv hkd => ?_, ?_⟩
    · (refine Z7 (F.fm.each l env' hl he) fun kd L m hf zz1 m1 m2 m3 => ?_; obtain ⟨o, es, ep, e, rest⟩ := zz1)
      exact (Z3 kd L m hf (W8 o es ep (kk _ _ e) rest) (hmt2 _ m1) (by refine rwm (ha) ?_; exact m2) m3)
    · show (relabel sc env).kind = .function
      exact hk
    · rw [ha] at q
      refine w5 (R.live b (R.adr b q)) fun o e => ?_
      exact notLive b m o e
    · refine w5 (R.live b (R.tabs b q)) fun o e => ?_
      exact notLive b m o e
    · refine w5 (R.live b (F.fm.onStk st).1) fun o e => ?_
      exact absurd e (notLive b m o)
    · refine w6 (relabel_names (env := env) hx) fun k' e z => ?_
      rcases z with ⟨_, rfl⟩ | ⟨z, _⟩
      · exact e
      · exact (nomatch z)
    · exact relabel_local.symm
    · refine w6 (relabel_names (env := env) hx) fun k' e z => ?_
      have hx' : (x, NameKind.cell) ∈ sc.names := mem_of_lookup hx
      refine w5 (n4 x hx') fun c mc => ?_
      rcases z with ⟨_, rfl⟩ | ⟨z, _⟩
      · refine ⟨e, ?_⟩
        have : ∃ c', (new ++ closN env sc.names []).lookup x = some c' ∧ (x, c') ∈ new := by
          have go : ∀ l : List (Str × Addr), (∃ c, (x, c) ∈ l) → ∃ c', (l ++ closN env sc.names []).lookup x = some c' ∧ (x, c') ∈ l := by
            intro l
            induction l with
            | nil => rintro ⟨_, m⟩; cases m
            | cons p l ih =>
              rintro ⟨c, m⟩
              obtain ⟨p1, p2⟩ := p
              (refine rwm (List.cons_append) ?_; refine rwm (List.lookup_cons) ?_)
              induction q : x == p1 using Bool.casesOn with
              | true => have := eq_of_beq q; clear m q; subst this; exact (w7 p2 rfl (.head _))
              | false =>
                rcases List.mem_cons.mp m with e' | m
                · (first | ((refine w8 (Prod.mk.inj e') fun zz1 zz2 => ?_; subst zz1; clear e' m; subst zz2)) | cases e'); simp at q
                · refine w6 (ih ⟨c, m⟩) fun c' e1 e2 => ?_
                  exact (w7 c' e1 (.tail _ e2))
          exact go new ⟨c, mc⟩
        refine w6 this fun c' e1 e2 => ?_
        clear this
        exact (y7 c' none (by refine rwm (cells) ?_; exact e1) (.tail _ (List.mem_map.mpr (w7 _ e2 rfl))) (w7 _ ((n2 _ e2).2.2) rfl))
      · exact (nomatch z)
    · refine w8 (capOf_look (show look x (capOf ρ.vars sc.names) = some v from hv)) fun mf _ => ?_
      have := relabel_local.mp hkd
      rw [lookup_nodup nd mf] at this; exact (nomatch this)
    · refine w8 (capOf_look (show look x (capOf ρ.vars sc.names) = some v from hv)) fun mf hv' => ?_
      refine x8 (caps x mf) fun c₀ ov₀ e0 _ nl _ => ?_
      refine X4 (F.cells x v hv' nl) fun _ c v' h1 h2 h3 h4 => ?_
      refine w6 (relabel_names (env := env) (lookup_nodup nd mf)) fun k' e z => ?_
      refine (W7 ?_ c v' (by refine rwm (cells) ?_; exact lookFree mf h1) ?_ (vr h3) (fun p => nomatch p))
      · rcases z with ⟨z, _⟩ | ⟨_, rfl | rfl⟩
        · exact absurd rfl z
        · exact .inr e
        · exact .inl e
      · (refine w6 h2 fun o eo d => ?_; clear h2)
        exact (w7 o (kk _ _ eo) d)
    · refine rwm (cells) ?_
      refine List.pairwise_append.mpr ⟨n3, c3, fun p mp q mq => ?_⟩
      have e1 : s.heap.objs.size ≤ p.2 := above p.2 (.tail _ (List.mem_map.mpr (w7 p mp rfl)))
      refine w8 ((c1 q.1 q.2).mp mq) fun z1 z2 => ?_
      refine x6 (caps q.1 z1) fun c ov e2 zz1 _ => ?_
      obtain ⟨o, e3, _⟩ := zz1
      rw [z2] at e2; (revert e2; refine sm_r fun zz => ?_; subst zz)
      have := Heap.lt_size e3
      exact fun e => by rw [e] at e1; exact absurd this (Nat.not_lt.mpr e1)
structure AccAt (C : Cy) (A : Around) (own : List Addr) (W : Wd) (h : Heap) (D : Addr) (out : List V) : Prop where
  lst : ∃ vs, PlainL h D vs.toArray ∧ VRs C.toCx W h out.reverse vs
  few : out.length ≤ 1000
  mt : D ∈ W.mt
  adr : D ∉ W.adr
  tabs : D ∉ C.tabs
  own : D ∉ own
  stk : ¬ Mine.stk A D
theorem AccAt.go {l : List Addr} {D : Addr} {out : List V} (a : AccAt C A own W s.heap D out) (g : Go C A l W s W' s') (R : StR C W σ s) (F : FmR C A W s.heap) (hl : ∀ b ∈ l, Loose W s.heap b) (hD : D ∉ l) : AccAt C A own W' s'.heap D out := by
  refine w6 (a.lst) fun vs zz1 xs => ?_
  obtain ⟨o, m, e, c, d, q⟩ := zz1
  have hs : ∀ b, Turn C W l b → Loose W s.heap b := fun b t => by
    rcases t with t | t | t
    · exact .inl (R.adr b t)
    · exact .inl (R.tabs b t)
    · exact hl b t
  have e' : s'.heap.get? D = some o := by
    rcases g.keep D o e (by rintro (t | t | t); exact a.adr t; exact a.tabs t; exact hD t) with z | ⟨z, _⟩
    · exact z
    · exact absurd z a.stk
  exact ⟨(w7 vs (y8 o m e' c d q) (xs.mono g.le g.keep hs (fun b t => (F.onStk t).1))), a.few, g.le.mt _ a.mt, g.le.notAdr e a.adr, a.tabs, a.own, a.stk⟩
theorem tests_ok (HT : OkT C r n) (hr : Room A n) : ∀ {es : List Expr} {σ σ' : St} {b : Bool} {W : Wd} {s : Shared} {Q : Bool → Shared → Prop}, testsL r es ρ σ = some (b, σ') → FrR C A W env own ρ s.heap → StR C W σ s →
    (∀ W' s', Go C A [] W s W' s' → StR C W' σ' s' → Q b s') →
    wpAny C.M A (forIn es true fun c (ok : Bool) => if ok = true then do let ok ← isTrue c env (eval c env); pure (ForInStep.yield ok) else pure (ForInStep.yield ok)) Q E s := by
  have skip : ∀ (es : List Expr) (s : Shared) {Q : Bool → Shared → Prop}, Q false s → wpAny C.M A (forIn es false fun c (ok : Bool) => if ok = true then do let ok ← isTrue c env (eval c env); pure (ForInStep.yield ok) else pure (ForInStep.yield ok)) Q E s := by
    intro es
    induction es with
    | nil => intro s Q q; refine rwm (List.forIn_nil) ?_; exact wpAny_pure q
    | cons e es ih =>
      intro s Q q
      refine rwm (List.forIn_cons ..) ?_
      refine wpAny_bind ?_
      refine rwm (if_neg (by decide)) ?_
      exact wpAny_pure (ih s q)
  intro es
  induction es with
  | nil =>
    intro σ σ' b W s Q h F R q
    (revert q; (first | refine sp3_g h ?_ | refine sp_g h ?_); intro q)
    refine rwm (List.forIn_nil) ?_
    exact wpAny_pure (q W s (.refl ..) R)
  | cons e es ih =>
    intro σ σ' b W s Q h F R q
    refine bd_e2 (show (bd (r.T e ρ σ) fun p => match p.1 with | true => testsL r es ρ p.2 | false => some (false, p.2)) = some (b, σ') from h) fun b₁ σ₁ h1 h2 => ?_
    refine rwm (List.forIn_cons ..) ?_
    refine wpAny_bind ?_
    refine rwm (if_pos rfl) ?_
    refine wpAny_bind (HT h1 hr F R fun W₁ s₁ g R₁ => wpAny_pure ?_)
    clear h1
    induction b₁ using Bool.casesOn with
    | true => exact ih h2 (F.mono R g) R₁ fun W₂ s₂ g₂ R₂ => q _ _ (g.trans g₂) R₂
    | false => (revert q; (first | refine sp3_g h2 ?_ | refine sp_g h2 ?_); intro q); exact skip es s₁ (q _ _ g R₁)
noncomputable def innerWp (M : Model) (A : Around) (e elt : Expr) (d : Nat) (gens : List Comprehension) (acc : Value) (env : Env) (K : Shared → Prop) (E : Value → Shared → Prop) (s : Shared) : Prop := match gens[d + 1]? with
  | some g' => wpAny M A (eval g'.iter env) (fun x s₁ => wpAny M A (pyIter x) (fun it' s₂ => wpAny M A (runOwn (.compStart e (d + 1) it' acc env) env) (fun _ s₃ => K s₃) E s₂) E s₁) E s
  | none => wpAny M A (eval elt env) (fun x s₁ => wpAny M A (call (.builtin "list.append") [acc, x]) (fun _ s₂ => K s₂) E s₁) E s
theorem compTurn_wp {M : Model} {elt : Expr} {gens : List Comprehension} {sc : Scope} {pos : Pos} {d : Nat} {g : Comprehension} {it acc : Value} {Q : Fin → Shared → Prop} (hg : gens[d]? = some g) (ha : ∀ g ∈ gens, g.is_async = 0) (hs : ∀ g', gens[d + 1]? = some g' → isSet g'.iter = false)
    (h : wpAny M A (pyNext it) (fun o s₁ => match o with
      | none => Q (.done .next) s₁
      | some v => wpAny M A (letOwnedTupleGo g.target it v) (fun _ s₂ => wpAny M A (assign g.target env v) (fun _ s₃ =>
        wpAny M A (forIn g.ifs true fun c (ok : Bool) => if ok = true then do let ok ← isTrue c env (eval c env); pure (ForInStep.yield ok) else pure (ForInStep.yield ok)) (fun ok s₄ =>
          if ok = true then innerWp M A (.ListComp elt gens sc pos) elt d gens acc env (fun s₅ => Q (.again (.compLoop (.ListComp elt gens sc pos) d it acc env)) s₅) E s₄ else Q (.again (.compLoop (.ListComp elt gens sc pos) d it acc env)) s₄) E s₃) E s₂) E s₁) E s) :
    wpAny M A (compTurn (.ListComp elt gens sc pos) d it acc env) Q E s := by
  have hag := ha g (List.mem_of_getElem? hg)
  unfold compTurn
  simp only [hg, hag]
  refine wpAny_bind (wpAny_standAt ?_)
  refine rwm (if_neg (by decide)) ?_
  refine wpAny_bind (wpAny_mono h (fun o s₁ h₁ => ?_) fun _ _ e => e)
  induction o using Option.casesOn with
  | none => exact wpAny_pure h₁
  | some v =>
    refine wpAny_bind (wpAny_mono h₁ (fun _ s₂ h₂ => ?_) fun _ _ e => e)
    refine wpAny_bind (wpAny_mono h₂ (fun _ s₃ h₃ => ?_) fun _ _ e => e)
    refine wpAny_bind (wpAny_mono h₃ (fun ok s₄ h₄ => ?_) fun _ _ e => e)
    induction ok using Bool.casesOn with
    | false =>
      rw [if_neg (by decide)] at h₄ ⊢
      exact wpAny_pure h₄
    | true =>
      rw [if_pos rfl] at h₄ ⊢
      unfold innerWp at h₄
      induction q : gens[d + 1]? using Option.casesOn with
      | none =>
        rw [q] at h₄
        exact wpAny_bind (wpAny_bind (wpAny_mono h₄ (fun x s₅ h₅ => wpAny_bind (wpAny_mono h₅ (fun _ s₆ h₆ => wpAny_pure (wpAny_pure h₆)) fun _ _ e => e)) fun _ _ e => e))
      | some g' =>
        rw [q] at h₄
        have hag' := ha g' (List.mem_of_getElem? q)
        simp only [hag']
        refine wpAny_bind (wpAny_mono h₄ (fun x s₅ h₅ => wpAny_bind (wpAny_standAt ?_)) fun _ _ e => e)
        refine rwm (if_neg (by decide)) ?_
        refine wpAny_bind (wpAny_of_eq (notSet_fold (hs g' q) x) ?_)
        refine wpAny_bind (wpAny_holding ?_)
        refine rwm (if_neg (by decide)) ?_
        exact wpAny_mono h₅ (fun it' s₆ h₆ => wpAny_bind (wpAny_mono h₆ (fun _ s₇ h₇ => wpAny_pure h₇) fun _ _ e => e)) fun _ _ e => e
theorem compStart_wp {M : Model} {elt : Expr} {gens : List Comprehension} {sc : Scope} {pos : Pos} {d : Nat} {g : Comprehension} {it acc : Value} {Q : Fin → Shared → Prop} (hg : gens[d]? = some g) (ha : g.is_async = 0)
    (h : wpAny M A (pyIter it) (fun it' s' => it' = it ∧ s' = s) E s) (q : Q (.again (.compLoop (.ListComp elt gens sc pos) d it acc env)) s) :
    wpAny M A (compStart (.ListComp elt gens sc pos) d it acc env) Q E s := by
  unfold compStart
  have e1 : (clausesOf (.ListComp elt gens sc pos))[d]? = some g := hg
  simp only [e1, Option.elim, ha]
  refine rwm (if_neg (by decide)) ?_
  refine wpAny_bind (wpAny_askSetting (wpAny_ite ?_))
  split
  · first
      | exact wpAny_bind (wpAny_pure (wpAny_pure q))
      | exact wpAny_pure q
  · refine wpAny_bind (wpAny_rule ?_)
    refine wpAny_bind (wpAny_standAt ?_)
    refine wpAny_bind (wpAny_mono h (fun it' s' h' => ?_) fun _ _ e => e)
    refine w8 h' fun zz1 zz2 => ?_
    clear h'
    subst zz1
    clear h
    subst zz2
    exact wpAny_pure q
theorem iter_self {it : It} {I : Addr} {h : Heap} {Q : Value → Shared → Prop} (x : ItR C.toCx W s.heap it its I) (q : Q (.ref I) s) : wpAny C.M A (pyIter (.ref I)) Q E s := by
  induction x using ItR.casesOn with
  | @src it I k a _ =>
    induction it using It.casesOn with
    | tup l => (refine Y3 a fun T arr m ds hit _ => ?_; clear a); exact wpAny_pyIter_tupleiter hit q
    | lst i k => (revert a; intro zz0; refine Y9 zz0 fun _ a hit _ => ?_; clear zz0); exact wpAny_pyIter_listiter hit q
    | _ => exact a.elim
  | rng a _ => exact wpAny_pyIter_rangeiter a q
  | enu _ e _ => exact enum_iter e q
  | zip a => exact wpAny_pyIter_zip a q
theorem emit_ok (H : OkE C r n) (hr : Room A n) {elt : Expr} {m : List (Str × V)} {out out' : List V} {m' : List (Str × V)} {D : Addr} {K : Shared → Prop} (h : compEmit r ρ elt m σ out = some (out', m', σ')) (F : FrR C A W env own (ρ.at m) s.heap) (R : StR C W σ s) (a : AccAt C A own W s.heap D out)
    (q : ∀ W' s', Go C A (D :: own) W s W' s' → StR C W' σ' s' → FrR C A W' env own (ρ.at m') s'.heap → AccAt C A own W' s'.heap D out' → K s') :
    wpAny C.M A (eval elt env) (fun x s₁ => wpAny C.M A (call (.builtin "list.append") [.ref D, x]) (fun _ s₂ => K s₂) E s₁) E s := by
  refine bd_e2 (show (bd (r.E elt (ρ.at m) σ) fun p => match Nat.blt out.length 1000 with | true => some (p.1 :: out, m, p.2) | false => none) = some (out', m', σ') from h) fun v σ₁ h1 h2 => ?_
  induction hb : Nat.blt out.length 1000 using Bool.casesOn with
  | false => rw [hb] at h2; exact nsx h2
  | true =>
    rw [hb] at h2; (revert q; (first | refine sp3_g h2 ?_ | refine sp_g h2 ?_); intro q)
    have hlt : out.length < 1000 := Nat.le_of_ble_eq_true hb
    refine H h1 hr F R fun W₁ s₁ v' g R₁ x => ?_
    have F₁ := F.mono R g
    have a₁ := a.go g R F.fm (fun b m => nomatch m) (fun m => nomatch m)
    refine w6 (a₁.lst) fun vs pl xs => ?_
    have hl := VRs.length xs
    rw [List.length_reverse] at hl
    refine list_append_plainL pl (fun h' ph sb => ?_) (by (refine rwm (List.size_toArray) ?_; refine rwm (hl) ?_); exact le_sizeLine a₁.few)
    have ph : PlainL h' D (vs ++ [v']).toArray := by simpa using ph
    have lv : ∃ o, h'.get? D = some o := by (refine x5 ph fun o _ e _ => ?_; clear ph); exact ⟨o, e⟩
    have gD : Go C A [D] W₁ s₁ W₁ { s₁ with heap := h' } := own_go (tk := s₁.toks) (.head _) sb lv
    have R₂ : StR C W₁ σ₁ { s₁ with heap := h' } := own_step (tk := s₁.toks) R₁ a₁.mt a₁.adr a₁.tabs sb lv
    have F₂ : FrR C A W₁ env own (ρ.at m) h' := F₁.apartMono R₁ gD fun b mb => by
      refine rwm (List.mem_singleton.mp mb) ?_
      refine x8 pl fun o k e _ _ d => ?_
      clear pl
      exact (wi5 a₁.mt a₁.own a₁.stk o e (fun v q => by rw [d] at q; exact (nomatch q)))
    refine q W₁ _ (g.weak0.trans (gD.weak fun b mb => by refine rwm (List.mem_singleton.mp mb) ?_; exact .head _)) R₂ F₂ ⟨(w7 (vs ++ [v']) ph ?_), by refine rwm (List.length_cons) ?_; omega, a₁.mt, a₁.adr, a₁.tabs, a₁.own, a₁.stk⟩
    refine rwm (List.reverse_cons) ?_
    have up : ∀ {d : V} {u : Value}, VR C.toCx W₁ s₁.heap d u → VR C.toCx W₁ h' d u := fun x => own_vr a₁.mt sb x
    have ups : VRs C.toCx W₁ h' out.reverse vs := xs.mono (S := (· = D)) (P := fun _ => False) (.refl _ _) (.of _ _ fun b o e n => (sb.2 b n).trans e) (fun b t => by clear a gD lv ph pl q sb; subst t; exact .inl a₁.mt) (fun _ t => t.elim)
    exact ups.append (.cons (up x) .nil)
structure CompAt (C : Cy) (A : Around) (own its : List Addr) (W₀ : Wd) (s₀ : Shared) (r : Rec) (ρ : Fr) (env : Env) (g : Comprehension) (inner : List (Str × V) → St → List V → Option (List V × List (Str × V) × St)) (I D : Addr) (res : List V × List (Str × V) × St) (k : Nat) (s : Shared) (it : It) (m : List (Str × V)) (σ : St) (out : List V) (W : Wd) : Prop where
  run : compG r ρ g inner k it m σ out = some res
  tgt : tgtOk it g.target = true
  go : Go C A ((D :: own) ++ its) W₀ s₀ W s
  st : StR C W σ s
  fr : FrR C A W env own (ρ.at m) s.heap
  itr : ItR C.toCx W s.heap it its I
  side : Side C A W (D :: own) its
  acc : AccAt C A own W s.heap D out
theorem Side.less {l l' : List Addr} (x : Side C A W l its) (h : ∀ b ∈ l', b ∈ l) : Side C A W l' its := ⟨x.nd, x.adr, x.tabs, fun b m q => x.own b m (h b q), x.stk, x.h₀⟩
theorem level_ok (HT : OkT C r n) (hr : Room A n) {elt : Expr} {gens : List Comprehension} {sc : Scope} {pos : Pos} {d : Nat} {g : Comprehension} {inner : List (Str × V) → St → List V → Option (List V × List (Str × V) × St)} {I D : Addr} {res : List V × List (Str × V) × St} {Rr : Result → Shared → Prop}
    (hg : gens[d]? = some g) (ha : ∀ g ∈ gens, g.is_async = 0) (hs : ∀ g', gens[d + 1]? = some g' → isSet g'.iter = false)
    (HI : ∀ {m : List (Str × V)} {σ : St} {out out' : List V} {m' : List (Str × V)} {σ' : St} {W : Wd} {s : Shared}, inner m σ out = some (out', m', σ') → FrR C A W env own (ρ.at m) s.heap → StR C W σ s → AccAt C A own W s.heap D out →
      ∀ {K : Shared → Prop} {E : Value → Shared → Prop}, (∀ W' s', Go C A (D :: own) W s W' s' → StR C W' σ' s' → FrR C A W' env own (ρ.at m') s'.heap → AccAt C A own W' s'.heap D out' → K s') → innerWp C.M A (.ListComp elt gens sc pos) elt d gens (.ref D) env K E s)
    (fresh : ∀ b ∈ its, s₀.heap.get? b = none) {k : Nat} {it : It} {m : List (Str × V)} {σ : St} {out : List V} (h : CompAt C A own its W₀ s₀ r ρ env g inner I D res k s it m σ out W)
    (q : ∀ W' s', Go C A (D :: own) W₀ s₀ W' s' → StR C W' res.2.2 s' → FrR C A W' env own (ρ.at res.2.1) s'.heap → AccAt C A own W' s'.heap D res.1 → Rr (.ok .next) s') :
    codeAny C.M A (.compLoop (.ListComp elt gens sc pos) d (.ref I) (.ref D) env) Rr s := by
  refine codeAny_loop rfl (fun k s => ∃ it m σ out W, CompAt C A own its W₀ s₀ r ρ env g inner I D res k s it m σ out W) (fun k s hI => ?_) k ⟨it, m, σ, out, W, h⟩
  refine W9 hI fun it m σ out W h => ?_
  clear hI
  refine (?_ : wpAny _ A ((compTurn (.ListComp elt gens sc pos) d (.ref I) (.ref D) env).onRaise (fun x => do noteFrame x env; theTreesLotGoes x)) _ _ s)
  refine wpAny_noted ?_
  induction k using Nat.casesAuxOn with
  | zero => exact nsx h.run
  | succ k =>
    refine bd_e (show (bd (next σ it) fun o => match o with
      | none => some (out, m, σ)
      | some (v, i') => bd (bindT ρ.names ρ.pars g.target v m) fun m₁ => bd (testsL r g.ifs (ρ.at m₁) σ) fun b => match b.1 with
        | true => bd (inner m₁ b.2 out) fun q => compG r ρ g inner k i' q.2.1 q.2.2 q.1
        | false => compG r ρ g inner k i' m₁ b.2 out) = some res from h.run) fun o h1 h2 => ?_
    refine compTurn_wp hg ha hs ?_
    have ob := h.itr.objs
    have lo := h.itr.loose
    have nD : D ∉ its := fun mD => h.side.own D mD (.head _)
    have sd0 : Side C A W own its := h.side.less fun b mb => .tail _ mb
    refine next_ok hr.handled h.st h.itr h.side h.tgt h1 (fun ho h' kp R' => ?_) (fun v it' ho v' s₁ fin => ?_)
    · clear h1
      subst ho
      (revert h2; refine sm_r fun zz => ?_; subst zz)
      have F' : FrR C A W env own (ρ.at m) h' := h.fr.drawn sd0 ob kp
      refine w6 (h.acc.lst) fun vs zz1 xs => ?_
      obtain ⟨oD, kD, eD, rD⟩ := zz1
      exact q W _ ((h.go.restrict fresh).fresh_raw (tk := s.toks) kp fresh) R' F' ⟨(w7 vs (x9 oD kD (kp _ _ nD eD) rD) (its_vrs lo kp xs)), h.acc.few, h.acc.mt, h.acc.adr, h.acc.tabs, h.acc.own, h.acc.stk⟩
    · subst ho
      refine bd_e h2 fun m₁ h3 h4 => ?_
      replace h4 := bd_some h4
      refine wj2 h4 fun b σ₁ h5 h6 => ?_
      clear h4
      refine fin fun s₂ g₂ R₂ xv I₂ => ?_
      have F₂ : FrR C A W env own (ρ.at m) s₂.heap := h.fr.apartMono' h.st g₂ sd0 ob
      have a₂ := h.acc.go g₂ h.st h.fr.fm lo nD
      refine assign_ok hr.handled h3 F₂ R₂ xv fun s₃ g₃ R₃ F₃ => ?_
      have ho : ∀ b, b ∈ own → b ∈ W.mt := F₂.ownMt
      have hoD : ∀ b, b ∈ D :: own → b ∈ W.mt := fun b mb => by
        rcases mc mb with rfl | mb
        · exact h.acc.mt
        · exact ho b mb
      refine w8 (ItR.go I₂ h.side (g₃.weak fun b mb => .tail _ mb) R₂ F₂.fm hoD) fun I₃ sd₃ => ?_
      have a₃ := a₂.go g₃ R₂ F₂.fm (fun b mb => .inl (ho b mb)) a₂.own
      refine tests_ok HT hr h5 F₃ R₃ fun W₄ s₄ g₄ R₄ => ?_
      have F₄ := F₃.mono R₃ g₄
      refine w8 (ItR.go I₃ sd₃ (g₄.weak0 (own := D :: own)) R₃ F₃.fm hoD) fun I₄ sd₄ => ?_
      have a₄ := a₃.go g₄ R₃ F₃.fm (fun b mb => nomatch mb) (fun mb => nomatch mb)
      have go₄ : Go C A ((D :: own) ++ its) W₀ s₀ W₄ s₄ := ((h.go.trans g₂.right).trans (g₃.weak fun b mb => .tail _ (List.mem_append.mpr (.inl mb)))).trans g₄.weak0
      clear h5
      induction b using Bool.casesOn with
      | false =>
        refine rwm (if_neg (by decide)) ?_
        exact ⟨rfl, k, Nat.lt_succ_self k, it', m₁, σ₁, out, W₄, h6, next_tgt h1 h.tgt, go₄, R₄, F₄, I₄, sd₄, a₄⟩
      | true =>
        refine rwm (if_pos rfl) ?_
        replace h6 := bd_some h6
        refine wi7 h6 fun out₂ m₂ σ₂ h7 h8 => ?_
        clear h6
        refine HI h7 F₄ R₄ a₄ fun W₅ s₅ g₅ R₅ F₅ a₅ => ?_
        refine w8 (ItR.go I₄ sd₄ g₅ R₄ F₄.fm (fun b mb => g₄.le.mt b (hoD b mb))) fun I₅ sd₅ => ?_
        exact ⟨rfl, k, Nat.lt_succ_self k, it', m₂, σ₂, out₂, W₅, h8, next_tgt h1 h.tgt, go₄.trans (g₅.weak fun b mb => List.mem_append.mpr (.inl mb)), R₅, F₅, I₅, sd₅, a₅⟩
theorem compStart_ok {M : Model} {elt : Expr} {gens : List Comprehension} {sc : Scope} {pos : Pos} {d : Nat} {g : Comprehension} {it acc : Value} {R : Result → Shared → Prop} (hg : gens[d]? = some g) (ha : g.is_async = 0)
    (h : ∀ {E : Value → Shared → Prop}, wpAny M A (pyIter it) (fun it' s' => it' = it ∧ s' = s) E s) (q : codeAny M A (.compLoop (.ListComp elt gens sc pos) d it acc env) R s) (hden : M.den (.compStart (.ListComp elt gens sc pos) d it acc env) = (compStart (.ListComp elt gens sc pos) d it acc env).onRaise (fun x => do noteFrame x env; standAt theWindowsPlace)) :
    codeAny M A (.compStart (.ListComp elt gens sc pos) d it acc env) R s := by
  refine codeAny_of_tree ?_
  refine rwm (hden) ?_
  refine wpAny_notedAt ?_
  exact compStart_wp hg ha h ⟨rfl, q⟩
theorem inner_ok (G : Gr C X) (H : OkE C r n) (HT : OkT C r n) (hr : Room A n) {elt : Expr} {gens : List Comprehension} {sc : Scope} {pos : Pos} {D : Addr} (ha : ∀ g ∈ gens, g.is_async = 0) (hs : ∀ g ∈ gens, isSet g.iter = false) : ∀ {gs : List Comprehension} {d : Nat}, gens.drop (d + 1) = gs →
    ∀ {m : List (Str × V)} {σ : St} {out out' : List V} {m' : List (Str × V)} {σ' : St} {W : Wd} {s : Shared}, compIn r ρ elt gs m σ out = some (out', m', σ') → FrR C A W env own (ρ.at m) s.heap → StR C W σ s → AccAt C A own W s.heap D out →
      ∀ {K : Shared → Prop} {E : Value → Shared → Prop}, (∀ W' s', Go C A (D :: own) W s W' s' → StR C W' σ' s' → FrR C A W' env own (ρ.at m') s'.heap → AccAt C A own W' s'.heap D out' → K s') → innerWp C.M A (.ListComp elt gens sc pos) elt d gens (.ref D) env K E s
  | [], d, hd, m, σ, out, out', m', σ', W, s, h, F, R, a, K, E, q => by
    have e : gens[d + 1]? = none := by
      have : gens.length ≤ d + 1 := by simpa using hd
      exact List.getElem?_eq_none this
    unfold innerWp
    refine rwm (e) ?_
    exact emit_ok H hr h F R a q
  | g :: gs, d, hd, m, σ, out, out', m', σ', W, s, h, F, R, a, K, E, q => by
    have e : gens[d + 1]? = some g := by
      have : (gens.drop (d + 1))[0]? = some g := by refine rwm (hd) ?_; rfl
      simpa using this
    have hd' : gens.drop (d + 1 + 1) = gs := by
      have : gens.drop (d + 1 + 1) = (gens.drop (d + 1)).drop 1 := by exact rwm (List.drop_drop) rfl
      (refine rwm (this) ?_; refine rwm (hd) ?_); rfl
    have mg := List.mem_of_getElem? e
    unfold innerWp
    refine rwm (e) ?_
    refine bd_e2 (show (bd (iterE r g.iter (ρ.at m) σ) fun p => match tgtOk p.1 g.target with | true => compG r ρ g (compIn r ρ elt gs) turnsMost p.1 m p.2 out | false => none) = some (out', m', σ') from h) fun it σ₁ h1 h2 => ?_
    induction ht : tgtOk it g.target using Bool.casesOn with
    | false => rw [ht] at h2; exact nsx h2
    | true =>
      rw [ht] at h2
      have hoD : ∀ b, b ∈ D :: own → b ∈ W.mt := fun b mb => by
        rcases mc mb with rfl | mb
        · exact a.mt
        · exact F.ownMt b mb
      refine (iterE_ok G H hr h1 F R hoD fun W₁ s₁ its I fr g₁ R₁ I₁ sd => ?_).2
      have F₁ := F.mono R g₁
      have a₁ := a.go g₁ R F.fm (fun b m => nomatch m) (fun m => nomatch m)
      refine wpAny_runOwn (h := none) ?_ (by intro h; exact nsx h)
      refine compStart_ok (A := A) e (ha g mg) (iter_self (h := s₁.heap) I₁ ⟨rfl, rfl⟩) ?_ rfl
      exact level_ok (W₀ := W) (s₀ := s) (res := (out', m', σ')) HT hr e ha (fun g' e' => hs g' (List.mem_of_getElem? e')) (fun {m σ out out' m' σ' W s} h F R a {K E} q => inner_ok G H HT hr ha hs hd' h F R a q) fr ⟨h2, ht, g₁.weak0, R₁, F₁, I₁, sd, a₁⟩ q
theorem StR.adopt {l : List V} {vs : List Value} {D : Addr} (R : StR C W σ s) (hn : σ.n < 1000000) (mt : D ∈ W.mt) (an : D ∉ W.adr) (tn : D ∉ C.tabs) (hp : PlainL s.heap D vs.toArray) (hv : VRs C.toCx W s.heap l vs) (hl : l.length ≤ 1000) :
    StR C ⟨W.adr ++ [D], W.syms, W.mt⟩ (σ.new l).2 s := by
  have lv : W.Lv s.heap ⟨W.adr ++ [D], W.syms, W.mt⟩ := ⟨List.prefix_append _ _, List.prefix_refl _, fun b m => .inl m⟩
  have kk : Keep (fun _ => False) (fun _ => False) s.heap s.heap := .refl _ _ _
  have vrs : ∀ {ds : List V} {vs : List Value}, VRs C.toCx W s.heap ds vs → VRs C.toCx ⟨W.adr ++ [D], W.syms, W.mt⟩ s.heap ds vs := fun r => r.monoL lv kk (fun _ t => t.elim) (fun _ t => t.elim)
  have old : ∀ {j b}, W.adr[j]? = some b → (W.adr ++ [D])[j]? = some b := fun e => prefix_get (List.prefix_append _ _) e
  have self : (Tr.set (.lst l) 40 σ.tr σ.n).get σ.n = some (.lst l) := Tr.get_set _ 40 _ _ (Nat.lt_trans (Nat.succ_lt_succ (by assumption)) (by decide))
  refine ⟨by simp [St.new, R.len], ?_, R.sy, fun j l' e => ?_, fun b m => ?_, fun j e => ?_, fun b m => ?_, R.tabs, fun b m => ?_, fun c m => ?_, R.live, R.ground, R.fresh, R.gens, R.os⟩
  · refine List.nodup_append.mpr ⟨R.nd, by simp, fun x hx y hy => ?_⟩
    refine rwm (List.mem_singleton.mp hy) ?_; intro q; clear hp hy lv mt old tn vrs; subst q; exact an hx
  · by_cases q : j = σ.n
    · subst q
      have e : (Tr.set (.lst l) 40 σ.tr σ.n).get σ.n = some (.lst l') := e
      rw [self] at e; cases e
      refine (y8 D vs ?_ hp (vrs hv) hl)
      (refine rwl (R.len) ?_; refine rwm (List.getElem?_append_right (Nat.le_refl _)) ?_; refine rwm (Nat.sub_self ..) ?_); rfl
    · have e : (Tr.set (.lst l) 40 σ.tr σ.n).get j = some (.lst l') := e
      rw [Tr.get_set_ne _ _ _ _ _ q] at e
      refine x8 (R.lst j l' e) fun b ws h1 h2 h3 h4 => ?_
      exact (y8 b ws (old h1) h2 (vrs h3) h4)
  · rcases List.mem_append.mp m with m | m
    · exact R.lists b m
    · refine rwm (List.mem_singleton.mp m) ?_; exact ⟨_, hp⟩
  · have e : (Tr.set (.lst l) 40 σ.tr σ.n).get j = some .forge := e
    by_cases q : j = σ.n
    · subst q; rw [self] at e; exact (nomatch e)
    · rw [Tr.get_set_ne _ _ _ _ _ q] at e
      refine Y8 (R.forge j e) fun b x y t u h1 h2 h3 => ?_
      exact (Y7 b x y t u (old h1) h2 h3)
  · rcases List.mem_append.mp m with m | m
    · exact R.adr b m
    · refine rwm (List.mem_singleton.mp m) ?_; exact mt
  · rcases List.mem_append.mp m with m | m
    · exact R.apart b m
    · refine rwm (List.mem_singleton.mp m) ?_; exact tn
  · refine w6 (R.tab c m) fun ps e t => ?_
    refine (w7 ps e (t.imp id ?_))
    rintro ⟨cc, oc, ws, t, h1, h2, h3⟩
    exact (X6 cc oc ws t h1 (h2.monoL lv kk (fun b t => t.elim) (fun b t => t.elim)) h3)
theorem StR.dropMove {a : Addr} {h' : Heap} {tk : Nat} (R : StR C W σ s) (mt : a ∈ W.mt) (an : a ∉ W.adr) (tn : a ∉ C.tabs) (sb : Heap.SameBut a s.heap h') : StR C (W.drop a) σ { s with heap := h', toks := tk } := by
  have kk : Keep (· = a) (fun _ => False) s.heap h' := .of _ _ fun b o e n => (sb.2 b n).trans e
  have lo : ∀ b, b = a → Loose W s.heap b := fun b t => by clear an kk sb tn; subst t; exact .inl mt
  have vrs : ∀ {ds : List V} {vs : List Value}, VRs C.toCx W s.heap ds vs → VRs C.toCx (W.drop a) h' ds vs := fun x => x.monoL (W.drop_lv s.heap a) kk lo (fun _ t => t.elim)
  have ne : ∀ b, b ∈ W.adr → b ≠ a := fun b m e => an (e ▸ m)
  have plain : ∀ {b its}, b ∈ W.adr → PlainL s.heap b its → PlainL h' b its := fun m ⟨o, k, e, r⟩ => (x9 o k ((sb.2 _ (ne _ m)).trans e) r)
  refine ⟨R.len, R.nd, R.sy, fun i l e => ?_, fun b m => ?_, fun i e => ?_, fun b m => Wd.mem_drop.mpr ⟨R.adr b m, ne b m⟩, fun b m => Wd.mem_drop.mpr ⟨R.tabs b m, fun e => tn (e ▸ m)⟩, R.apart, fun c m => ?_, fun b m => ?_, fun b o e => ?_, fun b m => R.fresh b (Wd.mem_drop.mp m).1, R.gens, R.os⟩
  · refine x8 (R.lst i l e) fun b vs h1 h2 h3 h4 => ?_
    exact (y8 b vs h1 (plain (List.mem_of_getElem? h1) h2) (vrs h3) h4)
  · refine w5 (R.lists b m) fun its p => ?_; exact ⟨its, plain m p⟩
  · refine Y8 (R.forge i e) fun b x y t u h1 h2 h3 => ?_
    exact (Y7 b x y t u h1 (plain (List.mem_of_getElem? h1) h2) h3)
  · refine w6 (R.tab c m) fun ps e t => ?_
    have hc : c.P ∈ C.tabs := by refine rwm (C.tabsEq) ?_; exact List.mem_map_of_mem m
    refine (w7 ps ((sb.2 _ (fun q => tn (q ▸ hc))).trans e) (t.imp id ?_))
    rintro ⟨cc, oc, ws, t, h1, h2, h3⟩
    exact (X6 cc oc ws t h1 (h2.monoL (W.drop_lv s.heap a) kk lo (fun b t => t.elim)) h3)
  · refine w8 (Wd.mem_drop.mp m) fun m n => ?_
    refine w5 (R.live b m) fun o e => ?_
    exact ⟨o, (sb.2 b n).trans e⟩
  · refine (sb.2 b fun q => ?_).trans (R.ground b o e)
    clear an kk lo ne sb tn vrs
    subst q
    rw [R.fresh b mt] at e; exact nsx e
theorem comp_end {v : V} {σ'' : St} {out : List V} {D L : Addr} {own' : List Addr} {cenv : Env} {ρ' : Fr} {h' : Heap} (R : StR C W' σ' s') (F : FrR C A W' cenv own' ρ' s'.heap) (a : AccAt C A own' W' s'.heap D out) (hL : L = cenv.locals) (sb : Heap.SameBut L s'.heap h')
    (hn : newL σ' out.reverse = some (v, σ'')) (fr : ∀ b ∈ D :: own', s.heap.get? b = none) (hL0 : cenv.locals ∉ W.mt) (g : Go C A (D :: own') W s W' s') :
    ∃ W'', Go C A [] W s W'' { s' with heap := h' } ∧ StR C W'' σ'' { s' with heap := h' } ∧ VR C.toCx W'' h' v (.ref D) := by
  subst hL
  unfold newL at hn
  induction hf : few out.reverse && Nat.blt σ'.n 1000000 using Bool.casesOn with
  | false => rw [hf] at hn; exact nsx hn
  | true =>
    rw [hf] at hn
    refine w8 (Bool.and_eq_true_iff.mp hf) fun f1 f2 => ?_
    have hlt : σ'.n < 1000000 := Nat.le_of_ble_eq_true f2
    have e := Option.some.inj hn
    have e1 : v = .lst σ'.n := (congrArg Prod.fst e).symm
    have e2 : σ'' = (σ'.new out.reverse).2 := (congrArg Prod.snd e).symm
    clear e hn
    subst e1 e2
    refine w6 (a.lst) fun vs pl xs => ?_
    have R₁ := R.adopt hlt a.mt a.adr a.tabs pl xs (few_le f1)
    have mL := F.ownMt _ F.L
    refine w8 (F.ownAp _ F.L) fun aL tL => ?_
    have nLD : cenv.locals ≠ D := fun q => a.own (q ▸ F.L)
    have aL' : cenv.locals ∉ W'.adr ++ [D] := fun m => by
      rcases List.mem_append.mp m with m | m
      · exact aL m
      · exact nLD (List.mem_singleton.mp m)
    have R₂ := R₁.dropMove (tk := s'.toks) (a := cenv.locals) mL aL' tL sb
    have live : ∀ b o, s.heap.get? b = some o → b ∉ D :: own' := fun b o e m => by rw [fr b m] at e; exact nsx e
    refine (W4 ((⟨W'.adr ++ [D], W'.syms, W'.mt⟩ : Wd).drop cenv.locals) (⟨⟨g.le.adr.trans (List.prefix_append _ _), g.le.syms, fun b m => ?_, fun b m => ?_, fun b m => ?_⟩, fun b o e t => ?_, fun b o e => ?_, g.drawn⟩) R₂ (.lst ?_))
    · exact Wd.mem_drop.mpr ⟨g.le.mt b m, fun q => hL0 (q ▸ m)⟩
    · exact g.le.new b (Wd.mem_drop.mp m).1
    · rcases List.mem_append.mp (show b ∈ W'.adr ++ [D] from m) with m | m
      · exact g.le.newAdr b m
      · refine rwm (List.mem_singleton.mp m) ?_; exact .inr (fr D (.head _))
    · have nb := live b o e
      have nL : b ≠ cenv.locals := fun q => nb (.tail _ (q ▸ F.L))
      rcases g.keep b o e (by rintro (q | q | q); exact t (.inl q); exact t (.inr (.inl q)); exact nb q) with z | ⟨z, sl, z'⟩
      · exact .inl ((sb.2 b nL).trans z)
      · exact .inr (X8 z sl ((sb.2 b nL).trans z'))
    · have nb := live b o e
      have nL : b ≠ cenv.locals := fun q => nb (.tail _ (q ▸ F.L))
      refine w5 (g.live b o e) fun o' z => ?_
      exact ⟨o', (sb.2 b nL).trans z⟩
    · show (W'.adr ++ [D])[σ'.n]? = some D
      (refine rwl (R.len) ?_; refine rwm (List.getElem?_append_right (Nat.le_refl _)) ?_; refine rwm (Nat.sub_self ..) ?_); rfl
theorem scopeOk_split {sc : Scope} {gens : List Comprehension} (h : scopeOk sc gens = true) : sc.kind = .function ∧ nodupN sc.names = true ∧ (∀ g ∈ gens, g.is_async = 0) ∧ (∀ g ∈ gens, isSet g.iter = false) := by
  refine w8 (Bool.and_eq_true_iff.mp h) fun h1 h2 => ?_
  refine w8 (Bool.and_eq_true_iff.mp h1) fun h3 h4 => ?_
  refine (X9 ?_ h4 (fun g m => ?_) (fun g m => ?_))
  · induction q : sc.kind using ScopeKind.casesOn <;> rw [q] at h3 <;> first | rfl | exact ftx h3
  · have := List.all_eq_true.mp h2 g m
    exact of_decide_eq_true (Bool.and_eq_true_iff.mp this).1
  · have := List.all_eq_true.mp h2 g m
    simpa using (Bool.and_eq_true_iff.mp this).2
theorem comp_core (G : Gr C X) (H : OkE C r n) (HT : OkT C r n) (hr : Room A n) {elt : Expr} {gens : List Comprehension} {sc : Scope} {pos p₁ : Pos} {v : V} {use : Option (Value → Sem Unit)} {Q : Value → Shared → Prop} (h : listComp r elt gens sc ρ σ = some (v, σ')) (F : FrR C A W env own ρ s.heap) (R : StR C W σ s)
    (K : ∀ (W' : Wd) (s' : Shared) (σ₂ : St) (D : Addr) (cenv : Env) (own' : List Addr) (ρ' : Fr) (out : List V), newL σ₂ out.reverse = some (v, σ') → StR C W' σ₂ s' → FrR C A W' cenv own' ρ' s'.heap → AccAt C A own' W' s'.heap D out → (∀ b ∈ D :: own', s.heap.get? b = none) → cenv.locals ∉ W.mt → Go C A (D :: own') W s W' s' → cenv.locals ∈ own' →
      compPost C.M A E use Q (.ref D) cenv.locals (.ok .next) s') :
    wpAny C.M A (comprehension (.ListComp elt gens sc pos) sc env p₁ (newList []) false (firstIter gens env) use) Q E s := by
  induction gens using List.casesOn with
  | nil => exact nsx h
  | cons g gs =>
    refine bd_e2 (show (bd (iterE r g.iter ρ σ) fun p => match tgtOk p.1 g.target && scopeOk sc (g :: gs) && capsHere ρ sc.names with
      | false => none
      | true => bd (compG r ⟨ρ.fn, sc.names, [], []⟩ g (compIn r ⟨ρ.fn, sc.names, [], []⟩ elt gs) turnsMost p.1 (capOf ρ.vars sc.names) p.2 []) fun q => newL q.2.2 q.1.reverse) = some (v, σ') from h) fun it σ₁ h1 h2 => ?_
    induction hc : tgtOk it g.target && scopeOk sc (g :: gs) && capsHere ρ sc.names using Bool.casesOn with
    | false => rw [hc] at h2; exact nsx h2
    | true =>
      rw [hc] at h2
      refine w8 (Bool.and_eq_true_iff.mp hc) fun hc1 hcaps => ?_
      refine w8 (Bool.and_eq_true_iff.mp hc1) fun ht hso => ?_
      refine Y6 (scopeOk_split hso) fun hk hnd hasy hset => ?_
      replace h2 := bd_some h2
      refine wi7 h2 fun out m' σ₂ h3 h4 => ?_
      clear h2
      have nd := nodupN_ok hnd
      refine wpAny_comprehension_free (gs := gs) (g := g) rfl (fun x => notSet_fold (hset g (.head _)) x) (comp_frame F R hk hnd hcaps).1 hk (fun x m hl => by have := lookup_nodup nd (show (x.1, x.2) ∈ sc.names from m); rw [hl] at this; exact this) ?_
      have e1 : firstIter (g :: gs) env = eval g.iter env := by clear h h1 h3 hasy hc hc1 hset hso ht; induction g using Comprehension.casesOn; rfl
      refine rwm (e1) ?_
      refine (iterE_ok (own₂ := []) G H hr h1 F R (fun _ m => nomatch m) fun W₁ s₁ its I fr g₁ R₁ I₁ sd => ?_).2
      have F₁ := F.mono R g₁
      refine wpAny_newObj_type ?_ (by size_fits)
      refine compEnv_new ?_
      have k₁ := push_keeps s₁.heap { cls := .type "list", dict := none, data := .seq ([] : List Value).toArray }
      have sz₁ : (s₁.heap.push { cls := .type "list", dict := none, data := .seq ([] : List Value).toArray }).objs.size = s₁.heap.objs.size + 1 := Heap.size_push ..
      refine W3 ((comp_frame F₁ R₁ hk hnd hcaps).2 _ k₁ (by refine rwm (sz₁) ?_; exact Nat.le_succ _)) fun own' mL hown hfr => ?_
      have nS₁ : ∀ {b : Addr}, s₁.heap.objs.size ≤ b → s₁.heap.get? b = none := by
        intro b h
        induction z : s₁.heap.get? b using Option.casesOn with
        | none => rfl
        | some o => exact absurd (Heap.lt_size z) (Nat.not_lt.mpr h)
      have ge : ∀ b ∈ own', s₁.heap.objs.size < b := fun b m => by have := (hown b m).1; rw [sz₁] at this; exact this
      have frD : ∀ b ∈ s₁.heap.objs.size :: own', s₁.heap.get? b = none := fun b m => by
        rcases mc m with rfl | m
        · exact nS₁ (Nat.le_refl _)
        · exact nS₁ (Nat.le_of_lt (ge b m))
      have frS : ∀ b ∈ s₁.heap.objs.size :: own', s.heap.get? b = none := fun b m => by
        induction z : s.heap.get? b using Option.casesOn with
        | none => rfl
        | some o => refine w5 (g₁.live b o z) fun o' e => ?_; rw [frD b m] at e; exact nsx e
      have kAll : ∀ b o, s₁.heap.get? b = some o → (pushCells ((s₁.heap.push { cls := .type "list", dict := none, data := .seq ([] : List Value).toArray }).push { cls := .type "dict", data := .dict #[] }) sc.names).get? b = some o := fun b o e => pushCells_keeps _ _ b o (Heap.get?_push_of_some _ (k₁ b o e))
      have eD : (pushCells ((s₁.heap.push { cls := .type "list", dict := none, data := .seq ([] : List Value).toArray }).push { cls := .type "dict", data := .dict #[] }) sc.names).get? s₁.heap.objs.size = some { cls := .type "list", dict := none, data := .seq ([] : List Value).toArray } := pushCells_keeps _ _ _ _ (Heap.get?_push_of_some _ (Heap.get?_push_size _ rfl))
      have nMt : ∀ b ∈ s₁.heap.objs.size :: own', b ∉ W₁.mt := fun b m q => by refine w5 (R₁.live b q) fun o e => ?_; rw [frD b m] at e; exact nsx e
      have le₃ : W₁.Le s₁.heap ⟨W₁.adr, W₁.syms, (s₁.heap.objs.size :: own') ++ W₁.mt⟩ := ⟨List.prefix_refl _, List.prefix_refl _, fun b m => List.mem_append.mpr (.inr m), fun b m => by
        rcases List.mem_append.mp m with m | m
        · exact .inr (frD b m)
        · exact .inl m, fun b m => .inl m⟩
      have F₃ := hfr ⟨W₁.adr, W₁.syms, (s₁.heap.objs.size :: own') ++ W₁.mt⟩ rfl rfl (fun b m => by
        rcases List.mem_append.mp m with m | m
        · rcases mc m with rfl | m
          · exact .inr (Nat.le_refl _)
          · exact .inr (Nat.le_of_lt (ge b m))
        · exact .inl m) (fun b m => List.mem_append.mpr (.inr m)) (fun b m => List.mem_append.mpr (.inl (.tail _ m)))
      have R₃ := R₁.move (tk := s₁.toks) (S := fun _ => False) (P := fun _ => False) le₃ rfl rfl (.of _ _ fun b o e _ => kAll b o e) (fun _ t => t.elim) (fun _ t => t.elim) (fun b m => by
        rcases List.mem_append.mp m with m | m
        · refine .inr ?_
          rcases mc m with rfl | m
          · exact ⟨_, eD⟩
          · exact (hown b m).2
        · exact .inl ⟨m, id⟩)
      have go₃ : Go C A [] W₁ s₁ ⟨W₁.adr, W₁.syms, (s₁.heap.objs.size :: own') ++ W₁.mt⟩ { s₁ with heap := pushCells ((s₁.heap.push { cls := .type "list", dict := none, data := .seq ([] : List Value).toArray }).push { cls := .type "dict", data := .dict #[] }) sc.names } := ⟨le₃, .of _ _ fun b o e _ => kAll b o e, fun b o e => ⟨o, kAll b o e⟩, rfl⟩
      refine w8 (ItR.go I₁ sd go₃ R₁ F₁.fm (fun _ m => nomatch m)) fun I₃ sd₃ => ?_
      have sd₃' : Side C A ⟨W₁.adr, W₁.syms, (s₁.heap.objs.size :: own') ++ W₁.mt⟩ (s₁.heap.objs.size :: own') its := ⟨sd₃.nd, sd₃.adr, sd₃.tabs, (fun b m q => by
        refine w6 (I₁.objs b m) fun o e _ => ?_
        rw [frD b q] at e; exact nsx e), sd₃.stk, sd₃.h₀⟩
      have acc : AccAt C A own' ⟨W₁.adr, W₁.syms, (s₁.heap.objs.size :: own') ++ W₁.mt⟩ (pushCells ((s₁.heap.push { cls := .type "list", dict := none, data := .seq ([] : List Value).toArray }).push { cls := .type "dict", data := .dict #[] }) sc.names) s₁.heap.objs.size [] :=
        ⟨(w7 [] (y8 _ _ eD rfl rfl rfl) .nil), Nat.zero_le _, .head _, fun m => nMt _ (.head _) (R₁.adr _ m), fun m => nMt _ (.head _) (R₁.tabs _ m), fun m => Nat.lt_irrefl _ (ge _ m), fun t => nMt _ (.head _) (F₁.fm.onStk t).1⟩
      refine compStart_ok (A := A) (g := g) (d := 0) rfl (hasy g (.head _)) (iter_self (h := s₁.heap) I₃ ⟨rfl, rfl⟩) ?_ rfl
      refine level_ok (W₀ := W) (s₀ := s) (its := its) (own := own') (W := ⟨W₁.adr, W₁.syms, (s₁.heap.objs.size :: own') ++ W₁.mt⟩) (ρ := ⟨ρ.fn, sc.names, [], []⟩) (inner := compIn r ⟨ρ.fn, sc.names, [], []⟩ elt gs) (res := (out, m', σ₂)) HT hr rfl hasy (fun g' e' => hset g' (List.mem_of_getElem? e')) (fun {m σ out out' m' σ' W s} h F R a {K E} q => inner_ok G H HT hr hasy hset (d := 0) rfl h F R a q) fr ⟨h3, ht, (g₁.trans go₃).weak0, R₃, F₃, I₃, sd₃', acc⟩ fun W' s' g' R' F' a' => ?_
      have := K W' s' σ₂ s₁.heap.objs.size _ own' _ out h4 R' F' a' frS (fun m => by refine w5 (R.live _ m) fun o e => ?_; have e' := (frS _ (.tail _ mL)).symm.trans e; exact nsx e') g' mL
      exact this
theorem listComp_ok (G : Gr C X) (H : OkE C r n) (HT : OkT C r n) (hr : Room A n) {elt : Expr} {gens : List Comprehension} {sc : Scope} {pos : Pos} {v : V} {Q : Value → Shared → Prop} (h : listComp r elt gens sc ρ σ = some (v, σ')) (F : FrR C A W env own ρ s.heap) (R : StR C W σ s)
    (q : Val C A [] W s σ' v Q) : wpAny C.M A (eval (.ListComp elt gens sc pos) env) Q E s := by
  have hasy : firstAsync gens = false := by
    induction gens using List.casesOn with
    | nil => rfl
    | cons g gs =>
      refine bd_e2 (show (bd (iterE r g.iter ρ σ) fun p => match tgtOk p.1 g.target && scopeOk sc (g :: gs) && capsHere ρ sc.names with
        | false => none
        | true => bd (compG r ⟨ρ.fn, sc.names, [], []⟩ g (compIn r ⟨ρ.fn, sc.names, [], []⟩ elt gs) turnsMost p.1 (capOf ρ.vars sc.names) p.2 []) fun q => newL q.2.2 q.1.reverse) = some (v, σ') from h) fun it σ₁ h1 h2 => ?_
      induction hc : tgtOk it g.target && scopeOk sc (g :: gs) && capsHere ρ sc.names using Bool.casesOn with
      | false => rw [hc] at h2; exact nsx h2
      | true =>
        have := (scopeOk_split (Bool.and_eq_true_iff.mp (Bool.and_eq_true_iff.mp hc).1).2).2.2.1 g (.head _)
        obtain ⟨t, i, fs, a⟩ := g
        have this : a = 0 := this
        clear h h1 h2 hc
        subst this
        rfl
  (refine rwm (eval_ListComp ..) ?_; refine rwm (hasy) ?_)
  refine comp_core (use := none) G H HT hr h F R fun W' s' σ₂ D cenv own' ρ' out hn R' F' a' fr hL0 g' mL => ?_
  refine w6 (F'.ns) fun m hm _ => ?_
  refine (w7 m hm (fun h' sb => ?_))
  refine W3 (comp_end R' F' a' rfl sb hn fr hL0 g') fun W'' g'' R'' x'' => ?_
  exact q W'' _ _ g'' R'' x''
end
noncomputable def OkX (C : Cy) (X : Tx) (r : Rec) (n : Nat) : Prop := ∀ {f : Expr} {es : List Expr} {p : Pos} {ρ : Fr} {σ : St} {Rr : Rs} {σ' : St}, evC X r f es p ρ σ = some (Rr, σ') →
  ∀ {A : Around} {env : Env} {own : List Addr} {W : Wd} {s : Shared}, Room A n → FrR C A W env own ρ s.heap → StR C W σ s → ∀ {Q E : Value → Shared → Prop}, Two C A W s σ' Rr Q E → wpAny C.M A (eval (.Call f es [] p) env) Q E s
noncomputable def OkD (C : Cy) (X : Tx) (r : Rec) (n : Nat) : Prop := ∀ {a x y : Expr} {f : Str} {q p : Pos} {ρ : Fr} {σ σ₁ σ' : St} {i j : Nat} {xs ys : List V} {v : V}, isBuiltin f "list" ρ = true → srcOf a ρ = .zip [x, y] → evL r [x, y] ρ σ = some ([.lst i, .lst j], σ₁) → σ₁.list i = some xs → σ₁.list j = some ys → newL σ₁ (pairs xs ys) = some (v, σ') →
  ∀ {A : Around} {env : Env} {own : List Addr} {W : Wd} {s : Shared}, Room A n → FrR C A W env own ρ s.heap → StR C W σ s → ∀ {Q E : Value → Shared → Prop}, Val C A [] W s σ' v Q → wpAny C.M A (eval (.Call (.Name f q) [a] [] p) env) Q E s
section
variable {C : Cy} {X : Tx} {A : Around} {own its : List Addr} {W W' W₀ W₁ : Wd} {s s' s₀ s₁ : Shared} {σ σ' : St} {env : Env} {ρ : Fr} {r : Rec} {n : Nat} {E : Value → Shared → Prop}
theorem evC_ok (G : Gr C X) (H : OkE C r n) (HC : OkC C r n) (HD : OkD C X r n) : OkX C X r n := by
  intro f es p ρ σ Rr σ' h A env own W s hr F R Q E q
  have plain : clOf f es ρ = .plain f es → (∀ o a p, f ≠ .Attribute o a p) → wpAny C.M A (eval (.Call f es [] p) env) Q E s := by
    intro hc hf
    unfold evC at h
    rw [hc] at h
    refine bd_e2 (show (bd (r.E f ρ σ) fun p => bd (evL r es ρ p.2) fun q => callV r p.1 q.1 q.2) = some (Rr, σ') from h) fun vf σ₁ h1 h => ?_
    refine bd_e2 h fun vs σ₂ h2 h3 => ?_
    exact plain_ok G H HC hr hf h1 h2 h3 F R q
  have meth : ∀ o a ap, f = .Attribute o a ap → clOf f es ρ = .meth o a es → wpAny C.M A (eval (.Call f es [] p) env) Q E s := by
    intro o a ap hf hc
    clear plain
    subst hf
    unfold evC at h
    rw [hc] at h
    have h : (match noSuper o && lineOk (.Attribute o a ap) p && Nat.blt es.length 20 with
      | true => bd (r.E o ρ σ) fun p => bd (methOf X p.1 a) fun c => bd (evL r es ρ p.2) fun q => callV r c.1 (c.2 ++ q.1) q.2
      | false => none) = some (Rr, σ') := h
    induction hb : noSuper o && lineOk (.Attribute o a ap) p && Nat.blt es.length 20 using Bool.casesOn with
    | false => rw [hb] at h; exact nsx h
    | true =>
      rw [hb] at h
      refine w8 (Bool.and_eq_true_iff.mp hb) fun hb1 hb2 => ?_
      refine w8 (Bool.and_eq_true_iff.mp hb1) fun hb3 hb4 => ?_
      revert h
      refine bd_r2 fun vo σ₁ h1 h => ?_
      refine bd_e h fun c h2 h => ?_
      refine bd_e2 h fun vs σ₂ h3 h4 => ?_
      exact meth_ok G H HC hr hb3 hb4 hb2 h1 h2 h3 h4 F R q
  induction f using Expr.casesOn with
  | Attribute o a ap =>
    induction es using List.casesOn with
    | nil => exact meth o a ap rfl rfl
    | cons x es =>
      clear plain
      induction es using List.casesOn with
      | cons y es => exact meth o a ap rfl rfl
      | nil =>
        induction ha : sq a "append" using Bool.casesOn with
        | false => exact meth o a ap rfl (by refine (?_ : (match sq a "append" with | true => Cl.append o x | false => Cl.meth o a [x]) = _); exact rwm (ha) rfl)
        | true =>
          have hc : clOf (.Attribute o a ap) [x] ρ = .append o x := by refine (?_ : (match sq a "append" with | true => Cl.append o x | false => Cl.meth o a [x]) = _); exact rwm (ha) rfl
          have e := of_sq ha
          clear ha meth
          subst e
          unfold evC at h
          rw [hc] at h
          have h : (match noSuper o && !isStar x && lineOk (.Attribute o "append" ap) p with
            | false => none
            | true => bd (r.E o ρ σ) fun p => match p.1 with
              | .lst i => bd (r.E x ρ p.2) fun q => bd (q.2.list i) fun l => match Nat.blt l.length 1000 with
                | true => bd (q.2.put i (l ++ [q.1])) fun σ' => some (Rs.val .none, σ')
                | false => none
              | _ => none) = some (Rr, σ') := h
          induction hb : noSuper o && !isStar x && lineOk (.Attribute o "append" ap) p using Bool.casesOn with
          | false => rw [hb] at h; exact nsx h
          | true =>
            rw [hb] at h
            refine w8 (Bool.and_eq_true_iff.mp hb) fun hb1 hb2 => ?_
            refine w8 (Bool.and_eq_true_iff.mp hb1) fun hb3 hb4 => ?_
            revert h
            refine bd_r2 fun vo σ₁ h1 h => ?_
            induction vo using V.casesOn with
            | lst i =>
              revert h
              refine bd_r2 fun v σ₂ h2 h => ?_
              refine bd_e h fun l h3 h => ?_
              induction h4 : Nat.blt l.length 1000 using Bool.casesOn with
              | false => rw [h4] at h; exact nsx h
              | true =>
                rw [h4] at h
                refine bd_e h fun σ₃ h5 h6 => ?_
                (revert q; (first | refine sp3_g h6 ?_ | refine sp_g h6 ?_); intro q)
                exact append_ok H hr hb3 (by simpa using hb4) hb2 h1 h2 h3 h4 h5 F R q
            | _ => exact nsx h
  | Name x xp =>
    induction es using List.casesOn with
    | nil => exact plain rfl (fun _ _ _ e => by exact (nomatch e))
    | cons a es =>
      clear meth
      induction es using List.casesOn with
      | cons b es => exact plain rfl (fun _ _ _ e => by exact (nomatch e))
      | nil =>
        by_cases hd : ∃ p q, isBuiltin x "list" ρ = true ∧ srcOf a ρ = .zip [p, q]
        · (refine x5 hd fun y z hb hs => ?_; clear hd)
          have hc : clOf (.Name x xp) [a] ρ = .drain y z := by
            show (match isBuiltin x "list" ρ with
              | true => (match srcOf a ρ with
                | .zip [x, y] => Cl.drain x y
                | _ => .plain (.Name x xp) [a])
              | false => .plain (.Name x xp) [a]) = _
            (refine rwm (hb) ?_; exact rwm (hs) rfl)
          unfold evC at h
          rw [hc] at h
          refine bd_e2 (show (bd (evL r [y, z] ρ σ) fun p => match p.1 with
            | [.lst i, .lst j] => bd (p.2.list i) fun xs => bd (p.2.list j) fun ys => val (newL p.2 (pairs xs ys))
            | _ => none) = some (Rr, σ') from h) fun vs σ₁ h1 h => ?_
          dsimp only at h
          split at h
          · refine bd_e h fun l₁ h2 h => ?_
            refine bd_e h fun l₂ h3 h => ?_
            refine w6 (val_some h) fun v h4 zz1 => ?_
            clear h
            subst zz1
            exact HD hb hs h1 h2 h3 h4 hr F R q
          · exact nsx h
        · refine plain ?_ (fun _ _ _ e => by exact (nomatch e))
          show (match isBuiltin x "list" ρ with
              | true => (match srcOf a ρ with
                | .zip [x, y] => Cl.drain x y
                | _ => .plain (.Name x xp) [a])
              | false => .plain (.Name x xp) [a]) = _
          induction hb : isBuiltin x "list" ρ using Bool.casesOn with
          | false => rfl
          | true =>
            dsimp only
            split
            · rename_i p q hs; exact absurd (x9 p q hb hs) hd
            · rfl
  | _ => exact plain rfl (fun _ _ _ e => by exact (nomatch e))
theorem notInteractive (F : FrR C A W env own ρ s.heap) : interactive env = false := by unfold interactive; refine rwm (F.kind) ?_; rfl
theorem return_ok (HX : OkX C X r n) (H : OkE C r n) (hr : Room A n) {e : Expr} {p : Pos} {Rr : Rs} {Q : Flow → Shared → Prop} (h : evX X r e ρ σ = some (Rr, σ')) (F : FrR C A W env own ρ s.heap) (R : StR C W σ s)
    (q : Out C A own W s σ' env ρ ρ.vars Q E (match Rr with | .val v => .ret v | .exc x => .exc x)) : wpAny C.M A (exec (.Return (some e) p) env) Q E s := by
  refine wpAny_Return_some (evX_ok HX H hr h F R ?_)
  induction Rr using Rs.casesOn with
  | val v => exact fun W' s' v' g R' x => q W' s' v' g.weak0 R' (F.fm.mono0 g) x
  | exc x => exact Two.out F R q
theorem expr_ok (HX : OkX C X r n) (H : OkE C r n) (hr : Room A n) {e : Expr} {p : Pos} {Rr : Rs} {Q : Flow → Shared → Prop} (hc : isComp e = false) (h : evX X r e ρ σ = some (Rr, σ')) (F : FrR C A W env own ρ s.heap) (R : StR C W σ s)
    (q : Out C A own W s σ' env ρ ρ.vars Q E (match Rr with | .val _ => .next | .exc x => .exc x)) : wpAny C.M A (exec (.Expr e p) env) Q E s := by
  have e1 : exec (.Expr e p) env = (do
    standAt p
    if interactive env then printExpr (eval e env)
    else if ← swapsWith e none p.line env then do evalThenUse e env fun _ => point; pure .next
    else do dropValue e p (← eval e env)) := rfl
  refine rwm (e1) ?_
  refine wpAny_bind (wpAny_standAt ?_)
  (refine rwm (notInteractive F) ?_; refine rwm (if_neg (by decide)) ?_; refine rwm (swaps_not hc) ?_)
  refine wpAny_bind (wpAny_pure ?_)
  refine rwm (if_neg (by decide)) ?_
  refine wpAny_bind (evX_ok HX H hr h F R ?_)
  induction Rr using Rs.casesOn with
  | val v => exact fun W' s' v' g R' x => wpAny_dropValue (q W' s' g.weak0 R' (F.mono R g))
  | exc x => exact Two.out F R q
theorem assignN_ok (HX : OkX C X r n) (H : OkE C r n) (hr : Room A n) {x : Str} {e : Expr} {p p' : Pos} {v : V} {σ₁ : St} {m' : List (Str × V)} {Q : Flow → Shared → Prop} (hc : isComp e = false) (h : evX X r e ρ σ = some (.val v, σ')) (h2 : bind1 ρ.names ρ.pars x v ρ.vars = some m') (F : FrR C A W env own ρ s.heap) (R : StR C W σ s)
    (q : Out C A own W s σ' env ρ m' Q E .next) : wpAny C.M A (exec (.Assign [.Name x p'] e p) env) Q E s := by
  refine wpAny_Assign_Name (evX_ok HX H hr h F R fun W₁ s₁ v₁ g₁ R₁ x₁ => ?_) (swaps_not hc)
  exact store_ok (ρ := ρ) h2 (F.mono R g₁) R₁ x₁ fun s₂ g₂ R₂ F₂ => q W₁ s₂ (g₁.weak0.trans g₂) R₂ F₂
theorem assignX_ok (HX : OkX C X r n) (H : OkE C r n) (hr : Room A n) {x : Str} {e : Expr} {p p' : Pos} {y : Str} {Q : Flow → Shared → Prop} (hc : isComp e = false) (h : evX X r e ρ σ = some (.exc y, σ')) (F : FrR C A W env own ρ s.heap) (R : StR C W σ s)
    (q : Out C A own W s σ' env ρ ρ.vars Q E (.exc y)) : wpAny C.M A (exec (.Assign [.Name x p'] e p) env) Q E s :=
  wpAny_Assign_Name (evX_ok HX H hr h F R (Two.out F R q)) (swaps_not hc)
theorem assignC_ok (G : Gr C X) (H : OkE C r n) (HT : OkT C r n) (hr : Room A n) {x : Str} {elt : Expr} {gens : List Comprehension} {sc : Scope} {pos p p' : Pos} {v : V} {m' : List (Str × V)} {Q : Flow → Shared → Prop} (h : listComp r elt gens sc ρ σ = some (v, σ')) (h' : r.E (.ListComp elt gens sc pos) ρ σ = some (v, σ')) (h2 : bind1 ρ.names ρ.pars x v ρ.vars = some m')
    (hsw : swapsWith (.ListComp elt gens sc pos) (some (.Name x p')) p.line env = pure false) (F : FrR C A W env own ρ s.heap) (R : StR C W σ s) (q : Out C A own W s σ' env ρ m' Q E .next) : wpAny C.M A (exec (.Assign [.Name x p'] (.ListComp elt gens sc pos) p) env) Q E s := by
  refine wpAny_Assign_Name (H h' hr F R fun W₁ s₁ v₁ g₁ R₁ x₁ => ?_) hsw
  exact store_ok (ρ := ρ) h2 (F.mono R g₁) R₁ x₁ fun s₂ g₂ R₂ F₂ => q W₁ s₂ (g₁.weak0.trans g₂) R₂ F₂
theorem FrR.dropMove {a : Addr} {h' : Heap} (F : FrR C A W env own ρ s.heap) (mt : a ∈ W.mt) (no : a ∉ own) (ns' : ¬ stk A a) (nc : ∃ o, s.heap.get? a = some o ∧ ∀ v, o.data ≠ .cell v) (sb : Heap.SameBut a s.heap h') : FrR C A (W.drop a) env own ρ h' := by
  have kk : Keep (· = a) (fun _ => False) s.heap h' := .of _ _ fun b o e n => (sb.2 b n).trans e
  have vr : ∀ {d v}, VR C.toCx W s.heap d v → VR C.toCx (W.drop a) h' d v := fun x => x.monoL (W.drop_lv s.heap a) kk (fun b t => by clear kk nc no ns' sb; subst t; exact .inl mt) (fun _ t => t.elim)
  have cell : ∀ {c v}, s.heap.IsCell c v → h'.IsCell c v := fun {c v} hc => by
    refine w6 hc fun o e d => ?_
    clear hc
    refine (w7 o ((sb.2 c fun q => ?_).trans e) d)
    clear kk mt no ns' sb vr
    subst q
    refine w6 nc fun o' e' nd => ?_
    clear nc
    rw [e] at e'; (revert e'; refine sm_r fun zz => ?_; subst zz)
    exact nd v d
  have nsp : ∀ {b m}, b ≠ a → s.heap.Ns b m → h'.Ns b m := fun nb hm => hm.sameBut sb nb
  refine ⟨⟨F.fm.has, fun l env' hl he => ?_⟩, F.kind, F.glob, F.blt, F.frame, F.code, fun b m => Wd.mem_drop.mpr ⟨F.ownMt b m, fun q => no (q ▸ m)⟩, F.ownAp, F.ownStk, F.L, F.nmG, F.nmL, fun y hy hp => ?_, ?_, fun y v hv hk => ?_, F.apart⟩
  · refine X4 (F.fm.each l env' hl he) fun kd L m hf hm m1 m2 => ?_
    have nL : L ≠ a := fun q => ns' (y7 l env' hl he (q ▸ hf))
    exact (W7 kd L m hf (nsp nL hm) (Wd.mem_drop.mpr ⟨m1, nL⟩) m2)
  · refine z0 (F.nmC y hy hp) fun kd c ov h1 h2 h3 => ?_
    exact (W1 kd c ov h1 h2 (cell h3))
  · refine w6 (F.ns) fun m hm hv => ?_
    refine (w7 m (nsp (fun q => no (q ▸ F.L)) hm) (fun y v e kd => ?_))
    refine w6 (hv y v e kd) fun v' e' xr => ?_
    exact (w7 v' e' (vr xr))
  · refine X4 (F.cells y v hv hk) fun kd c v' h1 h2 h3 h4 => ?_
    exact (W7 kd c v' h1 (cell h2) (vr h3) (fun p q => h4 p (Wd.mem_drop.mp q).1))
theorem listComp_async {elt : Expr} {gens : List Comprehension} {sc : Scope} {v : V} (h : listComp r elt gens sc ρ σ = some (v, σ')) : firstAsync gens = false := by
  induction gens using List.casesOn with
  | nil => rfl
  | cons g gs =>
    refine bd_e2 (show (bd (iterE r g.iter ρ σ) fun p => match tgtOk p.1 g.target && scopeOk sc (g :: gs) && capsHere ρ sc.names with
      | false => none
      | true => bd (compG r ⟨ρ.fn, sc.names, [], []⟩ g (compIn r ⟨ρ.fn, sc.names, [], []⟩ elt gs) turnsMost p.1 (capOf ρ.vars sc.names) p.2 []) fun q => newL q.2.2 q.1.reverse) = some (v, σ') from h) fun it σ₁ h1 h2 => ?_
    induction hc : tgtOk it g.target && scopeOk sc (g :: gs) && capsHere ρ sc.names using Bool.casesOn with
    | false => rw [hc] at h2; exact nsx h2
    | true =>
      have := (scopeOk_split (Bool.and_eq_true_iff.mp (Bool.and_eq_true_iff.mp hc).1).2).2.2.1 g (.head _)
      obtain ⟨t, i, fs, a⟩ := g
      have this : a = 0 := this
      clear h h1 h2 hc
      subst this
      rfl
theorem assignU_ok (G : Gr C X) (H : OkE C r n) (HT : OkT C r n) (hr : Room A n) {x : Str} {elt : Expr} {gens : List Comprehension} {sc : Scope} {pos p p' : Pos} {v : V} {m' : List (Str × V)} {Q : Flow → Shared → Prop} (h : listComp r elt gens sc ρ σ = some (v, σ')) (h2 : bind1 ρ.names ρ.pars x v ρ.vars = some m')
    (hsw : swapsWith (.ListComp elt gens sc pos) (some (.Name x p')) p.line env = pure true) (F : FrR C A W env own ρ s.heap) (R : StR C W σ s) (q : Out C A own W s σ' env ρ m' Q E .next) : wpAny C.M A (exec (.Assign [.Name x p'] (.ListComp elt gens sc pos) p) env) Q E s := by
  refine rwm (exec_Assign_Name_used _ _ _ _ hsw) ?_
  refine wpAny_bind (wpAny_standAt (wpAny_bind ?_))
  refine (?_ : wpAny _ A (do let _ ← comprehension (.ListComp elt gens sc pos) sc env _ (newList []) (firstAsync gens) (firstIter gens env) (some (assign (.Name x p') env))) _ _ s)
  refine rwm (listComp_async h) ?_
  refine wpAny_bind (wpAny_mono (comp_core (use := some (assign (.Name x p') env)) (Q := fun _ s' => Q .next s') G H HT hr h F R fun W' s' σ₂ D cenv own' ρ' out hn R' F' a' fr hL0 g' mL => ?_) (fun _ s' hq => wpAny_pure (wpAny_pure hq)) fun _ _ e => e)
  refine (?_ : wpAny _ A (assign (.Name x p') env (.ref D)) _ _ _)
  unfold newL at hn
  induction hf : few out.reverse && Nat.blt σ₂.n 1000000 using Bool.casesOn with
  | false => rw [hf] at hn; exact nsx hn
  | true =>
    rw [hf] at hn
    refine w8 (Bool.and_eq_true_iff.mp hf) fun f1 f2 => ?_
    have hlt : σ₂.n < 1000000 := Nat.le_of_ble_eq_true f2
    have e := Option.some.inj hn
    have e1 : v = .lst σ₂.n := (congrArg Prod.fst e).symm
    have e2 : σ' = (σ₂.new out.reverse).2 := (congrArg Prod.snd e).symm
    clear e h hn
    subst e1 e2
    refine w6 (a'.lst) fun vs pl xs => ?_
    have R₁ := R'.adopt hlt a'.mt a'.adr a'.tabs pl xs (few_le f1)
    have live : ∀ b o, s.heap.get? b = some o → b ∉ D :: own' := fun b o e m => by rw [fr b m] at e; exact nsx e
    have g₁ : Go C A [] W s ⟨W'.adr ++ [D], W'.syms, W'.mt⟩ s' := ⟨⟨g'.le.adr.trans (List.prefix_append _ _), g'.le.syms, g'.le.mt, g'.le.new, fun b m => by
      rcases List.mem_append.mp (show b ∈ W'.adr ++ [D] from m) with m | m
      · exact g'.le.newAdr b m
      · refine rwm (List.mem_singleton.mp m) ?_; exact .inr (fr D (.head _))⟩, fun b o e t => g'.keep b o e (by rintro (z | z | z); exact t (.inl z); exact t (.inr (.inl z)); exact live b o e z), g'.live, g'.drawn⟩
    have F₁ := F.mono R g₁
    have xD : VR C.toCx ⟨W'.adr ++ [D], W'.syms, W'.mt⟩ s'.heap (.lst σ₂.n) (.ref D) := .lst (by
      refine (?_ : (W'.adr ++ [D])[σ₂.n]? = some D)
      (refine rwl (R'.len) ?_; refine rwm (List.getElem?_append_right (Nat.le_refl _)) ?_; refine rwm (Nat.sub_self ..) ?_); rfl)
    refine wpAny_assign_Name (store_ok (ρ := ρ) h2 F₁ R₁ xD fun s₂ g₂ R₂ F₂ => ?_)
    refine w6 (F'.ns) fun mm hm _ => ?_
    have mL' := F'.ownMt _ mL
    refine w8 (F'.ownAp _ mL) fun aL tL => ?_
    have nLD : cenv.locals ≠ D := fun z => a'.own (z ▸ mL)
    have aL' : cenv.locals ∉ W'.adr ++ [D] := fun m => by
      rcases List.mem_append.mp m with m | m
      · exact aL m
      · exact nLD (List.mem_singleton.mp m)
    have nOwn : cenv.locals ∉ own := fun m => by
      refine w5 (own_live F R _ m) fun o e => ?_
      exact live _ o e (.tail _ mL)
    have nStk : ¬ stk A cenv.locals := fun t => by
      refine w5 (R.live _ (F.fm.onStk t).1) fun o e => ?_
      exact live _ o e (.tail _ mL)
    refine W5 hm fun oL es ep eL dL rL => ?_
    clear hm
    have eL₂ : s₂.heap.get? cenv.locals = some oL := by
      rcases g₂.keep _ oL eL (by rintro (z | z | z); exact aL' z; exact tL z; exact nOwn z) with z | ⟨z, _⟩
      · exact z
      · exact absurd z nStk
    refine (w7 mm (X3 oL es ep eL₂ dL rL) (fun h' sb => ?_))
    have R₃ := R₂.dropMove (tk := s₂.toks) (a := cenv.locals) mL' aL' tL sb
    have F₃ := F₂.dropMove (a := cenv.locals) mL' nOwn nStk (w7 oL eL₂ (fun v z => by rw [dL] at z; exact (nomatch z))) sb
    have gg := g₁.weak0.trans g₂
    have nL : ∀ b o, s.heap.get? b = some o → b ≠ cenv.locals := fun b o e z => live b o e (.tail _ (z ▸ mL))
    refine q ((⟨W'.adr ++ [D], W'.syms, W'.mt⟩ : Wd).drop cenv.locals) _ ⟨⟨gg.le.adr, gg.le.syms, fun b m => Wd.mem_drop.mpr ⟨gg.le.mt b m, fun z => hL0 (z ▸ m)⟩, fun b m => gg.le.new b (Wd.mem_drop.mp m).1, gg.le.newAdr⟩, fun b o e t => ?_, fun b o e => ?_, gg.drawn⟩ R₃ F₃
    · rcases gg.keep b o e t with z | ⟨z, sl, z'⟩
      · exact .inl ((sb.2 b (nL b o e)).trans z)
      · exact .inr (X8 z sl ((sb.2 b (nL b o e)).trans z'))
    · refine w5 (gg.live b o e) fun o' z => ?_
      exact ⟨o', (sb.2 b (nL b o e)).trans z⟩
end
noncomputable def OkL (C : Cy) (X : Tx) (n : Nat) : Prop := ∀ {ps : Arguments} {b : Expr} {sc : Scope} {p : Pos} {ρ : Fr} {σ : St} {k : CloT}, (madeHere X ρ "<lambda>" p && capsOk ρ.names ρ.pars ρ.vars sc.names) = true → cloT ps (.expr b) sc = some k →
  ∀ {A : Around} {env : Env} {own : List Addr} {W : Wd} {s : Shared}, Room A n → FrR C A W env own ρ s.heap → StR C W σ s → ∀ {Q E : Value → Shared → Prop}, Val C A [] W s σ (.clo "<lambda>" k (capOf ρ.vars sc.names)) Q → wpAny C.M A (eval (.Lambda ps b sc p) env) Q E s
section
variable {C : Cy} {X : Tx} {A : Around} {own its : List Addr} {W W' W₀ W₁ : Wd} {s s' s₀ s₁ : Shared} {σ σ' : St} {env : Env} {ρ : Fr} {r : Rec} {n : Nat} {E : Value → Shared → Prop}
theorem stepE_ok (G : Gr C X) (H : OkE C r n) (HT : OkT C r n) (HX : OkX C X r n) (HL : OkL C X n) {e : Expr} {v : V} (h : stepE X r e ρ σ = some (v, σ')) (hr : Room A n) (F : FrR C A W env own ρ s.heap) (R : StR C W σ s)
    {Q : Value → Shared → Prop} (q : Val C A [] W s σ' v Q) : wpAny C.M A (eval e env) Q E s := by
  induction e using Expr.casesOn with
  | Constant c k p =>
    refine w6 (pair_some (show pair (constV c) σ = some (v, σ') from h)) fun v₁ e1 e2 => ?_
    first | ((refine w8 (Prod.mk.inj e2) fun zz1 zz2 => ?_; subst zz1; clear e2 h; subst zz2)) | cases e2
    exact const_ok e1 R fun s' v' g R' x => q W s' v' g R' x
  | Name x p =>
    have h : (match dunder x with | true => none | false => (match look x ρ.vars with | some v => some (v, σ) | none => match isGlob x ρ with | true => pair (X.glob x) σ | false => none)) = some (v, σ') := h
    induction hd : dunder x using Bool.casesOn with
    | true => rw [hd] at h; exact nsx h
    | false => rw [hd] at h; exact name_ok G hd h F R q
  | Tuple es k p =>
    refine bd_e2 (show (bd (evL r es ρ σ) fun p => newT p.2 p.1) = some (v, σ') from h) fun vs σ₁ h1 h2 => ?_
    exact tuple_ok H hr h1 h2 F R q
  | List es p =>
    refine bd_e2 (show (bd (evL r es ρ σ) fun p => newL p.2 p.1) = some (v, σ') from h) fun vs σ₁ h1 h2 => ?_
    exact list_ok H hr h1 h2 F R q
  | BoolOp op es p => exact boolOps_ok H hr (show boolOps r op es ρ σ = _ from h) F R q
  | IfExp t a b p =>
    refine bd_e2 (show (bd (r.T t ρ σ) fun p => match p.1 with | true => r.E a ρ p.2 | false => r.E b ρ p.2) = some (v, σ') from h) fun c σ₁ h1 h2 => ?_
    refine IfExp_ (HT h1 hr F R fun W₁ s₁ g R₁ => ?_)
    clear h1
    induction c using Bool.casesOn with
    | true => exact H h2 hr (F.mono R g) R₁ fun W₂ s₂ v₂ g₂ R₂ x => q _ _ _ (g.trans g₂) R₂ x
    | false => exact H h2 hr (F.mono R g) R₁ fun W₂ s₂ v₂ g₂ R₂ x => q _ _ _ (g.trans g₂) R₂ x
  | Compare l ops es p =>
    refine bd_e2 (show (bd (r.E l ρ σ) fun p => bd (cmps r p.1 ops es ρ p.2) fun q => some (V.bool q.1, q.2)) = some (v, σ') from h) fun a σ₁ h1 h2 => ?_
    refine bd_e2 h2 fun b σ₂ h3 h4 => ?_
    (revert q; (first | refine sp3_g h4 ?_ | refine sp_g h4 ?_); intro q)
    exact compare_ok H hr h1 h3 F R q
  | Attribute o a p =>
    have h : (match noSuper o with | true => bd (r.E o ρ σ) fun p => pair (attrOf X p.1 a) p.2 | false => none) = some (v, σ') := h
    induction hn : noSuper o using Bool.casesOn with
    | false => rw [hn] at h; exact nsx h
    | true =>
      rw [hn] at h
      refine bd_e2 h fun vo σ₁ h1 h2 => ?_
      refine w6 (pair_some h2) fun v₁ e1 e2 => ?_
      first | ((refine w8 (Prod.mk.inj e2) fun zz1 zz2 => ?_; subst zz1; clear e2 h2; subst zz2)) | cases e2
      exact attr_ok G H hr hn h1 e1 F R q
  | ListComp elt gens sc p => exact listComp_ok G H HT hr (show listComp r elt gens sc ρ σ = _ from h) F R q
  | Lambda ps b sc p =>
    have h : (match madeHere X ρ "<lambda>" p && capsOk ρ.names ρ.pars ρ.vars sc.names with | true => bd (cloT ps (.expr b) sc) fun k => some (V.clo "<lambda>" k (capOf ρ.vars sc.names), σ) | false => none) = some (v, σ') := h
    induction hb : madeHere X ρ "<lambda>" p && capsOk ρ.names ρ.pars ρ.vars sc.names using Bool.casesOn with
    | false => rw [hb] at h; exact nsx h
    | true =>
      rw [hb] at h
      refine bd_e h fun k h1 h2 => ?_
      (revert q; (first | refine sp3_g h2 ?_ | refine sp_g h2 ?_); intro q)
      exact HL hb h1 hr F R q
  | Call f es ks p =>
    induction ks using List.casesOn with
    | cons k ks => exact nsx h
    | nil =>
      refine bd_e2 (show (bd (evC X r f es p ρ σ) fun p => match p.1 with | .val v => some (v, p.2) | .exc _ => none) = some (v, σ') from h) fun Rr σ₁ h1 h2 => ?_
      induction Rr using Rs.casesOn with
      | val v₁ => (revert q; (first | refine sp3_g h2 ?_ | refine sp_g h2 ?_); intro q); exact HX h1 hr F R q
      | exc x => exact nsx h2
  | Dict ks vs p =>
    refine bd_e (show (bd (keyL ks) fun l => match dictOk l vs.length with | true => bd (evL r vs ρ σ) fun p => some (V.dct (l.zip p.1), p.2) | false => none) = some (v, σ') from h) fun l h1 h2 => ?_
    induction hd : dictOk l vs.length using Bool.casesOn with
    | false => rw [hd] at h2; exact nsx h2
    | true =>
      rw [hd] at h2
      refine bd_e2 h2 fun ws σ₁ h3 h4 => ?_
      (revert q; (first | refine sp3_g h4 ?_ | refine sp_g h4 ?_); intro q)
      exact dict_ok G H hr h1 hd h3 F R q
  | BinOp a op b p =>
    refine bd_e2 (show (bd (r.E a ρ σ) fun p => bd (r.E b ρ p.2) fun q => binop op p.1 q.1 q.2) = some (v, σ') from h) fun va σ₁ h1 h2 => ?_
    refine bd_e2 h2 fun vb σ₂ h3 h4 => ?_
    refine wpAny_BinOp (H h1 hr F R fun W₁ s₁ v₁ g₁ R₁ x₁ => ?_)
    have F₁ := F.mono R g₁
    refine H h3 hr F₁ R₁ fun W₂ s₂ v₂ g₂ R₂ x₂ => ?_
    exact binop_ok h4 hr R₂ (g₂.vr R₁ F₁.fm (fun _ m => nomatch m) x₁) x₂ fun W₃ s₃ v₃ g₃ R₃ x₃ => q _ _ _ ((g₁.trans g₂).trans g₃) R₃ x₃
  | UnaryOp op a p =>
    induction op using UnaryOp.casesOn with
    | Not =>
      refine bd_e2 (show (bd (r.E a ρ σ) fun p => match p.1 with | .bool b => some (V.bool (!b), p.2) | _ => none) = some (v, σ') from h) fun va σ₁ h1 h2 => ?_
      induction va using V.casesOn with
      | bool b =>
        (revert q; (first | refine sp3_g h2 ?_ | refine sp_g h2 ?_); intro q)
        refine UnaryOp_ (H h1 hr F R fun W₁ s₁ v₁ g₁ R₁ x₁ => ?_)
        refine VR.eB x₁ ?_
        exact not_value (wpAny_truthy_bool (q _ _ _ g₁ R₁ (.bool _)))
      | _ => exact nsx h2
    | USub =>
      refine bd_e2 (show (bd (r.E a ρ σ) fun p => match p.1 with | .int (.lit k) => pair (mkI (-k)) p.2 | _ => none) = some (v, σ') from h) fun va σ₁ h1 h2 => ?_
      induction va using V.casesOn with
      | int z =>
        induction z using Z.casesOn with
        | lit k =>
          refine w6 (pair_some h2) fun v₁ e1 e2 => ?_
          first | ((refine w8 (Prod.mk.inj e2) fun zz1 zz2 => ?_; subst zz1; subst zz2)) | cases e2
          refine w8 (mkI_some e1) fun zz1 _ => ?_
          clear e1 e2 h h2
          subst zz1
          refine UnaryOp_ (H h1 hr F R fun W₁ s₁ v₁ g₁ R₁ x₁ => ?_)
          replace x₁ := x₁.inv
          refine w5 x₁ fun t zz1 => ?_
          clear x₁
          subst zz1
          exact PyProof.Rows.neg_int (q _ _ _ (g₁.trans (Go.tok _)) (R₁.tok _) (.lit _ _))
        | sym i => exact nsx h2
      | _ => exact nsx h2
    | _ => exact nsx h
  | Subscript o i p =>
    induction hs : sliceOf i using Option.casesOn with
    | some lh =>
      obtain ⟨lo, hi⟩ := lh
      refine w5 (sliceOf_some hs) fun p' zz1 => ?_
      clear hs
      subst zz1
      refine bd_e2 (show (bd (r.E o ρ σ) fun p => bd (optN r lo ρ p.2) fun a => bd (optN r hi ρ a.2) fun b => slice p.1 a.1 b.1 b.2) = some (v, σ') from h) fun vo σ₁ h1 h2 => ?_
      refine bd_e2 h2 fun a σ₂ h3 h4 => ?_
      refine bd_e2 h4 fun b σ₃ h5 h6 => ?_
      exact subSlice_ok H hr h1 h3 h5 h6 F R q
    | none =>
      have h : (match sliceOf i with
        | some (lo, hi) => bd (r.E o ρ σ) fun p => bd (optN r lo ρ p.2) fun a => bd (optN r hi ρ a.2) fun b => slice p.1 a.1 b.1 b.2
        | none => bd (r.E o ρ σ) fun p => bd (r.E i ρ p.2) fun q => pair (item p.1 q.1 q.2) q.2) = some (v, σ') := h
      rw [hs] at h
      refine bd_e2 h fun vo σ₁ h1 h2 => ?_
      replace h2 := bd_some h2
      refine wj2 h2 fun vi σ₂ h3 h4 => ?_
      clear h2
      replace h4 := pair_some h4
      refine w6 h4 fun v₁ e1 e2 => ?_
      clear h4
      first | ((refine w8 (Prod.mk.inj e2) fun zz1 zz2 => ?_; subst zz1; clear e2; subst zz2)) | cases e2
      exact sub_ok H hr hs h1 h3 e1 F R q
  | _ => exact nsx h
theorem while_ok (HT : OkT C r n) (hr : Room A n) {t : Expr} {b : List Stmt} {p : Pos} {Q : Flow → Shared → Prop} (h : r.T t ρ σ = some (false, σ')) (F : FrR C A W env own ρ s.heap) (R : StR C W σ s) (q : Out C A own W s σ' env ρ ρ.vars Q E .next) : wpAny C.M A (exec (.While t b [] p) env) Q E s := by
  refine wpAny_While (codeAny_whileLoop (I := fun _ s' => s' = s) (fun k s' hs => ?_) 0 rfl)
  subst hs
  refine HT h hr F R fun W₁ s₁ g R₁ => ?_
  refine rwm (if_neg (by decide)) ?_
  exact wpAny_execs_nil (q W₁ s₁ g.weak0 R₁ (F.mono R g))
end
theorem bindL_none {kd : Str → Option NameKind} {x : Str} : ∀ {l : List (Str × Value)} {m : Str → Option Value}, x ∉ l.map (·.1) → PySem.bindL kd l m x = m x
  | [], _, _ => rfl
  | (y, v) :: l, m, h => by
    have ne : x ≠ y := fun e => h (by refine rwm (e) ?_; exact .head _)
    refine (?_ : PySem.bindL kd l (if kd y = some .local then fun z => if z = y then some v else m z else m) x = m x)
    refine rwm (bindL_none (l := l) fun q => h (.tail _ q)) ?_
    split
    · exact if_neg ne
    · rfl
theorem bindL_get {kd : Str → Option NameKind} {x : Str} {v : Value} : ∀ {l : List (Str × Value)} {m : Str → Option Value}, (l.map (·.1)).Nodup → (x, v) ∈ l → kd x = some .local → PySem.bindL kd l m x = some v
  | [], _, _, h, _ => nomatch h
  | (y, w) :: l, m, hn, h, hk => by
    refine w8 (List.nodup_cons.mp hn) fun h1 h2 => ?_
    refine (?_ : PySem.bindL kd l (if kd y = some .local then fun z => if z = y then some w else m z else m) x = some v)
    rcases List.mem_cons.mp h with e | h'
    · (first | ((refine w8 (Prod.mk.inj e) fun zz1 zz2 => ?_; subst zz1; clear e h hn; subst zz2)) | cases e)
      (refine rwm (bindL_none h1) ?_; rewrite [if_pos hk])
      exact if_pos rfl
    · exact bindL_get h2 h' hk
theorem bindC_none {kd : Str → Option NameKind} {x : Str} : ∀ {l : List (Str × Value)} {m : Str → Option Value}, x ∉ l.map (·.1) → PySem.bindC kd l m x = m x
  | [], _, _ => rfl
  | (y, v) :: l, m, h => by
    have ne : x ≠ y := fun e => h (by refine rwm (e) ?_; exact .head _)
    refine (?_ : PySem.bindC kd l (if kd y = some .local then m else fun z => if z = y then some v else m z) x = m x)
    refine rwm (bindC_none (l := l) fun q => h (.tail _ q)) ?_
    split
    · rfl
    · exact if_neg ne
theorem bindC_get {kd : Str → Option NameKind} {x : Str} {v : Value} : ∀ {l : List (Str × Value)} {m : Str → Option Value}, (l.map (·.1)).Nodup → (x, v) ∈ l → kd x ≠ some .local → PySem.bindC kd l m x = some v
  | [], _, _, h, _ => nomatch h
  | (y, w) :: l, m, hn, h, hk => by
    refine w8 (List.nodup_cons.mp hn) fun h1 h2 => ?_
    refine (?_ : PySem.bindC kd l (if kd y = some .local then m else fun z => if z = y then some w else m z) x = some v)
    rcases List.mem_cons.mp h with e | h'
    · (first | ((refine w8 (Prod.mk.inj e) fun zz1 zz2 => ?_; subst zz1; clear e h hn; subst zz2)) | cases e)
      (refine rwm (bindC_none h1) ?_; rewrite [if_neg hk])
      exact if_pos rfl
    · exact bindC_get h2 h' hk
structure FnAt (C : Cy) (x : Str) (fd : FD) (fn : FuncData) : Prop where
  kind : fn.scope.kind = .function
  co : fn.scope.isCoroutine = false
  gen : fn.scope.isGenerator = false
  names : fn.scope.names = fd.names
  glob : fn.globals = mainGlobals
  blt : fn.builtins = builtinsNs
  clos : ∀ k, k ∈ C.clos → k.fn = x → fn.code = .ref k.code ∧ fn.qualname ++ ".<locals>." = x ++ ".<locals>."
  nd : fd.params.Nodup
  ndn : (fd.names.map (·.1)).Nodup
  pars : ∀ p ∈ fd.params, fd.names.lookup p = some .local ∨ fd.names.lookup p = some .cell
theorem cellsFrom_keys : ∀ (names : List (Str × NameKind)) (n : Nat) (acc : List (Str × Addr)), (names.map (·.1)).Nodup → (acc.map (·.1)).Nodup → (∀ p ∈ acc, p.1 ∉ names.map (·.1)) → ((cellsFrom n names acc).map (·.1)).Nodup
  | [], _, _, _, h, _ => h
  | (x, k) :: r, n, acc, h1, h2, h3 => by
    refine w8 (List.nodup_cons.mp h1) fun h1a h1b => ?_
    refine (?_ : ((if (k == NameKind.cell) = true then cellsFrom (n + 1) r ((x, n) :: acc) else cellsFrom n r acc).map (·.1)).Nodup)
    split
    · refine cellsFrom_keys r (n + 1) ((x, n) :: acc) h1b (List.nodup_cons.mpr ⟨fun m => ?_, h2⟩) fun p m => ?_
      · refine w6 (List.mem_map.mp m) fun p mp e => ?_
        exact h3 p mp (by refine rwm (e) ?_; exact .head _)
      · rcases mc m with rfl | m
        · exact h1a
        · exact fun q => h3 p m (.tail _ q)
    · exact cellsFrom_keys r n acc h1b h2 fun p m q => h3 p m (.tail _ q)
section
variable {C : Cy} {A : Around} {W : Wd} {s s₁ : Shared} {σ : St}
theorem NoLimit_of (R : StR C W σ s) (h : C.h₀.NoLimit) : s.heap.NoLimit := h.keeps R.ground
theorem deeper_frames {env : Env} {l : List Env} (h : A.frames = some l) : (A.deeper env).frames = some (env :: l) := by
  unfold Around.deeper
  first
    | (refine rwm (h) ?_; rfl)
    | simp [h]
theorem zip_look {x : Str} {v : V} : ∀ {ps : List Str} {vs : List V} {vals : List Value} {h : Heap}, ps.Nodup → VRs C.toCx W h vs vals → look x (ps.zip vs) = some v → ∃ v', (x, v') ∈ ps.zip vals ∧ VR C.toCx W h v v'
  | [], _, _, _, _, _, e => by exact nsx e
  | p :: ps, _, _, _, _, .nil, e => by exact nsx e
  | p :: ps, _, _, _, hn, .cons a b, e => by
    refine w8 (List.nodup_cons.mp hn) fun h1 h2 => ?_
    have e : look x ((p, _) :: ps.zip _) = some v := e
    rw [look_cons] at e
    by_cases q : x = p
    · rw [if_pos q] at e; cases e; clear e h1 hn; subst q
      exact (w7 _ (.head _) a)
    · rw [if_neg q] at e
      refine w6 (zip_look h2 b e) fun v' m xv => ?_
      exact (w7 v' (.tail _ m) xv)
theorem call_frame {x : Str} {fd : FD} {fn : FuncData} {a : Addr} {vs : List V} {vals : List Value} (T : FnAt C x fd fn) (F : FmR C A W s.heap) (R : StR C W σ s) (hl : fd.params.length = vals.length) (xs : VRs C.toCx W s.heap vs vals)
    (I : InCallC s (callEnvC fn s.heap.objs.size a).locals (PySem.bindL (callEnvC fn s.heap.objs.size a).kindOf (fd.params.zip vals) fun _ => none) (callEnvC fn s.heap.objs.size a).cells (PySem.bindC (callEnvC fn s.heap.objs.size a).kindOf (fd.params.zip vals) fun _ => none) s₁) :
    ∃ (W₁ : Wd) (own : List Addr), FrR C (A.deeper (callEnvC fn s.heap.objs.size a)) W₁ (callEnvC fn s.heap.objs.size a) own ⟨x, fd.names, fd.params, fd.params.zip vs⟩ s₁.heap ∧ StR C W₁ σ s₁ ∧ Go C A [] W s W₁ s₁ ∧ (∀ b ∈ own, s.heap.get? b = none) := by
  refine x5 (I.done) fun h' tk zz1 kp => ?_
  subst zz1
  have nS : ∀ {b : Addr}, s.heap.objs.size ≤ b → s.heap.get? b = none := by
    intro b h
    induction z : s.heap.get? b using Option.casesOn with
    | none => rfl
    | some o => exact absurd (Heap.lt_size z) (Nat.not_lt.mpr h)
  have eL : (callEnvC fn s.heap.objs.size a).locals = s.heap.objs.size := rfl
  have ns := I.toInCall.ns
  refine w5 (F.has) fun lf hlf => ?_
  have hdf := deeper_frames (env := callEnvC fn s.heap.objs.size a) hlf
  have cellGe : ∀ p ∈ (callEnvC fn s.heap.objs.size a).cells, s.heap.objs.size < p.2 := fun p m => I.above p.1 p.2 m
  have cellIs : ∀ {y : Str} {c : Addr}, (callEnvC fn s.heap.objs.size a).cells.lookup y = some c → h'.IsCell c (PySem.bindC (callEnvC fn s.heap.objs.size a).kindOf (fd.params.zip vals) (fun _ => none) y) := fun e => I.cell _ _ e
  have hasCell : ∀ y, (y, NameKind.cell) ∈ fd.names → ∃ c, (callEnvC fn s.heap.objs.size a).cells.lookup y = some c := fun y m => by
    refine Y0 (cellsFrom_spec fn.scope.names (s.heap.push { cls := .type "frame", data := .dict #[] }) []) fun new e1 _ _ e4 => ?_
    refine w5 (e4 y (by refine rwm (T.names) ?_; exact m)) fun c mc => ?_
    have ec : (callEnvC fn s.heap.objs.size a).cells = new := by
      refine (?_ : cellsFrom (s.heap.objs.size + 1) fn.scope.names [] = new)
      (refine rwl (Heap.size_push (h := s.heap) (o := { cls := .type "frame", data := .dict #[] })) ?_; refine rwm (e1) ?_; rw [List.append_nil])
    refine rwm (ec) ?_
    have go : ∀ l : List (Str × Addr), (∃ c, (y, c) ∈ l) → ∃ c, l.lookup y = some c := by
      intro l
      induction l with
      | nil => rintro ⟨_, m⟩; cases m
      | cons p l ih =>
        rintro ⟨c, m⟩
        obtain ⟨p1, p2⟩ := p
        refine rwm (List.lookup_cons) ?_
        induction q : y == p1 using Bool.casesOn with
        | true => exact ⟨_, rfl⟩
        | false =>
          rcases List.mem_cons.mp m with e' | m
          · (first | ((refine w8 (Prod.mk.inj e') fun zz1 zz2 => ?_; subst zz1; clear e' m; subst zz2)) | cases e'); simp at q
          · exact ih ⟨c, m⟩
    exact go new ⟨c, mc⟩
  have ckeys : ((callEnvC fn s.heap.objs.size a).cells.map (·.1)).Nodup := cellsFrom_keys fn.scope.names _ [] (by refine rwm (T.names) ?_; exact T.ndn) List.nodup_nil (fun _ m => nomatch m)
  have kindOf : ∀ y, (callEnvC fn s.heap.objs.size a).kindOf y = fd.names.lookup y := fun y => by refine (?_ : fn.scope.names.lookup y = _); exact rwm (T.names) rfl
  have keys : ((fd.params.zip vals).map (·.1)).Nodup := by refine rwm (List.map_fst_zip (by omega)) ?_; exact T.nd
  refine (x7 ⟨W.adr, W.syms, (s.heap.objs.size :: ((callEnvC fn s.heap.objs.size a).cells.filter fun p => !fd.params.contains p.1).map (·.2)) ++ W.mt⟩ (s.heap.objs.size :: ((callEnvC fn s.heap.objs.size a).cells.filter fun p => !fd.params.contains p.1).map (·.2)) ?_)
  have ownGe : ∀ b ∈ s.heap.objs.size :: ((callEnvC fn s.heap.objs.size a).cells.filter fun p => !fd.params.contains p.1).map (·.2), s.heap.objs.size ≤ b := fun b m => by
    rcases mc m with rfl | m
    · exact Nat.le_refl _
    · (refine w6 (List.mem_map.mp m) fun p mp zz1 => ?_; clear m; subst zz1)
      exact Nat.le_of_lt (cellGe p (List.mem_filter.mp mp).1)
  have nMt : ∀ {b : Addr}, s.heap.objs.size ≤ b → b ∉ W.mt := fun h q => by refine w5 (R.live _ q) fun o e => ?_; rw [nS h] at e; exact nsx e
  have le : W.Le s.heap ⟨W.adr, W.syms, (s.heap.objs.size :: ((callEnvC fn s.heap.objs.size a).cells.filter fun p => !fd.params.contains p.1).map (·.2)) ++ W.mt⟩ := ⟨List.prefix_refl _, List.prefix_refl _, fun b m => List.mem_append.mpr (.inr m), fun b m => by
    rcases List.mem_append.mp m with m | m
    · exact .inr (nS (ownGe b m))
    · exact .inl m, fun b m => .inl m⟩
  have kk : Keep (fun _ => False) (fun _ => False) s.heap h' := .of _ _ fun b o e _ => kp b o e
  have vr : ∀ {d v}, VR C.toCx W s.heap d v → VR C.toCx ⟨W.adr, W.syms, (s.heap.objs.size :: ((callEnvC fn s.heap.objs.size a).cells.filter fun p => !fd.params.contains p.1).map (·.2)) ++ W.mt⟩ h' d v := fun x => x.mono le kk (fun _ t => t.elim) (fun _ t => t.elim)
  have ownLive : ∀ b ∈ s.heap.objs.size :: ((callEnvC fn s.heap.objs.size a).cells.filter fun p => !fd.params.contains p.1).map (·.2), ∃ o, h'.get? b = some o := fun b m => by
    rcases mc m with rfl | m
    · (refine y9 ns fun o _ _ e _ => ?_; clear ns); exact ⟨o, e⟩
    · (refine w6 (List.mem_map.mp m) fun p mp zz1 => ?_; clear m; subst zz1)
      refine w6 (cellIs (lookup_nodup ckeys (List.mem_filter.mp mp).1)) fun o e _ => ?_
      exact ⟨o, e⟩
  have R₁ := R.move (tk := tk) (S := fun _ => False) (P := fun _ => False) le rfl rfl kk (fun _ t => t.elim) (fun _ t => t.elim) (fun b m => by
    rcases List.mem_append.mp m with m | m
    · exact .inr (ownLive b m)
    · exact .inl ⟨m, id⟩)
  refine (X9 ?_ R₁ (⟨le, .of _ _ fun b o e _ => kp b o e, fun b o e => ⟨o, kp b o e⟩, rfl⟩) (fun b m => nS (ownGe b m)))
  have inOwn : ∀ {y : Str} {c : Addr}, (callEnvC fn s.heap.objs.size a).cells.lookup y = some c → y ∉ fd.params → c ∈ s.heap.objs.size :: ((callEnvC fn s.heap.objs.size a).cells.filter fun p => !fd.params.contains p.1).map (·.2) := fun e h =>
    .tail _ (List.mem_map.mpr (w7 _ (List.mem_filter.mpr ⟨mem_of_lookup e, by simpa using h⟩) rfl))
  refine ⟨⟨⟨_, hdf⟩, fun l env' hl he => ?_⟩, T.kind, T.glob, T.blt, (wi6 _ hdf _ (.head _) rfl), fun k mk ek => T.clos k mk ek, fun b m => List.mem_append.mpr (.inl m), fun b m => ⟨fun q => nMt (ownGe b m) (R.adr b q), fun q => nMt (ownGe b m) (R.tabs b q)⟩, fun b m st => ?_, .head _, fun y hy => (kindOf y).trans hy, fun y => by rw [kindOf y], fun y hy hp => ?_, (w7 _ ns (fun y v hv hk => ?_)), fun y v hv hk => ?_, I.apart⟩
  · rw [hdf] at hl; (revert hl; refine sm_r fun zz => ?_; subst zz)
    rcases mc he with rfl | he
    · exact (Z3 T.kind s.heap.objs.size _ rfl ns (.head _) (fun q => nMt (Nat.le_refl _) (R.adr _ q)) (fun q => nMt (Nat.le_refl _) (R.tabs _ q)))
    · (refine X4 (F.each _ env' hlf he) fun kd L m hf zz1 m1 m2 => ?_; obtain ⟨o, es, ep, e, r⟩ := zz1)
      exact (W7 kd L m hf (W8 o es ep (kp _ _ e) r) (List.mem_append.mpr (.inr m1)) m2)
  · (refine x6 st fun l env' hl he hf => ?_; clear st)
    rw [hdf] at hl; (revert hl; refine sm_r fun zz => ?_; subst zz)
    rcases mc he with rfl | he
    · exact (Option.some.inj hf).symm
    · exact absurd (F.onStk (y7 _ env' hlf he hf)).1 (nMt (ownGe b m))
  · refine w5 (hasCell y (mem_of_lookup hy)) fun c e => ?_
    exact (W1 ((kindOf y).trans hy) c _ e (inOwn e hp) (cellIs e))
  · refine w6 (zip_look T.nd xs (show look y (fd.params.zip vs) = some v from hv)) fun v' mv xv => ?_
    exact (w7 v' (bindL_get keys mv hk) (vr xv))
  · refine w6 (zip_look T.nd xs (show look y (fd.params.zip vs) = some v from hv)) fun v' mv xv => ?_
    have mp : y ∈ fd.params := (List.of_mem_zip mv).1
    have kc : fd.names.lookup y = some .cell := by
      rcases T.pars y mp with z | z
      · exact absurd ((kindOf y).trans z) hk
      · exact z
    refine w5 (hasCell y (mem_of_lookup kc)) fun c e => ?_
    have ic := cellIs e
    rw [bindC_get keys mv hk] at ic
    refine (W7 (.inl ((kindOf y).trans kc)) c v' e ic (vr xv) (fun _ m => ?_))
    have cg := cellGe _ (mem_of_lookup e)
    rcases List.mem_append.mp m with m | m
    · rcases List.mem_cons.mp m with q | m
      · rw [q] at cg; exact Nat.lt_irrefl _ cg
      · refine w6 (List.mem_map.mp m) fun p mp' ep => ?_
        refine w8 (List.mem_filter.mp mp') fun m1 m2 => ?_
        have : p.1 = y := name_of_addr I.apart (c := c) (by refine rwl (ep) ?_; exact m1) (mem_of_lookup e)
        rw [this] at m2
        have : fd.params.contains y = true := by simpa using mp
        rw [this] at m2; exact ftx m2
    · exact nMt (Nat.le_of_lt cg) m
end
section
variable {C : Cy} {X : Tx} {A : Around} {own : List Addr} {W W' W₁ : Wd} {s s' s₁ : Shared} {σ σ' : St} {env : Env} {ρ : Fr} {r : Rec} {n : Nat} {E : Value → Shared → Prop}
theorem Go.call {l : List Env} (x : Go C A [] W s W₁ s₁) (y : Go C (A.deeper env) own W₁ s₁ W' s') (hl : A.frames = some l) (fr : ∀ b ∈ own, s.heap.get? b = none) (hf : ∀ L, env.frame = some L → L ∈ own) : Go C A [] W s W' s' := by
  refine ⟨x.le.trans y.le x.live, fun b o e t => ?_, fun b o e => ?_, y.drawn.trans x.drawn⟩
  · have nb : b ∉ own := fun m => by rw [fr b m] at e; exact nsx e
    have st : stk (A.deeper env) b → stk A b := by
      rintro ⟨l', env', hl', he, hfe⟩
      rw [deeper_frames hl] at hl'; (revert hl'; refine sm_r fun zz => ?_; subst zz)
      rcases mc he with rfl | he
      · exact absurd (hf b hfe) nb
      · exact (y7 l env' hl he hfe)
    have nt : ¬ Turn C W₁ own b := by
      rintro (q | q | q)
      · rcases x.le.newAdr b q with m | n
        · exact t (.inl m)
        · rw [n] at e; exact nsx e
      · exact t (.inr (.inl q))
      · exact nb q
    rcases x.keep b o e t with z | ⟨z, sl, z'⟩
    · rcases y.keep b o z nt with w | ⟨w, sl, w'⟩
      · exact .inl w
      · exact .inr (X8 (st w) sl w')
    · rcases y.keep b _ z' nt with w | ⟨w, sl', w'⟩
      · exact .inr (X8 z sl w)
      · exact .inr (X8 z sl' w')
  · refine w5 (x.live b o e) fun o₁ e₁ => ?_
    exact y.live b o₁ e₁
end
noncomputable def Fl.rs : Fl → Rs
  | .next => .val .none
  | .ret v => .val v
  | .exc x => .exc x
section
variable {C : Cy} {X : Tx} {A : Around} {own : List Addr} {W W' W₁ : Wd} {s s' s₁ : Shared} {σ σ' : St} {env : Env} {ρ : Fr} {r : Rec} {n : Nat} {E : Value → Shared → Prop}
theorem callStmts_ok (HS : OkS C r n) (hr : Room A (n + 1)) {x : Str} {fd : FD} {fn : FuncData} {a : Addr} {o : Obj} {body : List Stmt} {vs : List V} {vals vals₀ : List Value} {fl : Fl} {m' : List (Str × V)} {Q : Value → Shared → Prop}
    (ha : s.heap.get? a = some o) (hd : o.data = .func fn) (T : FnAt C x fd fn) (hclo : fn.closure = []) (hb : fn.body = .stmts body) (hcd : s.heap.CodeRec fn.code fn.qualname) (hlim : s.heap.NoLimit) (hbind : BindsTo s fn ⟨vals₀, []⟩ (fd.params.zip vals)) (hl : fd.params.length = vals.length)
    (F : FmR C A W s.heap) (R : StR C W σ s) (xs : VRs C.toCx W s.heap vs vals) (h : execs r ⟨x, fd.names, fd.params, []⟩ body (fd.params.zip vs) σ = some (fl, m', σ')) (q : Two C A W s σ' fl.rs Q E) : wpAny C.M A (call (.ref a) vals₀) Q E s := by
  refine w5 (F.has) fun lf hlf => ?_
  have hroom : A.depth < recursionLimit := by have := hr.depth; refine (?_ : A.depth < 1000); omega
  have hkind : ∀ p ∈ fd.params.zip vals, fn.scope.names.lookup p.1 = some .local ∨ (fn.scope.names.lookup p.1 = some .cell ∧ ((cellsFrom (s.heap.objs.size + 1) fn.scope.names []).lookup p.1).isSome = true) := fun p m => by
    refine rwm (T.names) ?_
    rcases T.pars p.1 (List.of_mem_zip m).1 with z | z
    · exact .inl z
    · refine .inr ⟨z, ?_⟩
      refine Y0 (cellsFrom_spec fd.names (s.heap.push { cls := .type "frame", data := .dict #[] }) []) fun new e1 _ _ e4 => ?_
      refine w5 (e4 p.1 (mem_of_lookup z)) fun c mc => ?_
      have kk := cellsFrom_keys fd.names (s.heap.objs.size + 1) [] T.ndn List.nodup_nil (fun _ m => nomatch m)
      have : cellsFrom (s.heap.objs.size + 1) fd.names [] = new := by
        (refine rwl (Heap.size_push (h := s.heap) (o := { cls := .type "frame", data := .dict #[] })) ?_; refine rwm (e1) ?_; rw [List.append_nil])
      rw [this] at kk ⊢
      refine rwm (lookup_nodup kk mc) ?_; rfl
  refine wpAny_call (codeAny_call_function hroom ha hd T.co T.gen hb hcd (hbind _ _ _ _ ?_))
  refine rwm (hclo) ?_
  refine wpAny_newFunctionEnv_cells T.kind hkind fun env he s₁ I => ?_
  subst he
  refine ⟨hlim.keeps I.toInCall.keep, codeAny_func ?_⟩
  refine x8 (call_frame (a := a) T F R hl xs I) fun W₁ own F₁ R₁ g₁ fr => ?_
  have hdf := deeper_frames (env := callEnvC fn s.heap.objs.size a) hlf
  have hown := own_live F₁ R₁
  have back : ∀ {W' s'}, Go C (A.deeper (callEnvC fn s.heap.objs.size a)) own W₁ s₁ W' s' → Go C A [] W s W' s' := fun g => g₁.call g hlf fr (fun L e => by (revert e; refine sm_r fun zz => ?_; subst zz); exact F₁.L)
  refine execs_ok (ρ := ⟨x, fd.names, fd.params, []⟩) HS (hr.deeper _) hdf h F₁ R₁ ?_
  clear h
  induction fl using Fl.casesOn with
  | next => exact fun W' s' g R' F' => q W' s' .none (back g) R' .none
  | ret v => exact fun W' s' v' g R' F' xv => q W' s' v' (back g) R' xv
  | exc y =>
    intro W' s' e ph f g R' F' X' hp
    refine here_leave hdf hown ⟨f, g, R', F', X', hp⟩ fun W₂ s₂ T₂ H₂ => ?_
    have fs : ∀ b, s₁.heap.get? b = none → s.heap.get? b = none := fun b z => by
      induction w : s.heap.get? b using Option.casesOn with
      | none => rfl
      | some o => refine w5 (g₁.live b o w) fun o' e' => ?_; rw [z] at e'; exact nsx e'
    exact q W₂ s₂ e T₂ (fs _ (H₂.fresh _ (.head _))) (fs _ (H₂.fresh _ (.tail _ (.head _)))) (back H₂.go) H₂.st H₂.exc
theorem Caps.look {h : Heap} {cl : List (Str × Addr)} {y : Str} {d : V} {cap : List (Str × V)} (z : Caps C.toCx W h cl cap) : Mine.look y cap = some d → ∃ c v, cl.lookup y = some c ∧ CellAt W h c v ∧ VR C.toCx W h d v :=
  Caps.ind (motive := fun cap => Mine.look y cap = some d → ∃ c v, cl.lookup y = some c ∧ CellAt W h c v ∧ VR C.toCx W h d v) (fun e => nsx e) (fun {x w r c v} e1 z a _ ih e => by
    rw [look_cons] at e
    by_cases q : y = x
    · rw [if_pos q] at e; exact ⟨c, v, q ▸ e1, z, Option.some.inj e ▸ a⟩
    · rw [if_neg q] at e; exact ih e) z
noncomputable def cloEnv (fn : FuncData) (L a : Addr) : Env := newEnv fn.scope L fn.globals fn.closure (fn.qualname ++ ".<locals>.") (some a) fn.code none fn.builtins
theorem clo_frame {x : Str} {fd : FD} {fn : FuncData} {a : Addr} {vs : List V} {vals : List Value} {cap : List (Str × V)} {h' : Heap} {tk : Nat} (T : FnAt C x fd fn) (hloc : ∀ p ∈ fd.params, fd.names.lookup p = some .local) (hnc : ∀ p ∈ fd.names, p.2 ≠ .cell)
    (F : FmR C A W s.heap) (R : StR C W σ s) (hl : fd.params.length = vals.length) (xs : VRs C.toCx W s.heap vs vals) (pw : fn.closure.Pairwise fun x y => x.2 ≠ y.2) (caps : Caps C.toCx W s.heap fn.closure cap) (hcap : ∀ y d, look y cap = some d → fd.names.lookup y = some .free)
    (ns : h'.Ns s.heap.objs.size fun x => (fd.params.zip vals).reverse.lookup x) (kp : ∀ b o, s.heap.get? b = some o → h'.get? b = some o) :
    ∃ (W₁ : Wd) (own : List Addr), FrR C (A.deeper (cloEnv fn s.heap.objs.size a)) W₁ (cloEnv fn s.heap.objs.size a) own ⟨x, fd.names, fd.params, fd.params.zip vs ++ cap⟩ h' ∧ StR C W₁ σ { s with heap := h', toks := tk } ∧ Go C A [] W s W₁ { s with heap := h', toks := tk } ∧ (∀ b ∈ own, s.heap.get? b = none) := by
  have nS : s.heap.get? s.heap.objs.size = none := get_size_none _
  have nMt : s.heap.objs.size ∉ W.mt := fun q => by refine w5 (R.live _ q) fun o e => ?_; rw [nS] at e; exact nsx e
  refine w5 (F.has) fun lf hlf => ?_
  have hdf := deeper_frames (env := cloEnv fn s.heap.objs.size a) hlf
  have kindOf : ∀ y, (cloEnv fn s.heap.objs.size a).kindOf y = fd.names.lookup y := fun y => by refine (?_ : fn.scope.names.lookup y = _); exact rwm (T.names) rfl
  have keys : (((fd.params.zip vals).reverse).map (·.1)).Nodup := by (refine rwm (List.map_reverse) ?_; refine rwm (List.map_fst_zip (by omega)) ?_); exact (List.reverse_perm _).nodup_iff.mpr T.nd
  have le : W.Le s.heap ⟨W.adr, W.syms, s.heap.objs.size :: W.mt⟩ := ⟨List.prefix_refl _, List.prefix_refl _, fun b m => .tail _ m, fun b m => by
    rcases mc m with rfl | m
    · exact .inr nS
    · exact .inl m, fun b m => .inl m⟩
  have kk : Keep (fun _ => False) (fun _ => False) s.heap h' := .of _ _ fun b o e _ => kp b o e
  have vr : ∀ {d v}, VR C.toCx W s.heap d v → VR C.toCx ⟨W.adr, W.syms, s.heap.objs.size :: W.mt⟩ h' d v := fun x => x.mono le kk (fun _ t => t.elim) (fun _ t => t.elim)
  have R₁ := R.move (tk := tk) (S := fun _ => False) (P := fun _ => False) le rfl rfl kk (fun _ t => t.elim) (fun _ t => t.elim) (fun b m => by
    rcases mc m with rfl | m
    · (refine y9 ns fun o _ _ e _ => ?_; clear ns); exact .inr ⟨o, e⟩
    · exact .inl ⟨m, id⟩)
  refine (y8 ⟨W.adr, W.syms, s.heap.objs.size :: W.mt⟩ [s.heap.objs.size] ?_ R₁ (⟨le, .of _ _ fun b o e _ => kp b o e, fun b o e => ⟨o, kp b o e⟩, rfl⟩) (fun b m => by refine rwm (List.mem_singleton.mp m) ?_; exact nS))
  refine ⟨⟨⟨_, hdf⟩, fun l env' hl he => ?_⟩, T.kind, T.glob, T.blt, (wi6 _ hdf _ (.head _) rfl), fun k mk ek => T.clos k mk ek, fun b m => by refine rwm (List.mem_singleton.mp m) ?_; exact .head _, fun b m => ?_, fun b m _ => List.mem_singleton.mp m, .head _, fun y hy => (kindOf y).trans hy, fun y => by rw [kindOf y], fun y hy hp => absurd rfl (hnc _ (mem_of_lookup hy)), (w7 _ ns (fun y v hv hk => ?_)), fun y v hv hk => ?_, pw⟩
  · rw [hdf] at hl; (revert hl; refine sm_r fun zz => ?_; subst zz)
    rcases mc he with rfl | he
    · exact (Z3 T.kind s.heap.objs.size _ rfl ns (.head _) (fun q => nMt (R.adr _ q)) (fun q => nMt (R.tabs _ q)))
    · (refine X4 (F.each _ env' hlf he) fun kd L m hf zz1 m1 m2 => ?_; obtain ⟨o, es, ep, e, r⟩ := zz1)
      exact (W7 kd L m hf (W8 o es ep (kp _ _ e) r) (.tail _ m1) m2)
  · refine rwm (List.mem_singleton.mp m) ?_
    exact ⟨fun q => nMt (R.adr _ q), fun q => nMt (R.tabs _ q)⟩
  · have hv : look y (fd.params.zip vs ++ cap) = some v := hv
    rw [look_append] at hv
    induction q : look y (fd.params.zip vs) using Option.casesOn with
    | some v₁ =>
      rw [q] at hv; cases hv
      refine w6 (zip_look T.nd xs q) fun v' mv xv => ?_
      exact (w7 v' (lookup_nodup keys (List.mem_reverse.mpr mv)) (vr xv))
    | none =>
      rw [q] at hv
      have hf := hcap y v hv
      rw [kindOf y, hf] at hk; exact (nomatch hk)
  · have hv : look y (fd.params.zip vs ++ cap) = some v := hv
    rw [look_append] at hv
    induction q : look y (fd.params.zip vs) using Option.casesOn with
    | some v₁ =>
      rw [q] at hv; cases hv
      refine w6 (zip_look T.nd xs q) fun v' mv xv => ?_
      exact absurd ((kindOf y).trans (hloc y (List.of_mem_zip mv).1)) hk
    | none =>
      rw [q] at hv
      refine x6 (Caps.look caps hv) fun c v' e1 zz1 xv => ?_
      obtain ⟨oc, zc, dc⟩ := zz1
      refine (W7 (.inr ((kindOf y).trans (hcap y v hv))) c v' e1 (w7 oc (kp _ _ zc.1) dc) (vr xv) (fun _ m => ?_))
      rcases List.mem_cons.mp m with z | m
      · have := zc.1; rw [z, nS] at this; exact nsx this
      · exact zc.2.1 m
theorem capFree_ok {names : List (Str × NameKind)} : ∀ {cap : List (Str × V)}, capFree names cap = true → ∀ y d, look y cap = some d → names.lookup y = some .free
  | [], _, _, _, e => by exact nsx e
  | (x, v) :: r, h, y, d, e => by
    have h : (match names.lookup x with | some .free => capFree names r | _ => false) = true := h
    rw [look_cons] at e
    split at h
    · rename_i hx
      by_cases q : y = x
      · clear e h
        subst q; exact hx
      · rw [if_neg q] at e; exact capFree_ok h y d e
    · exact ftx h
theorem clo_call (H : OkE C r n) (HS : OkS C r n) (hr : Room A (n + 1)) {x : Str} {fd : FD} {fn : FuncData} {a : Addr} {o : Obj} {vs : List V} {vals : List Value} {cap : List (Str × V)} {Rr : Rs} {Q : Value → Shared → Prop}
    (ha : s.heap.get? a = some o) (hd : o.data = .func fn) (T : FnAt C x fd fn) (hloc : ∀ p ∈ fd.params, fd.names.lookup p = some .local) (hnc : ∀ p ∈ fd.names, p.2 ≠ .cell) (hb : fn.body = fd.body) (hcd : s.heap.CodeRec fn.code fn.qualname) (hlim : s.heap.NoLimit)
    (hbind : bindArgs fn ⟨vals, []⟩ = pure (fd.params.zip vals)) (hl : fd.params.length = vals.length) (F : FmR C A W s.heap) (R : StR C W σ s) (xs : VRs C.toCx W s.heap vs vals) (pw : fn.closure.Pairwise fun x y => x.2 ≠ y.2) (caps : Caps C.toCx W s.heap fn.closure cap)
    (hcap : ∀ y d, look y cap = some d → fd.names.lookup y = some .free)
    (h : (match fd.body with
      | .stmts b => bd (execs r ⟨x, fd.names, fd.params, []⟩ b (fd.params.zip vs ++ cap) σ) fun p => some (p.1.rs, p.2.2)
      | .expr e => val (r.E e ⟨x, fd.names, fd.params, fd.params.zip vs ++ cap⟩ σ)) = some (Rr, σ')) (q : Two C A W s σ' Rr Q E) : wpAny C.M A (call (.ref a) vals) Q E s := by
  refine w5 (F.has) fun lf hlf => ?_
  have hroom : A.depth < recursionLimit := by have := hr.depth; refine (?_ : A.depth < 1000); omega
  have hlocB : ∀ y ∈ fd.params.zip vals, fn.scope.names.lookup y.1 = some .local := fun y m => by
    refine rwm (T.names) ?_; exact hloc y.1 (List.of_mem_zip m).1
  have hcell : ∀ y ∈ fn.scope.names, y.2 ≠ .cell := by refine rwm (T.names) ?_; exact hnc
  have hdf := deeper_frames (env := cloEnv fn s.heap.objs.size a) hlf
  have main : ∀ h', h'.Ns s.heap.objs.size (fun y => (fd.params.zip vals).reverse.lookup y) → (∀ b o, s.heap.get? b = some o → h'.get? b = some o) → ∀ tk,
      ∃ (W₁ : Wd) (own : List Addr), FrR C (A.deeper (cloEnv fn s.heap.objs.size a)) W₁ (cloEnv fn s.heap.objs.size a) own ⟨x, fd.names, fd.params, fd.params.zip vs ++ cap⟩ h' ∧ StR C W₁ σ { s with heap := h', toks := tk } ∧ Go C A [] W s W₁ { s with heap := h', toks := tk } ∧ (∀ b ∈ own, s.heap.get? b = none) :=
    fun h' ns kp tk => clo_frame (tk := tk) T hloc hnc F R hl xs pw caps hcap ns kp
  have keep : ∀ {h' : Heap}, Heap.SameBut s.heap.objs.size (s.heap.push { cls := .type "frame", data := .dict #[] }) h' → ∀ b o, s.heap.get? b = some o → h'.get? b = some o := fun hsb b o e => hsb.extBut b o (Nat.ne_of_lt (Heap.lt_size e)) (Heap.get?_push_of_some _ e)
  induction hbd : fd.body using FuncBody.casesOn with
  | stmts b =>
    rw [hbd] at h
    refine bd_e3 (show (bd (execs r ⟨x, fd.names, fd.params, []⟩ b (fd.params.zip vs ++ cap) σ) fun p => some (p.1.rs, p.2.2)) = some (Rr, σ') from h) fun fl m' σ₂ h1 h2 => ?_
    (revert q; (first | refine sp3_g h2 ?_ | refine sp_g h2 ?_); intro q)
    refine wpAny_call (codeAny_call_function hroom ha hd T.co T.gen (hb.trans hbd) hcd ?_)
    refine rwm (hbind) ?_
    refine wpAny_pure (wpAny_newFunctionEnv hcell hlocB (fun h' ns sb => ⟨hlim.fresh _ sb, ?_⟩) T.kind)
    refine (?_ : codeAny _ _ (.func b (cloEnv fn s.heap.objs.size a)) _ _)
    refine x8 (main h' ns (keep sb) (s.toks + (fd.params.zip vals).length)) fun W₁ own F₁ R₁ g₁ fr => ?_
    have hown := own_live F₁ R₁
    have back : ∀ {W' s'}, Go C (A.deeper (cloEnv fn s.heap.objs.size a)) own W₁ _ W' s' → Go C A [] W s W' s' := fun g => g₁.call g hlf fr (fun L e => by (revert e; refine sm_r fun zz => ?_; subst zz); exact F₁.L)
    refine codeAny_func ?_
    refine execs_ok (ρ := ⟨x, fd.names, fd.params, []⟩) HS (hr.deeper _) hdf h1 F₁ R₁ ?_
    clear h1 h2
    induction fl using Fl.casesOn with
    | next => exact fun W' s' g R' F' => q W' s' .none (back g) R' .none
    | ret v => exact fun W' s' v' g R' F' xv => q W' s' v' (back g) R' xv
    | exc y =>
      intro W' s' e ph f g R' F' X' hp
      refine here_leave hdf hown ⟨f, g, R', F', X', hp⟩ fun W₂ s₂ T₂ H₂ => ?_
      have fs : ∀ b, h'.get? b = none → s.heap.get? b = none := fun b z => by
        induction w : s.heap.get? b using Option.casesOn with
        | none => rfl
        | some o => have e' := keep sb b o w; rw [z] at e'; exact nsx e'
      exact q W₂ s₂ e T₂ (fs _ (H₂.fresh _ (.head _))) (fs _ (H₂.fresh _ (.tail _ (.head _)))) (back H₂.go) H₂.st H₂.exc
  | expr e =>
    rw [hbd] at h
    replace h := val_some h
    refine w6 h fun v h1 zz1 => ?_
    clear h
    subst zz1
    refine wpAny_call (kla_callFunE hroom ha hd T.co T.gen (hb.trans hbd) hcd ?_)
    refine rwm (hbind) ?_
    refine wpAny_pure (wpAny_newFunctionEnv hcell hlocB (fun h' ns sb => ⟨hlim.fresh _ sb, ?_⟩) T.kind)
    refine (?_ : codeAny _ _ (.expr e (cloEnv fn s.heap.objs.size a)) _ _)
    refine x8 (main h' ns (keep sb) (s.toks + (fd.params.zip vals).length)) fun W₁ own F₁ R₁ g₁ fr => ?_
    have back : ∀ {W' s'}, Go C (A.deeper (cloEnv fn s.heap.objs.size a)) own W₁ _ W' s' → Go C A [] W s W' s' := fun g => g₁.call g hlf fr (fun L e => by (revert e; refine sm_r fun zz => ?_; subst zz); exact F₁.L)
    refine kla_codeExpr ?_
    exact H h1 (hr.deeper _) F₁ R₁ fun W' s' v' g R' xv => q W' s' v' (back g.weak0) R' xv
end
inductive FdO (C : Cy) (x : Str) (fd : FD) (a : Addr) : Prop
  | mk (o : Obj) (fn : FuncData) (body : List Stmt) : C.h₀.get? a = some o → o.data = .func fn → FnAt C x fd fn → fn.closure = [] → fn.body = .stmts body → fd.body = .stmts body → C.h₀.CodeRec fn.code fn.qualname →
    (∀ {W : Wd} {σ : St} {s : Shared} {args : List V} {vals : List Value} {m : List (Str × V)}, StR C W σ s → VRs C.toCx W s.heap args vals → params fd.params fd.dfl args = some m →
      ∃ (as' : List V) (vals' : List Value), m = fd.params.zip as' ∧ VRs C.toCx W s.heap as' vals' ∧ fd.params.length = vals'.length ∧ BindsTo s fn ⟨vals, []⟩ (fd.params.zip vals')) → FdO C x fd a
structure Gc (C : Cy) (X : Tx) : Prop where
  nolimit : C.h₀.NoLimit
  defs : ∀ {x : Str} {fd : FD}, X.defs x = some fd → sq x "_law_spark" = false → sq x "Thing" = false → sq x "text_value" = false → ∃ a, C.addr x = some a ∧ FdO C x fd a
  txt : ∀ {t : Str} {u : Tok} {σ : St} {A : Around} {n : Nat} {W : Wd} {s : Shared} {a : Addr} {Q E : Value → Shared → Prop}, C.addr "text_value" = some a → ascii t = true → Room A (n + 1) → FmR C A W s.heap → StR C W σ s → Val C A [] W s σ (.tup [.str "text", .any]) Q → wpAny C.M A (call (.ref a) [.str t u]) Q E s
  spark : ∀ {args : List V} {v : V} {σ σ' : St}, Mine.spark args σ = some (v, σ') → ∀ {A : Around} {n : Nat} {W : Wd} {s : Shared} {a : Addr} {vals : List Value} {Q E : Value → Shared → Prop}, C.addr "_law_spark" = some a → Room A (n + 110) → FmR C A W s.heap → StR C W σ s → VRs C.toCx W s.heap args vals → Val C A [] W s σ' v Q → wpAny C.M A (call (.ref a) vals) Q E s
  thing : ∀ {k f z : V} {σ : St} {A : Around} {n : Nat} {W : Wd} {s : Shared} {a : Addr} {vals : List Value} {Q E : Value → Shared → Prop}, C.addr "Thing" = some a → Room A (n + 1) → FmR C A W s.heap → StR C W σ s → VRs C.toCx W s.heap [k, f, z] vals → Val C A [] W s σ (.thing k f z) Q → wpAny C.M A (call (.ref a) vals) Q E s
section
variable {C : Cy} {X : Tx} {A : Around} {own : List Addr} {W W' W₁ : Wd} {s s' s₁ : Shared} {σ σ' : St} {env : Env} {ρ : Fr} {r : Rec} {n : Nat} {E : Value → Shared → Prop}
theorem callFD_some {x : Str} {fd : FD} {cap : List (Str × V)} {args : List V} {Rr : Rs} (h : callFD r x fd cap args σ = some (Rr, σ')) : ∃ m, params fd.params fd.dfl args = some m ∧ (match fd.body with
      | .stmts b => bd (execs r ⟨x, fd.names, fd.params, []⟩ b (m ++ cap) σ) fun p => some (p.1.rs, p.2.2)
      | .expr e => val (r.E e ⟨x, fd.names, fd.params, m ++ cap⟩ σ)) = some (Rr, σ') := by
  refine bd_e (show (bd (params fd.params fd.dfl args) fun m => match fd.body with
    | .stmts b => bd (execs r ⟨x, fd.names, fd.params, []⟩ b (m ++ cap) σ) fun p => match p.1 with
      | .next => some (Rs.val .none, p.2.2)
      | .ret v => some (.val v, p.2.2)
      | .exc n => some (.exc n, p.2.2)
    | .expr e => val (r.E e ⟨x, fd.names, fd.params, m ++ cap⟩ σ)) = some (Rr, σ') from h) fun m h1 h2 => ?_
  refine (w7 m h1 ?_)
  induction hb : fd.body using FuncBody.casesOn with
  | expr e => rw [hb] at h2; exact h2
  | stmts b =>
    rw [hb] at h2
    replace h2 := bd_some h2
    refine wi7 h2 fun fl m' σ₂ h3 h4 => ?_
    clear h2
    refine (?_ : (bd (execs r ⟨x, fd.names, fd.params, []⟩ b (m ++ cap) σ) fun p => some (p.1.rs, p.2.2)) = some (Rr, σ'))
    refine rwm (h3) ?_
    clear h3
    induction fl using Fl.casesOn <;> exact h4
theorem params_nil {ps : List Str} {args : List V} {m : List (Str × V)} (h : params ps [] args = some m) : m = ps.zip args ∧ ps.length = args.length := by
  have h : (match Nat.beq ps.length args.length with | true => some (ps.zip args) | false => none) = some m := h
  induction q : Nat.beq ps.length args.length using Bool.casesOn with
  | true => rw [q] at h; (revert h; refine sm_r fun zz => ?_; subst zz); exact ⟨rfl, Nat.eq_of_beq_eq_true q⟩
  | false => rw [q] at h; exact nsx h
theorem txtArgs {args : List V} {Rr : Rs} (h : (match args with
          | [.str t] => match ascii t with
            | true => some (Rs.val (.tup [.str "text", .any]), σ)
            | false => none
          | _ => none) = some (Rr, σ')) : ∃ t, args = [.str t] ∧ ascii t = true ∧ Rr = .val (.tup [.str "text", .any]) ∧ σ' = σ := by
  split at h
  · rename_i t
    induction ha : ascii t using Bool.casesOn with
    | true => rw [ha] at h; (first | (obtain ⟨rfl, rfl, rfl⟩ := sp3 h) | (obtain ⟨rfl, rfl⟩ := sp h) | cases h); exact (Y2 _ rfl ha rfl rfl)
    | false => rw [ha] at h; exact nsx h
  · exact nsx h
theorem stepC_fn {x : Str} {args : List V} {Rr : Rs} (h : stepC X r (.fn x) args σ = some (Rr, σ')) : (x = "_law_spark" ∧ ∃ v, Mine.spark args σ = some (v, σ') ∧ Rr = .val v) ∨ (x = "Thing" ∧ ∃ k f z, args = [k, f, z] ∧ Rr = .val (.thing k f z) ∧ σ' = σ) ∨
    (x = "text_value" ∧ ∃ t, args = [.str t] ∧ ascii t = true ∧ Rr = .val (.tup [.str "text", .any]) ∧ σ' = σ) ∨
    (sq x "_law_spark" = false ∧ sq x "Thing" = false ∧ sq x "text_value" = false ∧ ∃ fd, X.defs x = some fd ∧ callFD r x fd [] args σ = some (Rr, σ')) := by
  have h : (match sq x "_law_spark" with
    | true => val (Mine.spark args σ)
    | false => match sq x "Thing" with
      | true => match (generalizing := false) args with
        | [k, f, z] => some (Rs.val (.thing k f z), σ)
        | _ => none
      | false => match sq x "text_value" with
        | true => match (generalizing := false) args with
          | [.str t] => match ascii t with
            | true => some (Rs.val (.tup [.str "text", .any]), σ)
            | false => none
          | _ => none
        | false => bd (X.defs x) fun fd => callFD r x fd [] args σ) = some (Rr, σ') := h
  induction h1 : sq x "_law_spark" using Bool.casesOn with
  | true =>
    rw [h1] at h
    refine w6 (val_some h) fun v h2 h3 => ?_
    exact .inl (Z2 (of_sq h1) v h2 h3)
  | false =>
    rw [h1] at h
    induction h2 : sq x "Thing" using Bool.casesOn with
    | true =>
      rw [h2] at h
      refine .inr (.inl ⟨of_sq h2, ?_⟩)
      have h : (match (generalizing := false) args with
        | [k, f, z] => some (Rs.val (.thing k f z), σ)
        | _ => none) = some (Rr, σ') := h
      split at h
      · (first | (obtain ⟨rfl, rfl, rfl⟩ := sp3 h) | (obtain ⟨rfl, rfl⟩ := sp h) | cases h); exact (X3 _ _ _ rfl rfl rfl)
      · exact nsx h
    | false =>
      rw [h2] at h
      induction h3 : sq x "text_value" using Bool.casesOn with
      | true =>
        rw [h3] at h
        refine .inr (.inr (.inl ⟨of_sq h3, ?_⟩))
        have h : (match (generalizing := false) args with
          | [.str t] => match ascii t with
            | true => some (Rs.val (.tup [.str "text", .any]), σ)
            | false => none
          | _ => none) = some (Rr, σ') := h
        exact txtArgs h
      | false =>
        rw [h3] at h
        refine bd_e h fun fd h4 h5 => ?_
        exact .inr (.inr (.inr (wi5 rfl rfl rfl fd h4 h5)))
noncomputable def isSpark : V → Bool
  | .fn x => sq x "_law_spark"
  | _ => false
theorem stepC_ok (D : Gc C X) (H : OkE C r n) (HS : OkS C r n) {f : V} (hs : isSpark f = true → ∃ k, Room A (k + 110)) {args : List V} {Rr : Rs} (h : stepC X r f args σ = some (Rr, σ')) {vf : Value} {vargs : List Value} (hr : Room A (n + 1)) (F : FmR C A W s.heap) (R : StR C W σ s) (xf : VR C.toCx W s.heap f vf) (xs : VRs C.toCx W s.heap args vargs)
    {Q : Value → Shared → Prop} (q : Two C A W s σ' Rr Q E) : wpAny C.M A (call vf vargs) Q E s := by
  induction f using V.casesOn with
  | con c =>
    refine w6 (val_some (show val (callCon c args σ) = some (Rr, σ') from h)) fun v h1 zz1 => ?_
    subst zz1
    clear h hs
    obtain ⟨_, rfl⟩ := xf.inv
    exact callCon_ok h1 hr R xs q
  | fn x =>
    replace xf := xf.inv
    refine w6 xf fun a ea zz1 => ?_
    clear xf
    subst zz1
    rcases stepC_fn h with ⟨rfl, v, h2, rfl⟩ | ⟨rfl, k, f, z, rfl, rfl, rfl⟩ | ⟨rfl, t, rfl, ht, rfl, rfl⟩ | ⟨h1, h2, h2', fd, h3, h4⟩
    · refine w5 (hs (show sq (Str.ofString "_law_spark") (Str.ofString "_law_spark") = true from sq_t rfl)) fun k hk => ?_
      exact D.spark h2 ea hk F R xs q
    · exact D.thing ea hr F R xs q
    · refine VRs.e1 xs fun v1 x1 => ?_
      refine VR.eS x1 fun t1 => ?_
      exact D.txt ea ht hr F R q
    ·
        refine w6 (callFD_some h4) fun m h5 h6 => ?_
        refine w6 (D.defs h3 h1 h2 h2') fun a' e1 zz => ?_
        obtain ⟨o, fn, body, e2, e3, T, e4, e5, e6, e7, bind⟩ := zz
        rw [ea] at e1; (revert e1; refine sm_r fun zz => ?_; subst zz)
        refine x8 (bind R xs h5) fun as' vals' zz1 xs' hl hb => ?_
        clear h5
        subst zz1
        rw [e6] at h6
        rw [List.append_nil] at h6
        refine bd_e3 h6 fun fl m' σ₂ h7 h8 => ?_
        (revert q; (first | refine sp3_g h8 ?_ | refine sp_g h8 ?_); intro q)
        exact callStmts_ok HS hr (R.ground _ _ e2) e3 T e4 e5 (e7.keeps R.ground) (D.nolimit.keeps R.ground) hb hl F R xs' h7 q
  | clo x k cap =>
    have h : (match capFree k.names cap with | true => callFD r x ⟨k.params, [], k.body, k.names⟩ cap args σ | false => none) = some (Rr, σ') := h
    induction hc : capFree k.names cap using Bool.casesOn with
    | false => rw [hc] at h; exact nsx h
    | true =>
      rw [hc] at h
      refine w6 (callFD_some h) fun m h5 h6 => ?_
      refine w8 (params_nil (show params k.params [] args = some m from h5)) fun zz1 hl => ?_
      clear h5
      subst zz1
      replace xf := xf.inv
      refine x6 xf fun a cl ca caps zz1 => ?_
      clear xf
      subst zz1
      obtain ⟨o, fn, c, oc, vs, t, z, e1, e1', T, e3, e4, z', e5, e6, pw⟩ := ca
      have hl' : vargs.length = k.params.length := by (refine rwm (VRs.length xs) ?_; exact rwm (hl) rfl)
      subst e3
      exact clo_call (fd := ⟨k.params, [], k.body, k.names⟩) H HS hr z.1 e1 ⟨T.kind, T.co, T.gen, T.names, T.glob, T.blt, fun k' mk ek => absurd (by refine rwm (C.fnsEq) ?_; exact List.mem_map.mpr (w7 k' mk ek)) T.other, T.nd, T.ndn, fun p m => .inl (T.loc p m)⟩ T.loc T.noCell T.body (Z1 c oc vs t e4 z'.1 e5 e6) (D.nolimit.keeps R.ground) (T.bind vargs hl') hl'.symm F R xs pw caps (capFree_ok hc) h6 q
  | _ => exact nsx h
end
theorem zip_lookup {α : Type} : ∀ {xs : List Str} {vs : List α}, xs.Nodup → vs.length = xs.length → xs.filterMap (fun n => ((xs.zip vs).lookup n).map (n, ·)) = xs.zip vs ∧ ∀ x ∈ xs, ((xs.zip vs).lookup x).isNone = false
  | [], _, _, _ => ⟨rfl, fun _ m => nomatch m⟩
  | x :: xs, [], _, h => by exact (nomatch h)
  | x :: xs, v :: vs, hn, hl => by
    refine w8 (List.nodup_cons.mp hn) fun h1 h2 => ?_
    refine w8 (zip_lookup (vs := vs) h2 (by simpa using hl)) fun i1 i2 => ?_
    have ne : ∀ y ∈ xs, (y == x) = false := fun y m => by
      rw [beq_eq_false_iff_ne]; exact fun e => h1 (e ▸ m)
    have tl : ∀ y ∈ xs, ((x :: xs).zip (v :: vs)).lookup y = (xs.zip vs).lookup y := fun y m => by
      (refine rwm (List.zip_cons_cons) ?_; refine rwm (List.lookup_cons) ?_; exact rwm (ne y m) rfl)
    have hd : ((x :: xs).zip (v :: vs)).lookup x = some v := by
      (refine rwm (List.zip_cons_cons) ?_; refine rwm (List.lookup_cons) ?_; rw [beq_self_eq_true])
    refine ⟨?_, fun y m => ?_⟩
    · (refine rwm (List.filterMap_cons) ?_; refine rwm (hd) ?_)
      refine (?_ : (x, v) :: _ = (x, v) :: xs.zip vs)
      congr 1
      have gen : ∀ l : List Str, (∀ y ∈ l, y ∈ xs) → l.filterMap (fun n => (((x :: xs).zip (v :: vs)).lookup n).map (n, ·)) = l.filterMap (fun n => ((xs.zip vs).lookup n).map (n, ·)) := by
        intro l
        induction l with
        | nil => intro _; rfl
        | cons y l ih => intro h; (refine rwm (List.filterMap_cons) ?_; refine rwm (List.filterMap_cons) ?_; refine rwm (tl y (h y (.head _))) ?_; exact rwm (ih fun z m => h z (.tail _ m)) rfl)
      exact (gen xs fun _ m => m).trans i1
    · rcases mc m with rfl | m
      · refine rwm (hd) ?_; rfl
      · refine rwm (tl y m) ?_; exact i2 y m
noncomputable def bindLoop (xs : List Str) (vals dl : List Value) : Sem (List (Str × Value)) :=
  forIn ((xs.drop (xs.length - (dl.drop (dl.length - xs.length)).length)).zip (dl.drop (dl.length - xs.length))) (xs.zip vals) (fun x s => if (s.lookup x.1).isNone = true then pure (ForInStep.yield (s ++ [(x.1, x.2)])) else pure (ForInStep.yield s))
noncomputable def bindLack (xs : List Str) (vals dl : List Value) : List Str := (xs.take (xs.length - (dl.drop (dl.length - xs.length)).length)).filter fun n => ((xs.zip vals).lookup n).isNone
theorem bind_shape {as : List Arg} {ds : List Expr} {fn : FuncData} (hp : fn.params = ⟨[], as, none, [], [], none, ds⟩) (vals : List Value) :
    ∃ A B : Option (Array Value) → Sem (List (Str × Value)), bindArgs fn ⟨vals, []⟩ = (seqItems? fn.defaults >>= fun o =>
      if (decide (vals.length > (as.map (·.arg)).length) && true) = true then A o else
      if (!(bindLack (as.map (·.arg)) vals (o.getD #[]).toList).isEmpty) = true then B o else
      bindLoop (as.map (·.arg)) vals (o.getD #[]).toList >>= fun slots => pure (((as.map fun a : Arg => a.arg) ++ ([] : List Str)).filterMap fun n => (slots.lookup n).map (n, ·))) := by
  cases fn
  subst hp
  exact ⟨_, _, rfl⟩
theorem bind_run {A B : Sem (List (Str × Value))} {xs : List Str} {vals dl : List Value} {slots r : List (Str × Value)} (h1 : vals.length ≤ xs.length) (h2 : bindLack xs vals dl = []) (h3 : bindLoop xs vals dl = pure slots) (h4 : xs.filterMap (fun n => (slots.lookup n).map (n, ·)) = r) :
    (if (decide (vals.length > xs.length) && true) = true then A else if (!(bindLack xs vals dl).isEmpty) = true then B else bindLoop xs vals dl >>= fun slots => pure ((xs ++ ([] : List Str)).filterMap fun n => (slots.lookup n).map (n, ·))) = pure r := by
  rw [decide_eq_false (Nat.not_lt.mpr h1), if_neg (by decide), h2, if_neg (by decide), h3, List.append_nil, ← h4]; rfl
theorem wp_eq {α : Type} {M : Model} {A : Around} {m : Sem α} {r : α} {Q : α → Shared → Prop} {E : Value → Shared → Prop} {s : Shared} (h : m = pure r) (hq : Q r s) : wpAny M A m Q E s := by
  rw [h]; exact wpAny_pure hq
theorem loop_nil (xs : List Str) (vals : List Value) : bindLoop xs vals [] = pure (xs.zip vals) := by
  unfold bindLoop; rw [List.drop_nil, List.zip_nil_right]; rfl
theorem drop_last {α : Type} (ys : List α) (x : α) : (ys ++ [x]).drop ((ys ++ [x]).length - 1) = [x] := by
  rw [List.length_append, List.length_singleton, Nat.add_sub_cancel, List.drop_left]
theorem loop_one (ys : List Str) (x : Str) (vals : List Value) (d : Value) : bindLoop (ys ++ [x]) vals [d] = pure (match (((ys ++ [x]).zip vals).lookup x).isNone with | true => (ys ++ [x]).zip vals ++ [(x, d)] | false => (ys ++ [x]).zip vals) := by
  have e : [d].drop ([d].length - (ys ++ [x]).length) = [d] := by
    rw [List.length_append, List.length_singleton, List.length_singleton, Nat.sub_eq_zero_of_le (Nat.le_add_left 1 _)]; rfl
  unfold bindLoop
  rw [e, List.length_singleton, drop_last]
  show forIn [(x, d)] ((ys ++ [x]).zip vals) _ = _
  rw [List.forIn_cons]
  induction q : (((ys ++ [x]).zip vals).lookup x).isNone using Bool.casesOn <;> rfl
theorem lack_nil {xs : List Str} {vals dl : List Value} (h : ∀ x ∈ xs.take (xs.length - (dl.drop (dl.length - xs.length)).length), ((xs.zip vals).lookup x).isNone = false) : bindLack xs vals dl = [] :=
  List.filter_eq_nil_iff.mpr fun x m => by rw [h x m]; decide
theorem bind_plain' {as : List Arg} {ds : List Expr} {fn : FuncData} (hp : fn.params = ⟨[], as, none, [], [], none, ds⟩) (hd : fn.defaults = .none) (hn : (as.map (·.arg)).Nodup) (vals : List Value) (hl : vals.length = (as.map (·.arg)).length) : bindArgs fn ⟨vals, []⟩ = pure ((as.map (·.arg)).zip vals) := by
  obtain ⟨A, B, e⟩ := bind_shape hp vals
  obtain ⟨z1, z2⟩ := zip_lookup hn hl
  rw [e, hd]
  exact bind_run (dl := []) (Nat.le_of_eq hl) (lack_nil fun x m => z2 x (List.mem_of_mem_take m)) (loop_nil _ _) z1
theorem bind_all {as : List Arg} {ds : List Expr} {fn : FuncData} {T : Addr} {o : Obj} {d : Value} {n : Nat} {ys : List Str} {x : Str} {s : Shared} (hp : fn.params = ⟨[], as, none, [], [], none, ds⟩) (hx : as.map (·.arg) = ys ++ [x]) (hn : (ys ++ [x]).Nodup) (hd : fn.defaults = .ref T) (ho : s.heap.get? T = some o) (hs : o.data = .seq #[d] n) {vals : List Value} (hl : vals.length = (ys ++ [x]).length) :
    BindsTo s fn ⟨vals, []⟩ ((ys ++ [x]).zip vals) := fun M A E Q hq => by
  obtain ⟨A', B, e⟩ := bind_shape hp vals
  obtain ⟨z1, z2⟩ := zip_lookup hn hl
  rw [e, hd]
  refine wpAny_bind (wpAny_seqItems ho hs ?_)
  rw [hx]
  refine wp_eq (bind_run (dl := [d]) (Nat.le_of_eq hl) (lack_nil fun x m => z2 x (List.mem_of_mem_take m)) (loop_one ys x vals d) ?_) hq
  rw [z2 x (List.mem_append_right _ (.head _))]; exact z1
theorem bind_dflt {as : List Arg} {ds : List Expr} {fn : FuncData} {T : Addr} {o : Obj} {d : Value} {n : Nat} {ys : List Str} {x : Str} {s : Shared} (hp : fn.params = ⟨[], as, none, [], [], none, ds⟩) (hx : as.map (·.arg) = ys ++ [x]) (hn : (ys ++ [x]).Nodup) (hd : fn.defaults = .ref T) (ho : s.heap.get? T = some o) (hs : o.data = .seq #[d] n) {vals : List Value} (hl : vals.length = ys.length) :
    BindsTo s fn ⟨vals, []⟩ ((ys ++ [x]).zip (vals ++ [d])) := fun M A E Q hq => by
  obtain ⟨A', B, e⟩ := bind_shape hp vals
  have nd := List.nodup_append.mp hn
  obtain ⟨_, z2⟩ := zip_lookup nd.1 hl
  obtain ⟨z3, _⟩ := zip_lookup (vs := vals ++ [d]) hn (by rw [List.length_append, List.length_append, hl]; rfl)
  have zz : (ys ++ [x]).zip vals = ys.zip vals := by rw [← List.append_nil vals, List.zip_append hl.symm, List.zip_nil_right, List.append_nil, List.append_nil]
  have zx : ((ys.zip vals).lookup x).isNone = true := by
    cases q : (ys.zip vals).lookup x with
    | none => rfl
    | some w => exact absurd (List.of_mem_zip (mem_of_lookup q)).1 fun m => nd.2.2 x m x (.head _) rfl
  rw [e, hd]
  refine wpAny_bind (wpAny_seqItems ho hs ?_)
  rw [hx]
  refine wp_eq (bind_run (dl := [d]) (by rw [hl, List.length_append]; exact Nat.le_add_right _ _) (lack_nil fun y m => ?_) (loop_one ys x vals d) ?_) hq
  · have e : [d].drop ([d].length - (ys ++ [x]).length) = [d] := by
      rw [List.length_append, List.length_singleton, List.length_singleton, Nat.sub_eq_zero_of_le (Nat.le_add_left 1 _)]; rfl
    rw [e, List.length_append, List.length_singleton, List.length_singleton, Nat.add_sub_cancel, List.take_left] at m
    rw [zz]; exact z2 y m
  · rw [zz, zx]
    refine Eq.trans ?_ z3
    rw [List.zip_append hl.symm]; rfl
theorem bind_plain {as : List Arg} {fn : FuncData} (hp : fn.params = ⟨[], as, none, [], [], none, []⟩) (hd : fn.defaults = .none) (hn : (as.map (·.arg)).Nodup) (vals : List Value) (hl : vals.length = (as.map (·.arg)).length) : bindArgs fn ⟨vals, []⟩ = pure ((as.map (·.arg)).zip vals) := bind_plain' hp hd hn vals hl
structure Gm (C : Cy) (X : Tx) : Prop where
  made : ∀ {f m : Str} {l c : Nat}, X.made f = some (m, l, c) → m ∉ C.fns ∧ ∃ k ∈ C.clos, k.fn = f ∧ k.pos.line = l ∧ k.pos.col = c ∧ k.qual = f ++ ".<locals>." ++ m
  head : ∀ k ∈ C.clos, CodeHd C.h₀ k.code k.P
  uniq : ∀ k ∈ C.clos, ∀ k' ∈ C.clos, k.P = k'.P → k = k'
  glob : ∃ mg bm ob, C.h₀.Ns mainGlobals mg ∧ mg "__builtins__" = some (.ref bm) ∧ bm ≠ builtinsNs ∧ C.h₀.get? bm = some ob ∧ ob.cls = .type "module" ∧ ob.dict = some builtinsNs ∧ ob.data = .plain
theorem argNames_ok : ∀ {as : List Arg} {xs : List Str}, argNames as = some xs → as.map (·.arg) = xs ∧ ∀ env, annotationsOf as env = []
  | [], _, h => by (revert h; refine sm_r fun zz => ?_; subst zz); exact ⟨rfl, fun _ => rfl⟩
  | ⟨x, none, p⟩ :: r, xs, h => by
    refine bd_e (show (bd (argNames r) fun l => some (x :: l)) = some xs from h) fun l h1 h2 => ?_
    clear h
    (revert h2; refine sm_r fun zz => ?_; subst zz)
    refine w8 (argNames_ok h1) fun i1 i2 => ?_
    exact ⟨by (refine rwm (List.map_cons) ?_; exact rwm (i1) rfl), fun env => i2 env⟩
  | ⟨x, some a, p⟩ :: r, xs, h => by exact nsx h
theorem allLocal_ok {names : List (Str × NameKind)} : ∀ {l : List Str}, allLocal names l = true → ∀ p ∈ l, names.lookup p = some .local
  | [], _, _, m => nomatch m
  | x :: r, h, p, m => by
    have h : (match names.lookup x with | some .local => allLocal names r | _ => false) = true := h
    split at h
    · rename_i hx
      rcases mc m with rfl | m
      · exact hx
      · exact allLocal_ok h p m
    · exact ftx h
theorem noCells_ok : ∀ {l : List (Str × NameKind)}, noCells l = true → ∀ p ∈ l, p.2 ≠ .cell
  | [], _, _, m => nomatch m
  | (x, k) :: r, h, p, m => by
    have h' : k ≠ .cell ∧ noCells r = true := by
      clear m
      induction k using NameKind.casesOn <;> first | exact ⟨by decide, h⟩ | exact ftx h
    rcases mc m with rfl | m
    · exact h'.1
    · exact noCells_ok h'.2 p m
theorem isFun_ok {k : ScopeKind} (h : isFun k = true) : k = .function := by induction k using ScopeKind.casesOn <;> first | rfl | exact ftx h
theorem cloT_some {ps : Arguments} {b : FuncBody} {sc : Scope} {k : CloT} (h : cloT ps b sc = some k) : ∃ as, ps = ⟨[], as, none, [], [], none, []⟩ ∧ as.map (·.arg) = k.params ∧ (∀ env, annotationsOf as env = []) ∧ sc.kind = .function ∧ sc.isCoroutine = false ∧ sc.isGenerator = false ∧ k.body = b ∧ k.names = sc.names ∧
    k.params.Nodup ∧ (k.names.map (·.1)).Nodup ∧ (∀ p ∈ k.params, k.names.lookup p = some .local) ∧ ∀ p ∈ k.names, p.2 ≠ .cell := by
  refine bd_e2 (show bd ((vPars0 ps).map (·.1)) _ = some k from h) fun as ds h0 h' => ?_
  have e0 := view_some h0
  induction ds using List.casesOn with
  | nil =>
    refine bd_e (show bd (argNames as) _ = some k from h') fun xs h1 h2 => ?_
    refine w8 (argNames_ok h1) fun a1 a2 => ?_
    split at h2
    · rename_i hc
      clear h
      (revert h2; refine sm_r fun zz => ?_; subst zz)
      simp only [Bool.and_eq_true] at hc
      refine w8 hc fun zz1 c7 => ?_
      clear hc
      obtain ⟨⟨⟨⟨⟨c1, c2⟩, c3⟩, c4⟩, c5⟩, c6⟩ := zz1
      exact ⟨as, e0, a1, a2, isFun_ok c1, by simpa using c2, by simpa using c3, rfl, rfl, nodupK_ok c5, nodupN_ok c4, allLocal_ok c6, noCells_ok c7⟩
    · exact nsx h2
  | cons _ _ => exact nsx h'
section
variable {C : Cy} {X : Tx} {A : Around} {own : List Addr} {W W' W₁ : Wd} {s s' s₁ : Shared} {σ σ' : St} {env : Env} {ρ : Fr} {r : Rec} {n : Nat} {E : Value → Shared → Prop}
theorem madeHere_some {m : Str} {p : Pos} (h : madeHere X ρ m p = true) : ∃ l c, X.made ρ.fn = some (m, l, c) ∧ p.line = l ∧ p.col = c := by
  unfold madeHere at h
  split at h
  · rename_i m' l c e
    refine w8 (Bool.and_eq_true_iff.mp h) fun h1 h2 => ?_
    refine w8 (Bool.and_eq_true_iff.mp h1) fun h3 h4 => ?_
    have e' := of_sq h3
    clear h h1 h3
    subst e'
    exact (y7 l c e (Nat.eq_of_beq_eq_true h4) (Nat.eq_of_beq_eq_true h2))
  · exact ftx h
theorem capsOk_ok : ∀ {l : List (Str × NameKind)}, capsOk ρ.names ρ.pars ρ.vars l = true → ∀ x, (x, NameKind.free) ∈ l → ρ.names.lookup x = some .cell ∧ x ∈ ρ.pars ∧ ∃ v, look x ρ.vars = some v
  | [], _, _, m => nomatch m
  | (y, k) :: l, h, x, m => by
    induction k using NameKind.casesOn with
    | free =>
      have h : (match isCell ρ.names y && ρ.pars.contains y && (look y ρ.vars).isSome with | true => capsOk ρ.names ρ.pars ρ.vars l | false => false) = true := h
      split at h
      · rename_i hc
        refine w8 (Bool.and_eq_true_iff.mp hc) fun h1 h2 => ?_
        refine w8 (Bool.and_eq_true_iff.mp h1) fun h3 h4 => ?_
        rcases List.mem_cons.mp m with e | m
        · (first | (obtain ⟨rfl, rfl⟩ := Prod.mk.inj e) | clear m; cases e)
          refine ⟨?_, by simpa using h4, Option.isSome_iff_exists.mp h2⟩
          unfold isCell at h3
          split at h3
          · assumption
          · exact ftx h3
        · exact capsOk_ok h x m
      · exact ftx h
    | _ =>
      rcases List.mem_cons.mp m with e | m
      · exact (nomatch e)
      · exact capsOk_ok (show capsOk ρ.names ρ.pars ρ.vars l = true from h) x m
theorem StR.tabTurn {h' : Heap} {tk : Nat} {ps : Array Value} (D : Gm C X) (R : StR C W σ s) {k : CloI} (mk : k ∈ C.clos) (hx : ∀ b o, b ≠ k.P → s.heap.get? b = some o → h'.get? b = some o) (hP : h'.get? k.P = some (tabObj ps)) (ht : TabR W h' k ps) :
    StR C W σ { s with heap := h', toks := tk } ∧ Go C A [] W s W { s with heap := h', toks := tk } ∧ (∀ {d : V} {v : Value}, VR C.toCx W s.heap d v → VR C.toCx W h' d v) := by
  have mT : k.P ∈ C.tabs := by refine rwm (C.tabsEq) ?_; exact List.mem_map_of_mem mk
  have mM := R.tabs _ mT
  have kp : Keep (· = k.P) (fun _ => False) s.heap h' := .of _ _ fun b o e n => hx b o n e
  have hs : ∀ b, b = k.P → Loose W s.heap b := fun b e => .inl (e ▸ mM)
  have hp : ∀ b, False → b ∈ W.mt := fun _ f => f.elim
  have plain : ∀ {a its}, a ∈ W.adr → PlainL s.heap a its → PlainL h' a its := fun m ⟨o, n, e, c, d, q⟩ => (y8 o n (hx _ o (fun z => R.apart _ m (z ▸ mT)) e) c d q)
  refine ⟨⟨R.len, R.nd, R.sy, fun i l' e => ?_, fun a m => ?_, fun i e => ?_, R.adr, R.tabs, R.apart, fun c m => ?_, fun b m => ?_, fun b o e => ?_, R.fresh, R.gens, R.os⟩, ⟨.refl _ _, fun b o e t => .inl (hx b o (fun z => t (.inr (.inl (z ▸ mT)))) e), fun b o e => ?_, rfl⟩, fun x => x.mono (.refl _ _) kp hs hp⟩
  · refine x8 (R.lst i l' e) fun a vs h1 h2 h3 h4 => ?_
    exact (y8 a vs h1 (plain (List.mem_of_getElem? h1) h2) (h3.mono (.refl _ _) kp hs hp) h4)
  · refine w5 (R.lists a m) fun its p => ?_
    exact ⟨its, plain m p⟩
  · refine Y8 (R.forge i e) fun a x y t u h1 h2 h3 => ?_
    exact (Y7 a x y t u h1 (plain (List.mem_of_getElem? h1) h2) h3)
  · by_cases q : c.P = k.P
    · have := D.uniq c m k mk q
      clear hs hx kp mM mT mk q
      subst this
      exact (w7 ps hP ht)
    · refine w6 (R.tab c m) fun ps' e t => ?_
      refine (w7 ps' (hx _ _ q e) ?_)
      rcases t with t | ⟨cc, oc, vs, t, h1, h2, h3⟩
      · exact .inl t
      · exact .inr (X6 cc oc vs t h1 (h2.mono (.refl _ _) kp hs hp) h3)
  · by_cases q : b = k.P
    · clear m
      subst q; exact ⟨_, hP⟩
    · refine w5 (R.live b m) fun o e => ?_
      exact ⟨o, hx b o q e⟩
  · have ne : b ≠ k.P := fun z => by rw [z, R.fresh _ mM] at e; exact nsx e
    exact hx b o ne (R.ground b o e)
  · by_cases q : b = k.P
    · clear e
      subst q; exact ⟨_, hP⟩
    · exact ⟨o, hx b o q e⟩
theorem caps_made {h' : Heap} {sc : Scope} (F : FrR C A W env own ρ s.heap) (R : StR C W σ s) (hn : (sc.names.map (·.1)).Nodup) (hc : capsOk ρ.names ρ.pars ρ.vars sc.names = true) (vr : ∀ {d : V} {v : Value}, VR C.toCx W s.heap d v → VR C.toCx W h' d v) (kc : ∀ b o, b ∉ C.tabs → s.heap.get? b = some o → h'.get? b = some o) :
    closureFor sc env = pure (closN env sc.names []) ∧ Caps C.toCx W h' (closN env sc.names []) (capOf ρ.vars sc.names) ∧ (closN env sc.names []).Pairwise fun x y => x.2 ≠ y.2 := by
  have hk : ∀ x, (x, NameKind.free) ∈ sc.names → ∃ v c v', look x ρ.vars = some v ∧ env.cells.lookup x = some c ∧ s.heap.IsCell c (some v') ∧ VR C.toCx W s.heap v v' ∧ c ∉ W.mt := fun x m => by
    obtain ⟨h1, h2, v, h3⟩ := capsOk_ok hc x m
    have nl : env.kindOf x ≠ some .local := fun q => by have := (F.nmL x).mpr q; rw [h1] at this; exact (nomatch this)
    refine X4 (F.cells x v h3 nl) fun _ c v' e1 e2 e3 e4 => ?_
    exact (Y4 v c v' h3 e1 e2 e3 (e4 h2))
  have hfree : ∀ x, (x, NameKind.free) ∈ sc.names → ∃ c, env.cells.lookup x = some c := fun x m => by refine W5 (hk x m) fun _ c _ _ e _ => ?_; exact ⟨c, e⟩
  refine W2 (closN_spec sc.names hfree hn F.apart) fun c1 c2 c3 => ?_
  refine ⟨closureFor_ok sc hfree, ?_, c3⟩
  have go : ∀ l : List (Str × NameKind), (∀ p ∈ l, p ∈ sc.names) → Caps C.toCx W h' (closN env sc.names []) (capOf ρ.vars l) := by
    intro l
    induction l with
    | nil => intro _; exact .nil
    | cons p l ih =>
      intro h
      obtain ⟨x, kd⟩ := p
      have rest := ih fun q m => h q (.tail _ m)
      induction kd using NameKind.casesOn with
      | free =>
        have m := h _ (.head _)
        obtain ⟨v, c, v', e1, e2, ⟨o, eo, dc⟩, e4, e5⟩ := hk x m
        refine (?_ : Caps C.toCx W h' _ (match look x ρ.vars with | some v => (x, v) :: capOf ρ.vars l | none => capOf ρ.vars l))
        refine rwm (e1) ?_
        have nt : c ∉ C.tabs := fun q => e5 (R.tabs c q)
        exact .cons (lookup_nodup c2 ((c1 x c).mpr ⟨m, e2⟩)) (w7 o ⟨kc c o nt eo, e5, isIter_cell dc⟩ dc) (vr e4) rest
      | _ => exact rest
  exact go sc.names fun _ m => m
theorem make_ok (D : Gm C X) {x : Str} {ps : Arguments} {b : FuncBody} {sc : Scope} {p : Pos} {k : CloT} {fl : Nat} {Q : Value → Shared → Prop} (hm : madeHere X ρ x p = true) (hc : capsOk ρ.names ρ.pars ρ.vars sc.names = true) (hk : cloT ps b sc = some k) (F : FrR C A W env own ρ s.heap) (R : StR C W σ s)
    (q : Val C A [] W s σ (.clo x k (capOf ρ.vars sc.names)) Q) : wpAny C.M A (makeFunction x (env.qual ++ x) ps b sc env [] [] [] p fl) Q E s := by
  obtain ⟨as, rfl, a1, a2, k1, k2, k3, k4, k5, k6, k7, k8, k9⟩ := cloT_some hk
  refine x6 (madeHere_some hm) fun l c hm1 hl hcol => ?_
  obtain ⟨nx, kk, mk, e1, e2, e3, e4⟩ := D.made hm1
  refine w8 (F.code kk mk e1) fun hcode hq => ?_
  refine wi1 (D.glob) fun mg bm ob g1 g2 g3 g4 g5 g6 g7 => ?_
  refine w6 (R.tab kk mk) fun pst hP ht => ?_
  have hd := (D.head kk mk).keeps R.ground
  have hgs := g1.keeps R.ground
  have mT : kk.P ∈ C.tabs := by refine rwm (C.tabsEq) ?_; exact List.mem_map_of_mem mk
  have fP : C.h₀.get? kk.P = none := R.fresh _ (R.tabs _ mT)
  have hgP : mainGlobals ≠ kk.P := fun q => by
    refine y9 g1 fun o es ep e _ => ?_
    clear g1
    rw [q, fP] at e; exact nsx e
  have hbP : bm ≠ kk.P := fun q => by rw [q, fP] at g4; exact nsx g4
  have hbG : bm ≠ mainGlobals := fun q => by
    refine W5 g1 fun o es ep e hd _ => ?_
    clear g1
    rw [q, e] at g4; clear e; cases g4; rw [hd] at g7; exact (nomatch g7)
  have hb : s.heap.BuiltinsAt mg kk.P := ⟨bm, ob, g2, g3, hbG, hbP, R.ground _ _ g4, g5, g6, g7⟩
  have hcl : closureFor sc env = pure (closN env sc.names []) := (caps_made (h' := s.heap) F R (by refine rwl (k5) ?_; exact k7) hc (fun x => x) (fun _ _ _ e => e)).1
  have qual : env.qual ++ x = kk.qual := by (refine rwm (e4) ?_; exact rwm (hq) rfl)
  have fin : ∀ (h' : Heap) (tk : Tok) (ctv doc pm : Value) (c' : Addr) (oc : Obj) (vs : Array Value) (t : Tok), (∀ b o, b ≠ kk.P → s.heap.get? b = some o → h'.get? b = some o) → h'.get? kk.P = some (tabObj #[rawInt p.line, rawInt p.col, .ref c']) → h'.get? c' = some oc → oc.data = .fields vs → vs[1]? = some (.str (env.qual ++ x) t) → c' ∉ W.mt → s.heap.objs.size ≤ h'.objs.size →
      Q (.ref h'.objs.size) { s with heap := h'.push (kdv_obj x (env.qual ++ x) ⟨[], as, none, [], [], none, []⟩ b sc (closN env sc.names []) .none doc pm c' ctv), toks := tk } := by
    intro h' tk ctv doc pm c' oc vs t hx hP' hoc hd' hv nm hsz
    have hx' : ∀ b₀ o, b₀ ≠ kk.P → s.heap.get? b₀ = some o → (h'.push (kdv_obj x (env.qual ++ x) ⟨[], as, none, [], [], none, []⟩ b sc (closN env sc.names []) .none doc pm c' ctv)).get? b₀ = some o := fun b₀ o n e => Heap.get?_push_of_some _ (hx b₀ o n e)
    have nS : h'.objs.size ∉ W.mt := fun m => by refine w5 (R.live _ m) fun o e => ?_; exact absurd (Heap.lt_size e) (Nat.not_lt.mpr hsz)
    have fz : Fz W (h'.push (kdv_obj x (env.qual ++ x) ⟨[], as, none, [], [], none, []⟩ b sc (closN env sc.names []) .none doc pm c' ctv)) c' oc := ⟨Heap.get?_push_of_some _ hoc, nm, isIter_code hd' hv⟩
    obtain ⟨R', g, vr⟩ := R.tabTurn (tk := tk) D mk hx' (Heap.get?_push_of_some _ hP') (.inr (Z1 c' oc vs t (by (refine rwm (e2) ?_; refine rwm (e3) ?_; refine rwm (hl) ?_; exact rwm (hcol) rfl)) fz hd' (by refine rwl (qual) ?_; exact hv)))
    refine W2 (caps_made (h' := h'.push (kdv_obj x (env.qual ++ x) ⟨[], as, none, [], [], none, []⟩ b sc (closN env sc.names []) .none doc pm c' ctv)) F R (by refine rwl (k5) ?_; exact k7) hc vr (fun b o n e => hx' b o (fun z => n (z ▸ mT)) e)) fun _ cp pw => ?_
    refine q W _ _ g R' (.clo ⟨_, _, c', oc, vs, t, ⟨Heap.get?_push_size _ rfl, nS, rfl⟩, rfl, rfl, ⟨k1, k2, k3, k5.symm, rfl, rfl, k4.symm, fun vals hv => ?_, k6, k7, k8, k9, nx⟩, rfl, rfl, fz, hd', hv, pw⟩ cp)
    refine rwl (a1) ?_
    exact bind_plain rfl rfl (by refine rwm (a1) ?_; exact k6) vals (by refine rwm (a1) ?_; exact hv)
  have ct : ∀ c', c' ≥ s.heap.objs.size → c' ∉ W.mt := fun c' h m => by refine w5 (R.live _ m) fun o e => ?_; exact absurd (Heap.lt_size e) (Nat.not_lt.mpr h)
  refine rwm (makeFunction_eq ..) ?_
  simp only [List.zip_nil_right, List.filterMap_nil, List.isEmpty_nil, if_true, pure_bind]
  rcases ht with rfl | ⟨c₀, oc₀, vs₀, t₀, rfl, z, hd₀, hv₀⟩
  · refine kdv_makeTail hcl F.glob hgs hcode hd hP trivial rfl hgP hb fun c' ctv doc h' tk hx hge hlt hrec htb => ?_
    refine Z4 hrec fun c₂ oc vs t ec hoc hd' hv => ?_
    clear hrec
    cases ec
    exact fin h' tk ctv doc _ c' oc vs t (fun b o n e => hx b o n e) (by simpa using htb) hoc hd' hv (ct c' hge) (Nat.le_trans hge (Nat.le_of_lt hlt))
  · have hf : codeAmong p (#[rawInt kk.pos.line, rawInt kk.pos.col, Value.ref c₀] : Array Value).toList = some (.ref c₀) := by
      (refine rwm (e2) ?_; refine rwm (e3) ?_; refine rwl (hl) ?_; refine rwl (hcol) ?_)
      refine (?_ : (if ((p.line : Int) == p.line && (p.col : Int) == p.col) = true then some (Value.ref c₀) else none) = _)
      simp
    refine kdv_makeTailHit hcl F.glob hgs hcode hd hP trivial hf hb fun ctv doc h' tk hx hsz => ?_
    refine fin h' tk ctv doc _ c₀ oc₀ vs₀ t₀ (fun b o _ e => hx b o e) ?_ (hx _ _ z.1) hd₀ (by refine rwm (qual) ?_; exact hv₀) z.2.1 hsz
    (refine rwm (hx _ _ hP) ?_; refine rwm (e2) ?_; refine rwm (e3) ?_; refine rwm (hl) ?_; exact rwm (hcol) rfl)
theorem lambda_ok (D : Gm C X) : OkL C X n := by
  intro ps b sc p ρ σ k h hk A env own W s hr F R Q E q
  refine w8 (Bool.and_eq_true_iff.mp h) fun h1 h2 => ?_
  refine w6 (cloT_some hk) fun as zz1 _ => ?_
  subst zz1
  exact kla_eval rfl (make_ok D h1 h2 hk F R q)
theorem def_ok (D : Gm C X) {x : Str} {ps : Arguments} {b : List Stmt} {sc : Scope} {p : Pos} {k : CloT} {m' : List (Str × V)} {Q : Flow → Shared → Prop} (hm : madeHere X ρ x p = true) (hc : capsOk ρ.names ρ.pars ρ.vars sc.names = true) (hk : cloT ps (.stmts b) sc = some k)
    (h2 : bind1 ρ.names ρ.pars x (.clo x k (capOf ρ.vars sc.names)) ρ.vars = some m') (F : FrR C A W env own ρ s.heap) (R : StR C W σ s) (q : Out C A own W s σ env ρ m' Q E .next) : wpAny C.M A (exec (.FunctionDef x ps b [] none [] sc none x p) env) Q E s := by
  refine Y0 (cloT_some hk) fun as zz1 a1 a2 _ => ?_
  subst zz1
  have ha : annTrees ⟨[], as, none, [], [], none, []⟩ none env = [] := by
    refine (?_ : annotationsOf (as ++ [] ++ [] ++ [] ++ []) env ++ [] = [])
    simp only [List.append_nil]
    exact a2 env
  have hq : qualnameIn env x x = env.qual ++ x := by
    have hn : env.kindOf x ≠ some .globalExplicit := by
      refine w8 (bind1_some h2) fun _ hs => ?_
      rcases hs with hs | ⟨hs, hp⟩
      · refine rwm ((F.nmL x).mp hs) ?_; decide
      · refine rwm ((F.nmC x hs hp).1) ?_; decide
    unfold qualnameIn
    rw [if_neg]
    intro h
    exact hn (eq_of_beq h)
  refine nestDef_K rfl rfl ha ?_
  refine rwm (hq) ?_
  refine make_ok D hm hc hk F R fun W₁ s₁ v₁ g₁ R₁ x₁ => ?_
  exact store_ok (ρ := ρ) h2 (F.mono R g₁) R₁ x₁ fun s₂ g₂ R₂ F₂ => q W₁ s₂ (g₁.weak0.trans g₂) R₂ F₂
end
inductive GtC (C : Cy) : Prop
  | mk (nm q : Str) (N : Addr) (bs bm : List Value) (hdct : Bool) (sn : List Str) (sub : List Value) (ab : Bool) (col : Option Bool) (dd : Option Addr) (k0 k1 k2 k3 k5 : Option Value) (newId : String) : C.h₀.get? C.thrown = some (excClassObj nm q C.thrown N bs bm hdct sn sub ab col dd k0 k1 k2 k3 k5 newId) → bm.contains (.type "BaseException") = true → GtC C
structure Gt (C : Cy) : Prop where
  name : ∀ {A : Around} {W : Wd} {σ : St} {s : Shared} {env : Env} {Q E : Value → Shared → Prop}, StR C W σ s → env.scope.kind = .function → env.kindOf "Thrown" = some .globalImplicit → env.globals = mainGlobals → env.builtins = builtinsNs → Q (.ref C.thrown) s → wpAny C.M A (loadName env "Thrown") Q E s
  cls : GtC C
  value : ∀ {A : Around} {s : Shared} {e d : Addr} {oe od : Obj} {v : Value} {vs : Array Value} {Q E : Value → Shared → Prop}, Gd C s.heap → s.heap.get? e = some oe → oe.cls = .ref C.thrown → oe.dict = some d → oe.data = .fields vs → s.heap.get? d = some od → lookIn "value" od = some (some v) → handedIn v = true → (∀ tk, Q v { s with toks := tk }) → wpAny C.M A (getAttr (.ref e) "value" true) Q E s
  text : ∃ a, C.addr "thrown_text" = some a ∧
    (∀ {A : Around} {W : Wd} {σ : St} {s : Shared} {env : Env} {Q E : Value → Shared → Prop}, StR C W σ s → env.scope.kind = .function → env.kindOf "thrown_text" = some .globalImplicit → env.globals = mainGlobals → env.builtins = builtinsNs → Q (.ref a) s → wpAny C.M A (loadName env "thrown_text") Q E s) ∧
    ∀ {x txt : Str} {A : Around} {n : Nat} {W : Wd} {σ : St} {s : Shared} {t u : Tok} {Q E : Value → Shared → Prop}, ascii txt = true → Room A (n + 16) → FmR C A W s.heap → StR C W σ s → (∀ W' s' e, s.heap.get? e = none → Go C A [] W s W' s' → StR C W' σ s' → ExcS C.toCx W' s'.heap e x .raw → Q (.ref e) s') → wpAny C.M A (call (.ref a) [.str x t, .str txt u]) Q E s
section
variable {C : Cy} {X : Tx} {A : Around} {own : List Addr} {W W' W₀ W₁ : Wd} {s s' s₀ s₁ : Shared} {σ σ' : St} {env : Env} {ρ : Fr} {r : Rec} {n : Nat} {E : Value → Shared → Prop}
theorem Go.mark {v : Option Value} (g : Go C A own W s W' s') : Go C (A.mark v) own W s W' s' := ⟨g.le, g.keep, g.live, g.drawn⟩
theorem Go.unmark {v : Option Value} (g : Go C (A.mark v) own W s W' s') : Go C A own W s W' s' := ⟨g.le, g.keep, g.live, g.drawn⟩
theorem FmR.mark {v : Option Value} {h : Heap} (F : FmR C A W h) : FmR C (A.mark v) W h := ⟨F.has, F.each⟩
theorem FmR.unmark {v : Option Value} {h : Heap} (F : FmR C (A.mark v) W h) : FmR C A W h := ⟨F.has, F.each⟩
theorem FrR.mark {v : Option Value} {h : Heap} (F : FrR C A W env own ρ h) : FrR C (A.mark v) W env own ρ h := ⟨F.fm.mark, F.kind, F.glob, F.blt, F.frame, F.code, F.ownMt, F.ownAp, F.ownStk, F.L, F.nmG, F.nmL, F.nmC, F.ns, F.cells, F.apart⟩
theorem FrR.unmark {v : Option Value} {h : Heap} (F : FrR C (A.mark v) W env own ρ h) : FrR C A W env own ρ h := ⟨F.fm.unmark, F.kind, F.glob, F.blt, F.frame, F.code, F.ownMt, F.ownAp, F.ownStk, F.L, F.nmG, F.nmL, F.nmC, F.ns, F.cells, F.apart⟩
theorem Here.mark {v : Option Value} {e : Addr} {x : Str} {ph : Ph} (H : Here C A own W₀ s₀ σ env ρ e x ph W s) : Here C (A.mark v) own W₀ s₀ σ env ρ e x ph W s := ⟨H.fresh, H.go.mark, H.st, H.fr.mark, H.exc, H.held⟩
theorem Here.unmark {v : Option Value} {e : Addr} {x : Str} {ph : Ph} (H : Here C (A.mark v) own W₀ s₀ σ env ρ e x ph W s) : Here C A own W₀ s₀ σ env ρ e x ph W s := ⟨H.fresh, H.go.unmark, H.st, H.fr.unmark, H.exc, H.held⟩
theorem here_fly {e T : Addr} {x : Str} {ph : Ph} {Q : Unit → Shared → Prop} (hown : ∀ b ∈ own, ∃ o, s₀.heap.get? b = some o) (H : Here C A own W₀ s₀ σ env ρ e x ph W s) (hT : (∃ L, ph = .held T L) ∨ ph = .fly T)
    (q : ∀ s', Here C A own W₀ s₀ σ env ρ e x (.fly T) W s' → Q () s') : wpAny C.M A (setFlight (.ref e) none) Q E s := by
  have sd := H.side hown
  have own : ph.own = [T] := by clear H sd; rcases hT with ⟨L, rfl⟩ | rfl <;> rfl
  refine flight_ok (fr := none) (T := T) H.st H.fr.fm H.exc hT rfl fun s₂ g R' F' X1 X2 => ?_
  exact q s₂ ⟨by refine (?_ : ∀ b ∈ e :: [T], _); refine rwl (own) ?_; exact H.fresh, H.go.fresh_end g H.fresh, R', H.fr.apartMono H.st g sd, X2 rfl, fun T L e' => by exact (nomatch e')⟩
theorem matches_ok (T : Gt C) {e : Addr} {oe : Obj} {Q : Bool → Shared → Prop} (hd : Gd C s.heap) (he : s.heap.get? e = some oe) (hc : oe.cls = .ref C.thrown) (q : Q true s) : wpAny C.M A (excMatches (.ref e) (.ref C.thrown)) Q E s := by
  obtain ⟨nm, q', N, bs, bm, hdct, sn, sub, ab, col, dd, k0, k1, k2, k3, k5, newId, hC, hb⟩ := T.cls
  obtain ⟨hp, g, d, tk, os⟩ := s
  exact wpAny_excMatches_sub_self (hd _ _ hC) he hc hb q
theorem isGlob_some {x : Str} (h : isGlob x ρ = true) : ρ.names.lookup x = some .globalImplicit := by
  unfold isGlob at h
  split at h
  · assumption
  · exact ftx h
theorem isLocal_some {ns : List (Str × NameKind)} {x : Str} (h : isLocal ns x = true) : ns.lookup x = some .local := by
  unfold isLocal at h
  split at h
  · assumption
  · exact ftx h
noncomputable def hndB (n : Str) (pp : Nat → Pos) (kk : Nat → Nat) : ExceptHandler := .ExceptHandler (some (.Name "Thrown" (pp 0))) (some n) [.Return (some (.Subscript (.Subscript (.Attribute (.Name n (pp 1)) "value" (pp 2)) (.Constant (.int 1) (kk 0) (pp 3)) (pp 4)) (.Constant (.int 1) (kk 1) (pp 5)) (pp 6))) (pp 7)] (pp 8)
theorem handlerOk_some {hs : List ExceptHandler} (h : handlerOk ρ hs = true) : ∃ n pp kk, hs = [hndB n pp kk] ∧ ρ.names.lookup ("Thrown" : Str) = some .globalImplicit ∧ ρ.names.lookup n = some .local ∧ dunder n = false := by
  have h : ∃ x, handO ρ hs = some x := by
    induction e : handO ρ hs using Option.casesOn with
    | none => unfold handlerOk at h; rw [e] at h; exact ftx h
    | some x => exact ⟨x, rfl⟩
  revert h
  intro zz0
  refine w5 zz0 fun x h => ?_
  clear zz0
  match hs with
  | [] => exact nsx h
  | .ExceptHandler _ _ _ _ :: _ :: _ => exact nsx h
  | [.ExceptHandler t n b p] =>
  revert h
  refine bd_r fun t zz1 h => ?_
  subst zz1
  revert h
  refine bd_r fun n zz1 h => ?_
  subst zz1
  match b with
  | [] => exact nsx h
  | _ :: _ :: _ => exact nsx h
  | [s] =>
  revert h
  refine bd_r2 fun r p1 h1 h => ?_
  replace h1 := vRet_some h1
  subst h1
  revert h
  refine bd_r3 fun u1 u2 p2 h1 h => ?_
  replace h1 := vSub_some h1
  subst h1
  revert h
  refine bd_r3 fun v1 v2 p3 h1 h => ?_
  replace h1 := vSub_some h1
  subst h1
  revert h
  refine bd_r3 fun a1 a2 p4 h1 h => ?_
  replace h1 := vAttr_some h1
  subst h1
  revert h
  refine bd_r2 fun x1 p5 h1 h => ?_
  replace h1 := vName_some h1
  subst h1
  revert h
  refine bd_r3 fun c k1 p6 h1 h => ?_
  replace h1 := vCon_some h1
  subst h1
  revert h
  refine bd_r fun i h1 h => ?_
  replace h1 := cInt_some h1
  subst h1
  revert h
  refine bd_r3 fun c k2 p7 h1 h => ?_
  replace h1 := vCon_some h1
  subst h1
  revert h
  refine bd_r fun j h1 h => ?_
  replace h1 := cInt_some h1
  subst h1
  revert h
  refine bd_r2 fun y p8 h1 h => ?_
  replace h1 := vName_some h1
  subst h1
  have hb : (sq y "Thrown" && isGlob y ρ && (look y ρ.vars).isNone && sq x1 n && sq a2 "value" && decide (i = 1) && decide (j = 1) && isLocal ρ.names n && !dunder n) = true := by
    induction e : (sq y "Thrown" && isGlob y ρ && (look y ρ.vars).isNone && sq x1 n && sq a2 "value" && decide (i = 1) && decide (j = 1) && isLocal ρ.names n && !dunder n) using Bool.casesOn with
    | true => rfl
    | false =>
      have h : (match (sq y "Thrown" && isGlob y ρ && (look y ρ.vars).isNone && sq x1 n && sq a2 "value" && decide (i = 1) && decide (j = 1) && isLocal ρ.names n && !dunder n) with | true => some n | false => none) = some x := h
      rw [e] at h; exact nsx h
  refine w8 (Bool.and_eq_true_iff.mp hb) fun hb h9 => ?_
  refine w8 (Bool.and_eq_true_iff.mp hb) fun hb h8 => ?_
  refine w8 (Bool.and_eq_true_iff.mp hb) fun hb h7 => ?_
  refine w8 (Bool.and_eq_true_iff.mp hb) fun hb h6 => ?_
  refine w8 (Bool.and_eq_true_iff.mp hb) fun hb h5 => ?_
  refine w8 (Bool.and_eq_true_iff.mp hb) fun hb h4 => ?_
  refine w8 (Bool.and_eq_true_iff.mp hb) fun hb h3 => ?_
  refine w8 (Bool.and_eq_true_iff.mp hb) fun h1 h2 => ?_
  clear h3 hb
  obtain rfl := of_sq h1
  clear hb
  obtain rfl := of_sq h4
  clear hb
  obtain rfl := of_sq h5
  clear hb
  obtain rfl := of_decide_eq_true h6
  clear h hb
  obtain rfl := of_decide_eq_true h7
  exact (X7 _ (fun n => [p8, p5, p4, p6, p3, p7, p2, p1, p].getD n default) (fun n => [k1, k2].getD n 0) rfl (isGlob_some h2) (isLocal_some h8) ((Bool.not_eq_true' _).mp h9))
theorem handler_ok (G : Gt C) {hs : List ExceptHandler} (hh : handlerOk ρ hs = true) {e T : Addr} {x : Str} {Q : Flow → Shared → Prop} (hown : ∀ b ∈ own, ∃ o, s₀.heap.get? b = some o) {m : List (Str × V)} (H : Here C A own W₀ s₀ σ env (ρ.at m) e x (.fly T) W s)
    (q : ∀ W' s' k, Go C A own W₀ s₀ W' s' → StR C W' σ s' → FmR C A W' s'.heap → Q (.ret (.str x k)) s') : wpAny C.M A (handleBy (.ref e) env hs) Q E s := by
  refine W6 (handlerOk_some hh) fun n pp kk zz1 hg hl hdn => ?_
  clear hh
  subst zz1
  obtain ⟨oe, vs, he, hc, hd, hph, _⟩ := H.exc.obj
  refine wpAny_handleBy_cons (codeAny_handlers_test ?_) (by intro q; exact (nomatch q))
  refine wpAny_Name (G.name H.st H.fr.kind (H.fr.nmG _ hg) H.fr.glob H.fr.blt ?_) (by decide +kernel)
  refine matches_ok G H.st.ground he hc ?_
  refine codeAny_handlers_suite_as ?_
  refine here_fly (A := A.mark (some (.ref e))) hown H.mark (.inr rfl) fun s₁ H₁' => ?_
  have H₁ := H₁'.unmark
  refine w6 (H₁.fr.ns) fun mm hm _ => ?_
  have kl : env.kindOf n = some .local := (H₁.fr.nmL n).mp hl
  have mL := H₁.fr.ownMt _ H₁.fr.L
  refine w8 (H₁.fr.ownAp _ H₁.fr.L) fun aL tL => ?_
  have hkd : (env.scope.kind == .class || (env.scope.kind == .module && env.locals != env.globals)) = false := by refine rwm (H₁.fr.kind) ?_; rfl
  refine wpAny_storeName_local kl hm (fun h' hn sb => ?_) hkd
  have lv : ∃ o, h'.get? env.locals = some o := by (refine y9 hn fun o _ _ e _ => ?_; clear hn); exact ⟨o, e⟩
  obtain ⟨oe₁, vs₁, he₁, hc₁, hd₁, hph₁, d, od, t₀, ws₀, n₀, t₁, ws₁, n₁, k, r1, r2, r3, r4, r5, r6, r7⟩ := H₁.exc.obj
  have nE : e ≠ env.locals := fun z => by
    have := H₁.fresh e (.head _)
    refine w5 (hown _ H₁.fr.L) fun o e' => ?_
    rw [z, e'] at this; exact snx this
  have fz : ∀ {a : Addr} {o : Obj}, Fz W s₁.heap a o → h'.get? a = some o := fun z => (sb.2 _ fun q => z.2.1 (by refine rwm (q) ?_; exact mL)).trans z.1
  have R₂ : StR C W σ { s₁ with heap := h', toks := s₁.toks + 1 } := own_step H₁.st mL aL tL sb lv
  have g₂ : Go C A own W s₁ W { s₁ with heap := h', toks := s₁.toks + 1 } := own_go H₁.fr.L sb lv
  refine wpAny_execs_cons (wpAny_Return_some (Subscript_ (Subscript_ (Attribute_any_ ?_ (by (refine rwm (arm_eval_Attribute ..) ?_; exact rwm (noSuper_base (by rfl)) rfl))))))
  refine wpAny_Name (wpAny_loadName_local H₁.fr.kind kl hn (if_pos rfl) ?_) (dunder_debug hdn)
  refine G.value R₂.ground ((sb.2 e nE).trans he₁) hc₁ r1 hd₁ (fz r2) r3 rfl fun tk => ?_
  refine wpAny_Constant_int ?_
  refine item_tupleT (l := ws₀.toList) (Y5 _ (by simpa using fz r4) rfl n₀ (by simp)) (by decide) (by decide) (j := 1) ?_ (by simpa using r5) ?_ (by with_unfolding_all rfl)
  · obtain ⟨hlt, _⟩ := Array.getElem?_eq_some_iff.mp r5
    have : (1 : Nat) < ws₀.toList.length := by simpa using hlt
    unfold seqIndex?
    simp
    omega
  refine wpAny_Constant_int ?_
  refine item_tupleT (l := ws₁.toList) (Y5 _ (by simpa using fz r6) rfl n₁ (by simp)) (by decide) (by decide) (j := 1) ?_ (by simpa using r7) ?_ (by with_unfolding_all rfl)
  · obtain ⟨hlt, _⟩ := Array.getElem?_eq_some_iff.mp r7
    have : (1 : Nat) < ws₁.toList.length := by simpa using hlt
    unfold seqIndex?
    simp
    omega
  refine wpAny_nameGoes kl hn hkd fun h₃ m' hn₃ sb₃ => ?_
  have lv₃ : ∃ o, h₃.get? env.locals = some o := by (refine y9 hn₃ fun o _ _ e _ => ?_; clear hn₃); exact ⟨o, e⟩
  have R₃ := fun tk => own_step (tk := tk) R₂ mL aL tL sb₃ lv₃
  have g₃ := fun tk => own_go (C := C) (A := A) (W := W) (tk := tk) (s := { s₁ with heap := h', toks := s₁.toks + 1 }) H₁.fr.L sb₃ lv₃
  refine q W _ k (H₁.go.trans (g₂.trans (g₃ _))) (R₃ _) (H₁.fr.fm.mono (g₂.trans (g₃ _)) fun b mb st => ?_)
  refine rwm (H₁.fr.ownStk b mb st) ?_; exact ⟨_, hn₃⟩
noncomputable def tryF : Fl → Fl
  | .exc n => .ret (.str n)
  | f => f
theorem try_ok (G : Gt C) (HS : OkS C r n) (hr : Room A n) {outer : List Env} (hfr : A.frames = some (env :: outer)) {body : List Stmt} {hs : List ExceptHandler} {p : Pos} {fl : Fl} {m' : List (Str × V)} {Q : Flow → Shared → Prop} (hh : handlerOk ρ hs = true)
    (h : execs r ρ body ρ.vars σ = some (fl, m', σ')) (F : FrR C A W env own ρ s.heap) (R : StR C W σ s) (q : Out C A own W s σ' env ρ m' Q E (tryF fl)) : wpAny C.M A (exec (.Try body hs [] [] p) env) Q E s := by
  have hown := own_live F R
  obtain ⟨h₀, hs', e⟩ : ∃ h₀ hs', hs = h₀ :: hs' := by
    refine y9 (handlerOk_some hh) fun n pp kk zz1 _ => ?_
    clear hh
    subst zz1
    exact (x7 _ _ rfl)
  subst e
  refine wpAny_Try_except (execs_ok HS hr hfr h F R ?_)
  clear h
  induction fl using Fl.casesOn with
  | next => exact fun W' s' g R' F' => wpAny_execs_nil (q W' s' g R' F')
  | ret v => exact q
  | exc x =>
    refine Out.here fun W₁ s₁ e ph H => ?_
    refine here_note hfr hown H fun W₂ s₂ T L hf H₂ => ?_
    refine here_fly hown H₂ (.inl ⟨L, rfl⟩) fun s₃ H₃ => ?_
    exact handler_ok G hh hown H₃ fun W' s' k g R' F' => q W' s' _ g R' F' (.str x k)
end
noncomputable def constRec : Rec := ⟨fun e _ σ => match e with | .Constant c _ _ => pair (constV c) σ | _ => none, fun _ _ _ => none, fun _ _ _ => none, fun _ _ _ => none⟩
theorem constRec_ok (C : Cy) (n : Nat) : OkE C constRec n := by
  intro e ρ σ v σ' h A env own W s hr F R Q E q
  have h : (match (generalizing := false) e with | .Constant c _ _ => pair (constV c) σ | _ => none) = some (v, σ') := h
  split at h
  · refine w6 (pair_some h) fun v₁ e1 e2 => ?_
    first | ((refine w8 (Prod.mk.inj e2) fun zz1 zz2 => ?_; subst zz1; clear e2 h; subst zz2)) | cases e2
    exact const_ok e1 R fun s' v' g R' x => q W s' v' g R' x
  · exact nsx h
section
variable {C : Cy} {X : Tx} {A : Around} {own : List Addr} {W W' W₀ W₁ : Wd} {s s' s₀ s₁ : Shared} {σ σ' : St} {env : Env} {ρ : Fr} {r : Rec} {n : Nat} {E : Value → Shared → Prop}
theorem raised_ok (T : Gt C) {x : Sem Value} {Q : Flow → Shared → Prop} (hh : A.handled = none)
    (h : wpAny C.M A x (fun v s₁ => ∃ e oe vs, v = .ref e ∧ Gd C s₁.heap ∧ s₁.heap.get? e = some oe ∧ oe.cls = .ref C.thrown ∧ oe.data = .fields vs ∧ vs[1]? = some .none ∧ E (.ref e) s₁) E s) : wpAny C.M A (raiseStmt env (some x) none) Q E s := by
  obtain ⟨nm, q', N, bs, bm, hdct, sn, sub, ab, col, dd, k0, k1, k2, k3, k5, newId, hC₀, hb⟩ := T.cls
  have hcB : (Value.ref C.thrown :: bm).contains (.type "BaseException") = true := by (refine rwm (List.contains_cons) ?_; refine rwm (hb) ?_; rw [Bool.or_true])
  unfold raiseStmt
  refine wpAny_bind (wpAny_mono h (fun v s₁ h₁ => ?_) fun _ _ x => x)
  refine wi1 h₁ fun e oe vs zz1 hd he hcl hdt h1 hE => ?_
  clear h₁
  subst zz1
  obtain ⟨oc, od, odt, osl⟩ := oe
  have hcl : oc = _ := hcl
  have hdt : odt = _ := hdt
  subst hcl hdt
  have hC := hd _ _ hC₀
  clear hd
  obtain ⟨hp, g, d, tk, os⟩ := s₁
  have fld : ∀ {Q' : Value → Shared → Prop}, Q' .none ⟨hp, g, d, tk, os⟩ → wpAny C.M A (field (.ref e) 1) Q' E ⟨hp, g, d, tk, os⟩ := fun q => wpAny_field he rfl h1 q
  repeat (first | with_reducible refine fld ?_ | with_reducible refine wpAny_loadPart_at he ?_ | with_reducible refine wpAny_loadPart_at hC ?_ | (with_reducible refine wpAny_isSubtype_exc hC ?_; refine rwm (hcB) ?_) | wp_step)
  exact wpAny_raiseNew_none hh hE
noncomputable def raiseB (x t : Str) (pp : Nat → Pos) (kk : Nat → Nat) : Expr := .Call (.Name "thrown_text" (pp 0)) [.Constant (.str x) (kk 0) (pp 1), .Constant (.str t) (kk 1) (pp 2)] [] (pp 3)
theorem raiseOf_some {e c : Option Expr} {x : Str} (h : raiseOf ρ e c = some x) : ∃ t pp kk, e = some (raiseB x t pp kk) ∧ c = none ∧ ρ.names.lookup ("thrown_text" : Str) = some .globalImplicit ∧ ascii t = true := by
  induction c using Option.casesOn with
  | some _ => exact nsx h
  | none =>
  revert h
  refine bd_r fun e zz1 h => ?_
  subst zz1
  revert h
  refine bd_r3 fun f as p0 h1 h => ?_
  replace h1 := vCall_some h1
  subst h1
  revert h
  refine bd_r2 fun g p1 h1 h => ?_
  replace h1 := vName_some h1
  subst h1
  match as with
  | [] => exact nsx h
  | [_] => exact nsx h
  | _ :: _ :: _ :: _ => exact nsx h
  | [a, b] =>
  revert h
  refine bd_r3 fun c k1 p2 h1 h => ?_
  replace h1 := vCon_some h1
  subst h1
  revert h
  refine bd_r fun n h1 h => ?_
  replace h1 := cStr_some h1
  subst h1
  revert h
  refine bd_r3 fun c k2 p3 h1 h => ?_
  replace h1 := vCon_some h1
  subst h1
  revert h
  refine bd_r fun t h1 h => ?_
  replace h1 := cStr_some h1
  subst h1
  have h : (match (sq g "thrown_text" && isGlob g ρ && (look g ρ.vars).isNone && ascii t) with | true => some n | false => none) = some x := h
  induction e : (sq g "thrown_text" && isGlob g ρ && (look g ρ.vars).isNone && ascii t) using Bool.casesOn with
  | false => rw [e] at h; exact nsx h
  | true =>
  rw [e] at h
  (revert h; refine sm_r fun zz => ?_; subst zz)
  refine w8 (Bool.and_eq_true_iff.mp e) fun hb h4 => ?_
  refine w8 (Bool.and_eq_true_iff.mp hb) fun hb _ => ?_
  refine w8 (Bool.and_eq_true_iff.mp hb) fun h1 h2 => ?_
  clear e h hb
  obtain rfl := of_sq h1
  exact (X7 t (fun n => [p1, p2, p3, p0].getD n default) (fun n => [k1, k2].getD n 0) rfl rfl (isGlob_some h2) h4)
theorem raise_ok (G : Gr C X) (T : Gt C) {e c : Option Expr} {p : Pos} {x : Str} {Q : Flow → Shared → Prop} (h : raiseOf ρ e c = some x) {k : Nat} (hr8 : Room A (k + 16)) (F : FrR C A W env own ρ s.heap) (R : StR C W σ s) (q : Out C A own W s σ env ρ ρ.vars Q E (.exc x)) : wpAny C.M A (exec (.Raise e c p) env) Q E s := by
  refine W6 (raiseOf_some h) fun t pp kk zz1 zz2 hg hasc => ?_
  subst zz1
  clear h
  subst zz2
  refine W3 (T.text) fun a ea ld hc => ?_
  refine rwm (arm_exec_Raise ..) ?_
  refine wpAny_bind (wpAny_standAt ?_)
  refine (?_ : wpAny C.M A (raiseStmt env (some (do let v ← eval (raiseB x t pp kk) env; standAt p; pure v)) none) Q E s)
  refine raised_ok T hr8.handled (wpAny_bind ?_)
  refine Call_ ?_
  refine wpAny_Name (ld R F.kind (F.nmG _ hg) F.glob F.blt ?_) (by decide +kernel)
  refine callWith_of (P := fun h => Kept C h (.ref a)) rfl (fun _ k => k) ?_
  have go := evL_ok (E := E) (ρ := ρ) (pos := pp 3) (σ := σ) (σ' := σ) (es := [.Constant (.str x) (kk 0) (pp 1), .Constant (.str t) (kk 1) (pp 2)]) (vs := [.str x, .str t]) (constRec_ok C (k + 16)) hr8 rfl F R
    (Q := fun vs' s₁ => Kept C s₁.heap (.ref a) ∧ wpAny C.M A (call (.ref a) vs') (fun v s₂ => wpAny C.M A (do standAt p; pure v) (fun v s₁ => ∃ e oe vs, v = .ref e ∧ Gd C s₁.heap ∧ s₁.heap.get? e = some oe ∧ oe.cls = .ref C.thrown ∧ oe.data = .fields vs ∧ vs[1]? = some .none ∧ E (.ref e) s₁) E s₂) E s₁) fun W₁ s₁ vs' g₁ R₁ xs => ?_
  · exact Calls.evalArgs_plain go
  · refine ⟨G.kept ea _ R₁.ground, ?_⟩
    refine VRs.e2 xs fun v1 v2 x1 x2 => ?_
    refine VR.eS x1 fun t1 => ?_
    refine VR.eS x2 fun t2 => ?_
    refine hc hasc hr8 (F.fm.mono0 g₁) R₁ fun W₂ s₂ e f₂ g₂ R₂ X₂ => ?_
    obtain ⟨oe, vs, he, hcl, hdt, hph, _⟩ := X₂.obj
    refine wpAny_bind (wpAny_standAt (wpAny_pure ⟨e, oe, vs, rfl, R₂.ground, he, hcl, hdt, hph, ?_⟩))
    have gg := g₁.trans g₂
    refine q W₂ s₂ e .raw (fun b m => ?_) gg.weak0 R₂ (F.mono R gg) X₂ (fun T L e => by exact (nomatch e))
    refine rwm (List.mem_singleton.mp m) ?_
    induction z : s.heap.get? e using Option.casesOn with
    | none => rfl
    | some o => refine w5 (g₁.live e o z) fun o' e' => ?_; rw [f₂] at e'; exact nsx e'
noncomputable def raisesS (s : Stmt) : Bool := Nat.beq s.ctorIdx 16 || Nat.beq s.ctorIdx 17
theorem stepS_name {x : Str} {p' p : Pos} {e : Expr} {o : Fl × List (Str × V) × St} (hc : isComp e = false) (h : stepS X r (.Assign [.Name x p'] e p) ρ σ = some o) :
    bd (evX X r e ρ σ) (fun p => match p.1 with | .val v => bd (bind1 ρ.names ρ.pars x v ρ.vars) fun m => some (.next, m, p.2) | .exc n => some (.exc n, ρ.vars, p.2)) = some o := by
  induction e using Expr.casesOn <;> first | exact h | exact tfx hc
noncomputable def tryK (p : Fl × List (Str × V) × St) : Option (Fl × List (Str × V) × St) := match p.1 with
  | .exc n => some (.ret (.str n), p.2.1, p.2.2)
  | f => some (f, p.2.1, p.2.2)
theorem tryK_some {p o : Fl × List (Str × V) × St} (h : tryK p = some o) : o = (tryF p.1, p.2) := by
  obtain ⟨f, m, σ⟩ := p
  induction f using Fl.casesOn <;> exact (Option.some.inj h).symm
theorem try_step (G : Gt C) (HS : OkS C r n) (hr : Room A n) {outer : List Env} (hfr : A.frames = some (env :: outer)) {body : List Stmt} {hs : List ExceptHandler} {p : Pos} {fl : Fl} {m' : List (Str × V)} {Q : Flow → Shared → Prop} (hh : handlerOk ρ hs = true)
    (h : bd (execs r ρ body ρ.vars σ) tryK = some (fl, m', σ')) (F : FrR C A W env own ρ s.heap) (R : StR C W σ s) (q : Out C A own W s σ' env ρ m' Q E fl) : wpAny C.M A (exec (.Try body hs [] [] p) env) Q E s := by
  refine bd_e h fun p h1 h2 => ?_
  replace h2 := tryK_some h2
  obtain ⟨f, m, σ₁⟩ := p
  refine w8 (Prod.mk.inj h2) fun e1 e2 => ?_
  refine w8 (Prod.mk.inj e2) fun zz1 zz2 => ?_
  subst zz1
  clear e2
  subst zz2
  clear h h2
  subst e1
  exact try_ok G HS hr hfr hh h1 F R q
theorem stepS_ok {st : Stmt} (G : Gr C X) (D : Gm C X) (T : raisesS st = true → Gt C) (H : OkE C r n) (HT : OkT C r n) (HS : OkS C r n) (HX : OkX C X r n) {fl : Fl} {m' : List (Str × V)} (h : stepS X r st ρ σ = some (fl, m', σ')) {outer : List Env} (hr : Room A n) (hr8 : raisesS st = true → ∃ k, Room A (k + 16)) (hfr : A.frames = some (env :: outer)) (F : FrR C A W env own ρ s.heap) (R : StR C W σ s)
    {Q : Flow → Shared → Prop} (q : Out C A own W s σ' env ρ m' Q E fl) : wpAny C.M A (exec st env) Q E s := by
  induction st using Stmt.casesOn with
  | Expr e p =>
    have h : (match isComp e with | true => none | false => bd (evX X r e ρ σ) fun p => match p.1 with | .val _ => some (.next, ρ.vars, p.2) | .exc n => some (.exc n, ρ.vars, p.2)) = some (fl, m', σ') := h
    induction hc : isComp e using Bool.casesOn with
    | true => rw [hc] at h; exact nsx h
    | false =>
      rw [hc] at h
      refine bd_e2 h fun Rr σ₁ h1 h2 => ?_
      induction Rr using Rs.casesOn with
      | val v => (refine W2 (sp3 h2) fun zz1 zz2 zz3 => ?_; subst zz1; subst zz2; clear h h2; subst zz3); exact expr_ok HX H hr hc h1 F R q
      | exc x => (refine W2 (sp3 h2) fun zz1 zz2 zz3 => ?_; subst zz1; subst zz2; clear h h2; subst zz3); exact expr_ok HX H hr hc h1 F R q
  | Assign ts e p =>
    match ts with
    | [] => exact nsx h
    | _ :: _ :: _ => exact nsx h
    | [t] =>
    induction t using Expr.casesOn with
    | Name x p' =>
      induction hc : isComp e using Bool.casesOn with
      | true =>
        clear T hr8
        induction e using Expr.casesOn with
        | ListComp elt gens sc pos =>
          refine bd_e2 (show bd (listComp r elt gens sc ρ σ) (fun p => bd (bind1 ρ.names ρ.pars x p.1 ρ.vars) fun m => some (.next, m, p.2)) = some (fl, m', σ') from h) fun v σ₁ h1 h2 => ?_
          refine bd_e h2 fun m h3 h4 => ?_
          refine W2 (sp3 h4) fun zz1 zz2 zz3 => ?_
          subst zz1
          subst zz2
          clear h h2 h4
          subst zz3
          have hs : swapsWith (.ListComp elt gens sc pos) (some (.Name x p')) p.line env = pure true ∨ swapsWith (.ListComp elt gens sc pos) (some (.Name x p')) p.line env = pure false := by
            have e1 : ∃ b, swapsWith (.ListComp elt gens sc pos) (some (.Name x p')) p.line env = pure b := ⟨_, rfl⟩
            revert e1
            intro zz0
            refine w5 zz0 fun b e1 => ?_
            clear zz0
            induction b using Bool.casesOn with
            | true => exact .inl e1
            | false => exact .inr e1
          rcases hs with hs | hs
          · exact assignU_ok G H HT hr h1 h3 hs F R q
          · refine wpAny_Assign_Name (listComp_ok G H HT hr h1 F R fun W₁ s₁ v₁ g₁ R₁ x₁ => ?_) hs
            exact store_ok (ρ := ρ) h3 (F.mono R g₁) R₁ x₁ fun s₂ g₂ R₂ F₂ => q W₁ s₂ (g₁.weak0.trans g₂) R₂ F₂
        | SetComp _ _ _ _ => exact nsx h
        | DictComp _ _ _ _ _ => exact nsx h
        | _ => exact ftx hc
      | false =>
        have h : bd (evX X r e ρ σ) (fun p => match p.1 with | .val v => bd (bind1 ρ.names ρ.pars x v ρ.vars) fun m => some (.next, m, p.2) | .exc n => some (.exc n, ρ.vars, p.2)) = some (fl, m', σ') := stepS_name hc h
        refine bd_e2 h fun Rr σ₁ h1 h2 => ?_
        induction Rr using Rs.casesOn with
        | val v =>
          refine bd_e h2 fun m h3 h4 => ?_
          refine W2 (sp3 h4) fun zz1 zz2 zz3 => ?_
          subst zz1
          subst zz2
          clear h h2 h4
          subst zz3
          exact assignN_ok (σ₁ := σ₁) HX H hr hc h1 h3 F R q
        | exc x => (refine W2 (sp3 h2) fun zz1 zz2 zz3 => ?_; subst zz1; subst zz2; clear h h2; subst zz3); exact assignX_ok HX H hr hc h1 F R q
    | Tuple ts k p' =>
      have h : (match tupOk ts e with | false => none | true => bd (r.E e ρ σ) fun p => bd (bindT ρ.names ρ.pars (.Tuple ts k p') p.1 ρ.vars) fun m => some (.next, m, p.2)) = some (fl, m', σ') := h
      induction ht : tupOk ts e using Bool.casesOn with
      | false => rw [ht] at h; exact nsx h
      | true =>
        rw [ht] at h
        refine bd_e2 h fun v σ₁ h1 h2 => ?_
        refine bd_e h2 fun m h3 h4 => ?_
        refine W2 (sp3 h4) fun zz1 zz2 zz3 => ?_
        subst zz1
        subst zz2
        clear h h2 h4
        subst zz3
        exact assignT_ok (σ₁ := σ₁) H hr ht h1 h3 F R q
    | Subscript o i p' =>
      refine bd_e2 (show bd (r.E e ρ σ) _ = some (fl, m', σ') from h) fun v σ₁ h1 h2 => ?_
      refine bd_e2 h2 fun vo σ₂ h3 h4 => ?_
      refine bd_e2 h4 fun vi σ₃ h5 h6 => ?_
      induction vo using V.casesOn with
      | lst a =>
        refine bd_e h6 fun l h7 h8 => ?_
        refine bd_e h8 fun k h9 h10 => ?_
        induction hk : Nat.blt k l.length using Bool.casesOn with
        | false => rw [hk] at h10; exact nsx h10
        | true =>
          rw [hk] at h10
          refine bd_e h10 fun σ₄ h11 h12 => ?_
          refine W2 (sp3 h12) fun zz1 zz2 zz3 => ?_
          subst zz1
          subst zz2
          clear h h10 h12 h2 h4 h6 h8
          subst zz3
          exact subset_ok H hr h1 h3 h5 h7 h9 hk h11 F R q
      | _ => exact nsx h6
    | _ => exact nsx h
  | If t a b p =>
    refine bd_e2 (show bd (r.T t ρ σ) _ = some (fl, m', σ') from h) fun c σ₁ h1 h2 => ?_
    refine if_ok (c := c) HT HS hr hfr h1 ?_ F R q
    induction c using Bool.casesOn <;> exact h2
  | For t i body els p =>
    clear T hr8
    induction els using List.casesOn with
    | cons _ _ => exact nsx h
    | nil =>
    refine bd_e2 (show bd (iterE r i ρ σ) _ = some (fl, m', σ') from h) fun it σ₁ h1 h2 => ?_
    have h2 : (match tgtOk it t with | true => forL r ρ t body turnsMost it ρ.vars σ₁ | false => none) = some (fl, m', σ') := h2
    induction ht : tgtOk it t using Bool.casesOn with
    | false => rw [ht] at h2; exact nsx h2
    | true => rw [ht] at h2; exact for_ok G H HS hr hfr h1 ht h2 F R q
  | While t b els p =>
    clear T hr8
    induction els using List.casesOn with
    | cons _ _ => exact nsx h
    | nil =>
    refine bd_e2 (show bd (r.T t ρ σ) _ = some (fl, m', σ') from h) fun c σ₁ h1 h2 => ?_
    induction c using Bool.casesOn with
    | true => exact nsx h2
    | false => (refine W2 (sp3 h2) fun zz1 zz2 zz3 => ?_; subst zz1; subst zz2; clear h h2; subst zz3); exact while_ok HT hr h1 F R q
  | Return o p =>
    clear T hr8
    induction o using Option.casesOn with
    | none => exact nsx h
    | some e =>
    refine bd_e2 (show bd (evX X r e ρ σ) _ = some (fl, m', σ') from h) fun Rr σ₁ h1 h2 => ?_
    induction Rr using Rs.casesOn with
    | val v => (refine W2 (sp3 h2) fun zz1 zz2 zz3 => ?_; subst zz1; subst zz2; clear h h2; subst zz3); exact return_ok HX H hr h1 F R q
    | exc x => (refine W2 (sp3 h2) fun zz1 zz2 zz3 => ?_; subst zz1; subst zz2; clear h h2; subst zz3); exact return_ok HX H hr h1 F R q
  | Raise e c p =>
    refine bd_e (show bd (raiseOf ρ e c) _ = some (fl, m', σ') from h) fun x h1 h2 => ?_
    refine W2 (sp3 h2) fun zz1 zz2 zz3 => ?_
    subst zz1
    subst zz2
    clear h h2
    subst zz3
    refine w5 (hr8 rfl) fun k hk => ?_
    exact raise_ok G (T rfl) h1 hk F R q
  | Try body hs els fin p =>
    match els, fin with
    | _ :: _, _ => exact nsx h
    | [], _ :: _ => exact nsx h
    | [], [] =>
    have h : (match handlerOk ρ hs with | true => bd (execs r ρ body ρ.vars σ) tryK | false => none) = some (fl, m', σ') := h
    induction hh : handlerOk ρ hs using Bool.casesOn with
    | false => rw [hh] at h; exact nsx h
    | true =>
      rw [hh] at h
      exact try_step (T rfl) HS hr hfr hh h F R q
  | FunctionDef x ps b ds rt tp sc doc bn p =>
    match ds, rt, tp, doc with
    | [], none, [], none =>
      have h : (match sq bn x && madeHere X ρ x p && capsOk ρ.names ρ.pars ρ.vars sc.names with | true => bd (cloT ps (.stmts b) sc) fun k => bd (bind1 ρ.names ρ.pars x (.clo x k (capOf ρ.vars sc.names)) ρ.vars) fun m => some (.next, m, σ) | false => none) = some (fl, m', σ') := h
      induction hc : sq bn x && madeHere X ρ x p && capsOk ρ.names ρ.pars ρ.vars sc.names using Bool.casesOn with
      | false => rw [hc] at h; exact nsx h
      | true =>
        rw [hc] at h
        refine w8 (Bool.and_eq_true_iff.mp hc) fun hc1 hc2 => ?_
        refine w8 (Bool.and_eq_true_iff.mp hc1) fun hc3 hc4 => ?_
        refine bd_e h fun k h1 h2 => ?_
        refine bd_e h2 fun m h3 h4 => ?_
        refine W2 (sp3 h4) fun zz1 zz2 zz3 => ?_
        subst zz1
        subst zz2
        clear h4
        subst zz3
        have e := of_sq hc3
        clear T h h2 hc hc1 hc3 hr8
        subst e
        exact def_ok D hc4 hc2 h1 h3 F R q
    | _ :: _, _, _, _ => exact nsx h
    | [], some _, _, _ => exact nsx h
    | [], none, _ :: _, _ => exact nsx h
    | [], none, [], some _ => exact nsx h
  | Pass p =>
    refine W2 (sp3 h) fun zz1 zz2 zz3 => ?_
    subst zz1
    subst zz2
    clear h
    subst zz3
    exact wpAny_Pass (q W s (.refl ..) R F)
  | _ => exact nsx h
end
noncomputable abbrev IsZipL (h : Heap) (z TI TO : Addr) (f0 f1 : Value) : Prop :=
  h.get? z = some { cls := .type "zip", dict := none, data := .fields #[f0, f1, .bool false, .ref TI, .ref TO], slots := #[] }
section
variable {prog : Program} {w : World} {A : Around} {E : Value → Shared → Prop} {s : Shared}
theorem wpAny_alive {M : Model} {a : Addr} {Q : Option Obj → Shared → Prop} (h : Q (s.heap.get? a) s) : wpAny M A (loadIfAlive a) Q E s := fun Γ p hΓ => h
theorem lent_not_free {z TI TO T : Addr} {b : Bool} {o : Obj} {Q : Bool → Shared → Prop} (hz : IsZipL s.heap z TI TO (rawInt T) (.bool b)) (hT : s.heap.get? T = some o) (hzT : z ≠ T)
    (h : ∀ h', IsZipL h' z TI TO (rawInt T) (.bool true) → Heap.SameBut z s.heap h' → Q false { s with heap := h' }) : wpAny (model prog w) A (Builtin.SmallTypes.ownedTupleIsFree (.ref z)) Q E s := by
  unfold Builtin.SmallTypes.ownedTupleIsFree
  refine wpAny_bind (wpAny_field hz rfl (x := rawInt T) rfl ?_)
  refine (?_ : wpAny _ _ (loadIfAlive ((T : Int)).toNat >>= _) _ _ _)
  refine wpAny_bind (wpAny_alive ?_)
  have e : ((T : Int)).toNat = T := by simp
  (refine rwm (e) ?_; refine rwm (hT) ?_)
  simp only [Option.isNone_some, Bool.false_eq_true, if_false]
  refine wpAny_bind (wpAny_field hz rfl (x := .bool b) rfl ?_)
  induction b using Bool.casesOn with
  | true =>
    refine rwm (if_neg (by decide)) ?_
    exact wpAny_pure (h s.heap hz (Heap.SameBut.refl ..))
  | false =>
    refine rwm (if_pos (by decide)) ?_
    refine wpAny_bind (wpAny_setField_rec hz (by simp) fun h₁ hz₁ hs₁ => ?_)
    exact wpAny_pure (h h₁ hz₁ hs₁)
theorem lent_item {z TI TO T i1 i2 l1 l2 : Addr} {k : Nat} {b : Bool} {o : Obj} {xs ys : Array Value} {x y : Value} {Q : Value → Shared → Prop} (D : ZipApart z TI TO i1 i2 l1 l2)
    (hz : IsZipL s.heap z TI TO (rawInt T) (.bool b)) (hT : s.heap.get? T = some o) (hzT : z ≠ T) (hTI : IsPair s.heap TI (.ref i1) (.ref i2))
    (h1 : s.heap.IsListIter i1 l1 k) (h2 : s.heap.IsListIter i2 l2 k) (hl1 : s.heap.IsList l1 xs) (hl2 : s.heap.IsList l2 ys) (hx : xs[k]? = some x) (hy : ys[k]? = some y)
    (hQ : ∀ h', IsZipL h' z TI TO (rawInt T) (.bool true) → h'.IsListIter i1 l1 (k + 1) → h'.IsListIter i2 l2 (k + 1) → IsPair h' s.heap.objs.size x y →
      (∀ c o, c ≠ z → c ≠ i1 → c ≠ i2 → s.heap.get? c = some o → h'.get? c = some o) → Q (.ref s.heap.objs.size) { s with heap := h' }) :
    wpAny (model prog w) A (Builtin.«zip.__next__» ⟨[.ref z], []⟩) (fun fin s' => ∃ v, fin = .done (.ret v) ∧ Q v s') E s := by
  refine (?_ : wpAny _ _ (field (.ref z) 2 >>= _) _ _ _)
  refine wpAny_bind (wpAny_field hz rfl (x := .bool false) rfl ?_)
  refine (?_ : wpAny _ _ (field (.ref z) 3 >>= _) _ _ _)
  refine wpAny_bind (wpAny_field hz rfl (x := .ref TI) rfl ?_)
  refine wpAny_bind (wpAny_seqItems hTI rfl ?_)
  refine (?_ : wpAny _ _ (Builtin.SmallTypes.ownedTupleIsFree (.ref z) >>= _) _ _ _)
  refine wpAny_bind (lent_not_free hz hT hzT fun h₁ hz₁ hs₁ => ?_)
  simp only [Bool.false_eq_true, if_false]
  refine rwl (Array.forIn_toList) ?_
  simp only [List.forIn_cons, List.forIn_nil]
  refine wpAny_bind ?_
  refine wpAny_bind (wpAny_bind (wpAny_holding ?_))
  refine (?_ : wpAny _ _ (Builtin.SmallTypes.nextOf (.ref i1) >>= _) _ _ _)
  refine wpAny_bind (wpAny_nextOf_list_item (h1.extBut hs₁.extBut D.i1z) (hl1.extBut hs₁.extBut D.l1z) hx fun h₂ h1₂ hs₂ => wpAny_pure ?_)
  refine wpAny_pure ?_
  refine wpAny_bind (wpAny_bind (wpAny_holding ?_))
  refine (?_ : wpAny _ _ (Builtin.SmallTypes.nextOf (.ref i2) >>= _) _ _ _)
  refine wpAny_bind (wpAny_nextOf_list_item ((h2.extBut hs₁.extBut D.i2z).extBut hs₂.extBut D.i12.symm) ((hl2.extBut hs₁.extBut D.l2z).extBut hs₂.extBut D.l2i1) hy fun h₄ h2₄ hs₄ => wpAny_pure ?_)
  refine wpAny_pure (wpAny_pure ?_)
  refine wpAny_bind (wpAny_newTuple ?_ (by refine (?_ : (2 : Nat) ≤ sizeLine); decide))
  have hsz : h₄.objs.size = s.heap.objs.size := by (refine rwm (hs₄.1) ?_; refine rwm (hs₂.1) ?_; exact rwm (hs₁.1) rfl)
  have hz₄ : IsZipL h₄ z TI TO (rawInt T) (.bool true) := hs₄.extBut _ _ D.i2z.symm (hs₂.extBut _ _ D.i1z.symm hz₁)
  refine wpAny_pure (w7 _ rfl ?_)
  refine (?_ : Q (.ref h₄.objs.size) _)
  have := hQ (h₄.push { cls := .type "tuple", data := .seq #[x, y] }) (Heap.get?_push_of_some _ hz₄) ((h1₂.extBut hs₄.extBut D.i12).at fun o e => Heap.get?_push_of_some _ e) (h2₄.at fun o e => Heap.get?_push_of_some _ e) (by refine rwl (hsz) ?_; exact Heap.get?_push_size _ rfl)
    fun c o c1 c3 c4 e => Heap.get?_push_of_some _ (hs₄.extBut _ _ c4 (hs₂.extBut _ _ c3 (hs₁.extBut _ _ c1 e)))
  refine rwm (hsz) ?_
  exact this
theorem lent_end {z TI TO T i1 i2 l1 l2 : Addr} {k : Nat} {b : Bool} {o : Obj} {xs ys : Array Value} {Q : Fin → Shared → Prop} (hh : A.handled = none) (D : ZipApart z TI TO i1 i2 l1 l2)
    (hz : IsZipL s.heap z TI TO (rawInt T) (.bool b)) (hT : s.heap.get? T = some o) (hzT : z ≠ T) (hTI : IsPair s.heap TI (.ref i1) (.ref i2))
    (h1 : s.heap.IsListIter i1 l1 k) (h2 : s.heap.IsListIter i2 l2 k) (hl1 : s.heap.IsList l1 xs) (hl2 : s.heap.IsList l2 ys) (hend : xs[k]? = none ∨ ys[k]? = none)
    (hE : ∀ h' e, (∀ c o, c ≠ z → c ≠ i1 → c ≠ i2 → s.heap.get? c = some o → h'.get? c = some o) → (∃ o, h'.get? e = some o ∧ o.cls = .type "StopIteration") → E (.ref e) { s with heap := h' }) :
    wpAny (model prog w) A (Builtin.«zip.__next__» ⟨[.ref z], []⟩) Q E s := by
  refine (?_ : wpAny _ _ (field (.ref z) 2 >>= _) _ _ _)
  refine wpAny_bind (wpAny_field hz rfl (x := .bool false) rfl ?_)
  refine (?_ : wpAny _ _ (field (.ref z) 3 >>= _) _ _ _)
  refine wpAny_bind (wpAny_field hz rfl (x := .ref TI) rfl ?_)
  refine wpAny_bind (wpAny_seqItems hTI rfl ?_)
  refine (?_ : wpAny _ _ (Builtin.SmallTypes.ownedTupleIsFree (.ref z) >>= _) _ _ _)
  refine wpAny_bind (lent_not_free hz hT hzT fun h₁ hz₁ hs₁ => ?_)
  simp only [Bool.false_eq_true, if_false]
  refine rwl (Array.forIn_toList) ?_
  simp only [List.forIn_cons, List.forIn_nil]
  refine wpAny_bind ?_
  refine wpAny_bind (wpAny_bind (wpAny_holding ?_))
  refine (?_ : wpAny _ _ (Builtin.SmallTypes.nextOf (.ref i1) >>= _) _ _ _)
  induction hx : xs[k]? using Option.casesOn with
  | none =>
    exact wpAny_bind (wpAny_nextOf_list_end hh (h1.extBut hs₁.extBut D.i1z) (hl1.extBut hs₁.extBut D.l1z) hx fun h₂ e hs₂ he => hE h₂ e (fun c o c1 c3 _ x => hs₂ _ _ c3 (hs₁.extBut _ _ c1 x)) he)
  | some x =>
    have hy : ys[k]? = none := by rcases hend with h | h; rw [hx] at h; exact snx h; exact h
    refine wpAny_bind (wpAny_nextOf_list_item (h1.extBut hs₁.extBut D.i1z) (hl1.extBut hs₁.extBut D.l1z) hx fun h₂ h1₂ hs₂ => wpAny_pure ?_)
    refine wpAny_pure ?_
    refine wpAny_bind (wpAny_bind (wpAny_holding ?_))
    refine (?_ : wpAny _ _ (Builtin.SmallTypes.nextOf (.ref i2) >>= _) _ _ _)
    exact wpAny_bind (wpAny_nextOf_list_end hh ((h2.extBut hs₁.extBut D.i2z).extBut hs₂.extBut D.i12.symm) ((hl2.extBut hs₁.extBut D.l2z).extBut hs₂.extBut D.l2i1) hy fun h₄ e hs₄ he => hE h₄ e (fun c o c1 c3 c4 x => hs₄ _ _ c4 (hs₂.extBut _ _ c3 (hs₁.extBut _ _ c1 x))) he)
structure ZAt (z TI TO i1 i2 l1 l2 : Addr) (xs ys : Array Value) (k : Nat) (h : Heap) : Prop where
  zip : IsZip h z TI TO .none ∨ ∃ (T : Addr) (b : Bool) (o : Obj), IsZipL h z TI TO (rawInt T) (.bool b) ∧ h.get? T = some o ∧ T ≠ z ∧ T ≠ i1 ∧ T ≠ i2
  ti : IsPair h TI (.ref i1) (.ref i2)
  to : ∃ a b, IsPair h TO a b
  it1 : h.IsListIter i1 l1 k
  it2 : h.IsListIter i2 l2 k
  ls1 : h.IsList l1 xs
  ls2 : h.IsList l2 ys
theorem ZAt.keep {z TI TO i1 i2 l1 l2 : Addr} {xs ys : Array Value} {k : Nat} {h h' : Heap} (x : ZAt z TI TO i1 i2 l1 l2 xs ys k h) (S : Addr) (hS : S ∉ [z, TI, TO, i1, i2, l1, l2]) (oS : Obj) (eS : h'.get? S = some oS) (kp : ∀ c o, c ≠ S → h.get? c = some o → h'.get? c = some o) : ZAt z TI TO i1 i2 l1 l2 xs ys k h' := by
  have n : ∀ c ∈ [z, TI, TO, i1, i2, l1, l2], c ≠ S := fun c m q => hS (q ▸ m)
  refine w9 (x.to) fun a b e => ?_
  refine ⟨?_, kp _ _ (n _ (mi 1 rfl)) x.ti, (x7 a b (kp _ _ (n _ (mi 2 rfl)) e)), x.it1.at fun o e => kp _ o (n _ (mi 3 rfl)) e, x.it2.at fun o e => kp _ o (n _ (mi 4 rfl)) e, x.ls1.at fun o e => kp _ o (n _ (mi 5 rfl)) e, x.ls2.at fun o e => kp _ o (n _ (mi 6 rfl)) e⟩
  rcases x.zip with q | ⟨T, b, o, q1, q2, q3⟩
  · exact .inl (kp _ _ (n _ (mi 0 rfl)) q)
  · refine .inr ?_
    by_cases q : T = S
    · exact (X3 T b oS (kp _ _ (n _ (mi 0 rfl)) q1) (q ▸ eS) q3)
    · exact (X3 T b o (kp _ _ (n _ (mi 0 rfl)) q1) (kp _ _ q q2) q3)
theorem zat_item {z TI TO i1 i2 l1 l2 : Addr} {k : Nat} {xs ys : Array Value} {x y : Value} {Q : Option Value → Shared → Prop} (D : ZipApart z TI TO i1 i2 l1 l2) (Z : ZAt z TI TO i1 i2 l1 l2 xs ys k s.heap) (hx : xs[k]? = some x) (hy : ys[k]? = some y)
    (hQ : ∀ h', ZAt z TI TO i1 i2 l1 l2 xs ys (k + 1) h' → IsPair h' s.heap.objs.size x y → (∀ c o, c ≠ z → c ≠ TO → c ≠ i1 → c ≠ i2 → s.heap.get? c = some o → h'.get? c = some o) → Q (some (.ref s.heap.objs.size)) { s with heap := h' }) : wpAny (model prog w) A (pyNext (.ref z)) Q E s := by
  refine w9 (Z.to) fun a b hTO => ?_
  have lt : ∀ {c o}, s.heap.get? c = some o → s.heap.objs.size ≠ c := fun e => Nat.ne_of_gt (Heap.lt_size e)
  have nz : s.heap.objs.size ≠ z := by rcases Z.zip with q | ⟨_, _, _, q, _⟩ <;> exact lt q
  have n1 : s.heap.objs.size ≠ i1 := by refine w6 (Z.it1) fun _ e _ => ?_; exact lt e
  have n2 : s.heap.objs.size ≠ i2 := by refine w6 (Z.it2) fun _ e _ => ?_; exact lt e
  rcases Z.zip with hz | ⟨T, b', o, hz, hT, t1, t2, t3⟩
  · refine wpAny_pyNext_zip_item D hz Z.ti hTO Z.it1 Z.it2 Z.ls1 Z.ls2 hx hy fun h' a1 a2 a3 a4 a5 a6 hk => hQ h' ⟨.inr (Y4 s.heap.objs.size false _ a1 a5 nz n1 n2), hk _ _ D.TIz D.TITO D.TIi1 D.TIi2 Z.ti, (x7 _ _ a2), a3, a4, Z.ls1.at fun o e => hk _ o D.l1z D.l1TO D.l1i1 D.l1i2 e, Z.ls2.at fun o e => hk _ o D.l2z D.l2TO D.l2i1 D.l2i2 e⟩ a5 hk
  · have hT' : s.TypeIs (.ref z) "zip" := (w7 _ hz rfl)
    unfold pyNext
    refine wpAny_bind (wpAny_attempt (wpAny_callSpecial?_slot (name := Str.ofString "__next__") hT' F.slot_zip_next
      (wpAny_call_entry F.slot_zip_next hT' F.entry_zip_next
        (lent_item D hz hT (Ne.symm t1) Z.ti Z.it1 Z.it2 Z.ls1 Z.ls2 hx hy fun h' a1 a3 a4 a5 hk => wpAny_pure (hQ h' ?_ a5 fun c o c1 _ c3 c4 e => hk c o c1 c3 c4 e)) (F.args_zip_next_1 _))))
    exact ⟨.inr (Y4 T true o a1 (hk _ _ t1 t2 t3 hT) t1 t2 t3), hk _ _ D.TIz D.TIi1 D.TIi2 Z.ti, (x7 _ _ (hk _ _ D.TOz D.TOi1 D.TOi2 hTO)), a3, a4, Z.ls1.at fun o e => hk _ o D.l1z D.l1i1 D.l1i2 e, Z.ls2.at fun o e => hk _ o D.l2z D.l2i1 D.l2i2 e⟩
theorem zat_end {z TI TO i1 i2 l1 l2 : Addr} {k : Nat} {xs ys : Array Value} {Q : Option Value → Shared → Prop} (hh : A.handled = none) (D : ZipApart z TI TO i1 i2 l1 l2) (Z : ZAt z TI TO i1 i2 l1 l2 xs ys k s.heap) (hend : xs[k]? = none ∨ ys[k]? = none)
    (hQ : ∀ h', (∀ c o, c ≠ z → c ≠ TO → c ≠ i1 → c ≠ i2 → s.heap.get? c = some o → h'.get? c = some o) → Q none { s with heap := h' }) : wpAny (model prog w) A (pyNext (.ref z)) Q E s := by
  refine w9 (Z.to) fun a b hTO => ?_
  rcases Z.zip with hz | ⟨T, b', o, hz, hT, t1, t2, t3⟩
  · exact wpAny_pyNext_zip_end hh D hz Z.ti hTO Z.it1 Z.it2 Z.ls1 Z.ls2 hend hQ
  · have hT' : s.TypeIs (.ref z) "zip" := (w7 _ hz rfl)
    unfold pyNext
    refine wpAny_bind (wpAny_attempt (wpAny_callSpecial?_slot (name := Str.ofString "__next__") hT' F.slot_zip_next
      (wpAny_call_entry F.slot_zip_next hT' F.entry_zip_next (lent_end (A := A.in1) hh D hz hT (Ne.symm t1) Z.ti Z.it1 Z.it2 Z.ls1 Z.ls2 hend fun h' e hk he => ?_) (F.args_zip_next_1 _))))
    refine w6 he fun o ho hc => ?_
    clear he
    refine wpAny_bind (wpAny_isInstance (T := "StopIteration") (b := true) (w7 o ho hc) isSubtype_stop ?_)
    exact wpAny_pure (hQ _ fun c o c1 _ c3 c4 e => hk c o c1 c3 c4 e)
structure Got (s₀ : Shared) (xs ys : Array Value) (k : Nat) (acc : Array Value) (h : Heap) : Prop where
  size : acc.size = k
  each : ∀ i x y, i < k → xs[i]? = some x → ys[i]? = some y → ∃ T, acc[i]? = some (.ref T) ∧ IsPair h T x y ∧ s₀.heap.get? T = none
theorem drain_loop {s₀ : Shared} {z TI TO i1 i2 l1 l2 S : Addr} {xs ys : Array Value} {R : Result → Shared → Prop} (hh : A.handled = none) (D : ZipApart z TI TO i1 i2 l1 l2) (hS : S ∉ [z, TI, TO, i1, i2, l1, l2]) (hn : min xs.size ys.size ≤ 1000)
    (live : ∀ b ∈ [z, TI, TO, i1, i2, l1, l2], b ≠ S) :
    ∀ (m k : Nat) (s : Shared) (acc : Array Value) (c : Nat), min xs.size ys.size - k = m → k ≤ min xs.size ys.size → ZAt z TI TO i1 i2 l1 l2 xs ys k s.heap → s.heap.get? S = some { cls := .type "list", dict := none, data := .seq acc c, slots := #[] } → Got s₀ xs ys k acc s.heap →
      (∀ c o, s₀.heap.get? c = some o → ∃ o', s.heap.get? c = some o') → s₀.heap.get? S = none → (∀ b ∈ [z, TO, i1, i2], ∃ o, s₀.heap.get? b = some o) →
      (∀ h' acc' c', (∀ c o, c ≠ S → c ≠ z → c ≠ TO → c ≠ i1 → c ≠ i2 → s.heap.get? c = some o → h'.get? c = some o) → h'.get? S = some { cls := .type "list", dict := none, data := .seq acc' c', slots := #[] } → Got s₀ xs ys (min xs.size ys.size) acc' h' → R (.ok (.ret .none)) { s with heap := h' }) →
      codeAny (model prog w) A (.builtin "list.extend.loop" ⟨[.ref S, .ref z, .none], []⟩) R s := by
  intro m
  induction m with
  | zero =>
    intro k s acc c hm hk Z hSl g lv fS lz hR
    have hkn : k = min xs.size ys.size := by omega
    clear hk hm
    subst hkn
    refine codeAny_builtin F.entry_extend_loop ?_
    refine rwm (Around.under_plainId F.plain_extend_loop _) ?_
    refine (?_ : wpAny _ A.in1 (pyNext (.ref z) >>= _) _ _ s)
    refine wpAny_bind (zat_end (A := A.in1) hh D Z ?_ fun h' hk' => ?_)
    · by_cases q : xs.size ≤ ys.size
      · exact .inl (by refine rwm (Nat.min_eq_left q) ?_; exact Array.getElem?_eq_none (Nat.le_refl _))
      · exact .inr (by refine rwm (Nat.min_eq_right (by omega)) ?_; exact Array.getElem?_eq_none (Nat.le_refl _))
    · have nS : ∀ b ∈ [z, TI, TO, i1, i2, l1, l2], S ≠ b := fun b mb q => live b mb q.symm
      refine wpAny_pure (hR h' acc c (fun c o _ c1 c2 c3 c4 e => hk' c o c1 c2 c3 c4 e) (hk' S _ (nS _ (mi 0 rfl)) (nS _ (mi 2 rfl)) (nS _ (mi 3 rfl)) (nS _ (mi 4 rfl)) hSl) ⟨g.size, fun i x y hi hx hy => ?_⟩)
      refine W3 (g.each i x y hi hx hy) fun T e1 e2 e3 => ?_
      have nT : ∀ b ∈ [z, TO, i1, i2], T ≠ b := fun b mb q => by refine w5 (lz b mb) fun o e => ?_; rw [← q, e3] at e; exact nsx e
      exact (W4 T e1 (hk' T _ (nT _ (mi 0 rfl)) (nT _ (mi 1 rfl)) (nT _ (mi 2 rfl)) (nT _ (mi 3 rfl)) e2) e3)
  | succ m ih =>
    intro k s acc c hm hk Z hSl g lv fS lz hR
    have hlt : k < min xs.size ys.size := by omega
    have hix : k < xs.size := Nat.lt_of_lt_of_le hlt (Nat.min_le_left ..)
    have hiy : k < ys.size := Nat.lt_of_lt_of_le hlt (Nat.min_le_right ..)
    have nS : ∀ b ∈ [z, TI, TO, i1, i2, l1, l2], S ≠ b := fun b mb q => live b mb q.symm
    refine codeAny_builtin F.entry_extend_loop ?_
    refine rwm (Around.under_plainId F.plain_extend_loop _) ?_
    refine (?_ : wpAny _ A.in1 (pyNext (.ref z) >>= _) _ _ s)
    refine wpAny_bind (zat_item D Z (Array.getElem?_eq_getElem hix) (Array.getElem?_eq_getElem hiy) fun h' Z' hp hk' => ?_)
    have hS' := hk' S _ (nS _ (mi 0 rfl)) (nS _ (mi 2 rfl)) (nS _ (mi 3 rfl)) (nS _ (mi 4 rfl)) hSl
    have nSn : S ≠ s.heap.objs.size := Nat.ne_of_lt (Heap.lt_size hSl)
    refine (?_ : wpAny _ A.in1 (updateSeq S (·.push (.ref s.heap.objs.size)) >>= _) _ _ _)
    refine wpAny_bind ?_
    have up := Heap.get?_update_self (Obj.mapSeq (·.push (Value.ref s.heap.objs.size))) hS' rfl
    have oth : ∀ b o, b ≠ S → h'.get? b = some o → (h'.update S (Obj.mapSeq (·.push (Value.ref s.heap.objs.size)))).get? b = some o := fun b o hb e => (Heap.get?_update_other _ _ (Ne.symm hb)).trans e
    have fT : s₀.heap.get? s.heap.objs.size = none := by
      induction q : s₀.heap.get? s.heap.objs.size using Option.casesOn with
      | none => rfl
      | some o => refine w5 (lv _ o q) fun o' e => ?_; exact absurd (Heap.lt_size e) (Nat.lt_irrefl _)
    refine wpAny_updateSeq hS' rfl (wpAny_pure ⟨plainId_quiet F.plain_extend_loop _, ih (k + 1) _ (acc.push (.ref s.heap.objs.size)) _ (by omega) hlt (Z'.keep S hS _ up oth) up ⟨by (refine rwm (Array.size_push ..) ?_; exact rwm (g.size) rfl), fun i x y hi hx hy => ?_⟩ (fun c o e => ?_) fS lz fun h'' acc' c' hk'' hS'' g' => ?_⟩) (by refine rwm (g.size) ?_; exact le_sizeLine (by omega))
      (by refine (?_ : (acc.push (Value.ref s.heap.objs.size)).size ≤ sizeLine + 1); (refine rwm (Array.size_push ..) ?_; refine rwm (g.size) ?_); have := le_sizeLine hn; omega)
    · by_cases q : i = k
      · clear Z Z' hi hk hlt hm
        subst q
        rw [Array.getElem?_eq_getElem hix] at hx
        rw [Array.getElem?_eq_getElem hiy] at hy
        (revert hx; refine sm_r fun zz => ?_; subst zz); (revert hy; refine sm_r fun zz => ?_; subst zz)
        exact (W4 s.heap.objs.size (by refine rwl (g.size) ?_; simp) (oth _ _ (Ne.symm nSn) hp) fT)
      · refine W3 (g.each i x y (by omega) hx hy) fun T e1 e2 e3 => ?_
        have nT : ∀ b ∈ [z, TO, i1, i2], T ≠ b := fun b mb q => by refine w5 (lz b mb) fun o e => ?_; rw [← q, e3] at e; exact nsx e
        have nTS : T ≠ S := fun q => by have e4 : s.heap.get? T = _ := e2; rw [q, hSl] at e4; have e5 := congrArg (fun o => o.map Obj.cls) e4; simp at e5
        refine (W4 T ?_ (oth _ _ nTS (hk' T _ (nT _ (mi 0 rfl)) (nT _ (mi 1 rfl)) (nT _ (mi 2 rfl)) (nT _ (mi 3 rfl)) e2)) e3)
        (refine rwm (Array.getElem?_push) ?_; refine rwm (if_neg (by rw [g.size]; exact q)) ?_)
        exact e1
    · by_cases qS : c = S
      · clear fS hR hS hS' hSl ih live nS nSn oth
        subst qS; exact ⟨_, up⟩
      · by_cases q1 : c = z
        · clear D Z hR hS hk' ih live lz nS
          subst q1
          rcases Z'.zip with e' | ⟨_, _, _, e', _⟩ <;> exact ⟨_, oth _ _ qS e'⟩
        · by_cases q2 : c = TO
          · clear D Z hR hS hk' ih live lz nS
            subst q2; refine w9 (Z'.to) fun _ _ e' => ?_; exact ⟨_, oth _ _ qS e'⟩
          · by_cases q3 : c = i1
            · clear D Z hR hS hk' ih live lz nS
              subst q3; refine w6 (Z'.it1) fun _ e' _ => ?_; exact ⟨_, oth _ _ qS e'⟩
            · by_cases q4 : c = i2
              · clear D Z hR hS hk' ih live lz nS
                subst q4; refine w6 (Z'.it2) fun _ e' _ => ?_; exact ⟨_, oth _ _ qS e'⟩
              · refine w5 (lv c o e) fun o' e' => ?_
                exact ⟨_, oth _ _ qS (hk' c _ q1 q2 q3 q4 e')⟩
    · refine hR h'' acc' c' (fun c o cS c1 c2 c3 c4 e => hk'' c o cS c1 c2 c3 c4 (oth _ _ cS (hk' c o c1 c2 c3 c4 e))) hS'' g'
theorem zip_no_len : typeLookup (.type "zip") "__len__" = pure none := by (refine rwm (typeLookup_type ..) ?_; refine rwm (builtinLookup_eq_fast) ?_); kernel_rfl
theorem zip_no_hint : typeLookup (.type "zip") "__length_hint__" = pure none := by (refine rwm (typeLookup_type ..) ?_; refine rwm (builtinLookup_eq_fast) ?_); kernel_rfl
set_option maxHeartbeats 1000000 in
theorem drain_call {z TI TO i1 i2 l1 l2 : Addr} {xs ys : Array Value} {Q : Value → Shared → Prop} (hh : A.handled = none) (D : ZipApart z TI TO i1 i2 l1 l2) (Z : ZAt z TI TO i1 i2 l1 l2 xs ys 0 s.heap) (hn : min xs.size ys.size ≤ 1000) (lz : ∀ b ∈ [z, TI, TO, i1, i2, l1, l2], ∃ o, s.heap.get? b = some o)
    (hQ : ∀ h' acc c', (∀ c o, c ≠ z → c ≠ TO → c ≠ i1 → c ≠ i2 → s.heap.get? c = some o → h'.get? c = some o) → h'.get? s.heap.objs.size = some { cls := .type "list", dict := none, data := .seq acc c', slots := #[] } → Got s xs ys (min xs.size ys.size) acc h' → Q (.ref s.heap.objs.size) { s with heap := h' }) :
    wpAny (model prog w) A (call (.type "list") [.ref z]) Q E s := by
  have lt : ∀ b ∈ [z, TI, TO, i1, i2, l1, l2], b ≠ s.heap.objs.size := fun b m q => by refine w5 (lz b m) fun o e => ?_; exact absurd (Heap.lt_size e) (by refine rwm (q) ?_; exact Nat.lt_irrefl _)
  have hS0 : s.heap.objs.size ∉ [z, TI, TO, i1, i2, l1, l2] := fun m => lt _ m rfl
  refine callType_codes (Q₁ := fun obj s₁ => obj = .ref s.heap.objs.size ∧ s₁ = { s with heap := s.heap.push { cls := .type "list", data := .seq #[] } }) F.called_list (F.typeCall_list_1 _) F.entry_list_init
    (code_list_new _ ⟨rfl, rfl⟩) fun obj s₁ h₁ => ?_
  refine w8 h₁ fun zz1 zz2 => ?_
  clear h₁
  subst zz1
  subst zz2
  have hS : (s.heap.push { cls := .type "list", data := .seq #[] }).get? s.heap.objs.size = some { cls := .type "list", data := .seq #[] } := Heap.get?_push_size _ rfl
  refine ⟨(w7 _ hS rfl), F.args_list_init_2 _ _, ?_⟩
  have Z₁ := Z.keep s.heap.objs.size hS0 _ hS fun c o _ e => Heap.get?_push_of_some _ e
  generalize hS1 : s.heap.push { cls := .type "list", data := .seq #[] } = g1 at hS Z₁
  have lv1 : ∀ c o, s.heap.get? c = some o → g1.get? c = some o := fun c o e => by refine rwl (hS1) ?_; exact Heap.get?_push_of_some _ e
  refine (?_ : wpAny _ A.in1.in1 (do let old ← Builtin.List.listItems (.ref s.heap.objs.size); Builtin.List.listUpdate (.ref s.heap.objs.size) (fun _ => #[]); letGo old.toList.reverse; Builtin.List.listExtendWith (.ref s.heap.objs.size) (.ref z) .none) _ _ _)
  refine wpAny_bind ?_
  unfold Builtin.List.listItems
  refine wpAny_bind (wpAny_seqItems hS rfl (wpAny_pure ?_))
  refine (?_ : wpAny _ A.in1.in1 (updateSeq s.heap.objs.size (fun _ => #[]) >>= fun _ => letGo (#[] : Array Value).toList.reverse >>= fun _ => Builtin.List.listExtendWith (.ref s.heap.objs.size) (.ref z) .none) _ _ _)
  refine wpAny_bind (wpAny_updateSeq hS rfl ?_)
  have hS₂ := Heap.get?_update_self (Obj.mapSeq (fun _ => (#[] : Array Value))) hS rfl
  have oth₂ : ∀ b o, b ≠ s.heap.objs.size → g1.get? b = some o → (g1.update s.heap.objs.size (Obj.mapSeq (fun _ => (#[] : Array Value)))).get? b = some o :=
    fun b o hb e => (Heap.get?_update_other _ _ (Ne.symm hb)).trans e
  have Z₂ := Z₁.keep s.heap.objs.size hS0 _ hS₂ oth₂
  generalize g1.update s.heap.objs.size (Obj.mapSeq (fun _ => (#[] : Array Value))) = g2 at hS₂ oth₂ Z₂
  refine wpAny_bind (wpAny_letGo ?_)
  have hT : Shared.TypeIs { s with heap := g2 } (.ref z) "zip" := by
    rcases Z₂.zip with q | ⟨_, _, _, q, _⟩ <;> exact (w7 _ q rfl)
  unfold Builtin.List.listExtendWith
  refine wpAny_bind (wpAny_typeOf hT ?_)
  have h1 : Builtin.List.listSameRef (.ref s.heap.objs.size) (.ref z) = false := by
    have : s.heap.objs.size ≠ z := fun q => lt z (by simp) q.symm
    simp [Builtin.List.listSameRef, this]
  have h2 : (Value.type "zip" == Value.type "list") = false := by decide
  have h3 : (Value.type "zip" == Value.type "tuple") = false := by decide
  simp only [h1, h2, h3, Bool.or_false, Bool.false_eq_true, if_false]
  have iz : ∃ f0 f1, IsZipL g2 z TI TO f0 f1 := by rcases Z₂.zip with q | ⟨_, _, _, q, _⟩ <;> exact (x7 _ _ q)
  have self : ∀ {Q' : Value → Shared → Prop} {E' : Value → Shared → Prop} {A' : Around}, Q' (.ref z) { s with heap := g2 } → wpAny (model prog w) A' (pyIter (.ref z)) Q' E' { s with heap := g2 } := fun q => by
    refine wpAny_pyIter_slot hT F.slot_zip_iter (wpAny_call_entry F.slot_zip_iter hT F.entry_zip_iter ?_ (F.args_zip_iter_1 _))
    refine (?_ : wpAny _ _ (ret (.ref z)) _ _ _)
    exact wpAny_pure ⟨_, rfl, "zip", _, hT, F.slot_zip_next.lookup, q⟩
  refine wpAny_bind (self ?_)
  refine wpAny_bind (wpAny_holding ?_)
  unfold Builtin.List.listLengthHint
  refine wpAny_bind (wpAny_specialOf hT zip_no_len ?_)
  refine (?_ : wpAny _ A.in1.in1 (specialOf (Value.ref z) (Str.ofString "__length_hint__") >>= _) _ _ _)
  refine wpAny_bind (wpAny_specialOf hT zip_no_hint ?_)
  refine wpAny_pure ?_
  show wpAny _ A.in1.in1 (rule "list.extend.makes-room" >>= fun _ => Builtin.List.listTouch (.ref s.heap.objs.size) >>= fun _ =>
    again (.builtin "list.extend.loop" ⟨[.ref s.heap.objs.size, .ref z, .none], []⟩)) _ _ _
  refine wpAny_bind (wpAny_rule ?_)
  refine wpAny_bind ?_
  refine (?_ : wpAny _ A.in1.in1 (updateSeq s.heap.objs.size (·.push .none) >>= fun _ => updateSeq s.heap.objs.size (·.pop)) _ _ _)
  refine wpAny_bind (wpAny_updateSeq hS₂ rfl ?_)
  have hS₃ := Heap.get?_update_self (Obj.mapSeq (·.push Value.none)) hS₂ rfl
  refine wpAny_updateSeq (hz := by seq_fits) hS₃ rfl ?_
  have hS₄ := Heap.get?_update_self (Obj.mapSeq (·.pop)) hS₃ rfl
  have oth₄ : ∀ b o, b ≠ s.heap.objs.size → g2.get? b = some o → ((g2.update s.heap.objs.size (Obj.mapSeq (·.push Value.none))).update s.heap.objs.size (Obj.mapSeq (·.pop))).get? b = some o :=
    fun b o hb e => (Heap.get?_update_other _ _ (Ne.symm hb)).trans ((Heap.get?_update_other _ _ (Ne.symm hb)).trans e)
  have Z₄ := Z₂.keep s.heap.objs.size hS0 _ hS₄ oth₄
  have all : ∀ c o, s.heap.get? c = some o → ((g2.update s.heap.objs.size (Obj.mapSeq (·.push Value.none))).update s.heap.objs.size (Obj.mapSeq (·.pop))).get? c = some o := fun c o e => by
    have nc : c ≠ s.heap.objs.size := Nat.ne_of_lt (Heap.lt_size e)
    exact oth₄ _ _ nc (oth₂ _ _ nc (lv1 c o e))
  refine wpAny_pure ⟨plainId_quiet F.plain_extend_loop _, drain_loop (A := A.in1) (s₀ := s) hh D hS0 hn lt _ 0 _ _ _ rfl (Nat.zero_le _) Z₄ hS₄ ⟨rfl, fun i x y hi => absurd hi (Nat.not_lt_zero _)⟩ (fun c o e => ⟨o, all c o e⟩) (by
      induction q : s.heap.get? s.heap.objs.size using Option.casesOn with
      | none => rfl
      | some o => exact absurd (Heap.lt_size q) (Nat.lt_irrefl _)) (fun b m => lz b (by simp at m ⊢; rcases m with h | h | h | h <;> simp [h])) fun h' acc' c' hk hl g => ?_⟩
  exact ⟨rfl, hQ h' acc' c' (fun c o c1 c2 c3 c4 e => hk c o (Nat.ne_of_lt (Heap.lt_size e)) c1 c2 c3 c4 (all c o e)) hl g⟩
end
section
variable {C : Cy} {X : Tx} {A : Around} {own : List Addr} {W W' W₀ W₁ : Wd} {s s' s₀ s₁ : Shared} {σ σ' : St} {env : Env} {ρ : Fr} {r : Rec} {n : Nat} {E : Value → Shared → Prop}
theorem VRs.ofIdx {h : Heap} : ∀ {ds : List V} {vs : List Value}, ds.length = vs.length → (∀ (i : Nat) (d : V) (v : Value), ds[i]? = some d → vs[i]? = some v → VR C.toCx W h d v) → VRs C.toCx W h ds vs
  | [], [], _, _ => .nil
  | [], _ :: _, e, _ => by exact (nomatch e)
  | _ :: _, [], e, _ => by exact (nomatch e)
  | d :: ds, v :: vs, e, h => .cons (h 0 d v rfl rfl) (VRs.ofIdx (by simpa using e) fun i d' v' h1 h2 => h (i + 1) d' v' h1 h2)
theorem drain_ok (G : Gr C X) (H : OkE C r n) : OkD C X r n := by
  intro a x y f q p ρ σ σ₁ σ' i j xs ys v hb hz h1 h2 h3 h4 A env own W s hr F R Q E k
  refine y9 (srcOf_zip hz) fun zn zp zq zz1 hzb => ?_
  subst zz1
  refine W2 (isBuiltin_ok hb) fun zz1 _ hn1 => ?_
  clear hb
  subst zz1
  refine W2 (isBuiltin_ok hzb) fun zz1 _ hn2 => ?_
  clear hz hzb
  subst zz1
  have keptT : ∀ (t : String) h, Kept C h (.type t) := fun t h => (w7 .machine (.inr (.inl rfl)) .now)
  refine Call_ (wpAny_Name (G.types (.inr (.inr ⟨rfl, rfl⟩)) R F.kind (F.nmG _ hn1) F.glob F.blt ?_) (by decide +kernel)) rfl
  refine callWith_of (P := fun h => Kept C h (.type "list")) rfl (fun _ k => k) ?_
  have hsz : isStar (.Call (.Name "zip" zp) [x, y] [] zq) = false := rfl
  suffices main : wpAny C.M A (spliced (backTo p (starEach [.Call (.Name "zip" zp) [x, y] [] zq] env))) (fun vs s₂ => Kept C s₂.heap (.type "list") ∧ wpAny C.M A (call (.type "list") ([] ++ vs)) Q E s₂) E s by
    rw [starEach_cons hsz] at main ⊢
    exact Calls.evalArgs_plain main
  refine wpAny_items_cons ?_ (starEach_cons hsz)
  refine Call_ (wpAny_Name (G.types (.inl ⟨rfl, rfl⟩) R F.kind (F.nmG _ hn2) F.glob F.blt ?_) (by decide +kernel)) rfl
  refine w8 (starEach_plain (env := env) (pos := zq) (evL_star h1)) fun hp _ => ?_
  refine callWith_of (P := fun h => Kept C h (.type "zip")) (by refine rwm (hp) ?_; rfl) (fun _ k => k) ?_
  have hs := evL_star h1 x (.head _)
  have go := evL_ok (E := E) H hr (pos := zq) (Q := fun vs' s₁ => Kept C s₁.heap (.type "zip") ∧ wpAny C.M A (call (.type "zip") ([] ++ vs')) (fun v s₁ => wpAny C.M A (spliced (backTo p (starEach [] env))) (fun vs s₂ => Kept C s₂.heap (.type "list") ∧ wpAny C.M A (call (.type "list") ([] ++ (v :: vs))) Q E s₂) E s₁) E s₁) h1 F R fun W₁ s₁ vs' g R₁ xv => ⟨keptT _ _, ?_⟩
  · rw [starEach_cons hs] at go ⊢
    exact Calls.evalArgs_plain go
  · refine VRs.e2 xv fun v1 v2 x1 x2 => ?_
    refine X0 (VR.list R₁ h2 x1) fun l1 vs1 zz1 m1 p1 r1 b1 => ?_
    subst zz1
    refine X0 (VR.list R₁ h3 x2) fun l2 vs2 zz1 m2 p2 r2 b2 => ?_
    subst zz1
    have len1 := VRs.length r1
    have len2 := VRs.length r2
    have lt1 : l1 < s₁.heap.objs.size := by (refine x5 p1 fun _ _ e _ => ?_; clear p1); exact Heap.lt_size e
    have lt2 : l2 < s₁.heap.objs.size := by (refine x5 p2 fun _ _ e _ => ?_; clear p2); exact Heap.lt_size e
    refine call_zip_2 p1.isList p2.isList fun h' hz hTI hTO hi1 hi2 hsz hk => ?_
    refine wpAny_items_nil ⟨keptT _ _, ?_⟩
    have D := zipApart_new lt1 lt2
    have nS : ∀ {b : Addr}, s₁.heap.objs.size ≤ b → s₁.heap.get? b = none := by
      intro b h
      induction z : s₁.heap.get? b using Option.casesOn with
      | none => rfl
      | some o => exact absurd (Heap.lt_size z) (Nat.not_lt.mpr h)
    have hmin : min vs1.toArray.size vs2.toArray.size ≤ 1000 := by
      (refine rwm (List.size_toArray) ?_; refine rwm (List.size_toArray) ?_); omega
    refine drain_call (s := { s₁ with heap := h' }) (TI := s₁.heap.objs.size + 2) (TO := s₁.heap.objs.size + 3) (i1 := s₁.heap.objs.size) (i2 := s₁.heap.objs.size + 1) (l1 := l1) (l2 := l2) (xs := vs1.toArray) (ys := vs2.toArray) hr.handled D
      ⟨.inl hz, hTI, (x7 _ _ hTO), hi1, hi2, p1.isList.at fun o e => hk _ o e, p2.isList.at fun o e => hk _ o e⟩ hmin (fun b m => ?_) fun h'' acc c' hk' hl g' => ?_
    · simp only [List.mem_cons, List.not_mem_nil, or_false] at m
      rcases m with rfl | rfl | rfl | rfl | rfl | rfl | rfl
      · exact ⟨_, hz⟩
      · exact ⟨_, hTI⟩
      · exact ⟨_, hTO⟩
      · (refine w6 hi1 fun _ e _ => ?_; clear hi1); exact ⟨_, e⟩
      · (refine w6 hi2 fun _ e _ => ?_; clear hi2); exact ⟨_, e⟩
      · (refine x5 p1 fun o _ e _ => ?_; clear p1); exact ⟨o, hk _ _ e⟩
      · (refine x5 p2 fun o _ e _ => ?_; clear p2); exact ⟨o, hk _ _ e⟩
    · have all : ∀ c o, s₁.heap.get? c = some o → h''.get? c = some o := fun c o e => by
        have := Heap.lt_size e
        exact hk' c o (Nat.ne_of_lt (Nat.lt_of_lt_of_le this (Nat.le_add_right _ 4))) (Nat.ne_of_lt (Nat.lt_of_lt_of_le this (Nat.le_add_right _ 3))) (Nat.ne_of_lt this) (Nat.ne_of_lt (Nat.lt_of_lt_of_le this (Nat.le_add_right _ 1))) (hk c o e)
      have fS : s₁.heap.get? h'.objs.size = none := nS (by refine rwm (hsz) ?_; omega)
      unfold newL at h4
      induction hf : few (pairs xs ys) && Nat.blt σ₁.n 1000000 using Bool.casesOn with
      | false => rw [hf] at h4; exact nsx h4
      | true =>
        rw [hf] at h4
        refine w8 (Bool.and_eq_true_iff.mp hf) fun f1 f2 => ?_
        have hn : σ₁.n < 1000000 := Nat.le_of_ble_eq_true f2
        have e := Option.some.inj h4
        have e1 : v = .lst σ₁.n := (congrArg Prod.fst e).symm
        have e2 : σ' = (σ₁.new (pairs xs ys)).2 := (congrArg Prod.snd e).symm
        clear e h4
        subst e1 e2
        have hpl : PlainL h'' h'.objs.size acc.toList.toArray := (y8 _ c' hl rfl rfl (by simp))
        have kk : Keep (fun _ => False) (fun _ => False) s₁.heap h'' := .of _ _ fun b o e _ => all b o e
        have nm : h'.objs.size ∉ W₁.mt := fun m => by refine w5 (R₁.live _ m) fun o e => ?_; rw [fS] at e; exact nsx e
        have le : W₁.Le s₁.heap ⟨W₁.adr, W₁.syms, h'.objs.size :: W₁.mt⟩ := ⟨List.prefix_refl _, List.prefix_refl _, fun b m => .tail _ m, fun b m => by
          rcases mc m with rfl | m
          · exact .inr fS
          · exact .inl m, fun b m => .inl m⟩
        have R₂ := R₁.move (tk := s₁.toks) le rfl rfl kk (fun _ t => t.elim) (fun _ t => t.elim) (fun b m => by
          rcases mc m with rfl | m
          · exact .inr ⟨_, hl⟩
          · exact .inl ⟨m, id⟩)
        have rs₂ : VRs C.toCx ⟨W₁.adr, W₁.syms, h'.objs.size :: W₁.mt⟩ h'' (pairs xs ys) acc.toList := by
          refine VRs.ofIdx ?_ fun i' d v' hd hv => ?_
          · have : acc.toList.length = min vs1.toArray.size vs2.toArray.size := by refine rwl (g'.size) ?_; exact Array.length_toList
            refine rwm (this) ?_
            unfold pairs
            (refine rwm (List.length_zipWith) ?_; refine rwm (List.size_toArray) ?_; refine rwm (List.size_toArray) ?_; refine rwm (len1) ?_; exact rwm (len2) rfl)
          · unfold pairs at hd
            rw [List.getElem?_zipWith] at hd
            induction ex : xs[i']? using Option.casesOn with
            | none => rw [ex] at hd; exact nsx hd
            | some dx =>
              induction ey : ys[i']? using Option.casesOn with
              | none => rw [ex, ey] at hd; exact nsx hd
              | some dy =>
                rw [ex, ey] at hd
                (revert hd; refine sm_r fun zz => ?_; subst zz)
                refine w6 (r1.get ex) fun vx e3 x3 => ?_
                refine w6 (r2.get ey) fun vy e4 x4 => ?_
                have hi : i' < min vs1.toArray.size vs2.toArray.size := by
                  have a1 := (List.getElem?_eq_some_iff.mp e3).1
                  have a2 := (List.getElem?_eq_some_iff.mp e4).1
                  (refine rwm (List.size_toArray) ?_; refine rwm (List.size_toArray) ?_); omega
                refine W3 (g'.each i' vx vy hi (by simpa using e3) (by simpa using e4)) fun T t1 t2 t3 => ?_
                have hv : acc[i']? = some v' := by simpa using hv
                rw [t1] at hv; (revert hv; refine sm_r fun zz => ?_; subst zz)
                have t3 : h'.get? T = none := t3
                refine .tup (vs := [vx, vy]) ⟨t2, fun m => ?_, rfl⟩ (by simp) (.cons (x3.mono le kk (fun _ t => t.elim) (fun _ t => t.elim)) (.cons (x4.mono le kk (fun _ t => t.elim) (fun _ t => t.elim)) .nil))
                rcases List.mem_cons.mp m with e | m
                · have e5 : h''.get? T = _ := t2
                  rw [e, hl] at e5
                  have e6 := congrArg (fun o => o.map Obj.cls) e5; simp at e6
                · refine w5 (R₁.live _ m) fun o e => ?_
                  rw [hk _ _ e] at t3; exact snx t3
        have R₃ := R₂.adopt hn (.head _) (fun m => nm (R₁.adr _ m)) (fun m => nm (R₁.tabs _ m)) hpl rs₂ (few_le f1)
        refine k ⟨W₁.adr ++ [h'.objs.size], W₁.syms, h'.objs.size :: W₁.mt⟩ _ _ (g.trans ⟨⟨List.prefix_append _ _, List.prefix_refl _, le.mt, le.new, fun b m => ?_⟩, .of _ _ fun b o e _ => all b o e, fun b o e => ⟨o, all b o e⟩, rfl⟩) R₃ (.lst ?_)
        · rcases List.mem_append.mp (show b ∈ W₁.adr ++ [h'.objs.size] from m) with m | m
          · exact .inl m
          · refine rwm (List.mem_singleton.mp m) ?_; exact .inr fS
        · show (W₁.adr ++ [h'.objs.size])[σ₁.n]? = some h'.objs.size
          (refine rwl (R₁.len) ?_; refine rwm (List.getElem?_append_right (Nat.le_refl _)) ?_; refine rwm (Nat.sub_self ..) ?_); rfl
end
section
variable {C : Cy} {X : Tx}
noncomputable def step0 (X : Tx) (r : Rec) : Rec := ⟨stepE X r, stepT r, fun st ρ σ => match raisesS st with | true => none | false => stepS X r st ρ σ, fun f args σ => match isSpark f with | true => none | false => stepC X r f args σ⟩
noncomputable def run0 (X : Tx) : Nat → Rec
  | 0 => bot
  | n + 1 => step0 X (run0 X n)
theorem run0_ok (G : Gr C X) (D : Gc C X) (Dm : Gm C X) : ∀ n, OkE C (run0 X n) n ∧ OkT C (run0 X n) n ∧ OkS C (run0 X n) n ∧ OkC C (run0 X n) n
  | 0 => by
    refine (X9 ?_ ?_ ?_ ?_)
    · intro e ρ σ v σ' h; exact nsx h
    · intro e ρ σ b σ' h; exact nsx h
    · intro st ρ σ fl m' σ' h; exact nsx h
    · intro f args σ Rr σ' h; exact nsx h
  | n + 1 => by
    refine Y6 (run0_ok G D Dm n) fun HE HT HS HC => ?_
    have HX : OkX C X (run0 X n) n := evC_ok G HE HC (drain_ok G HE)
    refine (X9 ?_ ?_ ?_ ?_)
    · intro e ρ σ v σ' h A env own W s hr F R Q E q
      exact stepE_ok G HE HT HX (lambda_ok Dm) h (hr.less (Nat.le_succ n)) F R q
    · intro e ρ σ b σ' h A env own W s hr F R Q E q
      exact stepT_ok HE HT h (hr.less (Nat.le_succ n)) F R q
    · intro st ρ σ fl m' σ' h A env outer own W s hr hfr F R Q E q
      have h : (match raisesS st with | true => none | false => stepS X (run0 X n) st ρ σ) = some (fl, m', σ') := h
      induction hs : raisesS st using Bool.casesOn with
      | true => rw [hs] at h; exact nsx h
      | false =>
        rw [hs] at h
        exact stepS_ok G Dm (fun e => by rw [hs] at e; exact ftx e) HE HT HS HX h (hr.less (Nat.le_succ n)) (fun e => by rw [hs] at e; exact ftx e) hfr F R q
    · intro f args σ Rr σ' h A W s vf vargs hr F R xf xs Q E q
      have h : (match isSpark f with | true => none | false => stepC X (run0 X n) f args σ) = some (Rr, σ') := h
      induction hs : isSpark f using Bool.casesOn with
      | true => rw [hs] at h; exact nsx h
      | false =>
        rw [hs] at h
        exact stepC_ok D HE HS (fun e => by rw [hs] at e; exact ftx e) h hr F R xf xs q
theorem run_ok (G : Gr C X) (D : Gc C X) (Dm : Gm C X) (T : Gt C) : ∀ n, OkE C (run X n) (n + 120) ∧ OkT C (run X n) (n + 120) ∧ OkS C (run X n) (n + 120) ∧ OkC C (run X n) (n + 120)
  | 0 => by
    refine (X9 ?_ ?_ ?_ ?_)
    · intro e ρ σ v σ' h; exact nsx h
    · intro e ρ σ b σ' h; exact nsx h
    · intro st ρ σ fl m' σ' h; exact nsx h
    · intro f args σ Rr σ' h; exact nsx h
  | n + 1 => by
    refine Y6 (run_ok G D Dm T n) fun HE HT HS HC => ?_
    have HX : OkX C X (run X n) (n + 120) := evC_ok G HE HC (drain_ok G HE)
    have le : n + 120 ≤ n + 1 + 120 := by omega
    refine (X9 ?_ ?_ ?_ ?_)
    · intro e ρ σ v σ' h A env own W s hr F R Q E q
      exact stepE_ok G HE HT HX (lambda_ok Dm) h (hr.less le) F R q
    · intro e ρ σ b σ' h A env own W s hr F R Q E q
      exact stepT_ok HE HT h (hr.less le) F R q
    · intro st ρ σ fl m' σ' h A env outer own W s hr hfr F R Q E q
      exact stepS_ok G Dm (fun _ => T) HE HT HS HX h (hr.less le) (fun _ => ⟨n + 104, hr.less le⟩) hfr F R q
    · intro f args σ Rr σ' h A W s vf vargs hr F R xf xs Q E q
      have hr' : Room A (n + 120 + 1) := by
        have e : n + 1 + 120 = n + 120 + 1 := by omega
        rw [e] at hr; exact hr
      exact stepC_ok (n := n + 120) D HE HS (fun _ => ⟨n + 10, hr.less le⟩) h hr' F R xf xs q
end
noncomputable def nsQ (K : Frag) (a : Addr) (x : Str) : Option (Option Value) := match K.lookup a with
  | some ⟨_, _, .dict es _, _⟩ => (match es.toList.find? (PySem.W.Fast.tw995047462949696687 ·.key x) with
      | some e => some (some e.val)
      | none => if es.toList.any (·.refKey) then none else some none)
  | _ => none
theorem nsQ_eq {K : Frag} {a : Addr} {x : Str} : nsQ K a x = nsIn K a x := by
  unfold nsQ nsIn
  rw [← PySem.W.Fast.te995047462949696687]
  rfl
noncomputable def heapCls (K : Frag) : Addr := match nsQ K mainGlobals "Heap" with
  | some (some (.ref a)) => a
  | _ => 0
noncomputable def clsNs (K : Frag) (a : Addr) : Addr := match K.lookup a with
  | some ⟨_, _, .cls cd, _⟩ => cd.ns
  | _ => 0
noncomputable def addrV (K : Frag) : Option (Option Value) → Option Addr
  | some (some (.ref a)) => match keepIn K (.ref a) with
    | true => some a
    | false => none
  | _ => none
noncomputable def addrK (K : Frag) (x : Str) : Option Addr := match nsQ K mainGlobals x with
  | some none => addrV K (nsQ K (clsNs K (heapCls K)) x)
  | v => addrV K v
noncomputable def fnAt (K : Frag) (a : Addr) : Option FuncData := match K.lookup a with
  | some ⟨_, _, .func fn, _⟩ => some fn
  | _ => none
theorem getD_true {o : Option Bool} (h : o.getD false = true) : o = some true := by
  induction o using Option.casesOn with
  | none => exact ftx h
  | some b => exact congrArg some h
noncomputable def vRef0 (v : Value) : Option { a : Addr // v = .ref a } := match v with
  | .ref a => some ⟨a, rfl⟩
  | _ => none
noncomputable def vStr0 (v : Value) : Option { x : Str // ∃ t, v = .str x t } := match v with
  | .str x t => some ⟨x, t, rfl⟩
  | _ => none
noncomputable def vFld0 (o : Option Obj) : Option { vs : Array Value // ∃ c d sl, o = some ⟨c, d, .fields vs, sl⟩ } := match o with
  | some ⟨c, d, .fields vs, sl⟩ => some ⟨vs, c, d, sl, rfl⟩
  | _ => none
noncomputable def vSeqT0 (o : Option Obj) : Option { q : String × Array Value × Array (Option Value) // ∃ n, o = some ⟨.type q.1, none, .seq q.2.1 n, q.2.2⟩ } := match o with
  | some ⟨.type t, none, .seq vs n, sl⟩ => some ⟨(t, vs, sl), n, rfl⟩
  | _ => none
noncomputable def vDic0 (o : Option Obj) : Option { q : String × Array DictEntry × Array (Option Value) // ∃ n, o = some ⟨.type q.1, none, .dict q.2.1 n, q.2.2⟩ } := match o with
  | some ⟨.type t, none, .dict es n, sl⟩ => some ⟨(t, es, sl), n, rfl⟩
  | _ => none
noncomputable def vCls0 (o : Option Obj) : Option { q : String × ClassData × Array (Option Value) // ∃ d, o = some ⟨.type q.1, d, .cls q.2.1, q.2.2⟩ } := match o with
  | some ⟨.type t, d, .cls cd, sl⟩ => some ⟨(t, cd, sl), d, rfl⟩
  | _ => none
noncomputable def codeIn (K : Frag) (cd : Value) (q : Str) : Bool := (bd ((vRef0 cd).map (·.1)) fun c => bd ((vFld0 (K.lookup c)).map (·.1)) fun vs => bd vs[1]? fun v => bd ((vStr0 v).map (·.1)) fun x => some (sq x q)).getD false
noncomputable def plainPars (ps : Arguments) : Option (List Str) := bd ((vPars0 ps).map (·.1)) fun q => some (q.1.map (·.arg))
noncomputable def stmtsOf : FuncBody → Bool
  | .stmts _ => true
  | _ => false
noncomputable def parsIn (names : List (Str × NameKind)) : List Str → Bool
  | [] => true
  | x :: r => (match names.lookup x with
    | some .local => true
    | some .cell => true
    | _ => false) && parsIn names r
noncomputable def dflV (K : Frag) (v : Value) : Option V := match (vStr0 v).map (·.1) with
  | some x => some (.str x)
  | none => bd ((vRef0 v).map (·.1)) fun a => bd ((vSeqT0 (K.lookup a)).map (·.1)) fun q => match decide (q.1 = "tuple") && Nat.beq q.2.1.size 0 && Nat.beq q.2.2.size 0 with
    | true => some (.tup [])
    | false => none
noncomputable def dflK (K : Frag) (n : Nat) : Value → Option (List V)
  | .none => some []
  | .ref T => match Nat.beq n 2 with
    | true => match K.lookup T with
      | some ⟨_, _, .seq vs _, _⟩ => match vs.toList with
        | [v] => bd (dflV K v) fun d => some [d]
        | _ => none
      | _ => none
    | false => none
  | _ => none
noncomputable def closIn (cl : List (Str × Addr)) (x : Str) (fn : FuncData) : Bool := cl.all fun k => !(sq k.1 x) || (match fn.code with | .ref c => Nat.beq c k.2 | _ => false) && sq fn.qualname x
noncomputable def goodFn (K : Frag) (cl : List (Str × Addr)) (x : Str) (fn : FuncData) : Bool := isFun fn.scope.kind && !fn.scope.isCoroutine && !fn.scope.isGenerator && Nat.beq fn.globals mainGlobals && Nat.beq fn.builtins builtinsNs && fn.closure.isEmpty && codeIn K fn.code fn.qualname && stmtsOf fn.body && nodupN fn.scope.names && closIn cl x fn
noncomputable def fdA (K : Frag) (cl : List (Str × Addr)) (x : Str) (a : Addr) : Option FD := bd (fnAt K a) fun fn => match goodFn K cl x fn with
  | false => none
  | true => bd (plainPars fn.params) fun ps => match nodupK ps && parsIn fn.scope.names ps with
    | false => none
    | true => bd (dflK K ps.length fn.defaults) fun ds => some ⟨ps, ds, fn.body, fn.scope.names⟩
noncomputable def fdK (K : Frag) (cl : List (Str × Addr)) (x : Str) : Option FD := bd (addrK K x) (fdA K cl x)
theorem parsIn_ok {names : List (Str × NameKind)} : ∀ {l : List Str}, parsIn names l = true → ∀ p ∈ l, names.lookup p = some .local ∨ names.lookup p = some .cell
  | [], _, _, m => nomatch m
  | x :: r, h, p, m => by
    refine w8 (Bool.and_eq_true_iff.mp (show ((match names.lookup x with | some .local => true | some .cell => true | _ => false) && parsIn names r) = true from h)) fun h1 h2 => ?_
    rcases mc m with rfl | m
    · split at h1
      · rename_i e; exact .inl e
      · rename_i e; exact .inr e
      · exact ftx h1
    · exact parsIn_ok h2 p m
theorem plainPars_some {ps : Arguments} {xs : List Str} (h : plainPars ps = some xs) : ∃ as ds, ps = ⟨[], as, none, [], [], none, ds⟩ ∧ as.map (·.arg) = xs := by
  refine bd_e2 (show bd ((vPars0 ps).map (·.1)) _ = some xs from h) fun as ds h0 h' => ?_
  exact ⟨as, ds, view_some (o := vPars0 ps) h0, Option.some.inj h'⟩
theorem codeIn_ok {K : Frag} {h : Heap} (X : K.In h) {cd : Value} {q : Str} (e : codeIn K cd q = true) : h.CodeRec cd q := by
  refine bd_e (getD_true e) fun c h1 e => ?_
  refine bd_e e fun vs h2 e => ?_
  refine bd_e e fun v h3 e => ?_
  refine bd_e e fun x h4 e => ?_
  have ex := of_sq (Option.some.inj e)
  have e1 := view_some h1
  obtain ⟨oc, od, sl, hk⟩ := view_some h2
  obtain ⟨t, hv⟩ := view_some h4
  exact (Z1 c _ vs t e1 (X _ _ hk) rfl (by rw [h3, hv, ex]))
section
variable {C : Cy} {K : Frag} {W : Wd} {s : Shared} {σ : St}
theorem ground_fz (X : K.In C.h₀) (R : StR C W σ s) {a : Addr} {o : Obj} (e : K.lookup a = some o) (hi : isIter o = false) : Fz W s.heap a o :=
  ⟨R.ground _ _ (X _ _ e), fun m => (by have := R.fresh _ m; rw [X _ _ e] at this; exact snx this), hi⟩
theorem dflV_ok (X : K.In C.h₀) (R : StR C W σ s) {v : Value} {d : V} (h : dflV K v = some d) : VR C.toCx W s.heap d v := by
  unfold dflV at h
  induction q : (vStr0 v).map (·.1) using Option.casesOn with
  | some x =>
    rw [q] at h
    obtain ⟨t, rfl⟩ := view_some q
    (revert h; refine sm_r fun zz => ?_; subst zz); exact .str _ _
  | none =>
    rw [q] at h
    refine bd_e (show bd ((vRef0 v).map (·.1)) _ = some d from h) fun a h1 h => ?_
    refine bd_e3 h fun t vs sl h2 h' => ?_
    obtain rfl := view_some h1
    obtain ⟨n, hk⟩ := view_some h2
    have h : (match decide (t = "tuple") && Nat.beq vs.size 0 && Nat.beq sl.size 0 with | true => some (V.tup []) | false => none) = some d := h'
    induction hc : (decide (t = "tuple") && Nat.beq vs.size 0 && Nat.beq sl.size 0) using Bool.casesOn with
    | false => rw [hc] at h; exact nsx h
    | true =>
      rw [hc] at h
      · (revert h; refine sm_r fun zz => ?_; subst zz)
        refine w8 (Bool.and_eq_true_iff.mp hc) fun h1 h2 => ?_
        refine w8 (Bool.and_eq_true_iff.mp h1) fun h3 h4 => ?_
        have e1 := of_decide_eq_true h3
        have e2 := Nat.eq_of_beq_eq_true h4
        have e3 := Nat.eq_of_beq_eq_true h2
        have e4 := Array.eq_empty_of_size_eq_zero e2
        have e5 := Array.eq_empty_of_size_eq_zero e3
        clear e2 e3 h1 h2 h3 h4 hc
        subst e1 e4 e5
        exact .tup (vs := []) (n := n) (ground_fz X R hk rfl) (by simp) .nil
theorem fdA_ok (X : K.In C.h₀) {x : Str} {fd : FD} {a : Addr} (h : fdA K (C.clos.map fun k => (k.fn, k.code)) x a = some fd) : FdO C x fd a := by
  unfold fdA at h
  refine bd_e h fun fn h2 h => ?_
  induction hg : goodFn K (C.clos.map fun k => (k.fn, k.code)) x fn using Bool.casesOn with
  | false => rw [hg] at h; exact nsx h
  | true =>
    rw [hg] at h
    refine bd_e h fun ps h3 h => ?_
    induction hp : nodupK ps && parsIn fn.scope.names ps using Bool.casesOn with
    | false => rw [hp] at h; exact nsx h
    | true =>
      rw [hp] at h
      refine bd_e h fun ds h4 h => ?_
      (revert h; refine sm_r fun zz => ?_; subst zz)
      refine w8 (Bool.and_eq_true_iff.mp hp) fun hp1 hp2 => ?_
      refine x5 (plainPars_some h3) fun as dse e1 e2 => ?_
      unfold goodFn at hg
      simp only [Bool.and_eq_true] at hg
      refine w8 hg fun zz1 g10 => ?_
      clear hg
      obtain ⟨⟨⟨⟨⟨⟨⟨⟨g1, g2⟩, g3⟩, g4⟩, g5⟩, g6⟩, g7⟩, g8⟩, g9⟩ := zz1
      unfold fnAt at h2
      split at h2
      · rename_i oc od fn' sl hk
        cases h2
        have nd := nodupK_ok hp1
        obtain ⟨body, hb⟩ : ∃ body, fn.body = .stmts body := by
          unfold stmtsOf at g8
          split at g8
          · rename_i b hb; exact ⟨_, by assumption⟩
          · exact ftx g8
        refine ⟨_, fn, body, X _ _ hk, rfl, ⟨isFun_ok g1, by simpa using g2, by simpa using g3, rfl, Nat.eq_of_beq_eq_true g4, Nat.eq_of_beq_eq_true g5, fun k mk ek => ?_, nd, nodupN_ok g9, fun p m => parsIn_ok hp2 p m⟩, by simpa using g6, hb, hb, codeIn_ok X g7, fun {W σ s args vals m} R xs hm => ?_⟩
        · have := List.all_eq_true.mp g10 (k.fn, k.code) (List.mem_map.mpr (w7 k mk rfl))
          simp only [ek, sq_t, Bool.not_true, Bool.false_or, Bool.and_eq_true] at this
          refine w8 this fun t1 t2 => ?_
          clear this
          split at t1
          · rename_i c hc
            have := Nat.eq_of_beq_eq_true t1
            (refine rwm (hc) ?_; refine rwm (this) ?_)
            exact ⟨rfl, by exact rwm (of_sq t2) rfl⟩
          · exact ftx t1
        · have len := VRs.length xs
          unfold dflK at h4
          split at h4
          · rename_i hdf
            clear h
            (revert h4; refine sm_r fun zz => ?_; subst zz)
            refine w8 (params_nil (show params ps [] args = some m from hm)) fun zz1 hl => ?_
            clear hm
            subst zz1
            refine (y8 args vals rfl xs (by refine rwm (len) ?_; exact hl) ?_)
            have := bind_plain' e1 hdf (by refine rwm (e2) ?_; exact nd) vals (by (refine rwm (e2) ?_; refine rwm (len) ?_; exact rwm (hl) rfl))
            rw [e2] at this
            exact BindsTo.of_eq this
          · rename_i T hdf
            split at h4
            · rename_i hn2
              have hn2 := Nat.eq_of_beq_eq_true hn2
              split at h4
              · rename_i oc2 od2 vs2 n2 sl2 hT
                split at h4
                · rename_i v hv
                  refine bd_e h4 fun d h5 h6 => ?_
                  clear h4
                  (revert h6; refine sm_r fun zz => ?_; subst zz)
                  have xd := dflV_ok X R h5
                  have evs : vs2 = #[v] := by (refine rwl (Array.toArray_toList (xs := vs2)) ?_; exact rwm (hv) rfl)
                  clear hv
                  subst evs
                  obtain ⟨x1, x2, rfl⟩ := len2 hn2
                  have hm : (match Nat.beq 2 args.length with | true => some ([x1, x2].zip args) | false => (match Nat.beq 2 (args.length + 1) with | true => some ([x1, x2].zip (args ++ [d])) | false => none)) = some m := hm
                  cases xs with
                  | nil => exact nsx hm
                  | @cons a1 as1 v1 vs1 xa xr =>
                    cases xr with
                    | nil =>
                      (revert hm; refine sm_r fun zz => ?_; subst zz)
                      exact (y8 ([a1, d]) ([v1, v]) rfl (.cons xa (.cons xd .nil)) rfl (bind_dflt (ys := [x1]) e1 e2 nd hdf (R.ground _ _ (X _ _ hT)) rfl (vals := [v1]) rfl))
                    | @cons a2 as2 v2 vs2 xb xr =>
                      cases xr with
                      | nil =>
                        (revert hm; refine sm_r fun zz => ?_; subst zz)
                        exact (y8 ([a1, a2]) ([v1, v2]) rfl (.cons xa (.cons xb .nil)) rfl (bind_all (ys := [x1]) e1 e2 nd hdf (R.ground _ _ (X _ _ hT)) rfl (vals := [v1, v2]) rfl))
                      | cons xc xr => exact nsx hm
                · exact nsx h4
              · exact nsx h4
            · exact nsx h4
          · exact nsx h4
      · exact nsx h2
theorem fdK_ok (X : K.In C.h₀) (ha : C.addr = addrK K) {x : Str} {fd : FD} (h : fdK K (C.clos.map fun k => (k.fn, k.code)) x = some fd) : ∃ a, C.addr x = some a ∧ FdO C x fd a := by
  refine bd_e (show bd (addrK K x) (fdA K (C.clos.map fun k => (k.fn, k.code)) x) = some fd from h) fun a h1 h2 => ?_
  exact ⟨a, by refine rwm (ha) ?_; exact h1, fdA_ok X h2⟩
end
noncomputable abbrev heapC : Addr := 228
noncomputable abbrev thingC : Addr := 172
noncomputable abbrev thrownC : Addr := 71
noncomputable abbrev rowsC : Addr := 39
noncomputable def clT : List (Str × Addr) := [("reduced_along", 524), ("running_row", 531), ("spread_into", 545)]
noncomputable def defNames : List Str := ((top.filterMap defOf) ++ ((bodyOf "Heap" top).filterMap defOf)).map (·.1)
noncomputable def all2 (f : V → Value → Bool) : List V → List Value → Bool
  | [], [] => true
  | a :: as, b :: bs => f a b && all2 f as bs
  | _, _ => false
noncomputable def vrK (K : Frag) : Nat → V → Value → Bool
  | 0, _, _ => false
  | n + 1, d, v => match d with
    | .int (.lit k) => match v with
      | .int j _ => decide (j = k)
      | _ => false
    | .str x => match v with
      | .str y _ => sq y x
      | _ => false
    | .tup l => match v with
      | .ref a => match K.lookup a with
        | some ⟨.type t, none, .seq vs _, sl⟩ => decide (t = "tuple") && Nat.beq sl.size 0 && Nat.ble l.length 1000 && all2 (vrK K n) l vs.toList
        | _ => false
      | _ => false
    | _ => false
noncomputable def globV (K : Frag) (x : Str) (d : V) : Bool := match nsQ K mainGlobals x with
  | some (some v) => vrK K 6 d v
  | _ => false
noncomputable def globF (K : Frag) (x : Str) : Bool := match nsQ K mainGlobals x with
  | some (some (.ref a)) => match addrK K x with
    | some b => Nat.beq a b
    | none => false
  | _ => false
noncomputable def noMain (K : Frag) (x : Str) : Bool := match nsQ K mainGlobals x with
  | some none => true
  | _ => false
noncomputable def methK (K : Frag) (x : Str) : Bool := match findIn K (.ref heapC) x with
  | some (some (.ref a)) => isFn K (.ref a) && (match addrK K x with | some b => Nat.beq a b | none => false)
  | _ => false
noncomputable def noAttr (K : Frag) (C : Addr) (x : Str) : Bool := match findIn K (.ref C) x with
  | some none => true
  | _ => false
noncomputable def esOf (K : Frag) (a : Addr) : List DictEntry := match K.lookup a with
  | some ⟨_, _, .dict es _, _⟩ => es.toList
  | _ => []
noncomputable def dictIn (K : Frag) (a : Addr) : Bool := (bd ((vDic0 (K.lookup a)).map (·.1)) fun q => some (decide (q.1 = "dict") && Nat.beq q.2.2.size 0)).getD false
noncomputable def pkK : List DictEntry → List (Str × V) → Bool
  | [], [] => true
  | e :: es, (k, d) :: l => (match e.key with | .str x _ => sq x k | _ => false) && (match d with | .str v => (match e.val with | .str y _ => sq y v | _ => false) | _ => false) && pkK es l
  | _, _ => false
noncomputable def pkL : List (Str × V) := [("bool", .str "Bool"), ("char", .str "Char"), ("text", .str "String"), ("sym", .str "Symbol"), ("nothing", .str "Nothing"), ("tree", .str "Expr")]
noncomputable def constL : List (Str × V) := [("MOST_ITEMS", .int (.lit 20000)), ("NOTHING", .tup [.str "nothing"]), ("ANY", .tup [.str "name", .str "Any", .tup []]), ("RANGES", .tup [.str "UnitRange", .str "StepRange"])]
noncomputable def topFns : List Str := (top.filterMap defOf).map (·.1)
noncomputable def heapFns : List Str := ((bodyOf "Heap" top).filterMap defOf).map (·.1)
noncomputable def blts : List Str := ["len", "tuple", "list", "max", "range", "zip", "enumerate"]
noncomputable def passK : List Value → Bool
  | .ref _ :: r => passK r
  | l => l == [.type "object"] || l == [.type "Exception", .type "BaseException", .type "object"]
noncomputable def overK (K : Frag) (c : Addr) : Bool := (clsIn K c).any fun cd => passK cd.mro
noncomputable def iniR (K : Frag) (a : Addr) : Option (List Str × FuncBody × List (Str × NameKind)) := bd (fnAt K a) fun fn => match goodFn K [] "" fn with
  | true => bd (plainPars fn.params) fun ps => some (ps, fn.body, fn.scope.names)
  | false => none
noncomputable def iniDfl (K : Frag) (a : Addr) : Option (Option Value) := bd (fnAt K a) fun fn => match fn.defaults with
  | .none => some none
  | .ref T => match K.lookup T with
    | some ⟨_, _, .seq vs _, _⟩ => match vs.toList with
      | [v] => some (some v)
      | _ => none
    | _ => none
  | _ => none
noncomputable def globAt (K : Frag) (x : Str) (a : Addr) : Bool := match nsQ K mainGlobals x with
  | some (some (.ref b)) => Nat.beq b a
  | _ => false
noncomputable def thrownK (K : Frag) : Bool := (bd ((vCls0 (K.lookup thrownC)).map (·.1)) fun q => some (decide (q.1 = "type") && !q.2.1.abstract && !q.2.1.hasDel && (match q.2.1.mro with
    | .ref c :: bm => Nat.beq c thrownC && bm.contains (.type "BaseException") && bm.contains (.type "Exception") && !bm.contains (.type "AttributeError") && !bm.contains (.type "NameError")
    | _ => false) && Nat.beq q.2.2.size 6 && (match (q.2.2[4]? : Option (Option Value)) with
    | some (some (Value.builtin i)) => decide (i = "Exception.__new__")
    | _ => false))).getD false
structure KOk (K : Frag) (P : PySem.Params) : Prop where
  defs : defNames.map (fdK K clT) = defNames.map defsT
  consts : constL.all (fun p => globV K p.1 p.2) = true
  fns : (("Thing" : Str) :: topFns).all (globF K) = true
  noms : blts.all (noMain K) = true
  pk : (match nsIn K mainGlobals "PLAIN_KINDS" with | some (some (.ref a)) => Nat.beq a 155 | _ => false) = true
  pkD : dictIn K 155 = true
  pkE : pkK (esOf K 155) pkL = true
  pkH : (esOf K 155).map (·.hash) = pkL.map fun p => PyData.keyHash P p.1
  meths : heapFns.all (methK K) = true
  img : plainGet K heapC "" = true
  imgD : hasDictIn K heapC = true
  imgA : [("heap" : Str), "things", "call"].all (noAttr K heapC) = true
  thing : plainGet K thingC "" = true
  thingD : hasDictIn K thingC = true
  thingA : [("kind" : Str), "fields", "sizes"].all (noAttr K thingC) = true
  thingAd : addrK K "Thing" = some thingC
  thingI : iniR K 169 = (findFD "__init__" (bodyOf "Thing" top)).map fun f => (f.params, f.body, f.names)
  thingN : iniDfl K 169 = some none
  thingF : findIn K (.ref thingC) "__init__" = some (some (.ref 169)) ∧ isFn K (.ref 169) = true ∧ makesIn K thingC = true
  thingS : findIn K (.ref thingC) "__setattr__" = some (some (.builtin "object.__setattr__")) ∧ overK K thingC = true ∧ takerIn K thingC "kind" = some none ∧ takerIn K thingC "fields" = some none ∧ takerIn K thingC "sizes" = some none
  thrown : findIn K (.ref thrownC) "__getattribute__" = some (some (.builtin "BaseException.__getattribute__")) ∧ findIn K (.ref thrownC) "__getattr__" = some none
  thrownD : hasDictIn K thrownC = true
  thrownA : noAttr K thrownC "value" = true
  thrownO : thrownK K = true
  thrownM : globAt K "Thrown" thrownC = true ∧ globAt K "RowsError" rowsC = true ∧ noMain K "Exception" = true ∧ globF K "thrown_text" = true
  thrownI : iniR K 68 = (findFD "__init__" (bodyOf "Thrown" top)).map fun f => (f.params, f.body, f.names)
  thrownN : iniDfl K 68 = some none
  rowsI : iniR K 36 = (findFD "__init__" (bodyOf "RowsError" top)).map fun f => (f.params, f.body, f.names)
  rowsN : iniDfl K 36 = some (some .none)
  thrownF : findIn K (.ref thrownC) "__init__" = some (some (.ref 68)) ∧ isFn K (.ref 68) = true ∧ specialIn K (.ref thrownC) "__call__" = some (some (.builtin "type.__call__")) ∧ instIn K (.ref thrownC) (.type "type") = some true
  thrownS : findIn K (.ref thrownC) "__setattr__" = some (some (.builtin "object.__setattr__")) ∧ overK K thrownC = true ∧ takerIn K thrownC "message" = some none ∧ takerIn K thrownC "spot" = some none ∧ takerIn K thrownC "value" = some none
  thrownB : mroIn K thrownC (.type "BaseException") = some true ∧ mroIn K thrownC (.type "Exception") = some true ∧ mroIn K thrownC (.ref thrownC) = some true
  rowsG : specialIn K (.ref rowsC) "__getattribute__" = some (some (.builtin "type.__getattribute__")) ∧ readsIn K rowsC (.type "type") = true ∧ findCls K (.ref rowsC) (.type "type") "__init__" = some (.val (.ref 36)) ∧ findCls K (.type "Exception") (.type "type") "__init__" = some (.val (.builtin "Exception.__init__")) ∧ keepIn K (.ref 36) = true ∧ keepIn K (.ref thrownC) = true
  heads : codeHdIn K 524 520 = true ∧ codeHdIn K 531 527 = true ∧ codeHdIn K 545 541 = true
theorem all2_ok {f : V → Value → Bool} {C : Cx} {W : Wd} {h : Heap} (hf : ∀ d v, f d v = true → VR C W h d v) : ∀ {l : List V} {vs : List Value}, all2 f l vs = true → VRs C W h l vs
  | [], [], _ => .nil
  | [], _ :: _, e => by exact ftx e
  | _ :: _, [], e => by exact ftx e
  | a :: as, b :: bs, e => by
    refine w8 (Bool.and_eq_true_iff.mp (show (f a b && all2 f as bs) = true from e)) fun e1 e2 => ?_
    exact .cons (hf _ _ e1) (all2_ok hf e2)
section
variable {C : Cy} {K : Frag} {W : Wd} {s : Shared} {σ : St}
theorem vrK_ok (X : K.In C.h₀) (R : StR C W σ s) : ∀ {n : Nat} {d : V} {v : Value}, vrK K n d v = true → VR C.toCx W s.heap d v
  | 0, _, _, h => by exact ftx h
  | n + 1, d, v, h => by
    unfold vrK at h
    split at h
    · split at h
      · have e := of_decide_eq_true h
        clear h
        subst e
        exact .lit _ _
      · exact ftx h
    · split at h
      · have e := of_sq h
        clear h
        subst e
        exact .str _ _
      · exact ftx h
    · split at h
      · split at h
        · rename_i t vs m sl hk
          simp only [Bool.and_eq_true] at h
          refine w8 h fun zz1 h4 => ?_
          clear h
          obtain ⟨⟨h1, h2⟩, h3⟩ := zz1
          have e1 := of_decide_eq_true h1
          have e2 := Array.eq_empty_of_size_eq_zero (Nat.eq_of_beq_eq_true h2)
          clear h1 h2
          subst e1 e2
          exact .tup (vs := vs.toList) (n := m) (by refine rwm (Array.toArray_toList) ?_; exact ground_fz X R hk rfl) (Nat.le_of_ble_eq_true h3) (all2_ok (fun d v e => vrK_ok X R e) h4)
        · exact ftx h
      · exact ftx h
    · exact ftx h
theorem pk_find : ∀ {es : List DictEntry} {l : List (Str × V)}, pkK es l = true → (∀ e ∈ es, ∃ x t, e.key = .str x t) ∧ es.length = l.length ∧ ∀ x, ((es.find? fun e => Value.isStrOf x e.key).map (·.val)).isSome = hasKey x l
  | [], [], _ => ⟨fun _ m => (nomatch m), rfl, fun _ => rfl⟩
  | [], _ :: _, h => by exact ftx h
  | _ :: _, [], h => by exact ftx h
  | e :: es, (k, d) :: l, h => by
    simp only [pkK, Bool.and_eq_true] at h
    refine w8 h fun zz1 h3 => ?_
    clear h
    obtain ⟨h1, h2⟩ := zz1
    refine W2 (pk_find h3) fun i1 i2 i3 => ?_
    split at h1
    · rename_i x t hx
      have ex := of_sq h1
      clear h1
      subst ex
      refine ⟨fun e' m => ?_, by (refine rwm (List.length_cons) ?_; refine rwm (List.length_cons) ?_; exact rwm (i2) rfl), fun y => ?_⟩
      · rcases mc m with rfl | m
        · exact (x7 _ _ hx)
        · exact i1 e' m
      · have hh : hasKey y ((x, d) :: l) = (match sq x y with | true => true | false => hasKey y l) := rfl
        (refine rwm (hh) ?_; refine rwm (List.find?_cons) ?_; refine rwm (hx) ?_)
        by_cases q : x = y
        · clear hh
          subst q
          have e1 : Value.isStrOf x (.str x t) = true := by simp [Value.isStrOf]
          (refine rwm (e1) ?_; refine rwm (sq_t rfl) ?_); rfl
        · have e1 : Value.isStrOf y (.str x t) = false := by simp [Value.isStrOf, q]
          (refine rwm (e1) ?_; refine rwm (sq_f q) ?_)
          exact i3 y
    · exact ftx h1
end
noncomputable def topRunT (p : Program) (w : World) (n₀ : Nat) (ann : Option Value) : Nat → SharedT → Thread → Option SharedT
  | 0, _, _ => none
  | n + 1, s, t => match through t with
    | true => some s
    | false => match PySem.W.Fast.tw6613529449190102663 n₀ ann t with
      | false => none
      | true => match PySem.W.Fast.tw10156331382660048174 (PySem.W.Fast.tw11892475500146522536 PySem.W.Fast.tw14364793385576792824) p w s t with
        | some (s', t') => topRunT p w n₀ ann n s' t'
        | none => none
noncomputable def treeOfL (l : List Obj) : BT := (l.foldl (fun (t : BT × Nat) o => (t.1.ins t.2 o, t.2 + 1)) (.nil, 0)).1
noncomputable def pw : Program := PySem.Challenge.pw_sf0041_01
noncomputable def S0 (w : World) (os : OsState) : SharedT := ⟨treeOfL (boot_heap w.params).objs.toList, (boot_heap w.params).objs.size, (boot_heap w.params).life, #[], boot_drawn, boot_toks, os⟩
theorem topRunT_of {p : Program} {w : World} {n₀ : Nat} {ann : Option Value} : ∀ (n : Nat) (s : SharedT) (t : Thread) (s₁ : SharedT), topRunT p w n₀ ann n s t = some s₁ → topRun treeTable p w n₀ ann n s.abs t = some s₁.abs
  | 0, _, _, _, h => nsx h
  | n + 1, s, t, s₁, h => by
    unfold topRunT at h
    rw [← PySem.W.Fast.te6613529449190102663, ← PySem.W.Fast.te10156331382660048174, ← PySem.W.Fast.te11892475500146522536, ← PySem.W.Fast.te14364793385576792824] at h
    unfold topRun
    induction ht : through t using Bool.casesOn with
    | true => rw [ht] at h; exact congrArg (fun x => x.map SharedT.abs) h
    | false =>
      rw [ht] at h
      induction hk : stepOk n₀ ann t using Bool.casesOn with
      | false => rw [hk] at h; exact nsx h
      | true =>
        rw [hk] at h
        induction hs : PySem.W.stepT (denote treeTable) p w s t using Option.casesOn with
        | none => rw [hs] at h; exact nsx h
        | some r =>
          obtain ⟨s', t'⟩ := r
          rw [hs] at h
          show (match PySem.step (denote treeTable) p w s.abs t with | .go s' t' => topRun treeTable p w n₀ ann n s' t' | .halt _ _ => none) = _
          rw [stepT_spec hs]
          exact topRunT_of n s' t' s₁ h
noncomputable def keepL : List Nat := [92]
noncomputable def vw : Program := view pw keepL
noncomputable def looseL : List Str := [("_wall" : Str), ("RowsError" : Str), ("MachineFault" : Str), ("Thrown" : Str), ("NOTHING" : Str), ("int_value" : Str), ("text_value" : Str), ("error_kind" : Str), ("error_value" : Str), ("thrown" : Str), ("thrown_text" : Str), ("literal_int" : Str), ("ANY" : Str), ("named" : Str), ("parts_of_kind" : Str), ("same_but_names" : Str), ("placed" : Str), ("PLAIN_KINDS" : Str), ("Thing" : Str), ("Heap" : Str), ("item_kind" : Str), ("array_kind" : Str), ("view_kind" : Str), ("kind_of" : Str), ("MOST_ITEMS" : Str), ("many_of" : Str), ("strides_of" : Str), ("offset_of" : Str), ("index_of" : Str), ("bounds_fault" : Str), ("check_sizes" : Str), ("is_array" : Str), ("parent_of" : Str), ("sizes_of" : Str), ("layout_of" : Str), ("place_in_parent" : Str), ("places_of" : Str), ("items_of" : Str), ("item_at" : Str), ("set_item" : Str), ("made" : Str), ("need_array" : Str), ("need_whole" : Str), ("kind_second" : Str), ("checked_row" : Str), ("count_of" : Str), ("numbers_of" : Str), ("RANGES" : Str), ("shape_of" : Str), ("own_indices" : Str), ("sizes_here" : Str), ("item_for" : Str), ("common_kind" : Str), ("collected" : Str), ("spread" : Str), ("worked" : Str), ("broadcasted" : Str), ("first_value" : Str), ("check_goal" : Str), ("broadcasted_into" : Str), ("folded" : Str), ("check_items" : Str), ("check_rank" : Str), ("along" : Str), ("without_rank" : Str), ("reduced" : Str), ("running" : Str), ("reduced_along" : Str), ("running_row" : Str), ("spread_out" : Str), ("spread_into" : Str), ("array_call_rows" : Str), ("_law_forge" : Str), ("_law_spark" : Str), ("_law_int" : Str), ("_law_ints" : Str), ("_law_deed" : Str), ("_law_left" : Str), ("_law_seen" : Str), ("_law_lines_right" : Str), ("_law_over_right" : Str), ("__name__" : Str)]
abbrev N0 : Nat := 7486
noncomputable def annB (P : PySem.Params) : Option Value := (boot_heap P).nsMap mainGlobals "__annotations__"
noncomputable def XtB (s : Shared) : Bool := xlAt vw [] s && recOk (RowW.records PySem.Challenge.rw_sf0041_01.row.toRowW) s
noncomputable def chk {α : Type} (Yf : Shared → α) (w : World) (os : OsState) :=
  (topRunT pw w 11 (annB w.params) N0 (S0 w os) (topStub pw)).map fun s =>
    ((staticsOk (importedModules pw.main.body) (boot_heap w.params) s.abs.heap && namesBound pw s.abs.heap && gensDone s.abs && laidKept (boot_heap w.params) s.abs.heap), PySem.W.Fast.tw4187177175401517315 vw looseL (importedModules pw.main.body) XtB true s.abs, Yf s.abs)
noncomputable def chk2 {β : Type} (Yt : SharedT → β) (w : World) (os : OsState) := (topRunT pw w 11 (annB w.params) N0 (S0 w os) (topStub pw)).map Yt
theorem chk_and {α β : Type} {Yf : Shared → α} {Yg : Shared → β} {Yt : SharedT → β} (q : ∀ s, Yt s = Yg s.abs) {w : World} {a b c d} (h : (fun os => chk Yf w os) = fun _ => some (a, b, c)) (k : (fun os => chk2 Yt w os) = fun _ => some d) : (fun os => chk (fun s => (Yf s, Yg s)) w os) = fun _ => some (a, b, c, d) := funext fun os => by
  have h := congrFun h os
  have k := congrFun k os
  unfold chk at h ⊢
  unfold chk2 at k
  obtain ⟨s, e, x⟩ := Option.map_eq_some_iff.mp h
  rw [e] at k ⊢
  cases x
  cases k
  exact congrArg (fun y => some (_, _, _, y)) (q s).symm
theorem ends_of {σ α β : Type} {o : Option σ} {F : σ → Option σ} {f : σ → α} {g : σ → β} {s₀ s : σ} {a : α} {b : β} (e : o = some s₀) (t : F s₀ = some s) (x : f s = a) (y : g s = b) : (o.bind F).map (fun s => (f s, g s)) = some (a, b) := by
  subst e x y
  exact (congrArg (Option.map _) t :)
theorem left_of {α : Type} {Yf : Shared → α} {Ya : World → α} (h : ∀ w : World, (fun os => chk Yf w os) = fun _ => some (true, openGood vw looseL, Ya w)) : LeftO pw vw looseL XtB Yf Ya N0 true := fun w => by
  obtain ⟨⟨hp, gs, d, k, os⟩, e, e'⟩ := Option.map_eq_some_iff.mp (boot_open (p := pw) (N := N0) (by kernel_rfl) (by decide) (fun s => by kernel_rfl) w)
  obtain ⟨rfl, rfl, rfl, rfl⟩ : hp = boot_heap w.params ∧ gs = #[] ∧ d = boot_drawn ∧ k = boot_toks := by simpa using e'
  obtain ⟨s₁, r, x⟩ := Option.map_eq_some_iff.mp (congrFun (h w) os)
  rw [← PySem.W.Fast.te4187177175401517315] at x
  obtain ⟨l1, l2, l3⟩ : _ ∧ _ ∧ _ := by simpa only [Prod.mk.injEq] using x
  have r := topRunT_of _ _ _ _ r
  have a0 : (S0 w os).abs = ⟨boot_heap w.params, #[], boot_drawn, boot_toks, os⟩ := by kernel_rfl
  rw [a0] at r
  have t : topFrom treeTable pw w N0 ⟨boot_heap w.params, #[], boot_drawn, boot_toks, os⟩ = some s₁.abs := by
    unfold topFrom
    have z1 : ((boot_heap w.params).isNs mainGlobals && (#[] : Array GenState).size == 0) = true := by kernel_rfl
    have z2 : (boot_heap w.params).objs.size = 11 := by kernel_rfl
    dsimp only
    rw [z1, z2]
    show ((topRun treeTable pw w 11 (annB w.params) N0 ⟨boot_heap w.params, #[], boot_drawn, boot_toks, os⟩ (topStub pw)).bind fun s₁ => match staticsOk (importedModules pw.main.body) (boot_heap w.params) s₁.heap && namesBound pw s₁.heap && gensDone s₁ && laidKept (boot_heap w.params) s₁.heap with | true => some s₁ | false => none) = _
    rw [r]
    show (match staticsOk (importedModules pw.main.body) (boot_heap w.params) s₁.abs.heap && namesBound pw s₁.abs.heap && gensDone s₁.abs && laidKept (boot_heap w.params) s₁.abs.heap with | true => some s₁.abs | false => none) = _
    rw [l1]
  exact ends_of (F := topFrom treeTable pw w N0) (f := openSeen vw looseL (importedModules pw.main.body) XtB true) e t l2 l3
noncomputable def nthS : List Stmt → Nat → Stmt
  | [], _ => .Pass default
  | s :: _, 0 => s
  | _ :: r, n + 1 => nthS r n
noncomputable def clsBody : Stmt → List Stmt
  | .ClassDef _ _ _ b _ _ _ _ _ _ _ => b
  | _ => []
noncomputable def fnAtS (s : Stmt) (qual md : Str) (tk : Nat) (code : Addr) : Obj := match s with
  | .FunctionDef n ps b _ _ _ sc _ _ _ => ⟨.type "function", none, .func { name := n, qualname := qual, params := ps, body := .stmts b, scope := sc, globals := 3, closure := [], defaults := .none, kwdefaults := .none, doc := .none, pyModule := .str md tk, annotations := none, code := .ref code, closureTuple := .none, builtins := 0 }, #[]⟩
  | _ => default
noncomputable def dctK (P : PySem.Params) (es : List (Str × Nat × Value)) (n : Nat) : Data := .dict ((es.map fun e => ⟨PyData.keyHash P e.1, .str e.1 e.2.1, e.2.2⟩).toArray) n
noncomputable def codeO (n q : Str) (t0 l k a b : Nat) (d e f : Value) (t1 t2 : Nat) : Obj := ⟨.type "code", none, .fields #[.str n t0, .str q (t0 + 1), .str "/claim/cut.py" (t0 + 2), .int l 0, .int k 0, .int 0 0, .int 0 0, .int 3 0, .ref a, .bool true, .int 181 0, .ref b, .none, d, e, f, .int t1 0, .int l 0, .str "/claim/cut.py" t2], #[]⟩
noncomputable def me (n : Str) (t : Nat) (v : Value) : Str × Nat × Value := (n, t, v)
noncomputable def mainA : List (Str × Nat × Value) := [me "__name__" 165 (.str "law_sf0041_01" 924), me "__doc__" 166 (.none), me "__package__" 167 (.none), me "__loader__" 168 (.builtin "__main__.__loader__#opaque"), me "__spec__" 169 (.none), me "__annotations__" 170 (.ref 6), me "__builtins__" 171 (.ref 4), me "__file__" 173 (.str "/claim/cut.py" 172), me "__cached__" 174 (.none), me "_wall" 193 (.ref 21), me "RowsError" 226 (.ref 39), me "MachineFault" 242 (.ref 52), me "Thrown" 267 (.ref 71), me "NOTHING" 271 (.ref 74), me "int_value" 280 (.ref 82), me "text_value" 287 (.ref 89), me "error_kind" 294 (.ref 96), me "error_value" 302 (.ref 103), me "thrown" 310 (.ref 110), me "thrown_text" 318 (.ref 117), me "literal_int" 326 (.ref 124), me "ANY" 331 (.ref 126), me "named" 339 (.ref 135), me "parts_of_kind" 347 (.ref 142), me "same_but_names" 355 (.ref 149), me "placed" 361 (.ref 154), me "PLAIN_KINDS" 382 (.ref 155), me "Thing" 415 (.ref 172), me "Heap" 486 (.ref 228), me "item_kind" 493 (.ref 239), me "array_kind" 501 (.ref 246), me "view_kind" 510 (.ref 253), me "kind_of" 516 (.ref 258), me "MOST_ITEMS" 520 (.int 20000 519), me "many_of" 529 (.ref 265), me "strides_of" 539 (.ref 272), me "offset_of" 551 (.ref 279), me "index_of" 561 (.ref 286), me "bounds_fault" 567 (.ref 291), me "check_sizes" 573 (.ref 296), me "is_array" 580 (.ref 303), me "parent_of" 588 (.ref 310), me "sizes_of" 596 (.ref 317), me "layout_of" 604 (.ref 324), me "place_in_parent" 619 (.ref 331)]
noncomputable def mainB : List (Str × Nat × Value) := [me "places_of" 625 (.ref 336), me "items_of" 631 (.ref 341), me "item_at" 642 (.ref 348), me "set_item" 653 (.ref 355), me "made" 663 (.ref 362), me "need_array" 672 (.ref 369), me "need_whole" 679 (.ref 376), me "kind_second" 687 (.ref 383), me "checked_row" 698 (.ref 390), me "count_of" 708 (.ref 397), me "numbers_of" 714 (.ref 402), me "RANGES" 719 (.ref 403), me "shape_of" 730 (.ref 410), me "own_indices" 736 (.ref 415), me "sizes_here" 744 (.ref 422), me "item_for" 755 (.ref 429), me "common_kind" 765 (.ref 436), me "collected" 771 (.ref 441), me "spread" 782 (.ref 448), me "worked" 788 (.ref 453), me "broadcasted" 794 (.ref 458), me "first_value" 802 (.ref 465), me "check_goal" 808 (.ref 470), me "broadcasted_into" 814 (.ref 475), me "folded" 827 (.ref 482), me "check_items" 834 (.ref 489), me "check_rank" 842 (.ref 496), me "along" 848 (.ref 501), me "without_rank" 854 (.ref 506), me "reduced" 860 (.ref 511), me "running" 870 (.ref 518), me "reduced_along" 887 (.ref 525), me "running_row" 899 (.ref 532), me "spread_out" 907 (.ref 539), me "spread_into" 917 (.ref 546), me "array_call_rows" 923 (.ref 553), me "_law_forge" 934 (.ref 560), me "_law_spark" 943 (.ref 567), me "_law_int" 950 (.ref 574), me "_law_ints" 956 (.ref 579), me "_law_deed" 966 (.ref 586), me "_law_left" 975 (.ref 593), me "_law_seen" 983 (.ref 600), me "_law_lines_right" 989 (.ref 605), me "_law_over_right" 995 (.ref 610), me "law" 1001 (.ref 615)]
noncomputable def K1 (P : PySem.Params) : Frag := [
  (nat_lit 2, ⟨.none, none, dctK P [("type.__subclasses__.Exception.0", 223, .int 39 0), ("type.__subclasses__.Exception.n", 224, .int 1 0)] 2, #[]⟩),
  (nat_lit 3, ⟨.type "dict", none, dctK P (mainA ++ mainB) 91, #[]⟩),
  (nat_lit 189, codeO "__init__" "Heap.__init__" 428 73 1 184 185 (.ref 186) (.ref 187) (.ref 188) 432 433),
  (nat_lit 190, fnAtS (nthS (clsBody (nthS top 23)) 0) "Heap.__init__" "methodrows.values" 362 189),
  (nat_lit 227, ⟨.type "dict", none, dctK P [("__module__", 423, .str "methodrows.values" 362), ("__firstlineno__", 427, .int 71 426), ("__init__", 434, .ref 190), ("put", 442, .ref 197), ("new_object", 451, .ref 204), ("new_array", 461, .ref 211), ("new_box", 469, .ref 218), ("object", 477, .ref 225), ("__static_attributes__", 479, .ref 226), ("__dict__", 481, .ref 229), ("__weakref__", 483, .ref 230), ("__doc__", 484, .none)] 4, #[]⟩),
  (nat_lit 228, ⟨.type "type", none, .cls { name := "Heap", bases := [.type "object"], mro := [.ref 228, .type "object"], ns := 227, qualname := "Heap", hasDict := true, slotNames := [], subclasses := [], abstract := false, collection := none, hasDel := false }, #[none, none, some (.str "Heap" 416), some (.str "Heap" 424), some (.builtin "object.__new__"), some (.bool true)]⟩),
  (nat_lit 524, codeO "reduced_along" "reduced_along" 873 351 2 519 520 (.ref 521) (.ref 522) (.ref 523) 885 886),
  (nat_lit 525, fnAtS (nthS top 77) "reduced_along" "methodrows.array_calls" 871 524),
  (nat_lit 531, codeO "running_row" "running_row" 888 362 2 526 527 (.ref 528) (.ref 529) (.ref 530) 897 898),
  (nat_lit 532, fnAtS (nthS top 78) "running_row" "methodrows.array_calls" 871 531),
  (nat_lit 545, codeO "spread_into" "spread_into" 908 368 2 540 541 (.ref 542) (.ref 543) (.ref 544) 915 916),
  (nat_lit 546, fnAtS (nthS top 80) "spread_into" "methodrows.array_calls" 871 545),
  (nat_lit 553, fnAtS (nthS top 81) "array_call_rows" "methodrows.array_calls" 871 552),
  (nat_lit 559, codeO "_law_forge" "_law_forge" 926 376 1 554 555 (.ref 556) (.ref 557) (.ref 558) 932 933),
  (nat_lit 560, fnAtS (nthS top 83) "_law_forge" "law_sf0041_01" 924 559),
  (nat_lit 586, fnAtS (nthS top 87) "_law_deed" "law_sf0041_01" 924 585),
  (nat_lit 614, codeO "law" "law" 996 443 1 611 612 .none .none (.ref 613) 999 1000),
  (nat_lit 615, fnAtS (nthS top 92) "law" "law_sf0041_01" 924 614)]
noncomputable def as1 : List Addr := [2, 3, 189, 190, 227, 228, 524, 525, 531, 532, 545, 546, 553, 559, 560, 586, 614, 615]
noncomputable def asK : List Addr := [2, 3, 29, 38, 39, 70, 71, 74, 75, 125, 126, 127, 128, 155, 171, 172, 227, 228, 403] ++ ([21, 36, 68, 82, 89, 96, 103, 110, 117, 124, 135, 142, 149, 154, 169, 190, 197, 204, 211, 218, 225, 239, 246, 253, 258, 265, 272, 279, 286, 291, 296, 303, 310, 317, 324, 331, 336, 341, 348, 355, 362, 369, 376, 383, 390, 397, 402, 410, 415, 422, 429, 436, 441, 448, 453, 458, 465, 470, 475, 482, 489, 496, 501, 506, 511, 518, 525, 532, 539, 546, 553, 560, 567, 574, 579, 586, 593, 600, 605, 610, 615] : List Addr).flatMap fun f => [f - 1, f]
noncomputable def pairAt {α : Type} (g : Addr → Option α) (a : Addr) : Option (Addr × α) := match g a with
  | some o => some (a, o)
  | none => none
noncomputable def Kof (h : Heap) : Frag := asK.filterMap (pairAt h.get?)
theorem lookup_of {α : Type} {l : List Addr} {g : Addr → Option α} {a : Addr} {o : α} (e : (l.filterMap (pairAt g)).lookup a = some o) : g a = some o := by
  induction l with
  | nil => exact nsx e
  | cons b l ih =>
    rw [List.filterMap_cons] at e
    cases q : g b with
    | none =>
      have z : pairAt g b = none := by unfold pairAt; rw [q]
      rw [z] at e; exact ih e
    | some x =>
      have z : pairAt g b = some (b, x) := by unfold pairAt; rw [q]
      rw [z] at e
      have e : (match a == b with | true => some x | false => (l.filterMap (pairAt g)).lookup a) = some o := e
      by_cases ab : a = b
      · rw [beq_iff_eq.mpr ab] at e; rw [ab, q]; exact e
      · rw [beq_eq_false_iff_ne.mpr ab] at e; exact ih e
theorem Kof_in (h : Heap) : (Kof h).In h := fun _ _ e => lookup_of (l := asK) e
noncomputable def obsK (K : Frag) := ((defNames.map (fdK K clT)), (constL.all (fun p => globV K p.1 p.2)), ((("Thing" : Str) :: topFns).all (globF K)), (blts.all (noMain K)), ((match nsIn K mainGlobals "PLAIN_KINDS" with | some (some (.ref a)) => Nat.beq a 155 | _ => false)), (dictIn K 155), (pkK (esOf K 155) pkL), ((esOf K 155).map (·.hash)), (heapFns.all (methK K)), (plainGet K heapC ""), (hasDictIn K heapC), ([("heap" : Str), "things", "call"].all (noAttr K heapC)), (plainGet K thingC ""), (hasDictIn K thingC), ([("kind" : Str), "fields", "sizes"].all (noAttr K thingC)), (addrK K "Thing"), (iniR K 169), (iniDfl K 169), (findIn K (.ref thingC) "__init__"), (isFn K (.ref 169)), (makesIn K thingC), (findIn K (.ref thingC) "__setattr__"), (overK K thingC), (takerIn K thingC "kind"), (takerIn K thingC "fields"), (takerIn K thingC "sizes"), (findIn K (.ref thrownC) "__getattribute__"), (findIn K (.ref thrownC) "__getattr__"), (hasDictIn K thrownC), (noAttr K thrownC "value"), (thrownK K), (globAt K "Thrown" thrownC), (globAt K "RowsError" rowsC), (noMain K "Exception"), (globF K "thrown_text"), (iniR K 68), (iniDfl K 68), (iniR K 36), (iniDfl K 36), (findIn K (.ref thrownC) "__init__"), (isFn K (.ref 68)), (specialIn K (.ref thrownC) "__call__"), (instIn K (.ref thrownC) (.type "type")), (findIn K (.ref thrownC) "__setattr__"), (overK K thrownC), (takerIn K thrownC "message"), (takerIn K thrownC "spot"), (takerIn K thrownC "value"), (mroIn K thrownC (.type "BaseException")), (mroIn K thrownC (.type "Exception")), (mroIn K thrownC (.ref thrownC)), (specialIn K (.ref rowsC) "__getattribute__"), (readsIn K rowsC (.type "type")), (findCls K (.ref rowsC) (.type "type") "__init__"), (findCls K (.type "Exception") (.type "type") "__init__"), (keepIn K (.ref 36)), (keepIn K (.ref thrownC)), (codeHdIn K 524 520), (codeHdIn K 531 527), (codeHdIn K 545 541), (noTabs K))
noncomputable def valK (P : PySem.Params) : type_of% (obsK []) := ((defNames.map defsT), (true), (true), (true), (true), (true), (true), (pkL.map fun p => PyData.keyHash P p.1), (true), (true), (true), (true), (true), (true), (true), (some thingC), ((findFD "__init__" (bodyOf "Thing" top)).map fun f => (f.params, f.body, f.names)), (some none), (some (some (.ref 169))), (true), (true), (some (some (.builtin "object.__setattr__"))), (true), (some none), (some none), (some none), (some (some (.builtin "BaseException.__getattribute__"))), (some none), (true), (true), (true), (true), (true), (true), (true), ((findFD "__init__" (bodyOf "Thrown" top)).map fun f => (f.params, f.body, f.names)), (some none), ((findFD "__init__" (bodyOf "RowsError" top)).map fun f => (f.params, f.body, f.names)), (some (some .none)), (some (some (.ref 68))), (true), (some (some (.builtin "type.__call__"))), (some true), (some (some (.builtin "object.__setattr__"))), (true), (some none), (some none), (some none), (some true), (some true), (some true), (some (some (.builtin "type.__getattribute__"))), (true), (some (.val (.ref 36))), (some (.val (.builtin "Exception.__init__"))), (true), (true), (true), (true), (true), (true))
theorem kok_of {K : Frag} {P : PySem.Params} (r0 : obsK K = valK P) : KOk K P ∧ noTabs K = true :=
  have r10 := congrArg (·.2.2.2.2.2.2.2.2.2.2) r0
  have r20 := congrArg (·.2.2.2.2.2.2.2.2.2.2) r10
  have r30 := congrArg (·.2.2.2.2.2.2.2.2.2.2) r20
  have r40 := congrArg (·.2.2.2.2.2.2.2.2.2.2) r30
  have r50 := congrArg (·.2.2.2.2.2.2.2.2.2.2) r40
  have r60 := congrArg (·.2.2.2.2.2.2.2.2.2.2) r50
  ⟨{ defs := congrArg (·.1) r0, consts := congrArg (·.2.1) r0, fns := congrArg (·.2.2.1) r0, noms := congrArg (·.2.2.2.1) r0, pk := congrArg (·.2.2.2.2.1) r0, pkD := congrArg (·.2.2.2.2.2.1) r0, pkE := congrArg (·.2.2.2.2.2.2.1) r0, pkH := congrArg (·.2.2.2.2.2.2.2.1) r0, meths := congrArg (·.2.2.2.2.2.2.2.2.1) r0, img := congrArg (·.2.2.2.2.2.2.2.2.2.1) r0, imgD := congrArg (·.1) r10, imgA := congrArg (·.2.1) r10, thing := congrArg (·.2.2.1) r10, thingD := congrArg (·.2.2.2.1) r10, thingA := congrArg (·.2.2.2.2.1) r10, thingAd := congrArg (·.2.2.2.2.2.1) r10, thingI := congrArg (·.2.2.2.2.2.2.1) r10, thingN := congrArg (·.2.2.2.2.2.2.2.1) r10, thingF := ⟨congrArg (·.2.2.2.2.2.2.2.2.1) r10, congrArg (·.2.2.2.2.2.2.2.2.2.1) r10, congrArg (·.1) r20⟩, thingS := ⟨congrArg (·.2.1) r20, congrArg (·.2.2.1) r20, congrArg (·.2.2.2.1) r20, congrArg (·.2.2.2.2.1) r20, congrArg (·.2.2.2.2.2.1) r20⟩, thrown := ⟨congrArg (·.2.2.2.2.2.2.1) r20, congrArg (·.2.2.2.2.2.2.2.1) r20⟩, thrownD := congrArg (·.2.2.2.2.2.2.2.2.1) r20, thrownA := congrArg (·.2.2.2.2.2.2.2.2.2.1) r20, thrownO := congrArg (·.1) r30, thrownM := ⟨congrArg (·.2.1) r30, congrArg (·.2.2.1) r30, congrArg (·.2.2.2.1) r30, congrArg (·.2.2.2.2.1) r30⟩, thrownI := congrArg (·.2.2.2.2.2.1) r30, thrownN := congrArg (·.2.2.2.2.2.2.1) r30, rowsI := congrArg (·.2.2.2.2.2.2.2.1) r30, rowsN := congrArg (·.2.2.2.2.2.2.2.2.1) r30, thrownF := ⟨congrArg (·.2.2.2.2.2.2.2.2.2.1) r30, congrArg (·.1) r40, congrArg (·.2.1) r40, congrArg (·.2.2.1) r40⟩, thrownS := ⟨congrArg (·.2.2.2.1) r40, congrArg (·.2.2.2.2.1) r40, congrArg (·.2.2.2.2.2.1) r40, congrArg (·.2.2.2.2.2.2.1) r40, congrArg (·.2.2.2.2.2.2.2.1) r40⟩, thrownB := ⟨congrArg (·.2.2.2.2.2.2.2.2.1) r40, congrArg (·.2.2.2.2.2.2.2.2.2.1) r40, congrArg (·.1) r50⟩, rowsG := ⟨congrArg (·.2.1) r50, congrArg (·.2.2.1) r50, congrArg (·.2.2.2.1) r50, congrArg (·.2.2.2.2.1) r50, congrArg (·.2.2.2.2.2.1) r50, congrArg (·.2.2.2.2.2.2.1) r50⟩, heads := ⟨congrArg (·.2.2.2.2.2.2.2.1) r50, congrArg (·.2.2.2.2.2.2.2.2.1) r50, congrArg (·.2.2.2.2.2.2.2.2.2.1) r50⟩ }, r60⟩
noncomputable def tb1 : List Addr := [541, 527, 520, 612]
theorem as1_ok : ∀ P, as1 = (K1 P).map (·.1) := fun _ => rfl
noncomputable abbrev says1 (w : World) (h : Heap) : Prop := (kmHook K1 as1 as1_ok [541, 527, 520, 612]).says w h ∧ ∃ K, KOk K w.params ∧ noTabs K = true ∧ K.In h
noncomputable def obs0 (s : Shared) := (kmHook K1 as1 as1_ok [541, 527, 520, 612]).obs s
noncomputable def val0 (w : World) := (kmHook K1 as1 as1_ok [541, 527, 520, 612]).val w
noncomputable def obs2 (s : Shared) := obsK (Kof s.heap)
noncomputable def getT (s : SharedT) (a : Addr) : Option Obj := match Nat.blt a s.n with
  | true => alive ((s.tree.get a).getD default)
  | false => none
theorem getT_eq (s : SharedT) : getT s = s.abs.heap.get? := funext fun a => by
  show _ = (absHeap s.tree s.n s.life).get? a
  unfold getT Heap.get?
  rw [absHeap_at]
  cases e : Nat.blt a s.n with
  | true =>
    rw [if_pos (show a < s.n from Nat.le_of_ble_eq_true e)]
    generalize (s.tree.get a).getD default = o
    obtain ⟨c, d, x, l⟩ := o
    cases x <;> rfl
  | false => rw [if_neg fun q : a < s.n => ftx (e.symm.trans (Nat.ble_eq_true_of_le q))]
noncomputable def obsT (s : SharedT) := obsK (asK.filterMap (pairAt (getT s)))
theorem obsT_eq (s : SharedT) : obsT s = obs2 s.abs := by unfold obsT obs2 Kof; rw [getT_eq]
noncomputable def obs1 (s : Shared) := (obs0 s, obs2 s)
noncomputable def val1 (w : World) := (val0 w, valK w.params)
theorem obs1_of (w : World) (s : Shared) (e : obs1 s = val1 w) : says1 w s.heap :=
  ⟨(kmHook K1 as1 as1_ok [541, 527, 520, 612]).of w s (congrArg Prod.fst e), Kof s.heap, (kok_of (congrArg Prod.snd e)).1, (kok_of (congrArg Prod.snd e)).2, Kof_in _⟩
theorem says1_keeps (w : World) (h h' : Heap) (x : says1 w h) (k : ∀ b o, h.get? b = some o → h'.get? b = some o) : says1 w h' :=
  ⟨(kmHook K1 as1 as1_ok [541, 527, 520, 612]).keeps w h h' x.1 k, let ⟨K, a, b, c⟩ := x.2; ⟨K, a, b, fun i o e => k i o (c i o e)⟩⟩
set_option maxHeartbeats 0 in
theorem run_f : ∀ w : World, (fun os => chk obs0 (World.withFollow w "special-get-raises" false) os) = fun _ => some (true, openGood vw looseL, val0 (World.withFollow w "special-get-raises" false)) := fun w => by kernel_rfl
set_option maxHeartbeats 0 in
theorem run_t : ∀ w : World, (fun os => chk obs0 (World.withFollow w "special-get-raises" true) os) = fun _ => some (true, openGood vw looseL, val0 (World.withFollow w "special-get-raises" true)) := fun w => by kernel_rfl
set_option maxHeartbeats 0 in
theorem run_fK : ∀ w : World, (fun os => chk2 obsT (World.withFollow w "special-get-raises" false) os) = fun _ => some (valK (World.withFollow w "special-get-raises" false).params) := fun w => by kernel_rfl
set_option maxHeartbeats 0 in
theorem run_tK : ∀ w : World, (fun os => chk2 obsT (World.withFollow w "special-get-raises" true) os) = fun _ => some (valK (World.withFollow w "special-get-raises" true).params) := fun w => by kernel_rfl
theorem run_all : ∀ w : World, (fun os => chk obs1 w os) = fun _ => some (true, openGood vw looseL, val1 w) := byRow2 "special-get-raises" (fun w => chk_and obsT_eq (run_f w) (run_fK w)) fun w => chk_and obsT_eq (run_t w) (run_tK w)
noncomputable def closL : List CloI := [⟨"reduced_along", 524, 520, ⟨355, 4, 0, 0⟩, "reduced_along.<locals>.put"⟩, ⟨"running_row", 531, 527, ⟨364, 27, 0, 0⟩, "running_row.<locals>.<lambda>"⟩, ⟨"spread_into", 545, 541, ⟨370, 4, 0, 0⟩, "spread_into.<locals>.stored"⟩]
inductive CbAt (C : Cy) (a : Addr) : Prop
  | mk (o : Obj) (fd : FuncData) (c : Addr) (oc : Obj) (vs : Array Value) (t : Tok) (c1 c2 : Addr) (o1 o2 : Obj) : C.h₀.get? a = some o → o.data = .func fd → o.cls = .type "function" → CloFn C.toCx "called_back" cbT fd → fd.code = .ref c → C.h₀.get? c = some oc → oc.data = .fields vs → vs[1]? = some (.str fd.qualname t) → fd.closure.Pairwise (fun x y => x.2 ≠ y.2) →
    fd.closure.lookup ("heard" : Str) = some c1 → C.h₀.get? c1 = some o1 → o1.data = .cell (some (.ref C.heard)) → fd.closure.lookup ("image" : Str) = some c2 → C.h₀.get? c2 = some o2 → o2.data = .cell (some (.ref C.img)) → CbAt C a
inductive ImgAt (C : Cy) : Prop
  | mk (oi : Obj) (d : Addr) (od : Obj) (a : Addr) : C.h₀.get? C.img = some oi → oi.cls = .ref heapC → notCls oi = true → oi.dict = some d → C.h₀.get? d = some od → lookIn "heap" od = some (some (.ref C.img)) → lookIn "things" od = some (some (.ref C.things)) → lookIn "call" od = some (some (.ref a)) → CbAt C a → (∀ x ∈ heapFns, lookIn x od = some none) → ImgAt C
structure Fd (C : Cy) (K : Frag) : Prop where
  kin : K.In C.h₀
  ok : KOk K C.w.params
  addr : C.addr = addrK K
  clos : C.clos = closL
  top : ∃ p loose mean mg mb, Top p loose mean mg mb C.h₀
  thing : C.thing = thingC
  thrown : C.thrown = thrownC
  img : ImgAt C
  seer : C.h₀.NoSeer
  tree : C.prog.given.tree = none
theorem VRd.of {C : Cx} {W : Wd} {h : Heap} {f : Str → Option Value} : ∀ {l : List (Str × V)}, (∀ p ∈ l, ∃ v, f p.1 = some v ∧ VR C W h p.2 v) → VRd C W h f l
  | [], _ => .nil
  | (x, d) :: l, H => by
    refine w6 (H _ (.head _)) fun v e r => ?_
    exact .cons e r (VRd.of fun p m => H p (.tail _ m))
theorem pk_each : ∀ {es : List DictEntry} {l : List (Str × V)}, pkK es l = true → (l.map (·.1)).Nodup → ∀ p ∈ l, ∃ y t, (es.find? fun e => Value.isStrOf p.1 e.key).map (·.val) = some (.str y t) ∧ p.2 = .str y
  | [], [], _, _, _, m => nomatch m
  | [], _ :: _, h, _, _, _ => by exact ftx h
  | _ :: _, [], h, _, _, _ => by exact ftx h
  | e :: es, (k, d) :: l, h, nd, p, m => by
    refine w8 (List.nodup_cons.mp nd) fun n1 n2 => ?_
    simp only [pkK, Bool.and_eq_true] at h
    refine w8 h fun zz1 h3 => ?_
    clear h
    obtain ⟨h1, h2⟩ := zz1
    split at h1
    · rename_i x t hx
      have ex := of_sq h1
      clear h1
      subst ex
      rcases mc m with rfl | m
      · split at h2
        · split at h2
          · rename_i v y t' hv
            have ey := of_sq h2
            clear h2 m n1 nd
            subst ey
            refine (x9 _ t' ?_ rfl)
            (refine rwm (List.find?_cons) ?_; refine rwm (hx) ?_)
            have : Value.isStrOf x (.str x t) = true := by simp [Value.isStrOf]
            refine rwm (this) ?_
            refine (?_ : some e.val = _)
            exact rwm (hv) rfl
          · exact ftx h2
        · exact ftx h2
      · refine x5 (pk_each h3 n2 p m) fun y t' e1 e2 => ?_
        refine (x9 y t' ?_ e2)
        (refine rwm (List.find?_cons) ?_; refine rwm (hx) ?_)
        have : Value.isStrOf p.1 (.str x t) = false := by
          simp only [Value.isStrOf]
          rw [beq_eq_false_iff_ne]
          intro q
          exact n1 (List.mem_map.mpr (w7 p m q.symm))
        refine rwm (this) ?_
        exact e1
    · exact ftx h1
theorem pk_hash {P : PySem.Params} : ∀ {es : List DictEntry} {l : List (Str × V)}, pkK es l = true → es.map (·.hash) = l.map (fun p => PyData.keyHash P p.1) → ∀ e ∈ es, ∃ x t, e.key = .str x t ∧ e.hash = PyData.keyHash P x
  | [], [], _, _, _, m => nomatch m
  | [], _ :: _, h, _, _, _ => by exact ftx h
  | _ :: _, [], h, _, _, _ => by exact ftx h
  | e :: es, (k, d) :: l, h, hh, e', m => by
    simp only [pkK, Bool.and_eq_true] at h
    refine w8 h fun zz1 h3 => ?_
    clear h
    obtain ⟨h1, h2⟩ := zz1
    refine w8 (List.cons.inj (show e.hash :: es.map (·.hash) = PyData.keyHash P k :: l.map (fun p => PyData.keyHash P p.1) from hh)) fun q1 q2 => ?_
    rcases mc m with rfl | m
    · split at h1
      · rename_i x t hx
        have ex := of_sq h1
        clear h1 hh
        subst ex
        exact (x9 _ _ hx q1)
      · exact ftx h1
    · exact pk_hash h3 q2 e' m
theorem findFD_mem {x : Str} {fd : FD} : ∀ {l : List Stmt}, findFD x l = some fd → x ∈ (l.filterMap defOf).map (·.1)
  | [], h => by exact nsx h
  | s :: r, h => by
    have h : (match defOf s with
      | some (n, fd) => match sq n x with
        | true => some fd
        | false => findFD x r
      | none => findFD x r) = some fd := h
    refine rwm (List.filterMap_cons) ?_
    induction hs : defOf s using Option.casesOn with
    | none => rw [hs] at h; exact findFD_mem h
    | some p =>
      obtain ⟨n, fd'⟩ := p
      rw [hs] at h
      have h : (match sq n x with | true => some fd' | false => findFD x r) = some fd := h
      refine rwm (List.map_cons) ?_
      induction hd : sq n x using Bool.casesOn with
      | true => refine rwl (of_sq hd) ?_; exact .head _
      | false => rw [hd] at h; exact .tail _ (findFD_mem h)
theorem addrV_some {K : Frag} {v : Option (Option Value)} {a : Addr} (h : addrV K v = some a) : v = some (some (.ref a)) ∧ keepIn K (.ref a) = true := by
  unfold addrV at h
  split at h
  · split at h
    · rename_i hk; cases h; exact ⟨rfl, hk⟩
    · exact nsx h
  · exact nsx h
theorem addrK_keep {K : Frag} {x : Str} {a : Addr} (h : addrK K x = some a) : keepIn K (.ref a) = true := by
  unfold addrK at h
  split at h
  · exact (addrV_some h).2
  · exact (addrV_some h).2
section
variable {C : Cy} {K : Frag} {W : Wd} {s : Shared} {σ : St} {A : Around} {E : Value → Shared → Prop} {env : Env}
theorem load_main (D : Fd C K) {x : Str} {v : Value} {Q : Value → Shared → Prop} (e : nsIn K mainGlobals x = some (some v)) (R : StR C W σ s) (hk : env.scope.kind = .function) (hx : env.kindOf x = some .globalImplicit) (hg : env.globals = mainGlobals) (q : Q v s) : wpAny C.M A (loadName env x) Q E s := by
  refine W9 (D.top) fun p loose mean mg mb T => ?_
  refine rwm (loadName_read hk hx) ?_
  exact PySem.Calls.loadGlobal_global (mg := mg) (by refine rwm (hg) ?_; exact T.g.keeps R.ground) (mg_of D.kin T.g e) q
theorem load_blt (D : Fd C K) {x : Str} {v : Value} {Q : Value → Shared → Prop} (e : nsIn K mainGlobals x = some none) (hn : x ≠ "__name__") (hv : bootBuiltins x = some v) (R : StR C W σ s) (hk : env.scope.kind = .function) (hx : env.kindOf x = some .globalImplicit) (hg : env.globals = mainGlobals) (hb : env.builtins = builtinsNs) (q : Q v s) :
    wpAny C.M A (loadName env x) Q E s := by
  refine W9 (D.top) fun p loose mean mg mb T => ?_
  refine rwm (loadName_read hk hx) ?_
  exact PySem.Calls.loadGlobal_builtin (mg := mg) (mb := mb) (by refine rwm (hg) ?_; exact T.g.keeps R.ground) (mg_none_of D.kin T.g e) (by refine rwm (hb) ?_; exact T.b.keeps R.ground) ((T.builtins x hn).trans hv) q
theorem noMain_ok (D : Fd C K) {x : Str} (m : x ∈ blts) : nsIn K mainGlobals x = some none := by
  have := List.all_eq_true.mp D.ok.noms x m
  unfold noMain at this
  rw [nsQ_eq] at this
  split at this
  · assumption
  · exact ftx this
theorem globF_ok (D : Fd C K) {x : Str} (m : x ∈ (("Thing" : Str) :: topFns)) : ∃ a, nsIn K mainGlobals x = some (some (.ref a)) ∧ C.addr x = some a := by
  have := List.all_eq_true.mp D.ok.fns x m
  unfold globF at this
  rw [nsQ_eq] at this
  split at this
  · rename_i a e
    split at this
    · rename_i b e2
      have q := Nat.eq_of_beq_eq_true this
      clear this
      subst q
      exact (w7 _ e (by refine rwm (D.addr) ?_; exact e2))
    · exact ftx this
  · exact ftx this
theorem look_in {x : Str} {v : V} : ∀ {l : List (Str × V)}, look x l = some v → (x, v) ∈ l
  | [], h => by exact nsx h
  | (y, w) :: r, h => by
    rw [look_cons] at h
    by_cases q : x = y
    · rw [if_pos q] at h; cases h; subst q; exact .head _
    · rw [if_neg q] at h; exact .tail _ (look_in h)
theorem globC_ok (D : Fd C K) (R : StR C W σ s) {x : Str} {d : V} (m : (x, d) ∈ constL) : ∃ v, nsIn K mainGlobals x = some (some v) ∧ VR C.toCx W s.heap d v := by
  have := List.all_eq_true.mp D.ok.consts (x, d) m
  unfold globV at this
  rw [nsQ_eq] at this
  split at this
  · rename_i v e; exact (w7 v e (vrK_ok D.kin R this))
  · exact ftx this
theorem glob_ok (D : Fd C K) {x : Str} {d : V} (h : globT x = some d) {Q : Value → Shared → Prop} (R : StR C W σ s) (hk : env.scope.kind = .function) (hx : env.kindOf x = some .globalImplicit) (hg : env.globals = mainGlobals) (hb : env.builtins = builtinsNs)
    (q : ∀ v', VR C.toCx W s.heap d v' → Q v' s) : wpAny C.M A (loadName env x) Q E s := by
  unfold globT at h
  split at h
  · rename_i fd hf
    (revert h; refine sm_r fun zz => ?_; subst zz)
    refine w6 (globF_ok D (.tail _ (findFD_mem hf))) fun a e1 e2 => ?_
    exact load_main D e1 R hk hx hg (q _ (.fn e2))
  · have m := look_in h
    simp only [List.mem_cons, List.not_mem_nil, or_false, Prod.mk.injEq] at m
    clear h
    rcases m with ⟨rfl, rfl⟩ | ⟨rfl, rfl⟩ | ⟨rfl, rfl⟩ | ⟨rfl, rfl⟩ | ⟨rfl, rfl⟩ | ⟨rfl, rfl⟩ | ⟨rfl, rfl⟩ | ⟨rfl, rfl⟩ | ⟨rfl, rfl⟩ | ⟨rfl, rfl⟩ | ⟨rfl, rfl⟩
    · exact load_blt D (noMain_ok D (by simp [blts])) (by decide +kernel) (by rfl) R hk hx hg hb (q _ (.con _ (.inr (w7 _ rfl (by decide +kernel)))))
    · exact load_blt D (noMain_ok D (by simp [blts])) (by decide +kernel) (by rfl) R hk hx hg hb (q _ (.con _ (.inl ⟨_, rfl⟩)))
    · exact load_blt D (noMain_ok D (by simp [blts])) (by decide +kernel) (by rfl) R hk hx hg hb (q _ (.con _ (.inl ⟨_, rfl⟩)))
    · exact load_blt D (noMain_ok D (by simp [blts])) (by decide +kernel) (by rfl) R hk hx hg hb (q _ (.con _ (.inr (w7 _ rfl (by decide +kernel)))))
    · exact load_blt D (noMain_ok D (by simp [blts])) (by decide +kernel) (by rfl) R hk hx hg hb (q _ (.con _ (.inl ⟨_, rfl⟩)))
    · refine w6 (globF_ok D (.head _)) fun a e1 e2 => ?_
      exact load_main D e1 R hk hx hg (q _ (.fn e2))
    · refine w6 (globC_ok D R (x := "MOST_ITEMS") (.head _)) fun v e r => ?_
      exact load_main D e R hk hx hg (q _ r)
    · refine w6 (globC_ok D R (x := "NOTHING") (.tail _ (.head _))) fun v e r => ?_
      exact load_main D e R hk hx hg (q _ r)
    · refine w6 (globC_ok D R (x := "ANY") (.tail _ (.tail _ (.head _)))) fun v e r => ?_
      exact load_main D e R hk hx hg (q _ r)
    · refine w6 (globC_ok D R (x := "RANGES") (.tail _ (.tail _ (.tail _ (.head _))))) fun v e r => ?_
      exact load_main D e R hk hx hg (q _ r)
    · have e1 := D.ok.pk
      split at e1
      · rename_i a e2
        have q' := Nat.eq_of_beq_eq_true e1
        clear e1
        subst q'
        have hd := D.ok.pkD
        refine bd_e3 (getD_true hd) fun t es sl hk0 hd => ?_
        obtain ⟨n, hk'⟩ := view_some hk0
        · replace hd := Option.some.inj hd
          simp only [Bool.and_eq_true] at hd
          refine w8 hd fun h1 h2 => ?_
          clear hd
          have e3 := of_decide_eq_true h1
          have e4 := Array.eq_empty_of_size_eq_zero (Nat.eq_of_beq_eq_true h2)
          clear h1 h2
          subst e3 e4
          have ees : esOf K 155 = es.toList := by unfold esOf; exact rwm (hk') rfl
          have pe := D.ok.pkE
          have ph := D.ok.pkH
          rw [ees] at pe ph
          refine W2 (pk_find pe) fun _ _ p3 => ?_
          have fnd : ∀ x, findBy Value.isStrOf es x = (es.toList.find? fun e => Value.isStrOf x e.key).map (·.val) := fun x => by
            unfold findBy; exact rwl (Array.find?_toList) rfl
          refine load_main D e2 R hk hx hg (q _ (.dct (f := fun k => findBy Value.isStrOf es k) (w7 _ (ground_fz D.kin R hk' rfl) (fun h' e => (Y4 _ es n e ⟨rfl, rfl, rfl⟩ rfl (fun e he => ?_) (fun _ => rfl)))) (by decide) (fun x => ?_) (VRd.of fun p m => ?_)))
          · refine x5 (pk_hash pe ph e (Array.mem_toList_iff.mpr he)) fun x t e1 e2 => ?_
            exact (w7 x (by refine rwm (e1) ?_; exact strKind_is C.prog C.w x t) e2)
          · show (findBy Value.isStrOf es x).isSome = _
            refine rwm (fnd x) ?_; exact p3 x
          · refine x5 (pk_each pe (by decide +kernel) p m) fun y t e1 e2 => ?_
            refine (w7 (.str y t) ?_ (by refine rwm (e2) ?_; exact .str _ _))
            refine (?_ : findBy Value.isStrOf es p.1 = _)
            refine rwm (fnd ..) ?_; exact e1
      · exact ftx e1
theorem noAttr_ok {c : Addr} {x : Str} {l : List Str} (h : l.all (noAttr K c) = true) (m : x ∈ l) : findIn K (.ref c) x = some none := by
  have := List.all_eq_true.mp h x m
  unfold noAttr at this
  split at this
  · assumption
  · exact ftx this
theorem cb_vr (D : Fd C K) (R : StR C W σ s) {a : Addr} (B : CbAt C a) (e1 : W.adr[1]? = some C.things) (e2 : W.adr[2]? = some C.heard) : VR C.toCx W s.heap (.clo "called_back" cbT [("heard", .lst 2), ("image", .img)]) (.ref a) := by
  obtain ⟨o, fd, c, oc, vs, t, c1, c2, o1, o2, z1, z2, z3, z4, z5, z6, z7, z8, z9, y1, y2, y3, y4, y5, y6⟩ := B
  have fz : ∀ {b : Addr} {o : Obj}, C.h₀.get? b = some o → isIter o = false → Fz W s.heap b o := fun e i => ⟨R.ground _ _ e, fun m => (by have := R.fresh _ m; rw [e] at this; exact snx this), i⟩
  refine .clo ⟨o, fd, c, oc, vs, t, fz z1 (by unfold isIter; refine rwm (z3) ?_; rfl), z2, z3, z4, rfl, z5, fz z6 (isIter_code z7 z8), z7, z8, z9⟩ (.cons y1 (w7 o1 (fz y2 (isIter_cell y3)) y3) (.lst e2) (.cons y4 (w7 o2 (fz y5 (isIter_cell y6)) y6) (.img e1 e2) .nil))
theorem inst_get (D : Fd C K) (R : StR C W σ s) {x c d : Addr} {ox od : Obj} {name : Str} {v : Value} {expr : Bool} {Q : Value → Shared → Prop} (hx : s.heap.get? x = some ox) (hc : ox.cls = .ref c) (hn : notCls ox = true) (hd : ox.dict = some d) (hod : s.heap.get? d = some od)
    (hg : plainGet K c "" = true) (hh : hasDictIn K c = true) (ha : findIn K (.ref c) name = some none) (hl : lookIn name od = some (some v)) (hv : handedIn v = true) (q : Q v { s with toks := s.toks + 1 }) : wpAny C.M A (getAttr (.ref x) name expr) Q E s := by
  have I : InstAt s.heap x ox c (some od) := ⟨hx, hc, hn, by refine rwm (hd) ?_; exact hod⟩
  exact get_value (D.kin.keeps R.ground) I (plainGet_of hg).1 (findObj_own hh ha rfl hl) hv q
theorem VR.handed {C : Cx} {W : Wd} {h : Heap} {d : V} {v : Value} (x : VR C W h d v) : handedIn v = true := by
  induction x using VR.casesOn with
  | con c hc =>
    rcases hc with ⟨t, rfl⟩ | ⟨b, rfl, h⟩
    · rfl
    · exact h
  | any v h => exact h.2
  | _ => rfl
theorem attr_leaf (D : Fd C K) {o : V} {a : Str} {v : V} (h : attrOf text o a = some v) (R : StR C W σ s) {vo : Value} (xo : VR C.toCx W s.heap o vo) {expr : Bool} {Q : Value → Shared → Prop} (q : ∀ v' tk, VR C.toCx W s.heap v v' → Q v' { s with toks := tk }) : wpAny C.M A (getAttr vo a expr) Q E s := by
  induction o using V.casesOn with
  | img =>
    replace xo := xo.inv
    refine W2 xo fun e1 e2 zz1 => ?_
    clear xo
    subst zz1
    obtain ⟨oi, d, od, ac, i1, i2, i3, i4, i5, i6, i7, i8, i9, i10⟩ := D.img
    have h : (match sq a "heap" with
      | true => some V.img
      | false => match sq a "things" with
        | true => some (.lst 1)
        | false => match sq a "call" with
          | true => some (.clo "called_back" cbT [("heard", .lst 2), ("image", .img)])
          | false => none) = some v := h
    induction h1 : sq a "heap" using Bool.casesOn with
    | true =>
      rw [h1] at h; (revert h; refine sm_r fun zz => ?_; subst zz)
      have e := of_sq h1
      clear h1
      subst e
      exact inst_get D R (R.ground _ _ i1) i2 i3 i4 (R.ground _ _ i5) D.ok.img D.ok.imgD (noAttr_ok D.ok.imgA (.head _)) i6 rfl (q _ _ (.img e1 e2))
    | false =>
      rw [h1] at h
      induction h2 : sq a "things" using Bool.casesOn with
      | true =>
        rw [h2] at h; (revert h; refine sm_r fun zz => ?_; subst zz)
        have e := of_sq h2
        clear h1 h2
        subst e
        exact inst_get D R (R.ground _ _ i1) i2 i3 i4 (R.ground _ _ i5) D.ok.img D.ok.imgD (noAttr_ok D.ok.imgA (.tail _ (.head _))) i7 rfl (q _ _ (.lst e1))
      | false =>
        rw [h2] at h
        induction h3 : sq a "call" using Bool.casesOn with
        | true =>
          rw [h3] at h; (revert h; refine sm_r fun zz => ?_; subst zz)
          have e := of_sq h3
          clear h1 h2 h3
          subst e
          exact inst_get D R (R.ground _ _ i1) i2 i3 i4 (R.ground _ _ i5) D.ok.img D.ok.imgD (noAttr_ok D.ok.imgA (.tail _ (.tail _ (.head _)))) i8 rfl (q _ _ (cb_vr D R i9 e1 e2))
        | false => rw [h3] at h; exact nsx h
  | thing k f z =>
    replace xo := xo.inv
    obtain ⟨_, _, _, _, t, xk, xf, xz, rfl⟩ := xo
    obtain ⟨ox, d, od, t1, t2, t3, t4, t5, t6, t7, t8⟩ := t
    rw [D.thing] at t2
    have h : (match sq a "kind" with
      | true => some k
      | false => match sq a "fields" with
        | true => some f
        | false => match sq a "sizes" with
          | true => some z
          | false => none) = some v := h
    induction h1 : sq a "kind" using Bool.casesOn with
    | true =>
      rw [h1] at h; cases h
      have e := of_sq h1
      clear h h1
      subst e
      exact inst_get D R t1.1 t2 t3 t4 t5.1 D.ok.thing D.ok.thingD (noAttr_ok D.ok.thingA (.head _)) t6 xk.handed (q _ _ xk)
    | false =>
      rw [h1] at h
      induction h2 : sq a "fields" using Bool.casesOn with
      | true =>
        rw [h2] at h; cases h
        have e := of_sq h2
        clear h h1 h2
        subst e
        exact inst_get D R t1.1 t2 t3 t4 t5.1 D.ok.thing D.ok.thingD (noAttr_ok D.ok.thingA (.tail _ (.head _))) t7 xf.handed (q _ _ xf)
      | false =>
        rw [h2] at h
        induction h3 : sq a "sizes" using Bool.casesOn with
        | true =>
          rw [h3] at h; cases h
          have e := of_sq h3
          clear h h1 h2 h3
          subst e
          exact inst_get D R t1.1 t2 t3 t4 t5.1 D.ok.thing D.ok.thingD (noAttr_ok D.ok.thingA (.tail _ (.tail _ (.head _)))) t8 xz.handed (q _ _ xz)
        | false => rw [h3] at h; exact nsx h
  | _ => exact nsx h
theorem meth_leaf (D : Fd C K) {o : V} {a : Str} {f : V} {first : List V} (h : methOf text o a = some (f, first)) (R : StR C W σ s) {vo : Value} (xo : VR C.toCx W s.heap o vo) {pl : Sem Bool} {Q : Value × List Value → Shared → Prop}
    (q : ∀ vf vfs tk, VR C.toCx W s.heap f vf → VRs C.toCx W s.heap first vfs → Q (vf, vfs) { s with toks := tk }) : wpAny C.M A (getMethod vo a pl) Q E s := by
  induction o using V.casesOn with
  | img =>
    have xo' := xo
    replace xo := xo.inv
    refine W2 xo fun e1 e2 zz1 => ?_
    clear xo
    subst zz1
    obtain ⟨oi, d, od, ac, i1, i2, i3, i4, i5, i6, i7, i8, i9, i10⟩ := D.img
    have I : InstAt s.heap C.img oi heapC (some od) := ⟨R.ground _ _ i1, i2, i3, by refine rwm (i4) ?_; exact R.ground _ _ i5⟩
    have h : (match methT a with
      | some f => some (V.fn f, [V.img])
      | none => bd (attrOf text .img a) fun f => some (f, [])) = some (f, first) := h
    induction hm : methT a using Option.casesOn with
    | some g =>
      rw [hm] at h; (revert q; (first | refine sp3_g h ?_ | refine sp_g h ?_); intro q)
      unfold methT at hm
      split at hm
      · rename_i fd hf
        (revert hm; refine sm_r fun zz => ?_; clear h; subst zz)
        have m := findFD_mem hf
        have := List.all_eq_true.mp D.ok.meths a m
        unfold methK at this
        split at this
        · rename_i b hb
          refine w8 (Bool.and_eq_true_iff.mp this) fun t1 t2 => ?_
          split at t2
          · rename_i b' hb'
            have e := Nat.eq_of_beq_eq_true t2
            clear t2
            subst e
            refine method_fn (D.kin.keeps R.ground) I (plainGet_of D.ok.img).1 (plainGet_of D.ok.img).2 hb (beq_iff_eq.mp t1) ?_ (q _ _ s.toks (.fn (by refine rwm (D.addr) ?_; exact hb')) (.cons xo' .nil))
            refine (?_ : (lookIn a od).map _ = _)
            refine rwm (i10 a m) ?_; rfl
          · exact ftx t2
        · exact ftx this
      · exact nsx hm
    | none =>
      rw [hm] at h
      refine bd_e h fun v h1 h2 => ?_
      clear h
      cases h2
      have hna : a ∈ [("heap" : Str), "things", "call"] := by
        by_cases q1 : a = "heap"
        · refine rwm (q1) ?_; exact .head _
        · by_cases q2 : a = "things"
          · refine rwm (q2) ?_; exact .tail _ (.head _)
          · by_cases q3 : a = "call"
            · refine rwm (q3) ?_; exact .tail _ (.tail _ (.head _))
            · have h1 : (match sq a "heap" with
                | true => some V.img
                | false => match sq a "things" with
                  | true => some (.lst 1)
                  | false => match sq a "call" with
                    | true => some (.clo "called_back" cbT [("heard", .lst 2), ("image", .img)])
                    | false => none) = some f := h1
              rw [sq_f q1, sq_f q2, sq_f q3] at h1
              exact nsx h1
      refine method_usual (r := none) (D.kin.keeps R.ground) I (plainGet_of D.ok.img).1 (plainGet_of D.ok.img).2 (noAttr_ok D.ok.imgA hna) rfl ?_
      exact attr_leaf D h1 R xo' fun v' tk x => q _ _ tk x .nil
  | _ => exact nsx h
theorem gr_ok (D : Fd C K) : Gr C text where
  kept e h g := keeps_K (addrK_keep (by refine rwl (D.addr) ?_; exact e)) h (D.kin.keeps g)
  meth h _ _ _ _ _ _ _ _ R xo q := meth_leaf D h R xo q
  types hx _ _ _ _ _ _ _ R hk hx' hg hb q := by
    rcases hx with ⟨rfl, rfl⟩ | ⟨rfl, rfl⟩ | ⟨rfl, rfl⟩
    · exact load_blt D (noMain_ok D (by simp [blts])) (by decide +kernel) (by rfl) R hk hx' hg hb q
    · exact load_blt D (noMain_ok D (by simp [blts])) (by decide +kernel) (by rfl) R hk hx' hg hb q
    · exact load_blt D (noMain_ok D (by simp [blts])) (by decide +kernel) (by rfl) R hk hx' hg hb q
  sys := by
    refine W9 (D.top) fun p loose mean mg mb T => ?_
    refine y9 (T.g) fun o _ _ e _ => ?_
    exact ⟨o, e⟩
  glob h _ _ _ _ _ _ _ R hk hx hg hb q := glob_ok D h R hk hx hg hb q
  attr h _ _ _ _ _ _ _ R xo q := attr_leaf D h R xo q
theorem closL_map : closL.map (fun k => (k.fn, k.code)) = clT := rfl
theorem defs_leaf (D : Fd C K) {x : Str} {fd : FD} (h : defsT x = some fd) : fdK K (C.clos.map fun k => (k.fn, k.code)) x = some fd := by
  have m : x ∈ defNames := by
    unfold defNames
    refine rwm (List.map_append) ?_
    unfold defsT at h
    split at h
    · rename_i fd' hf; exact List.mem_append.mpr (.inl (findFD_mem hf))
    · exact List.mem_append.mpr (.inr (findFD_mem h))
  have e := List.map_inj_left.mp D.ok.defs x m
  (refine rwm (D.clos) ?_; refine rwm (closL_map) ?_; refine rwm (e) ?_)
  exact h
theorem madeT_some {f m : Str} {l c : Nat} (h : madeT f = some (m, l, c)) : (f = "reduced_along" ∧ m = "put" ∧ l = 355 ∧ c = 4) ∨ (f = "running_row" ∧ m = "<lambda>" ∧ l = 364 ∧ c = 27) ∨ (f = "spread_into" ∧ m = "stored" ∧ l = 370 ∧ c = 4) := by
  have e1 : madeT "reduced_along" = some (("put" : Str), 355, 4) := by kernel_rfl
  have e2 : madeT "running_row" = some (("<lambda>" : Str), 364, 27) := by kernel_rfl
  have e3 : madeT "spread_into" = some (("stored" : Str), 370, 4) := by kernel_rfl
  by_cases q1 : f = "reduced_along"
  · subst q1; rw [e1] at h; (first | (obtain ⟨rfl, rfl, rfl⟩ := sp3 h) | (obtain ⟨rfl, rfl⟩ := sp h) | cases h); exact .inl (X9 rfl rfl rfl rfl)
  · by_cases q2 : f = "running_row"
    · clear q1
      subst q2; rw [e2] at h; (first | (obtain ⟨rfl, rfl, rfl⟩ := sp3 h) | (obtain ⟨rfl, rfl⟩ := sp h) | cases h); exact .inr (.inl (X9 rfl rfl rfl rfl))
    · by_cases q3 : f = "spread_into"
      · clear q1 q2
        subst q3; rw [e3] at h; (first | (obtain ⟨rfl, rfl, rfl⟩ := sp3 h) | (obtain ⟨rfl, rfl⟩ := sp h) | cases h); exact .inr (.inr (X9 rfl rfl rfl rfl))
      · unfold madeT at h
        rw [sq_f q1, sq_f q2, sq_f q3] at h
        exact nsx h
theorem gm_ok (D : Fd C K) : Gm C text where
  made h := by
    have hf : C.fns = [("reduced_along" : Str), "running_row", "spread_into"] := by (refine rwm (C.fnsEq) ?_; refine rwm (D.clos) ?_); rfl
    (refine rwm (hf) ?_; refine rwm (D.clos) ?_)
    rcases madeT_some h with ⟨rfl, rfl, rfl, rfl⟩ | ⟨rfl, rfl, rfl, rfl⟩ | ⟨rfl, rfl, rfl, rfl⟩
    · exact (wi2 (by decide +kernel) _ (.head _) rfl rfl rfl (by decide +kernel))
    · exact (wi2 (by decide +kernel) _ (.tail _ (.head _)) rfl rfl rfl (by decide +kernel))
    · exact (wi2 (by decide +kernel) _ (.tail _ (.tail _ (.head _))) rfl rfl rfl (by decide +kernel))
  head k m := by
    rw [D.clos] at m
    refine W2 (D.ok.heads) fun h1 h2 h3 => ?_
    simp only [closL, List.mem_cons, List.not_mem_nil, or_false] at m
    rcases m with rfl | rfl | rfl
    · exact codeHd_of_K D.kin h1
    · exact codeHd_of_K D.kin h2
    · exact codeHd_of_K D.kin h3
  uniq k m k' m' e := by
    rw [D.clos] at m m'
    simp only [closL, List.mem_cons, List.not_mem_nil, or_false] at m m'
    rcases m with rfl | rfl | rfl <;> rcases m' with rfl | rfl | rfl <;> first | rfl | exact absurd e (by decide)
  glob := by
    refine W9 (D.top) fun p loose mean mg mb T => ?_
    refine Z8 (T.bmain) fun bm ob b1 b2 b3 b4 b5 b6 => ?_
    exact ⟨mg, bm, ob, T.g, b1, b2, b3, b4, b5, b6⟩
end
noncomputable def spark_fdB (pp : Nat → Pos) (kk : Nat → Nat) : List Stmt := [.If (.Compare (.Subscript (.Name "forge" (pp 0)) (.Constant (.int 0) (kk 0) (pp 1)) (pp 2)) [.Gt] [(.Constant (.int 0) (kk 1) (pp 3))] (pp 4)) [.Assign [(.Name "glow" (pp 5))] (.BinOp (.Subscript (.Name "forge" (pp 6)) (.Constant (.int 0) (kk 2) (pp 7)) (pp 8)) .Mod (.Name "many" (pp 9)) (pp 10)) (pp 11), .Assign [(.Subscript (.Name "forge" (pp 12)) (.Constant (.int 0) (kk 3) (pp 13)) (pp 14))] (.BinOp (.Subscript (.Name "forge" (pp 15)) (.Constant (.int 0) (kk 4) (pp 16)) (pp 17)) .FloorDiv (.Name "many" (pp 18)) (pp 19)) (pp 20), .Return (some (.Name "glow" (pp 21))) (pp 22)] [] (pp 23), .Assign [(.Subscript (.Name "forge" (pp 24)) (.Constant (.int 1) (kk 5) (pp 25)) (pp 26))] (.BinOp (.BinOp (.BinOp (.Subscript (.Name "forge" (pp 27)) (.Constant (.int 1) (kk 6) (pp 28)) (pp 29)) .Mult (.Constant (.int 307) (kk 7) (pp 30)) (pp 31)) .Add (.Constant (.int 7013) (kk 8) (pp 32)) (pp 33)) .Mod (.Constant (.int 65293) (kk 9) (pp 34)) (pp 35)) (pp 36), .Return (some (.BinOp (.BinOp (.Subscript (.Name "forge" (pp 37)) (.Constant (.int 1) (kk 10) (pp 38)) (pp 39)) .FloorDiv (.Constant (.int 8) (kk 11) (pp 40)) (pp 41)) .Mod (.Name "many" (pp 42)) (pp 43))) (pp 44)]
theorem spark_fd : ∃ (pp : Nat → Pos) (kk : Nat → Nat), defsT "_law_spark" = some ⟨["forge", "many"], [], .stmts (spark_fdB pp kk), [("forge", .local), ("many", .local), ("glow", .local)]⟩ := (x7 (fun n => [_, _, _, _, _, _, _, _, _, _, _, _, _, _, _, _, _, _, _, _, _, _, _, _, _, _, _, _, _, _, _, _, _, _, _, _, _, _, _, _, _, _, _, _, _].getD n default) (fun n => [_, _, _, _, _, _, _, _, _, _, _, _].getD n 0) rfl)
theorem spark_fd0 : ∃ b, defsT "_law_spark" = some ⟨["forge", "many"], [], .stmts b, [("forge", .local), ("many", .local), ("glow", .local)]⟩ := let ⟨_, _, e⟩ := spark_fd; ⟨_, e⟩
structure SpAt (env : Env) (l : Addr) (k x y : Int) (g : Option Value) (s₀ s : Shared) : Prop where
  ns : ∃ m tk, s.heap.Ns env.locals m ∧ m "forge" = some (.ref l) ∧ m "many" = some (.int k tk) ∧ ∀ v, g = some v → m "glow" = some v
  ls : ∃ t u, PlainL s.heap l #[.int x t, .int y u]
  kp : ∀ b o, b ≠ env.locals → b ≠ l → s₀.heap.get? b = some o → s.heap.get? b = some o
  sm : ∃ h tk, s = { s₀ with heap := h, toks := tk }
  nl : l ≠ env.locals
section
variable {C : Cy} {A : Around} {E : Value → Shared → Prop} {env : Env} {l : Addr} {k x y : Int} {g : Option Value} {s₀ s : Shared}
theorem SpAt.tok (S : SpAt env l k x y g s₀ s) (tk : Nat) : SpAt env l k x y g s₀ { s with toks := tk } := by
  refine w9 (S.sm) fun h t zz1 => ?_
  subst zz1
  exact ⟨S.ns, S.ls, S.kp, (x7 h tk rfl), S.nl⟩
theorem sp_item (S : SpAt env l k x y g s₀ s) (hk : env.scope.kind = .function) (kf : env.kindOf "forge" = some .local) {i : Int} {p1 p2 p3 : Pos} {kd : Nat} {v : Int} {Q : Value → Shared → Prop} (hi : (i = 0 ∧ v = x) ∨ (i = 1 ∧ v = y))
    (q : ∀ t tk, Q (.int v t) { s with toks := tk }) : wpAny C.M A (eval (.Subscript (.Name "forge" p1) (.Constant (.int i) kd p2) p3) env) Q E s := by
  refine x8 (S.ns) fun m tk hn h1 h2 h3 => ?_
  refine w9 (S.ls) fun t u pl => ?_
  refine Subscript_ (wpAny_Name (wpAny_loadName_local hk kf hn h1 ?_) (by decide +kernel))
  refine wpAny_Constant_int ?_
  refine tail_any (T := "list") pl.isList.typeIs PySem.slot_list_getitem.lookup ?_ (by with_unfolding_all rfl)
  clear S
  rcases hi with ⟨rfl, rfl⟩ | ⟨rfl, rfl⟩
  · exact wpAny_getItem_list pl.isList (by decide) (by decide) (by rfl) (q _ _)
  · exact wpAny_getItem_list pl.isList (by decide) (by decide) (by rfl) (q _ _)
theorem sp_many (S : SpAt env l k x y g s₀ s) (hk : env.scope.kind = .function) (km : env.kindOf "many" = some .local) {p1 : Pos} {Q : Value → Shared → Prop} (q : ∀ t, Q (.int k t) s) : wpAny C.M A (eval (.Name "many" p1) env) Q E s := by
  refine x8 (S.ns) fun m tk hn h1 h2 h3 => ?_
  exact wpAny_Name (wpAny_loadName_local hk km hn h2 (q _)) (by decide +kernel)
theorem sp_put (S : SpAt env l k x y g s₀ s) {i : Int} {ti : Tok} {v x' y' : Int} {t : Tok} {Q : Unit → Shared → Prop} (hi : (i = 0 ∧ x' = v ∧ y' = y) ∨ (i = 1 ∧ x' = x ∧ y' = v)) (q : ∀ h', SpAt env l k x' y' g s₀ { s with heap := h' } → Q () { s with heap := h' }) :
    wpAny C.M A (setItem (.ref l) (.int i ti) (.int v t)) Q E s := by
  refine x8 (S.ns) fun m tk hn h1 h2 h3 => ?_
  refine w9 (S.ls) fun t1 u1 pl => ?_
  refine Mine.set_plain pl (by rcases hi with ⟨rfl, _⟩ | ⟨rfl, _⟩ <;> decide) (by rcases hi with ⟨rfl, _⟩ | ⟨rfl, _⟩ <;> decide) (by rcases hi with ⟨rfl, _⟩ | ⟨rfl, _⟩; exact (by decide : (0 : Int) < ((2 : Nat) : Int)); exact (by decide : (1 : Int) < ((2 : Nat) : Int))) fun h' ph sb => q h' ⟨(y8 m tk (hn.sameBut sb (Ne.symm S.nl)) h1 h2 h3), ?_, fun b o n1 n2 e => (sb.2 b n2).trans (S.kp b o n1 n2 e), ?_, S.nl⟩
  · clear S pl
    rcases hi with ⟨rfl, rfl, rfl⟩ | ⟨rfl, rfl, rfl⟩
    · exact (x7 t u1 ph)
    · exact (x7 t1 t ph)
  · (refine w9 (S.sm) fun h tk zz1 => ?_; clear S hn pl q sb; subst zz1)
    exact (x7 h' tk rfl)
theorem sp_glow (S : SpAt env l k x y g s₀ s) (hk : env.scope.kind = .function) (kg : env.kindOf "glow" = some .local) {v : Value} {Q : Unit → Shared → Prop} (q : ∀ s', SpAt env l k x y (some v) s₀ s' → Q () s') : wpAny C.M A (storeName env "glow" v) Q E s := by
  refine x8 (S.ns) fun m tk hn h1 h2 h3 => ?_
  refine wpAny_storeName_local kg hn (fun h' hn' sb => q _ ⟨(y8 _ tk hn' ?_ ?_ (fun w e => ?_)), ?_, fun b o n1 n2 e => (sb.2 b n1).trans (S.kp b o n1 n2 e), ?_, S.nl⟩) (by refine rwm (hk) ?_; rfl)
  · exact (if_neg (by decide +kernel)).trans h1
  · exact (if_neg (by decide +kernel)).trans h2
  · (revert e; refine sm_r fun zz => ?_; subst zz); exact if_pos rfl
  · refine Y3 (S.ls) fun t u o n e r => ?_
    exact (X5 t u o n ((sb.2 _ S.nl).trans e) r)
  · (refine w9 (S.sm) fun h tk zz1 => ?_; clear S hn sb; subst zz1)
    exact (x7 h' _ rfl)
theorem isTrue_cmp {a b : Expr} {op : CmpOp} {p : Pos} {whole : Sem Value} {Q : Bool → Shared → Prop} (h : wpAny C.M A (eval a env) (fun va s₁ => wpAny C.M A (eval b env) (fun vb s₂ => wpAny C.M A (compareOp op va vb) (fun v s₃ => wpAny C.M A (truthy v) Q E s₃) E s₂) E s₁) E s)
    (hm : behindInMarks op b = false := by with_unfolding_all rfl) : wpAny C.M A (isTrue (.Compare a [op] [b] p) env whole) Q E s := by
  refine (?_ : wpAny C.M A (do testChain p (← eval a env) [op] (markedEach [op] [b] (evalEach [b] env))) Q E s)
  refine rwm (markedEach_of_false _ _ _ (by simpa [lastMarks] using hm)) ?_
  exact wpAny_bind (wpAny_mono h (fun va s₁ h₁ => test_last h₁) fun _ _ x => x)
theorem fmod_range (a : Int) {n : Int} (h : 0 < n) : 0 ≤ a.fmod n ∧ a.fmod n < n := by
  refine rwm (Int.fmod_eq_emod_of_nonneg a (by omega)) ?_
  exact ⟨Int.emod_nonneg a (by omega), Int.emod_lt_of_pos a h⟩
theorem fdiv_nonneg' {a n : Int} (h : 0 ≤ a) (hn : 0 < n) : 0 ≤ a.fdiv n := by
  refine rwm (Int.fdiv_eq_ediv_of_nonneg a (by omega)) ?_
  exact Int.ediv_nonneg h (by omega)
set_option maxHeartbeats 2000000 in
theorem spark_walk {body : List Stmt} {ps : List Str} {nm : List (Str × NameKind)} {dv : List V} (hb : defsT "_law_spark" = some ⟨ps, dv, .stmts body, nm⟩) (S : SpAt env l k x y g s₀ s) (hk : env.scope.kind = .function) (kf : env.kindOf "forge" = some .local) (km : env.kindOf "many" = some .local) (kg : env.kindOf "glow" = some .local)
    (pr : ∀ s : Shared, (∀ b o, C.h₀.get? b = some o → s.heap.get? b = some o) → PySem.PylongRoom C.M A s) (gr : ∀ b o, C.h₀.get? b = some o → s₀.heap.get? b = some o ∧ b ≠ env.locals ∧ b ≠ l) (h0 : 0 < k) (hs : k.natAbs < 1000000000) (hx : 0 ≤ x) (hy : 0 ≤ y) (hy2 : y < 65293)
    {Q : Flow → Shared → Prop} (q : ∀ s' z t x' y' g', SpAt env l k x' y' g' s₀ s' → 0 ≤ x' → 0 ≤ y' → y' < 65293 → 0 ≤ z → z < k → Q (.ret (.int z t)) s') : wpAny C.M A (PySem.execs body env) Q E s := by
  refine w9 spark_fd fun pp kk e => ?_
  rw [hb] at e
  injection e with e
  injection e with _ _ e _
  injection e with e
  clear hb
  subst e
  have room : ∀ {x y : Int} {g : Option Value} {s : Shared}, SpAt env l k x y g s₀ s → PySem.PylongRoom C.M A s := fun S => pr _ fun b o e => S.kp b o (gr b o e).2.1 (gr b o e).2.2 (gr b o e).1
  have kne : k ≠ 0 := by omega
  refine wpAny_execs_cons (wpAny_If ?_)
  refine isTrue_cmp ?_
  refine sp_item S hk kf (.inl ⟨rfl, rfl⟩) fun t tk => ?_
  have S1 := S.tok tk
  refine wpAny_Constant_int ?_
  refine PyProof.Rows.gt_int (wpAny_truthy_bool ?_)
  have S2 := S1.tok (tk + 1)
  by_cases hx0 : 0 < x
  · (refine rwm (decide_eq_true hx0) ?_; refine rwm (if_pos rfl) ?_)
    refine wpAny_execs_cons (wpAny_Assign_Name (wpAny_BinOp ?_) rfl)
    refine sp_item S2 hk kf (.inl ⟨rfl, rfl⟩) fun t tk => ?_
    refine sp_many (S2.tok tk) hk km fun t' => ?_
    refine PyProof.Rows.mod_int' kne ?_
    refine sp_glow ((S2.tok tk).tok _) hk kg fun s3 S3 => ?_
    refine wpAny_execs_cons (wpAny_Assign_Subscript (wpAny_BinOp ?_) rfl)
    refine sp_item S3 hk kf (.inl ⟨rfl, rfl⟩) fun t tk => ?_
    refine sp_many (S3.tok tk) hk km fun t' => ?_
    refine PyProof.Rows.floordiv_int kne ?_ (.inr (room (S3.tok tk)))
    have S4 := (S3.tok tk).tok (tk + 1)
    refine x8 (S4.ns) fun m tk4 hn4 f4 m4 g4 => ?_
    refine wpAny_Name (wpAny_loadName_local hk kf hn4 f4 ?_) (by decide +kernel)
    refine wpAny_Constant_int ?_
    refine sp_put (S4.tok _) (.inl ⟨rfl, rfl, rfl⟩) fun h' S5 => ?_
    refine x8 (S5.ns) fun m tk5 hn5 f5 m5 g5 => ?_
    refine wpAny_execs_cons (wpAny_Return_some (wpAny_Name (wpAny_loadName_local hk kg hn5 (g5 _ rfl) ?_) (by decide +kernel)))
    exact q _ _ _ _ _ _ S5 (fdiv_nonneg' hx h0) hy hy2 (fmod_range x h0).1 (fmod_range x h0).2
  · (refine rwm (decide_eq_false hx0) ?_; refine rwm (if_neg (by decide)) ?_)
    refine wpAny_execs_nil ?_
    refine wpAny_execs_cons (wpAny_Assign_Subscript (wpAny_BinOp (wpAny_BinOp (wpAny_BinOp ?_))) rfl)
    refine sp_item S2 hk kf (.inr ⟨rfl, rfl⟩) fun t tk => ?_
    refine wpAny_Constant_int ?_
    refine PyProof.Rows.mul_int ?_ (IntMulOk.of_right (small_bits (by decide)))
    refine wpAny_Constant_int ?_
    refine PyProof.Rows.add_int ?_
    refine wpAny_Constant_int ?_
    refine PyProof.Rows.mod_int' (by decide) ?_
    have S4 := S2.tok (tk + 1 + 1 + 1 + 1 + 1 + 1)
    refine x8 (S4.ns) fun m tk4 hn4 f4 m4 g4 => ?_
    refine wpAny_Name (wpAny_loadName_local hk kf hn4 f4 ?_) (by decide +kernel)
    refine wpAny_Constant_int ?_
    refine sp_put (S4.tok _) (.inr ⟨rfl, rfl, rfl⟩) fun h' S5 => ?_
    refine w8 (fmod_range (y * 307 + 7013) (n := 65293) (by decide)) fun r1 r2 => ?_
    refine wpAny_execs_cons (wpAny_Return_some (wpAny_BinOp (wpAny_BinOp ?_)))
    refine sp_item S5 hk kf (.inr ⟨rfl, rfl⟩) fun t tk => ?_
    refine wpAny_Constant_int ?_
    refine PyProof.Rows.floordiv_int (by decide) ?_ (.inl (PyProof.noPylong_small (by decide)))
    have S6 := (S5.tok tk).tok (tk + 1 + 1)
    refine sp_many S6 hk km fun t' => ?_
    refine PyProof.Rows.mod_int' kne ?_
    exact q _ _ _ _ _ _ (S6.tok _) hx r1 r2 (fmod_range _ h0).1 (fmod_range _ h0).2
end
section
variable {C : Cy} {X : Tx} {A : Around} {own : List Addr} {W W' W₁ : Wd} {s s' s₁ : Shared} {σ σ' : St} {env : Env} {ρ : Fr} {r : Rec} {n : Nat} {E : Value → Shared → Prop}
theorem callBody (hdep : A.depth < recursionLimit) {x : Str} {fd : FD} {fn : FuncData} {a : Addr} {o : Obj} {body : List Stmt} {vs : List V} {vals vals₀ : List Value} {Q : Value → Shared → Prop}
    (ha : s.heap.get? a = some o) (hd : o.data = .func fn) (T : FnAt C x fd fn) (hclo : fn.closure = []) (hb : fn.body = .stmts body) (hcd : s.heap.CodeRec fn.code fn.qualname) (hlim : s.heap.NoLimit) (hbind : BindsTo s fn ⟨vals₀, []⟩ (fd.params.zip vals)) (hl : fd.params.length = vals.length)
    (F : FmR C A W s.heap) (R : StR C W σ s) (xs : VRs C.toCx W s.heap vs vals)
    (k : ∀ env lf W₁ s₁ own, env = callEnvC fn s.heap.objs.size a → (A.deeper env).frames = some (env :: lf) → FrR C (A.deeper env) W₁ env own ⟨x, fd.names, fd.params, fd.params.zip vs⟩ s₁.heap → StR C W₁ σ s₁ → Go C A [] W s W₁ s₁ → (∀ b ∈ own, s.heap.get? b = none) →
      (∀ {W' s'}, Go C (A.deeper env) own W₁ s₁ W' s' → Go C A [] W s W' s') →
      wpAny C.M (A.deeper env) (PySem.execs body env) (fun f s' => Q (match f with | .ret v => v | _ => .none) s') (fun e s' => wpAny C.M (A.deeper env) (leaving env e) (fun _ s'' => E e s'') (fun e' s'' => E e' s'') s') s₁) : wpAny C.M A (call (.ref a) vals₀) Q E s := by
  refine w5 (F.has) fun lf hlf => ?_
  have hkind : ∀ p ∈ fd.params.zip vals, fn.scope.names.lookup p.1 = some .local ∨ (fn.scope.names.lookup p.1 = some .cell ∧ ((cellsFrom (s.heap.objs.size + 1) fn.scope.names []).lookup p.1).isSome = true) := fun p m => by
    refine rwm (T.names) ?_
    rcases T.pars p.1 (List.of_mem_zip m).1 with z | z
    · exact .inl z
    · refine .inr ⟨z, ?_⟩
      refine Y0 (cellsFrom_spec fd.names (s.heap.push { cls := .type "frame", data := .dict #[] }) []) fun new e1 _ _ e4 => ?_
      refine w5 (e4 p.1 (mem_of_lookup z)) fun c mc => ?_
      have kk := cellsFrom_keys fd.names (s.heap.objs.size + 1) [] T.ndn List.nodup_nil (fun _ m => nomatch m)
      have : cellsFrom (s.heap.objs.size + 1) fd.names [] = new := by
        (refine rwl (Heap.size_push (h := s.heap) (o := { cls := .type "frame", data := .dict #[] })) ?_; refine rwm (e1) ?_; rw [List.append_nil])
      rw [this] at kk ⊢
      refine rwm (lookup_nodup kk mc) ?_; rfl
  refine wpAny_call (codeAny_call_function hdep ha hd T.co T.gen hb hcd (hbind _ _ _ _ ?_))
  refine rwm (hclo) ?_
  refine wpAny_newFunctionEnv_cells T.kind hkind fun env he s₁ I => ?_
  subst he
  refine ⟨hlim.keeps I.toInCall.keep, codeAny_func ?_⟩
  refine x8 (call_frame (a := a) T F R hl xs I) fun W₁ own F₁ R₁ g₁ fr => ?_
  have hdf := deeper_frames (env := callEnvC fn s.heap.objs.size a) hlf
  exact k (callEnvC fn s.heap.objs.size a) lf W₁ s₁ own rfl hdf F₁ R₁ g₁ fr fun g => g₁.call g hlf fr (fun L e => by (revert e; refine sm_r fun zz => ?_; subst zz); exact F₁.L)
theorem StR.draw {i : Nat} {l L : Addr} {x y : Int} {t u : Tok} {z : Int} {h' : Heap} {tk : Nat} (R : StR C W σ s) (hf : σ.tr.get i = some .forge) (ha : W.adr[i]? = some l) (kp : ∀ b o, b ≠ L → b ≠ l → s.heap.get? b = some o → h'.get? b = some o) (mL : L ∈ W.mt) (aL : L ∉ W.adr) (tL : L ∉ C.tabs) (lv : ∃ o, h'.get? L = some o)
    (hp : PlainL h' l #[.int x t, .int y u]) (hx : 0 ≤ x) (hy : 0 ≤ y) (hy2 : y < 65293) :
    StR C ⟨W.adr, W.syms ++ [z], W.mt⟩ { σ with syms := σ.syms + 1 } { s with heap := h', toks := tk } ∧ (∀ own, L ∈ own → Go C A own W s ⟨W.adr, W.syms ++ [z], W.mt⟩ { s with heap := h', toks := tk }) ∧ ∀ {d : V} {v : Value}, VR C.toCx W s.heap d v → VR C.toCx ⟨W.adr, W.syms ++ [z], W.mt⟩ h' d v := by
  have ml := List.mem_of_getElem? ha
  have lw : W.Le s.heap ⟨W.adr, W.syms ++ [z], W.mt⟩ := ⟨List.prefix_refl _, List.prefix_append _ _, fun _ m => m, fun _ m => .inl m, fun _ m => .inl m⟩
  have k : Keep (fun b => b = L ∨ b = l) (fun _ => False) s.heap h' := .of _ _ fun b o e n => kp b o (fun q => n (.inl q)) (fun q => n (.inr q)) e
  have hs : ∀ b, (b = L ∨ b = l) → Loose W s.heap b := fun b t => .inl (by clear k kp; rcases t with rfl | rfl; exact mL; exact R.adr _ ml)
  have hpf : ∀ b, False → b ∈ W.mt := fun _ f => f.elim
  have nLl : L ≠ l := fun q => aL (q ▸ ml)
  have idx : ∀ {j : Nat} {b : Addr}, W.adr[j]? = some b → j ≠ i → b ≠ l := fun e n q => by
    clear hp hs k kp ml nLl
    subst q
    exact n (nodup_idx R.nd e ha)
  have plain : ∀ {b its}, b ∈ W.adr → b ≠ l → PlainL s.heap b its → PlainL h' b its := fun m n ⟨o, c, e, q⟩ => (x9 o c (kp _ o (fun q => aL (q ▸ m)) n e) q)
  refine ⟨⟨R.len, R.nd, ?_, fun j l' e => ?_, fun b m => ?_, fun j e => ?_, R.adr, R.tabs, R.apart, fun c m => ?_, fun b m => ?_, fun b o e => ?_, R.fresh, R.gens, R.os⟩, fun own mo => ⟨lw, .of _ _ fun b o e t => kp b o (fun q => t (.inr (.inr (q ▸ mo)))) (fun q => t (.inl (q ▸ ml))) e, fun b o e => ?_, rfl⟩, fun x => x.mono lw k hs hpf⟩
  · show (W.syms ++ [z]).length = σ.syms + 1
    (refine rwm (List.length_append) ?_; refine rwm (R.sy) ?_); rfl
  · refine x8 (R.lst j l' e) fun a vs h1 h2 h3 h4 => ?_
    have ne : j ≠ i := fun q => by clear ha idx; subst q; rw [hf] at e; exact (nomatch e)
    exact (y8 a vs h1 (plain (List.mem_of_getElem? h1) (idx h1 ne) h2) (h3.mono lw k hs hpf) h4)
  · by_cases q : b = l
    · clear ha hs idx k kp ml nLl plain
      subst q; exact ⟨_, hp⟩
    · refine w5 (R.lists b m) fun its p => ?_
      exact ⟨its, plain m q p⟩
  · by_cases q : j = i
    · clear hf idx
      subst q; exact ⟨l, x, y, t, u, ha, hp, hx, hy, hy2⟩
    · refine Y8 (R.forge j e) fun a x' y' t' u' h1 h2 h3 => ?_
      exact (Y7 a x' y' t' u' h1 (plain (List.mem_of_getElem? h1) (idx h1 q) h2) h3)
  · refine w6 (R.tab c m) fun ps e t => ?_
    have hc : c.P ∈ C.tabs := by refine rwm (C.tabsEq) ?_; exact List.mem_map_of_mem m
    refine (w7 ps (kp _ _ (fun q => tL (q ▸ hc)) (fun q => R.apart l ml (q ▸ hc)) e) ?_)
    rcases t with t | ⟨cc, oc, ws, t, h1, h2, h3⟩
    · exact .inl t
    · exact .inr (X6 cc oc ws t h1 (h2.mono lw k hs hpf) h3)
  · by_cases q1 : b = L
    · clear aL hs k kp mL nLl tL
      subst q1; exact lv
    · by_cases q2 : b = l
      · clear ha hs idx k kp ml nLl plain
        subst q2; (refine x5 hp fun o _ e _ => ?_; clear hp); exact ⟨o, e⟩
      · refine w5 (R.live b m) fun o e => ?_
        exact ⟨o, kp b o q1 q2 e⟩
  · have e' := R.ground b o e
    refine kp b o (fun q => ?_) (fun q => ?_) e'
    · rw [q, R.fresh _ mL] at e; exact nsx e
    · rw [q, R.fresh _ (R.adr _ ml)] at e; exact nsx e
  · by_cases q1 : b = L
    · clear aL hs k kp mL mo nLl tL
      subst q1; exact lv
    · by_cases q2 : b = l
      · clear ha hs idx k kp ml nLl plain
        subst q2; (refine x5 hp fun o _ e _ => ?_; clear hp); exact ⟨o, e⟩
      · exact ⟨o, kp b o q1 q2 e⟩
theorem spark_some {args : List V} {v : V} (h : spark args σ = some (v, σ')) : ∃ i k, args = [.lst i, .int (.lit k)] ∧ σ.tr.get i = some .forge ∧ 0 < k ∧ k.natAbs < 1000000000 ∧ v = .int (.sym σ.syms) ∧ σ' = { σ with syms := σ.syms + 1 } := by
  refine bd_e2 (show bd ((vSpk0 args).map (·.1)) _ = some (v, σ') from h) fun i k h0 h => ?_
  have e0 := view_some h0
  · split at h
    · rename_i hf
      split at h
      · rename_i hc
        (first | (obtain ⟨rfl, rfl, rfl⟩ := sp3 h) | (obtain ⟨rfl, rfl⟩ := sp h) | cases h)
        refine w8 (Bool.and_eq_true_iff.mp hc) fun h1 h2 => ?_
        exact (Z9 i k e0 hf (of_decide_eq_true h1) (Nat.le_of_ble_eq_true h2) rfl rfl)
      · exact nsx h
    · exact nsx h
theorem spark_call {K : Frag} (D : Fd C K) {i : Nat} {k : Int} {a : Addr} {vals : List Value} {Q : Value → Shared → Prop} (ea : C.addr "_law_spark" = some a) (hr : Room A (n + 110)) (F : FmR C A W s.heap) (R : StR C W σ s) (xs : VRs C.toCx W s.heap [.lst i, .int (.lit k)] vals)
    (hf : σ.tr.get i = some .forge) (h0 : 0 < k) (hs : k.natAbs < 1000000000)
    (q : ∀ W' s' z t, 0 ≤ z → z < k → W'.syms[σ.syms]? = some z → Go C A [] W s W' s' → StR C W' { σ with syms := σ.syms + 1 } s' → Q (.int z t) s') : wpAny C.M A (call (.ref a) vals) Q E s := by
  refine w5 spark_fd0 fun sb e => ?_
  have hfd := defs_leaf D e
  refine w6 (fdK_ok D.kin D.addr hfd) fun a' e1 zz => ?_
  obtain ⟨o, fn, body, e2, e3, T, e4, e5, e6, e7, bind⟩ := zz
  rw [ea] at e1; (revert e1; refine sm_r fun zz => ?_; subst zz)
  refine x8 (bind (σ := σ) (m := [("forge", .lst i), ("many", .int (.lit k))]) R xs rfl) fun as' vals' em xs' hl hb => ?_
  refine W9 (D.top) fun p loose mean mg mb Tp => ?_
  have hlim := Tp.nolimit
  have hdep : A.depth < recursionLimit := by have := hr.depth; refine (?_ : A.depth < 1000); omega
  revert em hb
  refine VRs.l2 xs' hl fun a1 a2 v1 v2 x1 x2 em hb => ?_
  injection em with m1 m2
  injection m2 with m2 _
  injection m1 with _ m1
  injection m2 with _ m2
  subst m1 m2
  refine callBody (vs := [.lst i, .int (.lit k)]) (vals := [v1, v2]) hdep (R.ground _ _ e2) e3 T e4 e5 (e7.keeps R.ground) (hlim.keeps R.ground) hb rfl F R (.cons x1 (.cons x2 .nil)) fun env lf W₁ s₁ own he hdf F₁ R₁ g₁ fr back => ?_
  obtain ⟨ad, x, y, t, u, h1, h2, h3, h4, h5⟩ := R₁.forge i hf
  have kf : env.kindOf "forge" = some .local := (F₁.nmL _).mp rfl
  have km : env.kindOf "many" = some .local := (F₁.nmL _).mp rfl
  have kg : env.kindOf "glow" = some .local := (F₁.nmL _).mp rfl
  refine w6 (F₁.ns) fun m hm hv => ?_
  refine w6 (hv "forge" (.lst i) rfl kf) fun vf ef xf => ?_
  refine w6 (hv "many" (.int (.lit k)) rfl km) fun vm em xm => ?_
  replace xf := xf.inv
  refine w6 xf fun ad' ha zz1 => ?_
  clear xf
  subst zz1
  replace xm := xm.inv
  refine w5 xm fun tm zz1 => ?_
  clear xm
  subst zz1
  rw [h1] at ha; (revert ha; refine sm_r fun zz => ?_; subst zz)
  have mL := F₁.ownMt _ F₁.L
  refine w8 (F₁.ownAp _ F₁.L) fun aL tL => ?_
  have nl : ad ≠ env.locals := fun q => aL (q ▸ List.mem_of_getElem? h1)
  have S : SpAt env ad k x y none s₁ s₁ := ⟨(y8 m tm hm ef em (fun v e => by exact nsx e)), (x7 t u h2), fun b o _ _ e => e, (x7 s₁.heap s₁.toks rfl), nl⟩
  have hbody : fn.body = .stmts body := e5
  have pr : ∀ s : Shared, (∀ b o, C.h₀.get? b = some o → s.heap.get? b = some o) → PySem.PylongRoom C.M (A.deeper env) s := fun s gk =>
    PySem.PylongRoom.of (hlim.keeps gk) (by have := hr.depth; refine (?_ : A.depth + 1 + 100 < 1000); omega) (PySem.SeerAt.of (D.seer.keeps gk) D.tree hdf (by refine rwm (he) ?_; exact T.gen) (by refine rwm (he) ?_; exact T.co) F₁.blt F₁.glob)
  have gr : ∀ b o, C.h₀.get? b = some o → s₁.heap.get? b = some o ∧ b ≠ env.locals ∧ b ≠ ad := fun b o e => ⟨R₁.ground b o e, fun q => (by rw [q, R₁.fresh _ mL] at e; exact nsx e), fun q => (by rw [q, R₁.fresh _ (R₁.adr _ (List.mem_of_getElem? h1))] at e; exact nsx e)⟩
  injection e6 with e6
  clear e5 hbody
  subst e6
  refine spark_walk e S F₁.kind kf km kg pr gr h0 hs h3 h4 h5 fun s' z tz x' y' g' S' hx' hy' hy2' hz1 hz2 => ?_
  refine w9 (S'.sm) fun h' tk zz1 => ?_
  subst zz1
  refine x5 (S'.ns) fun m' _ hn' _ => ?_
  refine w9 (S'.ls) fun t' u' pl' => ?_
  refine y9 hn' fun oL _ _ eL _ => ?_
  clear hn'
  refine W2 (R₁.draw (A := A.deeper env) (z := z) (tk := tk) hf h1 S'.kp mL aL tL ⟨oL, eL⟩ pl' hx' hy' hy2') fun R₂ g₂ _ => ?_
  exact q _ _ z tz hz1 hz2 (by refine (?_ : (W₁.syms ++ [z])[σ.syms]? = some z); (refine rwl (R₁.sy) ?_; refine rwm (List.getElem?_append_right (Nat.le_refl _)) ?_; refine rwm (Nat.sub_self ..) ?_); rfl) (back (g₂ own F₁.L)) R₂
end
noncomputable def txt_fdB (pp : Nat → Pos) (kk : Nat → Nat) : List Stmt := [.Return (some (.Tuple [.Constant (.str "text") (kk 0) (pp 0), .Call (.Attribute (.Name "text" (pp 1)) "encode" (pp 5)) [.Constant (.str "utf-8") (kk 1) (pp 2)] [] (pp 6)] (kk 2) (pp 3))) (pp 4)]
theorem txt_fd : ∃ (pp : Nat → Pos) (kk : Nat → Nat), defsT "text_value" = some ⟨["text"], [], .stmts (txt_fdB pp kk), [("text", .local)]⟩ ∧ ((pp 5).endLine == (pp 6).line) = true := (x9 (fun n => [_, _, _, _, _, _, _].getD n default) (fun n => [_, _, _].getD n 0) rfl rfl)
theorem enc_text {x : Str} (h : ascii x = true) : ∃ b : Array UInt8, b.size ≤ 1000 ∧ ∀ t u, Builtin.«str.encode» ⟨[.str x t, .str "utf-8" u], []⟩ = (do ret (← mkBytes b)) := by
  refine w6 (List.any_eq_true.mp h) fun y m e => ?_
  have e := of_sq e
  subst e
  refine (w7 (y.cps.map Nat.toUInt8) ?_ ?_)
  · simp only [texts, List.mem_cons, List.not_mem_nil, or_false] at m
    clear e h
    rcases m with rfl | rfl | rfl | rfl | rfl | rfl | rfl | rfl | rfl | rfl | rfl <;> decide +kernel
  · simp only [texts, List.mem_cons, List.not_mem_nil, or_false] at m
    clear e h
    rcases m with rfl | rfl | rfl | rfl | rfl | rfl | rfl | rfl | rfl | rfl | rfl <;> (intro t u; kernel_rfl)
section
variable {C : Cy} {X : Tx} {A : Around} {own : List Addr} {W W' W₁ : Wd} {s s' s₁ : Shared} {σ σ' : St} {env : Env} {ρ : Fr} {n : Nat} {E : Value → Shared → Prop}
theorem encode_call {x : Str} {t u : Tok} (h : ascii x = true) {Q : Value → Shared → Prop} (q : ∀ b tk, Q (.bytes b s.toks) { s with toks := tk }) : wpAny C.M A (call (.builtin "str.encode") [.str x t, .str "utf-8" u]) Q E s := by
  refine w6 (enc_text h) fun b hs e => ?_
  refine wpAny_call_entry F.slot_str_encode (typeIs_str s x t) F.entry_str_encode ?_ (F.args_str_encode_2 _ _)
  refine rwm (e ..) ?_
  refine wpAny_bind ?_
  unfold mkBytes
  refine rwm (if_neg (Nat.not_lt.mpr (le_sizeLine hs))) ?_
  refine wpAny_bind (wpAny_fresh ?_)
  exact wpAny_pure (wpAny_pure (w7 _ rfl (q b _)))
set_option maxHeartbeats 2000000 in
theorem txt_leaf {K : Frag} (D : Fd C K) {t : Str} {u : Tok} {a : Addr} {Q : Value → Shared → Prop} (ea : C.addr "text_value" = some a) (hasc : ascii t = true) (hr : Room A (n + 1)) (FF : FmR C A W s.heap) (R : StR C W σ s) (q : Val C A [] W s σ (.tup [.str "text", .any]) Q) : wpAny C.M A (call (.ref a) [.str t u]) Q E s := by
  refine x5 txt_fd fun pp kk e hline => ?_
  have hfd := defs_leaf D e
  refine w6 (fdK_ok D.kin D.addr hfd) fun a' e1 zz => ?_
  obtain ⟨o, fn, body, e2, e3, T, e4, e5, e6, e7, bind⟩ := zz
  rw [ea] at e1; (revert e1; refine sm_r fun zz => ?_; subst zz)
  refine x8 (bind (σ := σ) (m := [("text", .str t)]) (args := [.str t]) R (.cons (.str t u) .nil) rfl) fun as' vals' em xs' hl hb => ?_
  refine W9 (D.top) fun p loose mean mg mb Tp => ?_
  have hdep : A.depth < recursionLimit := by have := hr.depth; refine (?_ : A.depth < 1000); omega
  revert em hb
  refine VRs.l1 xs' hl fun a1 v1 x1 em hb => ?_
  injection em with m1 m2
  injection m1 with _ m1
  subst m1
  injection e6 with e6
  subst e6
  refine callBody (vs := [.str t]) (vals := [v1]) hdep (R.ground _ _ e2) e3 T e4 e5 (e7.keeps R.ground) (Tp.nolimit.keeps R.ground) hb rfl FF R (.cons x1 .nil) fun env lf W₁ s₁ own he hdf F₁ R₁ g₁ fr back => ?_
  have kt : env.kindOf "text" = some .local := (F₁.nmL _).mp rfl
  refine w6 (F₁.ns) fun m hm hv => ?_
  refine w6 (hv "text" (.str t) rfl kt) fun vt et xt => ?_
  replace xt := xt.inv
  refine w5 xt fun tt zz1 => ?_
  clear xt
  subst zz1
  refine wpAny_execs_cons (wpAny_Return_some (wpAny_Tuple ?_))
  refine wpAny_items_cons (wpAny_Constant_str ?_)
  refine wpAny_items_cons ?_
  refine wpAny_Call_method1_late (by rfl) hline (by rfl) ?_
  refine wpAny_Name (wpAny_loadName_local F₁.kind kt hm et ?_) (by decide +kernel)
  refine (Z9 "str" "str.encode" PySem.F.plainAttrs_str F.slot_str_encode F.type_str_encode (typeIs_str _ _ _) (fun _ e => nomatch e) ?_)
  refine callWith_of (P := fun h => Kept C h (.builtin "str.encode")) rfl (fun _ k => k) ?_
  refine Calls.evalArgs_plain ?_
  have hh : backTo (pp 6) (starEach [.Constant (.str "utf-8") (kk 1) (pp 2)] env) = [(false, eval (.Constant (.str "utf-8") (kk 1) (pp 2)) env)] := rfl
  refine rwl (hh) ?_
  refine wpAny_items_cons (wpAny_Constant_str ?_)
  refine wpAny_items_nil ⟨(w7 .machine (.inr (.inl rfl)) .now), ?_⟩
  refine encode_call hasc fun b tk => ?_
  refine wpAny_items_nil ?_
  refine ⟨by refine (?_ : (2 : Nat) ≤ sizeLine); decide, ?_⟩
  have kp := push_keeps s₁.heap { cls := .type "tuple", data := .seq #[.str "text" s₁.toks, .bytes b (s₁.toks + 1 + 1)] }
  exact q _ _ _ (back (Go.grow (tk := tk) kp)) (R₁.grow (tk := tk) kp) (.tup (vs := [.str "text" s₁.toks, .bytes b (s₁.toks + 1 + 1)]) (R₁.fz_push rfl rfl) (by decide) (.cons (.str _ _) (.cons (.any _ ⟨rfl, rfl⟩) .nil)))
end
theorem pass_end {l : List Value} (h : (l == [.type "object"] || l == [.type "Exception", .type "BaseException", .type "object"]) = true) (self : Value) : refuseLoop self "__setattr__" l = pure () ∧ l.contains (.type "object") = true := by
  rcases Bool.or_eq_true_iff.mp h with e | e
  · refine rwm (beq_iff_eq.mp e) ?_; exact ⟨PySem.F.store_object.passes self, by decide +kernel⟩
  · refine rwm (beq_iff_eq.mp e) ?_; exact ⟨PySem.F.store_Exception.passes self, by decide +kernel⟩
theorem pass_ok (self : Value) : ∀ {l : List Value}, passK l = true → refuseLoop self "__setattr__" l = pure () ∧ l.contains (.type "object") = true
  | [], h => pass_end h self
  | v :: r, h => by
    induction v using Value.casesOn with
    | ref c =>
      refine w8 (pass_ok self (show passK r = true from h)) fun h1 h2 => ?_
      refine ⟨by refine rwm (refuseLoop_ref ..) ?_; exact h1, by (refine rwm (List.contains_cons) ?_; refine rwm (h2) ?_; rw [Bool.or_true])⟩
    | _ => exact pass_end h self
section
variable {C : Cy} {K : Frag} {A : Around} {E : Value → Shared → Prop} {s : Shared} {x c : Addr} {ox : Obj} {name : Str} {v : Value}
theorem osa_any {od : Option Obj} {tk : Tok} {R : Result → Shared → Prop} (X : K.In s.heap) (I : InstAt s.heap x ox c od) (hp : overK K c = true) (ht : takerIn K c name = some none)
    (h : ∀ b, wpAny C.M A.in1 (Builtin.ObjectAttr.storeInOwnDict (.ref x) (.ref c) (.str name tk) name v b)
      (fun fin s' => match fin with | .done f => R (.ok f) s' | .again c' => c'.quiet = true ∧ codeAny C.M A c' R s') (fun e s' => R (.error e) s') s) :
    codeAny C.M A (.call (.builtin "object.__setattr__") ⟨[.ref x, .str name tk, v], []⟩) R s := by
  have SF := PySem.F.store_object
  refine w6 (any_some hp) fun cd hc ho => ?_
  refine w8 (pass_ok (.ref x) ho) fun p1 p2 => ?_
  have ne : cd.mro.isEmpty = false := by induction q : cd.mro using List.casesOn with | nil => rw [q] at p2; exact ftx p2 | cons _ _ => rfl
  have sub : Looks C.M s.heap (isInstance (.ref x) (.type "object")) true := I.type.andThen (looks_mroIn X (by unfold mroIn; (refine rwm (hc) ?_; refine rwm (Option.bind_some ..) ?_; refine rwm (if_neg (by rw [ne]; decide)) ?_; exact rwm (p2) rfl)))
  refine codeAny_call_builtin SF.slot.plain SF.entry (@check_slot C.M _ _ s "object.__setattr__" "object" "__setattr__" (.ref x) [.str name tk, v] [] _ SF.kind SF.split sub (SF.args (.ref x) (.str name tk) v) ?_)
  refine w6 (Option.bind_eq_some_iff.mp ht) fun attr ha hr => ?_
  have hm : Looks C.M s.heap (mroOf (.ref c)) cd.mro := (looks_clsIn X hc).andThen .now
  have L3 : Looks C.M s.heap (Builtin.ObjectAttr.storeTaker? attr) none := by
    clear ha
    induction attr using Option.casesOn with
    | none => exact .now
    | some a =>
      refine w6 (Option.map_eq_some_iff.mp hr) fun b hb e => ?_
      refine (looks_takesIn X hb).andThen ?_
      clear hb
      induction b using Bool.casesOn
      · exact .now
      · exact snx e
  (refine rwm (osa_eq ..) ?_; refine rwm (refuse_eq ..) ?_)
  refine wpAny_bind (wpAny_bind (I.type.here (wpAny_bind (hm.here ?_))))
  refine rwm (p1) ?_
  refine wpAny_pure (wpAny_bind (I.type.here (wpAny_bind ((looks_findIn X ha).here (wpAny_bind (L3.here ?_))))))
  exact h _
theorem dict_store {dx : Addr} {es : List DictEntry} {n : Nat} {tk : Tok} {Q : PySem.Fin → Shared → Prop} (D : s.heap.get? dx = some (dictOf es n)) (hl : (getL name es).isSome = true) (hz : es.length ≤ 900)
    (q : Q (.done (.ret .none)) { s with heap := s.heap.update dx (Obj.putName name (PyData.keyHash C.w.params name) (.str name s.toks) v), toks := s.toks + 1 }) : wpAny C.M A (Builtin.ObjectAttr.storeInDict dx (.str name tk) name v) Q E s := by
  have D' : (s.heap.update dx (Obj.putName name (PyData.keyHash C.w.params name) (.str name s.toks) v)).get? dx = some (dictOf (putL name (PyData.keyHash C.w.params name) (.str name s.toks) v es) (putN name es n)) := by
    refine rwl (putName_dict ..) ?_
    exact Heap.get?_update_self _ D (by refine rwm (putName_dict ..) ?_; rfl)
  have hz' : ∀ (l : List DictEntry) (hs : Int) (k : Value), (putL name hs k v l).length ≤ l.length + 1 := by
    intro l hs k
    induction l with
    | nil => exact Nat.le_refl _
    | cons e r ih =>
      unfold putL
      split
      · exact Nat.le_succ _
      · exact Nat.succ_le_succ ih
  refine wpAny_bind (wpAny_pure (wpAny_bind ?_))
  unfold nsSet
  refine wpAny_bind (wpAny_bind (wpAny_askSetting (wpAny_pure (wpAny_bind (wpAny_mkText (wpAny_bind (wpAny_loadPart D ?_)))))))
  dsimp only
  have c : (!es.any (·.key.isStr name) && es.any (·.refKey)) = false := by
    unfold getL at hl
    split at hl
    · rename_i en he
      refine rwm (List.any_eq_true.mpr (w7 en (List.mem_of_find?_eq_some he) (List.find?_some he))) ?_; rfl
    · split at hl
      · exact ftx hl
      · rename_i z; rw [Bool.not_eq_true] at z; (refine rwm (z) ?_; rw [Bool.and_false])
  (refine rwm (aRefKeyMayBeTheName_at ..) ?_; refine rwm (List.any_toArray) ?_; refine rwm (List.any_toArray) ?_; refine rwm (c) ?_)
  refine wpAny_updatePart D ?_
  refine wpAny_bind (wpAny_lookBehind D' (pastItsLine_dict (by (refine rwm (List.size_toArray) ?_; refine rwm (sizeLine_eq) ?_); exact Nat.le_trans (hz' _ _ _) (by omega))) ?_)
  exact wpAny_pure q
theorem store_own {es : List DictEntry} {n : Nat} {Q : Unit → Shared → Prop} (X : K.In s.heap) (hx : s.heap.get? x = some ox) (hc : ox.cls = .ref c) (hn : notCls ox = true) (hcl : ∀ cd, ox.data ≠ .cls cd) (hfr : ox.isFreed = false)
    (hs : findIn K (.ref c) "__setattr__" = some (some (.builtin "object.__setattr__"))) (hp : overK K c = true) (ht : takerIn K c name = some none) (hh : hasDictIn K c = true)
    (hd : (ox.dict = none ∧ es = [] ∧ n = 0) ∨ ∃ dx, ox.dict = some dx ∧ dx ≠ x ∧ s.heap.get? dx = some (dictOf es n)) (hl : (getL name es).isSome = true) (hz : es.length ≤ 900)
    (q : ∀ h' dx key tk tk', h'.get? x = some { ox with dict := some dx } → dx ≠ x → (ox.dict = none → s.heap.get? dx = none) → (∀ d, ox.dict = some d → d = dx) → key = Value.str name tk' → h'.get? dx = some (dictOf (putL name (PyData.keyHash C.w.params name) key v es) (putN name es n)) → (∀ b o, b ≠ x → b ≠ dx → s.heap.get? b = some o → h'.get? b = some o) → Q () { s with heap := h', toks := tk }) : wpAny C.M A (setAttr (.ref x) name v) Q E s := by
  refine w6 (any_some hh) fun cd hcd hd' => ?_
  rcases hd with ⟨d0, rfl, rfl⟩ | ⟨dx, d1, d2, d3⟩
  · have I : InstAt s.heap x ox c none := ⟨hx, hc, hn, by refine rwm (d0) ?_; trivial⟩
    refine PySem.W.set_plain X I hs (osa_any (s := { s with toks := s.toks + 1 }) X I hp ht fun b => ?_)
    obtain ⟨oc, odi, oda, osl⟩ := ox
    dsimp only at hc d0
    subst hc d0
    have xs : x ≠ s.heap.objs.size := Nat.ne_of_lt (Heap.lt_size hx)
    refine wpAny_bind (wpAny_pure (wpAny_bind (wpAny_bind (wpAny_loadPart hx (wpAny_bind ((looks_clsIn (M := C.M) (show K.In ({ s with toks := s.toks + 1 } : Shared).heap from X) hcd).here (s := { s with toks := s.toks + 1 }) ?_))))))
    refine rwm (hd') ?_
    have hx1 : (s.heap.push emptyDict).get? x = some ⟨.ref c, none, oda, osl⟩ := Heap.get?_push_of_some _ hx
    have hd1 : (s.heap.push emptyDict).get? s.heap.objs.size = some emptyDict := Heap.get?_push_at rfl rfl
    have hfr' : ∀ d, (⟨.ref c, d, oda, osl⟩ : Obj).isFreed = false := fun d => by clear I hcl hn hx hx1 q; induction oda using Data.casesOn <;> first | rfl | exact hfr
    have hx2 : ((s.heap.push emptyDict).update x fun o => { o with dict := some s.heap.objs.size }).get? x = some ⟨.ref c, some s.heap.objs.size, oda, osl⟩ := Heap.get?_update_self _ hx1 (hfr' _)
    have hd2 : ((s.heap.push emptyDict).update x fun o => { o with dict := some s.heap.objs.size }).get? s.heap.objs.size = some (dictOf [] 0) := (Heap.get?_update_ne _ _ _ _ (Ne.symm xs)).trans hd1
    have fin := dict_store (C := C) (A := A.in1) (s := { s with heap := (s.heap.push emptyDict).update x fun o => { o with dict := some s.heap.objs.size }, toks := s.toks + 1 }) (name := name) (v := v) (tk := s.toks) (Q := fun fin s' => match fin with
      | .done f => (match (Except.ok f : Result) with
        | .ok (.ret _) => Q () s'
        | .ok _ => False
        | .error e => E e s')
      | .again c' => c'.quiet = true ∧ codeAny C.M A c' (fun r s' => match r with
        | .ok (.ret _) => Q () s'
        | .ok _ => False
        | .error e => E e s') s') (E := E) hd2 hl hz (q _ s.heap.objs.size _ _ (s.toks + 1) ((Heap.get?_update_ne _ _ _ _ xs).trans hx2) (Ne.symm xs) (fun _ => Heap.get?_none_of_le (Nat.le_refl _)) (fun d e => by exact nsx e) rfl (by refine rwl (putName_dict ..) ?_; exact Heap.get?_update_self _ hd2 (by refine rwm (putName_dict ..) ?_; rfl)) fun b o n1 n2 e => (Heap.get?_update_ne _ _ _ _ n2).trans ((Heap.get?_update_ne _ _ _ _ n1).trans (Heap.get?_push_of_some _ e)))
    clear I hfr hfr' hn hx hx2 q
    induction oda using Data.casesOn with
    | cls cd' => exact absurd rfl (hcl cd')
    | _ => exact wpAny_bind (wpAny_alloc (wpAny_bind (wpAny_update hx1 (wpAny_pure (a := some s.heap.objs.size) fin))))
  · have I : InstAt s.heap x ox c (some (dictOf es n)) := ⟨hx, hc, hn, by refine rwm (d1) ?_; exact d3⟩
    refine PySem.W.set_plain X I hs (osa_any (s := { s with toks := s.toks + 1 }) X I hp ht fun b => ?_)
    obtain ⟨oc, odi, oda, osl⟩ := ox
    dsimp only at hc d1
    clear I hcl hfr hn
    subst hc d1
    refine wpAny_bind (wpAny_pure (wpAny_bind (wpAny_bind (wpAny_loadPart hx (wpAny_bind ((looks_clsIn (M := C.M) (show K.In ({ s with toks := s.toks + 1 } : Shared).heap from X) hcd).here (s := { s with toks := s.toks + 1 }) ?_))))))
    refine rwm (hd') ?_
    refine wpAny_pure (a := some dx) ?_
    refine dict_store d3 hl hz ?_
    refine q _ dx _ _ (s.toks + 1) ((Heap.get?_update_ne _ _ _ _ (Ne.symm d2)).trans hx) d2 (fun e => by exact snx e) (fun d e => by (revert e; refine sm_r fun zz => ?_; subst zz); rfl) rfl ?_ fun b o _ n e => (Heap.get?_update_ne _ _ _ _ n).trans e
    refine rwl (putName_dict ..) ?_
    exact Heap.get?_update_self _ d3 (by refine rwm (putName_dict ..) ?_; rfl)
end
structure IniFn (K : Frag) (a : Addr) (ps : List Str) (body : List Stmt) (names : List (Str × NameKind)) (fn : FuncData) : Prop where
  lk : ∃ oc od sl, K.lookup a = some ⟨oc, od, .func fn, sl⟩
  kind : fn.scope.kind = .function
  co : fn.scope.isCoroutine = false
  gen : fn.scope.isGenerator = false
  glob : fn.globals = mainGlobals
  blt : fn.builtins = builtinsNs
  clo : fn.closure = []
  body : fn.body = .stmts body
  names : fn.scope.names = names
  code : codeIn K fn.code fn.qualname = true
  pars : ∃ as ds, fn.params = ⟨[], as, none, [], [], none, ds⟩ ∧ as.map (·.arg) = ps
theorem iniR_some {K : Frag} {a : Addr} {ps : List Str} {body : List Stmt} {names : List (Str × NameKind)} (h : iniR K a = some (ps, .stmts body, names)) : ∃ fn, IniFn K a ps body names fn := by
  refine bd_e h fun fn h2 h => ?_
  induction hg : goodFn K [] "" fn using Bool.casesOn with
  | false => rw [hg] at h; exact nsx h
  | true =>
    rw [hg] at h
    refine bd_e h fun ps' h3 h => ?_
    injection h with h
    injection h with e1 h
    injection h with e3 e4
    unfold goodFn at hg
    simp only [Bool.and_eq_true] at hg
    refine w8 hg fun zz1 g10 => ?_
    clear hg
    obtain ⟨⟨⟨⟨⟨⟨⟨⟨g1, g2⟩, g3⟩, g4⟩, g5⟩, g6⟩, g7⟩, g8⟩, g9⟩ := zz1
    unfold fnAt at h2
    split at h2
    · rename_i oc od fn' sl hk
      cases h2
      refine x5 (plainPars_some h3) fun as ds p1 p2 => ?_
      exact ⟨_, ⟨_, _, _, hk⟩, isFun_ok g1, by simpa using g2, by simpa using g3, Nat.eq_of_beq_eq_true g4, Nat.eq_of_beq_eq_true g5, by simpa using g6, e3, e4, g7, (x9 as ds p1 (p2.trans e1))⟩
    · exact nsx h2
structure IniEnv (env : Env) (names : List (Str × NameKind)) : Prop where
  kind : env.scope.kind = .function
  names : env.scope.names = names
  glob : env.globals = mainGlobals
  blt : env.builtins = builtinsNs
section
variable {C : Cy} {K : Frag} {A : Around} {E : Value → Shared → Prop} {s : Shared}
theorem ini_code {a : Addr} {ps : List Str} {body : List Stmt} {names : List (Str × NameKind)} {fn : FuncData} (I : IniFn K a ps body names fn) (X : K.In s.heap) (lim : s.heap.NoLimit) (hdep : A.depth < recursionLimit) {vals₀ : List Value} {bs : List (Str × Value)} {Rr : Result → Shared → Prop}
    (hb : BindsTo s fn ⟨vals₀, []⟩ bs) (hloc : ∀ p ∈ bs, names.lookup p.1 = some .local) (hcell : ∀ p ∈ names, p.2 ≠ .cell)
    (k : ∀ env h' tk, IniEnv env names → env.locals = s.heap.objs.size → h'.Ns s.heap.objs.size (fun y => bs.reverse.lookup y) → (∀ b o, s.heap.get? b = some o → h'.get? b = some o) →
      wpAny C.M (A.deeper env) (PySem.execs body env) (fun f s' => Rr (.ok (.ret (match f with | .ret v => v | _ => .none))) s') (fun e s' => wpAny C.M (A.deeper env) (leaving env e) (fun _ s'' => Rr (.error e) s'') (fun e' s'' => Rr (.error e') s'') s') { s with heap := h', toks := tk }) :
    codeAny C.M A (.call (.ref a) ⟨vals₀, []⟩) Rr s := by
  refine W0 (I.lk) fun oc od sl hk => ?_
  refine codeAny_call_function hdep (X _ _ hk) rfl I.co I.gen I.body (codeIn_ok X I.code) (hb _ _ _ _ ?_)
  refine rwm (I.clo) ?_
  have kp : ∀ {h' : Heap}, Heap.SameBut s.heap.objs.size (s.heap.push { cls := .type "frame", data := .dict #[] }) h' → ∀ b o, s.heap.get? b = some o → h'.get? b = some o := fun hsb b o e => hsb.extBut b o (Nat.ne_of_lt (Heap.lt_size e)) (Heap.get?_push_of_some _ e)
  refine wpAny_newFunctionEnv (by refine rwm (I.names) ?_; exact hcell) (by refine rwm (I.names) ?_; exact hloc) (fun h' ns sb => ⟨lim.fresh _ sb, ?_⟩) I.kind
  exact codeAny_func (k (newEnv fn.scope s.heap.objs.size fn.globals [] (fn.qualname ++ ".<locals>.") (some a) fn.code none fn.builtins) h' _ ⟨I.kind, I.names, I.glob, I.blt⟩ rfl ns (kp sb))
structure IniAt (L : Addr) (m : Str → Option Value) (x : Addr) (ox : Obj) (es : List DictEntry) (n : Nat) (s₀ s : Shared) : Prop where
  ns : s.heap.Ns L m
  ob : s.heap.get? x = some ox
  dict : (ox.dict = none ∧ es = [] ∧ n = 0) ∨ ∃ dx, ox.dict = some dx ∧ dx ≠ x ∧ s.heap.get? dx = some (dictOf es n) ∧ s₀.heap.get? dx = none ∧ dx ≠ L
  kp : ∀ b o, b ≠ x → s₀.heap.get? b = some o → s.heap.get? b = some o
  sm : ∃ h tk, s = { s₀ with heap := h, toks := tk }
  ne : x ≠ L
structure IniCls (K : Frag) (c : Addr) : Prop where
  sets : findIn K (.ref c) "__setattr__" = some (some (.builtin "object.__setattr__"))
  over : overK K c = true
  dict : hasDictIn K c = true
theorem IniAt.tok {L : Addr} {m : Str → Option Value} {x : Addr} {ox : Obj} {es : List DictEntry} {n : Nat} {s₀ : Shared} (S : IniAt L m x ox es n s₀ s) (tk : Nat) : IniAt L m x ox es n s₀ { s with toks := tk } := by
  refine w9 (S.sm) fun h t zz1 => ?_
  subst zz1
  exact ⟨S.ns, S.ob, S.dict, S.kp, (x7 h tk rfl), S.ne⟩
theorem ini_set {env : Env} {names : List (Str × NameKind)} {c : Addr} {m : Str → Option Value} {x : Addr} {ox : Obj} {es : List DictEntry} {n : Nat} {s₀ : Shared} {nm y : Str} {v : Value} {p1 p2 p3 p4 : Pos} {Q : Flow → Shared → Prop} (N : IniEnv env names) (T : IniCls K c) (ht : takerIn K c nm = some none)
    (S : IniAt env.locals m x ox es n s₀ s) (X : K.In s.heap) (hself : m "self" = some (.ref x)) (hy : m y = some v) (ks : names.lookup ("self" : Str) = some .local) (ky : names.lookup y = some .local) (dy : (y == ("__debug__" : Str)) = false)
    (hc : ox.cls = .ref c) (hn : notCls ox = true) (hcl : ∀ cd, ox.data ≠ .cls cd) (hfr : ox.isFreed = false) (hl : (getL nm es).isSome = true) (hz : es.length ≤ 900)
    (q : ∀ s' dx key tk', key = Value.str nm tk' → IniAt env.locals m x { ox with dict := some dx } (putL nm (PyData.keyHash C.w.params nm) key v es) (putN nm es n) s₀ s' → (∀ d, ox.dict = some d → d = dx) → Q .next s') :
    wpAny C.M A (exec (.Assign [.Attribute (.Name "self" p1) nm p2] (.Name y p3) p4) env) Q E s := by
  refine plainObj_wpAny_Assign_Attribute ?_ (by rfl)
  refine wpAny_Name (wpAny_loadName_local N.kind ((congrArg (List.lookup y) N.names).trans ky) S.ns hy ?_) dy
  refine wpAny_Name (wpAny_loadName_local N.kind ((congrArg (List.lookup ("self" : Str)) N.names).trans ks) S.ns hself ?_) (by decide +kernel)
  refine store_own (es := es) (n := n) X S.ob hc hn hcl hfr T.sets T.over ht T.dict (by
    rcases S.dict with h | ⟨dx, h1, h2, h3, _⟩
    · exact .inl h
    · exact .inr (W4 dx h1 h2 h3)) hl hz fun h' dx key tk tk' r1 r2 r3 r4 r5 r6 r7 => ?_
  refine w9 (S.sm) fun h₁ t₁ zz1 => ?_
  clear X
  subst zz1
  have fr : s₀.heap.get? dx = none ∧ dx ≠ env.locals := by
    rcases S.dict with ⟨h, _⟩ | ⟨d, h1, h2, h3, h4, h5⟩
    · have z := r3 h
      refine ⟨?_, fun e => ?_⟩
      · induction w : s₀.heap.get? dx using Option.casesOn with
        | none => rfl
        | some o => have := S.kp dx o r2 w; rw [z] at this; exact nsx this
      · refine y9 (S.ns) fun o _ _ e' _ => ?_
        rw [← e, z] at e'; exact nsx e'
    · refine rwl (r4 d h1) ?_; exact ⟨h4, h5⟩
  refine q _ dx key tk' r5 ⟨?_, r1, .inr (Z5 dx rfl r2 r6 fr.1 fr.2), fun b o n1 e => r7 b o n1 (fun z => by rw [z, fr.1] at e; exact nsx e) (S.kp b o n1 e), (x7 h' tk rfl), S.ne⟩ r4
  refine y9 (S.ns) fun o es' ep e r => ?_
  exact (W8 o es' ep (r7 _ _ (Ne.symm S.ne) (Ne.symm fr.2) e) r)
end
noncomputable def thing_fdB (pp : Nat → Pos) : List Stmt := [.Assign [.Attribute (.Name "self" (pp 0)) "kind" (pp 1)] (.Name "kind" (pp 2)) (pp 3), .Assign [.Attribute (.Name "self" (pp 4)) "fields" (pp 5)] (.Name "fields" (pp 6)) (pp 7), .Assign [.Attribute (.Name "self" (pp 8)) "sizes" (pp 9)] (.Name "sizes" (pp 10)) (pp 11)]
theorem thing_fd : ∃ (pp : Nat → Pos), ((findFD "__init__" (bodyOf "Thing" top)).map fun f => (f.params, f.body, f.names)) = some ((["self", "kind", "fields", "sizes"] : List Str), FuncBody.stmts (thing_fdB pp), [(("self" : Str), NameKind.local), ("kind", .local), ("fields", .local), ("sizes", .local)]) := ⟨fun n => [_, _, _, _, _, _, _, _, _, _, _, _].getD n default, rfl⟩
noncomputable def thrown_fdB (pp : Nat → Pos) (kk : Nat → Nat) : List Stmt := [.Expr (.Call (.Attribute (.Name "RowsError" (pp 0)) "__init__" (pp 8)) [(.Name "self" (pp 1)), .Constant (.str "a value is thrown") (kk 0) (pp 2)] [] (pp 9)) (pp 3), .Assign [.Attribute (.Name "self" (pp 4)) "value" (pp 5)] (.Name "value" (pp 6)) (pp 7)]
theorem thrown_fd : ∃ (pp : Nat → Pos) (kk : Nat → Nat), ((findFD "__init__" (bodyOf "Thrown" top)).map fun f => (f.params, f.body, f.names)) = some ((["self", "value"] : List Str), FuncBody.stmts (thrown_fdB pp kk), [(("self" : Str), NameKind.local), ("value", .local), ("RowsError", .globalImplicit)]) ∧ ((pp 8).endLine == (pp 9).line) = true := (x9 (fun n => [_, _, _, _, _, _, _, _, _, _].getD n default) (fun n => [_].getD n 0) rfl rfl)
noncomputable def rows_fdB (pp : Nat → Pos) : List Stmt := [.Expr (.Call (.Attribute (.Name "Exception" (pp 0)) "__init__" (pp 12)) [(.Name "self" (pp 1)), (.Name "message" (pp 2))] [] (pp 13)) (pp 3), .Assign [.Attribute (.Name "self" (pp 4)) "message" (pp 5)] (.Name "message" (pp 6)) (pp 7), .Assign [.Attribute (.Name "self" (pp 8)) "spot" (pp 9)] (.Name "spot" (pp 10)) (pp 11)]
theorem rows_fd : ∃ (pp : Nat → Pos), ((findFD "__init__" (bodyOf "RowsError" top)).map fun f => (f.params, f.body, f.names)) = some ((["self", "message", "spot"] : List Str), FuncBody.stmts (rows_fdB pp), [(("self" : Str), NameKind.local), ("message", .local), ("spot", .local), ("Exception", .globalImplicit)]) ∧ ((pp 12).endLine == (pp 13).line) = true := (w7 (fun n => [_, _, _, _, _, _, _, _, _, _, _, _, _, _].getD n default) rfl rfl)
theorem iniDfl_none {K : Frag} {a : Addr} {ps : List Str} {body : List Stmt} {names : List (Str × NameKind)} {fn : FuncData} (I : IniFn K a ps body names fn) (h : iniDfl K a = some none) : fn.defaults = .none := by
  refine W0 (I.lk) fun oc od sl hk => ?_
  unfold iniDfl fnAt at h
  rw [hk] at h
  have h : (match fn.defaults with
    | .none => some none
    | .ref T => match K.lookup T with
      | some ⟨_, _, .seq vs _, _⟩ => match vs.toList with
        | [v] => some (some v)
        | _ => none
      | _ => none
    | _ => none) = some (none : Option Value) := h
  split at h
  · assumption
  · split at h
    · split at h <;> (first | exact (nomatch h) | exact nsx h)
    · exact nsx h
  · exact nsx h
section
variable {C : Cy} {K : Frag} {A : Around} {E : Value → Shared → Prop} {W : Wd} {σ : St} {s : Shared} {n : Nat}
theorem Go.kp {h : Heap} {tk : Nat} (k : ∀ b o, s.heap.get? b = some o → h.get? b = some o) : Go C A [] W s W { s with heap := h, toks := tk } := Go.grow k
theorem fresh_mt (R : StR C W σ s) {x : Addr} (h : s.heap.get? x = none) : x ∉ W.mt := fun m => by
  refine w5 (R.live _ m) fun o e => ?_
  rw [h] at e; exact nsx e
theorem VR.kp {d : V} {v : Value} {h : Heap} (x : VR C.toCx W s.heap d v) (k : ∀ b o, s.heap.get? b = some o → h.get? b = some o) : VR C.toCx W h d v :=
  x.mono (.refl _ _) (.of (fun _ => False) (fun _ => False) fun b o e _ => k b o e) (fun _ t => t.elim) (fun _ t => t.elim)
set_option maxHeartbeats 4000000 in
theorem thing_leaf (D : Fd C K) {k f z : V} {a : Addr} {vals : List Value} {Q : Value → Shared → Prop} (ea : C.addr "Thing" = some a) (hr : Room A (n + 1)) (FF : FmR C A W s.heap) (R : StR C W σ s) (xs : VRs C.toCx W s.heap [k, f, z] vals) (q : Val C A [] W s σ (.thing k f z) Q) : wpAny C.M A (call (.ref a) vals) Q E s := by
  have e1 := ea
  rw [D.addr, D.ok.thingAd] at e1; clear ea; (revert e1; refine sm_r fun zz => ?_; subst zz)
  refine VRs.e3 xs fun vk vf vz xk xf xz => ?_
  refine w5 thing_fd fun pp e => ?_
  refine w5 (iniR_some (D.ok.thingI.trans e)) fun fn I => ?_
  have hdf := iniDfl_none I D.ok.thingN
  refine x5 (I.pars) fun as ds hp1 hp2 => ?_
  refine W2 (D.ok.thingF) fun t1 t2 t3 => ?_
  refine wi4 (D.ok.thingS) fun u1 u2 u3 u4 u5 => ?_
  refine W9 (D.top) fun p loose mean mg mb Tp => ?_
  have X : K.In s.heap := D.kin.keeps R.ground
  refine wpAny_call (make_core (makes_of X t3) (looks_findIn X t1) (fun self => bind_fn X self (beq_iff_eq.mp t2)) (.inl rfl) ?_)
  have k1 : ∀ b o, s.heap.get? b = some o → ((s.heap.push emptyDict).push (instObj thingC s.heap.objs.size)).get? b = some o := fun b o e => Heap.get?_push_of_some _ (Heap.get?_push_of_some _ e)
  have hx : ((s.heap.push emptyDict).push (instObj thingC s.heap.objs.size)).get? (s.heap.objs.size + 1) = some (instObj thingC s.heap.objs.size) := by heap_get
  have hd : ((s.heap.push emptyDict).push (instObj thingC s.heap.objs.size)).get? s.heap.objs.size = some (dictOf [] 0) := Heap.get?_push_of_some _ (Heap.get?_push_at rfl rfl)
  have nx : s.heap.get? (s.heap.objs.size + 1) = none := Heap.get?_none_of_le (Nat.le_succ _)
  have nd : s.heap.get? s.heap.objs.size = none := Heap.get?_none_of_le (Nat.le_refl _)
  have hb : BindsTo { s with heap := (s.heap.push emptyDict).push (instObj thingC s.heap.objs.size) } fn ⟨[.ref (s.heap.objs.size + 1), vk, vf, vz], []⟩ [("self", .ref (s.heap.objs.size + 1)), ("kind", vk), ("fields", vf), ("sizes", vz)] := by
    have := bind_plain' hp1 hdf (by refine rwm (hp2) ?_; decide +kernel) [.ref (s.heap.objs.size + 1), vk, vf, vz] (by refine rwm (hp2) ?_; rfl)
    rw [hp2] at this
    exact BindsTo.of_eq this
  have hdep : A.depth + 1 < recursionLimit := by have := hr.depth; refine (?_ : A.depth + 1 < 1000); omega
  refine ini_code (C := C) (A := A.under (.builtin "type.__call__" ⟨[.ref thingC, vk, vf, vz], []⟩)) (s := { s with heap := (s.heap.push emptyDict).push (instObj thingC s.heap.objs.size) }) I (X.keeps k1) ((Tp.nolimit.keeps R.ground).keeps k1) hdep hb (fun p m => by simp only [List.mem_cons, List.not_mem_nil, or_false] at m; rcases m with rfl | rfl | rfl | rfl <;> kernel_rfl) (by decide +kernel) fun env h' tk N hL hns k2 => ?_
  have sz : ((s.heap.push emptyDict).push (instObj thingC s.heap.objs.size)).objs.size = s.heap.objs.size + 2 := by (refine rwm (Heap.size_push ..) ?_; rw [Heap.size_push])
  have nl : env.locals = s.heap.objs.size + 2 := hL.trans sz
  have hns' : h'.Ns env.locals (fun y => ([("self", .ref (s.heap.objs.size + 1)), ("kind", vk), ("fields", vf), ("sizes", vz)] : List (Str × Value)).reverse.lookup y) := by refine rwm (hL) ?_; exact hns
  have S : IniAt env.locals (fun y => ([("self", .ref (s.heap.objs.size + 1)), ("kind", vk), ("fields", vf), ("sizes", vz)] : List (Str × Value)).reverse.lookup y) (s.heap.objs.size + 1) (instObj thingC s.heap.objs.size) [] 0 s { s with heap := h', toks := tk } :=
    ⟨hns', k2 _ _ hx, .inr (Z5 _ rfl (Nat.ne_of_lt (Nat.lt_succ_self _)) (k2 _ _ hd) nd (by refine rwm (nl) ?_; exact Nat.ne_of_lt (by omega))), fun b o _ e => k2 _ _ (k1 _ _ e), (x7 h' tk rfl), by refine rwm (nl) ?_; exact Nat.ne_of_lt (by omega)⟩
  have TC : IniCls K thingC := ⟨u1, u2, D.ok.thingD⟩
  have XS : ∀ {h : Heap} {tk' : Nat} {ox : Obj} {es : List DictEntry} {m : Nat} {mm : Str → Option Value}, IniAt env.locals mm (s.heap.objs.size + 1) ox es m s { s with heap := h, toks := tk' } → K.In h := fun S => X.keeps fun b o e => S.kp b o (fun z => by rw [z, nx] at e; exact nsx e) e
  refine wpAny_execs_cons (ini_set N TC u3 S (XS S) rfl rfl (by decide +kernel) (by decide +kernel) (by decide +kernel) rfl rfl (fun _ => nofun) rfl (by kernel_rfl) (by decide) fun s₁ d₁ key₁ t₁ ek₁ S₁ hd₁ => ?_)
  subst ek₁
  cases hd₁ _ rfl
  refine w9 (S₁.sm) fun h₁ tk₁ zz1 => ?_
  subst zz1
  refine wpAny_execs_cons (ini_set N TC u4 S₁ (XS S₁) rfl rfl (by decide +kernel) (by decide +kernel) (by decide +kernel) rfl rfl (fun _ => nofun) rfl (by kernel_rfl) (by refine (?_ : (1 : Nat) ≤ 900); decide) fun s₂ d₂ key₂ t₂ ek₂ S₂ hd₂ => ?_)
  subst ek₂
  cases hd₂ _ rfl
  refine w9 (S₂.sm) fun h₂ tk₂ zz1 => ?_
  subst zz1
  refine wpAny_execs_cons (ini_set N TC u5 S₂ (XS S₂) rfl rfl (by decide +kernel) (by decide +kernel) (by decide +kernel) rfl rfl (fun _ => nofun) rfl (by kernel_rfl) (by refine (?_ : (2 : Nat) ≤ 900); decide) fun s₃ d₃ key₃ t₃ ek₃ S₃ hd₃ => ?_)
  subst ek₃
  cases hd₃ _ rfl
  refine w9 (S₃.sm) fun h₃ tk₃ zz1 => ?_
  subst zz1
  refine wpAny_execs_nil ?_
  have k3 : ∀ b o, s.heap.get? b = some o → h₃.get? b = some o := fun b o e => S₃.kp b o (fun z => by rw [z, nx] at e; exact nsx e) e
  have k4 := S₃.dict
  rcases k4 with ⟨z, _⟩ | ⟨dx, z1, z2, z3, z4, z5⟩
  · exact snx z
  · clear z2 z4 z5
    (revert z1; refine sm_r fun zz => ?_; subst zz)
    refine ⟨rfl, q _ _ _ (Go.kp k3) (R.grow k3) (.thing ⟨_, _, _, ⟨S₃.ob, fresh_mt R nx, rfl⟩, by exact rwm (D.thing) rfl, rfl, rfl, ⟨z3, fresh_mt R nd, rfl⟩, ?_, ?_, ?_⟩ (xk.kp k3) (xf.kp k3) (xz.kp k3))⟩
    · refine rwm (lookIn_dict ..) ?_; kernel_rfl
    · refine rwm (lookIn_dict ..) ?_; kernel_rfl
    · refine rwm (lookIn_dict ..) ?_; kernel_rfl
end
inductive ThrO (K : Frag) : Prop
  | mk (nm q : Str) (N : Addr) (bs bm : List Value) (hdct : Bool) (sn : List Str) (sub : List Value) (col : Option Bool) (dd : Option Addr) (k0 k1 k2 k3 k5 : Option Value) : K.lookup thrownC = some (excClassObj nm q thrownC N bs bm hdct sn sub false col dd k0 k1 k2 k3 k5 "Exception.__new__") →
    bm.contains (.type "BaseException") = true → bm.contains (.type "Exception") = true → bm.contains (.type "AttributeError") = false → bm.contains (.type "NameError") = false → ThrO K
theorem six {α : Type} {l : List α} (h : l.length = 6) : ∃ a b c d e f, l = [a, b, c, d, e, f] := by
  match l, h with
  | [a, b, c, d, e, f], _ => exact ⟨a, b, c, d, e, f, rfl⟩
theorem thrown_obj {K : Frag} (h : thrownK K = true) : ThrO K := by
  refine bd_e3 (getD_true h) fun t cd sl hk0 h => ?_
  obtain ⟨dd, hk⟩ := view_some hk0
  · replace h := Option.some.inj h
    simp only [Bool.and_eq_true, decide_eq_true_eq, Bool.not_eq_true'] at h
    refine w8 h fun zz1 h6 => ?_
    clear h
    obtain ⟨⟨⟨⟨h1, h2⟩, h3⟩, h4⟩, h5⟩ := zz1
    subst h1
    split at h4
    · rename_i c bm hm
      simp only [Bool.and_eq_true, Bool.not_eq_true'] at h4
      refine w8 h4 fun zz1 m5 => ?_
      clear h4
      obtain ⟨⟨⟨m1, m2⟩, m3⟩, m4⟩ := zz1
      have m1 := Nat.eq_of_beq_eq_true m1
      subst m1
      split at h6
      · rename_i i h4'
        have e := of_decide_eq_true h6
        clear h6
        subst e
        obtain ⟨l⟩ := sl
        have h5 := Nat.eq_of_beq_eq_true h5
        obtain ⟨k0, k1, k2, k3, k4, k5, rfl⟩ := six h5
        have h4' : some k4 = some (some (Value.builtin "Exception.__new__")) := h4'
        injection h4' with h4'
        clear h5
        subst h4'
        obtain ⟨nm, bs, mro, N, q, hdct, sn, sub, ab, col, hd⟩ := cd
        dsimp only at hm h2 h3
        subst hm h2 h3
        exact ⟨nm, q, N, bs, bm, hdct, sn, sub, col, dd, k0, k1, k2, k3, k5, hk, m2, m3, m4, m5⟩
      · exact ftx h6
    · exact ftx h4
section
variable {C : Cy} {K : Frag} {A : Around} {E : Value → Shared → Prop} {W : Wd} {σ : St} {s : Shared} {n : Nat}
theorem exc_get {x c : Addr} {ox : Obj} {od : Option Obj} {name : Str} {v : Value} {expr : Bool} {Q : Value → Shared → Prop} (X : K.In s.heap) (I : InstAt s.heap x ox c od) (hga : findIn K (.ref c) "__getattribute__" = some (some (.builtin "BaseException.__getattribute__"))) (hk : findIn K (.ref c) "__getattr__" = some none)
    (hb : mroIn K c (.type "BaseException") = some true) (hf : findObj K c od name = some (.value v)) (hh : handedIn v = true) (q : Q v { s with toks := s.toks + 1 }) : wpAny C.M A (getAttr (.ref x) name expr) Q E s := by
  have FX := PySem.F.excAttr_ValueError.ga
  have L0 := I.type (M := C.M)
  refine wpAny_bind (wpAny_mkText (wpAny_holding (wpAny_bind (L0 _ _ _ _ (fun _ _ e => e) (wpAny_bind (looks_findIn X hga _ _ _ _ (fun _ _ e => e) ?_))))))
  dsimp only
  (refine rwm (show (onTheHeap (.ref c) && Value.builtin "BaseException.__getattribute__" == Value.builtin "object.__getattribute__") = false from by rw [show (Value.builtin "BaseException.__getattribute__" == Value.builtin "object.__getattribute__") = false from by decide +kernel, Bool.and_false]) ?_; refine rwm (if_neg (by decide)) ?_)
  refine wpAny_bind ((looks_hook (M := C.M) X (mc := .ref c) (r := none) (by refine rwm (if_pos (by rfl)) ?_; exact hk)) _ _ _ _ (fun _ _ e => e) (wpAny_bind (wpAny_attempt (wpAny_holding ?_))))
  unfold callGetattribute
  (refine rwm (show (expr && onTheHeap (Value.builtin "BaseException.__getattribute__")) = false from Bool.and_false _) ?_; refine rwm (if_neg (by decide)) ?_)
  unfold boundAndCalled
  refine rwm (FX.bind ..) ?_
  refine wpAny_bind (wpAny_pure ?_)
  refine (?_ : wpAny _ _ (call (.builtin "BaseException.__getattribute__") [.ref x, .str name s.toks]) _ _ _)
  refine wpAny_call (codeAny_call_builtin FX.plain PySem.F.entry_bexc_ga ?_)
  refine @check_slot C.M _ _ { s with toks := s.toks + 1 } "BaseException.__getattribute__" "BaseException" "__getattribute__" (.ref x) [.str name s.toks] [] _ (by decide +kernel) (by decide +kernel) (I.type.andThen (looks_mroIn X hb)) (PySem.F.args_bexc_ga (.ref x) (.str name s.toks)) ?_
  have L1 := looks_find (M := C.M) X I hf
  unfold Builtin.«object.__getattribute__»
  refine wpAny_bind (wpAny_pure (wpAny_bind (wpAny_pure (wpAny_bind (L0.here (s := { s with toks := s.toks + 1 }) (wpAny_bind (L1.here (s := { s with toks := s.toks + 1 }) ?_)))))))
  refine wpAny_pure ?_
  refine (?_ : wpAny _ _ (handedOut v) _ _ _)
  refine rwm (handedOut_of hh) ?_; exact wpAny_pure q
variable {nm q' : Str} {c N : Addr} {bs bm : List Value} {hdct : Bool} {sn : List Str} {sub : List Value} {col : Option Bool} {dd : Option Addr} {k0 k1 k2 k3 k5 : Option Value}
theorem exc_new {v : Value} {Rr : Result → Shared → Prop} (hC : s.heap.get? c = some (excClassObj nm q' c N bs bm hdct sn sub false col dd k0 k1 k2 k3 k5 "Exception.__new__")) (hB : bm.contains (.type "Exception") = true) (hA : bm.contains (.type "AttributeError") = false) (hN : bm.contains (.type "NameError") = false)
    (q : Rr (.ok (.ret (.ref (s.heap.objs.size + 1)))) { s with heap := (s.heap.push { cls := .type "tuple", data := .seq #[v] }).push { cls := .ref c, data := .fields #[.ref s.heap.objs.size, .none, .none, .none, .bool false, .none] } }) :
    codeAny C.M A (.call (.builtin "Exception.__new__") ⟨[.ref c, v], []⟩) Rr s := by
  have F := PySem.F.excBase_Exception
  have hcB : (Value.ref c :: bm).contains (.type "Exception") = true := by (refine rwm (List.contains_cons) ?_; refine rwm (hB) ?_; rw [Bool.or_true])
  have hcA : (Value.ref c :: bm).contains (.type "AttributeError") = false := by (refine rwm (List.contains_cons) ?_; refine rwm (hA) ?_); rfl
  have hcN : (Value.ref c :: bm).contains (.type "NameError") = false := by (refine rwm (List.contains_cons) ?_; refine rwm (hN) ?_); rfl
  obtain ⟨h, g, d, t, os⟩ := s
  refine codeAny_call_builtin_code (Code.quiet_builtin _ F.quiet) ?_
  have hstar := F.noStar
  simp only [checkBuiltinCall, F.newKind, F.newSplit, F.newRow]
  repeat (first | refine wpAny_loadPart_at hC ?_ | (refine wpAny_isSubtype_exc hC ?_; refine rwm (hcB) ?_) | refine wpAny_staticBase_exc hC ?_ | refine wpAny_madeBy_exc hC ?_ | simp only [bne_self_eq_false, Bool.false_eq_true, if_false] | wp_step)
  have hends := F.ends
  refine codeAny_builtinAt F.entry ?_
  unfold Builtin.«BaseException.__new__»
  refine PySem.wpAt_bind ?_
  refine (?_ : PySem.wpAt _ _ _ (stack >>= _) _ _ _)
  refine PySem.wpAt_bind (PySem.wpAt_stack fun p below => PySem.wpAt_of_wpAny ?_)
  wp_walk
  refine PySem.wpAt_of_wpAny ?_
  refine rwm (F.owner) ?_
  repeat (first | with_reducible refine wpAny_madeHere_exc F.canon hC ?_ | with_reducible refine wpAny_loadPart_at hC ?_ | (with_reducible refine wpAny_isSubtype_exc hC ?_; first | rw [hcB] | rw [hcA] | rw [hcN]) | wp_step)
  refine (?_ : Rr _ _)
  refine rwm (Heap.size_push ..) ?_
  exact q
theorem exc_init_check {x : Addr} {ox : Obj} {v : Value} {Q : Unit → Shared → Prop} (hC : s.heap.get? c = some (excClassObj nm q' c N bs bm hdct sn sub false col dd k0 k1 k2 k3 k5 "Exception.__new__")) (hB : bm.contains (.type "Exception") = true) (he : s.heap.get? x = some ox) (hcls : ox.cls = .ref c) (q : Q () s) : wpAny C.M A (checkBuiltinCall "Exception.__init__" ⟨[.ref x, v], []⟩) Q E s := by
  have F := PySem.F.excBase_Exception
  have hcB : (Value.ref c :: bm).contains (.type "Exception") = true := by (refine rwm (List.contains_cons) ?_; refine rwm (hB) ?_; rw [Bool.or_true])
  have hshort := F.noStar
  obtain ⟨h, g, d, t, os⟩ := s
  simp only [checkBuiltinCall, F.initKind, F.initSplit, F.initRow]
  repeat (first | (with_reducible refine wpAny_loadPart_at he ?_; refine rwm (hcls) ?_) | with_reducible refine wpAny_loadPart_at hC ?_ | (with_reducible refine wpAny_isSubtype_exc hC ?_; refine rwm (hcB) ?_) | wp_step)
  exact q
theorem exc_init {x t₀ : Addr} {v : Value} {Q : Value → Shared → Prop} (hC : s.heap.get? c = some (excClassObj nm q' c N bs bm hdct sn sub false col dd k0 k1 k2 k3 k5 "Exception.__new__")) (hB : bm.contains (.type "Exception") = true) (hx : s.heap.get? x = some { cls := .ref c, data := .fields #[.ref t₀, .none, .none, .none, .bool false, .none] })
    (q : ∀ h' t₁, h'.get? x = some { cls := .ref c, data := .fields #[.ref t₁, .none, .none, .none, .bool false, .none] } → (∀ b o, b ≠ x → s.heap.get? b = some o → h'.get? b = some o) → Q .none { s with heap := h' }) :
    wpAny C.M A (call (.builtin "Exception.__init__") [.ref x, v]) Q E s := by
  have F := PySem.F.excBase_Exception
  refine wpAny_call (codeAny_call_builtin F.init.plain F.initEntry (exc_init_check hC hB hx rfl ?_))
  clear hC
  obtain ⟨h, g, d, t, os⟩ := s
  have hx' : (h.push { cls := .type "tuple", data := .seq #[v] }).get? x = some { cls := .ref c, data := .fields #[.ref t₀, .none, .none, .none, .bool false, .none] } := Heap.get?_push_of_some _ hx
  wp_walk
  refine q _ _ (Heap.get?_update_self _ hx' rfl) fun b o n e => (Heap.get?_update_ne _ _ _ _ n).trans (Heap.get?_push_of_some _ e)
theorem exc_make {v : Value} {fI : Addr} {Q : Value → Shared → Prop} (X : K.In s.heap) (hC : s.heap.get? c = some (excClassObj nm q' c N bs bm hdct sn sub false col dd k0 k1 k2 k3 k5 "Exception.__new__")) (hB : bm.contains (.type "Exception") = true) (hA : bm.contains (.type "AttributeError") = false) (hN : bm.contains (.type "NameError") = false)
    (hself : mroIn K c (.ref c) = some true) (hcall : specialIn K (.ref c) "__call__" = some (some (.builtin "type.__call__"))) (htyp : instIn K (.ref c) (.type "type") = some true) (hi : findIn K (.ref c) "__init__" = some (some (.ref fI))) (hf : typeIn K (.ref fI) = some (.type "function"))
    (q : codeAny C.M (A.under (.builtin "type.__call__" ⟨[.ref c, v], []⟩)) (.call (.ref fI) ⟨[.ref (s.heap.objs.size + 1), v], []⟩) (InitBack (s.heap.objs.size + 1) fun r s' => match r with | .ok (.ret v) => Q v s' | .ok _ => False | .error e => E e s')
      { s with heap := (s.heap.push { cls := .type "tuple", data := .seq #[v] }).push { cls := .ref c, data := .fields #[.ref s.heap.objs.size, .none, .none, .none, .bool false, .none] } }) :
    wpAny C.M A (call (.ref c) [v]) Q E s := by
  refine wpAny_call (codeAny_of_tree ?_)
  refine (?_ : wpAny _ _ (callAny (.ref c) _) _ _ _)
  obtain ⟨h, g, d, t, os⟩ := s
  refine nd_load hC ?_
  refine (?_ : wpAny _ _ (callAny.viaDunder (.ref c) _) _ _ _)
  unfold callAny.viaDunder
  have call := looks_specialIn (M := C.M) X hcall
  refine wpAny_bind (call.at ?_)
  dsimp only
  refine rwm (tc_bind ..) ?_
  refine wpAny_bind (wpAny_pure (wpAny_bind (wpAny_pure ?_)))
  refine wpAny_pure (a := Fin.again (.call (.builtin "type.__call__") ⟨[.ref c, v], []⟩)) (And.intro rfl ?_)
  refine codeAny_call_builtin_at (Code.quiet_builtin _ (by decide +kernel)) entry_typeCall (check_slot tc_kind tc_split (looks_instIn X htyp) (tc_args _ _ _) ?_)
  unfold Builtin.«type.__call__»
  repeat (first | with_reducible refine wpAny_loadPart_at hC ?_ | with_reducible refine wpAny_madeBy_exc hC ?_ | wp_step)
  refine exc_new (C := C) (s := ⟨h, g, d, t, os⟩) hC hB hA hN ?_
  have k : ∀ b o, h.get? b = some o → ((h.push { cls := .type "tuple", data := .seq #[v] }).push { cls := .ref c, data := .fields #[.ref h.objs.size, .none, .none, .none, .bool false, .none] }).get? b = some o := fun b o e => Heap.get?_push_of_some _ (Heap.get?_push_of_some _ e)
  have hx : ((h.push { cls := .type "tuple", data := .seq #[v] }).push { cls := .ref c, data := .fields #[.ref h.objs.size, .none, .none, .none, .bool false, .none] }).get? (h.objs.size + 1) = some { cls := .ref c, data := .fields #[.ref h.objs.size, .none, .none, .none, .bool false, .none] } := by heap_get
  have t1 : Looks C.M ((h.push { cls := .type "tuple", data := .seq #[v] }).push { cls := .ref c, data := .fields #[.ref h.objs.size, .none, .none, .none, .bool false, .none] }) (typeOf (.ref (h.objs.size + 1))) (.ref c) := (Looks.ld hx).andThen .now
  have s1 := looks_mroIn (M := C.M) (X.keeps k) hself
  have i1 := looks_findIn (M := C.M) (X.keeps k) hi
  have b1 := bind_fn (M := C.M) (X.keeps k) (.ref (h.objs.size + 1)) hf
  unfold isInstance callSpecial? specialOf
  repeat (first | with_reducible refine wpAny_call ?_ | lk)
  refine codeAny_mono q fun r s' z => ?_
  rcases r with e | (v | _ | _ | _) <;> first | exact z | exact z.elim | skip
  revert z
  intro zz0
  refine w8 zz0 fun zz1 z => ?_
  clear zz0
  subst zz1
  exact wpAny_pure (wpAny_pure z)
end
theorem iniDfl_some {K : Frag} {a : Addr} {ps : List Str} {body : List Stmt} {names : List (Str × NameKind)} {fn : FuncData} {v : Value} (I : IniFn K a ps body names fn) (h : iniDfl K a = some (some v)) : ∃ T oc od vs n sl, fn.defaults = .ref T ∧ K.lookup T = some ⟨oc, od, .seq #[v] n, sl⟩ ∧ vs = #[v] := by
  refine W0 (I.lk) fun oc od sl hk => ?_
  unfold iniDfl fnAt at h
  rw [hk] at h
  have h : (match fn.defaults with
    | .none => some none
    | .ref T => match K.lookup T with
      | some ⟨_, _, .seq vs _, _⟩ => match vs.toList with
        | [v] => some (some v)
        | _ => none
      | _ => none
    | _ => none) = some (some v) := h
  split at h
  · exact (nomatch h)
  · rename_i T hT
    split at h
    · rename_i oc2 od2 vs n sl2 hk2
      split at h
      · rename_i v' hv
        cases h
        have : vs = #[v] := by (refine rwl (Array.toArray_toList (xs := vs)) ?_; exact rwm (hv) rfl)
        clear hv
        subst this
        exact ⟨T, _, _, _, _, _, hT, hk2, rfl⟩
      · exact nsx h
    · exact nsx h
  · exact nsx h
theorem excType_init {prog : Program} {w : World} {A : Around} {E : Value → Shared → Prop} {s : Shared} {pl : Sem Bool} {Q : Value × List Value → Shared → Prop} {L : Addr} {m : Str → Option Value} (hn : s.heap.Ns L m) (h : Q (.builtin "Exception.__init__", []) { s with toks := s.toks + 1 }) : wpAny (model prog w) A (getMethod (.type "Exception") "__init__" pl) Q E s :=
  method_type (K := []) (h₀ := { objs := #[] }) (m := m) (L := L) ⟨hn, fun b o e => by simp [Heap.get?] at e, Nat.zero_le _⟩ (fun b o e => by exact nsx e) (by kernel_rfl) (by kernel_rfl) (by kernel_rfl) rfl h
section
variable {C : Cy} {K : Frag} {A : Around} {E : Value → Shared → Prop} {W : Wd} {σ : St} {s : Shared} {n : Nat}
theorem getL_all {es : List DictEntry} (h : es.any (·.refKey) = false) (y : Str) : (getL y es).isSome = true := by
  unfold getL
  split
  · rfl
  · refine rwm (h) ?_; rfl
theorem find_putL {name : Str} {hs : Int} {key v : Value} (hk : key.isStr name = true) : ∀ es : List DictEntry, ∃ e, (putL name hs key v es).find? (·.key.isStr name) = some e ∧ e.val = v
  | [] => (w7 ⟨hs, key, v⟩ (by unfold putL; (refine rwm (List.find?_cons) ?_; exact rwm (hk) rfl)) rfl)
  | e :: r => by
    unfold putL
    split
    · rename_i h
      exact (w7 ⟨e.hash, e.key, v⟩ (by (refine rwm (List.find?_cons) ?_; exact rwm (h) rfl)) rfl)
    · rename_i h
      rw [Bool.not_eq_true] at h
      obtain ⟨e', h1, h2⟩ := find_putL hk r
      exact (w7 e' (by (refine rwm (List.find?_cons) ?_; refine rwm (h) ?_); exact h1) h2)
theorem getL_putL {name : Str} {hs : Int} {v : Value} {tk : Tok} (es : List DictEntry) : getL name (putL name hs (.str name tk) v es) = some (some v) := by
  refine w6 (find_putL (name := name) (hs := hs) (key := .str name tk) (v := v) (by simp [Value.isStr]) es) fun e h1 h2 => ?_
  unfold getL
  (refine rwm (h1) ?_; exact rwl (h2) rfl)
theorem meth_open {prog : Program} {w : World} {E : Value → Shared → Prop} {s : Shared} {A : Around} {o a b : Expr} {name : Str} {ap pos : Pos} {env : Env} {Q : Value → Shared → Prop} (hbase : attributeBase o name env (eval o env) = eval o env) (hl : (ap.endLine == pos.line) = true)
    (ha : backTo pos (starEach [a, b] env) = [(false, eval a env), (false, eval b env)])
    (h : wpAny (model prog w) A (eval o env) (fun ov s₁ => ∀ pl, wpAny (model prog w) A (getMethod ov name pl) (fun fx s₂ => wpAny (model prog w) A (callWith pos fx.1 fx.2 [(false, eval a env), (false, eval b env)] []) Q E s₂) E s₁) E s) :
    wpAny (model prog w) A (eval (.Call (.Attribute o name ap) [a, b] [] pos) env) Q E s := by
  have hform : methodCallForm (([a, b] : List Expr).length + ([] : List Keyword).length) (backTo pos (starEach [a, b] env)) (backToKw pos (keywordEach [] env)) = true := by
    unfold methodCallForm
    refine rwm (ha) ?_; rfl
  (refine rwm (arm_eval_Call ..) ?_; refine rwm (hbase) ?_)
  refine wpAny_bind (wpAny_mono h (fun ov s₁ h₁ => wpAny_bind (wpAny_standAt ?_)) fun _ _ x => x)
  have hpos : methodCallPos true o env ap pos = pure pos := by unfold methodCallPos; simp [hl]
  unfold methodCall
  refine rwm (hform) ?_
  refine wpAny_bind (wpAny_holding ?_)
  refine wpAny_mono (h₁ _) (fun fx s₂ h₂ => ?_) fun _ _ x => x
  refine wpAny_bind (wpAny_of_eq hpos ?_)
  refine rwm (ha) ?_
  exact h₂
noncomputable abbrev rawObj (t : Addr) (d : Option Addr) : Obj := { cls := .ref thrownC, dict := d, data := .fields #[.ref t, .none, .none, .none, .bool false, .none] }
theorem rows_init (D : Fd C K) (ground : ∀ b o, C.h₀.get? b = some o → s.heap.get? b = some o) (hdep : A.depth < recursionLimit) {x t : Addr} {v : Value} {Rr : Result → Shared → Prop} (hx : s.heap.get? x = some (rawObj t none)) (nx : C.h₀.get? x = none)
    (load : ∀ {env : Env} {s' : Shared} {Q E : Value → Shared → Prop}, (∀ b o, C.h₀.get? b = some o → s'.heap.get? b = some o) → IniEnv env [("self", .local), ("message", .local), ("spot", .local), ("Exception", .globalImplicit)] → Q (.type "Exception") s' → wpAny C.M (A.deeper env) (loadName env "Exception") Q E s')
    (q : ∀ h' tk t' dx es n, h'.get? x = some (rawObj t' (some dx)) → dx ≠ x → s.heap.get? dx = none → h'.get? dx = some (dictOf es n) → (∀ y, (getL y es).isSome = true) → es.length = 2 → (∀ b o, b ≠ x → s.heap.get? b = some o → h'.get? b = some o) → Rr (.ok (.ret .none)) { s with heap := h', toks := tk }) :
    codeAny C.M A (.call (.ref 36) ⟨[.ref x, v], []⟩) Rr s := by
  refine w6 rows_fd fun pp e hline => ?_
  refine w5 (iniR_some (D.ok.rowsI.trans e)) fun fn I => ?_
  refine wj0 (iniDfl_some I D.ok.rowsN) fun T oc od vs n sl hT hkT _ => ?_
  refine x5 (I.pars) fun as ds hp1 hp2 => ?_
  refine wi4 (D.ok.thrownS) fun u1 u2 u3 u4 u5 => ?_
  refine W9 (D.top) fun p loose mean mg mb Tp => ?_
  obtain ⟨nm, q', N', bs, bm, hdct, sn, sub, col, dd, k0, k1, k2, k3, k5, hCk, hB0, hB, hA, hN⟩ := thrown_obj D.ok.thrownO
  have kin : K.In C.h₀ := D.kin
  have X : K.In s.heap := kin.keeps ground
  have hb : BindsTo s fn ⟨[.ref x, v], []⟩ [("self", .ref x), ("message", v), ("spot", .none)] := bind_dflt (ys := ["self", "message"]) (x := "spot") hp1 hp2 (by decide +kernel) hT (X _ _ hkT) rfl (vals := [.ref x, v]) rfl
  refine ini_code (C := C) I X (Tp.nolimit.keeps ground) hdep hb (fun p m => by simp only [List.mem_cons, List.not_mem_nil, or_false] at m; rcases m with rfl | rfl | rfl <;> kernel_rfl) (by decide +kernel) fun env h' tk N hL hns k2 => ?_
  have hL' : s.heap.get? env.locals = none := by refine rwm (hL) ?_; exact Heap.get?_none_of_le (Nat.le_refl _)
  have xL : x ≠ env.locals := fun z => by rw [← z, hx] at hL'; exact snx hL'
  have hns' : h'.Ns env.locals (fun y => ([("self", .ref x), ("message", v), ("spot", .none)] : List (Str × Value)).reverse.lookup y) := by refine rwm (hL) ?_; exact hns
  have TC : IniCls K thrownC := ⟨u1, u2, D.ok.thrownD⟩
  have gr : ∀ {h : Heap}, (∀ b o, b ≠ x → s.heap.get? b = some o → h.get? b = some o) → ∀ b o, C.h₀.get? b = some o → h.get? b = some o := fun k b o e => k b o (fun z => by rw [z, nx] at e; exact nsx e) (ground b o e)
  have XS : ∀ {h : Heap}, (∀ b o, b ≠ x → s.heap.get? b = some o → h.get? b = some o) → K.In h := fun k => kin.keeps (gr k)
  refine wpAny_execs_cons (wpAny_Expr (meth_open (by rfl) hline (by rfl) ?_) (by unfold interactive; refine rwm (N.kind) ?_; rfl))
  refine wpAny_Name (load (gr fun b o _ e => k2 b o e) N fun pl => ?_) (by decide +kernel)
  refine excType_init hns' ?_
  refine callWith_of (P := fun h => Kept C h (.builtin "Exception.__init__")) rfl (fun _ k => k) (Calls.evalArgs_plain ?_)
  have hh : ∀ {y z : Pos}, backTo (pp 13) (starEach [.Name "self" y, .Name "message" z] env) = [(false, eval (.Name "self" y) env), (false, eval (.Name "message" z) env)] := rfl
  refine rwl (hh) ?_
  refine wpAny_items_cons (wpAny_Name (wpAny_loadName_local N.kind ((congrArg (List.lookup ("self" : Str)) N.names).trans rfl) hns' (v := .ref x) (by rfl) ?_) (by decide +kernel))
  refine wpAny_items_cons (wpAny_Name (wpAny_loadName_local N.kind ((congrArg (List.lookup ("message" : Str)) N.names).trans rfl) hns' (v := v) (by rfl) ?_) (by decide +kernel))
  refine wpAny_items_nil ⟨(w7 .machine (.inr (.inl rfl)) .now), ?_⟩
  refine exc_init (t₀ := t) (by exact gr (fun b o _ e => k2 b o e) _ _ (kin _ _ hCk)) hB (k2 _ _ hx) fun h₁ t₁ g1 g2 => ?_
  have k3 : ∀ b o, b ≠ x → s.heap.get? b = some o → h₁.get? b = some o := fun b o n e => g2 b o n (k2 b o e)
  have hns₁ : h₁.Ns env.locals (fun y => ([("self", .ref x), ("message", v), ("spot", .none)] : List (Str × Value)).reverse.lookup y) := by
    refine y9 hns' fun o es' ep e r => ?_
    clear hns'
    exact (W8 o es' ep (g2 _ _ (Ne.symm xL) e) r)
  have S : IniAt env.locals (fun y => ([("self", .ref x), ("message", v), ("spot", .none)] : List (Str × Value)).reverse.lookup y) x (rawObj t₁ none) [] 0 s { s with heap := h₁, toks := tk + 1 } :=
    ⟨hns₁, g1, .inl ⟨rfl, rfl, rfl⟩, k3, (x7 h₁ (tk + 1) rfl), xL⟩
  refine wpAny_execs_cons (ini_set N TC u3 S (XS S.kp) rfl rfl (by decide +kernel) (by decide +kernel) (by decide +kernel) rfl rfl (fun _ => nofun) rfl (by kernel_rfl) (by decide) fun s₁ d₁ key₁ t₁ ek₁ S₁ hd₁ => ?_)
  subst ek₁
  refine w9 (S₁.sm) fun h₁ tk₁ zz1 => ?_
  subst zz1
  refine wpAny_execs_cons (ini_set N TC u4 S₁ (XS S₁.kp) rfl rfl (by decide +kernel) (by decide +kernel) (by decide +kernel) rfl rfl (fun _ => nofun) rfl (by kernel_rfl) (by refine (?_ : (1 : Nat) ≤ 900); decide) fun s₂ d₂ key₂ t₂ ek₂ S₂ hd₂ => ?_)
  subst ek₂
  cases hd₂ _ rfl
  refine w9 (S₂.sm) fun h₂ tk₂ zz1 => ?_
  subst zz1
  refine wpAny_execs_nil ?_
  rcases S₂.dict with ⟨z, _⟩ | ⟨dx, z1, z2, z3, z4, z5⟩
  · exact snx z
  · (revert z1; refine sm_r fun zz => ?_; clear z5; subst zz)
    exact q _ _ _ _ _ _ S₂.ob z2 z4 z3 (fun y => getL_all (by kernel_rfl) y) (by kernel_rfl) S₂.kp
theorem load_blt' (D : Fd C K) (ground : ∀ b o, C.h₀.get? b = some o → s.heap.get? b = some o) {env : Env} {x : Str} {v : Value} {Q : Value → Shared → Prop} (e : nsIn K mainGlobals x = some none) (hn : x ≠ "__name__") (hv : bootBuiltins x = some v) (hk : env.scope.kind = .function) (hx : env.kindOf x = some .globalImplicit) (hg : env.globals = mainGlobals) (hb : env.builtins = builtinsNs) (q : Q v s) :
    wpAny C.M A (loadName env x) Q E s := by
  refine W9 (D.top) fun p loose mean mg mb T => ?_
  refine rwm (loadName_read hk hx) ?_
  exact PySem.Calls.loadGlobal_builtin (mg := mg) (mb := mb) (by refine rwm (hg) ?_; exact T.g.keeps ground) (mg_none_of D.kin T.g e) (by refine rwm (hb) ?_; exact T.b.keeps ground) ((T.builtins x hn).trans hv) q
theorem globAt_ok {x : Str} {a : Addr} (h : globAt K x a = true) : nsIn K mainGlobals x = some (some (.ref a)) := by
  unfold globAt at h
  rw [nsQ_eq] at h
  split at h
  · rename_i b hb
    (refine rwm (hb) ?_; exact rwm (Nat.eq_of_beq_eq_true h) rfl)
  · exact ftx h
theorem noMain_at {x : Str} (h : noMain K x = true) : nsIn K mainGlobals x = some none := by
  unfold noMain at h
  rw [nsQ_eq] at h
  split at h
  · assumption
  · exact ftx h
theorem thrown_make (D : Fd C K) (R : StR C W σ s) (hr : Room A (n + 3)) {v : Value} {Q : Value → Shared → Prop}
    (q : ∀ x h' tk t dx es m, s.heap.get? x = none → s.heap.get? dx = none → dx ≠ x → h'.get? x = some (rawObj t (some dx)) → h'.get? dx = some (dictOf es m) → lookIn "value" (dictOf es m) = some (some v) → (∀ b o, s.heap.get? b = some o → h'.get? b = some o) → Q (.ref x) { s with heap := h', toks := tk }) :
    wpAny C.M A (call (.ref thrownC) [v]) Q E s := by
  refine x5 thrown_fd fun pp kk e hline => ?_
  refine w5 (iniR_some (D.ok.thrownI.trans e)) fun fn I => ?_
  have hdf := iniDfl_none I D.ok.thrownN
  refine x5 (I.pars) fun as ds hp1 hp2 => ?_
  refine Y6 (D.ok.thrownF) fun t1 t2 t3 t4 => ?_
  refine wi4 (D.ok.thrownS) fun u1 u2 u3 u4 u5 => ?_
  refine W2 (D.ok.thrownB) fun m1 m2 m3 => ?_
  obtain ⟨r1, r2, r3, r4, r5, r6⟩ := D.ok.rowsG
  refine Y6 (D.ok.thrownM) fun w1 w2 w3 w4 => ?_
  refine W9 (D.top) fun p loose mean mg mb Tp => ?_
  obtain ⟨nm, q', N', bs, bm, hdct, sn, sub, col, dd, k0, k1, k2, k3, k5, hCk, hB0, hB, hA, hN⟩ := thrown_obj D.ok.thrownO
  have kin : K.In C.h₀ := D.kin
  have X : K.In s.heap := kin.keeps R.ground
  refine exc_make X (X _ _ hCk) hB hA hN m3 t3 t4 t1 (beq_iff_eq.mp t2) ?_
  have k1 : ∀ b o, s.heap.get? b = some o → ((s.heap.push { cls := .type "tuple", data := .seq #[v] }).push (rawObj s.heap.objs.size none)).get? b = some o := fun b o e => Heap.get?_push_of_some _ (Heap.get?_push_of_some _ e)
  have hx : ((s.heap.push { cls := .type "tuple", data := .seq #[v] }).push (rawObj s.heap.objs.size none)).get? (s.heap.objs.size + 1) = some (rawObj s.heap.objs.size none) := by heap_get
  have nx : s.heap.get? (s.heap.objs.size + 1) = none := Heap.get?_none_of_le (Nat.le_succ _)
  generalize hxe : s.heap.objs.size + 1 = x at *
  generalize hte : s.heap.objs.size = t at *
  generalize hhe : (s.heap.push { cls := .type "tuple", data := .seq #[v] }).push (rawObj t none) = H at *
  have nx0 : C.h₀.get? x = none := by
    induction w : C.h₀.get? x using Option.casesOn with
    | none => rfl
    | some o => have := R.ground _ _ w; rw [nx] at this; exact nsx this
  have hb : BindsTo { s with heap := H } fn ⟨[.ref x, v], []⟩ [("self", .ref x), ("value", v)] := by
    have := bind_plain' hp1 hdf (by refine rwm (hp2) ?_; decide +kernel) [.ref x, v] (by refine rwm (hp2) ?_; rfl)
    rw [hp2] at this
    exact BindsTo.of_eq this
  have hdep : A.depth + 2 < recursionLimit := by have := hr.depth; refine (?_ : A.depth + 2 < 1000); omega
  refine ini_code (C := C) (A := A.under (.builtin "type.__call__" ⟨[.ref thrownC, v], []⟩)) (s := { s with heap := H }) I (X.keeps k1) ((Tp.nolimit.keeps R.ground).keeps k1) (Nat.lt_of_succ_lt hdep) hb (fun p m => by simp only [List.mem_cons, List.not_mem_nil, or_false] at m; rcases m with rfl | rfl <;> kernel_rfl) (by decide +kernel) fun env h' tk N hL hns k2 => ?_
  have hL' : H.get? env.locals = none := by refine rwm (hL) ?_; exact Heap.get?_none_of_le (Nat.le_refl _)
  have xL : x ≠ env.locals := fun z => by rw [← z, hx] at hL'; exact snx hL'
  have hns' : h'.Ns env.locals (fun y => ([("self", .ref x), ("value", v)] : List (Str × Value)).reverse.lookup y) := by refine rwm (hL) ?_; exact hns
  have TC : IniCls K thrownC := ⟨u1, u2, D.ok.thrownD⟩
  have k4 : ∀ b o, s.heap.get? b = some o → h'.get? b = some o := fun b o e => k2 _ _ (k1 _ _ e)
  have X' : K.In h' := kin.keeps fun b o e => k4 b o (R.ground b o e)
  refine wpAny_execs_cons (wpAny_Expr (meth_open (by rfl) hline (by rfl) ?_) (by unfold interactive; refine rwm (N.kind) ?_; rfl))
  refine wpAny_Name (load_main D (globAt_ok w2) (R.grow (tk := tk) k4) N.kind ((congrArg (List.lookup ("RowsError" : Str)) N.names).trans rfl) N.glob fun pl => ?_) (by decide +kernel)
  refine method_cls X' r1 (cls_value X' r2 r3 rfl ?_)
  refine callWith_of (P := fun h => K.In h) rfl (fun h X => keeps_K r5 h X) (Calls.evalArgs_plain ?_)
  have hh : backTo (pp 9) (starEach [.Name "self" (pp 1), .Constant (.str "a value is thrown") (kk 0) (pp 2)] env) = [(false, eval (.Name "self" (pp 1)) env), (false, eval (.Constant (.str "a value is thrown") (kk 0) (pp 2)) env)] := rfl
  refine rwl (hh) ?_
  refine wpAny_items_cons (wpAny_Name (wpAny_loadName_local N.kind ((congrArg (List.lookup ("self" : Str)) N.names).trans rfl) hns' (v := .ref x) (by rfl) ?_) (by decide +kernel))
  refine wpAny_items_cons (wpAny_Constant_str ?_)
  refine wpAny_items_nil ⟨X', ?_⟩
  refine wpAny_call (rows_init D (fun b o e => k4 b o (R.ground b o e)) hdep (k2 _ _ hx) nx0 (fun {env' s' Q' E'} g N' q' => load_blt' D g (noMain_at w3) (by decide +kernel) (by kernel_rfl) N'.kind ((congrArg (List.lookup ("Exception" : Str)) N'.names).trans rfl) N'.glob N'.blt q') fun h₂ tk₂ t₂ dx es m g1 g2 g3 g4 g5 g6 g7 => ?_)
  have nd : s.heap.get? dx = none := by
    induction w : s.heap.get? dx using Option.casesOn with
    | none => rfl
    | some o => have := k4 _ _ w; rw [g3] at this; exact nsx this
  have hns₂ : h₂.Ns env.locals (fun y => ([("self", .ref x), ("value", v)] : List (Str × Value)).reverse.lookup y) := by
    refine y9 hns' fun o es' ep e r => ?_
    clear hns'
    exact (W8 o es' ep (g7 _ _ (Ne.symm xL) e) r)
  have dL : dx ≠ env.locals := fun z => by
    refine y9 hns' fun o es' ep e r => ?_
    clear hns'
    rw [← z, g3] at e; exact nsx e
  have S : IniAt env.locals (fun y => ([("self", .ref x), ("value", v)] : List (Str × Value)).reverse.lookup y) x (rawObj t₂ (some dx)) es m s { s with heap := h₂, toks := tk₂ } :=
    ⟨hns₂, g1, .inr (Z5 dx rfl g2 g4 nd dL), fun b o n e => g7 b o n (k4 b o e), (x7 h₂ tk₂ rfl), xL⟩
  have X₂ : K.In h₂ := kin.keeps fun b o e => S.kp b o (fun z => by rw [z, nx0] at e; exact nsx e) (R.ground b o e)
  refine wpAny_execs_cons (ini_set N TC u5 S X₂ rfl rfl (by decide +kernel) (by decide +kernel) (by decide +kernel) rfl rfl (fun _ => nofun) rfl (g5 _) (by refine rwm (g6) ?_; decide) fun s₃ d₃ key₃ t₃ ek₃ S₃ hd₃ => ?_)
  subst ek₃
  cases hd₃ _ rfl
  refine w9 (S₃.sm) fun h₃ tk₃ zz1 => ?_
  subst zz1
  refine wpAny_execs_nil ⟨rfl, ?_⟩
  rcases S₃.dict with ⟨z, _⟩ | ⟨dx', z1, z2, z3, z4, z5⟩
  · exact snx z
  · (revert z1; refine sm_r fun zz => ?_; clear z2 z4 z5; subst zz)
    exact q x h₃ tk₃ t₂ dx _ _ nx nd g2 S₃.ob z3 (by refine rwm (lookIn_dict ..) ?_; exact getL_putL _) fun b o e => S₃.kp b o (fun z => by rw [z, nx] at e; exact nsx e) e
end
noncomputable def thrt_fdB (pp : Nat → Pos) (kk : Nat → Nat) : List Stmt := [.Return (some (.Call (.Name "Thrown" (pp 0)) [.Call (.Name "error_value" (pp 1)) [(.Name "name" (pp 2)), .Tuple [.Call (.Name "text_value" (pp 3)) [(.Name "text" (pp 4))] [] (pp 5)] (kk 0) (pp 6)] [] (pp 7)] [] (pp 8))) (pp 9)]
theorem thrt_fd : ∃ (pp : Nat → Pos) (kk : Nat → Nat), defsT "thrown_text" = some ⟨["name", "text"], [], .stmts (thrt_fdB pp kk), [("name", .local), ("text", .local), ("Thrown", .globalImplicit), ("error_value", .globalImplicit), ("text_value", .globalImplicit)]⟩ := (x7 (fun n => [_, _, _, _, _, _, _, _, _, _].getD n default) (fun n => [_].getD n 0) rfl)
section
variable {C : Cy} {K : Frag} {A : Around} {E : Value → Shared → Prop} {W : Wd} {σ : St} {s : Shared} {n : Nat}
theorem gc_ok (D : Fd C K) : Gc C text where
  nolimit := by refine W9 (D.top) fun p loose mean mg mb T => ?_; exact T.nolimit
  defs h _ _ _ := fdK_ok D.kin D.addr (defs_leaf D h)
  txt ea hasc hr F R q := txt_leaf D ea hasc hr F R q
  spark {args v σ σ'} h {A n W s a vals Q E} ea hr F R xs q := by
    refine Z8 (spark_some h) fun i k zz1 h1 h2 h3 zz2 zz3 => ?_
    subst zz1
    subst zz2
    clear h
    subst zz3
    exact spark_call D ea hr F R xs h1 h2 h3 fun W' s' z t _ _ e g R' => q W' s' _ g R' (.sym t e)
  thing ea hr F R xs q := thing_leaf D ea hr F R xs q
theorem thrt_run {x txt : Str} (h : ascii txt = true) (σ : St) (p1 p2 p3 p4 p5 p6 p7 : Pos) (k : Nat) : (run0 text 9).E (.Call (.Name "error_value" p1) [.Name "name" p2, .Tuple [.Call (.Name "text_value" p3) [.Name "text" p4] [] p5] k p6] [] p7) ⟨"thrown_text", [("name", .local), ("text", .local), ("Thrown", .globalImplicit), ("error_value", .globalImplicit), ("text_value", .globalImplicit)], ["name", "text"], [("name", .str x), ("text", .str txt)]⟩ σ = some (V.tup [.str "struct", .tup [.str "name", .str x, .tup []], .tup [.tup [.str "text", .any]]], σ) := by
  refine w6 (List.any_eq_true.mp h) fun y m e => ?_
  have e := of_sq e
  subst e
  simp only [texts, List.mem_cons, List.not_mem_nil, or_false] at m
  clear e h
  rcases m with rfl | rfl | rfl | rfl | rfl | rfl | rfl | rfl | rfl | rfl | rfl <;> kernel_rfl
theorem looksFn (D : Fd C K) {x : Str} {fd : FD} (h : findFD x top = some fd) : ∃ a, nsIn K mainGlobals x = some (some (.ref a)) ∧ C.addr x = some a := globF_ok D (.tail _ (findFD_mem h))
set_option maxHeartbeats 4000000 in
theorem thrt_leaf (D : Fd C K) {x txt : Str} {a : Addr} {t u : Tok} {Q : Value → Shared → Prop} (ea : C.addr "thrown_text" = some a) (hasc : ascii txt = true) (hr : Room A (n + 16)) (FF : FmR C A W s.heap) (R : StR C W σ s)
    (q : ∀ W' s' e, s.heap.get? e = none → Go C A [] W s W' s' → StR C W' σ s' → ExcS C.toCx W' s'.heap e x .raw → Q (.ref e) s') : wpAny C.M A (call (.ref a) [.str x t, .str txt u]) Q E s := by
  refine w9 thrt_fd fun pp kk e => ?_
  have hfd := defs_leaf D e
  refine w6 (fdK_ok D.kin D.addr hfd) fun a' e1 zz => ?_
  obtain ⟨o, fn, body, e2, e3, T, e4, e5, e6, e7, bind⟩ := zz
  rw [ea] at e1; (revert e1; refine sm_r fun zz => ?_; subst zz)
  refine x8 (bind (σ := σ) (m := [("name", .str x), ("text", .str txt)]) (args := [.str x, .str txt]) R (.cons (.str x t) (.cons (.str txt u) .nil)) rfl) fun as' vals' em xs' hl hb => ?_
  refine W9 (D.top) fun p loose mean mg mb Tp => ?_
  have hdep : A.depth < recursionLimit := by have := hr.depth; refine (?_ : A.depth < 1000); omega
  revert em hb
  refine VRs.l2 xs' hl fun a1 a2 v1 v2 x1 x2 em hb => ?_
  injection em with m1 m2
  injection m2 with m2 _
  injection m1 with _ m1
  injection m2 with _ m2
  subst m1 m2
  injection e6 with e6
  subst e6
  refine callBody (vs := [.str x, .str txt]) (vals := [v1, v2]) hdep (R.ground _ _ e2) e3 T e4 e5 (e7.keeps R.ground) (Tp.nolimit.keeps R.ground) hb rfl FF R (.cons x1 (.cons x2 .nil)) fun env lf W₁ s₁ own he hdf F₁ R₁ g₁ fr back => ?_
  have hr' : Room (A.deeper env) 9 := (hr.less (m := 10) (by omega)).deeper env
  refine wpAny_execs_cons (wpAny_Return_some (Call_ ?_))
  refine wpAny_Name (load_main D (globAt_ok D.ok.thrownM.1) R₁ F₁.kind (F₁.nmG _ rfl) F₁.glob ?_) (by decide +kernel)
  refine callWith_of (P := fun h => K.In h) rfl (fun h X => keeps_K D.ok.rowsG.2.2.2.2.2 h X) (Calls.evalArgs_plain ?_)
  have hev : evL (run0 text 9) [.Call (.Name "error_value" (pp 1)) [.Name "name" (pp 2), .Tuple [.Call (.Name "text_value" (pp 3)) [.Name "text" (pp 4)] [] (pp 5)] (kk 0) (pp 6)] [] (pp 7)] ⟨"thrown_text", [("name", .local), ("text", .local), ("Thrown", .globalImplicit), ("error_value", .globalImplicit), ("text_value", .globalImplicit)], ["name", "text"], [("name", .str x), ("text", .str txt)]⟩ σ = some ([V.tup [.str "struct", .tup [.str "name", .str x, .tup []], .tup [.tup [.str "text", .any]]]], σ) := by
    unfold evL
    refine rwm (thrt_run hasc ..) ?_; rfl
  have go := evL_ok (E := fun e s' => wpAny C.M (A.deeper env) (leaving env e) (fun _ s'' => E e s'') (fun e' s'' => E e' s'') s') (pos := (pp 8)) (run0_ok (gr_ok D) (gc_ok D) (gm_ok D) 9).1 hr' hev F₁ R₁
    (Q := fun vs' s₂ => K.In s₂.heap ∧ wpAny C.M (A.deeper env) (call (.ref thrownC) ([] ++ vs')) (fun v s₃ => Q v s₃) (fun e s' => wpAny C.M (A.deeper env) (leaving env e) (fun _ s'' => E e s'') (fun e' s'' => E e' s'') s') s₂) fun W₂ s₂ vs' g₂ R₂ xs => ?_
  · exact go
  · refine ⟨D.kin.keeps R₂.ground, ?_⟩
    refine VRs.e1 xs fun vv xv => ?_
    refine thrown_make D R₂ (n := 5) (hr'.less (by omega)) fun y h' tk t' dx es m n1 n2 n3 g1 g2 g3 k => ?_
    have nB : ∀ b, s₂.heap.get? b = none → s.heap.get? b = none := fun b z => by
      induction w : s.heap.get? b using Option.casesOn with
      | none => rfl
      | some o =>
        refine w5 (g₁.live b o w) fun o1 w1 => ?_
        refine w5 (g₂.live b o1 w1) fun o2 w2 => ?_
        rw [z] at w2; exact nsx w2
    have nM : ∀ b, s₂.heap.get? b = none → b ∉ W₂.mt := fun b z m => by refine w5 (R₂.live _ m) fun o e => ?_; rw [z] at e; exact nsx e
    have le : W₂.Le s₂.heap ⟨W₂.adr, W₂.syms, y :: W₂.mt⟩ := ⟨List.prefix_refl _, List.prefix_refl _, fun b m => .tail _ m, fun b m => by
      rcases mc m with rfl | m
      · exact .inr n1
      · exact .inl m, fun b m => .inl m⟩
    have kk : Keep (fun _ => False) (fun _ => False) s₂.heap h' := .of _ _ fun b o e _ => k b o e
    have R₃ : StR C ⟨W₂.adr, W₂.syms, y :: W₂.mt⟩ σ { s₂ with heap := h', toks := tk } := R₂.move (tk := tk) le rfl rfl kk (fun _ t => t.elim) (fun _ t => t.elim) (fun b m => by
      rcases mc m with rfl | m
      · exact .inr ⟨_, g1⟩
      · exact .inl ⟨m, id⟩)
    have g₃ : Go C (A.deeper env) own W₂ s₂ ⟨W₂.adr, W₂.syms, y :: W₂.mt⟩ { s₂ with heap := h', toks := tk } := ⟨le, .of _ _ fun b o e _ => k b o e, fun b o e => ⟨o, k b o e⟩, rfl⟩
    have fz : ∀ {b : Addr} {o : Obj}, Fz W₂ s₂.heap b o → Fz ⟨W₂.adr, W₂.syms, y :: W₂.mt⟩ h' b o := fun ⟨z1, z2, z3⟩ => ⟨k _ _ z1, fun m => by
      rcases mc m with rfl | m
      · rw [n1] at z1; exact nsx z1
      · exact z2 m, z3⟩
    have nmt : ∀ b, b ≠ y → s₂.heap.get? b = none → b ∉ y :: W₂.mt := fun b z1 z2 m => by
      rcases List.mem_cons.mp m with e | m
      · exact z1 e
      · exact nM b z2 m
    replace xv := xv.inv
    refine W6 xv fun _ _ _ f0 l0 r0 zz1 => ?_
    clear xv
    subst zz1
    cases r0 with | @cons _ _ w1 _ y1 r0 => ?_
    cases r0 with | @cons _ _ w2 _ y2 r0 => ?_
    replace y2 := y2.inv
    refine W6 y2 fun _ _ _ f1 l1 r1 zz1 => ?_
    clear y2
    subst zz1
    cases r1 with | @cons _ _ w3 _ y3 r1 => ?_
    cases r1 with | @cons _ _ w4 _ y4 r1 => ?_
    replace y4 := y4.inv
    refine w5 y4 fun kx zz1 => ?_
    clear y4
    subst zz1
    refine q _ _ y (nB _ n1) (back (g₂.weak0.trans g₃)) R₃ ⟨⟨_, _, g1, by exact rwm (D.thrown) rfl, rfl, rfl, dx, _, _, _, _, _, _, _, kx, rfl, ⟨g2, nmt _ n3 n2, rfl⟩, g3, fz f0, rfl, fz f1, rfl⟩, (fun _ m => nomatch m), fun b m => ?_, fun b m => ?_, fun b m => ?_⟩
    · refine rwm (List.mem_singleton.mp m) ?_; exact .head _
    · refine rwm (List.mem_singleton.mp m) ?_; exact fun z => nM _ n1 (R₂.adr _ z)
    · refine rwm (List.mem_singleton.mp m) ?_; exact fun z => nM _ n1 (R₂.tabs _ z)
theorem gt_ok (D : Fd C K) : Gt C where
  name R hk hx hg hb q := by
    rw [D.thrown] at q
    exact load_main D (globAt_ok D.ok.thrownM.1) R hk hx hg q
  cls := by
    obtain ⟨nm, q', N', bs, bm, hdct, sn, sub, col, dd, k0, k1, k2, k3, k5, hCk, hB0, _⟩ := thrown_obj D.ok.thrownO
    exact ⟨nm, q', N', bs, bm, hdct, sn, sub, false, col, dd, k0, k1, k2, k3, k5, _, by rw [D.thrown]; exact D.kin _ _ hCk, hB0⟩
  value {A s e d oe od v vs Q E} g he hc hd hdt hod hl hh q := by
    have X : K.In s.heap := D.kin.keeps g
    rw [D.thrown] at hc
    have I : InstAt s.heap e oe thrownC (some od) := ⟨he, hc, by unfold notCls; exact rwm (hdt) rfl, by refine rwm (hd) ?_; exact hod⟩
    have ha : findIn K (.ref thrownC) "value" = some none := by
      have := D.ok.thrownA
      unfold noAttr at this
      split at this
      · assumption
      · exact ftx this
    exact exc_get X I D.ok.thrown.1 D.ok.thrown.2 D.ok.thrownB.1 (findObj_own D.ok.thrownD ha rfl hl) hh (q _)
  text := by
    refine w9 thrt_fd fun pp kk e => ?_
    have h : findFD "thrown_text" top = some ⟨["name", "text"], [], .stmts [.Return (some (.Call (.Name "Thrown" (pp 0)) [.Call (.Name "error_value" (pp 1)) [.Name "name" (pp 2), .Tuple [.Call (.Name "text_value" (pp 3)) [.Name "text" (pp 4)] [] (pp 5)] (kk 0) (pp 6)] [] (pp 7)] [] (pp 8))) (pp 9)], [("name", .local), ("text", .local), ("Thrown", .globalImplicit), ("error_value", .globalImplicit), ("text_value", .globalImplicit)]⟩ := e
    refine w6 (looksFn D h) fun a h1 h2 => ?_
    exact (W4 a h2 (fun R hk hx hg _ q => load_main D h1 R hk hx hg q) (fun hasc hr F R q => thrt_leaf D h2 hasc hr F R q))
end
theorem st4 : ∃ (pp : Nat → Pos) (kk : Nat → Nat), (bodyOf "law" top).drop 3 = .Assign [.Tuple [(.Name "high" (pp 0)), (.Name "wide" (pp 1))] (kk 0) (pp 2)] (.Tuple [.BinOp (.Constant (.int 1) (kk 1) (pp 3)) .Add (.Call (.Name "_law_spark" (pp 4)) [(.Name "forge" (pp 5)), .Constant (.int 3) (kk 2) (pp 6)] [] (pp 7)) (pp 8), .BinOp (.Constant (.int 1) (kk 3) (pp 9)) .Add (.Call (.Name "_law_spark" (pp 10)) [(.Name "forge" (pp 11)), .Constant (.int 3) (kk 4) (pp 12)] [] (pp 13)) (pp 14)] (kk 5) (pp 15)) (pp 16) :: lawTail := (x7 (fun n => [_, _, _, _, _, _, _, _, _, _, _, _, _, _, _, _, _].getD n default) (fun n => [_, _, _, _, _, _].getD n 0) rfl)
section
variable {C : Cy} {K : Frag} {A : Around} {E : Value → Shared → Prop} {W : Wd} {σ : St} {s : Shared} {n : Nat} {own : List Addr} {env : Env} {ρ : Fr}
theorem StR.addSym (R : StR C W σ s) (z : Int) : StR C ⟨W.adr, W.syms ++ [z], W.mt⟩ { σ with syms := σ.syms + 1 } s ∧ ∀ A own, Go C A own W s ⟨W.adr, W.syms ++ [z], W.mt⟩ s := by
  have lw : W.Le s.heap ⟨W.adr, W.syms ++ [z], W.mt⟩ := ⟨List.prefix_refl _, List.prefix_append _ _, fun _ m => m, fun _ m => .inl m, fun _ m => .inl m⟩
  have k : Keep (fun _ => False) (fun _ => False) s.heap s.heap := .of _ _ fun b o e _ => e
  refine ⟨⟨R.len, R.nd, ?_, fun j l' e => ?_, R.lists, R.forge, R.adr, R.tabs, R.apart, fun c m => ?_, R.live, R.ground, R.fresh, R.gens, R.os⟩, fun A own => ⟨lw, .of _ _ fun b o e _ => e, fun b o e => ⟨o, e⟩, rfl⟩⟩
  · show (W.syms ++ [z]).length = σ.syms + 1
    (refine rwm (List.length_append) ?_; refine rwm (R.sy) ?_); rfl
  · refine x8 (R.lst j l' e) fun a vs h1 h2 h3 h4 => ?_
    exact (y8 a vs h1 h2 (h3.mono lw k (fun _ t => t.elim) (fun _ t => t.elim)) h4)
  · refine w6 (R.tab c m) fun ps e t => ?_
    refine (w7 ps e ?_)
    rcases t with t | ⟨cc, oc, ws, t, h1, h2, h3⟩
    · exact .inl t
    · exact .inr (X6 cc oc ws t h1 (h2.mono lw k (fun _ t => t.elim) (fun _ t => t.elim)) h3)
theorem one_spark (D : Fd C K) (hr : Room A (n + 120)) {k1 k2 : Nat} {p1 p2 p3 p4 p5 p6 : Pos} (hn : ρ.names.lookup ("_law_spark" : Str) = some .globalImplicit)
    (hev : ∀ σ, evL (run0 text 3) [.Name "forge" p3, .Constant (.int 3) k2 p4] ρ σ = some ([.lst 0, .int (.lit 3)], σ)) (hf : σ.tr.get 0 = some .forge) (F : FrR C A W env own ρ s.heap) (R : StR C W σ s) {Q : Value → Shared → Prop}
    (q : ∀ W' s' z t, 0 ≤ z → z < 3 → W'.syms[σ.syms + 1]? = some (1 + z) → Go C A [] W s W' s' → StR C W' { σ with syms := σ.syms + 2 } s' → Q (.int (1 + z) t) s') :
    wpAny C.M A (eval (.BinOp (.Constant (.int 1) k1 p1) .Add (.Call (.Name "_law_spark" p2) [.Name "forge" p3, .Constant (.int 3) k2 p4] [] p5) p6) env) Q E s := by
  refine w5 spark_fd0 fun sb e => ?_
  refine w6 (looksFn D (show findFD "_law_spark" top = some _ from e)) fun a h1 h2 => ?_
  refine wpAny_BinOp (wpAny_Constant_int ?_)
  have R₀ := R.tok (s.toks + 1)
  refine Call_ ?_
  refine wpAny_Name (load_main D h1 R₀ F.kind (F.nmG _ hn) F.glob ?_) (by decide +kernel)
  refine callWith_of (P := fun h => Kept C h (.ref a)) rfl (fun _ k => k) (Calls.evalArgs_plain ?_)
  refine (?_ : wpAny C.M A (spliced (backTo p5 (starEach [.Name "forge" p3, .Constant (.int 3) k2 p4] env))) _ E _)
  refine evL_ok (run0_ok (gr_ok D) (gc_ok D) (gm_ok D) 3).1 (hr.less (m := 3) (by omega)) (hev σ) F R₀ fun W₁ s₁ vs' g₁ R₁ xs => ?_
  refine ⟨(gr_ok D).kept h2 _ R₁.ground, ?_⟩
  have g₀ : Go C A [] W s W₁ s₁ := (Go.tok (C := C) (A := A) (own := []) (s.toks + 1)).trans g₁
  refine spark_call D h2 (n := n) (hr.less (by omega)) (F.fm.mono0 g₀) R₁ xs hf (by decide) (by decide) fun W₂ s₂ z t hz1 hz2 hs g₂ R₂ => ?_
  refine PyProof.Rows.add_int ?_
  refine w8 (R₂.addSym (1 + z)) fun R₃ g₃ => ?_
  have R₄ := R₃.tok (s₂.toks + 1)
  refine q _ _ z _ hz1 hz2 ?_ (((g₀.trans g₂).trans (g₃ A [])).trans (Go.tok (s₂.toks + 1))) R₄
  refine (?_ : (W₂.syms ++ [1 + z])[σ.syms + 1]? = some (1 + z))
  have : W₂.syms.length = σ.syms + 1 := R₂.sy
  (refine rwl (this) ?_; refine rwm (List.getElem?_append_right (Nat.le_refl _)) ?_; refine rwm (Nat.sub_self ..) ?_); rfl
end
noncomputable def lawPars : List Str := ["script", "heard", "image"]
noncomputable def cbV : V := .clo "called_back" cbT [("heard", .lst 2), ("image", .img)]
noncomputable def vars1 : List (Str × V) := [("forge", .lst 0), ("image", .img), ("heard", .lst 2), ("called_back", cbV)]
noncomputable def lawFr (m : List (Str × V)) : Fr := ⟨"law", lawNames, lawPars, m⟩
noncomputable def start0 : St := ⟨start.tr, 3, 0⟩
theorem law_ev (σ : St) (p3 p4 : Pos) (k2 : Nat) : evL (run0 text 3) [.Name "forge" p3, .Constant (.int 3) k2 p4] (lawFr vars1) σ = some ([.lst 0, .int (.lit 3)], σ) := by kernel_rfl
section
variable {C : Cy} {K : Frag} {A : Around} {E : Value → Shared → Prop} {W : Wd} {σ : St} {s : Shared} {n : Nat} {own : List Addr} {env : Env} {ρ : Fr}
theorem FrR.reval {m m' : List (Str × V)} {h : Heap} (F : FrR C A W env own (ρ.at m) h) (hv : ∀ y v, look y m' = some v → ∃ v₁, look y m = some v₁ ∧ ∀ v', VR C.toCx W h v₁ v' → VR C.toCx W h v v') : FrR C A W env own (ρ.at m') h :=
  ⟨F.fm, F.kind, F.glob, F.blt, F.frame, F.code, F.ownMt, F.ownAp, F.ownStk, F.L, F.nmG, F.nmL, F.nmC, by
    refine w6 (F.ns) fun mm h1 h2 => ?_
    refine (w7 mm h1 (fun x v e k => ?_))
    refine w6 (hv x v e) fun v₁ e1 r => ?_
    refine w6 (h2 x v₁ e1 k) fun v' e2 x2 => ?_
    exact (w7 v' e2 (r _ x2)), fun x v e k => by
    refine w6 (hv x v e) fun v₁ e1 r => ?_
    refine X4 (F.cells x v₁ e1 k) fun z1 c v' z2 z3 z4 z5 => ?_
    exact (W7 z1 c v' z2 z3 (r _ z4) z5), F.apart⟩
noncomputable def lawV : V := .tup [.int (.sym 1), .int (.sym 3)]
theorem law_bind (k : Nat) (p1 p2 p3 : Pos) : ∃ m, bindT lawNames lawPars (.Tuple [.Name "high" p1, .Name "wide" p2] k p3) lawV vars1 = some m ∧ look "forge" m = some (.lst 0) ∧ look "image" m = some .img ∧ look "heard" m = some (.lst 2) ∧ look "called_back" m = some cbV ∧ look "high" m = some (.int (.sym 1)) ∧ look "wide" m = some (.int (.sym 3)) :=
  ⟨_, rfl, rfl, rfl, rfl, rfl, rfl, rfl⟩
theorem vars0_look {h w : Int} {y : Str} {v : V} (e : look y (vars0 h w) = some v) : (y = "forge" ∧ v = .lst 0) ∨ (y = "image" ∧ v = .img) ∨ (y = "heard" ∧ v = .lst 2) ∨ (y = "called_back" ∧ v = cbV) ∨ (y = "high" ∧ v = .int (.lit h)) ∨ (y = "wide" ∧ v = .int (.lit w)) := by
  have m := look_in e
  simp only [vars0, List.mem_cons, List.not_mem_nil, or_false, Prod.mk.injEq] at m
  exact m
theorem law_rest (D : Fd C K) (all : ∀ h ∈ [(1 : Int), 2, 3], ∀ w ∈ [(1 : Int), 2, 3], lawRun 60 h w = some true) (hr : Room A (60 + 120)) {lf : List Env} (hdf : A.frames = some (env :: lf)) (F : FrR C A W env own (lawFr vars1) s.heap) (R : StR C W start0 s) {Q : Flow → Shared → Prop} (q : ∀ W' σ' s', StR C W' σ' s' → Q (.ret (.bool true)) s') :
    wpAny C.M A (PySem.execs ((bodyOf "law" top).drop 3) env) Q E s := by
  refine w9 st4 fun pp kk e => ?_
  refine rwm (e) ?_
  obtain ⟨m, hm, l1, l2, l3, l4, l5, l6⟩ := law_bind (kk 0) (pp 0) (pp 1) (pp 2)
  refine wpAny_execs_cons (assignT_gen (P := fun W => ∃ z1 z2 : Int, 0 ≤ z1 ∧ z1 < 3 ∧ 0 ≤ z2 ∧ z2 < 3 ∧ W.syms[1]? = some (1 + z1) ∧ W.syms[3]? = some (1 + z2)) (v := lawV) (σ' := start) (ρ := lawFr vars1) hr.handled (by rfl) (fun {Q'} go => ?_) hm F R fun W' s' hP g R' F' => ?_)
  · refine wpAny_Tuple (wpAny_items_cons ?_)
    refine one_spark D (n := 60) hr (by rfl) (fun σ => law_ev σ _ _ _) (σ := start0) (by rfl) F R fun W₁ s₁ z1 t1 a1 a2 a3 g₁ R₁ => ?_
    refine wpAny_items_cons ?_
    refine one_spark D (n := 60) hr (by rfl) (fun σ => law_ev σ _ _ _) (σ := ⟨start.tr, 3, 2⟩) (by rfl) (F.mono R g₁) R₁ fun W₂ s₂ z2 t2 b1 b2 b3 g₂ R₂ => ?_
    refine wpAny_items_nil ⟨by refine (?_ : (2 : Nat) ≤ sizeLine); decide, ?_⟩
    have c3 : W₂.syms[1]? = some (1 + z1) := by
      refine w5 (g₂.le.syms) fun t ht => ?_
      have a3' : W₁.syms[1]? = some (1 + z1) := a3
      obtain ⟨hlt, _⟩ := List.getElem?_eq_some_iff.mp a3'
      (refine rwl (ht) ?_; refine rwm (List.getElem?_append_left hlt) ?_); exact a3'
    have kp := push_keeps s₂.heap { cls := .type "tuple", data := .seq #[.int (1 + z1) t1, .int (1 + z2) t2] }
    exact go W₂ _ _ (Z9 z1 z2 a1 a2 b1 b2 c3 b3) ((g₁.trans g₂).trans (Go.grow (tk := s₂.toks) kp)) (R₂.grow (tk := s₂.toks) kp) (.tup (vs := [.int (1 + z1) t1, .int (1 + z2) t2]) (R₂.fz_push rfl rfl) (by decide) (.cons (.sym _ c3) (.cons (.sym _ b3) .nil)))
  · (refine Z8 hP fun z1 z2 a1 a2 b1 b2 c3 d3 => ?_; clear hP)
    have F₁ : FrR C A W' env own (lawFr (vars0 (1 + z1) (1 + z2))) s'.heap := F'.reval fun y v e => by
      rcases vars0_look e with ⟨rfl, rfl⟩ | ⟨rfl, rfl⟩ | ⟨rfl, rfl⟩ | ⟨rfl, rfl⟩ | ⟨rfl, rfl⟩ | ⟨rfl, rfl⟩
      · exact (w7 _ l1 (fun _ x => x))
      · exact (w7 _ l2 (fun _ x => x))
      · exact (w7 _ l3 (fun _ x => x))
      · exact (w7 _ l4 (fun _ x => x))
      · refine (w7 _ l5 (fun v' x => ?_))
        replace x := x.inv
        refine x5 x fun _ t e zz1 => ?_
        clear x
        subst zz1
        rw [c3] at e; (revert e; refine sm_r fun zz => ?_; subst zz); exact .lit _ _
      · refine (w7 _ l6 (fun v' x => ?_))
        replace x := x.inv
        refine x5 x fun _ t e zz1 => ?_
        clear x
        subst zz1
        rw [d3] at e; (revert e; refine sm_r fun zz => ?_; subst zz); exact .lit _ _
    have h1 : (1 + z1) ∈ [(1 : Int), 2, 3] := by
      have : z1 = 0 ∨ z1 = 1 ∨ z1 = 2 := by omega
      clear F₁ a1 a2 c3
      rcases this with rfl | rfl | rfl <;> decide
    have h2 : (1 + z2) ∈ [(1 : Int), 2, 3] := by
      have : z2 = 0 ∨ z2 = 1 ∨ z2 = 2 := by omega
      clear F₁ b1 b2 d3
      rcases this with rfl | rfl | rfl <;> decide
    have hl := all _ h1 _ h2
    refine bd_e3 (show bd (execs (run text 60) ⟨"law", lawNames, ["script", "heard", "image"], []⟩ lawTail (vars0 (1 + z1) (1 + z2)) start) _ = some true from hl) fun fl m' σ' hx hb => ?_
    obtain rfl : fl = .ret (.bool true) := view_some (o := vRB0 _) hb
    refine execs_ok (ρ := lawFr []) (run_ok (gr_ok D) (gc_ok D) (gm_ok D) (gt_ok D) 60).2.2.1 hr hdf hx F₁ R' ?_
    intro W'' s'' v' g' R'' F'' x
    obtain rfl := x.inv
    exact q _ _ _ R''
end
structure Beg where
  L : Addr
  x : Addr
  d : Addr
  f : Addr
  c : Addr
  aF : Addr
  aT : Addr
  aH : Addr
  cI : Addr
  cH : Addr
  cR : Addr
  cW : Addr
  cF : Addr
noncomputable def Beg.hid (b : Beg) : List Addr := [b.L, b.aF, b.aT, b.aH, b.cR, b.cW, b.cF, 520, 527, 541]
inductive BegF (b : Beg) (h : Heap) : Prop
  | mk (o : Obj) (fd : FuncData) (oc : Obj) (vs : Array Value) (t : Tok) : h.get? b.f = some o → o.data = .func fd → o.cls = .type "function" → (∀ C : Cx, ("called_back" : Str) ∉ C.fns → CloFn C "called_back" cbT fd) → fd.code = .ref b.c → fd.closure = [(("image" : Str), b.cI), ("heard", b.cH)] → h.get? b.c = some oc → oc.data = .fields vs → vs[1]? = some (.str fd.qualname t) → BegF b h
structure BegAt (b : Beg) (K : Frag) (prog : Program) (w : World) (h₀ : Heap) (env : Env) (h : Heap) : Prop where
  ok : KOk K w.params
  kin : K.In h₀
  top : ∃ p loose mean mg mb, Top p loose mean mg mb h₀
  seer : h₀.NoSeer
  tree : prog.given.tree = none
  keep : ∀ a o, h₀.get? a = some o → h.get? a = some o
  fresh : ∀ a ∈ b.hid, h₀.get? a = none
  off : ∀ a ∈ [b.x, b.d, b.f, b.c, b.cI, b.cH], a ∉ b.hid
  nd : b.hid.Nodup
  ih : b.cI ≠ b.cH
  ns : ∃ m, h.Ns b.L m ∧ m "called_back" = some (.ref b.f)
  img : h.get? b.x = some (instObj heapC b.d)
  dict : ∃ k1 k2 k3 k4 t1 t2 t3 t4, h.get? b.d = some (dictOf [⟨k1, .str "things" t1, .ref b.aT⟩, ⟨k2, .str "heap" t2, .ref b.x⟩, ⟨k3, .str "kinds" t3, .none⟩, ⟨k4, .str "call" t4, .ref b.f⟩] 4)
  fn : BegF b h
  forge : ∃ x y t u n, h.get? b.aF = some (listOf #[.int x t, .int y u] n) ∧ 0 ≤ x ∧ 0 ≤ y ∧ y < 65293
  things : ∃ n, h.get? b.aT = some (listOf #[] n)
  heard : ∃ n, h.get? b.aH = some (listOf #[] n)
  cellI : ∃ o, h.get? b.cI = some o ∧ o.data = .cell (some (.ref b.x))
  cellH : ∃ o, h.get? b.cH = some o ∧ o.data = .cell (some (.ref b.aH))
  cellF : ∃ o, h.get? b.cF = some o ∧ o.data = .cell (some (.ref b.aF))
  cellR : ∃ o v, h.get? b.cR = some o ∧ o.data = .cell v
  cellW : ∃ o v, h.get? b.cW = some o ∧ o.data = .cell v
  tabs : ∀ P ∈ [(520 : Addr), 527, 541], h.get? P = some (tabObj #[])
  kind : env.scope.kind = .function
  names : env.scope.names = lawNames
  glob : env.globals = mainGlobals
  blt : env.builtins = builtinsNs
  loc : env.locals = b.L
  frame : env.frame = some b.L
  cells : env.cells.lookup ("image" : Str) = some b.cI ∧ env.cells.lookup ("heard" : Str) = some b.cH ∧ env.cells.lookup ("rows" : Str) = some b.cR ∧ env.cells.lookup ("wide" : Str) = some b.cW ∧ env.cells.lookup ("forge" : Str) = some b.cF
  apart : env.cells.Pairwise fun x y => x.2 ≠ y.2
section
variable {b : Beg} {K : Frag} {prog : Program} {w : World} {h₀ : Heap} {env : Env} {s : Shared}
noncomputable def begC (b : Beg) (K : Frag) (prog : Program) (w : World) (s : Shared) : Cy :=
  { prog := prog, w := w, h₀ := hideAll s.heap b.hid, os := s.os, addr := addrK K, img := b.x, thing := thingC, thrown := thrownC, tabs := closL.map (·.P), things := b.aT, heard := b.aH, fns := closL.map (·.fn), clos := closL, tabsEq := rfl, fnsEq := rfl }
theorem BegAt.stay (B : BegAt b K prog w h₀ env s.heap) : ∀ a o, h₀.get? a = some o → (begC b K prog w s).h₀.get? a = some o := fun a o e =>
  hideAll_get _ (B.keep a o e) fun m => by have := B.fresh a m; rw [e] at this; exact snx this
theorem fa_nil {α : Type} {P : α → Prop} : ∀ a ∈ ([] : List α), P a := fun _ m => nomatch m
theorem fa_cons {α : Type} {P : α → Prop} {x : α} {l : List α} (h : P x) (k : ∀ a ∈ l, P a) : ∀ a ∈ x :: l, P a := List.forall_mem_cons.mpr ⟨h, k⟩
theorem beg_st' (b : Beg) : ∀ a o, a ∉ b.hid → s.heap.get? a = some o → (begC b K prog w s).h₀.get? a = some o := fun a o n e => hideAll_get _ e n
theorem beg_cb (B : BegAt b K prog w h₀ env s.heap) : CbAt (begC b K prog w s) b.f := by
  obtain ⟨o, fd, oc, vs, t, f1, f2, f3, f4, f5, f6, f7, f8, f9⟩ := B.fn
  refine w6 (B.cellI) fun oI i1 i2 => ?_
  refine w6 (B.cellH) fun oH j1 j2 => ?_
  have st := beg_st' (K := K) (prog := prog) (w := w) (s := s) b
  have sf := st b.f _ (B.off b.f (.tail _ (.tail _ (.head _)))) f1
  have sc := st b.c _ (B.off b.c (.tail _ (.tail _ (.tail _ (.head _))))) f7
  have sI := st b.cI _ (B.off b.cI (.tail _ (.tail _ (.tail _ (.tail _ (.head _)))))) i1
  have sH := st b.cH _ (B.off b.cH (.tail _ (.tail _ (.tail _ (.tail _ (.tail _ (.head _))))))) j1
  refine ⟨o, fd, b.c, oc, vs, t, b.cH, b.cI, oH, oI, sf, f2, f3, f4 _ (show ("called_back" : Str) ∉ closL.map (·.fn) by decide +kernel), f5, sc, f8, f9, ?_, ?_, sH, j2, ?_, sI, i2⟩
  · refine rwm (f6) ?_
    exact .cons (fun y m => by refine rwm (List.mem_singleton.mp m) ?_; exact B.ih) (.cons (fun y m => (nomatch m)) .nil)
  · refine rwm (f6) ?_; rfl
  · refine rwm (f6) ?_; rfl
theorem beg_fd (B : BegAt b K prog w h₀ env s.heap) : Fd (begC b K prog w s) K where
  kin a o e := B.stay a o (B.kin a o e)
  ok := B.ok
  addr := rfl
  clos := rfl
  top := by refine W9 (B.top) fun p loose mean mg mb T => ?_; exact ⟨p, loose, mean, mg, mb, T.keeps B.stay⟩
  thing := rfl
  thrown := rfl
  img := by
    have nd := B.nd
    obtain ⟨k1, k2, k3, k4, t1, t2, t3, t4, hd⟩ := B.dict
    obtain ⟨o, fd, oc, vs, t, f1, f2, f3, f4, f5, f6, f7, f8, f9⟩ := B.fn
    refine w6 (B.cellI) fun oI i1 i2 => ?_
    refine w6 (B.cellH) fun oH j1 j2 => ?_
    have st : ∀ a o, a ∉ b.hid → s.heap.get? a = some o → (begC b K prog w s).h₀.get? a = some o := fun a o n e => hideAll_get _ e n
    have sx := st b.x _ (B.off b.x (.head _)) B.img
    have sd := st b.d _ (B.off b.d (.tail _ (.head _))) hd
    have sf := st b.f _ (B.off b.f (.tail _ (.tail _ (.head _)))) f1
    have sc := st b.c _ (B.off b.c (.tail _ (.tail _ (.tail _ (.head _))))) f7
    have sI := st b.cI _ (B.off b.cI (.tail _ (.tail _ (.tail _ (.tail _ (.head _)))))) i1
    have sH := st b.cH _ (B.off b.cH (.tail _ (.tail _ (.tail _ (.tail _ (.tail _ (.head _))))))) j1
    refine ⟨_, b.d, _, b.f, sx, rfl, rfl, rfl, sd, ?_, ?_, ?_, beg_cb B, fun x m => ?_⟩
    · refine rwm (lookIn_dict ..) ?_; kernel_rfl
    · refine rwm (lookIn_dict ..) ?_; kernel_rfl
    · refine rwm (lookIn_dict ..) ?_; kernel_rfl
    · refine rwm (lookIn_dict ..) ?_
      have hx : ∀ x ∈ heapFns, x ∉ [("things" : Str), "heap", "kinds", "call"] := by decide +kernel
      have hx := hx x m
      simp only [List.mem_cons, List.not_mem_nil, or_false, not_or] at hx
      refine Y6 hx fun x1 x2 x3 x4 => ?_
      clear hx
      unfold getL
      have : ([⟨k1, .str "things" t1, .ref b.aT⟩, ⟨k2, .str "heap" t2, .ref b.x⟩, ⟨k3, .str "kinds" t3, .none⟩, ⟨k4, .str "call" t4, .ref b.f⟩] : List DictEntry).find? (·.key.isStr x) = none := by
        rw [List.find?_eq_none]
        intro e me
        simp only [List.mem_cons, List.not_mem_nil, or_false] at me
        rcases me with rfl | rfl | rfl | rfl <;> simp only [Value.isStr, beq_iff_eq] <;> first | exact fun q => x1 q.symm | exact fun q => x2 q.symm | exact fun q => x3 q.symm | exact fun q => x4 q.symm
      refine rwm (this) ?_
      rfl
  seer := B.seer.keeps B.stay
  tree := B.tree
end
theorem leaf_get {v : Option Cell} (k : Nat) : (Tr.node v .nil .nil).get (k + 1) = none := by
  refine (?_ : (match Nat.beq ((k + 1) % 2) 1 with | true => Tr.nil.get ((k + 1) / 2) | false => Tr.nil.get ((k + 1) / 2 - 1)) = none)
  induction Nat.beq ((k + 1) % 2) 1 using Bool.casesOn <;> rfl
theorem start_get {i : Nat} {c : Cell} (h : start0.tr.get i = some c) : (i = 0 ∧ c = .forge) ∨ (i = 1 ∧ c = .lst []) ∨ (i = 2 ∧ c = .lst []) := by
  match i with
  | 0 => (revert h; refine sm_r fun zz => ?_; subst zz); exact .inl ⟨rfl, rfl⟩
  | 1 => (revert h; refine sm_r fun zz => ?_; subst zz); exact .inr (.inl ⟨rfl, rfl⟩)
  | 2 => (revert h; refine sm_r fun zz => ?_; subst zz); exact .inr (.inr ⟨rfl, rfl⟩)
  | i + 3 =>
    have h : (match Nat.beq ((i + 3) % 2) 1 with | true => (Tr.node (some (.lst [])) .nil .nil).get ((i + 3) / 2) | false => (Tr.node (some (.lst [])) .nil .nil).get ((i + 3) / 2 - 1)) = some c := h
    induction q : Nat.beq ((i + 3) % 2) 1 using Bool.casesOn with
    | true =>
      rw [q] at h
      have h : (Tr.node (some (.lst [])) .nil .nil).get ((i + 3) / 2) = some c := h
      rw [show (i + 3) / 2 = ((i + 3) / 2 - 1) + 1 by omega, leaf_get] at h
      exact nsx h
    | false =>
      rw [q] at h
      have h : (Tr.node (some (.lst [])) .nil .nil).get ((i + 3) / 2 - 1) = some c := h
      have q2 : (i + 3) % 2 ≠ 1 := fun e => by rw [e] at q; exact tfx q
      rw [show (i + 3) / 2 - 1 = ((i + 3) / 2 - 2) + 1 by omega, leaf_get] at h
      exact nsx h
section
variable {b : Beg} {K : Frag} {prog : Program} {w : World} {h₀ : Heap} {env : Env} {s : Shared}
noncomputable def begW (b : Beg) : Wd := ⟨[b.aF, b.aT, b.aH], [], b.hid⟩
theorem nd_app {l₁ l₂ : List Addr} (nd : (l₁ ++ l₂).Nodup) : l₁.Nodup ∧ l₂.Nodup ∧ ∀ a, a ∈ l₁ → a ∈ l₂ → False :=
  let ⟨x, y, z⟩ := List.nodup_append.mp nd
  ⟨x, y, fun _ m n => z _ m _ n rfl⟩
theorem nd3 {x y z : Addr} (nd : [x, y, z].Nodup) : x ≠ y ∧ x ≠ z ∧ y ≠ z :=
  let ⟨a, nd⟩ := List.nodup_cons.mp nd
  ⟨fun e => a (e ▸ .head _), fun e => a (e ▸ .tail _ (.head _)), fun e => (List.nodup_cons.mp nd).1 (e ▸ .head _)⟩
theorem hid_nd (nd : b.hid.Nodup) : (b.aF ≠ b.aT ∧ b.aF ≠ b.aH ∧ b.aT ≠ b.aH) ∧ (∀ a ∈ [b.L, b.cR, b.cW, b.cF, 520, 527, 541], a ∉ [b.aF, b.aT, b.aH]) ∧ ∀ a ∈ [b.L, b.cR, b.cW, b.cF, b.aF, b.aT, b.aH], a ∉ [(520 : Addr), 527, 541] :=
  let ⟨_, nd, d₁⟩ := nd_app (l₁ := [b.L]) (l₂ := [b.aF, b.aT, b.aH] ++ ([b.cR, b.cW, b.cF] ++ [520, 527, 541])) nd
  let ⟨n₁, nd, d₂⟩ := nd_app nd
  let ⟨_, _, d₃⟩ := nd_app nd
  ⟨nd3 n₁, fun a m z => (List.mem_append (s := [b.L]).mp m).elim (fun m => d₁ a m (List.mem_append_left _ z)) (fun m => d₂ a z m),
    fun a m z => (List.mem_append (s := [b.L]).mp m).elim (fun m => d₁ a m (List.mem_append_right _ (List.mem_append_right _ z)))
      fun m => (List.mem_append (s := [b.cR, b.cW, b.cF]).mp m).elim (fun m => d₃ a m z) fun m => d₂ a m (List.mem_append_right _ z)⟩
theorem beg_st (B : BegAt b K prog w h₀ env s.heap) (hg : s.gens = #[]) : StR (begC b K prog w s) (begW b) start0 s := by
  refine W2 (hid_nd B.nd) fun zz1 n4 n5 => ?_
  obtain ⟨n1, n2, n3⟩ := zz1
  obtain ⟨x, y, t, u, n, f1, f2, f3, f4⟩ := B.forge
  refine w5 (B.things) fun nT tT => ?_
  refine w5 (B.heard) fun nH tH => ?_
  have pF : PlainL s.heap b.aF #[.int x t, .int y u] := (y8 _ _ f1 rfl rfl rfl)
  have pT : PlainL s.heap b.aT #[] := (y8 _ _ tT rfl rfl rfl)
  have pH : PlainL s.heap b.aH #[] := (y8 _ _ tH rfl rfl rfl)
  refine ⟨rfl, ?_, rfl, fun i l h => ?_, fun a m => ?_, fun i h => ?_, fun a m => ?_, fun a m => ?_, fun a m z => ?_, fun k m => (w7 #[] (B.tabs _ ?_) (.inl rfl)), fun a m => ?_, fun a o e => of_hideAll _ e, fun a m => hideAll_none _ m, hg, rfl⟩
  · show ([b.aF, b.aT, b.aH] : List Addr).Nodup
    simp [n1, n2, n3]
  · rcases start_get h with ⟨rfl, e⟩ | ⟨rfl, e⟩ | ⟨rfl, e⟩
    · exact (nomatch e)
    · clear h
      cases e; exact (y8 b.aT [] rfl pT .nil (by decide))
    · clear h
      cases e; exact (y8 b.aH [] rfl pH .nil (by decide))
  · simp only [begW, List.mem_cons, List.not_mem_nil, or_false] at m
    rcases m with rfl | rfl | rfl
    · exact ⟨_, pF⟩
    · exact ⟨_, pT⟩
    · exact ⟨_, pH⟩
  · rcases start_get h with ⟨rfl, e⟩ | ⟨rfl, e⟩ | ⟨rfl, e⟩
    · exact ⟨b.aF, x, y, t, u, rfl, pF, f2, f3, f4⟩
    · exact (nomatch e)
    · exact (nomatch e)
  · exact List.mem_of_mem_drop (List.mem_of_mem_take (show a ∈ (b.hid.drop 1).take 3 from m))
  · have m : a ∈ closL.map (·.P) := m
    exact List.mem_of_mem_drop (show a ∈ b.hid.drop 7 from m)
  · have z : a ∈ closL.map (·.P) := z
    refine n5 a ?_ (show a ∈ [(520 : Addr), 527, 541] from z)
    exact List.mem_append_right [b.L, b.cR, b.cW, b.cF] m
  · exact List.mem_map_of_mem (f := (·.P)) (show k ∈ closL from m)
  · have m : a ∈ b.hid := m
    refine x5 (B.cellR) fun oR vR r1 _ => ?_
    refine x5 (B.cellW) fun oW vW w1 _ => ?_
    refine w6 (B.cellF) fun oF g1 _ => ?_
    refine w6 (B.ns) fun m' zz1 _ => ?_
    obtain ⟨oL, _, _, hL, _⟩ := zz1
    have p := fun P mP => (⟨_, B.tabs P mP⟩ : ∃ o, s.heap.get? P = some o)
    exact fa_cons (P := fun a => ∃ o, s.heap.get? a = some o) ⟨_, hL⟩ (fa_cons ⟨_, f1⟩ (fa_cons ⟨_, tT⟩ (fa_cons ⟨_, tH⟩ (fa_cons ⟨_, r1⟩ (fa_cons ⟨_, w1⟩ (fa_cons ⟨_, g1⟩ p)))))) a m
theorem beg_fr (B : BegAt b K prog w h₀ env s.heap) (hg : s.gens = #[]) {A : Around} (hA : A.frames = some [env]) : FrR (begC b K prog w s) A (begW b) env [b.L, b.cR, b.cW, b.cF] (lawFr vars1) s.heap := by
  refine W2 (hid_nd B.nd) fun zz1 n4 n5 => ?_
  obtain ⟨n1, n2, n3⟩ := zz1
  refine w6 (B.ns) fun m hm mc => ?_
  refine wi4 (B.cells) fun c1 c2 c3 c4 c5 => ?_
  refine w6 (B.cellI) fun oI i1 i2 => ?_
  refine w6 (B.cellH) fun oH j1 j2 => ?_
  refine w6 (B.cellF) fun oF g1 g2 => ?_
  refine x5 (B.cellR) fun oR vR r1 r2 => ?_
  refine x5 (B.cellW) fun oW vW w1 w2 => ?_
  have D := beg_fd B
  have R := beg_st B hg
  have kn : ∀ x, env.kindOf x = lawNames.lookup x := fun x => congrArg (List.lookup x) B.names
  have xI : VR (begC b K prog w s).toCx (begW b) s.heap .img (.ref b.x) := .img rfl rfl
  have cb : CbAt (begC b K prog w s) b.f := beg_cb B
  have v1 : ∀ {x : Str} {v : V}, look x vars1 = some v → (x = "forge" ∧ v = .lst 0) ∨ (x = "image" ∧ v = .img) ∨ (x = "heard" ∧ v = .lst 2) ∨ (x = "called_back" ∧ v = cbV) := fun e => by
    have m := look_in e
    simp only [vars1, List.mem_cons, List.not_mem_nil, or_false, Prod.mk.injEq] at m
    exact m
  refine ⟨⟨⟨_, hA⟩, fun l e hl me => ?_⟩, B.kind, B.glob, B.blt, (wi6 _ hA env (.head _) rfl), fun k mk e => ?_, fun a ma => ?_, fun a ma => ⟨fun z => n4 a ?_ z, fun z => n5 a ?_ z⟩, fun a ma hs => ?_, by refine rwm (B.loc) ?_; exact .head _, fun x h => by refine rwm (kn ..) ?_; exact h, fun x => by refine rwm (kn ..) ?_; rfl, fun x h hp => ?_, (w7 m (by refine rwm (B.loc) ?_; exact hm) (fun x v e k => ?_)), fun x v e k => ?_, B.apart⟩
  · rw [hA] at hl; (revert hl; refine sm_r fun zz => ?_; subst zz)
    refine rwm (List.mem_singleton.mp me) ?_
    exact (Z3 B.kind b.L m B.frame hm (.head _) (n4 b.L (.head _)) (n5 b.L (.head _)))
  · have mk : k ∈ closL := mk
    simp only [closL, List.mem_cons, List.not_mem_nil, or_false] at mk
    rcases mk with rfl | rfl | rfl <;> exact absurd e (by decide +kernel)
  · exact fa_cons (P := fun a => a ∈ b.hid) (.head _) (fun a m => List.mem_of_mem_drop (List.mem_of_mem_take (show a ∈ (b.hid.drop 4).take 3 from m))) a ma
  · exact List.mem_append_left [520, 527, 541] ma
  · exact List.mem_append_left [b.aF, b.aT, b.aH] ma
  · (refine x6 hs fun l e hl me hf => ?_; clear hs)
    rw [hA] at hl; (revert hl; refine sm_r fun zz => ?_; subst zz)
    rw [List.mem_singleton.mp me, B.frame] at hf
    clear ma
    (revert hf; refine sm_r fun zz => ?_; subst zz); exact B.loc.symm
  · have hx : x = "rows" ∨ x = "wide" ∨ x = "forge" := by
      have all : ∀ p ∈ lawNames, p.2 = .cell → p.1 ∈ lawPars ∨ p.1 = "rows" ∨ p.1 = "wide" ∨ p.1 = "forge" := by decide +kernel
      exact (all _ (mem_of_lookup h) rfl).resolve_left hp
    clear hp
    rcases hx with rfl | rfl | rfl
    · exact (wi0 (by refine rwm (kn ..) ?_; exact h) b.cR vR c3 (.tail _ (.head _)) oR r1 r2)
    · exact (wi0 (by refine rwm (kn ..) ?_; exact h) b.cW vW c4 (.tail _ (.tail _ (.head _))) oW w1 w2)
    · exact (wi0 (by refine rwm (kn ..) ?_; exact h) b.cF _ c5 (.tail _ (.tail _ (.tail _ (.head _)))) oF g1 g2)
  · rw [kn] at k
    rcases v1 e with ⟨rfl, rfl⟩ | ⟨rfl, rfl⟩ | ⟨rfl, rfl⟩ | ⟨rfl, rfl⟩
    · exact absurd k (by decide +kernel)
    · exact absurd k (by decide +kernel)
    · exact absurd k (by decide +kernel)
    · exact (w7 _ mc (cb_vr D R cb rfl rfl))
  · rw [kn] at k
    refine rwm (kn ..) ?_
    rcases v1 e with ⟨rfl, rfl⟩ | ⟨rfl, rfl⟩ | ⟨rfl, rfl⟩ | ⟨rfl, rfl⟩
    · exact (W7 (.inl (by decide +kernel)) b.cF _ c5 (w7 oF g1 g2) (.lst rfl) (fun z => absurd z (by decide +kernel)))
    · exact (W7 (.inl (by decide +kernel)) b.cI _ c1 (w7 oI i1 i2) xI (fun _ => B.off b.cI (.tail _ (.tail _ (.tail _ (.tail _ (.head _)))))))
    · exact (W7 (.inl (by decide +kernel)) b.cH _ c2 (w7 oH j1 j2) (.lst rfl) (fun _ => B.off b.cH (.tail _ (.tail _ (.tail _ (.tail _ (.tail _ (.head _))))))))
    · exact absurd (show lawNames.lookup ("called_back" : Str) = some .local by decide +kernel) k
end
noncomputable def Halt (p : Prop) : Prop := p
theorem halt3 {M : Model} {A : Around} {E : Value → Shared → Prop} {Q : Flow → Shared → Prop} {s : Shared} {env : Env} {a b c : Stmt} {r : List Stmt}
    (h : wpAny M A (exec a env) (fun f s₁ => match f with
      | .next => wpAny M A (exec b env) (fun f s₂ => match f with
        | .next => wpAny M A (exec c env) (fun f s₃ => match f with
          | .next => Halt (wpAny M A (PySem.execs r env) Q E s₃)
          | f => Q f s₃) E s₂
        | f => Q f s₂) E s₁
      | f => Q f s₁) E s) : wpAny M A (PySem.execs (a :: b :: c :: r) env) Q E s := by
  refine wpAny_execs_cons (wpAny_mono h (fun f s₁ h₁ => ?_) fun _ _ x => x)
  induction f using Flow.casesOn <;> first | exact h₁ | skip
  refine wpAny_execs_cons (wpAny_mono h₁ (fun f s₂ h₂ => ?_) fun _ _ x => x)
  induction f using Flow.casesOn <;> first | exact h₂ | skip
  refine wpAny_execs_cons (wpAny_mono h₂ (fun f s₃ h₃ => ?_) fun _ _ x => x)
  induction f using Flow.casesOn <;> exact h₃
theorem inc_cons {a b : Nat} {l : List Nat} (h : a < b) (k : (b :: l).Pairwise (· < ·)) : (a :: b :: l).Pairwise (· < ·) :=
  .cons (fun c m => (List.mem_cons.mp m).elim (fun e => e ▸ h) fun m => Nat.lt_trans h (List.rel_of_pairwise_cons k m)) k
noncomputable abbrev gat (l : List Nat) (i : Nat) : Nat := l.getD i 0
theorem inc_lt {l : List Nat} (h : l.Pairwise (· < ·)) {i j : Nat} (ij : i < j) (hj : j < l.length) : gat l i < gat l j := by
  have := List.pairwise_iff_getElem.mp h i j (Nat.lt_trans ij hj) hj ij
  simpa only [gat, List.getD_eq_getElem?_getD, List.getElem?_eq_getElem hj, List.getElem?_eq_getElem (Nat.lt_trans ij hj), Option.getD_some] using this
theorem inc_ne {l : List Nat} (h : l.Pairwise (· < ·)) {i j : Nat} (hi : i < l.length) (hj : j < l.length) (n : i ≠ j) : gat l i ≠ gat l j :=
  (Nat.lt_or_gt_of_ne n).elim (fun k => Nat.ne_of_lt (inc_lt h k hj)) fun k => Nat.ne_of_gt (inc_lt h k hi)
theorem apart_of {l : List Nat} (h : l.Pairwise (· < ·)) {I J : List Nat} (n : Nat) (hl : l.length = n) (hI : ∀ i ∈ I, i < n) (hJ : ∀ i ∈ J, i < n) (d : ∀ i ∈ I, i ∉ J) : ∀ a ∈ I.map (gat l), a ∉ J.map (gat l) := fun a m z => by
  refine w6 (List.mem_map.mp m) fun i mi zz1 => ?_
  clear m
  subst zz1
  refine w6 (List.mem_map.mp z) fun j mj e => ?_
  subst hl
  exact inc_ne h (hJ j mj) (hI i mi) (fun q => d i mi (q ▸ mj)) e
theorem nodup_of {l : List Nat} (h : l.Pairwise (· < ·)) (n : Nat) (hl : l.length = n) : ∀ {I : List Nat}, (∀ i ∈ I, i < n) → I.Nodup → (I.map (gat l)).Nodup
  | [], _, _ => .nil
  | i :: I, hI, nd => by
    refine w8 (List.nodup_cons.mp nd) fun n1 n2 => ?_
    refine List.nodup_cons.mpr ⟨fun z => ?_, nodup_of h n hl (fun j m => hI j (.tail _ m)) n2⟩
    refine w6 (List.mem_map.mp z) fun j mj e => ?_
    subst hl
    exact inc_ne h (hI j (.tail _ mj)) (hI i (.head _)) (fun q => n1 (q ▸ mj)) e
theorem nw {h₀ h : Heap} {L : Addr} {l : List (Addr × Obj)} (N : News h₀ L h l) (i : Nat) {p : Addr × Obj} (e : l[i]? = some p) : h.get? p.1 = some p.2 ∧ p.1 ≠ L ∧ h₀.get? p.1 = none := N p (List.mem_of_getElem? e)
theorem law_end {prog : Program} {K : Frag} {w : World} {h₀ : Heap} {L D0 f c D1 aH aT x d aF cI cH cR cW cF : Nat} {m : Str → Option Value} {o0 fo oc o1 oI oH oR oW oF : Obj} {k1 k2 k3 k4 : Int} {t1 t2 t3 t4 t0 u0 : Tok} {x0 y0 : Int} {q612 : Addr × Obj} {A : Around} {env : Env} {s : Shared} {fd : FuncData} {vs : Array Value} {tv : Tok} {vR vW : Option Value} {rest : List Stmt} {Q : Flow → Shared → Prop} {E : Value → Shared → Prop}
    (all : ∀ h ∈ [(1 : Int), 2, 3], ∀ w ∈ [(1 : Int), 2, 3], lawRun 60 h w = some true) (ok : KOk K w.params) (X : K.In h₀) (top : ∃ p loose mean mg mb, PyProof.Rows.Top p loose mean mg mb h₀) (seer : h₀.NoSeer) (tree : prog.given.tree = none)
    (F : PyProof.Rows.Fr h₀ L s.heap m)
    (N : News h₀ L s.heap [(D0, o0), (f, fo), (c, oc), (D1, o1), (aH, listOf #[] 0), (aT, listOf #[] 0), (x, instObj 228 d), (d, dictOf [⟨k1, .str "things" t1, .ref aT⟩, ⟨k2, .str "heap" t2, .ref x⟩, ⟨k3, .str "kinds" t3, .none⟩, ⟨k4, .str "call" t4, .ref f⟩] 4), (aF, listOf #[.int x0 t0, .int y0 u0] 0), (cI, oI), (cH, oH), (cR, oR), (cW, oW), (cF, oF), (541, tabObj #[]), (527, tabObj #[]), (520, tabObj #[]), q612])
    (ord : 612 < L ∧ L < cF ∧ cF < cW ∧ cW < cR ∧ cR < cH ∧ cH < cI ∧ cI < aF ∧ aF < d ∧ d < x ∧ x < aT ∧ aT < aH ∧ aH < c ∧ c < f) (hq : q612.1 = 612)
    (hm : m "called_back" = some (.ref f)) (f1 : fo.data = .func fd) (f2 : fo.cls = .type "function") (f3 : ∀ C : Cx, ("called_back" : Str) ∉ C.fns → CloFn C "called_back" cbT fd) (f4 : fd.code = .ref c) (f5 : fd.closure = [(("image" : Str), cI), ("heard", cH)]) (f6 : oc.data = .fields vs) (f7 : vs[1]? = some (.str fd.qualname tv))
    (x1 : 0 ≤ x0) (x2 : 0 ≤ y0) (x3 : y0 < 65293) (c1 : oI.data = .cell (some (.ref x))) (c2 : oH.data = .cell (some (.ref aH))) (c3 : oR.data = .cell vR) (c4 : oW.data = .cell vW) (c5 : oF.data = .cell (some (.ref aF)))
    (e1 : env.scope.kind = .function) (e2 : env.scope.names = lawNames) (e3 : env.globals = mainGlobals) (e4 : env.builtins = builtinsNs) (e5 : env.locals = L) (e6 : env.frame = some L) (e7 : env.cells = [(("forge" : Str), cF), ("wide", cW), ("rows", cR), ("heard", cH), ("image", cI)] ∨ env.cells = [(("image" : Str), cI), ("heard", cH), ("rows", cR), ("wide", cW), ("forge", cF)])
    (hA : A.frames = some [env]) (hr : Room A (60 + 120)) (hg : s.gens = #[]) (hrest : rest = (bodyOf "law" Mine.top).drop 3)
    (hQ : ∀ s' : Shared, (∀ a o, h₀.get? a = some o → s'.heap.get? a = some o) → s'.os = s.os → s'.gens = #[] → (∀ P ∈ [(520 : Addr), 527, 541], ∃ ps, s'.heap.get? P = some (tabObj ps)) → s'.heap.get? 612 = some q612.2 → Q (.ret (.bool true)) s') :
    Halt (wpAny (model prog w) A (PySem.execs rest env) Q E s) := by
  have inc : ([520, 527, 541, 612, L, cF, cW, cR, cH, cI, aF, d, x, aT, aH, c, f] : List Nat).Pairwise (· < ·) := by
    obtain ⟨o1, o2, o3, o4, o5, o6, o7, o8, o9, o10, o11, o12, o13⟩ := ord
    exact inc_cons (by decide) (inc_cons (by decide) (inc_cons (by decide) (inc_cons o1 (inc_cons o2 (inc_cons o3 (inc_cons o4 (inc_cons o5 (inc_cons o6 (inc_cons o7 (inc_cons o8 (inc_cons o9 (inc_cons o10 (inc_cons o11 (inc_cons o12 (inc_cons o13 (.cons (fun _ m => nomatch m) .nil))))))))))))))))
  have B : BegAt ⟨L, x, d, f, c, aF, aT, aH, cI, cH, cR, cW, cF⟩ K prog w h₀ env s.heap := {
    ok := ok, kin := X, top := top, seer := seer, tree := tree, keep := F.keep
    fresh := fa_cons (Heap.get?_none_of_le F.above) (fa_cons (nw N 8 rfl).2.2 (fa_cons (nw N 5 rfl).2.2 (fa_cons (nw N 4 rfl).2.2 (fa_cons (nw N 11 rfl).2.2 (fa_cons (nw N 12 rfl).2.2 (fa_cons (nw N 13 rfl).2.2 (fa_cons (nw N 16 rfl).2.2 (fa_cons (nw N 15 rfl).2.2 (fa_cons (nw N 14 rfl).2.2 fa_nil)))))))))
    off := show ∀ a ∈ [12, 11, 16, 15, 9, 8].map (gat [520, 527, 541, 612, L, cF, cW, cR, cH, cI, aF, d, x, aT, aH, c, f]), a ∉ [4, 10, 13, 14, 7, 6, 5, 0, 1, 2].map (gat [520, 527, 541, 612, L, cF, cW, cR, cH, cI, aF, d, x, aT, aH, c, f]) from apart_of inc 17 rfl (by decide) (by decide) (by decide)
    nd := show ([4, 10, 13, 14, 7, 6, 5, 0, 1, 2].map (gat [520, 527, 541, 612, L, cF, cW, cR, cH, cI, aF, d, x, aT, aH, c, f])).Nodup from nodup_of inc 17 rfl (by decide) (by decide)
    ih := Nat.ne_of_gt ord.2.2.2.2.2.1
    ns := (w7 m F.ns hm)
    img := (nw N 6 rfl).1
    dict := ⟨k1, k2, k3, k4, t1, t2, t3, t4, (nw N 7 rfl).1⟩
    fn := ⟨fo, fd, oc, vs, tv, (nw N 1 rfl).1, f1, f2, f3, f4, f5, (nw N 2 rfl).1, f6, f7⟩
    forge := ⟨x0, y0, t0, u0, 0, (nw N 8 rfl).1, x1, x2, x3⟩
    things := ⟨0, (nw N 5 rfl).1⟩
    heard := ⟨0, (nw N 4 rfl).1⟩
    cellI := (w7 oI (nw N 9 rfl).1 c1)
    cellH := (w7 oH (nw N 10 rfl).1 c2)
    cellF := (w7 oF (nw N 13 rfl).1 c5)
    cellR := (x9 oR vR (nw N 11 rfl).1 c3)
    cellW := (x9 oW vW (nw N 12 rfl).1 c4)
    tabs := fa_cons (nw N 16 rfl).1 (fa_cons (nw N 15 rfl).1 (fa_cons (nw N 14 rfl).1 fa_nil))
    kind := e1, names := e2, glob := e3, blt := e4, loc := e5, frame := e6
    cells := by rcases e7 with e | e <;> refine rwm (e) ?_ <;> exact ⟨rfl, rfl, rfl, rfl, rfl⟩
    apart := by
      rcases e7 with e | e <;> refine rwm (e) ?_
      · exact List.pairwise_map.mp (show ([5, 6, 7, 8, 9].map (gat [520, 527, 541, 612, L, cF, cW, cR, cH, cI, aF, d, x, aT, aH, c, f])).Nodup from nodup_of inc 17 rfl (by decide) (by decide))
      · exact List.pairwise_map.mp (show ([9, 8, 7, 6, 5].map (gat [520, 527, 541, 612, L, cF, cW, cR, cH, cI, aF, d, x, aT, aH, c, f])).Nodup from nodup_of inc 17 rfl (by decide) (by decide)) }
  subst hrest
  exact law_rest (beg_fd B) all hr hA (beg_fr B hg hA) (beg_st B hg) fun W' σ' s' R => by
    have n612 : ∀ a ∈ (⟨L, x, d, f, c, aF, aT, aH, cI, cH, cR, cW, cF⟩ : Beg).hid, (612 : Nat) ≠ a := fun a ma e =>
      apart_of inc (I := [3]) (J := [4, 10, 13, 14, 7, 6, 5, 0, 1, 2]) 17 rfl (by decide) (by decide) (by decide) 612 (.head _) (e ▸ ma)
    have g612 : s'.heap.get? 612 = some q612.2 := R.ground _ _ (beg_st' _ _ _ (fun m => n612 _ m rfl) (by refine rwl (hq) ?_; exact (nw N 17 rfl).1))
    refine hQ s' (fun a o e => R.ground _ _ (B.stay a o e)) R.os R.gens (fun P mP => ?_) g612
    have mP : P ∈ closL.map (·.P) := mP
    refine w6 (List.mem_map.mp mP) fun k hk zz1 => ?_
    clear mP
    subst zz1
    refine w6 (R.tab k hk) fun ps e _ => ?_
    exact ⟨ps, e⟩
theorem cb_made {nm qual : Str} {as : List Arg} {body : List Stmt} {scope : Scope} {clos : List (Str × Addr)} {doc pm ctv : Value} {c : Addr}
    (h1 : as.map (·.arg) = cbT.params) (h2 : FuncBody.stmts body = cbT.body) (h3 : scope.names = cbT.names) (k1 : scope.kind = .function) (k2 : scope.isCoroutine = false) (k3 : scope.isGenerator = false) :
    ∀ C : Cx, ("called_back" : Str) ∉ C.fns → CloFn C "called_back" cbT (fnX nm qual ⟨[], as, none, [], [], none, []⟩ body scope clos .none .none doc pm none (.ref c) ctv) := fun C n =>
  { kind := k1, co := k2, gen := k3, names := h3, glob := rfl, blt := rfl, body := h2
    bind := fun vals hl => by
      refine rwl (h1) ?_
      exact bind_plain (fn := fnX nm qual ⟨[], as, none, [], [], none, []⟩ body scope clos .none .none doc pm none (.ref c) ctv) rfl rfl (by refine rwm (h1) ?_; decide +kernel) vals (by refine rwm (h1) ?_; exact hl)
    nd := by decide +kernel
    ndn := by decide +kernel
    loc := by decide +kernel
    noCell := by decide +kernel
    other := n }
theorem good_true {c : ClaimW} {cl : Str → Option Addr} {mean : ExcName → Option Value} {args : List WData} {s₁ s' : Shared} (h1 : ∀ cls, c.raises args cls = false) (h2 : c.post args (.bool true) args = true)
    (h3 : ∀ b o, s₁.heap.get? b = some o → s'.heap.get? b = some o) (h4 : s'.os = s₁.os) (h5 : s'.gens = #[]) : GoodW c cl mean args s₁ (.ok (.ret (.bool true))) s' :=
  (X9 (.inl (Y4 _ _ [] rfl h1 (.bool true) h2 (fun _ => ⟨.nil, fun a m => nomatch m⟩))) h3 h4 h5)
theorem post_true (args : List WData) : PySem.Challenge.rw_sf0041_01.row.toRowW.claim.post args (.bool true) args = true := by kernel_rfl
theorem raises_none (args : List WData) (cls : ExcName) : PySem.Challenge.rw_sf0041_01.row.toRowW.claim.raises args cls = false := by kernel_rfl
theorem ghost_seer {h₁ : Heap} {tabs : List (Addr × Addr)} (hT : TabsAt tabs h₁) (x : h₁.NoSeer) : (ghostOf h₁ tabs).NoSeer where
  statics := let ⟨mc, a, b⟩ := x.statics; (w7 mc (ghost_ns hT a) b)
  mods := let ⟨mc, a, b⟩ := x.mods; (w7 mc (ghost_ns hT a) b)
  imp := let ⟨mb, a, b⟩ := x.imp; (w7 mb (ghost_ns hT a) b)
  main := let ⟨mg, bm, ob, a, b, c, d, e⟩ := x.main; (Y4 mg bm ob (ghost_ns hT a) b (ghost_get hT c (fun q => by rw [q] at d; exact (nomatch d))) d e)
theorem fin_good {cl : Str → Option Addr} {mean : ExcName → Option Value} {args : List WData} {s₁ s' : Shared} {q1 q2 q3 : Addr} {q612 : Obj} (hq : ∃ ps, q612 = tabObj ps)
    (h1 : ∀ a o, s₁.heap.get? a = some o → s'.heap.get? a = some o) (h2 : s'.os = s₁.os) (h3 : s'.gens = #[]) (h4 : ∀ P ∈ [(520 : Addr), 527, 541], ∃ ps, s'.heap.get? P = some (tabObj ps)) (h5 : s'.heap.get? 612 = some q612) :
    GoodW PySem.Challenge.rw_sf0041_01.row.toRowW.claim cl mean args s₁ (.ok (.ret (.bool true))) s' ∧ GrownAll [(q1, 541), (q2, 527), (q3, 520), (614, 612)] s'.heap :=
  ⟨good_true (raises_none _) (post_true _) h1 h2 h3, h4 541 (by decide), h4 527 (by decide), h4 520 (by decide), let ⟨ps, e⟩ := hq; ⟨ps, e ▸ h5⟩, trivial⟩
theorem ev11 : lawRun 60 1 1 = some true := by decide +kernel
theorem ev12 : lawRun 60 1 2 = some true := by decide +kernel
theorem ev13 : lawRun 60 1 3 = some true := by decide +kernel
theorem ev21 : lawRun 60 2 1 = some true := by decide +kernel
theorem ev22 : lawRun 60 2 2 = some true := by decide +kernel
theorem ev23 : lawRun 60 2 3 = some true := by decide +kernel
theorem ev31 : lawRun 60 3 1 = some true := by decide +kernel
theorem ev32 : lawRun 60 3 2 = some true := by decide +kernel
theorem ev33 : lawRun 60 3 3 = some true := by decide +kernel
end Mine
open PySem.W PyProof.Rows
theorem Mine.ev_all : ∀ h ∈ [(1 : Int), 2, 3], ∀ w ∈ [(1 : Int), 2, 3], Mine.lawRun 60 h w = some true := by
  intro h mh w mw
  simp only [List.mem_cons, List.not_mem_nil, or_false] at mh mw
  rcases mh with rfl | rfl | rfl <;> rcases mw with rfl | rfl | rfl
  · exact Mine.ev11
  · exact Mine.ev12
  · exact Mine.ev13
  · exact Mine.ev21
  · exact Mine.ev22
  · exact Mine.ev23
  · exact Mine.ev31
  · exact Mine.ev32
  · exact Mine.ev33
theorem Mine.saidN : namesMeet PySem.Challenge.rw_sf0041_01.row.prog PySem.Challenge.rw_sf0041_01.row.prog.main.body (fun _ n => attrL n) = true := by
  rw [PySem.W.Fast.te17119622794617984870]; kernel_rfl
theorem Mine.saidR : namesResolve PySem.Challenge.rw_sf0041_01.row.prog = true := (congrFun PySem.W.Fast.te8377067652309620493 _).trans (by kernel_rfl)
theorem Mine.said0 : looksOpen PySem.Challenge.rw_sf0041_01.row.prog = true := by
  unfold looksOpen
  rw [Mine.saidN, Mine.saidR, PySem.W.Fast.te8326940854005059898]; kernel_rfl
theorem Mine.said1 : PySem.Challenge.rw_sf0041_01.row.wellSaid = true := by
  unfold OpenRow.wellSaid OpenRow.partSaid
  rw [Mine.said0]; kernel_rfl
theorem Mine.said : PySem.Challenge.rw_sf0041_01.wellSaid = true := by
  unfold OpenLaw.wellSaid
  rw [Mine.said1, PySem.W.Fast.te17119622794617984870, PySem.W.Fast.te8326940854005059898]; kernel_rfl
namespace Mine
noncomputable def PJ (b : Expr) (s : Shared) (v : Value) (s' : Shared) : Prop := ∃ i t tk, v = .int i t ∧ s' = { s with toks := tk } ∧ ((∀ x y z, b ≠ .Subscript x y z) → 0 ≤ i)
theorem pj_of {b : Expr} {s : Shared} {i : Int} {t tk : Tok} (h : (∀ x y z, b ≠ .Subscript x y z) → 0 ≤ i) : PJ b s (.int i t) { s with toks := tk } := ⟨i, t, tk, rfl, rfl, h⟩
theorem pj_use {x : Str} {q : Pos} {i : Int} (h : (∀ a b c, Expr.Name x q ≠ .Subscript a b c) → 0 ≤ i) : 0 ≤ i := h fun _ _ _ e => nomatch e
theorem if_join {M : Model} {A : Around} {E : Value → Shared → Prop} {s : Shared} {test body orelse : Expr} {pos : Pos} {env : Env} {Q : Value → Shared → Prop}
    (h : wpAny M A (isTrue test env (eval test env)) (fun c s₂ => if c then wpAny M A (eval body env) (PJ body s) E s₂ else wpAny M A (eval orelse env) (PJ body s) E s₂) E s)
    (k : ∀ (i : Int) (t tk : Tok), ((∀ x y z, body ≠ .Subscript x y z) → 0 ≤ i) → Q (.int i t) { s with toks := tk }) : wpAny M A (eval (.IfExp test body orelse pos) env) Q E s := by
  refine wpAny_mono (IfExp_ h) (fun v s' x => ?_) fun _ _ x => x
  obtain ⟨i, t, tk, rfl, rfl, hl⟩ := x
  exact k i t tk hl
end Mine
local macro_rules | `(tactic| walk_at "eval IfExp") => `(tactic| refine Mine.if_join ?_ fun _ _ _ _ => ?_)
set_option maxHeartbeats 16000000 in
theorem PySem.Challenge.cw_sf0041_01_holds : PySem.Challenge.rw_sf0041_01.Holds := by
  refine holds_law Mine.said fun said => ?_
  refine holds_open (q := Mine.vw) (loose := Mine.looseL) (Xt := Mine.XtB) (XP := XL Mine.vw []) (Yf := Mine.obs1) (Ya := Mine.val1) (YP := fun w h => (kmHook Mine.K1 Mine.as1 Mine.as1_ok [541, 527, 520, 612]).says w h ∧ ∃ K, Mine.KOk K w.params ∧ noTabs K = true ∧ K.In h) (N := Mine.N0)
    (Mine.left_of Mine.run_all) Mine.obs1_of Mine.says1_keeps (fun s e => xl_of s (Bool.and_eq_true_iff.mp e).1) XL.keeps (by rfl) (by rfl) (by rfl) (fun s e => recFacts_of (Bool.and_eq_true_iff.mp e).2) (by rfl) said (by decide +kernel) ⟨rfl, rfl, rfl, rfl, rfl, by decide +kernel⟩ ?hw ?hc
  case hw => w_witness2
  w_strict (
    k_fill
    intro w s₀ s₁ mg mb G Y fa o pm cd doc dV kV ho hd hcd hD hmg hg args vals as hpre hlay hrd hwl hlo
    obtain ⟨Y1, KK, okK, noK, inK⟩ := Y
    have KX := km_in_of Y1
    km_tabs Y1
    have X := (Ground.X G).1
    have V := (Ground.X G).2
    refine Ground.open G ?_
    intro T B D TE TW
    try (refine guard_noD D (by decide +kernel) ?_; clear D)
    km_lay T hmg ho hd cd
    clear hmg
    wrow_args hpre hlay hrd hwl hlo
    all_goals (
      first | refine callC_kw (enter_call ?_) | refine enter_call ?_
      w_top on
      kn_posts
      w_call any ho hd hcd hD T F
      clear hd
      kn_ghosts F T
      k_drop
      skip)
    all_goals try k_fold
    refine Mine.halt3 ?_
    k_steps
    all_goals (try (with_reducible refine Mine.pj_of (fun h => ?_); first | exact absurd rfl (h _ _ _) | omega | exact Mine.pj_use (by assumption)))
    all_goals (apply Mine.law_end Mine.ev_all okK)
    all_goals (try (case N => assumption))
    all_goals (try (case F => assumption))
    all_goals (try (case X => exact ghost_K (by assumption) inK noK))
    all_goals (try (case top => exact ⟨_, _, _, _, _, by assumption⟩))
    all_goals (try (case seer => exact Mine.ghost_seer (by assumption) (PyProof.Rows.Top.seer (p := Mine.vw) (by assumption) (by kernel_rfl))))
    all_goals (try (case tree => rfl))
    all_goals (try (case ord => omega))
    all_goals (try (case hq => rfl))
    all_goals (try (case hm => exact if_pos rfl))
    all_goals (try (case f1 => exact rfl))
    all_goals (try (case f2 => exact rfl))
    all_goals (try (case f3 => exact Mine.cb_made (by kernel_rfl) (by kernel_rfl) (by kernel_rfl) rfl rfl rfl))
    all_goals (try (case f4 => exact rfl))
    all_goals (try (case f5 => exact rfl))
    all_goals (try (case f6 => assumption))
    all_goals (try (case f7 => assumption))
    all_goals (try (case x1 => first | omega | exact Mine.pj_use (by assumption)))
    all_goals (try (case x2 => first | exact (Mine.fmod_range _ (by decide)).1 | omega))
    all_goals (try (case x3 => first | exact (Mine.fmod_range _ (by decide)).2 | omega))
    all_goals (try (case c1 => assumption))
    all_goals (try (case c2 => assumption))
    all_goals (try (case c3 => assumption))
    all_goals (try (case c4 => assumption))
    all_goals (try (case c5 => assumption))
    all_goals (try (case e1 => rfl))
    all_goals (try (case e2 => kernel_rfl))
    all_goals (try (case e3 => rfl))
    all_goals (try (case e4 => rfl))
    all_goals (try (case e5 => rfl))
    all_goals (try (case e6 => rfl))
    all_goals (try (case e7 => first | exact Or.inl rfl | exact Or.inr rfl))
    all_goals (try (case hA => rfl))
    all_goals (try (case hr => exact ⟨rfl, Nat.le_of_ble_eq_true rfl, Nat.le_of_ble_eq_true rfl⟩))
    all_goals (try (case hg => assumption))
    all_goals (try (case hrest => kernel_rfl))
    all_goals (try (case hQ => exact fun s2 h1 h2 h3 h4 h5 => Mine.fin_good ⟨_, rfl⟩ h1 h2 h3 h4 h5))
    done)
