import PyProof.Rows.All
import Wide.All
import OpenK.AllK
import Wide.FinOn
import PySem.Challenge.RW_sa0156_01
set_option Elab.async false
set_option maxRecDepth 1000000
namespace Mine
section
open PySem PySem.W PyProof.Rows
set_option maxHeartbeats 0
/-! small rules -/
theorem nos {α : Type u} {a : α} {p : Prop} (h : none = some a) : p := Option.noConfusion rfl (heq_of_eq h)
theorem som2 {α : Type u} {β : Type v} {a c : α} {b d : β} {p : Prop} (h : some (a, b) = some (c, d)) (k : a = c → b = d → p) : p :=
  k (congrArg Prod.fst (Option.some.inj h)) (congrArg Prod.snd (Option.some.inj h))
theorem som1 {α : Type u} {a b : α} {p : Prop} (h : some a = some b) (k : a = b → p) : p := k (Option.some.inj h)
theorem mapE {α : Type u} {β : Type v} {f : α → β} {o : Option α} {b : β} {p : Prop} (h : o.map f = some b) (k : ∀ a, o = some a → f a = b → p) : p := by
  cases o with
  | none => exact nos h
  | some a => exact k a rfl (Option.some.inj h)
theorem ex0_2  {A0 A1 : Prop} {P : Prop} (h : A0 ∧ A1) (k : A0 → A1 → P) : P := k h.1 h.2
theorem ex0_3  {A0 A1 A2 : Prop} {P : Prop} (h : A0 ∧ A1 ∧ A2) (k : A0 → A1 → A2 → P) : P := k h.1 h.2.1 h.2.2
theorem ex0_4  {A0 A1 A2 A3 : Prop} {P : Prop} (h : A0 ∧ A1 ∧ A2 ∧ A3) (k : A0 → A1 → A2 → A3 → P) : P := k h.1 h.2.1 h.2.2.1 h.2.2.2
theorem ex1_1 {α0 : Sort _} {A0 : α0 → Prop} {P : Prop} (h : ∃ x0, A0 x0) (k : ∀ x0, A0 x0 → P) : P := h.elim fun x0 h => k x0 h
theorem ex1_2 {α0 : Sort _} {A0 A1 : α0 → Prop} {P : Prop} (h : ∃ x0, A0 x0 ∧ A1 x0) (k : ∀ x0, A0 x0 → A1 x0 → P) : P := h.elim fun x0 h => k x0 h.1 h.2
theorem mk1_2 {α0 : Sort _} {A0 A1 : α0 → Prop} (x0 : α0) (h0 : A0 x0) (h1 : A1 x0) : ∃ x0, A0 x0 ∧ A1 x0 := ⟨x0, h0, h1⟩
theorem ex1_3 {α0 : Sort _} {A0 A1 A2 : α0 → Prop} {P : Prop} (h : ∃ x0, A0 x0 ∧ A1 x0 ∧ A2 x0) (k : ∀ x0, A0 x0 → A1 x0 → A2 x0 → P) : P := h.elim fun x0 h => k x0 h.1 h.2.1 h.2.2
theorem mk1_3 {α0 : Sort _} {A0 A1 A2 : α0 → Prop} (x0 : α0) (h0 : A0 x0) (h1 : A1 x0) (h2 : A2 x0) : ∃ x0, A0 x0 ∧ A1 x0 ∧ A2 x0 := ⟨x0, h0, h1, h2⟩
theorem ex1_4 {α0 : Sort _} {A0 A1 A2 A3 : α0 → Prop} {P : Prop} (h : ∃ x0, A0 x0 ∧ A1 x0 ∧ A2 x0 ∧ A3 x0) (k : ∀ x0, A0 x0 → A1 x0 → A2 x0 → A3 x0 → P) : P := h.elim fun x0 h => k x0 h.1 h.2.1 h.2.2.1 h.2.2.2
theorem mk1_4 {α0 : Sort _} {A0 A1 A2 A3 : α0 → Prop} (x0 : α0) (h0 : A0 x0) (h1 : A1 x0) (h2 : A2 x0) (h3 : A3 x0) : ∃ x0, A0 x0 ∧ A1 x0 ∧ A2 x0 ∧ A3 x0 := ⟨x0, h0, h1, h2, h3⟩
theorem ex1_5 {α0 : Sort _} {A0 A1 A2 A3 A4 : α0 → Prop} {P : Prop} (h : ∃ x0, A0 x0 ∧ A1 x0 ∧ A2 x0 ∧ A3 x0 ∧ A4 x0) (k : ∀ x0, A0 x0 → A1 x0 → A2 x0 → A3 x0 → A4 x0 → P) : P := h.elim fun x0 h => k x0 h.1 h.2.1 h.2.2.1 h.2.2.2.1 h.2.2.2.2
theorem ex2_1 {α0 : Sort _} {α1 : Sort _} {A0 : α0 → α1 → Prop} {P : Prop} (h : ∃ x0 x1, A0 x0 x1) (k : ∀ x0 x1, A0 x0 x1 → P) : P := h.elim fun x0 h => h.elim fun x1 h => k x0 x1 h
theorem mk2_1 {α0 : Sort _} {α1 : Sort _} {A0 : α0 → α1 → Prop} (x0 : α0) (x1 : α1) (h0 : A0 x0 x1) : ∃ x0 x1, A0 x0 x1 := ⟨x0, x1, h0⟩
theorem ex2_2 {α0 : Sort _} {α1 : Sort _} {A0 A1 : α0 → α1 → Prop} {P : Prop} (h : ∃ x0 x1, A0 x0 x1 ∧ A1 x0 x1) (k : ∀ x0 x1, A0 x0 x1 → A1 x0 x1 → P) : P := h.elim fun x0 h => h.elim fun x1 h => k x0 x1 h.1 h.2
theorem mk2_2 {α0 : Sort _} {α1 : Sort _} {A0 A1 : α0 → α1 → Prop} (x0 : α0) (x1 : α1) (h0 : A0 x0 x1) (h1 : A1 x0 x1) : ∃ x0 x1, A0 x0 x1 ∧ A1 x0 x1 := ⟨x0, x1, h0, h1⟩
theorem ex2_3 {α0 : Sort _} {α1 : Sort _} {A0 A1 A2 : α0 → α1 → Prop} {P : Prop} (h : ∃ x0 x1, A0 x0 x1 ∧ A1 x0 x1 ∧ A2 x0 x1) (k : ∀ x0 x1, A0 x0 x1 → A1 x0 x1 → A2 x0 x1 → P) : P := h.elim fun x0 h => h.elim fun x1 h => k x0 x1 h.1 h.2.1 h.2.2
theorem mk2_3 {α0 : Sort _} {α1 : Sort _} {A0 A1 A2 : α0 → α1 → Prop} (x0 : α0) (x1 : α1) (h0 : A0 x0 x1) (h1 : A1 x0 x1) (h2 : A2 x0 x1) : ∃ x0 x1, A0 x0 x1 ∧ A1 x0 x1 ∧ A2 x0 x1 := ⟨x0, x1, h0, h1, h2⟩
theorem ex3_2 {α0 : Sort _} {α1 : Sort _} {α2 : Sort _} {A0 A1 : α0 → α1 → α2 → Prop} {P : Prop} (h : ∃ x0 x1 x2, A0 x0 x1 x2 ∧ A1 x0 x1 x2) (k : ∀ x0 x1 x2, A0 x0 x1 x2 → A1 x0 x1 x2 → P) : P := h.elim fun x0 h => h.elim fun x1 h => h.elim fun x2 h => k x0 x1 x2 h.1 h.2
theorem mk3_2 {α0 : Sort _} {α1 : Sort _} {α2 : Sort _} {A0 A1 : α0 → α1 → α2 → Prop} (x0 : α0) (x1 : α1) (x2 : α2) (h0 : A0 x0 x1 x2) (h1 : A1 x0 x1 x2) : ∃ x0 x1 x2, A0 x0 x1 x2 ∧ A1 x0 x1 x2 := ⟨x0, x1, x2, h0, h1⟩
theorem ex3_4 {α0 : Sort _} {α1 : Sort _} {α2 : Sort _} {A0 A1 A2 A3 : α0 → α1 → α2 → Prop} {P : Prop} (h : ∃ x0 x1 x2, A0 x0 x1 x2 ∧ A1 x0 x1 x2 ∧ A2 x0 x1 x2 ∧ A3 x0 x1 x2) (k : ∀ x0 x1 x2, A0 x0 x1 x2 → A1 x0 x1 x2 → A2 x0 x1 x2 → A3 x0 x1 x2 → P) : P := h.elim fun x0 h => h.elim fun x1 h => h.elim fun x2 h => k x0 x1 x2 h.1 h.2.1 h.2.2.1 h.2.2.2
theorem mk3_4 {α0 : Sort _} {α1 : Sort _} {α2 : Sort _} {A0 A1 A2 A3 : α0 → α1 → α2 → Prop} (x0 : α0) (x1 : α1) (x2 : α2) (h0 : A0 x0 x1 x2) (h1 : A1 x0 x1 x2) (h2 : A2 x0 x1 x2) (h3 : A3 x0 x1 x2) : ∃ x0 x1 x2, A0 x0 x1 x2 ∧ A1 x0 x1 x2 ∧ A2 x0 x1 x2 ∧ A3 x0 x1 x2 := ⟨x0, x1, x2, h0, h1, h2, h3⟩
theorem ex4_3 {α0 : Sort _} {α1 : Sort _} {α2 : Sort _} {α3 : Sort _} {A0 A1 A2 : α0 → α1 → α2 → α3 → Prop} {P : Prop} (h : ∃ x0 x1 x2 x3, A0 x0 x1 x2 x3 ∧ A1 x0 x1 x2 x3 ∧ A2 x0 x1 x2 x3) (k : ∀ x0 x1 x2 x3, A0 x0 x1 x2 x3 → A1 x0 x1 x2 x3 → A2 x0 x1 x2 x3 → P) : P := h.elim fun x0 h => h.elim fun x1 h => h.elim fun x2 h => h.elim fun x3 h => k x0 x1 x2 x3 h.1 h.2.1 h.2.2
theorem mk4_3 {α0 : Sort _} {α1 : Sort _} {α2 : Sort _} {α3 : Sort _} {A0 A1 A2 : α0 → α1 → α2 → α3 → Prop} (x0 : α0) (x1 : α1) (x2 : α2) (x3 : α3) (h0 : A0 x0 x1 x2 x3) (h1 : A1 x0 x1 x2 x3) (h2 : A2 x0 x1 x2 x3) : ∃ x0 x1 x2 x3, A0 x0 x1 x2 x3 ∧ A1 x0 x1 x2 x3 ∧ A2 x0 x1 x2 x3 := ⟨x0, x1, x2, x3, h0, h1, h2⟩
theorem ex4_4 {α0 : Sort _} {α1 : Sort _} {α2 : Sort _} {α3 : Sort _} {A0 A1 A2 A3 : α0 → α1 → α2 → α3 → Prop} {P : Prop} (h : ∃ x0 x1 x2 x3, A0 x0 x1 x2 x3 ∧ A1 x0 x1 x2 x3 ∧ A2 x0 x1 x2 x3 ∧ A3 x0 x1 x2 x3) (k : ∀ x0 x1 x2 x3, A0 x0 x1 x2 x3 → A1 x0 x1 x2 x3 → A2 x0 x1 x2 x3 → A3 x0 x1 x2 x3 → P) : P := h.elim fun x0 h => h.elim fun x1 h => h.elim fun x2 h => h.elim fun x3 h => k x0 x1 x2 x3 h.1 h.2.1 h.2.2.1 h.2.2.2
theorem mk4_4 {α0 : Sort _} {α1 : Sort _} {α2 : Sort _} {α3 : Sort _} {A0 A1 A2 A3 : α0 → α1 → α2 → α3 → Prop} (x0 : α0) (x1 : α1) (x2 : α2) (x3 : α3) (h0 : A0 x0 x1 x2 x3) (h1 : A1 x0 x1 x2 x3) (h2 : A2 x0 x1 x2 x3) (h3 : A3 x0 x1 x2 x3) : ∃ x0 x1 x2 x3, A0 x0 x1 x2 x3 ∧ A1 x0 x1 x2 x3 ∧ A2 x0 x1 x2 x3 ∧ A3 x0 x1 x2 x3 := ⟨x0, x1, x2, x3, h0, h1, h2, h3⟩
theorem ex4_7 {α0 : Sort _} {α1 : Sort _} {α2 : Sort _} {α3 : Sort _} {A0 A1 A2 A3 A4 A5 A6 : α0 → α1 → α2 → α3 → Prop} {P : Prop} (h : ∃ x0 x1 x2 x3, A0 x0 x1 x2 x3 ∧ A1 x0 x1 x2 x3 ∧ A2 x0 x1 x2 x3 ∧ A3 x0 x1 x2 x3 ∧ A4 x0 x1 x2 x3 ∧ A5 x0 x1 x2 x3 ∧ A6 x0 x1 x2 x3) (k : ∀ x0 x1 x2 x3, A0 x0 x1 x2 x3 → A1 x0 x1 x2 x3 → A2 x0 x1 x2 x3 → A3 x0 x1 x2 x3 → A4 x0 x1 x2 x3 → A5 x0 x1 x2 x3 → A6 x0 x1 x2 x3 → P) : P := h.elim fun x0 h => h.elim fun x1 h => h.elim fun x2 h => h.elim fun x3 h => k x0 x1 x2 x3 h.1 h.2.1 h.2.2.1 h.2.2.2.1 h.2.2.2.2.1 h.2.2.2.2.2.1 h.2.2.2.2.2.2
theorem mk4_7 {α0 : Sort _} {α1 : Sort _} {α2 : Sort _} {α3 : Sort _} {A0 A1 A2 A3 A4 A5 A6 : α0 → α1 → α2 → α3 → Prop} (x0 : α0) (x1 : α1) (x2 : α2) (x3 : α3) (h0 : A0 x0 x1 x2 x3) (h1 : A1 x0 x1 x2 x3) (h2 : A2 x0 x1 x2 x3) (h3 : A3 x0 x1 x2 x3) (h4 : A4 x0 x1 x2 x3) (h5 : A5 x0 x1 x2 x3) (h6 : A6 x0 x1 x2 x3) : ∃ x0 x1 x2 x3, A0 x0 x1 x2 x3 ∧ A1 x0 x1 x2 x3 ∧ A2 x0 x1 x2 x3 ∧ A3 x0 x1 x2 x3 ∧ A4 x0 x1 x2 x3 ∧ A5 x0 x1 x2 x3 ∧ A6 x0 x1 x2 x3 := ⟨x0, x1, x2, x3, h0, h1, h2, h3, h4, h5, h6⟩
theorem ex5_6 {α0 : Sort _} {α1 : Sort _} {α2 : Sort _} {α3 : Sort _} {α4 : Sort _} {A0 A1 A2 A3 A4 A5 : α0 → α1 → α2 → α3 → α4 → Prop} {P : Prop} (h : ∃ x0 x1 x2 x3 x4, A0 x0 x1 x2 x3 x4 ∧ A1 x0 x1 x2 x3 x4 ∧ A2 x0 x1 x2 x3 x4 ∧ A3 x0 x1 x2 x3 x4 ∧ A4 x0 x1 x2 x3 x4 ∧ A5 x0 x1 x2 x3 x4) (k : ∀ x0 x1 x2 x3 x4, A0 x0 x1 x2 x3 x4 → A1 x0 x1 x2 x3 x4 → A2 x0 x1 x2 x3 x4 → A3 x0 x1 x2 x3 x4 → A4 x0 x1 x2 x3 x4 → A5 x0 x1 x2 x3 x4 → P) : P := h.elim fun x0 h => h.elim fun x1 h => h.elim fun x2 h => h.elim fun x3 h => h.elim fun x4 h => k x0 x1 x2 x3 x4 h.1 h.2.1 h.2.2.1 h.2.2.2.1 h.2.2.2.2.1 h.2.2.2.2.2
theorem mk5_6 {α0 : Sort _} {α1 : Sort _} {α2 : Sort _} {α3 : Sort _} {α4 : Sort _} {A0 A1 A2 A3 A4 A5 : α0 → α1 → α2 → α3 → α4 → Prop} (x0 : α0) (x1 : α1) (x2 : α2) (x3 : α3) (x4 : α4) (h0 : A0 x0 x1 x2 x3 x4) (h1 : A1 x0 x1 x2 x3 x4) (h2 : A2 x0 x1 x2 x3 x4) (h3 : A3 x0 x1 x2 x3 x4) (h4 : A4 x0 x1 x2 x3 x4) (h5 : A5 x0 x1 x2 x3 x4) : ∃ x0 x1 x2 x3 x4, A0 x0 x1 x2 x3 x4 ∧ A1 x0 x1 x2 x3 x4 ∧ A2 x0 x1 x2 x3 x4 ∧ A3 x0 x1 x2 x3 x4 ∧ A4 x0 x1 x2 x3 x4 ∧ A5 x0 x1 x2 x3 x4 := ⟨x0, x1, x2, x3, x4, h0, h1, h2, h3, h4, h5⟩
theorem ex6_1 {α0 : Sort _} {α1 : Sort _} {α2 : Sort _} {α3 : Sort _} {α4 : Sort _} {α5 : Sort _} {A0 : α0 → α1 → α2 → α3 → α4 → α5 → Prop} {P : Prop} (h : ∃ x0 x1 x2 x3 x4 x5, A0 x0 x1 x2 x3 x4 x5) (k : ∀ x0 x1 x2 x3 x4 x5, A0 x0 x1 x2 x3 x4 x5 → P) : P := h.elim fun x0 h => h.elim fun x1 h => h.elim fun x2 h => h.elim fun x3 h => h.elim fun x4 h => h.elim fun x5 h => k x0 x1 x2 x3 x4 x5 h
theorem mk6_1 {α0 : Sort _} {α1 : Sort _} {α2 : Sort _} {α3 : Sort _} {α4 : Sort _} {α5 : Sort _} {A0 : α0 → α1 → α2 → α3 → α4 → α5 → Prop} (x0 : α0) (x1 : α1) (x2 : α2) (x3 : α3) (x4 : α4) (x5 : α5) (h0 : A0 x0 x1 x2 x3 x4 x5) : ∃ x0 x1 x2 x3 x4 x5, A0 x0 x1 x2 x3 x4 x5 := ⟨x0, x1, x2, x3, x4, x5, h0⟩
theorem ex6_5 {α0 : Sort _} {α1 : Sort _} {α2 : Sort _} {α3 : Sort _} {α4 : Sort _} {α5 : Sort _} {A0 A1 A2 A3 A4 : α0 → α1 → α2 → α3 → α4 → α5 → Prop} {P : Prop} (h : ∃ x0 x1 x2 x3 x4 x5, A0 x0 x1 x2 x3 x4 x5 ∧ A1 x0 x1 x2 x3 x4 x5 ∧ A2 x0 x1 x2 x3 x4 x5 ∧ A3 x0 x1 x2 x3 x4 x5 ∧ A4 x0 x1 x2 x3 x4 x5) (k : ∀ x0 x1 x2 x3 x4 x5, A0 x0 x1 x2 x3 x4 x5 → A1 x0 x1 x2 x3 x4 x5 → A2 x0 x1 x2 x3 x4 x5 → A3 x0 x1 x2 x3 x4 x5 → A4 x0 x1 x2 x3 x4 x5 → P) : P := h.elim fun x0 h => h.elim fun x1 h => h.elim fun x2 h => h.elim fun x3 h => h.elim fun x4 h => h.elim fun x5 h => k x0 x1 x2 x3 x4 x5 h.1 h.2.1 h.2.2.1 h.2.2.2.1 h.2.2.2.2
theorem mk6_5 {α0 : Sort _} {α1 : Sort _} {α2 : Sort _} {α3 : Sort _} {α4 : Sort _} {α5 : Sort _} {A0 A1 A2 A3 A4 : α0 → α1 → α2 → α3 → α4 → α5 → Prop} (x0 : α0) (x1 : α1) (x2 : α2) (x3 : α3) (x4 : α4) (x5 : α5) (h0 : A0 x0 x1 x2 x3 x4 x5) (h1 : A1 x0 x1 x2 x3 x4 x5) (h2 : A2 x0 x1 x2 x3 x4 x5) (h3 : A3 x0 x1 x2 x3 x4 x5) (h4 : A4 x0 x1 x2 x3 x4 x5) : ∃ x0 x1 x2 x3 x4 x5, A0 x0 x1 x2 x3 x4 x5 ∧ A1 x0 x1 x2 x3 x4 x5 ∧ A2 x0 x1 x2 x3 x4 x5 ∧ A3 x0 x1 x2 x3 x4 x5 ∧ A4 x0 x1 x2 x3 x4 x5 := ⟨x0, x1, x2, x3, x4, x5, h0, h1, h2, h3, h4⟩
theorem ex6_6 {α0 : Sort _} {α1 : Sort _} {α2 : Sort _} {α3 : Sort _} {α4 : Sort _} {α5 : Sort _} {A0 A1 A2 A3 A4 A5 : α0 → α1 → α2 → α3 → α4 → α5 → Prop} {P : Prop} (h : ∃ x0 x1 x2 x3 x4 x5, A0 x0 x1 x2 x3 x4 x5 ∧ A1 x0 x1 x2 x3 x4 x5 ∧ A2 x0 x1 x2 x3 x4 x5 ∧ A3 x0 x1 x2 x3 x4 x5 ∧ A4 x0 x1 x2 x3 x4 x5 ∧ A5 x0 x1 x2 x3 x4 x5) (k : ∀ x0 x1 x2 x3 x4 x5, A0 x0 x1 x2 x3 x4 x5 → A1 x0 x1 x2 x3 x4 x5 → A2 x0 x1 x2 x3 x4 x5 → A3 x0 x1 x2 x3 x4 x5 → A4 x0 x1 x2 x3 x4 x5 → A5 x0 x1 x2 x3 x4 x5 → P) : P := h.elim fun x0 h => h.elim fun x1 h => h.elim fun x2 h => h.elim fun x3 h => h.elim fun x4 h => h.elim fun x5 h => k x0 x1 x2 x3 x4 x5 h.1 h.2.1 h.2.2.1 h.2.2.2.1 h.2.2.2.2.1 h.2.2.2.2.2
theorem mk6_6 {α0 : Sort _} {α1 : Sort _} {α2 : Sort _} {α3 : Sort _} {α4 : Sort _} {α5 : Sort _} {A0 A1 A2 A3 A4 A5 : α0 → α1 → α2 → α3 → α4 → α5 → Prop} (x0 : α0) (x1 : α1) (x2 : α2) (x3 : α3) (x4 : α4) (x5 : α5) (h0 : A0 x0 x1 x2 x3 x4 x5) (h1 : A1 x0 x1 x2 x3 x4 x5) (h2 : A2 x0 x1 x2 x3 x4 x5) (h3 : A3 x0 x1 x2 x3 x4 x5) (h4 : A4 x0 x1 x2 x3 x4 x5) (h5 : A5 x0 x1 x2 x3 x4 x5) : ∃ x0 x1 x2 x3 x4 x5, A0 x0 x1 x2 x3 x4 x5 ∧ A1 x0 x1 x2 x3 x4 x5 ∧ A2 x0 x1 x2 x3 x4 x5 ∧ A3 x0 x1 x2 x3 x4 x5 ∧ A4 x0 x1 x2 x3 x4 x5 ∧ A5 x0 x1 x2 x3 x4 x5 := ⟨x0, x1, x2, x3, x4, x5, h0, h1, h2, h3, h4, h5⟩
--EXEND
noncomputable abbrev pw : Program := PySem.Challenge.pw_sa0156_01
noncomputable abbrev stepF := Fast.tw10156331382660048174
noncomputable abbrev okF := Fast.tw6613529449190102663
noncomputable abbrev denF := Fast.tw11892475500146522536
noncomputable abbrev tabF := Fast.tw14364793385576792824
noncomputable def topT (p : Program) (w : World) (n₀ : Nat) (ann : Option Value) : Nat → SharedT → Thread → Option SharedT
  | 0, _, _ => none
  | n + 1, s, t => match through t with
    | true => some s
    | false => match okF n₀ ann t with
      | false => none
      | true => match stepF (denF tabF) p w s t with
        | some (s', t') => topT p w n₀ ann n s' t'
        | none => none
theorem topT_run {p : Program} {w : World} {n₀ : Nat} {ann : Option Value} : ∀ {n : Nat} {s s' : SharedT} {t : Thread}, topT p w n₀ ann n s t = some s' → topRun treeTable p w n₀ ann n s.abs t = some s'.abs
  | 0, _, _, _, h => by cases h
  | n + 1, s, s', t, h => by
    have e1 : stepF = @stepT := Fast.te10156331382660048174.symm
    have e2 : okF = @stepOk := Fast.te6613529449190102663.symm
    have e3 : denF = @denote := Fast.te11892475500146522536.symm
    have e4 : tabF = @treeTable := Fast.te14364793385576792824.symm
    unfold topT at h
    unfold topRun
    rw [e1, e2, e3, e4] at h
    cases ht : through t with
    | true => rw [ht] at h; cases h; rfl
    | false =>
      rw [ht] at h
      cases hk : stepOk n₀ ann t with
      | false => rw [hk] at h; cases h
      | true =>
        rw [hk] at h
        cases hs : stepT (denote treeTable) p w s t with
        | none => rw [hs] at h; cases h
        | some r => obtain ⟨s₂, t₂⟩ := r; rw [hs] at h; rw [stepT_spec hs]; exact topT_run h
noncomputable def mkT : List Obj → Nat → BT → BT
  | [], _, t => t
  | o :: r, n, t => mkT r (n+1) (t.ins n o)
noncomputable def S0 (w : World) (os : OsState) : SharedT := ⟨mkT (boot_heap w.params).objs.toList 0 .nil, 11, (boot_heap w.params).life, #[], boot_drawn, boot_toks, os⟩
theorem S0_abs (w : World) (os : OsState) : (S0 w os).abs = ⟨boot_heap w.params, #[], boot_drawn, boot_toks, os⟩ := by kernel_rfl
noncomputable def looks1 (p : Program) (P : Params) (s : Shared) : Bool := staticsOk (importedModules p.main.body) (boot_heap P) s.heap && namesBound p s.heap && gensDone s && laidKept (boot_heap P) s.heap
theorem left_gen {p q : Program} {loose : List Str} {Xt : Shared → Bool} {α : Type} {Yf : Shared → α} {Ya : World → α} {N m : Nat} {ann : Option Value}
    (fence : ∀ w : World, (fencedOpening treeTable p w N).map (fun s => (s.heap, s.gens, s.drawn, s.toks)) = some (boot_heap w.params, Array.mk [], boot_drawn, boot_toks))
    (size : ∀ w : World, ((boot_heap w.params).isNs mainGlobals, (boot_heap w.params).objs.size, (boot_heap w.params).nsMap mainGlobals "__annotations__") = (true, m, ann))
    (run : ∀ (w : World) (os : OsState), (topT p w m ann N (S0 w os) (topStub p)).map (fun S => (looks1 p w.params S.abs, openSeen q loose (importedModules p.main.body) Xt true S.abs, Yf S.abs)) = some (true, openGood q loose, Ya w)) :
    LeftO p q loose Xt Yf Ya N := fun w => by
  obtain ⟨⟨h, gs, d, k, os⟩, e, e'⟩ := Option.map_eq_some_iff.mp (fence w)
  obtain ⟨rfl, rfl, rfl, rfl⟩ : h = boot_heap w.params ∧ gs = #[] ∧ d = boot_drawn ∧ k = boot_toks := by simpa using e'
  obtain ⟨z1, z2, z3⟩ : _ ∧ _ ∧ _ := by simpa only [Prod.mk.injEq] using size w
  obtain ⟨S, hS, hl⟩ := Option.map_eq_some_iff.mp (run w os)
  obtain ⟨l1, l2, l3⟩ : _ ∧ _ ∧ _ := by simpa only [Prod.mk.injEq] using hl
  have r := topT_run hS
  rw [S0_abs] at r
  have t : topFrom treeTable p w N ⟨boot_heap w.params, #[], boot_drawn, boot_toks, os⟩ = some S.abs := by
    unfold topFrom
    dsimp only
    rw [z1, z2, z3, r]
    show (match looks1 p w.params S.abs with | true => _ | false => _) = _
    rw [l1]
  unfold openEnds
  rw [e]
  show (topFrom treeTable p w N _).map _ = _
  rw [t]
  exact congrArg some (Prod.ext l2 l3)
end
section
open PySem PySem.W PyProof.Rows
set_option maxHeartbeats 0
noncomputable def sAt (i : Nat) : Option Stmt := pw.main.body[i]?
noncomputable def mAt (i j : Nat) : Option Stmt := match sAt i with
  | some (.ClassDef _ _ _ b _ _ _ _ _ _ _) => b[j]?
  | _ => none
noncomputable def hE (P : Params) (x : String) (t : Nat) (v : Value) : DictEntry := ⟨PyData.keyHash P (Str.ofString x), .str (Str.ofString x) t, v⟩
noncomputable def dO (c : Value) (es : List DictEntry) (n : Nat) : Obj := { cls := c, data := .dict es.toArray n }
noncomputable def tO (vs : List Value) : Obj := { cls := .type "tuple", data := .seq vs.toArray 0 }
noncomputable def cO (vs : List Value) : Obj := { cls := .type "code", data := .fields vs.toArray }
noncomputable def kO (n : String) (ns a : Addr) (sl : List (Option Value)) : Obj :=
  { cls := .type "type", data := .cls { name := Str.ofString n, bases := [.type "object"], mro := [.ref a, .type "object"], ns := ns, qualname := Str.ofString n, hasDict := true, slotNames := [], subclasses := [], abstract := false, collection := none, hasDel := false }, slots := sl.toArray }
noncomputable def fD (d : Option Stmt) (qual : String) (pm cd dV : Value) : FuncData := match d with
  | some (.FunctionDef n ar b _ _ _ sc _ _ _) => fnX n (Str.ofString qual) ar b sc [] dV .none .none pm none cd .none
  | _ => default
noncomputable def fO (d : Option Stmt) (qual : String) (pm cd dV : Value) : Obj := { cls := .type "function", data := .func (fD d qual pm cd dV) }
noncomputable def KL (P : Params) : List (Addr × Obj) := [
  (2, dO (.none) [hE P "type.__subclasses__.Exception.0" 212 (.int (31) 0), hE P "type.__subclasses__.Exception.n" 213 (.int (1) 0)] 2),
  (3, dO (.type "dict") [hE P "__name__" 165 (.str "law_sa0156_01" 904), hE P "__doc__" 166 (.none), hE P "__package__" 167 (.none), hE P "__loader__" 168 (.builtin "__main__.__loader__#opaque"), hE P "__spec__" 169 (.none), hE P "__annotations__" 170 (.ref 6), hE P "__builtins__" 171 (.ref 4), hE P "__file__" 173 (.str "/claim/cut.py" 172), hE P "__cached__" 174 (.none), hE P "_wall" 193 (.ref 21), hE P "ClausemillError" 215 (.ref 31), hE P "SyntaxFault" 246 (.ref 51), hE P "A_NIL" 248 (.int (0) 247), hE P "A_CURLY" 250 (.int (2) 249), hE P "A_COMMA" 252 (.int (7) 251), hE P "A_BAR" 254 (.int (8) 253), hE P "F_DOT" 256 (.int (0) 255), hE P "F_COMMA" 258 (.int (1) 257), hE P "F_CURLY" 260 (.int (9) 259), hE P "fixed_atoms" 266 (.ref 60), hE P "fixed_functors" 272 (.ref 67), hE P "Symbols" 391 (.ref 154), hE P "NIL" 395 (.ref 159), hE P "var" 402 (.ref 166), hE P "atom" 409 (.ref 173), hE P "integer" 416 (.ref 180), hE P "struct" 424 (.ref 187), hE P "list_term" 434 (.ref 195), hE P "COMMA_PRIORITY" 438 (.int (1000) 437), hE P "PREFIX_TYPES" 441 (.ref 196), hE P "INFIX_TYPES" 445 (.ref 197), hE P "POSTFIX_TYPES" 448 (.ref 198), hE P "standard_rows" 454 (.ref 205), hE P "fixity" 461 (.ref 212), hE P "bounds" 470 (.ref 219), hE P "OperatorTable" 570 (.ref 286), hE P "CLAUSE_PRIORITY" 574 (.int (1200) 573), hE P "ARGUMENT_PRIORITY" 576 (.int (999) 575), hE P "WANT_OPERAND" 578 (.int (0) 577), hE P "WANT_OPERATOR" 580 (.int (1) 579), hE P "DONE" 582 (.int (2) 581), hE P "CLOSERS" 586 (.ref 291), hE P "SEPARATORS" 589 (.ref 292), hE P "Frame" 625 (.ref 309), hE P "ends_operand" 632 (.ref 320), hE P "closes" 639 (.ref 327), hE P "is_punct" 647 (.ref 334), hE P "Parser" 903 (.ref 517), hE P "_law_figures" 916 (.ref 528), hE P "_law_leaf" 927 (.ref 535), hE P "_law_alone" 939 (.ref 542), hE P "_law_both" 955 (.ref 549), hE P "_law_numbered" 961 (.ref 554), hE P "law" 967 (.ref 559)] 54),
  (60, fO (sAt 11) "fixed_atoms" (.str "clausemill.symbols" 194) (.ref 59) (.none)),
  (59, cO [.str "fixed_atoms" 261, .str "fixed_atoms" 262, .str "/claim/cut.py" 263, .int (21) 0, .int (0) 0, .int (0) 0, .int (0) 0, .int (3) 0, .ref 54, .bool true, .int (181) 0, .ref 55, .none, .ref 56, .ref 57, .ref 58, .int (264) 0, .int (21) 0, .str "/claim/cut.py" 265]),
  (67, fO (sAt 12) "fixed_functors" (.str "clausemill.symbols" 194) (.ref 66) (.none)),
  (66, cO [.str "fixed_functors" 267, .str "fixed_functors" 268, .str "/claim/cut.py" 269, .int (23) 0, .int (0) 0, .int (0) 0, .int (0) 0, .int (3) 0, .ref 61, .bool true, .int (181) 0, .ref 62, .none, .ref 63, .ref 64, .ref 65, .int (270) 0, .int (23) 0, .str "/claim/cut.py" 271]),
  (81, fO (mAt 13 0) "Symbols.__init__" (.str "clausemill.symbols" 194) (.ref 80) (.none)),
  (80, cO [.str "__init__" 285, .str "Symbols.__init__" 286, .str "/claim/cut.py" 287, .int (27) 0, .int (1) 0, .int (0) 0, .int (0) 0, .int (3) 0, .ref 75, .bool true, .int (181) 0, .ref 76, .none, .ref 77, .ref 78, .ref 79, .int (291) 0, .int (27) 0, .str "/claim/cut.py" 292]),
  (88, fO (mAt 13 1) "Symbols.atom" (.str "clausemill.symbols" 194) (.ref 87) (.none)),
  (87, cO [.str "atom" 294, .str "Symbols.atom" 295, .str "/claim/cut.py" 296, .int (37) 0, .int (2) 0, .int (0) 0, .int (0) 0, .int (3) 0, .ref 82, .bool true, .int (181) 0, .ref 83, .none, .ref 84, .ref 85, .ref 86, .int (301) 0, .int (37) 0, .str "/claim/cut.py" 302]),
  (95, fO (mAt 13 2) "Symbols.text" (.str "clausemill.symbols" 194) (.ref 94) (.none)),
  (94, cO [.str "text" 304, .str "Symbols.text" 305, .str "/claim/cut.py" 306, .int (46) 0, .int (2) 0, .int (0) 0, .int (0) 0, .int (3) 0, .ref 89, .bool true, .int (181) 0, .ref 90, .none, .ref 91, .ref 92, .ref 93, .int (309) 0, .int (46) 0, .str "/claim/cut.py" 310]),
  (102, fO (mAt 13 3) "Symbols.functor" (.str "clausemill.symbols" 194) (.ref 101) (.none)),
  (101, cO [.str "functor" 312, .str "Symbols.functor" 313, .str "/claim/cut.py" 314, .int (49) 0, .int (3) 0, .int (0) 0, .int (0) 0, .int (3) 0, .ref 96, .bool true, .int (181) 0, .ref 97, .none, .ref 98, .ref 99, .ref 100, .int (321) 0, .int (49) 0, .str "/claim/cut.py" 322]),
  (109, fO (mAt 13 4) "Symbols.func" (.str "clausemill.symbols" 194) (.ref 108) (.none)),
  (108, cO [.str "func" 324, .str "Symbols.func" 325, .str "/claim/cut.py" 326, .int (59) 0, .int (3) 0, .int (0) 0, .int (0) 0, .int (3) 0, .ref 103, .bool true, .int (181) 0, .ref 104, .none, .ref 105, .ref 106, .ref 107, .int (330) 0, .int (59) 0, .str "/claim/cut.py" 331]),
  (116, fO (mAt 13 5) "Symbols.name" (.str "clausemill.symbols" 194) (.ref 115) (.none)),
  (115, cO [.str "name" 333, .str "Symbols.name" 334, .str "/claim/cut.py" 335, .int (62) 0, .int (2) 0, .int (0) 0, .int (0) 0, .int (3) 0, .ref 110, .bool true, .int (181) 0, .ref 111, .none, .ref 112, .ref 113, .ref 114, .int (338) 0, .int (62) 0, .str "/claim/cut.py" 339]),
  (123, fO (mAt 13 6) "Symbols.arity" (.str "clausemill.symbols" 194) (.ref 122) (.none)),
  (122, cO [.str "arity" 341, .str "Symbols.arity" 342, .str "/claim/cut.py" 343, .int (65) 0, .int (2) 0, .int (0) 0, .int (0) 0, .int (3) 0, .ref 117, .bool true, .int (181) 0, .ref 118, .none, .ref 119, .ref 120, .ref 121, .int (346) 0, .int (65) 0, .str "/claim/cut.py" 347]),
  (130, fO (mAt 13 7) "Symbols.label" (.str "clausemill.symbols" 194) (.ref 129) (.none)),
  (129, cO [.str "label" 349, .str "Symbols.label" 350, .str "/claim/cut.py" 351, .int (68) 0, .int (2) 0, .int (0) 0, .int (0) 0, .int (3) 0, .ref 124, .bool true, .int (181) 0, .ref 125, .none, .ref 126, .ref 127, .ref 128, .int (354) 0, .int (68) 0, .str "/claim/cut.py" 355]),
  (137, fO (mAt 13 8) "Symbols.count" (.str "clausemill.symbols" 194) (.ref 136) (.none)),
  (136, cO [.str "count" 357, .str "Symbols.count" 358, .str "/claim/cut.py" 359, .int (71) 0, .int (1) 0, .int (0) 0, .int (0) 0, .int (3) 0, .ref 131, .bool true, .int (181) 0, .ref 132, .none, .ref 133, .ref 134, .ref 135, .int (361) 0, .int (71) 0, .str "/claim/cut.py" 362]),
  (144, fO (mAt 13 9) "Symbols.functor_count" (.str "clausemill.symbols" 194) (.ref 143) (.none)),
  (143, cO [.str "functor_count" 364, .str "Symbols.functor_count" 365, .str "/claim/cut.py" 366, .int (74) 0, .int (1) 0, .int (0) 0, .int (0) 0, .int (3) 0, .ref 138, .bool true, .int (181) 0, .ref 139, .none, .ref 140, .ref 141, .ref 142, .int (368) 0, .int (74) 0, .str "/claim/cut.py" 369]),
  (151, fO (mAt 13 10) "Symbols.known" (.str "clausemill.symbols" 194) (.ref 150) (.none)),
  (150, cO [.str "known" 371, .str "Symbols.known" 372, .str "/claim/cut.py" 373, .int (77) 0, .int (3) 0, .int (0) 0, .int (0) 0, .int (3) 0, .ref 145, .bool true, .int (181) 0, .ref 146, .none, .ref 147, .ref 148, .ref 149, .int (377) 0, .int (77) 0, .str "/claim/cut.py" 378]),
  (153, dO (.type "dict") [hE P "__module__" 280 (.str "clausemill.symbols" 194), hE P "__firstlineno__" 284 (.int (25) 283), hE P "__init__" 293 (.ref 81), hE P "atom" 303 (.ref 88), hE P "text" 311 (.ref 95), hE P "functor" 323 (.ref 102), hE P "func" 332 (.ref 109), hE P "name" 340 (.ref 116), hE P "arity" 348 (.ref 123), hE P "label" 356 (.ref 130), hE P "count" 363 (.ref 137), hE P "functor_count" 370 (.ref 144), hE P "known" 379 (.ref 151), hE P "__static_attributes__" 384 (.ref 152), hE P "__dict__" 386 (.ref 155), hE P "__weakref__" 388 (.ref 156), hE P "__doc__" 389 (.none)] 4),
  (154, kO "Symbols" 153 154 [none, none, some (.str "Symbols" 273), some (.str "Symbols" 281), some (.builtin "object.__new__"), some (.bool true)]),
  (159, tO [.str "a" 394, .int (0) 247]),
  (166, fO (sAt 16) "var" (.str "clausemill.terms" 392) (.ref 165) (.none)),
  (165, cO [.str "var" 396, .str "var" 397, .str "/claim/cut.py" 398, .int (81) 0, .int (1) 0, .int (0) 0, .int (0) 0, .int (3) 0, .ref 160, .bool true, .int (181) 0, .ref 161, .none, .ref 162, .ref 163, .ref 164, .int (400) 0, .int (81) 0, .str "/claim/cut.py" 401]),
  (173, fO (sAt 17) "atom" (.str "clausemill.terms" 392) (.ref 172) (.none)),
  (172, cO [.str "atom" 403, .str "atom" 404, .str "/claim/cut.py" 405, .int (83) 0, .int (1) 0, .int (0) 0, .int (0) 0, .int (3) 0, .ref 167, .bool true, .int (181) 0, .ref 168, .none, .ref 169, .ref 170, .ref 171, .int (407) 0, .int (83) 0, .str "/claim/cut.py" 408]),
  (180, fO (sAt 18) "integer" (.str "clausemill.terms" 392) (.ref 179) (.none)),
  (179, cO [.str "integer" 410, .str "integer" 411, .str "/claim/cut.py" 412, .int (85) 0, .int (1) 0, .int (0) 0, .int (0) 0, .int (3) 0, .ref 174, .bool true, .int (181) 0, .ref 175, .none, .ref 176, .ref 177, .ref 178, .int (414) 0, .int (85) 0, .str "/claim/cut.py" 415]),
  (187, fO (sAt 19) "struct" (.str "clausemill.terms" 392) (.ref 186) (.none)),
  (186, cO [.str "struct" 417, .str "struct" 418, .str "/claim/cut.py" 419, .int (87) 0, .int (2) 0, .int (0) 0, .int (0) 0, .int (3) 0, .ref 181, .bool true, .int (181) 0, .ref 182, .none, .ref 183, .ref 184, .ref 185, .int (422) 0, .int (87) 0, .str "/claim/cut.py" 423]),
  (188, tO [.none]),
  (195, fO (sAt 20) "list_term" (.str "clausemill.terms" 392) (.ref 194) (.ref 188)),
  (194, cO [.str "list_term" 425, .str "list_term" 426, .str "/claim/cut.py" 427, .int (89) 0, .int (2) 0, .int (0) 0, .int (0) 0, .int (3) 0, .ref 189, .bool true, .int (181) 0, .ref 190, .none, .ref 191, .ref 192, .ref 193, .int (432) 0, .int (89) 0, .str "/claim/cut.py" 433]),
  (196, tO [.str "fx" 439, .str "fy" 440]),
  (197, tO [.str "xfx" 442, .str "xfy" 443, .str "yfx" 444]),
  (198, tO [.str "xf" 446, .str "yf" 447]),
  (205, fO (sAt 26) "standard_rows" (.str "clausemill.operators" 435) (.ref 204) (.none)),
  (204, cO [.str "standard_rows" 449, .str "standard_rows" 450, .str "/claim/cut.py" 451, .int (99) 0, .int (0) 0, .int (0) 0, .int (0) 0, .int (3) 0, .ref 199, .bool true, .int (181) 0, .ref 200, .none, .ref 201, .ref 202, .ref 203, .int (452) 0, .int (99) 0, .str "/claim/cut.py" 453]),
  (212, fO (sAt 27) "fixity" (.str "clausemill.operators" 435) (.ref 211) (.none)),
  (211, cO [.str "fixity" 455, .str "fixity" 456, .str "/claim/cut.py" 457, .int (101) 0, .int (1) 0, .int (0) 0, .int (0) 0, .int (3) 0, .ref 206, .bool true, .int (181) 0, .ref 207, .none, .ref 208, .ref 209, .ref 210, .int (459) 0, .int (101) 0, .str "/claim/cut.py" 460]),
  (219, fO (sAt 28) "bounds" (.str "clausemill.operators" 435) (.ref 218) (.none)),
  (218, cO [.str "bounds" 462, .str "bounds" 463, .str "/claim/cut.py" 464, .int (109) 0, .int (2) 0, .int (0) 0, .int (0) 0, .int (3) 0, .ref 213, .bool true, .int (181) 0, .ref 214, .none, .ref 215, .ref 216, .ref 217, .int (468) 0, .int (109) 0, .str "/claim/cut.py" 469]),
  (227, tO [.bool true]),
  (234, fO (mAt 29 0) "OperatorTable.__init__" (.str "clausemill.operators" 435) (.ref 233) (.ref 227)),
  (233, cO [.str "__init__" 483, .str "OperatorTable.__init__" 484, .str "/claim/cut.py" 485, .int (126) 0, .int (3) 0, .int (0) 0, .int (0) 0, .int (3) 0, .ref 228, .bool true, .int (181) 0, .ref 229, .none, .ref 230, .ref 231, .ref 232, .int (493) 0, .int (126) 0, .str "/claim/cut.py" 494]),
  (241, fO (mAt 29 1) "OperatorTable.prefix" (.str "clausemill.operators" 435) (.ref 240) (.none)),
  (240, cO [.str "prefix" 496, .str "OperatorTable.prefix" 497, .str "/claim/cut.py" 498, .int (137) 0, .int (2) 0, .int (0) 0, .int (0) 0, .int (3) 0, .ref 235, .bool true, .int (181) 0, .ref 236, .none, .ref 237, .ref 238, .ref 239, .int (501) 0, .int (137) 0, .str "/claim/cut.py" 502]),
  (248, fO (mAt 29 2) "OperatorTable.infix" (.str "clausemill.operators" 435) (.ref 247) (.none)),
  (247, cO [.str "infix" 504, .str "OperatorTable.infix" 505, .str "/claim/cut.py" 506, .int (140) 0, .int (2) 0, .int (0) 0, .int (0) 0, .int (3) 0, .ref 242, .bool true, .int (181) 0, .ref 243, .none, .ref 244, .ref 245, .ref 246, .int (509) 0, .int (140) 0, .str "/claim/cut.py" 510]),
  (255, fO (mAt 29 3) "OperatorTable.postfix" (.str "clausemill.operators" 435) (.ref 254) (.none)),
  (254, cO [.str "postfix" 512, .str "OperatorTable.postfix" 513, .str "/claim/cut.py" 514, .int (143) 0, .int (2) 0, .int (0) 0, .int (0) 0, .int (3) 0, .ref 249, .bool true, .int (181) 0, .ref 250, .none, .ref 251, .ref 252, .ref 253, .int (517) 0, .int (143) 0, .str "/claim/cut.py" 518]),
  (262, fO (mAt 29 4) "OperatorTable.is_operator" (.str "clausemill.operators" 435) (.ref 261) (.none)),
  (261, cO [.str "is_operator" 520, .str "OperatorTable.is_operator" 521, .str "/claim/cut.py" 522, .int (146) 0, .int (2) 0, .int (0) 0, .int (0) 0, .int (3) 0, .ref 256, .bool true, .int (181) 0, .ref 257, .none, .ref 258, .ref 259, .ref 260, .int (525) 0, .int (146) 0, .str "/claim/cut.py" 526]),
  (269, fO (mAt 29 5) "OperatorTable.table_of" (.str "clausemill.operators" 435) (.ref 268) (.none)),
  (268, cO [.str "table_of" 528, .str "OperatorTable.table_of" 529, .str "/claim/cut.py" 530, .int (149) 0, .int (2) 0, .int (0) 0, .int (0) 0, .int (3) 0, .ref 263, .bool true, .int (181) 0, .ref 264, .none, .ref 265, .ref 266, .ref 267, .int (534) 0, .int (149) 0, .str "/claim/cut.py" 535]),
  (276, fO (mAt 29 6) "OperatorTable.add" (.str "clausemill.operators" 435) (.ref 275) (.none)),
  (275, cO [.str "add" 537, .str "OperatorTable.add" 538, .str "/claim/cut.py" 539, .int (157) 0, .int (4) 0, .int (0) 0, .int (0) 0, .int (3) 0, .ref 270, .bool true, .int (181) 0, .ref 271, .none, .ref 272, .ref 273, .ref 274, .int (545) 0, .int (157) 0, .str "/claim/cut.py" 546]),
  (283, fO (mAt 29 7) "OperatorTable.rows" (.str "clausemill.operators" 435) (.ref 282) (.none)),
  (282, cO [.str "rows" 548, .str "OperatorTable.rows" 549, .str "/claim/cut.py" 550, .int (164) 0, .int (1) 0, .int (0) 0, .int (0) 0, .int (3) 0, .ref 277, .bool true, .int (181) 0, .ref 278, .none, .ref 279, .ref 280, .ref 281, .int (556) 0, .int (164) 0, .str "/claim/cut.py" 557]),
  (285, dO (.type "dict") [hE P "__module__" 478 (.str "clausemill.operators" 435), hE P "__firstlineno__" 482 (.int (124) 481), hE P "__init__" 495 (.ref 234), hE P "prefix" 503 (.ref 241), hE P "infix" 511 (.ref 248), hE P "postfix" 519 (.ref 255), hE P "is_operator" 527 (.ref 262), hE P "table_of" 536 (.ref 269), hE P "add" 547 (.ref 276), hE P "rows" 558 (.ref 283), hE P "__static_attributes__" 563 (.ref 284), hE P "__dict__" 565 (.ref 287), hE P "__weakref__" 567 (.ref 288), hE P "__doc__" 568 (.none)] 4),
  (286, kO "OperatorTable" 285 286 [none, none, some (.str "OperatorTable" 471), some (.str "OperatorTable" 479), some (.builtin "object.__new__"), some (.bool true)]),
  (291, tO [.str ")" 583, .str "]" 584, .str "}" 585]),
  (292, tO [.str "," 587, .str "|" 588]),
  (306, fO (mAt 38 0) "Frame.__init__" (.str "clausemill.parser" 571) (.ref 305) (.none)),
  (305, cO [.str "__init__" 602, .str "Frame.__init__" 603, .str "/claim/cut.py" 604, .int (180) 0, .int (3) 0, .int (0) 0, .int (0) 0, .int (3) 0, .ref 300, .bool true, .int (181) 0, .ref 301, .none, .ref 302, .ref 303, .ref 304, .int (608) 0, .int (180) 0, .str "/claim/cut.py" 609]),
  (308, dO (.type "dict") [hE P "__module__" 597 (.str "clausemill.parser" 571), hE P "__firstlineno__" 601 (.int (178) 600), hE P "__init__" 610 (.ref 306), hE P "__static_attributes__" 618 (.ref 307), hE P "__dict__" 620 (.ref 310), hE P "__weakref__" 622 (.ref 311), hE P "__doc__" 623 (.none)] 4),
  (309, kO "Frame" 308 309 [none, none, some (.str "Frame" 590), some (.str "Frame" 598), some (.builtin "object.__new__"), some (.bool true)]),
  (320, fO (sAt 39) "ends_operand" (.str "clausemill.parser" 571) (.ref 319) (.none)),
  (319, cO [.str "ends_operand" 626, .str "ends_operand" 627, .str "/claim/cut.py" 628, .int (188) 0, .int (1) 0, .int (0) 0, .int (0) 0, .int (3) 0, .ref 314, .bool true, .int (181) 0, .ref 315, .none, .ref 316, .ref 317, .ref 318, .int (630) 0, .int (188) 0, .str "/claim/cut.py" 631]),
  (327, fO (sAt 40) "closes" (.str "clausemill.parser" 571) (.ref 326) (.none)),
  (326, cO [.str "closes" 633, .str "closes" 634, .str "/claim/cut.py" 635, .int (190) 0, .int (1) 0, .int (0) 0, .int (0) 0, .int (3) 0, .ref 321, .bool true, .int (181) 0, .ref 322, .none, .ref 323, .ref 324, .ref 325, .int (637) 0, .int (190) 0, .str "/claim/cut.py" 638]),
  (334, fO (sAt 41) "is_punct" (.str "clausemill.parser" 571) (.ref 333) (.none)),
  (333, cO [.str "is_punct" 640, .str "is_punct" 641, .str "/claim/cut.py" 642, .int (192) 0, .int (2) 0, .int (0) 0, .int (0) 0, .int (3) 0, .ref 328, .bool true, .int (181) 0, .ref 329, .none, .ref 330, .ref 331, .ref 332, .int (645) 0, .int (192) 0, .str "/claim/cut.py" 646]),
  (348, fO (mAt 42 0) "Parser.__init__" (.str "clausemill.parser" 571) (.ref 347) (.none)),
  (347, cO [.str "__init__" 660, .str "Parser.__init__" 661, .str "/claim/cut.py" 662, .int (196) 0, .int (5) 0, .int (0) 0, .int (0) 0, .int (3) 0, .ref 342, .bool true, .int (181) 0, .ref 343, .none, .ref 344, .ref 345, .ref 346, .int (668) 0, .int (196) 0, .str "/claim/cut.py" 669]),
  (355, fO (mAt 42 1) "Parser.clause" (.str "clausemill.parser" 571) (.ref 354) (.none)),
  (354, cO [.str "clause" 671, .str "Parser.clause" 672, .str "/claim/cut.py" 673, .int (211) 0, .int (1) 0, .int (0) 0, .int (0) 0, .int (3) 0, .ref 349, .bool true, .int (181) 0, .ref 350, .none, .ref 351, .ref 352, .ref 353, .int (678) 0, .int (211) 0, .str "/claim/cut.py" 679]),
  (362, fO (mAt 42 2) "Parser.singles" (.str "clausemill.parser" 571) (.ref 361) (.none)),
  (361, cO [.str "singles" 681, .str "Parser.singles" 682, .str "/claim/cut.py" 683, .int (218) 0, .int (1) 0, .int (0) 0, .int (0) 0, .int (3) 0, .ref 356, .bool true, .int (181) 0, .ref 357, .none, .ref 358, .ref 359, .ref 360, .int (685) 0, .int (218) 0, .str "/claim/cut.py" 686]),
  (369, fO (mAt 42 3) "Parser.peek" (.str "clausemill.parser" 571) (.ref 368) (.none)),
  (368, cO [.str "peek" 688, .str "Parser.peek" 689, .str "/claim/cut.py" 690, .int (221) 0, .int (1) 0, .int (0) 0, .int (0) 0, .int (3) 0, .ref 363, .bool true, .int (181) 0, .ref 364, .none, .ref 365, .ref 366, .ref 367, .int (692) 0, .int (221) 0, .str "/claim/cut.py" 693]),
  (376, fO (mAt 42 4) "Parser.take" (.str "clausemill.parser" 571) (.ref 375) (.none)),
  (375, cO [.str "take" 695, .str "Parser.take" 696, .str "/claim/cut.py" 697, .int (224) 0, .int (1) 0, .int (0) 0, .int (0) 0, .int (3) 0, .ref 370, .bool true, .int (181) 0, .ref 371, .none, .ref 372, .ref 373, .ref 374, .int (700) 0, .int (224) 0, .str "/claim/cut.py" 701]),
  (383, fO (mAt 42 5) "Parser.fault" (.str "clausemill.parser" 571) (.ref 382) (.none)),
  (382, cO [.str "fault" 703, .str "Parser.fault" 704, .str "/claim/cut.py" 705, .int (229) 0, .int (3) 0, .int (0) 0, .int (0) 0, .int (3) 0, .ref 377, .bool true, .int (181) 0, .ref 378, .none, .ref 379, .ref 380, .ref 381, .int (709) 0, .int (229) 0, .str "/claim/cut.py" 710]),
  (390, fO (mAt 42 6) "Parser.misplaced" (.str "clausemill.parser" 571) (.ref 389) (.none)),
  (389, cO [.str "misplaced" 712, .str "Parser.misplaced" 713, .str "/claim/cut.py" 714, .int (232) 0, .int (3) 0, .int (0) 0, .int (0) 0, .int (3) 0, .ref 384, .bool true, .int (181) 0, .ref 385, .none, .ref 386, .ref 387, .ref 388, .int (719) 0, .int (232) 0, .str "/claim/cut.py" 720]),
  (397, fO (mAt 42 7) "Parser.parse" (.str "clausemill.parser" 571) (.ref 396) (.none)),
  (396, cO [.str "parse" 722, .str "Parser.parse" 723, .str "/claim/cut.py" 724, .int (242) 0, .int (2) 0, .int (0) 0, .int (0) 0, .int (3) 0, .ref 391, .bool true, .int (181) 0, .ref 392, .none, .ref 393, .ref 394, .ref 395, .int (728) 0, .int (242) 0, .str "/claim/cut.py" 729]),
  (404, fO (mAt 42 8) "Parser.settle" (.str "clausemill.parser" 571) (.ref 403) (.none)),
  (403, cO [.str "settle" 731, .str "Parser.settle" 732, .str "/claim/cut.py" 733, .int (252) 0, .int (3) 0, .int (0) 0, .int (0) 0, .int (3) 0, .ref 398, .bool true, .int (181) 0, .ref 399, .none, .ref 400, .ref 401, .ref 402, .int (737) 0, .int (252) 0, .str "/claim/cut.py" 738]),
  (411, fO (mAt 42 9) "Parser.enter" (.str "clausemill.parser" 571) (.ref 410) (.none)),
  (410, cO [.str "enter" 740, .str "Parser.enter" 741, .str "/claim/cut.py" 742, .int (257) 0, .int (4) 0, .int (0) 0, .int (0) 0, .int (3) 0, .ref 405, .bool true, .int (181) 0, .ref 406, .none, .ref 407, .ref 408, .ref 409, .int (748) 0, .int (257) 0, .str "/claim/cut.py" 749]),
  (418, fO (mAt 42 10) "Parser.operand" (.str "clausemill.parser" 571) (.ref 417) (.none)),
  (417, cO [.str "operand" 751, .str "Parser.operand" 752, .str "/claim/cut.py" 753, .int (264) 0, .int (1) 0, .int (0) 0, .int (0) 0, .int (3) 0, .ref 412, .bool true, .int (181) 0, .ref 413, .none, .ref 414, .ref 415, .ref 416, .int (757) 0, .int (264) 0, .str "/claim/cut.py" 758]),
  (425, fO (mAt 42 11) "Parser.named" (.str "clausemill.parser" 571) (.ref 424) (.none)),
  (424, cO [.str "named" 760, .str "Parser.named" 761, .str "/claim/cut.py" 762, .int (289) 0, .int (3) 0, .int (0) 0, .int (0) 0, .int (3) 0, .ref 419, .bool true, .int (181) 0, .ref 420, .none, .ref 421, .ref 422, .ref 423, .int (767) 0, .int (289) 0, .str "/claim/cut.py" 768]),
  (432, fO (mAt 42 12) "Parser.operator_operand" (.str "clausemill.parser" 571) (.ref 431) (.none)),
  (431, cO [.str "operator_operand" 770, .str "Parser.operator_operand" 771, .str "/claim/cut.py" 772, .int (301) 0, .int (3) 0, .int (0) 0, .int (0) 0, .int (3) 0, .ref 426, .bool true, .int (181) 0, .ref 427, .none, .ref 428, .ref 429, .ref 430, .int (778) 0, .int (301) 0, .str "/claim/cut.py" 779]),
  (439, fO (mAt 42 13) "Parser.stands_alone" (.str "clausemill.parser" 571) (.ref 438) (.none)),
  (438, cO [.str "stands_alone" 781, .str "Parser.stands_alone" 782, .str "/claim/cut.py" 783, .int (316) 0, .int (1) 0, .int (0) 0, .int (0) 0, .int (3) 0, .ref 433, .bool true, .int (181) 0, .ref 434, .none, .ref 435, .ref 436, .ref 437, .int (785) 0, .int (316) 0, .str "/claim/cut.py" 786]),
  (446, fO (mAt 42 14) "Parser.variable" (.str "clausemill.parser" 571) (.ref 445) (.none)),
  (445, cO [.str "variable" 788, .str "Parser.variable" 789, .str "/claim/cut.py" 790, .int (321) 0, .int (2) 0, .int (0) 0, .int (0) 0, .int (3) 0, .ref 440, .bool true, .int (181) 0, .ref 441, .none, .ref 442, .ref 443, .ref 444, .int (794) 0, .int (321) 0, .str "/claim/cut.py" 795]),
  (451, fO (mAt 42 15) "Parser.string" (.str "clausemill.parser" 571) (.ref 450) (.none)),
  (450, cO [.str "string" 797, .str "Parser.string" 798, .str "/claim/cut.py" 799, .int (334) 0, .int (2) 0, .int (0) 0, .int (0) 0, .int (3) 0, .ref 447, .bool true, .int (181) 0, .ref 448, .none, .none, .none, .ref 449, .int (800) 0, .int (334) 0, .str "/claim/cut.py" 801]),
  (458, fO (mAt 42 16) "Parser.operator_name" (.str "clausemill.parser" 571) (.ref 457) (.none)),
  (457, cO [.str "operator_name" 803, .str "Parser.operator_name" 804, .str "/claim/cut.py" 805, .int (341) 0, .int (2) 0, .int (0) 0, .int (0) 0, .int (3) 0, .ref 452, .bool true, .int (181) 0, .ref 453, .none, .ref 454, .ref 455, .ref 456, .int (808) 0, .int (341) 0, .str "/claim/cut.py" 809]),
  (465, fO (mAt 42 17) "Parser.operator" (.str "clausemill.parser" 571) (.ref 464) (.none)),
  (464, cO [.str "operator" 811, .str "Parser.operator" 812, .str "/claim/cut.py" 813, .int (350) 0, .int (1) 0, .int (0) 0, .int (0) 0, .int (3) 0, .ref 459, .bool true, .int (181) 0, .ref 460, .none, .ref 461, .ref 462, .ref 463, .int (817) 0, .int (350) 0, .str "/claim/cut.py" 818]),
  (472, fO (mAt 42 18) "Parser.admits" (.str "clausemill.parser" 571) (.ref 471) (.none)),
  (471, cO [.str "admits" 820, .str "Parser.admits" 821, .str "/claim/cut.py" 822, .int (364) 0, .int (2) 0, .int (0) 0, .int (0) 0, .int (3) 0, .ref 466, .bool true, .int (181) 0, .ref 467, .none, .ref 468, .ref 469, .ref 470, .int (825) 0, .int (364) 0, .str "/claim/cut.py" 826]),
  (479, fO (mAt 42 19) "Parser.shift_infix" (.str "clausemill.parser" 571) (.ref 478) (.none)),
  (478, cO [.str "shift_infix" 828, .str "Parser.shift_infix" 829, .str "/claim/cut.py" 830, .int (369) 0, .int (2) 0, .int (0) 0, .int (0) 0, .int (3) 0, .ref 473, .bool true, .int (181) 0, .ref 474, .none, .ref 475, .ref 476, .ref 477, .int (835) 0, .int (369) 0, .str "/claim/cut.py" 836]),
  (486, fO (mAt 42 20) "Parser.apply_postfix" (.str "clausemill.parser" 571) (.ref 485) (.none)),
  (485, cO [.str "apply_postfix" 838, .str "Parser.apply_postfix" 839, .str "/claim/cut.py" 840, .int (382) 0, .int (2) 0, .int (0) 0, .int (0) 0, .int (3) 0, .ref 480, .bool true, .int (181) 0, .ref 481, .none, .ref 482, .ref 483, .ref 484, .int (844) 0, .int (382) 0, .str "/claim/cut.py" 845]),
  (493, fO (mAt 42 21) "Parser.reduce" (.str "clausemill.parser" 571) (.ref 492) (.none)),
  (492, cO [.str "reduce" 847, .str "Parser.reduce" 848, .str "/claim/cut.py" 849, .int (390) 0, .int (1) 0, .int (0) 0, .int (0) 0, .int (3) 0, .ref 487, .bool true, .int (181) 0, .ref 488, .none, .ref 489, .ref 490, .ref 491, .int (852) 0, .int (390) 0, .str "/claim/cut.py" 853]),
  (500, fO (mAt 42 22) "Parser.close" (.str "clausemill.parser" 571) (.ref 499) (.none)),
  (499, cO [.str "close" 855, .str "Parser.close" 856, .str "/claim/cut.py" 857, .int (398) 0, .int (2) 0, .int (0) 0, .int (0) 0, .int (3) 0, .ref 494, .bool true, .int (181) 0, .ref 495, .none, .ref 496, .ref 497, .ref 498, .int (862) 0, .int (398) 0, .str "/claim/cut.py" 863]),
  (507, fO (mAt 42 23) "Parser.separated" (.str "clausemill.parser" 571) (.ref 506) (.none)),
  (506, cO [.str "separated" 865, .str "Parser.separated" 866, .str "/claim/cut.py" 867, .int (418) 0, .int (2) 0, .int (0) 0, .int (0) 0, .int (3) 0, .ref 501, .bool true, .int (181) 0, .ref 502, .none, .ref 503, .ref 504, .ref 505, .int (871) 0, .int (418) 0, .str "/claim/cut.py" 872]),
  (514, fO (mAt 42 24) "Parser.closed" (.str "clausemill.parser" 571) (.ref 513) (.none)),
  (513, cO [.str "closed" 874, .str "Parser.closed" 875, .str "/claim/cut.py" 876, .int (426) 0, .int (2) 0, .int (0) 0, .int (0) 0, .int (3) 0, .ref 508, .bool true, .int (181) 0, .ref 509, .none, .ref 510, .ref 511, .ref 512, .int (880) 0, .int (426) 0, .str "/claim/cut.py" 881]),
  (516, dO (.type "dict") [hE P "__module__" 655 (.str "clausemill.parser" 571), hE P "__firstlineno__" 659 (.int (194) 658), hE P "__init__" 670 (.ref 348), hE P "clause" 680 (.ref 355), hE P "singles" 687 (.ref 362), hE P "peek" 694 (.ref 369), hE P "take" 702 (.ref 376), hE P "fault" 711 (.ref 383), hE P "misplaced" 721 (.ref 390), hE P "parse" 730 (.ref 397), hE P "settle" 739 (.ref 404), hE P "enter" 750 (.ref 411), hE P "operand" 759 (.ref 418), hE P "named" 769 (.ref 425), hE P "operator_operand" 780 (.ref 432), hE P "stands_alone" 787 (.ref 439), hE P "variable" 796 (.ref 446), hE P "string" 802 (.ref 451), hE P "operator_name" 810 (.ref 458), hE P "operator" 819 (.ref 465), hE P "admits" 827 (.ref 472), hE P "shift_infix" 837 (.ref 479), hE P "apply_postfix" 846 (.ref 486), hE P "reduce" 854 (.ref 493), hE P "close" 864 (.ref 500), hE P "separated" 873 (.ref 507), hE P "closed" 882 (.ref 514), hE P "__static_attributes__" 896 (.ref 515), hE P "__dict__" 898 (.ref 518), hE P "__weakref__" 900 (.ref 519), hE P "__doc__" 901 (.none)] 4),
  (517, kO "Parser" 516 517 [none, none, some (.str "Parser" 648), some (.str "Parser" 656), some (.builtin "object.__new__"), some (.bool true)]),
  (528, fO (sAt 44) "_law_figures" (.str "law_sa0156_01" 904) (.ref 527) (.none)),
  (527, cO [.str "_law_figures" 906, .str "_law_figures" 907, .str "/claim/cut.py" 908, .int (432) 0, .int (2) 0, .int (0) 0, .int (0) 0, .int (3) 0, .ref 522, .bool true, .int (181) 0, .ref 523, .none, .ref 524, .ref 525, .ref 526, .int (914) 0, .int (432) 0, .str "/claim/cut.py" 915]),
  (535, fO (sAt 45) "_law_leaf" (.str "law_sa0156_01" 904) (.ref 534) (.none)),
  (534, cO [.str "_law_leaf" 917, .str "_law_leaf" 918, .str "/claim/cut.py" 919, .int (444) 0, .int (2) 0, .int (0) 0, .int (0) 0, .int (3) 0, .ref 529, .bool true, .int (181) 0, .ref 530, .none, .ref 531, .ref 532, .ref 533, .int (925) 0, .int (444) 0, .str "/claim/cut.py" 926]),
  (542, fO (sAt 46) "_law_alone" (.str "law_sa0156_01" 904) (.ref 541) (.none)),
  (541, cO [.str "_law_alone" 928, .str "_law_alone" 929, .str "/claim/cut.py" 930, .int (457) 0, .int (4) 0, .int (0) 0, .int (0) 0, .int (3) 0, .ref 536, .bool true, .int (181) 0, .ref 537, .none, .ref 538, .ref 539, .ref 540, .int (937) 0, .int (457) 0, .str "/claim/cut.py" 938]),
  (549, fO (sAt 47) "_law_both" (.str "law_sa0156_01" 904) (.ref 548) (.none)),
  (548, cO [.str "_law_both" 940, .str "_law_both" 941, .str "/claim/cut.py" 942, .int (469) 0, .int (4) 0, .int (0) 0, .int (0) 0, .int (3) 0, .ref 543, .bool true, .int (181) 0, .ref 544, .none, .ref 545, .ref 546, .ref 547, .int (953) 0, .int (469) 0, .str "/claim/cut.py" 954]),
  (554, fO (sAt 48) "_law_numbered" (.str "law_sa0156_01" 904) (.ref 553) (.none)),
  (553, cO [.str "_law_numbered" 956, .str "_law_numbered" 957, .str "/claim/cut.py" 958, .int (484) 0, .int (2) 0, .int (0) 0, .int (0) 0, .int (3) 0, .ref 550, .bool true, .int (181) 0, .ref 551, .none, .none, .none, .ref 552, .int (959) 0, .int (484) 0, .str "/claim/cut.py" 960]),
  (559, fO (sAt 49) "law" (.str "law_sa0156_01" 904) (.ref 558) (.none)),
  (558, cO [.str "law" 962, .str "law" 963, .str "/claim/cut.py" 964, .int (490) 0, .int (1) 0, .int (0) 0, .int (0) 0, .int (3) 0, .ref 555, .bool true, .int (181) 0, .ref 556, .none, .none, .none, .ref 557, .int (965) 0, .int (490) 0, .str "/claim/cut.py" 966])]
noncomputable def K0 : Params → Frag := fun P => KL P
noncomputable def kas : List Addr := [2, 3, 60, 59, 67, 66, 81, 80, 88, 87, 95, 94, 102, 101, 109, 108, 116, 115, 123, 122, 130, 129, 137, 136, 144, 143, 151, 150, 153, 154, 159, 166, 165, 173, 172, 180, 179, 187, 186, 188, 195, 194, 196, 197, 198, 205, 204, 212, 211, 219, 218, 227, 234, 233, 241, 240, 248, 247, 255, 254, 262, 261, 269, 268, 276, 275, 283, 282, 285, 286, 291, 292, 306, 305, 308, 309, 320, 319, 327, 326, 334, 333, 348, 347, 355, 354, 362, 361, 369, 368, 376, 375, 383, 382, 390, 389, 397, 396, 404, 403, 411, 410, 418, 417, 425, 424, 432, 431, 439, 438, 446, 445, 451, 450, 458, 457, 465, 464, 472, 471, 479, 478, 486, 485, 493, 492, 500, 499, 507, 506, 514, 513, 516, 517, 528, 527, 535, 534, 542, 541, 549, 548, 554, 553, 559, 558]
theorem kas_eq : ∀ P, kas = (K0 P).map (·.1) := fun P => by kernel_rfl
noncomputable def qv : Program := { pw with main := { pw.main with body := [49].filterMap fun i => pw.main.body[i]? } }
noncomputable def lse : List Str := (["_wall", "ClausemillError", "SyntaxFault", "A_NIL", "A_CURLY", "A_COMMA", "A_BAR", "F_DOT", "F_COMMA", "F_CURLY", "fixed_atoms", "fixed_functors", "Symbols", "NIL", "var", "atom", "integer", "struct", "list_term", "COMMA_PRIORITY", "PREFIX_TYPES", "INFIX_TYPES", "POSTFIX_TYPES", "standard_rows", "fixity", "bounds", "OperatorTable", "CLAUSE_PRIORITY", "ARGUMENT_PRIORITY", "WANT_OPERAND", "WANT_OPERATOR", "DONE", "CLOSERS", "SEPARATORS", "Frame", "ends_operand", "closes", "is_punct", "Parser", "_law_figures", "_law_leaf", "_law_alone", "_law_both", "_law_numbered"] : List String).map Str.ofString
noncomputable def Xt0 : Shared → Bool := fun s => xlAt qv [] s && recOk (RowW.records PySem.Challenge.rw_sa0156_01.row.toRowW) s
noncomputable abbrev HK : Hook := kHook K0 kas kas_eq
theorem run0 : ∀ (w : World) (os : OsState), (topT pw w 11 (some (.ref 6)) 7300 (S0 w os) (topStub pw)).map (fun S => (looks1 pw w.params S.abs, Fast.tw4187177175401517315 qv lse (importedModules pw.main.body) Xt0 true S.abs, kas.map S.abs.heap.get?)) =
    some (true, openGood qv lse, (K0 w.params).map fun p => some p.2) := fun w os => by kernel_rfl
theorem fence0 (w : World) : (fencedOpening treeTable pw w 7300).map (fun s => (s.heap, s.gens, s.drawn, s.toks)) = some (boot_heap w.params, Array.mk [], boot_drawn, boot_toks) :=
  boot_open (by kernel_rfl) (by decide) (fun s => by kernel_rfl) w
theorem size0 (w : World) : ((boot_heap w.params).isNs mainGlobals, (boot_heap w.params).objs.size, (boot_heap w.params).nsMap mainGlobals "__annotations__") = (true, 11, some (.ref 6)) := by
  have e : @Heap.nsMap = Fast.tw8920871248978507458 := Fast.te8920871248978507458
  rw [e]
  kernel_rfl
theorem left0 : LeftO pw qv lse Xt0 HK.obs HK.val 7300 := left_gen fence0 size0 (by
  have e : @openSeen = Fast.tw4187177175401517315 := Fast.te4187177175401517315
  rw [e]
  exact run0)
end
section
open PySem PySem.W PyProof.Rows
set_option maxRecDepth 100000
set_option genSizeOf false
set_option tactic.hygienic false
/-! the abstract domain -/
inductive AI where
  | lit (i : Int) | sym (k : Nat) | add (a b : AI) | sub (a b : AI) | mul (a b : AI) | mod (a b : AI) | fdiv (a b : AI) | len (k n : Nat) | slen (k n : Nat)
inductive AV where
  | none | bool (b : Bool) | int (e : AI) | str (s : Str) | obj (l : Nat) | stat (v : Value) | tup (vs : List AV) | fl (vs : List AV) | sq (k : Nat) | opq (k : Nat) | any
inductive AKey where
  | i (i : Int) | s (s : Str) | t (l : List Int)
inductive AO where
  | list (pre : Option Nat) (items : List AV)
  | inst (C : Addr) (attrs : List (Str × AV))
  | dict (kd : Nat) (base : Option Nat) (ents : List (AKey × AV))
structure AS where
  loc : List (Str × AV)
  hp : List (Nat × AO)
  nx : Nat
structure Facts where
  less : List (AI × AI × Bool) := []
  val : List (AI × Int) := []
  dk : List (Nat × AKey × Option AV) := []
  at_ : List (Nat × AI × AV) := []
noncomputable def iB : Int → Int → Bool
  | .ofNat a, .ofNat b => Nat.beq a b
  | .negSucc a, .negSucc b => Nat.beq a b
  | _, _ => false
noncomputable def lB : List Nat → List Nat → Bool
  | [], [] => true
  | a :: r, b :: t => Nat.beq a b && lB r t
  | _, _ => false
noncomputable def sB (a b : Str) : Bool := lB a.cps.toList b.cps.toList
noncomputable def AI.beq (a : AI) : AI → Bool := by
  induction a with
  | lit i => exact fun b => by induction b using AI.casesOn with
    | lit j => exact iB i j
    | _ => exact false
  | sym k => exact fun b => by induction b using AI.casesOn with
    | sym l => exact Nat.beq k l
    | _ => exact false
  | add _ _ f g => exact fun b => by induction b using AI.casesOn with
    | add c d => exact f c && g d
    | _ => exact false
  | sub _ _ f g => exact fun b => by induction b using AI.casesOn with
    | sub c d => exact f c && g d
    | _ => exact false
  | mul _ _ f g => exact fun b => by induction b using AI.casesOn with
    | mul c d => exact f c && g d
    | _ => exact false
  | mod _ _ f g => exact fun b => by induction b using AI.casesOn with
    | mod c d => exact f c && g d
    | _ => exact false
  | fdiv _ _ f g => exact fun b => by induction b using AI.casesOn with
    | fdiv c d => exact f c && g d
    | _ => exact false
  | len k n => exact fun b => by induction b using AI.casesOn with
    | len c d => exact Nat.beq k c && Nat.beq n d
    | _ => exact false
  | slen k n => exact fun b => by induction b using AI.casesOn with
    | slen c d => exact Nat.beq k c && Nat.beq n d
    | _ => exact false
noncomputable def ilB : List Int → List Int → Bool
  | [], [] => true
  | a :: r, b :: t => iB a b && ilB r t
  | _, _ => false
noncomputable def AKey.beq : AKey → AKey → Bool
  | .i a, .i b => iB a b
  | .s a, .s b => sB a b
  | .t a, .t b => ilB a b
  | _, _ => false
noncomputable def look {α : Type} : List (Str × α) → Str → Option α
  | [], _ => none
  | (x, v) :: r, y => if sB x y then some v else look r y
noncomputable def put {α : Type} : List (Str × α) → Str → α → List (Str × α)
  | [], y, v => [(y, v)]
  | (x, u) :: r, y, v => if sB x y then (x, v) :: r else (x, u) :: put r y v
noncomputable def lookN {α : Type} : List (Nat × α) → Nat → Option α
  | [], _ => none
  | (x, v) :: r, y => if Nat.beq x y then some v else lookN r y
noncomputable def putNL {α : Type} : List (Nat × α) → Nat → α → List (Nat × α)
  | [], _, _ => []
  | (x, u) :: r, y, v => if Nat.beq x y then (x, v) :: r else (x, u) :: putNL r y v
noncomputable def lookI {α : Type} : List (AI × α) → AI → Option α
  | [], _ => none
  | (x, v) :: r, y => if x.beq y then some v else lookI r y
noncomputable def lookK : List (AKey × AV) → AKey → Option AV
  | [], _ => none
  | (x, v) :: r, y => if x.beq y then some v else lookK r y
noncomputable def putK : List (AKey × AV) → AKey → AV → List (AKey × AV)
  | [], y, v => [(y, v)]
  | (x, u) :: r, y, v => if x.beq y then (x, v) :: r else (x, u) :: putK r y v
/-- chains of answers -/
noncomputable def bi {α β γ : Type} (o : Option (α × β)) (g : α → β → Option γ) : Option γ := match o with
  | some (a, b) => g a b
  | none => none
noncomputable def bo {α γ : Type} (o : Option α) (g : α → Option γ) : Option γ := match o with
  | some a => g a
  | none => none
noncomputable def gd {α : Type} (b : Bool) (x : Option α) : Option α := match b with
  | true => x
  | false => none
/-- the first of two answers -/
noncomputable def alt {α γ : Type} (o : Option α) (g : α → Option γ) (d : Option γ) : Option γ := match o with
  | some a => g a
  | none => d
theorem biE {α β γ : Type} {o : Option (α × β)} {g : α → β → Option γ} {r : γ} {p : Prop} (h : bi o g = some r) (k : ∀ a b, o = some (a, b) → g a b = some r → p) : p := by
  induction o with
  | none => exact nos h
  | some a => exact k a.1 a.2 rfl h
theorem boE {α γ : Type} {o : Option α} {g : α → Option γ} {r : γ} {p : Prop} (h : bo o g = some r) (k : ∀ a, o = some a → g a = some r → p) : p := by
  induction o with
  | none => exact nos h
  | some a => exact k a rfl h
theorem gdE {α : Type} {b : Bool} {x : Option α} {r : α} {p : Prop} (h : gd b x = some r) (k : b = true → x = some r → p) : p := by
  induction b with
  | false => exact nos h
  | true => exact k rfl h
theorem altE {α γ : Type} {o : Option α} {g : α → Option γ} {d : Option γ} {r : γ} {p : Prop} (h : alt o g d = some r) (k : ∀ a, o = some a → g a = some r → p) (k' : o = none → d = some r → p) : p := by
  induction o with
  | none => exact k' rfl h
  | some a => exact k a rfl h
theorem condE {α : Type} {b : Bool} {x y : α} {r : α} {p : Prop} (h : cond b x y = r) (k : b = true → x = r → p) (k' : b = false → y = r → p) : p := by
  induction b with
  | false => exact k' rfl h
  | true => exact k rfl h
theorem andE {a b : Bool} {p : Prop} (h : (a && b) = true) (k : a = true → b = true → p) : p := by
  induction a with
  | false => exact Bool.noConfusion h
  | true => exact k rfl h
theorem notE {a : Bool} (h : (!a) = true) : a = false := by
  induction a with
  | false => rfl
  | true => exact Bool.noConfusion h
theorem bnf {p : Prop} (h : false = true) : p := Bool.noConfusion h
theorem bnt {p : Prop} (h : true = false) : p := Bool.noConfusion h
/-! the program's tables -/
noncomputable def g1 (x : String) (v : AV) : Str × AV := (Str.ofString x, v)
noncomputable def g2 (x : String) (v : Value) : Str × Value := (Str.ofString x, v)
noncomputable def g3 (x : String) (v : Addr) : Str × Addr := (Str.ofString x, v)
noncomputable def g4 (a : Addr) (d : Option Stmt) (v : Option AV) : Addr × Option Stmt × Option AV := (a, d, v)
noncomputable def gtab : List (Str × AV) := [
  g1 "A_NIL" (.int (.lit 0)),
  g1 "A_CURLY" (.int (.lit 2)),
  g1 "A_COMMA" (.int (.lit 7)),
  g1 "A_BAR" (.int (.lit 8)),
  g1 "F_DOT" (.int (.lit 0)),
  g1 "F_COMMA" (.int (.lit 1)),
  g1 "F_CURLY" (.int (.lit 9)),
  g1 "fixed_atoms" (.stat (.ref 60)),
  g1 "fixed_functors" (.stat (.ref 67)),
  g1 "Symbols" (.stat (.ref 154)),
  g1 "NIL" (.tup [.str "a", .int (.lit 0)]),
  g1 "var" (.stat (.ref 166)),
  g1 "atom" (.stat (.ref 173)),
  g1 "integer" (.stat (.ref 180)),
  g1 "struct" (.stat (.ref 187)),
  g1 "list_term" (.stat (.ref 195)),
  g1 "COMMA_PRIORITY" (.int (.lit 1000)),
  g1 "PREFIX_TYPES" (.tup [.str "fx", .str "fy"]),
  g1 "INFIX_TYPES" (.tup [.str "xfx", .str "xfy", .str "yfx"]),
  g1 "POSTFIX_TYPES" (.tup [.str "xf", .str "yf"]),
  g1 "standard_rows" (.stat (.ref 205)),
  g1 "fixity" (.stat (.ref 212)),
  g1 "bounds" (.stat (.ref 219)),
  g1 "OperatorTable" (.stat (.ref 286)),
  g1 "CLAUSE_PRIORITY" (.int (.lit 1200)),
  g1 "ARGUMENT_PRIORITY" (.int (.lit 999)),
  g1 "WANT_OPERAND" (.int (.lit 0)),
  g1 "WANT_OPERATOR" (.int (.lit 1)),
  g1 "DONE" (.int (.lit 2)),
  g1 "CLOSERS" (.tup [.str ")", .str "]", .str "}"]),
  g1 "SEPARATORS" (.tup [.str ",", .str "|"]),
  g1 "Frame" (.stat (.ref 309)),
  g1 "ends_operand" (.stat (.ref 320)),
  g1 "closes" (.stat (.ref 327)),
  g1 "is_punct" (.stat (.ref 334)),
  g1 "Parser" (.stat (.ref 517)),
  g1 "_law_figures" (.stat (.ref 528)),
  g1 "_law_leaf" (.stat (.ref 535)),
  g1 "_law_alone" (.stat (.ref 542)),
  g1 "_law_both" (.stat (.ref 549)),
  g1 "_law_numbered" (.stat (.ref 554))]
noncomputable def btab : List (Str × Value) := [g2 "len" (.builtin "len"), g2 "range" (.type "range"), g2 "reversed" (.type "reversed"), g2 "tuple" (.type "tuple"), g2 "int" (.type "int")]
noncomputable def ftab : List (Addr × Option Stmt × Option AV) := [
  g4 60 (sAt 11) (none),
  g4 67 (sAt 12) (none),
  g4 81 (mAt 13 0) (none),
  g4 88 (mAt 13 1) (none),
  g4 102 (mAt 13 3) (none),
  g4 109 (mAt 13 4) (none),
  g4 116 (mAt 13 5) (none),
  g4 123 (mAt 13 6) (none),
  g4 166 (sAt 16) (none),
  g4 173 (sAt 17) (none),
  g4 180 (sAt 18) (none),
  g4 187 (sAt 19) (none),
  g4 195 (sAt 20) ((some .none)),
  g4 205 (sAt 26) (none),
  g4 212 (sAt 27) (none),
  g4 219 (sAt 28) (none),
  g4 234 (mAt 29 0) ((some (.bool true))),
  g4 241 (mAt 29 1) (none),
  g4 248 (mAt 29 2) (none),
  g4 255 (mAt 29 3) (none),
  g4 262 (mAt 29 4) (none),
  g4 269 (mAt 29 5) (none),
  g4 276 (mAt 29 6) (none),
  g4 306 (mAt 38 0) (none),
  g4 320 (sAt 39) (none),
  g4 327 (sAt 40) (none),
  g4 334 (sAt 41) (none),
  g4 348 (mAt 42 0) (none),
  g4 355 (mAt 42 1) (none),
  g4 369 (mAt 42 3) (none),
  g4 376 (mAt 42 4) (none),
  g4 383 (mAt 42 5) (none),
  g4 390 (mAt 42 6) (none),
  g4 397 (mAt 42 7) (none),
  g4 404 (mAt 42 8) (none),
  g4 411 (mAt 42 9) (none),
  g4 418 (mAt 42 10) (none),
  g4 425 (mAt 42 11) (none),
  g4 432 (mAt 42 12) (none),
  g4 439 (mAt 42 13) (none),
  g4 446 (mAt 42 14) (none),
  g4 458 (mAt 42 16) (none),
  g4 465 (mAt 42 17) (none),
  g4 472 (mAt 42 18) (none),
  g4 479 (mAt 42 19) (none),
  g4 486 (mAt 42 20) (none),
  g4 493 (mAt 42 21) (none),
  g4 500 (mAt 42 22) (none),
  g4 507 (mAt 42 23) (none),
  g4 514 (mAt 42 24) (none),
  g4 535 (sAt 45) (none),
  g4 542 (sAt 46) (none),
  g4 549 (sAt 47) (none)]
noncomputable def mtab : List (Addr × List (Str × Addr)) := [
  (154, [g3 "__init__" 81, g3 "atom" 88, g3 "text" 95, g3 "functor" 102, g3 "func" 109, g3 "name" 116, g3 "arity" 123, g3 "label" 130, g3 "count" 137, g3 "functor_count" 144, g3 "known" 151]),
  (286, [g3 "__init__" 234, g3 "prefix" 241, g3 "infix" 248, g3 "postfix" 255, g3 "is_operator" 262, g3 "table_of" 269, g3 "add" 276, g3 "rows" 283]),
  (309, [g3 "__init__" 306]),
  (517, [g3 "__init__" 348, g3 "clause" 355, g3 "singles" 362, g3 "peek" 369, g3 "take" 376, g3 "fault" 383, g3 "misplaced" 390, g3 "parse" 397, g3 "settle" 404, g3 "enter" 411, g3 "operand" 418, g3 "named" 425, g3 "operator_operand" 432, g3 "stands_alone" 439, g3 "variable" 446, g3 "string" 451, g3 "operator_name" 458, g3 "operator" 465, g3 "admits" 472, g3 "shift_infix" 479, g3 "apply_postfix" 486, g3 "reduce" 493, g3 "close" 500, g3 "separated" 507, g3 "closed" 514])]
noncomputable def itab : List (Addr × Addr) := [(154, 81), (286, 234), (309, 306), (517, 348)]
noncomputable def funD (x : Stmt) : Option (Str × Arguments × List Stmt × Scope) := by induction x using Stmt.casesOn with
  | FunctionDef n ar b _ _ _ sc _ _ _ => exact some (n, ar, b, sc)
  | _ => exact none
noncomputable def fnOfAddr (f : Addr) : Option (Str × Arguments × List Stmt × Scope × Option AV) := bo (ftab.find? (fun x => Nat.beq x.1 f)) fun q => bo q.2.1 fun x => bi (funD x) fun n r => some (n, r.1, r.2.1, r.2.2, q.2.2)
noncomputable def hasFn : List (Addr × Option Stmt × Option AV) → Nat → Bool
  | [], _ => false
  | e :: r, a => Nat.beq e.1 a || hasFn r a
noncomputable def methOf (C : Addr) (name : Str) : Option Addr := match lookN mtab C with
  | some l => look l name
  | none => none
noncomputable def initOf (C : Addr) : Option Addr := lookN itab C
noncomputable def atab : List (Addr × List Str) := [
  (154, [Str.ofString "texts", Str.ofString "atom_numbers", Str.ofString "functors", Str.ofString "functor_numbers"]),
  (286, [Str.ofString "symbols", Str.ofString "prefixes", Str.ofString "infixes", Str.ofString "postfixes"]),
  (309, [Str.ofString "kind", Str.ofString "limit", Str.ofString "functor", Str.ofString "name", Str.ofString "priority", Str.ofString "left", Str.ofString "items"]),
  (517, [Str.ofString "symbols", Str.ofString "operators", Str.ofString "mode", Str.ofString "tokens", Str.ofString "place", Str.ofString "frames", Str.ofString "limit", Str.ofString "term", Str.ofString "priority", Str.ofString "numbers", Str.ofString "names", Str.ofString "counts", Str.ofString "next_number"])]
noncomputable def hasS : List Str → Str → Bool
  | [], _ => false
  | x :: r, y => sB x y || hasS r y
noncomputable def setOk (C : Addr) (x : Str) : Bool := match lookN atab C with
  | some l => hasS l x
  | none => false
/-! operations on abstract values -/
noncomputable def litI (x : AI) : Option Int := by induction x using AI.casesOn with
  | lit i => exact some i
  | _ => exact none
noncomputable def natL (x : Int) : Option Nat := by induction x using Int.casesOn with
  | ofNat n => exact some n
  | negSucc n => exact none
noncomputable def natI (e : AI) : Option Nat := bo (litI e) natL
noncomputable def intA (x : AV) : Option AI := by induction x using AV.casesOn with
  | int x => exact some x
  | _ => exact none
noncomputable def strA (x : AV) : Option Str := by induction x using AV.casesOn with
  | str x => exact some x
  | _ => exact none
noncomputable def addV (a b : AI) : Option AI := by induction a using AI.casesOn with
  | lit x => exact bo (litI b) fun y => some (.lit (x + y))
  | len k n => exact bo (natI b) fun m => some (.len k (n + m))
  | slen k n => exact bo (natI b) fun m => some (.slen k (n + m))
  | _ => exact none
noncomputable def AI.mkAdd (a b : AI) : AI := (addV a b).getD (.add a b)
noncomputable def lit2 {α : Type} (f : Int → Int → α) (d : α) (a b : AI) : α := Option.casesOn (litI a) d fun x => Option.casesOn (litI b) d fun y => f x y
noncomputable def AI.mkSub (a b : AI) : AI := lit2 (fun x y => .lit (x - y)) (.sub a b) a b
noncomputable def AI.mkMod (F : Facts) (a b : AI) : AI := (bo (lookI F.val (.mod a b)) fun i => some (.lit i)).getD (lit2 (fun x y => .lit (Int.fmod x y)) (.mod a b) a b)
noncomputable def AI.mkDiv (F : Facts) (a b : AI) : AI := (bo (lookI F.val (.fdiv a b)) fun i => some (.lit i)).getD (lit2 (fun x y => .lit (Int.fdiv x y)) (.fdiv a b) a b)
noncomputable def ltI : Int → Int → Bool
  | .ofNat a, .ofNat b => Nat.blt a b
  | .ofNat _, .negSucc _ => false
  | .negSucc _, .ofNat _ => true
  | .negSucc a, .negSucc b => Nat.blt b a
noncomputable def lookLt : List (AI × AI × Bool) → AI → AI → Option Bool
  | [], _, _ => none
  | (x, y, b) :: r, a, c => if x.beq a && y.beq c then some b else lookLt r a c
noncomputable def aLt (F : Facts) (a b : AI) : Option Bool := lit2 (fun x y => some (ltI x y)) (lookLt F.less a b) a b
noncomputable def aLe (F : Facts) (a b : AI) : Option Bool := bo (aLt F b a) fun t => some (!t)
noncomputable def aEqI (F : Facts) (a b : AI) : Option Bool := lit2 (fun x y => some (iB x y)) (cond (a.beq b) (some true) (cond ((lookLt F.less a b).getD false || (lookLt F.less b a).getD false) (some false) none)) a b
/-- a list of known texts holds a text -/
noncomputable def strsHold (vs : List AV) (y : Str) : Option Bool := List.rec (some false) (fun a _ ih => bo (strA a) fun x => bo ih fun b => some (sB x y || b)) vs
noncomputable def litA (v : AV) : Option Int := bo (intA v) litI
noncomputable def key2 (vs : List AV) : Option AKey := by induction vs using List.casesOn with
  | nil => exact none
  | cons a r => induction r using List.casesOn with
    | nil => exact none
    | cons b r => induction r using List.casesOn with
      | nil => exact bo (litA a) fun i => bo (litA b) fun j => some (.t [i, j])
      | cons _ _ => exact none
noncomputable def keyOf (v : AV) : Option AKey := by induction v using AV.casesOn with
  | int e => exact bo (litI e) fun i => some (.i i)
  | str s => exact some (.s s)
  | tup vs => exact key2 vs
  | _ => exact none
noncomputable def kindOfKey : AKey → Nat
  | .s _ => 0
  | .i _ => 1
  | .t _ => 2
noncomputable def lookDK : List (Nat × AKey × Option AV) → Nat → AKey → Option (Option AV)
  | [], _, _ => none
  | (b, k, r) :: t, b', k' => if Nat.beq b b' && k.beq k' then some r else lookDK t b' k'
noncomputable def emptyD (base : Option Nat) (ents : List (AKey × AV)) : Bool := match base, ents with
  | none, [] => true
  | _, _ => false
/-- some (some v): there; some none: not there; none: not known -/
noncomputable def dictLook (F : Facts) (kd : Nat) (base : Option Nat) (ents : List (AKey × AV)) (k : AKey) : Option (Option AV) :=
  gd (Nat.beq kd (kindOfKey k) || emptyD base ents) (alt (lookK ents k) (fun v => some (some v)) (alt base (fun b => lookDK F.dk b k) (some none)))
noncomputable def small {α : Type} : List α → Bool := fun l => Nat.ble l.length 100
noncomputable def isSq (x : AV) : Bool := by induction x using AV.casesOn with
  | sq k => exact true
  | _ => exact false
noncomputable def plainL : List AV → Bool
  | [] => true
  | x :: r => !isSq x && plainL r
/-- what a kind of object holds -/
noncomputable def listO (o : AO) : Option (Option Nat × List AV) := by induction o using AO.casesOn with
  | list p l => exact some (p, l)
  | _ => exact none
noncomputable def instO (o : AO) : Option (Addr × List (Str × AV)) := by induction o using AO.casesOn with
  | inst C l => exact some (C, l)
  | _ => exact none
noncomputable def dictO (o : AO) : Option (Nat × Option Nat × List (AKey × AV)) := by induction o using AO.casesOn with
  | dict a b c => exact some (a, b, c)
  | _ => exact none
noncomputable def objL (x : AV) : Option Nat := by induction x using AV.casesOn with
  | obj l => exact some l
  | _ => exact none
noncomputable def flA (x : AV) : Option (List AV) := by induction x using AV.casesOn with
  | fl l => exact some l
  | _ => exact none
noncomputable def tupA (x : AV) : Option (List AV) := by induction x using AV.casesOn with
  | tup l => exact some l
  | _ => exact none
/-- a list of no splice ahead, its items -/
noncomputable def listN (σ : AS) (l : Nat) : Option (List AV) := bo (lookN σ.hp l) fun o => bi (listO o) fun p items => Option.casesOn p (some items) fun _ => none
noncomputable def truthL (items : List AV) : Option Bool := by induction items using List.casesOn with
  | nil => exact some false
  | cons x r => exact gd (!(isSq x || !small r)) (some true)
noncomputable def truthy? (σ : AS) (v : AV) : Option Bool := by induction v using AV.casesOn with
  | none => exact some false
  | bool b => exact some b
  | obj l => exact bo (lookN σ.hp l) fun o => bi (listO o) fun p items => Option.casesOn p (truthL items) fun _ => List.casesOn items none fun x r => gd (!(isSq x || !small r)) (some true)
  | _ => exact none
noncomputable def lastOf : List AV → Option AV
  | [] => none
  | x :: r => List.casesOn r (cond (isSq x) none (some x)) fun _ _ => lastOf r
noncomputable def initOfL : List AV → List AV
  | [] => []
  | [_] => []
  | x :: r => x :: initOfL r
noncomputable def nth : List AV → Nat → Option AV
  | [], _ => none
  | x :: _, 0 => some x
  | _ :: r, n + 1 => nth r n
/-- the items of a list or of a frozen list, splices and all -/
noncomputable def listItems (σ : AS) (v : AV) : Option (List AV) := by induction v using AV.casesOn with
  | fl vs => exact some vs
  | obj l => exact listN σ l
  | _ => exact none
noncomputable def strAt (s : Str) (i : Nat) : Option Str := (s.cps.toList[i]?).map fun c => ⟨#[c]⟩
noncomputable def ints2 (a b : AV) : Option (AI × AI) := bo (intA a) fun x => bo (intA b) fun y => some (x, y)
noncomputable def cEq (F : Facts) (a b : AV) : Option Bool := alt (intA a) (fun x => bo (intA b) fun y => aEqI F x y) (bo (strA a) fun x => bo (strA b) fun y => some (sB x y))
noncomputable def notNone (x : AV) : Option Bool := by induction x using AV.casesOn with
  | none => exact some true
  | tup _ => exact some false
  | obj _ => exact some false
  | opq _ => exact some false
  | int _ => exact some false
  | str _ => exact some false
  | _ => exact .none
noncomputable def isNoneA (x : AV) : Bool := by induction x using AV.casesOn with
  | none => exact true
  | _ => exact false
noncomputable def cIn (F : Facts) (σ : AS) (x : AV) (b : AV) : Option Bool := alt (tupA b) (fun vs => bo (strA x) (strsHold vs))
  (bo (objL b) fun l => bo (lookN σ.hp l) fun o => bi (dictO o) fun kd q => bo (keyOf x) fun k => bo (dictLook F kd q.1 q.2 k) fun r => some r.isSome)
noncomputable def cmpOp? (F : Facts) (σ : AS) (op : CmpOp) (a b : AV) : Option Bool := by induction op using CmpOp.casesOn with
  | Eq => exact cEq F a b
  | NotEq => exact bo (cEq F a b) fun t => some (!t)
  | Lt => exact bi (ints2 a b) (aLt F)
  | Gt => exact bi (ints2 a b) fun x y => aLt F y x
  | LtE => exact bi (ints2 a b) (aLe F)
  | GtE => exact bi (ints2 a b) fun x y => aLe F y x
  | Is => exact gd (isNoneA b) (notNone a)
  | In => exact cIn F σ a b
  | _ => exact none
noncomputable def smallLit (e : AI) : Bool := Option.casesOn (litI e) false fun b => ltI 0 b && ltI b 1073741824
noncomputable def catL (σ : AS) (a b : AV) : Option AV := bo (listItems σ a) fun xs => bo (listItems σ b) fun ys => gd (small xs && small ys) (some (.fl (xs ++ ys)))
noncomputable def bMod (F : Facts) (x y : AI) : Option AV := bo (litI y) fun b => gd (!iB b 0) (some (.int (AI.mkMod F x (.lit b))))
noncomputable def bDiv (F : Facts) (x y : AI) : Option AV := bo (litI y) fun b => gd (ltI 0 b && ltI b 1073741824) (some (.int (AI.mkDiv F x (.lit b))))
noncomputable def bInts (F : Facts) (op : Operator) (x y : AI) : Option AV := by induction op using Operator.casesOn with
  | Add => exact some (.int (x.mkAdd y))
  | Sub => exact some (.int (x.mkSub y))
  | Mod => exact bMod F x y
  | FloorDiv => exact bDiv F x y
  | Mult => exact gd (smallLit y || smallLit x) (some (.int (.mul x y)))
  | _ => exact none
noncomputable def isAdd (op : Operator) : Bool := by induction op using Operator.casesOn with
  | Add => exact true
  | _ => exact false
noncomputable def binOp? (F : Facts) (σ : AS) (op : Operator) (a b : AV) : Option AV := alt (ints2 a b) (fun q => bInts F op q.1 q.2) (gd (isAdd op) (catL σ a b))
noncomputable def lookAt : List (Nat × AI × AV) → Nat → AI → Option AV
  | [], _, _ => none
  | (k, e, v) :: r, k', e' => if Nat.beq k k' && e.beq e' then some v else lookAt r k' e'
noncomputable def sqA (x : AV) : Option Nat := by induction x using AV.casesOn with
  | sq k => exact some k
  | _ => exact none
noncomputable def isSqL (l : List AV) : Option Nat := by induction l using List.casesOn with
  | nil => exact none
  | cons x r => induction r using List.casesOn with
    | nil => exact sqA x
    | cons _ _ => exact none
noncomputable def sTup (vs : List AV) (e : AI) : Option AV := bo (natI e) fun i => gd (plainL vs && Nat.blt i 1000) (nth vs i)
noncomputable def flAt (F : Facts) (vs : List AV) (e : AI) : Option AV := alt (isSqL vs) (fun k => lookAt F.at_ k e) (sTup vs e)
noncomputable def lenI (vs : List AV) : Option AI := alt (List.casesOn vs none fun x r => bo (sqA x) fun k => some (k, r)) (fun q => gd (plainL q.2 && small q.2) (some (.slen q.1 q.2.length))) (gd (plainL vs && small vs) (some (.lit vs.length)))
noncomputable def sLst (pre : Option Nat) (items : List AV) (e : AI) : Option AV := bo (litI e) fun i => Int.casesOn i (fun n => Option.casesOn pre (gd (plainL items && Nat.blt n 1000) (nth items n)) fun _ => none) (fun n => Nat.casesOn n (lastOf items) fun _ => none)
noncomputable def sObj (F : Facts) (i : AV) (o : AO) : Option AV := by induction o using AO.casesOn with
  | list pre items => exact bo (intA i) (sLst pre items)
  | dict kd base ents => exact bo (keyOf i) fun k => bo (dictLook F kd base ents k) id
  | inst _ _ => exact none
noncomputable def sStr (s : Str) (e : AI) : Option AV := bo (natI e) fun i => gd (Nat.blt i 1000) (bo (strAt s i) fun t => some (.str t))
noncomputable def sub? (F : Facts) (σ : AS) (a i : AV) : Option AV := by induction a using AV.casesOn with
  | tup vs => exact bo (intA i) (sTup vs)
  | fl vs => exact bo (intA i) (flAt F vs)
  | str s => exact bo (intA i) (sStr s)
  | obj l => exact bo (lookN σ.hp l) (sObj F i)
  | _ => exact none
noncomputable def len? (σ : AS) (v : AV) : Option AI := by induction v using AV.casesOn with
  | fl vs => exact lenI vs
  | obj l => exact bo (lookN σ.hp l) fun o => bi (listO o) fun p items => Option.casesOn p (lenI items) fun k => gd (plainL items && small items) (some (.len k items.length))
  | _ => exact none
inductive AFl where
  | next | ret (v : AV)
inductive Cmd where
  | e (sc : Scope) (x : Expr)
  | t (sc : Scope) (x : Expr)
  | s (sc : Scope) (x : Stmt)
  | fn (f : Addr) (args : List AV)
inductive Out where
  | v (a : AV) | b (b : Bool) | f (f : AFl)
noncomputable abbrev Ih := Cmd → AS → Option (Out × AS)
noncomputable def outV (o : Out) : Option AV := by induction o using Out.casesOn with
  | v a => exact some a
  | _ => exact none
noncomputable def outB (o : Out) : Option Bool := by induction o using Out.casesOn with
  | b a => exact some a
  | _ => exact none
noncomputable def outF (o : Out) : Option AFl := by induction o using Out.casesOn with
  | f a => exact some a
  | _ => exact none
noncomputable def runE (ih : Ih) (sc : Scope) (x : Expr) (σ : AS) : Option (AV × AS) := bi (ih (.e sc x) σ) fun o σ => bo (outV o) fun a => some (a, σ)
noncomputable def runT (ih : Ih) (sc : Scope) (x : Expr) (σ : AS) : Option (Bool × AS) := bi (ih (.t sc x) σ) fun o σ => bo (outB o) fun a => some (a, σ)
noncomputable def runS (ih : Ih) (sc : Scope) (x : Stmt) (σ : AS) : Option (AFl × AS) := bi (ih (.s sc x) σ) fun o σ => bo (outF o) fun a => some (a, σ)
noncomputable def runF (ih : Ih) (f : Addr) (args : List AV) (σ : AS) : Option (AV × AS) := bi (ih (.fn f args) σ) fun o σ => bo (outV o) fun a => some (a, σ)
noncomputable def isStar (x : Expr) : Bool := by induction x using Expr.casesOn with
  | Starred _ _ => exact true
  | _ => exact false
noncomputable def isCallE (x : Expr) : Bool := by induction x using Expr.casesOn with
  | Call _ _ _ _ => exact true
  | _ => exact false
noncomputable def isSlice (x : Expr) : Bool := by induction x using Expr.casesOn with
  | Slice _ _ _ _ => exact true
  | _ => exact false
noncomputable def isCompE (x : Expr) : Bool := by induction x using Expr.casesOn with
  | ListComp _ _ _ _ => exact true
  | SetComp _ _ _ _ => exact true
  | DictComp _ _ _ _ _ => exact true
  | _ => exact false
noncomputable def isTupE (x : Expr) : Bool := by induction x using Expr.casesOn with
  | Tuple _ _ _ => exact true
  | _ => exact false
noncomputable def isSetE (x : Expr) : Bool := by induction x using Expr.casesOn with
  | Set _ _ _ => exact true
  | _ => exact false
noncomputable def noStars : List Expr → Bool
  | [] => true
  | x :: r => !isStar x && noStars r
noncomputable def solid (v : AV) : Bool := by induction v using AV.casesOn with
  | any => exact false
  | stat _ => exact false
  | sq _ => exact false
  | _ => exact true
noncomputable def evs (ih : Ih) (sc : Scope) (l : List Expr) : AS → Option (List AV × AS) := List.rec (fun σ => some ([], σ)) (fun x _ f σ => bi (runE ih sc x σ) fun v σ => bi (f σ) fun vs σ => some (v :: vs, σ)) l
noncomputable def flow {α : Type} (g : AS → Option (AFl × AS)) (fl : AFl) (σ : AS) : Option (AFl × AS) := by induction fl using AFl.casesOn with
  | next => exact g σ
  | ret v => exact some (.ret v, σ)
noncomputable def exs (ih : Ih) (sc : Scope) (l : List Stmt) : AS → Option (AFl × AS) := List.rec (fun σ => some (.next, σ)) (fun x _ f σ => bi (runS ih sc x σ) (flow (α := AV) f)) l
noncomputable def nkOf (k : NameKind) : Option Bool := by induction k using NameKind.casesOn with
  | «local» => exact some true
  | globalImplicit => exact some false
  | _ => exact none
noncomputable def kindV (sc : Scope) (x : Str) : Option Bool := bo (sc.names.lookup x) nkOf
noncomputable def nameV (sc : Scope) (σ : AS) (x : Str) : Option AV := bo (kindV sc x) fun l => cond l (look σ.loc x) (alt (look gtab x) some (bo (look btab x) fun v => some (.stat v)))
noncomputable def stopsA (op : BoolOp) (c : Bool) : Bool := by induction op using BoolOp.casesOn with
  | And => exact !c
  | Or => exact c
noncomputable def boolV (ih : Ih) (sc : Scope) (op : BoolOp) (l : List Expr) : AS → Option (AV × AS) := List.rec (fun _ => none) (fun x r f σ => List.casesOn r (runE ih sc x σ) fun _ _ => bi (runE ih sc x σ) fun v σ => bo (truthy? σ v) fun c => cond (stopsA op c) (some (v, σ)) (f σ)) l
noncomputable def boolT (ih : Ih) (sc : Scope) (op : BoolOp) (l : List Expr) : AS → Option (Bool × AS) := List.rec (fun σ => some (stopsA op false, σ)) (fun x _ f σ => bi (runT ih sc x σ) fun c σ => cond (stopsA op c) (some (c, σ)) (f σ)) l
noncomputable def alloc (σ : AS) (o : AO) : AV × AS := (.obj σ.nx, { σ with hp := (σ.nx, o) :: σ.hp, nx := σ.nx + 1 })
noncomputable def upd (σ : AS) (l : Nat) (o : AO) : AS := { σ with hp := putNL σ.hp l o }
noncomputable def oneA (l : List AV) : Option AV := by induction l using List.casesOn with
  | nil => exact none
  | cons a r => induction r using List.casesOn with
    | nil => exact some a
    | cons _ _ => exact none
noncomputable def nilVs (l : List AV) : Bool := List.casesOn l true fun _ _ => false
/-- a call of a method of a list or a dict -/
noncomputable def listMeth (σ : AS) (l : Nat) (name : Str) (args : List AV) : Option (AV × AS) := bo (lookN σ.hp l) fun o => bi (listO o) fun pre items =>
  cond (sB name (Str.ofString "append")) (bo (oneA args) fun v => gd (small items) (some (.none, upd σ l (.list pre (items ++ [v])))))
    (gd (sB name (Str.ofString "pop")) (gd (nilVs args) (bo (lastOf items) fun v => gd (small items) (some (v, upd σ l (.list pre (initOfL items)))))))
noncomputable def argsD (l : List AV) : Option (AV × Option AV) := by induction l using List.casesOn with
  | nil => exact none
  | cons k r => induction r using List.casesOn with
    | nil => exact some (k, none)
    | cons d r => induction r using List.casesOn with
      | nil => exact some (k, some d)
      | cons _ _ => exact none
noncomputable def dictMeth (F : Facts) (σ : AS) (l : Nat) (name : Str) (args : List AV) : Option (AV × AS) := bo (lookN σ.hp l) fun o => bi (dictO o) fun kd q =>
  gd (sB name (Str.ofString "get")) (bi (argsD args) fun k d => bo (keyOf k) fun k => bo (dictLook F kd q.1 q.2 k) fun r => some (r.getD (d.getD .none), σ))
inductive AF where
  | fn (a : Addr) | bi (n : String) | ty (n : String)
noncomputable def refV (v : Value) : Option AF := by induction v using Value.casesOn with
  | ref a => exact some (.fn a)
  | builtin n => exact some (.bi n)
  | type n => exact some (.ty n)
  | _ => exact none
noncomputable def statA (v : AV) : Option Value := by induction v using AV.casesOn with
  | stat v => exact some v
  | _ => exact none
noncomputable def callFn (ih : Ih) (a : Addr) (args : List AV) (σ : AS) : Option (AV × AS) := alt (initOf a) (fun i => bi (runF ih i ((alloc σ (.inst a [])).1 :: args) (alloc σ (.inst a [])).2) fun v σ' => gd (isNoneA v) (some ((alloc σ (.inst a [])).1, σ')))
  (gd (hasFn ftab a) (runF ih a args σ))
noncomputable def tupOf (σ : AS) (v : AV) : Option (List AV) := alt (tupA v) some (bo (listItems σ v) fun xs => gd (small xs) (some xs))
noncomputable def callA (ih : Ih) (f : AF) (args : List AV) (σ : AS) : Option (AV × AS) := by induction f using AF.casesOn with
  | fn a => exact callFn ih a args σ
  | bi n => exact gd (n == "len") (bo (oneA args) fun v => bo (len? σ v) fun n => some (.int n, σ))
  | ty n => exact gd (n == "tuple") (bo (oneA args) fun v => bo (tupOf σ v) fun xs => some (.tup xs, σ))
noncomputable def callV (ih : Ih) (f : AV) (args : List AV) (σ : AS) : Option (AV × AS) := bo (statA f) fun v => bo (refV v) fun f => callA ih f args σ
noncomputable def instOf (σ : AS) (v : AV) : Option (Nat × Addr × List (Str × AV)) := bo (objL v) fun l => bo (lookN σ.hp l) fun o => bo (instO o) fun q => some (l, q)
noncomputable def two (ih : Ih) (sc : Scope) (l r : Expr) (σ : AS) : Option (AV × AV × AS) := bi (runE ih sc l σ) fun a σ => bi (runE ih sc r σ) fun b σ => some (a, b, σ)
noncomputable def isLoc (sc : Scope) (x : Str) : Bool := Option.casesOn (kindV sc x) false id
noncomputable def stAttr (ih : Ih) (sc : Scope) (o : Expr) (x : Str) (v : AV) (σ : AS) : Option AS := bi (runE ih sc o σ) fun u σ => bi (instOf σ u) fun l q => gd (small q.2 && setOk q.1 x) (some (upd σ l (.inst q.1 (put q.2 x v))))
noncomputable def stDict (F : Facts) (l : Nat) (iv v : AV) (σ : AS) (o : AO) : Option AS := bi (dictO o) fun kd q => bo (keyOf iv) fun k => bo (dictLook F kd q.1 q.2 k) fun _ => gd (small q.2) (some (upd σ l (.dict (kindOfKey k) q.1 (putK q.2 k v))))
noncomputable def stSub (ih : Ih) (F : Facts) (sc : Scope) (o i : Expr) (v : AV) (σ : AS) : Option AS := bi (two ih sc o i σ) fun a q => bo (objL a) fun l => bo (lookN q.2.hp l) (stDict F l q.1 v q.2)
noncomputable def storeT (ih : Ih) (F : Facts) (sc : Scope) (t : Expr) (v : AV) (σ : AS) : Option AS := by induction t using Expr.casesOn with
  | Name x _ => exact gd (isLoc sc x) (some { σ with loc := put σ.loc x v })
  | Attribute o x _ => exact stAttr ih sc o x v σ
  | Subscript o i _ => exact stSub ih F sc o i v σ
  | _ => exact none
noncomputable def nameE (x : Expr) : Option Str := by induction x using Expr.casesOn with
  | Name x _ => exact some x
  | _ => exact none
noncomputable def storeEach (sc : Scope) (ts : List Expr) : List AV → AS → Option AS := List.rec (fun vs σ => List.casesOn vs (some σ) fun _ _ => none) (fun t _ f vs σ => List.casesOn vs none fun v vs => bo (nameE t) fun x => gd (isLoc sc x) (f vs { σ with loc := put σ.loc x v })) ts
noncomputable def forEach (ih : Ih) (sc : Scope) (x : Str) (body : List Stmt) (vs : List AV) : AS → Option (AFl × AS) := List.rec (fun σ => some (.next, σ)) (fun v _ f σ => bi (exs ih sc body { σ with loc := put σ.loc x v }) (flow (α := AV) f)) vs
noncomputable def bindsOf (ps : List Str) (args : List AV) (d : Option AV) : Option (List (Str × AV)) :=
  cond (Nat.beq ps.length args.length) (some (ps.zip args)) (gd (Nat.beq ps.length (args.length + 1)) (bo d fun v => some (ps.zip (args ++ [v]))))
noncomputable def litC (c : Const) : Option Int := by induction c using Const.casesOn with
  | int i => exact some i
  | _ => exact none
noncomputable def litE (x : Expr) : Option Int := by induction x using Expr.casesOn with
  | Constant c _ _ => exact litC c
  | _ => exact none
noncomputable def xCon (c : Const) : Option AV := by induction c using Const.casesOn with
  | none => exact some .none
  | bool b => exact some (.bool b)
  | int i => exact some (.int (.lit i))
  | str s => exact some (.str s)
  | _ => exact .none
noncomputable def xAttr (ih : Ih) (sc : Scope) (o : Expr) (n : Str) (σ : AS) : Option (AV × AS) := bi (runE ih sc o σ) fun v σ => bi (instOf σ v) fun _ q => bo (look q.2 n) fun v => gd (solid v) (some (v, σ))
noncomputable def xNot (ih : Ih) (sc : Scope) (x : Expr) (σ : AS) : Option (AV × AS) := bi (runE ih sc x σ) fun v σ => bo (truthy? σ v) fun b => some (.bool (!b), σ)
noncomputable def xUn (ih : Ih) (sc : Scope) (op : UnaryOp) (x : Expr) (σ : AS) : Option (AV × AS) := by induction op using UnaryOp.casesOn with
  | USub => exact bo (litE x) fun i => some (.int (.lit (-i)), σ)
  | Not => exact xNot ih sc x σ
  | _ => exact none
noncomputable def xBin (ih : Ih) (F : Facts) (sc : Scope) (l : Expr) (op : Operator) (r : Expr) (σ : AS) : Option (AV × AS) := bi (two ih sc l r σ) fun a q => bo (binOp? F q.2 op a q.1) fun v => some (v, q.2)
noncomputable def xIf (ih : Ih) (sc : Scope) (t a b : Expr) (σ : AS) : Option (AV × AS) := bi (runT ih sc t σ) fun c σ => runE ih sc (cond c a b) σ
noncomputable def one1 {α : Type} (l : List α) : Option α := by induction l using List.casesOn with
  | nil => exact none
  | cons a r => induction r using List.casesOn with
    | nil => exact some a
    | cons _ _ => exact none
noncomputable def one2 (l : List CmpOp) (rs : List Expr) : Option (CmpOp × Expr) := bo (one1 l) fun op => bo (one1 rs) fun r => some (op, r)
noncomputable def xCmp (ih : Ih) (F : Facts) (sc : Scope) (l : Expr) (op : CmpOp) (r : Expr) (σ : AS) : Option (Bool × AS) := bi (two ih sc l r σ) fun a q => gd (!behindInMarks op r) (bo (cmpOp? F q.2 op a q.1) fun v => some (v, q.2))
noncomputable def xSub (ih : Ih) (F : Facts) (sc : Scope) (l r : Expr) (σ : AS) : Option (AV × AS) := bi (two ih sc l r σ) fun a q => bo (sub? F q.2 a q.1) fun v => some (v, q.2)
noncomputable def xSeq (ih : Ih) (sc : Scope) (es : List Expr) (σ : AS) : Option (List AV × AS) := gd (noStars es && small es) (evs ih sc es σ)
noncomputable def xMethI (ih : Ih) (sc : Scope) (l : Nat) (n : Str) (args : List Expr) (σ : AS) (C : Addr) (attrs : List (Str × AV)) : Option (AV × AS) := alt (look attrs n) (fun _ => none) (bo (methOf C n) fun f => bi (evs ih sc args σ) fun vs σ => runF ih f (.obj l :: vs) σ)
noncomputable def xMeth (ih : Ih) (F : Facts) (sc : Scope) (l : Nat) (n : Str) (args : List Expr) (σ : AS) (o : AO) : Option (AV × AS) := by induction o using AO.casesOn with
  | inst C attrs => exact xMethI ih sc l n args σ C attrs
  | list _ _ => exact bi (evs ih sc args σ) fun vs σ => listMeth σ l n vs
  | dict _ _ _ => exact bi (evs ih sc args σ) fun vs σ => dictMeth F σ l n vs
noncomputable def xCallM (ih : Ih) (F : Facts) (sc : Scope) (o : Expr) (n : Str) (args : List Expr) (σ : AS) : Option (AV × AS) := bi (runE ih sc o σ) fun v σ => bo (objL v) fun l => bo (lookN σ.hp l) fun ob => xMeth ih F sc l n args σ ob
noncomputable def xCallN (ih : Ih) (sc : Scope) (g : Expr) (args : List Expr) (σ : AS) : Option (AV × AS) := bi (runE ih sc g σ) fun f σ => bi (evs ih sc args σ) fun vs σ => callV ih f vs σ
noncomputable def xCall (ih : Ih) (F : Facts) (sc : Scope) (f : Expr) (args : List Expr) (p : Pos) (σ : AS) : Option (AV × AS) := by induction f using Expr.casesOn with
  | Attribute o n ap => exact gd (!isCallE o && noStars args && Nat.blt args.length 30 && Nat.beq ap.endLine p.line) (xCallM ih F sc o n args σ)
  | Name g p => exact gd (noStars args) (xCallN ih sc (.Name g p) args σ)
  | _ => exact none
noncomputable def nilL {α : Type} (l : List α) : Bool := List.casesOn l true fun _ _ => false
noncomputable def xE (ih : Ih) (F : Facts) (sc : Scope) (x : Expr) (σ : AS) : Option (AV × AS) := by induction x using Expr.casesOn with
  | Constant c _ _ => exact bo (xCon c) fun v => some (v, σ)
  | Name x _ => exact bo (nameV sc σ x) fun v => some (v, σ)
  | Attribute o n _ => exact gd (!isCallE o) (xAttr ih sc o n σ)
  | UnaryOp op x _ => exact xUn ih sc op x σ
  | BinOp l op r _ => exact xBin ih F sc l op r σ
  | BoolOp op vs _ => exact boolV ih sc op vs σ
  | IfExp t a b _ => exact xIf ih sc t a b σ
  | Compare l ops rs _ => exact bi (one2 ops rs) fun op r => bi (xCmp ih F sc l op r σ) fun v σ => some (.bool v, σ)
  | Subscript v i _ => exact gd (!isSlice i) (xSub ih F sc v i σ)
  | List es _ => exact bi (xSeq ih sc es σ) fun vs σ => some (alloc σ (.list none vs))
  | Tuple es _ _ => exact bi (xSeq ih sc es σ) fun vs σ => some (.tup vs, σ)
  | Dict ks vs _ => exact gd (nilL ks && nilL vs) (some (alloc σ (.dict 0 none [])))
  | Call f args ks p => exact gd (nilL ks) (xCall ih F sc f args p σ)
  | _ => exact none
noncomputable def isNot (op : UnaryOp) : Bool := by induction op using UnaryOp.casesOn with
  | Not => exact true
  | _ => exact false
noncomputable def isNotE (x : Expr) : Option Expr := by induction x using Expr.casesOn with
  | UnaryOp op x _ => exact gd (isNot op) (some x)
  | _ => exact none
noncomputable def isBE (x : Expr) : Bool := by induction x using Expr.casesOn with
  | IfExp _ _ _ _ => exact true
  | Compare _ _ _ _ => exact true
  | BoolOp _ _ _ => exact true
  | _ => exact false
noncomputable def xTe (ih : Ih) (sc : Scope) (x : Expr) (σ : AS) : Option (Bool × AS) := bi (runE ih sc x σ) fun v σ => bo (truthy? σ v) fun b => some (b, σ)
noncomputable def xTb (ih : Ih) (F : Facts) (sc : Scope) (x : Expr) (σ : AS) : Option (Bool × AS) := by induction x using Expr.casesOn with
  | BoolOp op vs _ => exact boolT ih sc op vs σ
  | Compare l ops rs _ => exact bi (one2 ops rs) fun op r => xCmp ih F sc l op r σ
  | _ => exact none
noncomputable def xT (ih : Ih) (F : Facts) (sc : Scope) (x : Expr) (σ : AS) : Option (Bool × AS) := alt (isNotE x) (fun x => bi (runT ih sc x σ) fun b σ => some (!b, σ)) (cond (isBE x) (xTb ih F sc x σ) (xTe ih sc x σ))
noncomputable def dropN {α : Type} : List (Nat × α) → Nat → List (Nat × α)
  | [], _ => []
  | (x, u) :: r, y => if Nat.beq x y then r else (x, u) :: dropN r y
noncomputable def isNext (fl : AFl) : Bool := by induction fl using AFl.casesOn with
  | next => exact true
  | ret _ => exact false
/-- for x in reversed(e): the list stands aside while the body runs -/
noncomputable def forRevO (ih : Ih) (sc : Scope) (x : Str) (body : List Stmt) (l : Nat) (σ : AS) : Option (AFl × AS) := bo (listN σ l) fun vs => gd (plainL vs && small vs) (bi (forEach ih sc x body vs.reverse { σ with hp := dropN σ.hp l }) fun fl σ => gd (isNext fl) (some (.next, { σ with hp := (l, .list none vs) :: σ.hp })))
noncomputable def forRev (ih : Ih) (sc : Scope) (x : Str) (e : Expr) (body : List Stmt) (σ : AS) : Option (AFl × AS) := bi (runE ih sc e σ) fun v σ => alt (flA v) (fun vs => gd (plainL vs && small vs) (forEach ih sc x body vs.reverse σ)) (bo (objL v) fun l => forRevO ih sc x body l σ)
noncomputable def tupT (x : Expr) : Option (List Expr) := by induction x using Expr.casesOn with
  | Tuple ts _ _ => exact some ts
  | _ => exact none
noncomputable def xAssT (ih : Ih) (sc : Scope) (us : List Expr) (value : Expr) (σ : AS) : Option (AFl × AS) := bi (runE ih sc value σ) fun v σ => bo (tupA v) fun vs => gd (plainL vs) (bo (storeEach sc us vs σ) fun σ => some (.next, σ))
noncomputable def xAss1 (ih : Ih) (F : Facts) (sc : Scope) (t value : Expr) (σ : AS) : Option (AFl × AS) := bi (runE ih sc value σ) fun v σ => bo (storeT ih F sc t v σ) fun σ => some (.next, σ)
noncomputable def xAss (ih : Ih) (F : Facts) (sc : Scope) (t value : Expr) (σ : AS) : Option (AFl × AS) := alt (tupT t) (fun us => gd (!isCompE value && !isTupE value) (xAssT ih sc us value σ)) (gd (!isCompE value) (xAss1 ih F sc t value σ))
noncomputable def revOf (x : Expr) : Option (Str × Expr) := by induction x using Expr.casesOn with
  | Call f args ks _ => exact bo (nameE f) fun g => bo (one1 args) fun e => gd (nilL ks) (some (g, e))
  | _ => exact none
noncomputable def isGlo (sc : Scope) (x : Str) : Bool := Option.casesOn (kindV sc x) false not
noncomputable def xForT (ih : Ih) (sc : Scope) (x : Str) (iter : Expr) (body : List Stmt) (σ : AS) : Option (AFl × AS) := bi (runE ih sc iter σ) fun v σ => bo (tupA v) fun vs => gd (plainL vs) (forEach ih sc x body vs σ)
noncomputable def xFor (ih : Ih) (sc : Scope) (t iter : Expr) (body : List Stmt) (σ : AS) : Option (AFl × AS) := bo (nameE t) fun x => alt (revOf iter) (fun q => gd (isLoc sc x && (isGlo sc q.1 && (sB q.1 (Str.ofString "reversed") && !isStar q.2))) (forRev ih sc x q.2 body σ)) (gd (!isSetE iter && isLoc sc x) (xForT ih sc x iter body σ))
noncomputable def xS (ih : Ih) (F : Facts) (sc : Scope) (x : Stmt) (σ : AS) : Option (AFl × AS) := by induction x using Stmt.casesOn with
  | Expr e _ => exact gd (!isCompE e) (bi (runE ih sc e σ) fun _ σ => some (.next, σ))
  | Return o _ => exact bo o fun x => bi (runE ih sc x σ) fun v σ => some (.ret v, σ)
  | Pass _ => exact some (.next, σ)
  | If t a b _ => exact bi (runT ih sc t σ) fun c σ => exs ih sc (cond c a b) σ
  | Assign ts value _ => exact bo (one1 ts) fun t => xAss ih F sc t value σ
  | For t iter body orelse _ => exact gd (nilL orelse) (xFor ih sc t iter body σ)
  | _ => exact none
noncomputable def retV (fl : AFl) : AV := by induction fl using AFl.casesOn with
  | next => exact .none
  | ret v => exact v
noncomputable def xF (ih : Ih) (f : Addr) (args : List AV) (σ : AS) : Option (AV × AS) := bi (fnOfAddr f) fun _ q => bo (bindsOf (q.1.args.map (·.arg)) args q.2.2.2) fun bs => bi (exs ih q.2.2.1 q.2.1 { σ with loc := bs }) fun fl σ' => some (retV fl, { σ' with loc := σ.loc })
noncomputable def xStep (F : Facts) (ih : Ih) (c : Cmd) (σ : AS) : Option (Out × AS) := by induction c using Cmd.casesOn with
  | e sc x => exact bi (xE ih F sc x σ) fun v σ => some (.v v, σ)
  | t sc x => exact bi (xT ih F sc x σ) fun v σ => some (.b v, σ)
  | s sc x => exact bi (xS ih F sc x σ) fun v σ => some (.f v, σ)
  | fn f args => exact bi (xF ih f args σ) fun v σ => some (.v v, σ)
noncomputable def xRun (F : Facts) (n : Nat) : Ih := Nat.rec (fun _ _ => none) (fun _ ih => xStep F ih) n
end
section
open PySem PySem.W PySem.Calls PyProof.Rows
set_option maxRecDepth 100000
set_option genInjectivity false
set_option genSizeOf false
/-- what comes after, set aside under a name -/
theorem wpAny_gen {α : Type} {M : Model} {A : Around} {x : Sem α} {Q : α → Shared → Prop} {E : Value → Shared → Prop} {s : Shared} (h : ∀ Q' : α → Shared → Prop, (∀ v s, Q v s → Q' v s) → wpAny M A x Q' E s) : wpAny M A x Q E s := h Q fun _ _ z => z
noncomputable abbrev Rho := Nat → Option (Addr × Addr)
noncomputable abbrev Led := List (Addr × Obj)
noncomputable abbrev tupO (us : List Value) : Obj := { cls := .type "tuple", data := .seq us.toArray }
/-- no unknowns -/
noncomputable def AI.clo : AI → Bool
  | .lit _ => true
  | _ => false
mutual
noncomputable def AV.clo : AV → Bool
  | .int e => e.clo
  | .tup vs => AV.cloL vs
  | .fl vs => AV.cloL vs
  | .sq _ => false
  | .opq _ => false
  | _ => true
noncomputable def AV.cloL : List AV → Bool
  | [] => true
  | a :: r => a.clo && AV.cloL r
end
theorem AV.cloL_plain : ∀ {l : List AV}, AV.cloL l = true → plainL l = true
  | [], _ => rfl
  | a :: r, h => by
    simp only [AV.cloL, Bool.and_eq_true] at h
    simp only [plainL, Bool.and_eq_true, Bool.not_eq_true']
    refine ⟨?_, AV.cloL_plain h.2⟩
    cases a <;> first | rfl | (simp [AV.clo] at h)
mutual
noncomputable def AV.labs (p : Nat → Bool) : AV → Bool
  | .obj l => p l
  | .tup vs => AV.labsL p vs
  | .fl vs => AV.labsL p vs
  | _ => true
noncomputable def AV.labsL (p : Nat → Bool) : List AV → Bool
  | [] => true
  | a :: r => a.labs p && AV.labsL p r
end
/-- what stands for the unknowns -/
structure Eps where
  int : Nat → Int
  pv : Nat → List AV
  sq : Nat → List AV
  raw : Nat → List Value
  dct : Nat → AKey → Option Value
  dlen : Nat → Nat
  sq_cl : ∀ k, AV.cloL (sq k) = true
  pv_cl : ∀ k, AV.cloL (pv k) = true
  sq_lf : ∀ k, AV.labsL (fun _ => false) (sq k) = true
  pv_lf : ∀ k, AV.labsL (fun _ => false) (pv k) = true
  sq_le : ∀ k, (sq k).length ≤ 1000
  raw_le : ∀ k, (raw k).length ≤ 1000000
  dlen_le : ∀ k, dlen k ≤ 1000000
theorem Eps.sq_pl (ε : Eps) (k : Nat) : plainL (ε.sq k) = true := AV.cloL_plain (ε.sq_cl k)
noncomputable def Eps.ev (ε : Eps) : AI → Int
  | .lit i => i
  | .sym k => ε.int k
  | .add a b => ε.ev a + ε.ev b
  | .sub a b => ε.ev a - ε.ev b
  | .mul a b => ε.ev a * ε.ev b
  | .mod a b => (ε.ev a).fmod (ε.ev b)
  | .fdiv a b => (ε.ev a).fdiv (ε.ev b)
  | .len k n => ((ε.raw k).length + n : Nat)
  | .slen k n => ((ε.sq k).length + n : Nat)
structure Wd where
  ρ : Rho
  ims : Led
noncomputable def Wd.im (K : Frag) (W : Wd) (a : Addr) (o : Obj) : Prop := (a, o) ∈ W.ims ∨ K.lookup a = some o
structure Wd.Le (W W' : Wd) : Prop where
  ρ : ∀ l p, W.ρ l = some p → W'.ρ l = some p
  ims : ∀ p ∈ W.ims, p ∈ W'.ims
theorem Wd.Le.refl (W : Wd) : W.Le W := ⟨fun _ _ h => h, fun _ h => h⟩
theorem Wd.Le.trans {W W' W'' : Wd} (h : W.Le W') (h' : W'.Le W'') : W.Le W'' := ⟨fun l p e => h'.ρ l p (h.ρ l p e), fun p e => h'.ims p (h.ims p e)⟩
theorem Wd.Le.im {K : Frag} {W W' : Wd} (h : W.Le W') {a : Addr} {o : Obj} (e : W.im K a o) : W'.im K a o := e.imp (h.ims _) id
mutual
inductive R (K : Frag) (ε : Eps) (W : Wd) : AV → Value → Prop
  | none : R K ε W .none .none
  | bool (b : Bool) : R K ε W (.bool b) (.bool b)
  | int (e : AI) (t : Tok) : R K ε W (.int e) (.int (ε.ev e) t)
  | str (s : Str) (t : Tok) : R K ε W (.str s) (.str s t)
  | obj {l : Nat} {x dx : Addr} : W.ρ l = some (x, dx) → R K ε W (.obj l) (.ref x)
  | stat (v : Value) : R K ε W (.stat v) v
  | tup {vs : List AV} {us : List Value} {a : Addr} : W.im K a (tupO us) → Rs K ε W vs us → R K ε W (.tup vs) (.ref a)
  | fl {vs : List AV} {us : List Value} {a : Addr} {n : Nat} : W.im K a (listOf us.toArray n) → Rs K ε W vs us → R K ε W (.fl vs) (.ref a)
  | opq {k : Nat} {us : List Value} {a : Addr} : W.im K a (tupO us) → Rs K ε W (ε.pv k) us → R K ε W (.opq k) (.ref a)
  | any (v : Value) : R K ε W .any v
inductive Rs (K : Frag) (ε : Eps) (W : Wd) : List AV → List Value → Prop
  | nil : Rs K ε W [] []
  | cons {a : AV} {r : List AV} {v : Value} {us : List Value} : R K ε W a v → Rs K ε W r us → Rs K ε W (a :: r) (v :: us)
  | sq {k : Nat} {r : List AV} {us vs : List Value} : Rs K ε W (ε.sq k) us → Rs K ε W r vs → Rs K ε W (.sq k :: r) (us ++ vs)
end
section
variable {K : Frag} {ε : Eps} {W W' : Wd}
theorem R.ind {P : AV → Value → Prop} {P' : List AV → List Value → Prop} (hn : P .none .none) (hb : ∀ b, P (.bool b) (.bool b)) (hi : ∀ e t, P (.int e) (.int (ε.ev e) t)) (hs : ∀ s t, P (.str s) (.str s t)) (ho : ∀ l x dx, W.ρ l = some (x, dx) → P (.obj l) (.ref x)) (hst : ∀ v, P (.stat v) v)
    (ht : ∀ vs us a, W.im K a (tupO us) → Rs K ε W vs us → P' vs us → P (.tup vs) (.ref a)) (hf : ∀ vs us a n, W.im K a (listOf us.toArray n) → Rs K ε W vs us → P' vs us → P (.fl vs) (.ref a)) (hq : ∀ k us a, W.im K a (tupO us) → Rs K ε W (ε.pv k) us → P' (ε.pv k) us → P (.opq k) (.ref a)) (ha : ∀ v, P .any v)
    (nil : P' [] []) (cons : ∀ a r v us, R K ε W a v → Rs K ε W r us → P a v → P' r us → P' (a :: r) (v :: us)) (sq : ∀ k r us vs, Rs K ε W (ε.sq k) us → Rs K ε W r vs → P' (ε.sq k) us → P' r vs → P' (.sq k :: r) (us ++ vs)) :
    (∀ {a u}, R K ε W a u → P a u) ∧ ∀ {l us}, Rs K ε W l us → P' l us :=
  ⟨fun r => R.rec (motive_1 := fun a u _ => P a u) (motive_2 := fun a u _ => P' a u) hn hb hi hs (ho _ _ _) hst (ht _ _ _) (hf _ _ _ _) (hq _ _ _) ha nil (cons _ _ _ _) (sq _ _ _ _) r,
    fun r => Rs.rec (motive_1 := fun a u _ => P a u) (motive_2 := fun a u _ => P' a u) hn hb hi hs (ho _ _ _) hst (ht _ _ _) (hf _ _ _ _) (hq _ _ _) ha nil (cons _ _ _ _) (sq _ _ _ _) r⟩
theorem Rs.ind {P' : List AV → List Value → Prop} (nil : P' [] []) (cons : ∀ a r v us, R K ε W a v → Rs K ε W r us → P' r us → P' (a :: r) (v :: us)) (sq : ∀ k r us vs, Rs K ε W (ε.sq k) us → Rs K ε W r vs → P' (ε.sq k) us → P' r vs → P' (.sq k :: r) (us ++ vs))
    {l : List AV} {us : List Value} (h : Rs K ε W l us) : P' l us :=
  (R.ind (P := fun _ _ => True) (P' := P') trivial (fun _ => trivial) (fun _ _ => trivial) (fun _ _ => trivial) (fun _ _ _ _ => trivial) (fun _ => trivial) (fun _ _ _ _ _ _ => trivial) (fun _ _ _ _ _ _ _ => trivial) (fun _ _ _ _ _ _ => trivial) (fun _ => trivial) nil (fun a r v us h1 h2 _ h4 => cons a r v us h1 h2 h4) sq).2 h
/-- what a value of a known shape is -/
noncomputable def RV (K : Frag) (ε : Eps) (W : Wd) (a : AV) (u : Value) : Prop := AV.casesOn (motive_1 := fun _ => Prop) a (∀ P : Value → Prop, P .none → P u) (fun b => ∀ P : Value → Prop, P (.bool b) → P u) (fun e => ∀ P : Value → Prop, (∀ t, P (.int (ε.ev e) t)) → P u) (fun x => ∀ P : Value → Prop, (∀ t, P (.str x t)) → P u)
  (fun l => ∀ P : Value → Prop, (∀ x dx, W.ρ l = some (x, dx) → P (.ref x)) → P u) (fun v => ∀ P : Value → Prop, P v → P u) (fun vs => ∀ P : Value → Prop, (∀ us a, W.im K a (tupO us) → Rs K ε W vs us → P (.ref a)) → P u) (fun vs => ∀ P : Value → Prop, (∀ us a n, W.im K a (listOf us.toArray n) → Rs K ε W vs us → P (.ref a)) → P u)
  (fun _ => False) (fun q => ∀ P : Value → Prop, (∀ us a, W.im K a (tupO us) → Rs K ε W (ε.pv q) us → P (.ref a)) → P u) True
theorem R.view {a : AV} {u : Value} (r : R K ε W a u) : RV K ε W a u :=
  R.casesOn (motive_1 := fun a u _ => RV K ε W a u) r (fun _ k => k) (fun _ _ k => k) (fun _ t _ k => k t) (fun _ t _ k => k t) (fun e _ k => k _ _ e) (fun _ _ k => k) (fun i s _ k => k _ _ i s) (fun i s _ k => k _ _ _ i s) (fun i s _ k => k _ _ i s) (fun _ => trivial)
@[elab_as_elim] theorem R.noneE {P : Value → Prop} {u : Value} (r : R K ε W .none u) (k : P .none) : P u := r.view P k
@[elab_as_elim] theorem R.boolE {P : Value → Prop} {b : Bool} {u : Value} (r : R K ε W (.bool b) u) (k : P (.bool b)) : P u := r.view P k
@[elab_as_elim] theorem R.intE {P : Value → Prop} {e : AI} {u : Value} (r : R K ε W (.int e) u) (k : ∀ t, P (.int (ε.ev e) t)) : P u := r.view P k
@[elab_as_elim] theorem R.strE {P : Value → Prop} {x : Str} {u : Value} (r : R K ε W (.str x) u) (k : ∀ t, P (.str x t)) : P u := r.view P k
@[elab_as_elim] theorem R.objE {P : Value → Prop} {l : Nat} {u : Value} (r : R K ε W (.obj l) u) (k : ∀ x dx, W.ρ l = some (x, dx) → P (.ref x)) : P u := r.view P k
@[elab_as_elim] theorem R.statE {P : Value → Prop} {v u : Value} (r : R K ε W (.stat v) u) (k : P v) : P u := r.view P k
@[elab_as_elim] theorem R.tupE {P : Value → Prop} {vs : List AV} {u : Value} (r : R K ε W (.tup vs) u) (k : ∀ us a, W.im K a (tupO us) → Rs K ε W vs us → P (.ref a)) : P u := r.view P k
@[elab_as_elim] theorem R.flE {P : Value → Prop} {vs : List AV} {u : Value} (r : R K ε W (.fl vs) u) (k : ∀ us a n, W.im K a (listOf us.toArray n) → Rs K ε W vs us → P (.ref a)) : P u := r.view P k
@[elab_as_elim] theorem R.opqE {P : Value → Prop} {q : Nat} {u : Value} (r : R K ε W (.opq q) u) (k : ∀ us a, W.im K a (tupO us) → Rs K ε W (ε.pv q) us → P (.ref a)) : P u := r.view P k
noncomputable def RsV (K : Frag) (ε : Eps) (W : Wd) (l : List AV) (us : List Value) : Prop := List.casesOn (motive := fun _ => Prop) l (∀ P : List Value → Prop, P [] → P us)
  (fun a q => ∀ P : List Value → Prop, (∀ u t, R K ε W a u → Rs K ε W q t → P (u :: t)) → (∀ k u t, a = .sq k → Rs K ε W (ε.sq k) u → Rs K ε W q t → P (u ++ t)) → P us)
theorem Rs.view {l : List AV} {us : List Value} (r : Rs K ε W l us) : RsV K ε W l us :=
  Rs.casesOn (motive_2 := fun l us _ => RsV K ε W l us) r (fun _ k => k) (fun r s _ k _ => k _ _ r s) (fun r s _ _ k => k _ _ _ rfl r s)
@[elab_as_elim] theorem Rs.nilE {P : List Value → Prop} {us : List Value} (r : Rs K ε W [] us) (k : P []) : P us := r.view P k
@[elab_as_elim] theorem Rs.consE {P : List Value → Prop} {a : AV} {q : List AV} {us : List Value} (r : Rs K ε W (a :: q) us) (h : isSq a = false) (k : ∀ u t, R K ε W a u → Rs K ε W q t → P (u :: t)) : P us :=
  r.view P k fun _ _ _ e => by subst e; cases h
theorem R.sqN {q : Nat} {u : Value} (r : R K ε W (.sq q) u) : False := r.view
@[elab_as_elim] theorem Rs.sqE {P : List Value → Prop} {q : Nat} {us : List Value} (r : Rs K ε W [.sq q] us) (k : Rs K ε W (ε.sq q) us → P us) : P us :=
  r.view (fun us => (Rs K ε W (ε.sq q) us → P us) → P us) (fun _ _ r _ _ => r.sqN.elim) (fun _ u v e r s => Rs.nilE (P := fun v => (Rs K ε W (ε.sq q) (u ++ v) → P (u ++ v)) → P (u ++ v)) s fun k => k (by cases e; rw [List.append_nil]; exact r)) k
@[elab_as_elim] theorem R.tup1E {P : Value → Prop} {a : AV} {u : Value} (r : R K ε W (.tup [a]) u) (h : isSq a = false) (k : ∀ x t, W.im K t (tupO [x]) → R K ε W a x → P (.ref t)) : P u :=
  R.tupE r fun _ _ i s => Rs.consE (P := fun us => W.im K _ (tupO us) → P _) s h (fun _ _ r1 s => Rs.nilE (P := fun us => W.im K _ (tupO (_ :: us)) → P _) s fun i => k _ _ i r1) i
@[elab_as_elim] theorem R.tup2E {P : Value → Prop} {a b : AV} {u : Value} (r : R K ε W (.tup [a, b]) u) (h : isSq a = false) (h' : isSq b = false) (k : ∀ x y t, W.im K t (tupO [x, y]) → R K ε W a x → R K ε W b y → P (.ref t)) : P u :=
  R.tupE r fun _ _ i s => Rs.consE (P := fun us => W.im K _ (tupO us) → P _) s h (fun _ _ r1 s => Rs.consE (P := fun us => W.im K _ (tupO (_ :: us)) → P _) s h' fun _ _ r2 s => Rs.nilE (P := fun us => W.im K _ (tupO (_ :: _ :: us)) → P _) s fun i => k _ _ _ i r1 r2) i
@[elab_as_elim] theorem R.tup3E {P : Value → Prop} {a b d : AV} {u : Value} (r : R K ε W (.tup [a, b, d]) u) (h : isSq a = false) (h' : isSq b = false) (h2 : isSq d = false) (k : ∀ x y z t, W.im K t (tupO [x, y, z]) → R K ε W a x → R K ε W b y → R K ε W d z → P (.ref t)) : P u :=
  R.tupE r fun _ _ i s => Rs.consE (P := fun us => W.im K _ (tupO us) → P _) s h (fun _ _ r1 s => Rs.consE (P := fun us => W.im K _ (tupO (_ :: us)) → P _) s h' fun _ _ r2 s => Rs.consE (P := fun us => W.im K _ (tupO (_ :: _ :: us)) → P _) s h2 fun _ _ r3 s => Rs.nilE (P := fun us => W.im K _ (tupO (_ :: _ :: _ :: us)) → P _) s fun i => k _ _ _ _ i r1 r2 r3) i
theorem R.monoB (h : W.Le W') : (∀ {a u}, R K ε W a u → R K ε W' a u) ∧ ∀ {l us}, Rs K ε W l us → Rs K ε W' l us :=
  R.ind .none .bool .int .str (fun _ _ _ e => .obj (h.ρ _ _ e)) .stat (fun _ _ _ i _ r => .tup (h.im i) r) (fun _ _ _ _ i _ r => .fl (h.im i) r) (fun _ _ _ i _ r => .opq (h.im i) r) .any .nil (fun _ _ _ _ _ _ r s => .cons r s) (fun _ _ _ _ _ _ r s => .sq r s)
theorem R.mono (h : W.Le W') {a : AV} {v : Value} (r : R K ε W a v) : R K ε W' a v := (R.monoB h).1 r
theorem Rs.mono (h : W.Le W') {a : List AV} {v : List Value} (r : Rs K ε W a v) : Rs K ε W' a v := (R.monoB h).2 r
theorem Rs.plain_len {vs : List AV} {us : List Value} (hp : plainL vs = true) (h : Rs K ε W vs us) : us.length = vs.length :=
  Rs.ind (P' := fun vs us => plainL vs = true → us.length = vs.length) (fun _ => rfl) (fun _ _ _ _ _ _ ih h => by
    simp only [plainL, Bool.and_eq_true] at h
    rw [List.length_cons, List.length_cons, ih h.2]) (fun _ _ _ _ _ _ _ _ h => by cases h) h hp
theorem Rs.len_le {vs : List AV} {us : List Value} (h : Rs K ε W vs us) : us.length ≤ vs.length * 1000 :=
  Rs.ind (P' := fun vs us => us.length ≤ vs.length * 1000) (Nat.le_refl _) (fun _ _ _ _ _ _ ih => by rw [List.length_cons, List.length_cons, Nat.succ_mul]; exact Nat.add_le_add ih (by decide)) (fun k _ _ _ r _ _ ih => by
    rw [List.length_cons, List.length_append, Nat.succ_mul, Nat.add_comm]
    exact Nat.add_le_add ih ((Rs.plain_len (ε.sq_pl k) r) ▸ ε.sq_le k)) h
theorem Rs.append {vs ws : List AV} {us zs : List Value} (h : Rs K ε W vs us) (h2 : Rs K ε W ws zs) : Rs K ε W (vs ++ ws) (us ++ zs) :=
  Rs.ind (P' := fun vs us => Rs K ε W (vs ++ ws) (us ++ zs)) h2 (fun _ _ _ _ r _ ih => .cons r ih) (fun _ _ _ _ r _ _ ih => by rw [List.append_assoc]; exact .sq r ih) h
theorem Rs.nth {vs : List AV} {us : List Value} {i : Nat} {v : AV} (hp : plainL vs = true) (h : Rs K ε W vs us) (e : nth vs i = some v) : ∃ u, us[i]? = some u ∧ R K ε W v u :=
  Rs.ind (P' := fun vs us => ∀ i, plainL vs = true → Mine.nth vs i = some v → ∃ u, us[i]? = some u ∧ R K ε W v u) (fun _ _ e => by cases e) (fun _ _ _ _ r _ ih i h e => by
    simp only [plainL, Bool.and_eq_true] at h
    cases i with
    | zero => cases e; exact ⟨_, rfl, r⟩
    | succ i => exact ih i h.2 e) (fun _ _ _ _ _ _ _ _ _ h _ => by cases h) h i hp e
theorem Rs.nil_inv {us : List Value} (h : Rs K ε W [] us) : us = [] := by cases h; rfl
theorem Rs.last {vs : List AV} {us : List Value} {v : AV} (h : Rs K ε W vs us) (e : lastOf vs = some v) : ∃ us' u, us = us' ++ [u] ∧ R K ε W v u ∧ Rs K ε W (initOfL vs) us' :=
  Rs.ind (P' := fun vs us => lastOf vs = some v → ∃ us' u, us = us' ++ [u] ∧ R K ε W v u ∧ Rs K ε W (initOfL vs) us') (fun e => nos e) (fun a q x us r s ih e => by
    rcases q with _ | ⟨b, t⟩
    · exact condE (x := none) (y := some a) (b := isSq a) e (fun _ h => nos h) fun _ h => som1 h fun h => mk2_3 [] x (by rw [s.nil_inv]; rfl) (h ▸ r) .nil
    · exact ex2_3 (ih e) fun us' u h0 h1 h2 => mk2_3 (x :: us') u (by rw [h0]; rfl) h1 (.cons r h2)) (fun k q us vs r s _ ih e => by
    rcases q with _ | ⟨b, t⟩
    · exact nos e
    · exact ex2_3 (ih e) fun us' u h0 h1 h2 => mk2_3 (us ++ us') u (by rw [h0, List.append_assoc]) h1 (.sq r h2)) h e
theorem Rs.reverse {vs : List AV} {us : List Value} (hp : plainL vs = true) (h : Rs K ε W vs us) : Rs K ε W vs.reverse us.reverse :=
  Rs.ind (P' := fun vs us => plainL vs = true → Rs K ε W vs.reverse us.reverse) (fun _ => .nil) (fun _ _ _ _ r _ ih h => by
    simp only [plainL, Bool.and_eq_true] at h
    rw [List.reverse_cons, List.reverse_cons]
    exact (ih h.2).append (.cons r .nil)) (fun _ _ _ _ _ _ _ _ h => by cases h) h hp
end
/-! the ledger -/
structure Lg (h₀ : Heap) (L : Addr) (h : Heap) (news : Led) : Prop where
  nw : News h₀ L h news
  nd : (news.map (·.1)).Nodup
section
variable {h₀ h h' : Heap} {L : Addr} {news news' : Led}
theorem Lg.perm (g : Lg h₀ L h news) (p : news.Perm news') : Lg h₀ L h news' :=
  ⟨fun q hq => g.nw q (p.mem_iff.mpr hq), (p.map (·.1)).nodup_iff.mp g.nd⟩
theorem Lg.cons {a : Addr} {o : Obj} (N : News h₀ L h ((a, o) :: news)) (hlt : ∀ p ∈ news, p.1 < a) (nd : (news.map (·.1)).Nodup) : Lg h₀ L h ((a, o) :: news) :=
  ⟨N, by
    rw [List.map_cons, List.nodup_cons]
    refine ⟨fun hm => ?_, nd⟩
    obtain ⟨p, hp, e⟩ := List.mem_map.mp hm
    have := hlt p hp
    rw [e] at this
    exact Nat.lt_irrefl _ this⟩
theorem upd_of {d : Addr} {o o' : Obj} : ∀ {pre post : Led}, ((pre ++ (d, o) :: post).map (·.1)).Nodup → Upd d o o' (pre ++ (d, o) :: post) (pre ++ (d, o') :: post)
  | [], post, h => .head fun p hp e => by
    simp only [List.nil_append, List.map_cons, List.nodup_cons] at h
    exact h.1 (e ▸ List.mem_map_of_mem hp)
  | q :: pre, post, h => .tail (fun e => by
      simp only [List.cons_append, List.map_cons, List.nodup_cons] at h
      exact h.1 (by simp [e])) (upd_of (by simp only [List.cons_append, List.map_cons, List.nodup_cons] at h; exact h.2))
end
end
section
open PySem PySem.W PySem.Calls PyProof.Rows
set_option maxRecDepth 100000
/-! the program's functions, classes and names, as the written heap holds them -/
noncomputable def distinctS : List Str → Bool
  | [] => true
  | x :: r => !hasS r x && distinctS r
noncomputable def noneO {α : Type} (o : Option α) : Bool := Option.casesOn o true fun _ => false
set_option tactic.hygienic false in
noncomputable def isFnK (k : ScopeKind) : Bool := by induction k using ScopeKind.casesOn with
  | function => exact true
  | _ => exact false
set_option tactic.hygienic false in
noncomputable def noCell (k : NameKind) : Bool := by induction k using NameKind.casesOn with
  | cell => exact false
  | _ => exact true
noncomputable def scOk (ar : Arguments) (sc : Scope) : Bool := noneO (sc.names.lookup (Str.ofString "__debug__")) && (distinctS (ar.args.map (·.arg)) && (!sc.isCoroutine && (!sc.isGenerator && (isFnK sc.kind && (sc.names.all (fun x => noCell x.2) && ar.args.all (fun a => isLoc sc a.arg))))))
noncomputable def scChk (d : Option Stmt) : Bool := Option.casesOn (bo d funD) false fun q => scOk q.2.1 q.2.2.2
noncomputable def parsOf (d : Option Stmt) : List Str := Option.casesOn (bo d funD) [] fun q => q.2.1.args.map (·.arg)
noncomputable def bindsV (ps : List Str) (us : List Value) (d : Option Value) : Option (List (Str × Value)) :=
  if Nat.beq ps.length us.length then some (ps.zip us)
  else if Nat.beq ps.length (us.length + 1) then match d with
    | some v => some (ps.zip (us ++ [v]))
    | none => none
  else none
inductive FnAt (K : Frag) (f : Addr) (d : Option Stmt) (dv : Option Value) : Prop
  | mk (qual : String) (pm : Value) (cd : Addr) (dV : Value) (h1 : K.lookup f = some (fO d qual pm (.ref cd) dV)) (h2 : codeIn K (.ref cd) (Str.ofString qual) = true) (h3 : scChk d = true) (h4 : keepIn K (.ref f) = true)
    (h5 : ∀ (s : Shared) (us : List Value) (binds : List (Str × Value)), K.In s.heap → bindsV (parsOf d) us dv = some binds → BindsTo s (fD d qual pm (.ref cd) dV) ⟨us, []⟩ binds)
inductive dRel : Option AV → Option Value → Prop
  | none : dRel none none
  | nn : dRel (some .none) (some .none)
  | bb : dRel (some (.bool true)) (some (.bool true))
section
variable {K : Frag} {fd : FuncData} {ps : List Str} {p1 p2 p3 p4 p5 : Str}
theorem bnd0 (hp : ps = []) (h : bindArgs fd ⟨[], []⟩ = pure []) (s : Shared) (us : List Value) (binds : List (Str × Value)) (_ : K.In s.heap) (e : bindsV ps us none = some binds) : BindsTo s fd ⟨us, []⟩ binds := by
  subst hp
  rcases us with _ | ⟨a, r⟩
  · rw [← Option.some.inj e]; exact .of_eq h
  · exact nos e
theorem bnd1 (hp : ps = [p1]) (h : ∀ a, bindArgs fd ⟨[a], []⟩ = pure [(p1, a)]) (s : Shared) (us : List Value) (binds : List (Str × Value)) (_ : K.In s.heap) (e : bindsV ps us none = some binds) : BindsTo s fd ⟨us, []⟩ binds := by
  subst hp
  rcases us with _ | ⟨a, _ | ⟨b, r⟩⟩
  · exact nos e
  · rw [← Option.some.inj e]; exact .of_eq (h a)
  · exact nos e
theorem bnd2 (hp : ps = [p1, p2]) (h : ∀ a b, bindArgs fd ⟨[a, b], []⟩ = pure [(p1, a), (p2, b)]) (s : Shared) (us : List Value) (binds : List (Str × Value)) (_ : K.In s.heap) (e : bindsV ps us none = some binds) : BindsTo s fd ⟨us, []⟩ binds := by
  subst hp
  rcases us with _ | ⟨a, _ | ⟨b, _ | ⟨c, r⟩⟩⟩
  · exact nos e
  · exact nos e
  · rw [← Option.some.inj e]; exact .of_eq (h a b)
  · exact nos e
theorem bnd3 (hp : ps = [p1, p2, p3]) (h : ∀ a b c, bindArgs fd ⟨[a, b, c], []⟩ = pure [(p1, a), (p2, b), (p3, c)]) (s : Shared) (us : List Value) (binds : List (Str × Value)) (_ : K.In s.heap) (e : bindsV ps us none = some binds) : BindsTo s fd ⟨us, []⟩ binds := by
  subst hp
  rcases us with _ | ⟨a, _ | ⟨b, _ | ⟨c, _ | ⟨d, r⟩⟩⟩⟩
  · exact nos e
  · exact nos e
  · exact nos e
  · rw [← Option.some.inj e]; exact .of_eq (h a b c)
  · exact nos e
theorem bnd4 (hp : ps = [p1, p2, p3, p4]) (h : ∀ a b c d, bindArgs fd ⟨[a, b, c, d], []⟩ = pure [(p1, a), (p2, b), (p3, c), (p4, d)]) (s : Shared) (us : List Value) (binds : List (Str × Value)) (_ : K.In s.heap) (e : bindsV ps us none = some binds) : BindsTo s fd ⟨us, []⟩ binds := by
  subst hp
  rcases us with _ | ⟨a, _ | ⟨b, _ | ⟨c, _ | ⟨d, _ | ⟨e', r⟩⟩⟩⟩⟩
  · exact nos e
  · exact nos e
  · exact nos e
  · exact nos e
  · rw [← Option.some.inj e]; exact .of_eq (h a b c d)
  · exact nos e
theorem bnd5 (hp : ps = [p1, p2, p3, p4, p5]) (h : ∀ a b c d e, bindArgs fd ⟨[a, b, c, d, e], []⟩ = pure [(p1, a), (p2, b), (p3, c), (p4, d), (p5, e)]) (s : Shared) (us : List Value) (binds : List (Str × Value)) (_ : K.In s.heap) (e : bindsV ps us none = some binds) : BindsTo s fd ⟨us, []⟩ binds := by
  subst hp
  rcases us with _ | ⟨a, _ | ⟨b, _ | ⟨c, _ | ⟨d, _ | ⟨e', _ | ⟨f, r⟩⟩⟩⟩⟩⟩
  · exact nos e
  · exact nos e
  · exact nos e
  · exact nos e
  · exact nos e
  · rw [← Option.some.inj e]; exact .of_eq (h a b c d e')
  · exact nos e
end
theorem bndD_195 (P : Params) (s : Shared) (us : List Value) (binds : List (Str × Value)) (X : (K0 P).In s.heap) (e : bindsV (parsOf (sAt 20)) us (some .none) = some binds) : BindsTo s (fD (sAt 20) "list_term" (.str "clausemill.terms" 392) (.ref 194) (.ref 188)) ⟨us, []⟩ binds := by
  have hp : parsOf (sAt 20) = [Str.ofString "items", Str.ofString "tail"] := by kernel_rfl
  rw [hp] at e
  rcases us with _ | ⟨a, _ | ⟨b, _ | ⟨c, r⟩⟩⟩
  · exact nos e
  · rw [← Option.some.inj e]; exact binds_K (T := 188) (o := tO [.none]) (items := #[.none]) (n := 0) X (by kernel_rfl) (by kernel_rfl) (by kernel_rfl) (by with_unfolding_all rfl) (by kernel_rfl)
  · rw [← Option.some.inj e]; exact binds_K (T := 188) (o := tO [.none]) (items := #[.none]) (n := 0) X (by kernel_rfl) (by kernel_rfl) (by kernel_rfl) (by with_unfolding_all rfl) (by kernel_rfl)
  · exact nos e
theorem bndD_234 (P : Params) (s : Shared) (us : List Value) (binds : List (Str × Value)) (X : (K0 P).In s.heap) (e : bindsV (parsOf (mAt 29 0)) us (some (.bool true)) = some binds) : BindsTo s (fD (mAt 29 0) "OperatorTable.__init__" (.str "clausemill.operators" 435) (.ref 233) (.ref 227)) ⟨us, []⟩ binds := by
  have hp : parsOf (mAt 29 0) = [Str.ofString "self", Str.ofString "symbols", Str.ofString "standard"] := by kernel_rfl
  rw [hp] at e
  rcases us with _ | ⟨a, _ | ⟨b, _ | ⟨c, _ | ⟨d, r⟩⟩⟩⟩
  · exact nos e
  · exact nos e
  · rw [← Option.some.inj e]; exact binds_K (T := 227) (o := tO [.bool true]) (items := #[.bool true]) (n := 0) X (by kernel_rfl) (by kernel_rfl) (by kernel_rfl) (by with_unfolding_all rfl) (by kernel_rfl)
  · rw [← Option.some.inj e]; exact binds_K (T := 227) (o := tO [.bool true]) (items := #[.bool true]) (n := 0) X (by kernel_rfl) (by kernel_rfl) (by kernel_rfl) (by with_unfolding_all rfl) (by kernel_rfl)
  · exact nos e
theorem fn_60 (P : Params) : FnAt (K0 P) 60 (sAt 11) none :=
  ⟨"fixed_atoms", (.str "clausemill.symbols" 194), 59, (.none), by kernel_rfl, by kernel_rfl, by kernel_rfl, by kernel_rfl, bnd0 (by kernel_rfl) (by kernel_rfl)⟩
theorem fn_67 (P : Params) : FnAt (K0 P) 67 (sAt 12) none :=
  ⟨"fixed_functors", (.str "clausemill.symbols" 194), 66, (.none), by kernel_rfl, by kernel_rfl, by kernel_rfl, by kernel_rfl, bnd0 (by kernel_rfl) (by kernel_rfl)⟩
theorem fn_81 (P : Params) : FnAt (K0 P) 81 (mAt 13 0) none :=
  ⟨"Symbols.__init__", (.str "clausemill.symbols" 194), 80, (.none), by kernel_rfl, by kernel_rfl, by kernel_rfl, by kernel_rfl, bnd1 (p1 := Str.ofString "self") (by kernel_rfl) (fun a => by kernel_rfl)⟩
theorem fn_88 (P : Params) : FnAt (K0 P) 88 (mAt 13 1) none :=
  ⟨"Symbols.atom", (.str "clausemill.symbols" 194), 87, (.none), by kernel_rfl, by kernel_rfl, by kernel_rfl, by kernel_rfl, bnd2 (p1 := Str.ofString "self") (p2 := Str.ofString "text") (by kernel_rfl) (fun a b => by kernel_rfl)⟩
theorem fn_102 (P : Params) : FnAt (K0 P) 102 (mAt 13 3) none :=
  ⟨"Symbols.functor", (.str "clausemill.symbols" 194), 101, (.none), by kernel_rfl, by kernel_rfl, by kernel_rfl, by kernel_rfl, bnd3 (p1 := Str.ofString "self") (p2 := Str.ofString "atom") (p3 := Str.ofString "arity") (by kernel_rfl) (fun a b c => by kernel_rfl)⟩
theorem fn_109 (P : Params) : FnAt (K0 P) 109 (mAt 13 4) none :=
  ⟨"Symbols.func", (.str "clausemill.symbols" 194), 108, (.none), by kernel_rfl, by kernel_rfl, by kernel_rfl, by kernel_rfl, bnd3 (p1 := Str.ofString "self") (p2 := Str.ofString "text") (p3 := Str.ofString "arity") (by kernel_rfl) (fun a b c => by kernel_rfl)⟩
theorem fn_116 (P : Params) : FnAt (K0 P) 116 (mAt 13 5) none :=
  ⟨"Symbols.name", (.str "clausemill.symbols" 194), 115, (.none), by kernel_rfl, by kernel_rfl, by kernel_rfl, by kernel_rfl, bnd2 (p1 := Str.ofString "self") (p2 := Str.ofString "functor") (by kernel_rfl) (fun a b => by kernel_rfl)⟩
theorem fn_123 (P : Params) : FnAt (K0 P) 123 (mAt 13 6) none :=
  ⟨"Symbols.arity", (.str "clausemill.symbols" 194), 122, (.none), by kernel_rfl, by kernel_rfl, by kernel_rfl, by kernel_rfl, bnd2 (p1 := Str.ofString "self") (p2 := Str.ofString "functor") (by kernel_rfl) (fun a b => by kernel_rfl)⟩
theorem fn_166 (P : Params) : FnAt (K0 P) 166 (sAt 16) none :=
  ⟨"var", (.str "clausemill.terms" 392), 165, (.none), by kernel_rfl, by kernel_rfl, by kernel_rfl, by kernel_rfl, bnd1 (p1 := Str.ofString "number") (by kernel_rfl) (fun a => by kernel_rfl)⟩
theorem fn_173 (P : Params) : FnAt (K0 P) 173 (sAt 17) none :=
  ⟨"atom", (.str "clausemill.terms" 392), 172, (.none), by kernel_rfl, by kernel_rfl, by kernel_rfl, by kernel_rfl, bnd1 (p1 := Str.ofString "number") (by kernel_rfl) (fun a => by kernel_rfl)⟩
theorem fn_180 (P : Params) : FnAt (K0 P) 180 (sAt 18) none :=
  ⟨"integer", (.str "clausemill.terms" 392), 179, (.none), by kernel_rfl, by kernel_rfl, by kernel_rfl, by kernel_rfl, bnd1 (p1 := Str.ofString "whole") (by kernel_rfl) (fun a => by kernel_rfl)⟩
theorem fn_187 (P : Params) : FnAt (K0 P) 187 (sAt 19) none :=
  ⟨"struct", (.str "clausemill.terms" 392), 186, (.none), by kernel_rfl, by kernel_rfl, by kernel_rfl, by kernel_rfl, bnd2 (p1 := Str.ofString "functor") (p2 := Str.ofString "args") (by kernel_rfl) (fun a b => by kernel_rfl)⟩
theorem fn_195 (P : Params) : FnAt (K0 P) 195 (sAt 20) (some .none) :=
  ⟨"list_term", (.str "clausemill.terms" 392), 194, (.ref 188), by kernel_rfl, by kernel_rfl, by kernel_rfl, by kernel_rfl, bndD_195 P⟩
theorem fn_205 (P : Params) : FnAt (K0 P) 205 (sAt 26) none :=
  ⟨"standard_rows", (.str "clausemill.operators" 435), 204, (.none), by kernel_rfl, by kernel_rfl, by kernel_rfl, by kernel_rfl, bnd0 (by kernel_rfl) (by kernel_rfl)⟩
theorem fn_212 (P : Params) : FnAt (K0 P) 212 (sAt 27) none :=
  ⟨"fixity", (.str "clausemill.operators" 435), 211, (.none), by kernel_rfl, by kernel_rfl, by kernel_rfl, by kernel_rfl, bnd1 (p1 := Str.ofString "type_text") (by kernel_rfl) (fun a => by kernel_rfl)⟩
theorem fn_219 (P : Params) : FnAt (K0 P) 219 (sAt 28) none :=
  ⟨"bounds", (.str "clausemill.operators" 435), 218, (.none), by kernel_rfl, by kernel_rfl, by kernel_rfl, by kernel_rfl, bnd2 (p1 := Str.ofString "priority") (p2 := Str.ofString "type_text") (by kernel_rfl) (fun a b => by kernel_rfl)⟩
theorem fn_234 (P : Params) : FnAt (K0 P) 234 (mAt 29 0) (some (.bool true)) :=
  ⟨"OperatorTable.__init__", (.str "clausemill.operators" 435), 233, (.ref 227), by kernel_rfl, by kernel_rfl, by kernel_rfl, by kernel_rfl, bndD_234 P⟩
theorem fn_241 (P : Params) : FnAt (K0 P) 241 (mAt 29 1) none :=
  ⟨"OperatorTable.prefix", (.str "clausemill.operators" 435), 240, (.none), by kernel_rfl, by kernel_rfl, by kernel_rfl, by kernel_rfl, bnd2 (p1 := Str.ofString "self") (p2 := Str.ofString "a") (by kernel_rfl) (fun a b => by kernel_rfl)⟩
theorem fn_248 (P : Params) : FnAt (K0 P) 248 (mAt 29 2) none :=
  ⟨"OperatorTable.infix", (.str "clausemill.operators" 435), 247, (.none), by kernel_rfl, by kernel_rfl, by kernel_rfl, by kernel_rfl, bnd2 (p1 := Str.ofString "self") (p2 := Str.ofString "a") (by kernel_rfl) (fun a b => by kernel_rfl)⟩
theorem fn_255 (P : Params) : FnAt (K0 P) 255 (mAt 29 3) none :=
  ⟨"OperatorTable.postfix", (.str "clausemill.operators" 435), 254, (.none), by kernel_rfl, by kernel_rfl, by kernel_rfl, by kernel_rfl, bnd2 (p1 := Str.ofString "self") (p2 := Str.ofString "a") (by kernel_rfl) (fun a b => by kernel_rfl)⟩
theorem fn_262 (P : Params) : FnAt (K0 P) 262 (mAt 29 4) none :=
  ⟨"OperatorTable.is_operator", (.str "clausemill.operators" 435), 261, (.none), by kernel_rfl, by kernel_rfl, by kernel_rfl, by kernel_rfl, bnd2 (p1 := Str.ofString "self") (p2 := Str.ofString "a") (by kernel_rfl) (fun a b => by kernel_rfl)⟩
theorem fn_269 (P : Params) : FnAt (K0 P) 269 (mAt 29 5) none :=
  ⟨"OperatorTable.table_of", (.str "clausemill.operators" 435), 268, (.none), by kernel_rfl, by kernel_rfl, by kernel_rfl, by kernel_rfl, bnd2 (p1 := Str.ofString "self") (p2 := Str.ofString "type_text") (by kernel_rfl) (fun a b => by kernel_rfl)⟩
theorem fn_276 (P : Params) : FnAt (K0 P) 276 (mAt 29 6) none :=
  ⟨"OperatorTable.add", (.str "clausemill.operators" 435), 275, (.none), by kernel_rfl, by kernel_rfl, by kernel_rfl, by kernel_rfl, bnd4 (p1 := Str.ofString "self") (p2 := Str.ofString "priority") (p3 := Str.ofString "type_text") (p4 := Str.ofString "a") (by kernel_rfl) (fun a b c d => by kernel_rfl)⟩
theorem fn_306 (P : Params) : FnAt (K0 P) 306 (mAt 38 0) none :=
  ⟨"Frame.__init__", (.str "clausemill.parser" 571), 305, (.none), by kernel_rfl, by kernel_rfl, by kernel_rfl, by kernel_rfl, bnd3 (p1 := Str.ofString "self") (p2 := Str.ofString "kind") (p3 := Str.ofString "limit") (by kernel_rfl) (fun a b c => by kernel_rfl)⟩
theorem fn_320 (P : Params) : FnAt (K0 P) 320 (sAt 39) none :=
  ⟨"ends_operand", (.str "clausemill.parser" 571), 319, (.none), by kernel_rfl, by kernel_rfl, by kernel_rfl, by kernel_rfl, bnd1 (p1 := Str.ofString "token") (by kernel_rfl) (fun a => by kernel_rfl)⟩
theorem fn_327 (P : Params) : FnAt (K0 P) 327 (sAt 40) none :=
  ⟨"closes", (.str "clausemill.parser" 571), 326, (.none), by kernel_rfl, by kernel_rfl, by kernel_rfl, by kernel_rfl, bnd1 (p1 := Str.ofString "token") (by kernel_rfl) (fun a => by kernel_rfl)⟩
theorem fn_334 (P : Params) : FnAt (K0 P) 334 (sAt 41) none :=
  ⟨"is_punct", (.str "clausemill.parser" 571), 333, (.none), by kernel_rfl, by kernel_rfl, by kernel_rfl, by kernel_rfl, bnd2 (p1 := Str.ofString "token") (p2 := Str.ofString "text") (by kernel_rfl) (fun a b => by kernel_rfl)⟩
theorem fn_348 (P : Params) : FnAt (K0 P) 348 (mAt 42 0) none :=
  ⟨"Parser.__init__", (.str "clausemill.parser" 571), 347, (.none), by kernel_rfl, by kernel_rfl, by kernel_rfl, by kernel_rfl, bnd5 (p1 := Str.ofString "self") (p2 := Str.ofString "symbols") (p3 := Str.ofString "operators") (p4 := Str.ofString "mode") (p5 := Str.ofString "tokens") (by kernel_rfl) (fun a b c d e => by kernel_rfl)⟩
theorem fn_355 (P : Params) : FnAt (K0 P) 355 (mAt 42 1) none :=
  ⟨"Parser.clause", (.str "clausemill.parser" 571), 354, (.none), by kernel_rfl, by kernel_rfl, by kernel_rfl, by kernel_rfl, bnd1 (p1 := Str.ofString "self") (by kernel_rfl) (fun a => by kernel_rfl)⟩
theorem fn_369 (P : Params) : FnAt (K0 P) 369 (mAt 42 3) none :=
  ⟨"Parser.peek", (.str "clausemill.parser" 571), 368, (.none), by kernel_rfl, by kernel_rfl, by kernel_rfl, by kernel_rfl, bnd1 (p1 := Str.ofString "self") (by kernel_rfl) (fun a => by kernel_rfl)⟩
theorem fn_376 (P : Params) : FnAt (K0 P) 376 (mAt 42 4) none :=
  ⟨"Parser.take", (.str "clausemill.parser" 571), 375, (.none), by kernel_rfl, by kernel_rfl, by kernel_rfl, by kernel_rfl, bnd1 (p1 := Str.ofString "self") (by kernel_rfl) (fun a => by kernel_rfl)⟩
theorem fn_383 (P : Params) : FnAt (K0 P) 383 (mAt 42 5) none :=
  ⟨"Parser.fault", (.str "clausemill.parser" 571), 382, (.none), by kernel_rfl, by kernel_rfl, by kernel_rfl, by kernel_rfl, bnd3 (p1 := Str.ofString "self") (p2 := Str.ofString "kind") (p3 := Str.ofString "token") (by kernel_rfl) (fun a b c => by kernel_rfl)⟩
theorem fn_390 (P : Params) : FnAt (K0 P) 390 (mAt 42 6) none :=
  ⟨"Parser.misplaced", (.str "clausemill.parser" 571), 389, (.none), by kernel_rfl, by kernel_rfl, by kernel_rfl, by kernel_rfl, bnd3 (p1 := Str.ofString "self") (p2 := Str.ofString "token") (p3 := Str.ofString "otherwise") (by kernel_rfl) (fun a b c => by kernel_rfl)⟩
theorem fn_397 (P : Params) : FnAt (K0 P) 397 (mAt 42 7) none :=
  ⟨"Parser.parse", (.str "clausemill.parser" 571), 396, (.none), by kernel_rfl, by kernel_rfl, by kernel_rfl, by kernel_rfl, bnd2 (p1 := Str.ofString "self") (p2 := Str.ofString "most") (by kernel_rfl) (fun a b => by kernel_rfl)⟩
theorem fn_404 (P : Params) : FnAt (K0 P) 404 (mAt 42 8) none :=
  ⟨"Parser.settle", (.str "clausemill.parser" 571), 403, (.none), by kernel_rfl, by kernel_rfl, by kernel_rfl, by kernel_rfl, bnd3 (p1 := Str.ofString "self") (p2 := Str.ofString "term") (p3 := Str.ofString "priority") (by kernel_rfl) (fun a b c => by kernel_rfl)⟩
theorem fn_411 (P : Params) : FnAt (K0 P) 411 (mAt 42 9) none :=
  ⟨"Parser.enter", (.str "clausemill.parser" 571), 410, (.none), by kernel_rfl, by kernel_rfl, by kernel_rfl, by kernel_rfl, bnd4 (p1 := Str.ofString "self") (p2 := Str.ofString "kind") (p3 := Str.ofString "name") (p4 := Str.ofString "most") (by kernel_rfl) (fun a b c d => by kernel_rfl)⟩
theorem fn_418 (P : Params) : FnAt (K0 P) 418 (mAt 42 10) none :=
  ⟨"Parser.operand", (.str "clausemill.parser" 571), 417, (.none), by kernel_rfl, by kernel_rfl, by kernel_rfl, by kernel_rfl, bnd1 (p1 := Str.ofString "self") (by kernel_rfl) (fun a => by kernel_rfl)⟩
theorem fn_425 (P : Params) : FnAt (K0 P) 425 (mAt 42 11) none :=
  ⟨"Parser.named", (.str "clausemill.parser" 571), 424, (.none), by kernel_rfl, by kernel_rfl, by kernel_rfl, by kernel_rfl, bnd3 (p1 := Str.ofString "self") (p2 := Str.ofString "a") (p3 := Str.ofString "token") (by kernel_rfl) (fun a b c => by kernel_rfl)⟩
theorem fn_432 (P : Params) : FnAt (K0 P) 432 (mAt 42 12) none :=
  ⟨"Parser.operator_operand", (.str "clausemill.parser" 571), 431, (.none), by kernel_rfl, by kernel_rfl, by kernel_rfl, by kernel_rfl, bnd3 (p1 := Str.ofString "self") (p2 := Str.ofString "a") (p3 := Str.ofString "token") (by kernel_rfl) (fun a b c => by kernel_rfl)⟩
theorem fn_439 (P : Params) : FnAt (K0 P) 439 (mAt 42 13) none :=
  ⟨"Parser.stands_alone", (.str "clausemill.parser" 571), 438, (.none), by kernel_rfl, by kernel_rfl, by kernel_rfl, by kernel_rfl, bnd1 (p1 := Str.ofString "self") (by kernel_rfl) (fun a => by kernel_rfl)⟩
theorem fn_446 (P : Params) : FnAt (K0 P) 446 (mAt 42 14) none :=
  ⟨"Parser.variable", (.str "clausemill.parser" 571), 445, (.none), by kernel_rfl, by kernel_rfl, by kernel_rfl, by kernel_rfl, bnd2 (p1 := Str.ofString "self") (p2 := Str.ofString "text") (by kernel_rfl) (fun a b => by kernel_rfl)⟩
theorem fn_458 (P : Params) : FnAt (K0 P) 458 (mAt 42 16) none :=
  ⟨"Parser.operator_name", (.str "clausemill.parser" 571), 457, (.none), by kernel_rfl, by kernel_rfl, by kernel_rfl, by kernel_rfl, bnd2 (p1 := Str.ofString "self") (p2 := Str.ofString "token") (by kernel_rfl) (fun a b => by kernel_rfl)⟩
theorem fn_465 (P : Params) : FnAt (K0 P) 465 (mAt 42 17) none :=
  ⟨"Parser.operator", (.str "clausemill.parser" 571), 464, (.none), by kernel_rfl, by kernel_rfl, by kernel_rfl, by kernel_rfl, bnd1 (p1 := Str.ofString "self") (by kernel_rfl) (fun a => by kernel_rfl)⟩
theorem fn_472 (P : Params) : FnAt (K0 P) 472 (mAt 42 18) none :=
  ⟨"Parser.admits", (.str "clausemill.parser" 571), 471, (.none), by kernel_rfl, by kernel_rfl, by kernel_rfl, by kernel_rfl, bnd2 (p1 := Str.ofString "self") (p2 := Str.ofString "entry") (by kernel_rfl) (fun a b => by kernel_rfl)⟩
theorem fn_479 (P : Params) : FnAt (K0 P) 479 (mAt 42 19) none :=
  ⟨"Parser.shift_infix", (.str "clausemill.parser" 571), 478, (.none), by kernel_rfl, by kernel_rfl, by kernel_rfl, by kernel_rfl, bnd2 (p1 := Str.ofString "self") (p2 := Str.ofString "a") (by kernel_rfl) (fun a b => by kernel_rfl)⟩
theorem fn_486 (P : Params) : FnAt (K0 P) 486 (mAt 42 20) none :=
  ⟨"Parser.apply_postfix", (.str "clausemill.parser" 571), 485, (.none), by kernel_rfl, by kernel_rfl, by kernel_rfl, by kernel_rfl, bnd2 (p1 := Str.ofString "self") (p2 := Str.ofString "a") (by kernel_rfl) (fun a b => by kernel_rfl)⟩
theorem fn_493 (P : Params) : FnAt (K0 P) 493 (mAt 42 21) none :=
  ⟨"Parser.reduce", (.str "clausemill.parser" 571), 492, (.none), by kernel_rfl, by kernel_rfl, by kernel_rfl, by kernel_rfl, bnd1 (p1 := Str.ofString "self") (by kernel_rfl) (fun a => by kernel_rfl)⟩
theorem fn_500 (P : Params) : FnAt (K0 P) 500 (mAt 42 22) none :=
  ⟨"Parser.close", (.str "clausemill.parser" 571), 499, (.none), by kernel_rfl, by kernel_rfl, by kernel_rfl, by kernel_rfl, bnd2 (p1 := Str.ofString "self") (p2 := Str.ofString "token") (by kernel_rfl) (fun a b => by kernel_rfl)⟩
theorem fn_507 (P : Params) : FnAt (K0 P) 507 (mAt 42 23) none :=
  ⟨"Parser.separated", (.str "clausemill.parser" 571), 506, (.none), by kernel_rfl, by kernel_rfl, by kernel_rfl, by kernel_rfl, bnd2 (p1 := Str.ofString "self") (p2 := Str.ofString "kind") (by kernel_rfl) (fun a b => by kernel_rfl)⟩
theorem fn_514 (P : Params) : FnAt (K0 P) 514 (mAt 42 24) none :=
  ⟨"Parser.closed", (.str "clausemill.parser" 571), 513, (.none), by kernel_rfl, by kernel_rfl, by kernel_rfl, by kernel_rfl, bnd2 (p1 := Str.ofString "self") (p2 := Str.ofString "term") (by kernel_rfl) (fun a b => by kernel_rfl)⟩
theorem fn_535 (P : Params) : FnAt (K0 P) 535 (sAt 45) none :=
  ⟨"_law_leaf", (.str "law_sa0156_01" 904), 534, (.none), by kernel_rfl, by kernel_rfl, by kernel_rfl, by kernel_rfl, bnd2 (p1 := Str.ofString "book") (p2 := Str.ofString "figure") (by kernel_rfl) (fun a b => by kernel_rfl)⟩
theorem fn_542 (P : Params) : FnAt (K0 P) 542 (sAt 46) none :=
  ⟨"_law_alone", (.str "law_sa0156_01" 904), 541, (.none), by kernel_rfl, by kernel_rfl, by kernel_rfl, by kernel_rfl, bnd4 (p1 := Str.ofString "book") (p2 := Str.ofString "figure") (p3 := Str.ofString "row") (p4 := Str.ofString "term") (by kernel_rfl) (fun a b c d => by kernel_rfl)⟩
theorem fn_549 (P : Params) : FnAt (K0 P) 549 (sAt 47) none :=
  ⟨"_law_both", (.str "law_sa0156_01" 904), 548, (.none), by kernel_rfl, by kernel_rfl, by kernel_rfl, by kernel_rfl, bnd4 (p1 := Str.ofString "book") (p2 := Str.ofString "figure") (p3 := Str.ofString "one") (p4 := Str.ofString "other") (by kernel_rfl) (fun a b c d => by kernel_rfl)⟩
theorem fm {α : Type} {p : α → Prop} {a : α} {l : List α} (h : p a) (hl : ∀ e ∈ l, p e) : ∀ e ∈ a :: l, p e := List.forall_mem_cons.mpr ⟨h, hl⟩
noncomputable def FnR (P : Params) (e : Addr × Option Stmt × Option AV) : Prop := ∃ dv, FnAt (K0 P) e.1 e.2.1 dv ∧ dRel e.2.2 dv
theorem fr {P : Params} {e : Addr × Option Stmt × Option AV} {dv : Option Value} (h : FnAt (K0 P) e.1 e.2.1 dv) (r : dRel e.2.2 dv) : FnR P e := ⟨dv, h, r⟩
theorem fnAll (P : Params) : ∀ e ∈ ftab, FnR P e :=
  fm (fr (fn_60 P) .none) (fm (fr (fn_67 P) .none) (fm (fr (fn_81 P) .none) (fm (fr (fn_88 P) .none) (fm (fr (fn_102 P) .none) (fm (fr (fn_109 P) .none) (fm (fr (fn_116 P) .none) (fm (fr (fn_123 P) .none) (fm (fr (fn_166 P) .none) (fm (fr (fn_173 P) .none) (fm (fr (fn_180 P) .none) (fm (fr (fn_187 P) .none) (fm (fr (fn_195 P) .nn) (fm (fr (fn_205 P) .none) (fm (fr (fn_212 P) .none) (fm (fr (fn_219 P) .none) (fm (fr (fn_234 P) .bb) (fm (fr (fn_241 P) .none) (fm (fr (fn_248 P) .none) (fm (fr (fn_255 P) .none) (fm (fr (fn_262 P) .none) (fm (fr (fn_269 P) .none) (fm (fr (fn_276 P) .none) (fm (fr (fn_306 P) .none) (fm (fr (fn_320 P) .none) (fm (fr (fn_327 P) .none) (fm (fr (fn_334 P) .none) (fm (fr (fn_348 P) .none) (fm (fr (fn_355 P) .none) (fm (fr (fn_369 P) .none) (fm (fr (fn_376 P) .none) (fm (fr (fn_383 P) .none) (fm (fr (fn_390 P) .none) (fm (fr (fn_397 P) .none) (fm (fr (fn_404 P) .none) (fm (fr (fn_411 P) .none) (fm (fr (fn_418 P) .none) (fm (fr (fn_425 P) .none) (fm (fr (fn_432 P) .none) (fm (fr (fn_439 P) .none) (fm (fr (fn_446 P) .none) (fm (fr (fn_458 P) .none) (fm (fr (fn_465 P) .none) (fm (fr (fn_472 P) .none) (fm (fr (fn_479 P) .none) (fm (fr (fn_486 P) .none) (fm (fr (fn_493 P) .none) (fm (fr (fn_500 P) .none) (fm (fr (fn_507 P) .none) (fm (fr (fn_514 P) .none) (fm (fr (fn_535 P) .none) (fm (fr (fn_542 P) .none) (fm (fr (fn_549 P) .none) fun _ h => nomatch h))))))))))))))))))))))))))))))))))))))))))))))))))))
theorem lB_eq {a : List Nat} : ∀ {b : List Nat}, lB a b = true → a = b := by
  induction a with
  | nil =>
    intro b h
    rcases b with _ | _
    · rfl
    · exact bnf h
  | cons x a ih =>
    intro b h
    rcases b with _ | ⟨y, b⟩
    · exact bnf h
    · exact andE h fun h1 h2 => congr (congrArg List.cons (Nat.eq_of_beq_eq_true h1)) (ih h2)
theorem lB_self (a : List Nat) : lB a a = true := by
  induction a with
  | nil => rfl
  | cons x a ih => exact Bool.and_eq_true_iff.mpr ⟨Nat.beq_refl x, ih⟩
theorem sB_eq {a b : Str} (h : sB a b = true) : a = b := by
  rcases a with ⟨a⟩; rcases b with ⟨b⟩
  exact congrArg Str.mk (Array.toList_inj.mp (lB_eq h))
theorem sB_self (a : Str) : sB a a = true := lB_self _
theorem sB_ne {a b : Str} (h : sB a b = false) : a ≠ b := fun e => bnt ((sB_self b).symm.trans (e ▸ h))
theorem iB_eq {a b : Int} (h : iB a b = true) : a = b := by
  rcases a with a | a <;> rcases b with b | b <;> first | exact bnf h | exact congrArg _ (Nat.eq_of_beq_eq_true h)
theorem iB_self (a : Int) : iB a a = true := by rcases a with a | a <;> exact Nat.beq_refl a
theorem iB_ne {a b : Int} (h : iB a b = false) : a ≠ b := fun e => bnt ((iB_self b).symm.trans (e ▸ h))
theorem iteE {α : Type} {c : Bool} {x y r : α} {p : Prop} (h : (if c = true then x else y) = r) (k : c = true → x = r → p) (k' : c = false → y = r → p) : p := by
  induction c with
  | false => exact k' rfl h
  | true => exact k rfl h
theorem look_mem {α : Type} {x : Str} {v : α} {l : List (Str × α)} : look l x = some v → (x, v) ∈ l := by
  induction l with
  | nil => exact fun h => nos h
  | cons q r ih => exact fun h => iteE (x := some q.2) (y := look r x) h (fun z h => by rw [← sB_eq z, ← Option.some.inj h]; exact .head _) fun _ h => .tail _ (ih h)
theorem lookN_mem {α : Type} {x : Nat} {v : α} {l : List (Nat × α)} : lookN l x = some v → (x, v) ∈ l := by
  induction l with
  | nil => exact fun h => nos h
  | cons q r ih => exact fun h => iteE (x := some q.2) (y := lookN r x) h (fun z h => by rw [← Nat.eq_of_beq_eq_true z, ← Option.some.inj h]; exact .head _) fun _ h => .tail _ (ih h)
theorem hasS_mem {x : Str} {l : List Str} : hasS l x = true → x ∈ l := by
  induction l with
  | nil => exact fun h => bnf h
  | cons y r ih => exact fun h => (Bool.or_eq_true_iff.mp h).elim (fun h => sB_eq h ▸ .head _) fun h => .tail _ (ih h)
noncomputable def GAt (P : Params) (x : Str) (v : AV) : Prop := ∃ u, nsIn (K0 P) mainGlobals x = some (some u) ∧ (x == ("__debug__" : Str)) = false ∧ ∀ ε W, R (K0 P) ε W v u
noncomputable def GR (P : Params) (e : Str × AV) : Prop := GAt P e.1 e.2
theorem gm {P : Params} {e : Str × AV} (u : Value) (h1 : nsIn (K0 P) mainGlobals e.1 = some (some u)) (h2 : (e.1 == ("__debug__" : Str)) = false) (h3 : ∀ ε W, R (K0 P) ε W e.2 u) : GR P e := ⟨u, h1, h2, h3⟩
theorem gAll (P : Params) : ∀ e ∈ gtab, GR P e :=
  fm (gm (.int (0) 247) (by kernel_rfl) (by kernel_rfl) fun _ _ => (.int (.lit 0) _)) (fm (gm (.int (2) 249) (by kernel_rfl) (by kernel_rfl) fun _ _ => (.int (.lit 2) _)) (fm (gm (.int (7) 251) (by kernel_rfl) (by kernel_rfl) fun _ _ => (.int (.lit 7) _)) (fm (gm (.int (8) 253) (by kernel_rfl) (by kernel_rfl) fun _ _ => (.int (.lit 8) _)) (fm (gm (.int (0) 255) (by kernel_rfl) (by kernel_rfl) fun _ _ => (.int (.lit 0) _)) (fm (gm (.int (1) 257) (by kernel_rfl) (by kernel_rfl) fun _ _ => (.int (.lit 1) _)) (fm (gm (.int (9) 259) (by kernel_rfl) (by kernel_rfl) fun _ _ => (.int (.lit 9) _)) (fm (gm (.ref 60) (by kernel_rfl) (by kernel_rfl) fun _ _ => (.stat _)) (fm (gm (.ref 67) (by kernel_rfl) (by kernel_rfl) fun _ _ => (.stat _)) (fm (gm (.ref 154) (by kernel_rfl) (by kernel_rfl) fun _ _ => (.stat _)) (fm (gm (.ref 159) (by kernel_rfl) (by kernel_rfl) fun _ _ => (.tup (us := [.str "a" 394, .int (0) 247]) (.inr (by kernel_rfl)) (.cons (.str _ _) (.cons (.int (.lit 0) _) .nil)))) (fm (gm (.ref 166) (by kernel_rfl) (by kernel_rfl) fun _ _ => (.stat _)) (fm (gm (.ref 173) (by kernel_rfl) (by kernel_rfl) fun _ _ => (.stat _)) (fm (gm (.ref 180) (by kernel_rfl) (by kernel_rfl) fun _ _ => (.stat _)) (fm (gm (.ref 187) (by kernel_rfl) (by kernel_rfl) fun _ _ => (.stat _)) (fm (gm (.ref 195) (by kernel_rfl) (by kernel_rfl) fun _ _ => (.stat _)) (fm (gm (.int (1000) 437) (by kernel_rfl) (by kernel_rfl) fun _ _ => (.int (.lit 1000) _)) (fm (gm (.ref 196) (by kernel_rfl) (by kernel_rfl) fun _ _ => (.tup (us := [.str "fx" 439, .str "fy" 440]) (.inr (by kernel_rfl)) (.cons (.str _ _) (.cons (.str _ _) .nil)))) (fm (gm (.ref 197) (by kernel_rfl) (by kernel_rfl) fun _ _ => (.tup (us := [.str "xfx" 442, .str "xfy" 443, .str "yfx" 444]) (.inr (by kernel_rfl)) (.cons (.str _ _) (.cons (.str _ _) (.cons (.str _ _) .nil))))) (fm (gm (.ref 198) (by kernel_rfl) (by kernel_rfl) fun _ _ => (.tup (us := [.str "xf" 446, .str "yf" 447]) (.inr (by kernel_rfl)) (.cons (.str _ _) (.cons (.str _ _) .nil)))) (fm (gm (.ref 205) (by kernel_rfl) (by kernel_rfl) fun _ _ => (.stat _)) (fm (gm (.ref 212) (by kernel_rfl) (by kernel_rfl) fun _ _ => (.stat _)) (fm (gm (.ref 219) (by kernel_rfl) (by kernel_rfl) fun _ _ => (.stat _)) (fm (gm (.ref 286) (by kernel_rfl) (by kernel_rfl) fun _ _ => (.stat _)) (fm (gm (.int (1200) 573) (by kernel_rfl) (by kernel_rfl) fun _ _ => (.int (.lit 1200) _)) (fm (gm (.int (999) 575) (by kernel_rfl) (by kernel_rfl) fun _ _ => (.int (.lit 999) _)) (fm (gm (.int (0) 577) (by kernel_rfl) (by kernel_rfl) fun _ _ => (.int (.lit 0) _)) (fm (gm (.int (1) 579) (by kernel_rfl) (by kernel_rfl) fun _ _ => (.int (.lit 1) _)) (fm (gm (.int (2) 581) (by kernel_rfl) (by kernel_rfl) fun _ _ => (.int (.lit 2) _)) (fm (gm (.ref 291) (by kernel_rfl) (by kernel_rfl) fun _ _ => (.tup (us := [.str ")" 583, .str "]" 584, .str "}" 585]) (.inr (by kernel_rfl)) (.cons (.str _ _) (.cons (.str _ _) (.cons (.str _ _) .nil))))) (fm (gm (.ref 292) (by kernel_rfl) (by kernel_rfl) fun _ _ => (.tup (us := [.str "," 587, .str "|" 588]) (.inr (by kernel_rfl)) (.cons (.str _ _) (.cons (.str _ _) .nil)))) (fm (gm (.ref 309) (by kernel_rfl) (by kernel_rfl) fun _ _ => (.stat _)) (fm (gm (.ref 320) (by kernel_rfl) (by kernel_rfl) fun _ _ => (.stat _)) (fm (gm (.ref 327) (by kernel_rfl) (by kernel_rfl) fun _ _ => (.stat _)) (fm (gm (.ref 334) (by kernel_rfl) (by kernel_rfl) fun _ _ => (.stat _)) (fm (gm (.ref 517) (by kernel_rfl) (by kernel_rfl) fun _ _ => (.stat _)) (fm (gm (.ref 528) (by kernel_rfl) (by kernel_rfl) fun _ _ => (.stat _)) (fm (gm (.ref 535) (by kernel_rfl) (by kernel_rfl) fun _ _ => (.stat _)) (fm (gm (.ref 542) (by kernel_rfl) (by kernel_rfl) fun _ _ => (.stat _)) (fm (gm (.ref 549) (by kernel_rfl) (by kernel_rfl) fun _ _ => (.stat _)) (fm (gm (.ref 554) (by kernel_rfl) (by kernel_rfl) fun _ _ => (.stat _)) fun _ h => nomatch h))))))))))))))))))))))))))))))))))))))))
noncomputable def oc {α : Type} (o : Option α) (f : α → Bool) : Bool := Option.casesOn o false f
theorem ocE {α : Type} {o : Option α} {f : α → Bool} {p : Prop} (h : oc o f = true) (k : ∀ a, o = some a → f a = true → p) : p := by
  induction o with
  | none => exact bnf h
  | some a => exact k a rfl h
theorem nnE {α : Type} {o : Option (Option α)} (h : oc o noneO = true) : o = some none := ocE h fun a h1 h2 => by
  rcases a with _ | a
  · exact h1
  · exact bnf h2
set_option tactic.hygienic false in
noncomputable def bltI (v : Value) : Option String := by induction v using Value.casesOn with
  | builtin s => exact some s
  | _ => exact .none
set_option tactic.hygienic false in
noncomputable def refI (v : Value) : Option Addr := by induction v using Value.casesOn with
  | ref s => exact some s
  | _ => exact .none
set_option tactic.hygienic false in
theorem bltI_inv {v : Value} {s : String} : bltI v = some s → v = .builtin s := by
  induction v using Value.casesOn with
  | builtin t => exact fun h => congrArg Value.builtin (Option.some.inj h)
  | _ => exact fun h => nos h
set_option tactic.hygienic false in
theorem refI_inv {v : Value} {s : Addr} : refI v = some s → v = .ref s := by
  induction v using Value.casesOn with
  | ref t => exact fun h => congrArg Value.ref (Option.some.inj h)
  | _ => exact fun h => nos h
noncomputable def bChk (K : Frag) (x : Str) (v : Value) : Bool := oc (nsIn K mainGlobals x) noneO && (oc (bootBuiltins x) (fun u => u == v) && (!(x == ("__debug__" : Str)) && !(x == ("__name__" : Str))))
theorem bAll (P : Params) : btab.all (fun e => bChk (K0 P) e.1 e.2) = true := by kernel_rfl
noncomputable def clsChk (K : Frag) (C : Addr) : Bool := plainGet K C "" && (hasDictIn K C && (oc (findIn K (.ref C) "__setattr__") (fun o => oc o fun v => oc (bltI v) fun s => s == "object.__setattr__") && (plainOver K C && (makesIn K C && keepIn K (.ref C)))))
noncomputable def attChk (K : Frag) (C : Addr) (x : Str) : Bool := oc (findIn K (.ref C) x) (noGet K) && oc (takerIn K C x) noneO
noncomputable def metChk (K : Frag) (C : Addr) (n : Str) (f : Addr) : Bool := oc (findIn K (.ref C) n) (fun o => oc o fun v => oc (refI v) fun g => Nat.beq g f) && (isFn K (.ref f) && keepIn K (.ref f))
theorem cAll (P : Params) : itab.all (fun e => clsChk (K0 P) e.1 && metChk (K0 P) e.1 "__init__" e.2) = true := by kernel_rfl
theorem aAll (P : Params) : atab.all (fun e => clsChk (K0 P) e.1 && e.2.all fun x => attChk (K0 P) e.1 x) = true := by kernel_rfl
theorem mAll (P : Params) : mtab.all (fun e => clsChk (K0 P) e.1 && e.2.all fun x => metChk (K0 P) e.1 x.1 x.2) = true := by kernel_rfl
end
section
open PySem PySem.W PySem.Calls PyProof.Rows
set_option maxRecDepth 100000
set_option genInjectivity false
set_option genSizeOf false
/-! what an abstract state says of a heap -/
section
variable (prog : Program) (w : World) (ε : Eps)
noncomputable abbrev Kw (w : World) : Frag := K0 w.params
noncomputable def preL (pre : Option Nat) : List Value := match pre with
  | none => []
  | some k => ε.raw k
inductive AtR (K : Frag) (ε : Eps) (W : Wd) (C : Addr) : List (Str × AV) → List DictEntry → Prop
  | nil : AtR K ε W C [] []
  | cons {x : Str} {a : AV} {t : Tok} {e : DictEntry} {r : List (Str × AV)} {es : List DictEntry} : attChk K C x = true → e.key = .str x t → R K ε W a e.val → AtR K ε W C r es → AtR K ε W C ((x, a) :: r) (e :: es)
noncomputable def Agree (W : Wd) (base : Option Nat) (ents : List (AKey × AV)) (k : AKey) (o : Option Value) : Prop := match lookK ents k with
  | some v => ∃ u, o = some u ∧ R (Kw w) ε W v u
  | none => o = match base with | none => none | some b => ε.dct b k
noncomputable def dl (base : Option Nat) : Nat := match base with | none => 0 | some b => ε.dlen b
inductive DctS (W : Wd) (base : Option Nat) (ents : List (AKey × AV)) (od : Obj) : Prop
  | mk (kvs : List (Str × Value)) (h1 : od.IsDictOf (strKind prog w) kvs) (h2 : kvs.length ≤ dl ε base + ents.length) (h3 : ∀ k, Agree w ε W base ents (.s k) (valueAt kvs k))
inductive DctI (W : Wd) (base : Option Nat) (ents : List (AKey × AV)) (od : Obj) : Prop
  | mk (kvs : List (Int × Value)) (h1 : od.IsDictOf (intKind prog w) kvs) (h2 : kvs.length ≤ dl ε base + ents.length) (h3 : ∀ k, Agree w ε W base ents (.i k) (valueAt kvs k))
inductive DctT (W : Wd) (base : Option Nat) (ents : List (AKey × AV)) (od : Obj) : Prop
  | mk (es : Array DictEntry) (ep : Nat) (xs : List (List Int × Addr × Value)) (h1 : od.ExactDict) (h2 : od.data = .dict es ep) (h3 : es.toList = xs.map (entryOfKey (tupleKind (intKind prog w)))) (h4 : (xs.map (·.1)).Nodup)
      (h5 : ∀ x ∈ xs, ∃ ok, W.im (Kw w) x.2.1 ok ∧ TupKeyObj (intKind prog w) x.1 ok) (h6 : xs.length ≤ dl ε base + ents.length) (h7 : ∀ k, Agree w ε W base ents (.t k) ((atKey xs k).map (·.2)))
noncomputable def DctAt (W : Wd) (kd : Nat) (base : Option Nat) (ents : List (AKey × AV)) (od : Obj) : Prop := match kd with
  | 0 => DctS prog w ε W base ents od
  | 1 => DctI prog w ε W base ents od
  | _ + 2 => DctT prog w ε W base ents od
noncomputable def DctR (W : Wd) (kd : Nat) (base : Option Nat) (ents : List (AKey × AV)) (od : Obj) : Prop :=
  ∀ kd', kd' < 3 → (kd' = kd ∨ emptyD base ents = true) → DctAt prog w ε W kd' base ents od
noncomputable def OR (W : Wd) (o : AO) (x dx : Addr) (os : Led) : Prop := match o with
  | .list pre items => ∃ us n, os = [(x, listOf (preL ε pre ++ us).toArray n)] ∧ Rs (Kw w) ε W items us
  | .inst C attrs => ∃ es n, os = [(x, instObj C dx), (dx, dictOf es n)] ∧ AtR (Kw w) ε W C attrs es ∧ clsChk (Kw w) C = true
  | .dict kd base ents => ∃ od, os = [(x, od)] ∧ (x == sysModules) = false ∧ od.ExactDict ∧ DctR prog w ε W kd base ents od
inductive HpR (W : Wd) : List (Nat × AO) → Led → Prop
  | nil : HpR W [] []
  | cons {l : Nat} {o : AO} {x dx : Addr} {os : Led} {r : List (Nat × AO)} {hl : Led} : W.ρ l = some (x, dx) → OR prog w ε W o x dx os → HpR W r hl → HpR W ((l, o) :: r) (os ++ hl)
structure St (h₀ : Heap) (L : Addr) (W : Wd) (σ : AS) (hl kp : Led) (h : Heap) (m : Str → Option Value) : Prop where
  fr : Fr h₀ L h m
  lg : Lg h₀ L h (hl ++ (kp ++ W.ims))
  hr : HpR prog w ε W σ.hp hl
  rb : ∀ l p, W.ρ l = some p → l < σ.nx
noncomputable def LocR (W : Wd) (m : Str → Option Value) (loc : List (Str × AV)) : Prop := ∀ x v, look loc x = some v → ∃ u, m x = some u ∧ R (Kw w) ε W v u
end
section
variable {prog : Program} {w : World} {ε : Eps} {W W' : Wd}
theorem AtR.mono {K : Frag} {C : Addr} (h : W.Le W') {l : List (Str × AV)} {es : List DictEntry} (r : AtR K ε W C l es) : AtR K ε W' C l es := by
  induction r with
  | nil => exact .nil
  | cons a b c _ ih => exact .cons a b (c.mono h) ih
theorem Agree.mono {base ents k o} (h : W.Le W') (a : Agree w ε W base ents k o) : Agree w ε W' base ents k o := by
  unfold Agree at a ⊢
  split
  · rename_i q; rw [q] at a; obtain ⟨u, h1, h2⟩ := a; exact ⟨u, h1, h2.mono h⟩
  · rename_i q; rw [q] at a; exact a
theorem DctAt.imp {ε₀ : Eps} {kd : Nat} {base base' : Option Nat} {ents ents' : List (AKey × AV)} {od : Obj} (hl : dl ε base + ents.length ≤ dl ε₀ base' + ents'.length) (ha : ∀ k o, kindOfKey k = kd ∨ 2 ≤ kd → Agree w ε W base ents k o → Agree w ε₀ W' base' ents' k o) (hi : ∀ a o, W.im (Kw w) a o → W'.im (Kw w) a o)
    (d : DctAt prog w ε W kd base ents od) : DctAt prog w ε₀ W' kd base' ents' od := by
  rcases kd with _ | _ | n
  · obtain ⟨kvs, h1, h2, h3⟩ := d; exact ⟨kvs, h1, Nat.le_trans h2 hl, fun k => ha _ _ (.inl rfl) (h3 k)⟩
  · obtain ⟨kvs, h1, h2, h3⟩ := d; exact ⟨kvs, h1, Nat.le_trans h2 hl, fun k => ha _ _ (.inl rfl) (h3 k)⟩
  · obtain ⟨es, ep, xs, a1, a2, a3, a4, a5, a6, a7⟩ := d
    exact ⟨es, ep, xs, a1, a2, a3, a4, fun x hx => let ⟨ok, i, t⟩ := a5 x hx; ⟨ok, hi _ _ i, t⟩, Nat.le_trans a6 hl, fun k => ha _ _ (.inr (Nat.le_add_left 2 n)) (a7 k)⟩
theorem DctAt.mono {kd base ents od} (h : W.Le W') (a : DctAt prog w ε W kd base ents od) : DctAt prog w ε W' kd base ents od := a.imp (Nat.le_refl _) (fun _ _ _ z => z.mono h) fun _ _ z => h.im z
theorem OR.mono {o x dx os} (h : W.Le W') (a : OR prog w ε W o x dx os) : OR prog w ε W' o x dx os := by
  cases o with
  | list pre items => obtain ⟨us, n, h1, h2⟩ := a; exact ⟨us, n, h1, h2.mono h⟩
  | inst C attrs => obtain ⟨es, n, h1, h2, h3⟩ := a; exact ⟨es, n, h1, h2.mono h, h3⟩
  | dict kd base ents => obtain ⟨od, h1, h2, hx, h3⟩ := a; exact ⟨od, h1, h2, hx, fun kd' q e => (h3 kd' q e).mono h⟩
theorem HpR.mono (h : W.Le W') {hp hl} (r : HpR prog w ε W hp hl) : HpR prog w ε W' hp hl := by
  induction r with
  | nil => exact .nil
  | cons a b _ ih => exact .cons (h.ρ _ _ a) (b.mono h) ih
theorem LocR.mono {m loc} (h : W.Le W') (a : LocR w ε W m loc) : LocR w ε W' m loc := fun x v e => let ⟨u, h1, h2⟩ := a x v e; ⟨u, h1, h2.mono h⟩
inductive HpFind (prog : Program) (w : World) (ε : Eps) (W : Wd) (hp : List (Nat × AO)) (hl : Led) (l : Nat) (o : AO) : Prop
  | mk (x dx : Addr) (os pre post : Led) (h1 : W.ρ l = some (x, dx)) (h2 : OR prog w ε W o x dx os) (h3 : hl = pre ++ (os ++ post)) (h4 : ∀ o' os', OR prog w ε W o' x dx os' → HpR prog w ε W (putNL hp l o') (pre ++ (os' ++ post))) (h5 : HpR prog w ε W (dropN hp l) (pre ++ post))
theorem HpR.find {hp : List (Nat × AO)} {hl : Led} {l : Nat} {o : AO} (r : HpR prog w ε W hp hl) : lookN hp l = some o → HpFind prog w ε W hp hl l o := by
  induction r with
  | nil => exact fun h => nos h
  | @cons l' o' x dx os r hl e ho hr ih =>
    refine fun h => iteE (x := some o') (y := lookN r l) h (fun q h => ?_) fun q h => ?_
    · rw [Nat.eq_of_beq_eq_true q] at e
      exact ⟨x, dx, os, [], hl, e, Option.some.inj h ▸ ho, rfl, fun o' os' h' => by show HpR prog w ε W (if Nat.beq l' l = true then _ else _) _; rw [if_pos q]; exact HpR.cons (os := os') (Nat.eq_of_beq_eq_true q ▸ e) h' hr, by show HpR prog w ε W (if Nat.beq l' l = true then _ else _) _; rw [if_pos q]; exact hr⟩
    · have q : ¬ Nat.beq l' l = true := by rw [q]; exact Bool.false_ne_true
      obtain ⟨x', dx', os', pre, post, h1, h2, h0, h3, h4⟩ := ih h
      exact ⟨x', dx', os', os ++ pre, post, h1, h2, by rw [List.append_assoc, h0], fun o'' os'' h' => by show HpR prog w ε W (if Nat.beq l' l = true then _ else _) _; rw [if_neg q, List.append_assoc]; exact .cons e ho (h3 o'' os'' h'), by show HpR prog w ε W (if Nat.beq l' l = true then _ else _) _; rw [if_neg q, List.append_assoc]; exact .cons e ho h4⟩
theorem look_put {α : Type} (l : List (Str × α)) (x y : Str) (v : α) : look (put l x v) y = if sB x y then some v else look l y := by
  induction l with
  | nil => rfl
  | cons a r ih =>
    show look (if sB a.1 x = true then (a.1, v) :: r else a :: put r x v) y = if sB x y = true then some v else if sB a.1 y = true then some a.2 else look r y
    by_cases q : sB a.1 x = true
    · rw [if_pos q, ← sB_eq q]
      show (if sB a.1 y = true then some v else look r y) = _
      by_cases q2 : sB a.1 y = true
      · rw [if_pos q2, if_pos q2]
      · rw [if_neg q2, if_neg q2, if_neg q2]
    · rw [if_neg q]
      show (if sB a.1 y = true then some a.2 else look (put r x v) y) = _
      by_cases q2 : sB a.1 y = true
      · rw [if_pos q2, if_neg (fun z => q (by rw [sB_eq q2, sB_eq z]; exact sB_self y)), if_pos q2]
      · rw [if_neg q2, if_neg q2, ih]
theorem str_beq (x y : Str) : (x == y) = sB x y := by
  generalize h : sB x y = b
  rcases b with _ | _
  · exact beq_eq_false_iff_ne.mpr (sB_ne h)
  · rw [sB_eq h]; exact beq_self_eq_true y
theorem isStr_key {e : DictEntry} {x : Str} {t : Tok} (n : Str) (b : e.key = .str x t) : e.key.isStr n = sB x n := by rw [b]; exact str_beq x n
theorem refKey_key {e : DictEntry} {x : Str} {t : Tok} (b : e.key = .str x t) : e.refKey = false := by unfold DictEntry.refKey; rw [b]
theorem getL_cons {e : DictEntry} {x : Str} {t : Tok} (n : Str) (es : List DictEntry) (b : e.key = .str x t) : getL n (e :: es) = if sB x n then some (some e.val) else getL n es := by
  have h1 := isStr_key n b
  have h2 := refKey_key b
  unfold getL
  rw [List.find?_cons, h1, List.any_cons, h2, Bool.false_or]
  cases sB x n <;> rfl
theorem AtR.get {K : Frag} {C : Addr} {n : Str} {v : AV} {l : List (Str × AV)} {es : List DictEntry} (r : AtR K ε W C l es) : look l n = some v → ∃ u, getL n es = some (some u) ∧ R K ε W v u ∧ attChk K C n = true := by
  induction r with
  | nil => exact fun h => nos h
  | @cons x a t e r es ac b c _ ih =>
    refine fun h => iteE (x := some a) (y := look r n) h (fun q h => ?_) fun q h => ?_
    · rw [getL_cons n _ b, if_pos q, ← Option.some.inj h, ← sB_eq q]; exact mk1_3 _ rfl c ac
    · rw [getL_cons n _ b, if_neg (by rw [q]; exact Bool.false_ne_true)]; exact ih h
theorem AtR.none {K : Frag} {C : Addr} {n : Str} {l : List (Str × AV)} {es : List DictEntry} (r : AtR K ε W C l es) : look l n = none → getL n es = some none := by
  induction r with
  | nil => exact fun _ => rfl
  | @cons x a t e r es ac b c _ ih =>
    refine fun h => iteE (x := some a) (y := look r n) h (fun q h => nos h.symm) fun q h => ?_
    rw [getL_cons n _ b, if_neg (by rw [q]; exact Bool.false_ne_true)]; exact ih h
theorem AtR.getSome {K : Frag} {C : Addr} (n : Str) {l : List (Str × AV)} {es : List DictEntry} (h : AtR K ε W C l es) : (getL n es).isSome = true := by
  generalize e : look l n = o
  rcases o with _ | v
  · exact congrArg Option.isSome (h.none e)
  · exact ex1_2 (h.get e) fun u h1 _ => congrArg Option.isSome h1
theorem AtR.put {K : Frag} {C : Addr} {n : Str} {v : AV} {u : Value} (hsh : Int) (t : Tok) (ha : attChk K C n = true) (r : R K ε W v u) {l : List (Str × AV)} {es : List DictEntry} (q : AtR K ε W C l es) : AtR K ε W C (put l n v) (putL n hsh (.str n t) u es) := by
  induction q with
  | nil => exact .cons ha rfl r .nil
  | @cons x a0 t0 e r0 es a b c d ih =>
    show AtR K ε W C (if sB x n = true then (x, v) :: r0 else (x, a0) :: Mine.put r0 n v) (if e.key.isStr n = true then ⟨e.hash, e.key, u⟩ :: es else e :: putL n hsh (.str n t) u es)
    rw [isStr_key n b]
    by_cases z : sB x n = true
    · rw [if_pos z, if_pos z]; exact .cons a b r d
    · rw [if_neg z, if_neg z]; exact .cons a b c ih
theorem AtR.len {K : Frag} {C : Addr} {l : List (Str × AV)} {es : List DictEntry} (q : AtR K ε W C l es) : es.length = l.length := by
  induction q with
  | nil => rfl
  | cons _ _ _ _ ih => rw [List.length_cons, List.length_cons, ih]
theorem put_len {α : Type} (l : List (Str × α)) (n : Str) (v : α) : (put l n v).length ≤ l.length + 1 := by
  induction l with
  | nil => exact Nat.le_refl _
  | cons a r ih =>
    show (if sB a.1 n = true then (a.1, v) :: r else a :: put r n v).length ≤ _
    by_cases q : sB a.1 n = true
    · rw [if_pos q]; exact Nat.le_succ _
    · rw [if_neg q]; exact Nat.succ_le_succ ih
end
end
section
open PySem PySem.W PySem.Calls PyProof.Rows
set_option maxRecDepth 100000
set_option genInjectivity false
set_option genSizeOf false
structure Cx where
  A₀ : Around
  A : Around
  base : Heap
  h₀ : Heap
  outer : List Env
  cn : Str
  cs : Scope
  L : Addr
  a : Addr
  ccd : Value
  cl : List (Str × Addr)
  mean : ExcName → Option Value
  mg : Str → Option Value
  mb : Str → Option Value
noncomputable abbrev Cx.env (c : Cx) : Env := envX c.cn c.cs c.L c.a c.ccd c.cl
structure Cx.Ok (w : World) (c : Cx) (n : Nat) : Prop where
  below : Below c.A₀ c.base c.outer c.h₀
  frames : c.A.frames = some (c.env :: c.outer)
  hand : c.A.handled = none
  kin : (Kw w).In c.h₀
  top : Top qv (looseW qv lse) c.mean c.mg c.mb c.h₀
  kind : c.cs.kind = .function
  dbg : c.cs.names.lookup (Str.ofString "__debug__") = none
  depth : c.A.depth + n < 1000
  units : c.A.units + 16 * n + 64 < 9900
theorem Cx.Ok.le {w : World} {c : Cx} {n k : Nat} (h : c.Ok w n) (hk : k ≤ n) : c.Ok w k :=
  ⟨h.below, h.frames, h.hand, h.kin, h.top, h.kind, h.dbg, Nat.lt_of_le_of_lt (Nat.add_le_add_left hk _) h.depth, Nat.lt_of_le_of_lt (Nat.add_le_add_right (Nat.add_le_add_left (Nat.mul_le_mul_left 16 hk) _) 64) h.units⟩
structure FOk (w : World) (ε : Eps) (F : Facts) (W : Wd) : Prop where
  less : ∀ a b t, (a, b, t) ∈ F.less → decide (ε.ev a < ε.ev b) = t
  val : ∀ a i, (a, i) ∈ F.val → ε.ev a = i
  dk : ∀ b k r, (b, k, r) ∈ F.dk → match r with | none => ε.dct b k = none | some v => ∃ u, ε.dct b k = some u ∧ R (Kw w) ε W v u
  at_ : ∀ k e v, (k, e, v) ∈ F.at_ → ∃ i : Nat, ε.ev e = i ∧ i < 1000 ∧ ∃ v', (ε.sq k)[i]? = some v' ∧ ∀ W u, R (Kw w) ε W v' u → R (Kw w) ε W v u
theorem FOk.mono {w : World} {ε : Eps} {F : Facts} {W W' : Wd} (h : W.Le W') (f : FOk w ε F W) : FOk w ε F W' :=
  ⟨f.less, f.val, fun b k r hm => Option.casesOn (motive := fun r => (match r with | none => ε.dct b k = none | some v => ∃ u, ε.dct b k = some u ∧ R (Kw w) ε W v u) → match r with | none => ε.dct b k = none | some v => ∃ u, ε.dct b k = some u ∧ R (Kw w) ε W' v u) r id (fun _ this => ex1_2 this fun u h1 h2 => ⟨u, h1, h2.mono h⟩) (f.dk b k r hm), f.at_⟩
inductive Rl (K : Frag) (ε : Eps) (W : Wd) : List AV → List Value → Prop
  | nil : Rl K ε W [] []
  | cons {a : AV} {v : Value} {r : List AV} {us : List Value} : R K ε W a v → Rl K ε W r us → Rl K ε W (a :: r) (v :: us)
noncomputable def RlV (K : Frag) (ε : Eps) (W : Wd) (l : List AV) (us : List Value) : Prop := List.casesOn (motive := fun _ => Prop) l (∀ P : List Value → Prop, P [] → P us) (fun a q => ∀ P : List Value → Prop, (∀ u t, R K ε W a u → Rl K ε W q t → P (u :: t)) → P us)
theorem Rl.view {K : Frag} {ε : Eps} {W : Wd} {l : List AV} {us : List Value} (r : Rl K ε W l us) : RlV K ε W l us := Rl.casesOn (motive := fun l us _ => RlV K ε W l us) r (fun _ k => k) (fun r s _ k => k _ _ r s)
@[elab_as_elim] theorem Rl.nilE {K : Frag} {ε : Eps} {W : Wd} {P : List Value → Prop} {us : List Value} (r : Rl K ε W [] us) (k : P []) : P us := r.view P k
@[elab_as_elim] theorem Rl.consE {K : Frag} {ε : Eps} {W : Wd} {P : List Value → Prop} {a : AV} {q : List AV} {us : List Value} (r : Rl K ε W (a :: q) us) (k : ∀ u t, R K ε W a u → Rl K ε W q t → P (u :: t)) : P us := r.view P k
theorem Rl.mono {K : Frag} {ε : Eps} {W W' : Wd} (h : W.Le W') {a us} (r : Rl K ε W a us) : Rl K ε W' a us := by
  induction r with
  | nil => exact .nil
  | cons r _ ih => exact .cons (r.mono h) ih
theorem Rl.rs {K : Frag} {ε : Eps} {W : Wd} {a us} (r : Rl K ε W a us) : Rs K ε W a us := by
  induction r with
  | nil => exact .nil
  | cons r _ ih => exact .cons r ih
theorem Rl.len {K : Frag} {ε : Eps} {W : Wd} {a us} (r : Rl K ε W a us) : us.length = a.length := by
  induction r with
  | nil => rfl
  | cons r _ ih => exact congrArg Nat.succ ih
section
variable (prog : Program) (w : World) (ε : Eps) (F : Facts)
structure Pre (n : Nat) (c : Cx) (W : Wd) (σ : AS) (hl kp : Led) (h : Heap) (m : Str → Option Value) : Prop where
  ok : c.Ok w n
  st : St prog w ε c.h₀ c.L W σ hl kp h m
  loc : LocR w ε W m σ.loc
  fk : FOk w ε F W
/-- what may be used of the end of a run -/
noncomputable abbrev After (n : Nat) (c : Cx) (W : Wd) (kp : Led) (s : Shared) (σ' : AS) (P : Wd → Shared → Prop) : Prop :=
  ∀ W' hl' m' h' tk', W.Le W' → Pre prog w ε F n c W' σ' hl' kp h' m' → P W' { s with heap := h', toks := tk' }
noncomputable def SE (n : Nat) (ih : Ih) : Prop := ∀ sc x σ v σ', ih (.e sc x) σ = some (.v v, σ') → ∀ (c : Cx) (W : Wd) (hl kp : Led) (s : Shared) (m : Str → Option Value) (Q : Value → Shared → Prop) (E : Value → Shared → Prop),
  c.cs = sc → Pre prog w ε F n c W σ hl kp s.heap m → After prog w ε F n c W kp s σ' (fun W' s' => ∀ u, R (Kw w) ε W' v u → Q u s') → wpAny (model prog w) c.A (eval x c.env) Q E s
noncomputable def ST (n : Nat) (ih : Ih) : Prop := ∀ sc x σ b σ', ih (.t sc x) σ = some (.b b, σ') → ∀ (c : Cx) (W : Wd) (hl kp : Led) (s : Shared) (m : Str → Option Value) (Q : Bool → Shared → Prop) (E : Value → Shared → Prop),
  c.cs = sc → Pre prog w ε F n c W σ hl kp s.heap m → After prog w ε F n c W kp s σ' (fun _ s' => Q b s') → wpAny (model prog w) c.A (PySem.isTrue x c.env (eval x c.env)) Q E s
noncomputable def FlR (W : Wd) (fl : AFl) (f : Flow) : Prop := match fl with
  | .next => f = .next
  | .ret v => ∃ u, f = .ret u ∧ R (Kw w) ε W v u
noncomputable def SS (n : Nat) (ih : Ih) : Prop := ∀ sc x σ fl σ', ih (.s sc x) σ = some (.f fl, σ') → ∀ (c : Cx) (W : Wd) (hl kp : Led) (s : Shared) (m : Str → Option Value) (Q : Flow → Shared → Prop) (E : Value → Shared → Prop),
  c.cs = sc → Pre prog w ε F n c W σ hl kp s.heap m → After prog w ε F n c W kp s σ' (fun W' s' => ∀ f, FlR w ε W' fl f → Q f s') → wpAny (model prog w) c.A (exec x c.env) Q E s
noncomputable def SF (n : Nat) (ih : Ih) : Prop := ∀ f args σ v σ', ih (.fn f args) σ = some (.v v, σ') → ∀ (c : Cx) (W : Wd) (hl kp : Led) (s : Shared) (m : Str → Option Value) (us : List Value) (Rr : Result → Shared → Prop),
  Pre prog w ε F n c W σ hl kp s.heap m → Rl (Kw w) ε W args us → After prog w ε F n c W kp s σ' (fun W' s' => ∀ u, R (Kw w) ε W' v u → Rr (.ok (.ret u)) s') → codeAny (model prog w) c.A (.call (.ref f) ⟨us, []⟩) Rr s
structure Snd (n : Nat) (ih : Ih) : Prop where
  e : SE prog w ε F n ih
  t : ST prog w ε F n ih
  s : SS prog w ε F n ih
  f : SF prog w ε F n ih
end
section
variable {prog : Program} {w : World} {ε : Eps} {F : Facts} {n : Nat} {c : Cx} {W : Wd} {σ : AS} {hl kp : Led} {h : Heap} {m : Str → Option Value} {ih : Ih} {E : Value → Shared → Prop} {s : Shared} {sc : Scope}
theorem Pre.le {k : Nat} (p : Pre prog w ε F n c W σ hl kp h m) (hk : k ≤ n) : Pre prog w ε F k c W σ hl kp h m := ⟨p.ok.le hk, p.st, p.loc, p.fk⟩
theorem Pre.up {k : Nat} {σ : AS} (p : Pre prog w ε F k c W σ hl kp h m) (o : c.Ok w n) : Pre prog w ε F n c W σ hl kp h m := ⟨o, p.st, p.loc, p.fk⟩
theorem outV_inv {o : Out} {a : AV} (h : outV o = some a) : o = .v a := by
  rcases o with x | x | x
  · exact congrArg Out.v (Option.some.inj h)
  · exact nos h
  · exact nos h
theorem outB_inv {o : Out} {a : Bool} (h : outB o = some a) : o = .b a := by
  rcases o with x | x | x
  · exact nos h
  · exact congrArg Out.b (Option.some.inj h)
  · exact nos h
theorem outF_inv {o : Out} {a : AFl} (h : outF o = some a) : o = .f a := by
  rcases o with x | x | x
  · exact nos h
  · exact nos h
  · exact congrArg Out.f (Option.some.inj h)
/-- the answer of a command of a known kind -/
theorem run_eq {α : Type} {f : Out → Option α} {g : α → Out} (hf : ∀ o a, f o = some a → o = g a) {o : Option (Out × AS)} {r : α} {σ' : AS} (h : (bi o fun o σ => bo (f o) fun a => some (a, σ)) = some (r, σ')) : o = some (g r, σ') :=
  biE h fun a b e1 e2 => boE e2 fun c e3 e4 => som2 e4 fun h1 h2 => by rw [e1, hf _ _ e3, h1, h2]
theorem runE_eq {sc x σ r σ'} (h : runE ih sc x σ = some (r, σ')) : ih (.e sc x) σ = some (.v r, σ') := run_eq (f := outV) (fun _ _ => outV_inv) h
theorem runT_eq {sc x σ r σ'} (h : runT ih sc x σ = some (r, σ')) : ih (.t sc x) σ = some (.b r, σ') := run_eq (f := outB) (fun _ _ => outB_inv) h
theorem runS_eq {sc x σ r σ'} (h : runS ih sc x σ = some (r, σ')) : ih (.s sc x) σ = some (.f r, σ') := run_eq (f := outF) (fun _ _ => outF_inv) h
theorem runF_eq {f args σ r σ'} (h : runF ih f args σ = some (r, σ')) : ih (.fn f args) σ = some (.v r, σ') := run_eq (f := outV) (fun _ _ => outV_inv) h
/-- a sub-expression, one level down -/
theorem Snd.rE (S : Snd prog w ε F n ih) {x : Expr} {v : AV} {σ' : AS} (e : runE ih sc x σ = some (v, σ')) {Q : Value → Shared → Prop} (hc : c.cs = sc) (p : Pre prog w ε F (n + 1) c W σ hl kp s.heap m)
    (k : After prog w ε F (n + 1) c W kp s σ' (fun W' s' => ∀ u, R (Kw w) ε W' v u → Q u s')) : wpAny (model prog w) c.A (eval x c.env) Q E s :=
  S.e _ _ _ _ _ (runE_eq e) c W hl kp s m Q E hc (p.le (Nat.le_succ _)) fun W' hl' m' h' tk' hw p' => k W' hl' m' h' tk' hw (p'.up p.ok)
theorem Snd.rT (S : Snd prog w ε F n ih) {x : Expr} {v : Bool} {σ' : AS} (e : runT ih sc x σ = some (v, σ')) {Q : Bool → Shared → Prop} (hc : c.cs = sc) (p : Pre prog w ε F (n + 1) c W σ hl kp s.heap m)
    (k : After prog w ε F (n + 1) c W kp s σ' (fun _ s' => Q v s')) : wpAny (model prog w) c.A (PySem.isTrue x c.env (eval x c.env)) Q E s :=
  S.t _ _ _ _ _ (runT_eq e) c W hl kp s m Q E hc (p.le (Nat.le_succ _)) fun W' hl' m' h' tk' hw p' => k W' hl' m' h' tk' hw (p'.up p.ok)
theorem Pre.kin (p : Pre prog w ε F n c W σ hl kp h m) : (Kw w).In h := p.ok.kin.keeps p.st.fr.keep
theorem Pre.im (p : Pre prog w ε F n c W σ hl kp h m) {a : Addr} {o : Obj} (i : W.im (Kw w) a o) : h.get? a = some o :=
  i.elim (fun q => (p.st.lg.nw _ (List.mem_append_right _ (List.mem_append_right _ q))).1) (fun q => p.kin _ _ q)
set_option tactic.hygienic false in
theorem starEach_cons {e : Expr} {r : List Expr} {env : Env} (h : isStar e = false) : starEach (e :: r) env = (false, eval e env) :: starEach r env := by
  induction e using Expr.casesOn with
  | Starred => exact bnt h
  | _ => rfl
theorem starEach_plain {env : Env} {pos : Pos} {l : List Expr} : noStars l = true → (backTo pos (starEach l env)).any (·.1) = false := by
  induction l with
  | nil => exact fun _ => rfl
  | cons e r ih =>
    refine fun h => andE h fun h1 h2 => ?_
    rw [starEach_cons (notE h1)]
    exact ih h2
theorem Snd.evs (S : Snd prog w ε F n ih) {pos : Pos} (hc : c.cs = sc) {args : List Expr} : ∀ {vs : List AV} {σ σ' : AS} {W : Wd} {hl kp : Led} {s : Shared} {m : Str → Option Value} {Q : List Value → Shared → Prop},
    evs ih sc args σ = some (vs, σ') → noStars args = true → Pre prog w ε F (n + 1) c W σ hl kp s.heap m →
    After prog w ε F (n + 1) c W kp s σ' (fun W' s' => ∀ us, Rl (Kw w) ε W' vs us → Q us s') → wpAny (model prog w) c.A (spliced (backTo pos (starEach args c.env))) Q E s := by
  induction args with
  | nil =>
    intro vs σ σ' W hl kp s m Q e _ p k
    exact som2 e fun h1 h2 => spliced_nil (k W _ _ s.heap s.toks (.refl _) (h2 ▸ p) _ (h1 ▸ .nil))
  | cons x r IH =>
    intro vs σ σ' W hl kp s m Q e hs p k
    refine biE e fun v σ₁ e1 e => biE e fun vs' σ₂ e2 e => som2 e fun h1 h2 => andE hs fun hs1 hs2 => ?_
    rw [starEach_cons (notE hs1)]
    refine spliced_cons (S.rE e1 hc p fun W' hl' m' h' tk' hw p' u ru => ?_)
    refine IH e2 hs2 p' fun W'' hl'' m'' h'' tk'' hw' p'' us rus => ?_
    exact k W'' hl'' m'' h'' tk'' (hw.trans hw') (h2 ▸ p'') _ (h1 ▸ .cons (ru.mono hw') rus)
end
end
section
open PySem PySem.W PySem.Calls PyProof.Rows
set_option maxRecDepth 100000
theorem ltI_eq (a b : Int) : ltI a b = decide (a < b) := by
  rcases a with a | a <;> rcases b with b | b <;> refine Bool.eq_iff_iff.mpr ?_ <;> simp [ltI] <;> omega
theorem notF {a : Bool} (h : (!a) = false) : a = true := by
  induction a with
  | false => exact bnt h
  | true => rfl
theorem AI.beq_eq {a : AI} : ∀ {b : AI}, a.beq b = true → a = b := by
  induction a with
  | lit i => intro b h; rcases b with b | _ | _ | _ | _ | _ | _ | _ | _ <;> first | exact bnf h | exact congrArg AI.lit (iB_eq h)
  | sym k => intro b h; rcases b with _ | b | _ | _ | _ | _ | _ | _ | _ <;> first | exact bnf h | exact congrArg AI.sym (Nat.eq_of_beq_eq_true h)
  | add a b iha ihb => intro c h; rcases c with _ | _ | ⟨c, d⟩ | _ | _ | _ | _ | _ | _ <;> first | exact bnf h | exact andE h fun h1 h2 => congr (congrArg AI.add (iha h1)) (ihb h2)
  | sub a b iha ihb => intro c h; rcases c with _ | _ | _ | ⟨c, d⟩ | _ | _ | _ | _ | _ <;> first | exact bnf h | exact andE h fun h1 h2 => congr (congrArg AI.sub (iha h1)) (ihb h2)
  | mul a b iha ihb => intro c h; rcases c with _ | _ | _ | _ | ⟨c, d⟩ | _ | _ | _ | _ <;> first | exact bnf h | exact andE h fun h1 h2 => congr (congrArg AI.mul (iha h1)) (ihb h2)
  | mod a b iha ihb => intro c h; rcases c with _ | _ | _ | _ | _ | ⟨c, d⟩ | _ | _ | _ <;> first | exact bnf h | exact andE h fun h1 h2 => congr (congrArg AI.mod (iha h1)) (ihb h2)
  | fdiv a b iha ihb => intro c h; rcases c with _ | _ | _ | _ | _ | _ | ⟨c, d⟩ | _ | _ <;> first | exact bnf h | exact andE h fun h1 h2 => congr (congrArg AI.fdiv (iha h1)) (ihb h2)
  | len k n => intro c h; rcases c with _ | _ | _ | _ | _ | _ | _ | ⟨c, d⟩ | _ <;> first | exact bnf h | exact andE h fun h1 h2 => congr (congrArg AI.len (Nat.eq_of_beq_eq_true h1)) (Nat.eq_of_beq_eq_true h2)
  | slen k n => intro c h; rcases c with _ | _ | _ | _ | _ | _ | _ | _ | ⟨c, d⟩ <;> first | exact bnf h | exact andE h fun h1 h2 => congr (congrArg AI.slen (Nat.eq_of_beq_eq_true h1)) (Nat.eq_of_beq_eq_true h2)
theorem lookI_mem {α : Type} {x : AI} {v : α} {l : List (AI × α)} : lookI l x = some v → (x, v) ∈ l := by
  induction l with
  | nil => exact fun h => nos h
  | cons q r ih => exact fun h => iteE (x := some q.2) (y := lookI r x) h (fun q h => by rw [← AI.beq_eq q, ← Option.some.inj h]; exact .head _) fun _ h => .tail _ (ih h)
theorem lookLt_mem {x y : AI} {v : Bool} {l : List (AI × AI × Bool)} : lookLt l x y = some v → (x, y, v) ∈ l := by
  induction l with
  | nil => exact fun h => nos h
  | cons q r ih => exact fun h => iteE (x := some q.2.2) (y := lookLt r x y) h (fun z h => andE z fun z1 z2 => by rw [← AI.beq_eq z1, ← AI.beq_eq z2, ← Option.some.inj h]; exact .head _) fun _ h => .tail _ (ih h)
section
variable {prog : Program} {w : World} {ε : Eps} {F : Facts} {n : Nat} {c : Cx} {W : Wd} {σ : AS} {hl kp : Led} {h : Heap} {m : Str → Option Value} {E : Value → Shared → Prop} {s : Shared}
theorem litI_inv {e : AI} {i : Int} (h : litI e = some i) : e = .lit i := by
  rcases e with x | _ | _ | _ | _ | _ | _ | _ | _ <;> first | exact nos h | exact congrArg AI.lit (Option.some.inj h)
theorem natL_inv {i : Int} {k : Nat} (h : natL i = some k) : i = .ofNat k := by
  rcases i with x | x
  · exact congrArg Int.ofNat (Option.some.inj h)
  · exact nos h
theorem natI_inv {e : AI} {i : Nat} (h : natI e = some i) : e = .lit (.ofNat i) := boE h fun a h1 h2 => (litI_inv h1).trans (congrArg AI.lit (natL_inv h2))
theorem intA_inv {v : AV} {x : AI} (h : intA v = some x) : v = .int x := by
  rcases v with _ | _ | x | _ | _ | _ | _ | _ | _ | _ | _ <;> first | exact nos h | exact congrArg AV.int (Option.some.inj h)
theorem strA_inv {v : AV} {x : Str} (h : strA v = some x) : v = .str x := by
  rcases v with _ | _ | _ | x | _ | _ | _ | _ | _ | _ | _ <;> first | exact nos h | exact congrArg AV.str (Option.some.inj h)
theorem objL_inv {v : AV} {x : Nat} (h : objL v = some x) : v = .obj x := by
  rcases v with _ | _ | _ | _ | x | _ | _ | _ | _ | _ | _ <;> first | exact nos h | exact congrArg AV.obj (Option.some.inj h)
theorem flA_inv {v : AV} {x : List AV} (h : flA v = some x) : v = .fl x := by
  rcases v with _ | _ | _ | _ | _ | _ | _ | x | _ | _ | _ <;> first | exact nos h | exact congrArg AV.fl (Option.some.inj h)
theorem tupA_inv {v : AV} {x : List AV} (h : tupA v = some x) : v = .tup x := by
  rcases v with _ | _ | _ | _ | _ | _ | x | _ | _ | _ | _ <;> first | exact nos h | exact congrArg AV.tup (Option.some.inj h)
theorem sqA_inv {v : AV} {x : Nat} (h : sqA v = some x) : v = .sq x := by
  rcases v with _ | _ | _ | _ | _ | _ | _ | _ | x | _ | _ <;> first | exact nos h | exact congrArg AV.sq (Option.some.inj h)
theorem ints2_inv {a b : AV} {x y : AI} (h : ints2 a b = some (x, y)) : a = .int x ∧ b = .int y := boE h fun _ h1 h => boE h fun _ h2 h => som2 h fun e1 e2 => ⟨e1 ▸ intA_inv h1, e2 ▸ intA_inv h2⟩
theorem lit2E {α : Type} {f : Int → Int → α} {d r : α} {a b : AI} {p : Prop} (h : lit2 f d a b = r) (k : ∀ x y, a = .lit x → b = .lit y → f x y = r → p) (k' : d = r → p) : p := by
  unfold lit2 at h
  generalize e1 : litI a = o1 at h
  generalize e2 : litI b = o2 at h
  rcases o1 with _ | x
  · exact k' h
  · rcases o2 with _ | y
    · exact k' h
    · exact k x y (litI_inv e1) (litI_inv e2) h
theorem aLt_ok (fk : FOk w ε F W) {a b : AI} {t : Bool} (e : aLt F a b = some t) : decide (ε.ev a < ε.ev b) = t :=
  lit2E e (fun x y h1 h2 h => by rw [h1, h2]; exact (ltI_eq x y).symm.trans (Option.some.inj h)) fun h => fk.less _ _ _ (lookLt_mem h)
theorem aLe_ok (fk : FOk w ε F W) {a b : AI} {t : Bool} (e : aLe F a b = some t) : decide (ε.ev a ≤ ε.ev b) = t :=
  boE e fun u h1 h2 => by rw [← Option.some.inj h2, ← aLt_ok fk h1, Bool.eq_iff_iff]; simp
theorem iB_beq (x y : Int) : (x == y) = iB x y := by
  cases q : iB x y with
  | true => rw [iB_eq q]; exact beq_self_eq_true y
  | false => exact beq_eq_false_iff_ne.mpr (iB_ne q)
theorem getD_t {o : Option Bool} (h : o.getD false = true) : o = some true := by
  rcases o with _ | b
  · exact bnf h
  · exact congrArg some h
theorem aEqI_ok (fk : FOk w ε F W) {a b : AI} {t : Bool} (e : aEqI F a b = some t) : (ε.ev a == ε.ev b) = t :=
  lit2E e (fun x y h1 h2 h => by rw [h1, h2]; exact (iB_beq x y).trans (Option.some.inj h)) fun h => condE h (fun q h => by rw [AI.beq_eq q, ← Option.some.inj h]; exact beq_self_eq_true _) fun _ h => condE h (fun q h => by
    rw [← Option.some.inj h]
    refine beq_eq_false_iff_ne.mpr fun z => ?_
    rcases Bool.or_eq_true_iff.mp q with q | q
    · have := of_decide_eq_true (fk.less _ _ _ (lookLt_mem (getD_t q))); rw [z] at this; exact Int.lt_irrefl _ this
    · have := of_decide_eq_true (fk.less _ _ _ (lookLt_mem (getD_t q))); rw [z] at this; exact Int.lt_irrefl _ this) fun _ h => nos h
theorem addV_ev {a b r : AI} (h : addV a b = some r) : ε.ev r = ε.ev a + ε.ev b := by
  rcases a with x | _ | _ | _ | _ | _ | _ | ⟨k, n⟩ | ⟨k, n⟩
  · exact boE h fun y h1 h2 => by rw [litI_inv h1, ← Option.some.inj h2]; rfl
  all_goals first | exact nos h | (exact boE h fun y h1 h2 => by rw [natI_inv h1, ← Option.some.inj h2]; exact congrArg Int.ofNat (Nat.add_assoc _ n y).symm)
theorem mkAdd_ev (a b : AI) : ε.ev (a.mkAdd b) = ε.ev a + ε.ev b := by
  unfold AI.mkAdd
  generalize e : addV a b = o
  rcases o with _ | r
  · rfl
  · exact addV_ev e
theorem lit2_ev {f : Int → Int → AI} {d : AI} {a b : AI} {r : Int} (h1 : ∀ x y, a = .lit x → b = .lit y → ε.ev (f x y) = r) (h2 : ε.ev d = r) : ε.ev (lit2 f d a b) = r :=
  lit2E (r := lit2 f d a b) rfl (fun x y e1 e2 e => e ▸ h1 x y e1 e2) fun e => e ▸ h2
theorem mkSub_ev (a b : AI) : ε.ev (a.mkSub b) = ε.ev a - ε.ev b := lit2_ev (fun x y e1 e2 => by rw [e1, e2]; rfl) rfl
theorem val_ev (fk : FOk w ε F W) {a d : AI} {r : Int} (ha : ε.ev a = r) (hd : ε.ev d = r) : ε.ev ((bo (lookI F.val a) fun i => some (.lit i)).getD d) = r := by
  generalize e : lookI F.val a = o
  rcases o with _ | i
  · exact hd
  · exact (fk.val _ _ (lookI_mem e)).symm.trans ha
theorem mkMod_ev (fk : FOk w ε F W) (a b : AI) : ε.ev (AI.mkMod F a b) = (ε.ev a).fmod (ε.ev b) := val_ev fk rfl (lit2_ev (fun x y e1 e2 => by rw [e1, e2]; rfl) rfl)
theorem mkDiv_ev (fk : FOk w ε F W) (a b : AI) : ε.ev (AI.mkDiv F a b) = (ε.ev a).fdiv (ε.ev b) := val_ev fk rfl (lit2_ev (fun x y e1 e2 => by rw [e1, e2]; rfl) rfl)
theorem R.toInt {K : Frag} {e : AI} {v : Value} (r : R K ε W (.int e) v) : ∃ t, v = .int (ε.ev e) t := R.intE r fun t => ⟨t, rfl⟩
theorem R.toStr {K : Frag} {x : Str} {v : Value} (r : R K ε W (AV.str x) v) : ∃ t, v = Value.str x t := R.strE r fun t => ⟨t, rfl⟩
theorem St.news {h₀ : Heap} {L : Addr} (S : St prog w ε h₀ L W σ hl kp h m) : News h₀ L h (hl ++ (kp ++ W.ims)) := S.lg.nw
theorem pre_raw (k : Option Nat) : (preL ε k).length ≤ 1000000 := by
  rcases k with _ | k
  · exact Nat.zero_le _
  · exact ε.raw_le k
/-- what stands at a label -/
theorem Pre.at (p : Pre prog w ε F n c W σ hl kp h m) {l : Nat} {o : AO} (e : lookN σ.hp l = some o) {x dx : Addr} (r : W.ρ l = some (x, dx)) {P : Prop}
    (k : ∀ os, OR prog w ε W o x dx os → (∀ q ∈ os, q ∈ hl) → P) : P := by
  obtain ⟨x', dx', os, a, b, h1, h2, h3, _⟩ := p.st.hr.find e
  refine som2 (r.symm.trans h1) fun e1 e2 => k os (by rw [e1, e2]; exact h2) fun q hq => ?_
  rw [h3]
  exact List.mem_append_right _ (List.mem_append_left _ hq)
/-- the list behind a label -/
@[elab_as_elim] theorem Pre.listE {P : Value → Prop} {v : Value} (p : Pre prog w ε F n c W σ hl kp h m) {l : Nat} (r : R (Kw w) ε W (.obj l) v) {pre : Option Nat} {items : List AV} (e : lookN σ.hp l = some (.list pre items))
    (k : ∀ x us k, (x, listOf (preL ε pre ++ us).toArray k) ∈ hl → h.get? x = some (listOf (preL ε pre ++ us).toArray k) → Rs (Kw w) ε W items us → P (.ref x)) : P v :=
  R.objE r fun x dx q => p.at e q fun os ho hm => ex2_2 (A0 := fun us n => os = [(x, listOf (preL ε pre ++ us).toArray n)]) (A1 := fun us _ => Rs (Kw w) ε W items us) ho fun us n eo rs =>
    have hx := hm (x, listOf (preL ε pre ++ us).toArray n) (by rw [eo]; exact .head _)
    k x us n hx (p.st.news _ (List.mem_append_left _ hx)).1 rs
theorem Pre.list (p : Pre prog w ε F n c W σ hl kp h m) {l : Nat} {pre : Option Nat} {items : List AV} (e : lookN σ.hp l = some (.list pre items)) {v : Value} (r : R (Kw w) ε W (.obj l) v) :
    ∃ x us k, v = .ref x ∧ (x, listOf (preL ε pre ++ us).toArray k) ∈ hl ∧ h.get? x = some (listOf (preL ε pre ++ us).toArray k) ∧ Rs (Kw w) ε W items us := p.listE r e fun x us k h1 h2 h3 => mk3_4 x us k rfl h1 h2 h3
theorem small_le {α : Type} {l : List α} (h : small l = true) : l.length ≤ 100 := Nat.le_of_ble_eq_true h
theorem Rs.small {K : Frag} {vs : List AV} {us : List Value} (r : Rs K ε W vs us) (h : Mine.small vs = true) : us.length ≤ 100000 := Nat.le_trans r.len_le (Nat.mul_le_mul_right 1000 (small_le h))
theorem pre_le (k : Option Nat) {us : List Value} (h : us.length ≤ 200000) : (preL ε k ++ us).length ≤ 1200000 := by rw [List.length_append]; exact Nat.add_le_add (pre_raw (ε := ε) k) h
theorem fit63 {l : List Value} (h : l.length ≤ 1200000) : (l.toArray.size : Int) < 2 ^ 63 := by rw [List.size_toArray]; exact Int.lt_of_le_of_lt (Int.ofNat_le.mpr h) (by decide)
theorem listO_inv {o : AO} {p : Option Nat} {l : List AV} (h : listO o = some (p, l)) : o = .list p l := by
  rcases o with ⟨a, b⟩ | _ | _
  · exact som2 h fun h1 h2 => by rw [h1, h2]
  · exact nos h
  · exact nos h
theorem dictO_inv {o : AO} {a : Nat} {q : Option Nat × List (AKey × AV)} (h : dictO o = some (a, q)) : o = .dict a q.1 q.2 := by
  rcases o with _ | _ | ⟨a, b, c⟩
  · exact nos h
  · exact nos h
  · exact som2 h fun h1 h2 => by rw [h1, ← h2]
theorem instO_inv {o : AO} {q : Addr × List (Str × AV)} (h : instO o = some q) : o = .inst q.1 q.2 := by
  rcases o with _ | ⟨a, b⟩ | _
  · exact nos h
  · exact som1 h fun h1 => by rw [← h1]
  · exact nos h
/-- a list known by its label -/
theorem objE {γ : Type} {l : Nat} {f : Option Nat → List AV → Option γ} {r : γ} {p : Prop} (h : (bo (lookN σ.hp l) fun o => bi (listO o) f) = some r) (k : ∀ pre items, lookN σ.hp l = some (.list pre items) → f pre items = some r → p) : p :=
  boE h fun o h1 h => biE h fun a b h2 h => k a b (h1.trans (congrArg some (listO_inv h2))) h
theorem listN_inv {l : Nat} {items : List AV} (h : listN σ l = some items) : lookN σ.hp l = some (.list none items) :=
  objE h fun pre items h1 h => by
    rcases pre with _ | k
    · exact som1 h fun e => e ▸ h1
    · exact nos h
theorem truthy_cons {Q : Bool → Shared → Prop} {l : Nat} {pre : Option Nat} {x : AV} {r : List AV} {b : Bool} {u : Value} (q : lookN σ.hp l = some (.list pre (x :: r))) (e : gd (!(isSq x || !small r)) (some true) = some b) (ru : R (Kw w) ε W (.obj l) u) (p : Pre prog w ε F n c W σ hl kp s.heap m) {A : Around}
    (k : ∀ tk', Q b { s with toks := tk' }) : wpAny (model prog w) A (truthy u) Q E s :=
  gdE e fun z e => by
    have z := Bool.or_eq_false_iff.mp (notE z)
    rw [← Option.some.inj e] at k
    refine p.listE ru q fun y us kk _ hg rs => ?_
    refine Rs.consE (P := fun us => s.heap.get? y = some (listOf (preL ε pre ++ us).toArray kk) → wpAny (model prog w) A (truthy (.ref y)) Q E s) rs z.1 (fun v t _ rt hg => ?_) hg
    have hle := rt.small (notF z.2)
    refine wpAny_truthy_list ⟨_, hg, rfl, _, rfl⟩ (fit63 (pre_le _ (Nat.le_trans (Nat.succ_le_succ hle) (by decide)))) ?_
    have e1 : (!(preL ε pre ++ v :: t).toArray.isEmpty) = true := by simp
    rw [e1]; exact k _
theorem truthy_snd {Q : Bool → Shared → Prop} {v : AV} {b : Bool} {u : Value} (e : truthy? σ v = some b) (r : R (Kw w) ε W v u) (p : Pre prog w ε F n c W σ hl kp s.heap m) {A : Around}
    (k : ∀ tk', Q b { s with toks := tk' }) : wpAny (model prog w) A (truthy u) Q E s := by
  rcases v with _ | b' | _ | _ | l | _ | _ | _ | _ | _ | _
  · exact R.noneE r (truthy_none (Option.some.inj e ▸ k s.toks))
  · exact R.boolE r (wpAny_truthy_bool (Option.some.inj e ▸ k s.toks))
  · exact nos e
  · exact nos e
  · refine objE e fun pre items q e => ?_
    rcases pre with _ | kk
    · rcases items with _ | ⟨x, t⟩
      · refine p.listE r q fun x us kk _ hg rs => Rs.nilE (P := fun us => s.heap.get? x = some (listOf (preL ε none ++ us).toArray kk) → wpAny (model prog w) A (truthy (.ref x)) Q E s) rs (fun hg => ?_) hg
        exact wpAny_truthy_list ⟨_, hg, rfl, _, rfl⟩ (fit63 (Nat.zero_le _)) (by rw [← Option.some.inj e] at k; exact k _)
      · exact truthy_cons q e r p k
    · rcases items with _ | ⟨x, t⟩
      · exact nos e
      · exact truthy_cons q e r p k
  all_goals exact nos e
theorem strsHold_ok {K : Frag} {x : Str} {vs : List AV} : ∀ {us : List Value} {b : Bool}, strsHold vs x = some b → Rs K ε W vs us → ∃ ys, StrsAre us ys ∧ ys.any (· == x) = b := by
  induction vs with
  | nil => exact fun e r => Rs.nilE r ⟨[], .nil, Option.some.inj e⟩
  | cons a r ih =>
    refine fun e r => boE e fun y h1 e => boE e fun b' h2 e => ?_
    rw [strA_inv h1] at r
    refine Rs.consE r rfl fun u t r1 r2 => ex1_2 (ih h2 r2) fun ys h3 h4 => ?_
    exact R.strE r1 fun tk => ⟨y :: ys, .cons y tk h3, by rw [← Option.some.inj e, List.any_cons, h4, str_beq]⟩
/-- the value of a dict under a key -/
theorem lookDK_mem {b : Nat} {k : AKey} {r : Option AV} {l : List (Nat × AKey × Option AV)} : lookDK l b k = some r → ∃ k', (b, k', r) ∈ l ∧ k'.beq k = true := by
  induction l with
  | nil => exact fun h => nos h
  | cons q t ih => exact fun h => iteE (x := some q.2.2) (y := lookDK t b k) h (fun z h => andE z fun z1 z2 => mk1_2 q.2.1 (by rw [← Nat.eq_of_beq_eq_true z1, ← Option.some.inj h]; exact .head _) z2) fun _ h => ex1_2 (ih h) fun k' h1 h2 => mk1_2 k' (.tail _ h1) h2
theorem ilB_eq {a : List Int} : ∀ {b : List Int}, ilB a b = true → a = b := by
  induction a with
  | nil =>
    intro b h
    rcases b with _ | _
    · rfl
    · exact bnf h
  | cons x a ih =>
    intro b h
    rcases b with _ | ⟨y, b⟩
    · exact bnf h
    · exact andE h fun h1 h2 => congr (congrArg List.cons (iB_eq h1)) (ih h2)
theorem ilB_self (a : List Int) : ilB a a = true := by
  induction a with
  | nil => rfl
  | cons x a ih => exact Bool.and_eq_true_iff.mpr ⟨iB_self x, ih⟩
theorem AKey.beq_eq {a b : AKey} (h : a.beq b = true) : a = b := by
  rcases a with a | a | a <;> rcases b with b | b | b <;> first | exact bnf h | exact congrArg AKey.i (iB_eq h) | exact congrArg AKey.s (sB_eq h) | exact congrArg AKey.t (ilB_eq h)
theorem AKey.beq_self (a : AKey) : a.beq a = true := by
  rcases a with a | a | a
  · exact iB_self a
  · exact sB_self a
  · exact ilB_self a
theorem AKey.beq_no {a b z : AKey} (h : a.beq b = true) (h' : ¬ a.beq z = true) : z.beq b = false := by
  cases e : z.beq b with
  | false => rfl
  | true => exact absurd (by rw [AKey.beq_eq h, ← AKey.beq_eq e]; exact AKey.beq_self z) h'
theorem lookK_putK (k k' : AKey) (v : AV) (l : List (AKey × AV)) : lookK (putK l k v) k' = if k.beq k' then some v else lookK l k' := by
  induction l with
  | nil => rfl
  | cons a r ih =>
    show lookK (if a.1.beq k = true then (a.1, v) :: r else a :: putK r k v) k' = if k.beq k' = true then some v else if a.1.beq k' = true then some a.2 else lookK r k'
    by_cases q : a.1.beq k = true
    · rw [if_pos q, ← AKey.beq_eq q]
      show (if a.1.beq k' = true then some v else lookK r k') = _
      by_cases q2 : a.1.beq k' = true
      · rw [if_pos q2, if_pos q2]
      · rw [if_neg q2, if_neg q2, if_neg q2]
    · rw [if_neg q]
      show (if a.1.beq k' = true then some a.2 else lookK (putK r k v) k') = _
      by_cases q2 : a.1.beq k' = true
      · rw [if_pos q2, if_neg (by rw [AKey.beq_no q2 q]; exact Bool.false_ne_true), if_pos q2]
      · rw [if_neg q2, if_neg q2, ih]
theorem putK_len (k : AKey) (v : AV) (l : List (AKey × AV)) : (putK l k v).length = l.length + (if (lookK l k).isSome then 0 else 1) := by
  induction l with
  | nil => rfl
  | cons a r ih =>
    show (if a.1.beq k = true then (a.1, v) :: r else a :: putK r k v).length = _ + (if (if a.1.beq k = true then some a.2 else lookK r k).isSome = true then 0 else 1)
    by_cases q : a.1.beq k = true
    · rw [if_pos q, if_pos q]; rfl
    · rw [if_neg q, if_neg q, List.length_cons, ih, List.length_cons, Nat.add_right_comm]
/-- a known answer is the dict's answer -/
theorem agree_look (fk : FOk w ε F W) {kd : Nat} {base : Option Nat} {ents : List (AKey × AV)} {k : AKey} {r : Option AV} (e : dictLook F kd base ents k = some r) {o : Option Value} (a : Agree w ε W base ents k o) :
    match (generalizing := false) r with | some v => ∃ u, o = some u ∧ R (Kw w) ε W v u | none => o = none := by
  refine gdE e fun _ e => ?_
  unfold Agree at a
  refine altE e (fun v q e => ?_) fun q e => ?_
  · rw [← Option.some.inj e]; rw [q] at a; exact a
  · rw [q] at a
    refine altE e (fun b q e => ?_) fun q e => ?_
    · rw [q] at a
      refine ex1_2 (lookDK_mem e) fun k' h1 h2 => ?_
      rw [← AKey.beq_eq h2] at a
      have := fk.dk _ _ _ h1
      rcases r with _ | v
      · exact a.trans this
      · exact ex1_2 this fun u h3 h4 => ⟨u, a.trans h3, h4⟩
    · rw [← Option.some.inj e]; rw [q] at a; exact a
theorem dictLook_kd {kd : Nat} {base : Option Nat} {ents : List (AKey × AV)} {k : AKey} {r : Option AV} (e : dictLook F kd base ents k = some r) : kindOfKey k = kd ∨ emptyD base ents = true :=
  gdE e fun q _ => (Bool.or_eq_true_iff.mp q).imp (fun q => (Nat.eq_of_beq_eq_true q).symm) id
theorem kindOfKey_lt (k : AKey) : kindOfKey k < 3 := AKey.casesOn k (fun _ => show 1 < 3 by decide) (fun _ => show 0 < 3 by decide) fun _ => show 2 < 3 by decide
/-- the dict behind a label -/
@[elab_as_elim] theorem Pre.dictE {P : Value → Prop} {v : Value} (p : Pre prog w ε F n c W σ hl kp h m) {l : Nat} (r : R (Kw w) ε W (.obj l) v) {kd : Nat} {base : Option Nat} {ents : List (AKey × AV)} (e : lookN σ.hp l = some (.dict kd base ents))
    (k : ∀ x od, (x, od) ∈ hl → h.get? x = some od → (x == sysModules) = false → DctR prog w ε W kd base ents od → P (.ref x)) : P v :=
  R.objE r fun x dx q => p.at e q fun os ho hm => ex1_4 (A0 := fun od => os = [(x, od)]) (A1 := fun _ => (x == sysModules) = false) (A2 := fun od => od.ExactDict) (A3 := fun od => DctR prog w ε W kd base ents od) ho fun od eo lo _ d =>
    have hx := hm (x, od) (by rw [eo]; exact .head _)
    k x od hx (p.st.news _ (List.mem_append_left _ hx)).1 lo d
/-- a key as the heap holds it -/
noncomputable def KeyV (prog : Program) (w : World) (h : Heap) (k : AKey) (u : Value) : Prop := AKey.casesOn k (fun i => ∃ t, u = .int i t) (fun x => ∃ t, u = .str x t) fun l => ∃ a, u = .ref a ∧ IsTupleKey (intKind prog w) h l a
theorem itemsAre2 {i j : Int} (t u : Tok) : ItemsAre (intKind prog w) [i, j] [.int i t, .int j u] := .cons (intKind_is _ _ _ _) (.cons (intKind_is _ _ _ _) .nil)
theorem litA_inv {v : AV} {i : Int} (h : litA v = some i) : v = .int (.lit i) := boE h fun x h1 h2 => (intA_inv h1).trans (congrArg AV.int (litI_inv h2))
theorem key2E {vs : List AV} {k : AKey} (h : key2 vs = some k) {p : Prop} (kk : ∀ i j, vs = [.int (.lit i), .int (.lit j)] → k = .t [i, j] → p) : p := by
  rcases vs with _ | ⟨a, _ | ⟨b, _ | ⟨c, r⟩⟩⟩
  · exact nos h
  · exact nos h
  · exact boE h fun i h1 h => boE h fun j h2 h => kk i j (by rw [litA_inv h1, litA_inv h2]) (Option.some.inj h).symm
  · exact nos h
theorem keyE {v : AV} {k : AKey} (h : keyOf v = some k) {p : Prop} (k1 : ∀ i, v = .int (.lit i) → k = .i i → p) (k2 : ∀ s, v = .str s → k = .s s → p) (k3 : ∀ i j, v = .tup [.int (.lit i), .int (.lit j)] → k = .t [i, j] → p) : p := by
  rcases v with _ | _ | x | s | _ | _ | vs | _ | _ | _ | _
  · exact nos h
  · exact nos h
  · exact boE h fun i h1 h => k1 i (congrArg AV.int (litI_inv h1)) (Option.some.inj h).symm
  · exact k2 s rfl (Option.some.inj h).symm
  · exact nos h
  · exact nos h
  · exact key2E h fun i j e1 e2 => k3 i j (congrArg AV.tup e1) e2
  all_goals exact nos h
theorem R.pairE {K : Frag} {P : Value → Prop} {i j : Int} {u : Value} (r : R K ε W (.tup [.int (.lit i), .int (.lit j)]) u) (k : ∀ x t1 t2, W.im K x (tupO [.int i t1, .int j t2]) → P (.ref x)) : P u :=
  R.tup2E r rfl rfl fun x y t im r1 r2 => R.intE (P := fun x => W.im K t (tupO [x, y]) → P (.ref t)) r1 (fun t1 => R.intE (P := fun y => W.im K t (tupO [.int i t1, y]) → P (.ref t)) r2 fun t2 im => k t t1 t2 im) im
theorem Pre.key (p : Pre prog w ε F n c W σ hl kp h m) {v : AV} {k : AKey} (e : keyOf v = some k) {u : Value} (r : R (Kw w) ε W v u) : KeyV prog w h k u :=
  keyE e (fun i e1 e2 => by rw [e2]; rw [e1] at r; exact r.toInt) (fun i e1 e2 => by rw [e2]; rw [e1] at r; exact r.toStr) fun i j e1 e2 => by
    rw [e2]; rw [e1] at r
    exact R.pairE r fun x t1 t2 im => ⟨x, rfl, (TupKeyObj.made (itemsAre2 t1 t2)).key (p.im im)⟩
/-- the dict at a place, as the rules want it -/
noncomputable def DHas (prog : Program) (w : World) (h : Heap) (x : Addr) (k : AKey) (o : Option Value) : Prop := AKey.casesOn k (fun k => ∃ kvs : List (Int × Value), h.DictOf (intKind prog w) x kvs ∧ valueAt kvs k = o)
  (fun k => ∃ kvs : List (Str × Value), h.DictOf (strKind prog w) x kvs ∧ valueAt kvs k = o) fun k => ∃ xs : List (List Int × Addr × Value), h.DictOfH (tupleKind (intKind prog w)) x xs ∧ (atKey xs k).map (·.2) = o
theorem Pre.hasE (p : Pre prog w ε F n c W σ hl kp h m) {kd : Nat} {base : Option Nat} {ents : List (AKey × AV)} {x : Addr} {od : Obj} (g : h.get? x = some od) (d : DctR prog w ε W kd base ents od) {k : AKey} {r : Option AV}
    (e : dictLook F kd base ents k = some r) {P : Prop} (kk : ∀ o, DHas prog w h x k o → (match (generalizing := false) r with | some v => ∃ u, o = some u ∧ R (Kw w) ε W v u | none => o = none) → P) : P := by
  have dd := d _ (kindOfKey_lt k) (dictLook_kd e)
  rcases k with k | k | k
  · obtain ⟨kvs, h1, _, h3⟩ := dd; exact kk _ ⟨kvs, Heap.dictOf_iff.mpr ⟨od, g, h1⟩, rfl⟩ (agree_look p.fk e (h3 k))
  · obtain ⟨kvs, h1, _, h3⟩ := dd; exact kk _ ⟨kvs, Heap.dictOf_iff.mpr ⟨od, g, h1⟩, rfl⟩ (agree_look p.fk e (h3 k))
  · obtain ⟨es, ep, xs, h1, h2, h3, h4, h5, _, h7⟩ := dd
    exact kk _ ⟨xs, ⟨od, es, ep, g, h1, h2, h3, fun x hx => let ⟨_, i, t⟩ := h5 x hx; t.key (p.im i), h4⟩, rfl⟩ (agree_look p.fk e (h7 k))
theorem unit1 {A : Around} (hu : A.units + 64 < 9900) : A.units + 1 < cLine := Nat.lt_trans (Nat.add_lt_add_left (by decide) _) (show A.units + 64 < cLine from hu)
theorem in_has {k : AKey} {o : Option Value} {x : Addr} {u : Value} {A : Around} {Q : Value → Shared → Prop} (hu : A.units + 64 < 9900) (d : DHas prog w s.heap x k o) (lo : (x == sysModules) = false) (kv : KeyV prog w s.heap k u)
    (hq : ∀ tk', Q (.bool o.isSome) { s with toks := tk' }) : wpAny (model prog w) A (compareOp .In u (.ref x)) Q E s := by
  rcases k with k | k | k
  · exact ex1_2 d fun kvs d e => ex1_1 kv fun t et => by rw [et]; rw [← e] at hq; exact wpAny_in_of (knd := intKind prog w) (intKind_is _ _ _ _) lo d.mapOf (hq _)
  · exact ex1_2 d fun kvs d e => ex1_1 kv fun t et => by rw [et]; rw [← e] at hq; exact wpAny_in_of (knd := strKind prog w) (strKind_is _ _ _ _) lo d.mapOf (hq _)
  · exact ex1_2 d fun xs d e => ex1_2 kv fun a ea hk => by
      rw [ea]; rw [← e] at hq
      refine wpAny_in_heap (tupleKind_room_in1 (unit1 hu)) hk lo d ?_
      rw [← Option.isSome_map]; exact hq _
theorem item_has {k : AKey} {v : Value} {o : Option Value} {x : Addr} {u : Value} {A : Around} {Q : Value → Shared → Prop} (hu : A.units + 64 < 9900) (d : DHas prog w s.heap x k o) (kv : KeyV prog w s.heap k u) (e : o = some v)
    (hq : ∀ tk', Q v { s with toks := tk' }) : wpAny (model prog w) A (getItem (.ref x) u) Q E s := by
  rcases k with k | k | k
  · exact ex1_2 d fun kvs d e' => ex1_1 kv fun t et => by rw [et]; exact wpAny_getItem_of (knd := intKind prog w) (intKind_is _ _ _ _) d.mapOf (e'.trans e) (hq _)
  · exact ex1_2 d fun kvs d e' => ex1_1 kv fun t et => by rw [et]; exact wpAny_getItem_of (knd := strKind prog w) (strKind_is _ _ _ _) d.mapOf (e'.trans e) (hq _)
  · exact ex1_2 d fun xs d e' => ex1_2 kv fun a ea hk => mapE (e'.trans e) fun q h1 h2 => by
      rw [ea]
      refine wpAny_getItem_heap (tupleKind_room_in1 (unit1 hu)) hk d h1 ?_
      rw [h2]; exact hq _
theorem DHas.typeIs {k : AKey} {o : Option Value} {x : Addr} (d : DHas prog w s.heap x k o) : s.TypeIs (.ref x) "dict" := by
  rcases k with k | k | k
  · exact ex1_2 d fun _ d _ => d.typeIs
  · exact ex1_2 d fun _ d _ => d.typeIs
  · exact ex1_2 d fun _ d _ => d.typeIs
theorem get_has1 {k : AKey} {o : Option Value} {x : Addr} {u : Value} {A : Around} {Q : Value → Shared → Prop} (hu : A.units + 64 < 9900) (d : DHas prog w s.heap x k o) (lo : (x == sysModules) = false) (kv : KeyV prog w s.heap k u)
    (hq : ∀ tk', Q (o.getD .none) { s with toks := tk' }) : wpAny (model prog w) A (call (.builtin "dict.get") [.ref x, u]) Q E s := by
  have ty := d.typeIs
  rcases k with k | k | k
  · exact ex1_2 d fun kvs d e => ex1_1 kv fun t et => by rw [et]; rw [← e] at hq; exact call_meetsIn PySem.F.slot_dict_get ty PySem.F.entry_dict_get (PySem.F.args_dict_get_2 _ _) (meets_dict_get (intKind prog w) x (intKind_is _ _ _ _) lo) ⟨_, d.mapOf, hq _⟩
  · exact ex1_2 d fun kvs d e => ex1_1 kv fun t et => by rw [et]; rw [← e] at hq; exact call_meetsIn PySem.F.slot_dict_get ty PySem.F.entry_dict_get (PySem.F.args_dict_get_2 _ _) (meets_dict_get (strKind prog w) x (strKind_is _ _ _ _) lo) ⟨_, d.mapOf, hq _⟩
  · exact ex1_2 d fun xs d e => ex1_2 kv fun a ea hk => by
      rw [ea]; rw [← e] at hq
      exact call_meetsIn PySem.F.slot_dict_get ty PySem.F.entry_dict_get (PySem.F.args_dict_get_2 _ _) (meetsH_dict_get (tupleKind (intKind prog w)) x a lo) ⟨tupleKind_room_in1 (unit1 hu), _, _, hk, d, hq _⟩
theorem get_has2 {k : AKey} {o : Option Value} {x : Addr} {u v : Value} {A : Around} {Q : Value → Shared → Prop} (hu : A.units + 64 < 9900) (d : DHas prog w s.heap x k o) (lo : (x == sysModules) = false) (kv : KeyV prog w s.heap k u)
    (hq : ∀ tk', Q (o.getD v) { s with toks := tk' }) : wpAny (model prog w) A (call (.builtin "dict.get") [.ref x, u, v]) Q E s := by
  have ty := d.typeIs
  rcases k with k | k | k
  · exact ex1_2 d fun kvs d e => ex1_1 kv fun t et => by rw [et]; rw [← e] at hq; exact call_meetsIn PySem.F.slot_dict_get ty PySem.F.entry_dict_get (PySem.F.args_dict_get_3 _ _ _) (meets_dict_get_default (intKind prog w) x (intKind_is _ _ _ _) lo v) ⟨_, d.mapOf, hq _⟩
  · exact ex1_2 d fun kvs d e => ex1_1 kv fun t et => by rw [et]; rw [← e] at hq; exact call_meetsIn PySem.F.slot_dict_get ty PySem.F.entry_dict_get (PySem.F.args_dict_get_3 _ _ _) (meets_dict_get_default (strKind prog w) x (strKind_is _ _ _ _) lo v) ⟨_, d.mapOf, hq _⟩
  · exact ex1_2 d fun xs d e => ex1_2 kv fun a ea hk => by
      rw [ea]; rw [← e] at hq
      exact call_meetsIn PySem.F.slot_dict_get ty PySem.F.entry_dict_get (PySem.F.args_dict_get_3 _ _ _) (meetsH_dict_get_default (tupleKind (intKind prog w)) x a lo v) ⟨tupleKind_room_in1 (unit1 hu), _, _, hk, d, hq _⟩
theorem cEqE {a b : AV} {r : Bool} (e : cEq F a b = some r) {p : Prop} (k1 : ∀ x y, a = .int x → b = .int y → aEqI F x y = some r → p) (k2 : ∀ x y, a = .str x → b = .str y → sB x y = r → p) : p :=
  altE e (fun x h1 e => boE e fun y h2 e => k1 x y (intA_inv h1) (intA_inv h2) e) fun _ e => boE e fun x h1 e => boE e fun y h2 e => k2 x y (strA_inv h1) (strA_inv h2) (Option.some.inj e)
theorem ints2E {γ : Type} {a b : AV} {f : AI → AI → Option γ} {r : γ} (e : bi (ints2 a b) f = some r) {p : Prop} (k : ∀ x y, a = .int x → b = .int y → f x y = some r → p) : p :=
  biE e fun x y h1 e => k x y (ints2_inv h1).1 (ints2_inv h1).2 e
theorem isSome_has {r : Option AV} {o : Option Value} (ho : match (generalizing := false) r with | some v => ∃ u, o = some u ∧ R (Kw w) ε W v u | none => o = none) : o.isSome = r.isSome := by
  rcases r with _ | v
  · exact congrArg Option.isSome ho
  · exact ex1_2 ho fun u ho _ => congrArg Option.isSome ho
theorem dictNE {γ : Type} {l : Nat} {f : Nat → Option Nat × List (AKey × AV) → Option γ} {r : γ} {p : Prop} (h : (bo (lookN σ.hp l) fun o => bi (dictO o) f) = some r) (k : ∀ kd q, lookN σ.hp l = some (.dict kd q.1 q.2) → f kd q = some r → p) : p :=
  boE h fun o h1 h => biE h fun a b h2 h => k a b (h1.trans (congrArg some (dictO_inv h2))) h
theorem in_snd {Q : Value → Shared → Prop} {a b : AV} {r : Bool} {u v : Value} (e : cIn F σ a b = some r) (ra : R (Kw w) ε W a u) (rb : R (Kw w) ε W b v) (p : Pre prog w ε F n c W σ hl kp s.heap m)
    (k : ∀ tk', Q (.bool r) { s with toks := tk' }) : wpAny (model prog w) c.A (compareOp .In u v) Q E s := by
  refine altE e (fun vs h1 e => boE e fun x h2 e => ?_) fun _ e => boE e fun l h1 e => dictNE e fun kd q q1 e => boE e fun key q2 e => boE e fun r' h2 e => ?_
  · rw [strA_inv h2] at ra
    rw [tupA_inv h1] at rb
    refine R.strE ra fun t => R.tupE rb fun us t i rs => ex1_2 (strsHold_ok e rs) fun ys h1 h2 => in_tuple_strs ⟨_, p.im i, rfl, _, rfl⟩ h1 ?_
    rw [h2]; exact k s.toks
  · rw [objL_inv h1] at rb
    refine p.dictE rb q1 fun x od _ g lo d => p.hasE g d h2 fun o hd ho => ?_
    refine in_has (Nat.lt_of_le_of_lt (Nat.add_le_add_right (Nat.le_add_right _ _) 64) p.ok.units) hd lo (p.key q2 ra) fun tk' => ?_
    rw [isSome_has ho, Option.some.inj e]; exact k _
theorem isNoneA_inv {b : AV} (h : isNoneA b = true) : b = .none := by
  rcases b with _ | _ | _ | _ | _ | _ | _ | _ | _ | _ | _ <;> first | rfl | exact bnf h
theorem is_snd {Q : Value → Shared → Prop} {a b : AV} {r : Bool} {u v : Value} (hb : isNoneA b = true) (e : notNone a = some r) (ra : R (Kw w) ε W a u) (rb : R (Kw w) ε W b v) (k : Q (.bool r) s) : wpAny (model prog w) c.A (compareOp .Is u v) Q E s := by
  rw [isNoneA_inv hb] at rb
  refine R.noneE rb ?_
  have kf : ∀ {u : Value}, u ≠ .none → some false = some r → wpAny (model prog w) c.A (compareOp .Is u .none) Q E s := fun hu e => is_none_ne hu (Option.some.inj e ▸ k)
  rcases a with _ | _ | x | x | l | _ | vs | _ | _ | q | _
  · exact R.noneE ra (is_none_gen (by have := Option.some.inj e; rw [← this] at k; exact k))
  · exact nos e
  · exact R.intE ra fun t => kf (fun z => Value.noConfusion z) e
  · exact R.strE ra fun t => kf (fun z => Value.noConfusion z) e
  · exact R.objE ra fun x dx _ => kf (fun z => Value.noConfusion z) e
  · exact nos e
  · exact R.tupE ra fun us t _ _ => kf (fun z => Value.noConfusion z) e
  · exact nos e
  · exact nos e
  · exact R.opqE ra fun us t _ _ => kf (fun z => Value.noConfusion z) e
  · exact nos e
@[elab_as_elim] theorem R.ii {K : Frag} {P : Value → Value → Prop} {a b : AV} {x y : AI} {u v : Value} (ra : R K ε W a u) (rb : R K ε W b v) (h1 : a = .int x) (h2 : b = .int y) (k : ∀ t t', P (.int (ε.ev x) t) (.int (ε.ev y) t')) : P u v := by
  rw [h1] at ra; rw [h2] at rb
  exact R.intE ra fun t => R.intE rb fun t' => k t t'
@[elab_as_elim] theorem R.ss {K : Frag} {P : Value → Value → Prop} {a b : AV} {x y : Str} {u v : Value} (ra : R K ε W a u) (rb : R K ε W b v) (h1 : a = .str x) (h2 : b = .str y) (k : ∀ t t', P (.str x t) (.str y t')) : P u v := by
  rw [h1] at ra; rw [h2] at rb
  exact R.strE ra fun t => R.strE rb fun t' => k t t'
theorem cmp_snd {Q : Value → Shared → Prop} {op : CmpOp} {a b : AV} {r : Bool} {u v : Value} (e : cmpOp? F σ op a b = some r) (ra : R (Kw w) ε W a u) (rb : R (Kw w) ε W b v) (p : Pre prog w ε F n c W σ hl kp s.heap m)
    (k : ∀ tk', Q (.bool r) { s with toks := tk' }) : wpAny (model prog w) c.A (compareOp op u v) Q E s := by
  induction op with
  | Eq => exact cEqE e (fun x y h1 h2 e => R.ii ra rb h1 h2 fun _ _ => eq_int (by rw [aEqI_ok p.fk e]; exact k s.toks)) fun x y h1 h2 e => R.ss ra rb h1 h2 fun _ _ => eq_str (by rw [str_beq, e]; exact k s.toks)
  | NotEq => exact boE e fun r' e1 e2 => cEqE e1 (fun x y h1 h2 e => R.ii ra rb h1 h2 fun _ _ => ne_int (by rw [bne, aEqI_ok p.fk e, Option.some.inj e2]; exact k s.toks)) fun x y h1 h2 e => R.ss ra rb h1 h2 fun _ _ => ne_str (by rw [bne, str_beq, e, Option.some.inj e2]; exact k s.toks)
  | Lt => exact ints2E e fun x y h1 h2 e => R.ii ra rb h1 h2 fun _ _ => lt_int (by rw [aLt_ok p.fk e]; exact k s.toks)
  | LtE => exact ints2E e fun x y h1 h2 e => R.ii ra rb h1 h2 fun _ _ => le_int (by rw [aLe_ok p.fk e]; exact k s.toks)
  | Gt => exact ints2E e fun x y h1 h2 e => R.ii ra rb h1 h2 fun _ _ => gt_int (by rw [aLt_ok p.fk e]; exact k s.toks)
  | GtE => exact ints2E e fun x y h1 h2 e => R.ii ra rb h1 h2 fun _ _ => ge_int (by rw [aLe_ok p.fk e]; exact k s.toks)
  | Is => exact gdE e fun z e => is_snd z e ra rb (k s.toks)
  | In => exact in_snd e ra rb p k
  | _ => exact nos e
end
end
section
open PySem PySem.W PySem.Calls PyProof.Rows
set_option maxRecDepth 100000
noncomputable def Wd.add (W : Wd) (a : Addr) (o : Obj) : Wd := ⟨W.ρ, (a, o) :: W.ims⟩
theorem Wd.add_le (W : Wd) (a : Addr) (o : Obj) : W.Le (W.add a o) := ⟨fun _ _ h => h, fun _ h => .tail _ h⟩
noncomputable def Wd.lab (W : Wd) (l : Nat) (x dx : Addr) : Wd := ⟨fun k => if k = l then some (x, dx) else W.ρ k, W.ims⟩
theorem Wd.lab_le (W : Wd) {l nx : Nat} (x dx : Addr) (rb : ∀ k p, W.ρ k = some p → k < nx) (hl : nx ≤ l) : W.Le (W.lab l x dx) :=
  ⟨fun k p h => (if_neg (Nat.ne_of_lt (Nat.lt_of_lt_of_le (rb k p h) hl))).trans h, fun _ h => h⟩
theorem Wd.lab_rb {W : Wd} {nx : Nat} {x dx : Addr} (rb : ∀ k p, W.ρ k = some p → k < nx) (k : Nat) (p : Addr × Addr) (e : (W.lab nx x dx).ρ k = some p) : k < nx + 1 := by
  by_cases z : k = nx
  · rw [z]; exact Nat.lt_succ_self _
  · exact Nat.lt_succ_of_lt (rb k p ((if_neg z).symm.trans e))
theorem lab_self (W : Wd) (l : Nat) (x dx : Addr) : (W.lab l x dx).ρ l = some (x, dx) := if_pos rfl
section
variable {prog : Program} {w : World} {ε : Eps} {F : Facts} {n : Nat} {c : Cx} {W : Wd} {σ : AS} {hl kp : Led} {h : Heap} {m : Str → Option Value} {E : Value → Shared → Prop} {s : Shared}
theorem Lg.freeze {h₀ h' : Heap} {L : Addr} {a : Addr} {o : Obj} {ims : Led} (nd : ((hl ++ (kp ++ ims)).map (·.1)).Nodup) (N' : News h₀ L h' ((a, o) :: (hl ++ (kp ++ ims)))) (lt : ∀ q ∈ hl ++ (kp ++ ims), q.1 < a) :
    Lg h₀ L h' (hl ++ (kp ++ (a, o) :: ims)) := by
  refine (Lg.cons N' lt nd).perm ?_
  have e1 : hl ++ (kp ++ (a, o) :: ims) = (hl ++ kp) ++ (a, o) :: ims := by rw [List.append_assoc]
  have e2 : hl ++ (kp ++ ims) = (hl ++ kp) ++ ims := by rw [List.append_assoc]
  rw [e1, e2]
  exact List.perm_middle.symm
theorem Pre.freeze (p : Pre prog w ε F n c W σ hl kp h m) {h' : Heap} {a : Addr} {o : Obj} (F' : Fr c.h₀ c.L h' m) (N' : News c.h₀ c.L h' ((a, o) :: (hl ++ (kp ++ W.ims)))) (lt : ∀ q ∈ hl ++ (kp ++ W.ims), q.1 < a) :
    Pre prog w ε F n c (W.add a o) σ hl kp h' m :=
  ⟨p.ok, ⟨F', Lg.freeze p.st.lg.nd N' lt, p.st.hr.mono (W.add_le a o), p.st.rb⟩, p.loc.mono (W.add_le a o), p.fk.mono (W.add_le a o)⟩
theorem Pre.alloc1 (p : Pre prog w ε F n c W σ hl kp h m) {h' : Heap} {x dx : Addr} {ob : Obj} {o : AO} (F' : Fr c.h₀ c.L h' m) (N' : News c.h₀ c.L h' ((x, ob) :: (hl ++ (kp ++ W.ims)))) (lt : ∀ q ∈ hl ++ (kp ++ W.ims), q.1 < x)
    (ho : OR prog w ε (W.lab σ.nx x dx) o x dx [(x, ob)]) : Pre prog w ε F n c (W.lab σ.nx x dx) { σ with hp := (σ.nx, o) :: σ.hp, nx := σ.nx + 1 } ((x, ob) :: hl) kp h' m := by
  have le := W.lab_le x dx p.st.rb (Nat.le_refl _)
  exact ⟨p.ok, ⟨F', Lg.cons N' lt p.st.lg.nd, HpR.cons (os := [(x, ob)]) (lab_self W _ x dx) ho (p.st.hr.mono le), Wd.lab_rb p.st.rb⟩, p.loc.mono le, p.fk.mono le⟩
theorem Pre.done (p : Pre prog w ε F n c W σ hl kp s.heap m) {P : Wd → Shared → Prop} (k : After prog w ε F n c W kp s σ P) (tk : Nat) : P W { s with toks := tk } := k W hl m s.heap tk (.refl W) p
@[elab_as_elim] theorem Pre.itemsE {P : Value → Prop} {u : Value} (p : Pre prog w ε F n c W σ hl kp h m) {a : AV} {xs : List AV} (e : listItems σ a = some xs) (r : R (Kw w) ε W a u)
    (k : ∀ x us k, h.get? x = some (listOf (List.toArray us) k) → Rs (Kw w) ε W xs us → P (.ref x)) : P u := by
  rcases a with _ | _ | _ | _ | l | _ | _ | vs | _ | _ | _
  case obj => exact p.listE r (listN_inv e) fun x us kk _ g rs => k x us kk g rs
  case fl => rw [← Option.some.inj e] at k; exact R.flE r fun us a kk i rs => k a us kk (p.im i) rs
  all_goals exact nos e
theorem line_of {l : List Value} (h : l.length ≤ 1200000) : l.length ≤ sizeLine := by rw [sizeLine_eq]; exact Nat.le_trans h (by decide)
theorem litRange {b : Int} (h : (ltI 0 b && ltI b 1073741824) = true) : 0 < b ∧ b < 1073741824 := andE h fun h1 h2 => ⟨of_decide_eq_true ((ltI_eq _ _).symm.trans h1), of_decide_eq_true ((ltI_eq _ _).symm.trans h2)⟩
theorem smallLit_bits {a : AI} (h : smallLit a = true) : Builtin.Int.intBits (ε.ev a) ≤ 64 := by
  unfold smallLit at h
  generalize q : litI a = o at h
  rcases o with _ | b
  · exact bnf h
  · rw [litI_inv q]
    have z := litRange h
    exact intBits_le_64 (Int.lt_trans (show -(2 ^ 64 : Int) < 0 by decide) z.1) (Int.lt_trans z.2 (by decide))
theorem cat_snd {Q : Value → Shared → Prop} {a b r : AV} {u v : Value} (e : catL σ a b = some r) (ra : R (Kw w) ε W a u) (rb : R (Kw w) ε W b v) (p : Pre prog w ε F n c W σ hl kp s.heap m)
    (k : After prog w ε F n c W kp s σ (fun W' s' => ∀ u, R (Kw w) ε W' r u → Q u s')) : wpAny (model prog w) c.A (binaryOp .Add u v) Q E s := by
  refine boE e fun xs q1 e => boE e fun ys q2 e => gdE e fun z e => andE z fun z1 z2 => ?_
  refine p.itemsE q1 ra fun x us k1 g1 r1 => p.itemsE q2 rb fun y zs k2 g2 r2 => ?_
  rw [← Option.some.inj e] at k
  refine add_lists p.st.fr p.st.news ⟨_, g1, rfl, _, rfl⟩ ⟨_, g2, rfl, _, rfl⟩ (fun h' F' N' => ?_) (by rw [sizeLine_eq]; exact Nat.le_trans (Nat.add_le_add (r1.small z1) (r2.small z2)) (by decide))
  have lt : ∀ q ∈ hl ++ (kp ++ W.ims), q.1 < s.heap.objs.size := fun q hq => Heap.lt_size (p.st.news q hq).1
  exact k _ _ _ h' s.toks (W.add_le _ _) (p.freeze F' N' lt) _ (.fl (n := 0) (.inl (.head _)) ((r1.mono (W.add_le _ _)).append (r2.mono (W.add_le _ _))))
theorem ints_snd {Q : Value → Shared → Prop} {op : Operator} {x y : AI} {r : AV} {t t' : Tok} (e : bInts F op x y = some r) (fk : FOk w ε F W)
    (k : ∀ e : AI, r = .int e → Q (.int (ε.ev e) s.toks) { s with toks := s.toks + 1 }) : wpAny (model prog w) c.A (binaryOp op (.int (ε.ev x) t) (.int (ε.ev y) t')) Q E s := by
  rcases op with _ | _ | _ | _ | _ | _ | _ | _ | _ | _ | _ | _ | _
  case Add => refine add_int ?_; rw [← mkAdd_ev]; exact k _ (Option.some.inj e).symm
  case Sub => refine sub_int ?_; rw [← mkSub_ev]; exact k _ (Option.some.inj e).symm
  case Mod =>
    refine boE e fun b q e => gdE e fun z e => ?_
    rw [litI_inv q]
    exact mod_int' (fun q => bnt (show true = false from (show iB b 0 = true by rw [show b = 0 from q]; rfl).symm.trans (notE z))) (by rw [← mkMod_ev fk]; exact k _ (Option.some.inj e).symm)
  case FloorDiv =>
    refine boE e fun b q e => gdE e fun z e => ?_
    rw [litI_inv q]
    have z := litRange z
    exact floordiv_int (show b ≠ (0 : Int) by omega) (by rw [← mkDiv_ev fk]; exact k _ (Option.some.inj e).symm) (.inl (PyProof.noPylong_small (show b.natAbs < 1073741824 by omega)))
  case Mult => exact gdE e fun z e => mul_int (k (.mul x y) (Option.some.inj e).symm) ((Bool.or_eq_true_iff.mp z).elim (fun z => .of_right (smallLit_bits z)) fun z => .of_left (smallLit_bits z))
  all_goals exact nos e
theorem isAdd_inv {op : Operator} (h : isAdd op = true) : op = .Add := by
  induction op with
  | Add => rfl
  | _ => exact bnf h
theorem bin_snd {Q : Value → Shared → Prop} {op : Operator} {a b r : AV} {u v : Value} (e : binOp? F σ op a b = some r) (ra : R (Kw w) ε W a u) (rb : R (Kw w) ε W b v) (p : Pre prog w ε F n c W σ hl kp s.heap m)
    (k : After prog w ε F n c W kp s σ (fun W' s' => ∀ u, R (Kw w) ε W' r u → Q u s')) : wpAny (model prog w) c.A (binaryOp op u v) Q E s :=
  altE e (fun q h e => R.ii ra rb (ints2_inv h).1 (ints2_inv h).2 fun _ _ => ints_snd e p.fk fun e' h => by rw [h] at k; exact p.done k _ _ (.int _ _)) fun _ e => gdE e fun z e => by rw [isAdd_inv z]; exact cat_snd e ra rb p k
set_option tactic.hygienic false in
theorem sub_eq {sl : Expr} {o i : Value} (h : isSlice sl = false) : subscripted sl false o i = operate [o, i] (getItem o i) := by
  induction sl using Expr.casesOn with
  | Slice => exact bnt h
  | _ => rfl
theorem seqIndex_nat {i len : Nat} (h : i < len) : seqIndex? (Int.ofNat i) len = some i := by
  unfold seqIndex?
  rw [if_neg (show ¬ Int.ofNat i < 0 from Int.not_lt.mpr (Int.natCast_nonneg i))]
  exact if_pos (Bool.and_eq_true_iff.mpr ⟨decide_eq_true (Int.natCast_nonneg i), decide_eq_true (Int.ofNat_lt.mpr h)⟩)
theorem last_ix (a : Nat) : (Int.negSucc 0 + ((a + 1 : Nat) : Int)).toNat = a := by omega
theorem lookAt_mem {k : Nat} {e : AI} {v : AV} {l : List (Nat × AI × AV)} : lookAt l k e = some v → (k, e, v) ∈ l := by
  induction l with
  | nil => exact fun h => nos h
  | cons q r ih => exact fun h => iteE (x := some q.2.2) (y := lookAt r k e) h (fun z h => andE z fun z1 z2 => by rw [← Nat.eq_of_beq_eq_true z1, ← AI.beq_eq z2, ← Option.some.inj h]; exact .head _) fun _ h => .tail _ (ih h)
theorem isSqL_eq {vs : List AV} {k : Nat} (h : isSqL vs = some k) : vs = [.sq k] := by
  rcases vs with _ | ⟨a, _ | ⟨b, r⟩⟩
  · exact nos h
  · exact congrArg (fun x => [x]) (sqA_inv h)
  · exact nos h
theorem plain_get {K : Frag} {v' : AV} {l : List AV} : ∀ {us : List Value} {i : Nat}, plainL l = true → Rs K ε W l us → l[i]? = some v' → ∃ u, us[i]? = some u ∧ R K ε W v' u := by
  induction l with
  | nil => exact fun _ _ h => nos h
  | cons a t ih =>
    refine fun {us i} hp hr hi => andE hp fun h1 h2 => Rs.consE hr (notE h1) fun u us ra rr => ?_
    rcases i with _ | i
    · exact ⟨u, rfl, Option.some.inj hi ▸ ra⟩
    · exact ih (us := us) (i := i) h2 rr hi
theorem sTupE {vs : List AV} {e : AI} {v : AV} {us : List Value} (h : sTup vs e = some v) (r : Rs (Kw w) ε W vs us) {P : Prop} (k : ∀ (i : Nat) u, ε.ev e = i → i < 1000 → us[i]? = some u → R (Kw w) ε W v u → P) : P :=
  boE h fun i q h => gdE h fun z h => andE z fun z1 z2 => ex1_2 (r.nth z1 h) fun u h1 h2 => k i u (by rw [natI_inv q]; rfl) (Nat.blt_eq.mp z2) h1 h2
theorem flAtE (fk : FOk w ε F W) {vs : List AV} {e : AI} {v : AV} {us : List Value} (h : flAt F vs e = some v) (r : Rs (Kw w) ε W vs us) {P : Prop} (k : ∀ (i : Nat) u, ε.ev e = i → i < 1000 → us[i]? = some u → R (Kw w) ε W v u → P) : P := by
  refine altE h (fun q hq h => ?_) fun _ h => sTupE h r k
  rw [isSqL_eq hq] at r
  obtain ⟨i, h1, h2, v', h3, h4⟩ := fk.at_ _ _ _ (lookAt_mem h)
  exact Rs.sqE (P := fun us => (∀ (i : Nat) u, ε.ev e = i → i < 1000 → us[i]? = some u → R (Kw w) ε W v u → P) → P) r (fun r k => ex1_2 (plain_get (ε.sq_pl q) r h3) fun u g1 g2 => k i u h1 h2 g1 (h4 _ _ g2)) k
theorem ofNat_lo (i : Nat) : -2 ^ 63 ≤ Int.ofNat i := by have : (0 : Int) ≤ Int.ofNat i := Int.natCast_nonneg i; omega
theorem ofNat_hi {i : Nat} (h : i < 1000) : Int.ofNat i < 2 ^ 63 := by have : Int.ofNat i = (i : Int) := rfl; omega
theorem sTup_snd {Q : Value → Shared → Prop} {x sl : Expr} {vs : List AV} {e0 : AI} {r : AV} {u : Value} {t : Tok} (hs : isSlice sl = false) (e : sTup vs e0 = some r) (ra : R (Kw w) ε W (.tup vs) u) (p : Pre prog w ε F n c W σ hl kp s.heap m)
    (k : ∀ u, R (Kw w) ε W r u → Q u s) : wpAny (model prog w) c.A (subscriptTail x sl u (.int (ε.ev e0) t)) Q E s := by
  refine R.tupE ra fun us t im rs => sTupE e rs fun i y h1 h2 h3 h4 => ?_
  rw [h1]
  exact item_tupleT ⟨_, p.im im, rfl, _, rfl⟩ (ofNat_lo _) (ofNat_hi h2) (seqIndex_nat (List.getElem?_eq_some_iff.mp h3).1) h3 (k _ h4) (sub_eq hs)
theorem sFl_snd {Q : Value → Shared → Prop} {x sl : Expr} {vs : List AV} {e0 : AI} {r : AV} {u : Value} {t : Tok} (hs : isSlice sl = false) (e : flAt F vs e0 = some r) (ra : R (Kw w) ε W (.fl vs) u) (p : Pre prog w ε F n c W σ hl kp s.heap m)
    (k : ∀ u, R (Kw w) ε W r u → Q u s) : wpAny (model prog w) c.A (subscriptTail x sl u (.int (ε.ev e0) t)) Q E s := by
  refine R.flE ra fun us t kk im rs => flAtE p.fk e rs fun i y h1 h2 h3 h4 => ?_
  rw [h1]
  exact tail_any (T := "list") ⟨_, p.im im, rfl⟩ PySem.slot_list_getitem.lookup (wpAny_getItem_list (x := y) ⟨_, p.im im, rfl, _, rfl⟩ (Int.natCast_nonneg _) (ofNat_hi h2) (by simpa using h3) (k _ h4)) (sub_eq hs)
theorem str_idx {i : Nat} (z : i < 1000) : (decide (Int.ofNat i < -(2 ^ 63 : Int)) || decide (Int.ofNat i ≥ 2 ^ 63)) = false := by
  exact Bool.or_eq_false_iff.mpr ⟨decide_eq_false (Int.not_lt.mpr (ofNat_lo i)), decide_eq_false (Int.not_le.mpr (ofNat_hi z))⟩
theorem sStr_snd {Q : Value → Shared → Prop} {x sl : Expr} {s0 : Str} {e0 : AI} {r : AV} {t t' : Tok} (hs : isSlice sl = false) (e : sStr s0 e0 = some r) (p : Pre prog w ε F n c W σ hl kp s.heap m)
    (k : After prog w ε F n c W kp s σ (fun W' s' => ∀ u, R (Kw w) ε W' r u → Q u s')) : wpAny (model prog w) c.A (subscriptTail x sl (.str s0 t') (.int (ε.ev e0) t)) Q E s := by
  refine boE e fun i q e => gdE e fun z e => boE e fun t h1 e => mapE h1 fun ch h2 ht => ?_
  rw [natI_inv q]
  rw [← Option.some.inj e, ← ht] at k
  have z := Nat.blt_eq.mp z
  refine tail_any (typeIs_str s _ _) PySem.F.slot_str_getitem.lookup (getItem_str (c := ch) (str_idx z) ?_ (p.done k _ _ (.str _ _))) (sub_eq hs)
  show Option.bind (seqIndex? (Int.ofNat i) _) _ = _
  rw [seqIndex_nat (by simpa [Str.length] using (List.getElem?_eq_some_iff.mp h2).1)]
  simpa using h2
theorem sLst_snd {Q : Value → Shared → Prop} {x sl : Expr} {l : Nat} {pre : Option Nat} {items : List AV} {e0 : AI} {r : AV} {u : Value} {t : Tok} (hs : isSlice sl = false) (q : lookN σ.hp l = some (.list pre items)) (e : sLst pre items e0 = some r) (ra : R (Kw w) ε W (.obj l) u) (p : Pre prog w ε F n c W σ hl kp s.heap m)
    (k : ∀ u, R (Kw w) ε W r u → Q u s) : wpAny (model prog w) c.A (subscriptTail x sl u (.int (ε.ev e0) t)) Q E s := by
  refine p.listE ra q fun y us kk _ g rs => boE e fun i q0 e => ?_
  rw [litI_inv q0]
  rcases i with i | i
  · rcases pre with _ | pk
    · refine gdE e fun z e => andE z fun z1 z2 => ex1_2 (rs.nth z1 e) fun v h1 h2 => ?_
      exact tail_any (T := "list") ⟨_, g, rfl⟩ PySem.slot_list_getitem.lookup (wpAny_getItem_list (x := v) ⟨_, g, rfl, _, rfl⟩ (Int.natCast_nonneg _) (ofNat_hi (Nat.blt_eq.mp z2)) (by show _[(Int.ofNat i).toNat]? = _; simpa [preL] using h1) (k _ h2)) (sub_eq hs)
    · exact nos e
  · rcases i with _ | i
    · refine ex2_3 (rs.last e) fun us' z hu h2 _ => ?_
      rw [hu] at g
      refine tail_any (T := "list") ⟨_, g, rfl⟩ PySem.slot_list_getitem.lookup (wpAny_getItem_list_neg (x := z) ⟨_, g, rfl, _, rfl⟩ (show (-1 : Int) < 0 by decide) ?_ (show -(2 ^ 63 : Int) ≤ -1 by decide) ?_ (k _ h2)) (sub_eq hs)
      · show -_ ≤ (-1 : Int)
        rw [List.size_toArray]
        exact Int.neg_le_neg (Int.ofNat_le.mpr (List.length_pos_of_mem (List.mem_append_right _ (List.mem_append_right _ (.head _)))))
      · show _[(Int.negSucc 0 + _).toNat]? = _
        rw [List.size_toArray, List.getElem?_toArray, ← List.append_assoc, List.length_append]
        rw [show [z].length = 1 from rfl, last_ix]; simp
    · exact nos e
theorem sDct_snd {Q : Value → Shared → Prop} {x sl : Expr} {l kd : Nat} {base : Option Nat} {ents : List (AKey × AV)} {b r : AV} {u v : Value} {key : AKey} (hs : isSlice sl = false) (q : lookN σ.hp l = some (.dict kd base ents)) (qk : keyOf b = some key) (e : bo (dictLook F kd base ents key) id = some r) (ra : R (Kw w) ε W (.obj l) u) (rb : R (Kw w) ε W b v) (p : Pre prog w ε F n c W σ hl kp s.heap m)
    (k : After prog w ε F n c W kp s σ (fun W' s' => ∀ u, R (Kw w) ε W' r u → Q u s')) : wpAny (model prog w) c.A (subscriptTail x sl u v) Q E s := by
  refine boE e fun r' h1 h2 => p.dictE ra q fun y od _ g lo d => p.hasE g d h1 fun o hd ho => ?_
  rw [show r' = some r from h2] at ho
  exact ex1_2 ho fun z ho rz => tail_any hd.typeIs PySem.slot_dict_getitem.lookup (item_has (Nat.lt_of_le_of_lt (Nat.add_le_add_right (Nat.le_add_right _ _) 64) p.ok.units) hd (p.key qk rb) ho fun tk' => p.done k _ _ rz) (sub_eq hs)
@[elab_as_elim] theorem R.ofIntA {K : Frag} {P : Value → Prop} {b : AV} {e : AI} {v : Value} (h : intA b = some e) (r : R K ε W b v) (k : ∀ t, P (.int (ε.ev e) t)) : P v := by
  rw [intA_inv h] at r; exact R.intE r k
theorem sub_snd {Q : Value → Shared → Prop} {x sl : Expr} {a b r : AV} {u v : Value} (hs : isSlice sl = false) (e : sub? F σ a b = some r) (ra : R (Kw w) ε W a u) (rb : R (Kw w) ε W b v) (p : Pre prog w ε F n c W σ hl kp s.heap m)
    (k : After prog w ε F n c W kp s σ (fun W' s' => ∀ u, R (Kw w) ε W' r u → Q u s')) : wpAny (model prog w) c.A (subscriptTail x sl u v) Q E s := by
  have k0 : ∀ u, R (Kw w) ε W r u → Q u s := fun u h => p.done k s.toks _ h
  rcases a with _ | _ | _ | _ | l | _ | vs | vs | _ | _ | _
  case tup => exact boE e fun e0 h1 h2 => R.ofIntA h1 rb fun t => sTup_snd hs h2 ra p k0
  case fl => exact boE e fun e0 h1 h2 => R.ofIntA h1 rb fun t => sFl_snd hs h2 ra p k0
  case str => exact boE e fun e0 h1 h2 => R.ofIntA h1 rb fun t => R.strE ra fun t' => sStr_snd hs h2 p k
  case obj =>
    refine boE e fun o q e => ?_
    rcases o with ⟨pre, items⟩ | _ | ⟨kd, base, ents⟩
    · exact boE e fun e0 h1 h2 => R.ofIntA h1 rb fun t => sLst_snd hs q h2 ra p k0
    · exact nos e
    · exact boE e fun key qk h2 => sDct_snd hs q qk h2 ra rb p k
  all_goals exact nos e
end
end
section
open PySem PySem.W PySem.Calls PyProof.Rows
set_option maxRecDepth 100000
section
variable {M : Model} {A : Around} {E : Value → Shared → Prop} {s : Shared} {env : Env}
set_option tactic.hygienic false in
theorem attrBase {o : Expr} {n : Str} {whole : Sem Value} (h : isCallE o = false) : attributeBase o n env whole = whole := by
  induction o using Expr.casesOn with
  | Call => exact bnt h
  | _ => rfl
theorem call_meth {o : Expr} {n : Str} {ap pos : Pos} {args : List Expr} {Q : Value → Shared → Prop} (h1 : isCallE o = false) (h2 : noStars args = true) (h3 : args.length < 30) (h4 : ap.endLine = pos.line)
    (h : wpAny M A (eval o env) (fun ov s₁ => ∀ pl, wpAny M A (getMethod ov n pl) (fun fx s₂ => wpAny M A (callWith pos fx.1 fx.2 (backTo pos (starEach args env)) []) Q E s₂) E s₁) E s) :
    wpAny M A (eval (.Call (.Attribute o n ap) args [] pos) env) Q E s := by
  have hst : (backTo pos (starEach args env)).all (fun x => !x.1) = true := List.all_eq_true.mpr fun x hx => by
    have := List.any_eq_false.mp (starEach_plain (env := env) (pos := pos) h2) x hx
    simpa using this
  have hform : methodCallForm (args.length + ([] : List Keyword).length) (backTo pos (starEach args env)) (backToKw pos (keywordEach [] env)) = true := by
    unfold methodCallForm
    rw [hst]
    show (true && true && decide (args.length + 0 + 0 < 30)) = true
    exact decide_eq_true h3
  have hpos : methodCallPos true o env ap pos = pure pos := by unfold methodCallPos; simp [h4]
  show wpAny M A (do let ov ← attributeBase o n env (eval o env); standAt ap.atName; methodCall o n ap pos env ov (args.length + ([] : List Keyword).length) (backTo pos (starEach args env)) (backToKw pos (keywordEach [] env))) Q E s
  rw [attrBase h1]
  refine wpAny_bind (wpAny_mono h (fun ov s₁ h₁ => wpAny_bind (wpAny_standAt ?_)) fun _ _ x => x)
  unfold methodCall
  rw [hform, hpos]
  refine wpAny_bind (wpAny_holding (wpAny_mono (h₁ _) (fun fx s₂ h₂ => ?_) fun _ _ x => x))
  exact wpAny_bind (wpAny_pure h₂)
theorem callWith_list {P : Heap → Prop} {pos : Pos} {f : Value} {first : List Value} {args : List Expr} {Q : Value → Shared → Prop} (hs : noStars args = true)
    (hk : ∀ h, P h → ∃ k, (k = Keeper.frame ∨ k = Keeper.machine ∨ k = Keeper.boundFrame) ∧ Looks M h (keeperOf f) k)
    (h : wpAny M A (spliced (backTo pos (starEach args env))) (fun vs s₁ => P s₁.heap ∧ wpAny M A (call f (first ++ vs)) Q E s₁) E s) : wpAny M A (callWith pos f first (backTo pos (starEach args env)) []) Q E s := by
  refine callWith_of (P := P) (by rw [starEach_plain hs]; rfl) hk ?_
  induction args with
  | nil =>
    show wpAny M A (spliced [] >>= _) _ E s
    refine wpAny_bind (wpAny_mono h (fun vs s' h' => ?_) fun _ _ x => x)
    refine wpAny_holding ?_
    exact wpAny_bind (wpAny_pure (wpAny_bind (wpAny_pure (wpAny_pure h'))))
  | cons e r _ =>
    refine andE hs fun h1 _ => ?_
    rw [starEach_cons (notE h1)] at h ⊢
    exact evalArgs_plain h
theorem keeps_bi {i : String} (h : Heap) (_ : True) : ∃ k, (k = Keeper.frame ∨ k = Keeper.machine ∨ k = Keeper.boundFrame) ∧ Looks M h (keeperOf (.builtin i)) k := ⟨.machine, .inr (.inl rfl), .now⟩
theorem keeps_ty {i : String} (h : Heap) (_ : True) : ∃ k, (k = Keeper.frame ∨ k = Keeper.machine ∨ k = Keeper.boundFrame) ∧ Looks M h (keeperOf (.type i)) k := ⟨.machine, .inr (.inl rfl), .now⟩
end
theorem upd_in {a b R : Led} {x : Addr} {ob ob' : Obj} (nd : (((a ++ ([(x, ob)] ++ b)) ++ R).map (·.1)).Nodup) : Upd x ob ob' ((a ++ ([(x, ob)] ++ b)) ++ R) ((a ++ ([(x, ob')] ++ b)) ++ R) := by
  have e1 : ∀ q : Addr × Obj, (a ++ ([q] ++ b)) ++ R = a ++ q :: (b ++ R) := fun q => by simp
  rw [e1] at nd
  rw [e1, e1]
  exact upd_of nd
theorem upd_in2 {a b R : Led} {y x : Addr} {oy ob ob' : Obj} (nd : (((a ++ ([(y, oy), (x, ob)] ++ b)) ++ R).map (·.1)).Nodup) : Upd x ob ob' ((a ++ ([(y, oy), (x, ob)] ++ b)) ++ R) ((a ++ ([(y, oy), (x, ob')] ++ b)) ++ R) := by
  have e1 : ∀ q : Addr × Obj, (a ++ ([(y, oy), q] ++ b)) ++ R = (a ++ [(y, oy)]) ++ q :: (b ++ R) := fun q => by simp
  rw [e1] at nd
  rw [e1, e1]
  exact upd_of nd
theorem nd_in {a b R : Led} {x : Addr} {ob ob' : Obj} (nd : (((a ++ ([(x, ob)] ++ b)) ++ R).map (·.1)).Nodup) : (((a ++ ([(x, ob')] ++ b)) ++ R).map (·.1)).Nodup := by simpa using nd
theorem nd_in2 {a b R : Led} {y x : Addr} {oy ob ob' : Obj} (nd : (((a ++ ([(y, oy), (x, ob)] ++ b)) ++ R).map (·.1)).Nodup) : (((a ++ ([(y, oy), (x, ob')] ++ b)) ++ R).map (·.1)).Nodup := by simpa using nd
section
variable {prog : Program} {w : World} {ε : Eps} {F : Facts} {n : Nat} {c : Cx} {W : Wd} {σ : AS} {hl kp : Led} {h : Heap} {m : Str → Option Value} {E : Value → Shared → Prop} {s : Shared}
@[elab_as_elim] theorem Pre.findE {P : Value → Prop} {v : Value} (p : Pre prog w ε F n c W σ hl kp h m) {l : Nat} (r : R (Kw w) ε W (.obj l) v) {o : AO} (e : lookN σ.hp l = some o)
    (k : ∀ x dx os a b, OR prog w ε W o x dx os → hl = a ++ (os ++ b) → (∀ o' os', OR prog w ε W o' x dx os' → HpR prog w ε W (putNL σ.hp l o') (a ++ (os' ++ b))) → P (.ref x)) : P v :=
  R.objE r fun x dx rl => by
    obtain ⟨x', dx', os, a, b, h1, h2, h3, h4, _⟩ := p.st.hr.find e
    exact som2 (rl.symm.trans h1) fun e1 e2 => by rw [← e1, ← e2] at h4 h2; exact k x dx os a b h2 h3 h4
/-- a list behind a label, to be written -/
@[elab_as_elim] theorem Pre.findL {P : Value → Led → Prop} {v : Value} (p : Pre prog w ε F n c W σ hl kp h m) {l : Nat} (r : R (Kw w) ε W (.obj l) v) {pre : Option Nat} {items : List AV} (e : lookN σ.hp l = some (.list pre items))
    (k : ∀ x us kk a b, Rs (Kw w) ε W items us → (∀ pre' items' us' k', Rs (Kw w) ε W items' us' → HpR prog w ε W (putNL σ.hp l (.list pre' items')) (a ++ ([(x, listOf (preL ε pre' ++ us').toArray k')] ++ b))) → P (.ref x) (a ++ ([(x, listOf (preL ε pre ++ us).toArray kk)] ++ b))) : P v hl :=
  p.findE r e fun x dx os a b ho eh hr => ex2_2 (A0 := fun us n => os = [(x, listOf (preL ε pre ++ us).toArray n)]) (A1 := fun us _ => Rs (Kw w) ε W items us) ho fun us kk eo rs => by
    rw [eh, eo]
    exact k x us kk a b rs fun pre' items' us' k' h' => hr _ _ ⟨us', k', rfl, h'⟩
theorem Pre.upd1 (p : Pre prog w ε F n c W σ hl kp h m) {l : Nat} {o' : AO} {a b os os' : Led} (e : hl = a ++ (os ++ b)) {h' : Heap} (F' : Fr c.h₀ c.L h' m) (N' : News c.h₀ c.L h' ((a ++ (os' ++ b)) ++ (kp ++ W.ims)))
    (nd : (((a ++ (os' ++ b)) ++ (kp ++ W.ims)).map (·.1)).Nodup) (hr : HpR prog w ε W (putNL σ.hp l o') (a ++ (os' ++ b))) : Pre prog w ε F n c W (upd σ l o') (a ++ (os' ++ b)) kp h' m :=
  ⟨p.ok, ⟨F', ⟨N', nd⟩, hr, p.st.rb⟩, p.loc, p.fk⟩
theorem append_snd {Q : Value → Shared → Prop} {l : Nat} {pre : Option Nat} {items : List AV} {v : AV} {x u : Value} (e : lookN σ.hp l = some (.list pre items)) (hs : small items = true) (rx : R (Kw w) ε W (.obj l) x) (rv : R (Kw w) ε W v u)
    (p : Pre prog w ε F n c W σ hl kp s.heap m) (k : After prog w ε F n c W kp s (upd σ l (.list pre (items ++ [v]))) (fun _ s' => Q .none s')) : wpAny (model prog w) c.A (call (.builtin "list.append") [x, u]) Q E s := by
  refine Pre.findL (P := fun x hl => Pre prog w ε F n c W σ hl kp s.heap m → wpAny (model prog w) c.A (call (.builtin "list.append") [x, u]) Q E s) p rx e (fun y us kk a b rs hr p => ?_) p
  refine append_K p.st.fr p.st.news (upd_in p.st.lg.nd) (fun h' F' N' => ?_) (by rw [List.size_toArray]; exact line_of (pre_le _ (Nat.le_trans (rs.small hs) (by decide))))
  refine k W _ m h' s.toks (.refl W) (p.upd1 rfl F' N' (nd_in p.st.lg.nd) ?_)
  have := hr pre _ _ (kk + 1) (rs.append (.cons rv .nil))
  rw [show (preL ε pre ++ (us ++ [u])).toArray = (preL ε pre ++ us).toArray.push u by simp] at this
  exact this
theorem kl_last_append : ∀ (l : List Value) (y : Value), kl_last (l ++ [y]) = some (l, y)
  | [], _ => rfl
  | a :: l, y => by
    have := kl_last_append l y
    cases l with
    | nil => rfl
    | cons b r => simp only [List.cons_append] at this ⊢; unfold kl_last; rw [this]
theorem pop_snd {Q : Value → Shared → Prop} {l : Nat} {pre : Option Nat} {items : List AV} {v : AV} {x : Value} (e : lookN σ.hp l = some (.list pre items)) (hs : small items = true) (hv : lastOf items = some v) (rx : R (Kw w) ε W (.obj l) x)
    (p : Pre prog w ε F n c W σ hl kp s.heap m) (k : After prog w ε F n c W kp s (upd σ l (.list pre (initOfL items))) (fun W' s' => ∀ u, R (Kw w) ε W' v u → Q u s')) : wpAny (model prog w) c.A (call (.builtin "list.pop") [x]) Q E s := by
  refine Pre.findL (P := fun x hl => Pre prog w ε F n c W σ hl kp s.heap m → wpAny (model prog w) c.A (call (.builtin "list.pop") [x]) Q E s) p rx e (fun y us kk a b rs hr p => ex2_3 (rs.last hv) fun us' z hu h2 h3 => ?_) p
  refine kl_pop (p := preL ε pre ++ us') (y := z) p.st.fr p.st.news ?_ (upd_in p.st.lg.nd) (line_of (pre_le _ (Nat.le_trans (rs.small hs) (by decide)))) (fun h' F' N' => ?_)
  · rw [hu, ← List.append_assoc]; exact kl_last_append _ _
  · exact k W _ m h' s.toks (.refl W) (p.upd1 rfl F' N' (nd_in p.st.lg.nd) (hr pre _ us' (kk + 1) h3)) _ h2
theorem tuple_snd {Q : Value → Shared → Prop} {a : AV} {xs : List AV} {u : Value} (e : listItems σ a = some xs) (hs : small xs = true) (ra : R (Kw w) ε W a u)
    (p : Pre prog w ε F n c W σ hl kp s.heap m) (k : After prog w ε F n c W kp s σ (fun W' s' => ∀ u, R (Kw w) ε W' (.tup xs) u → Q u s')) : wpAny (model prog w) c.A (call (.type "tuple") [u]) Q E s := by
  refine p.itemsE e ra fun x us kk g rs => ?_
  refine call_tuple_list ⟨_, g, rfl, _, rfl⟩ (fun h' hk => ?_) (by rw [List.size_toArray]; exact line_of (Nat.le_trans (rs.small hs) (by decide)))
  have F₁ : Fr c.h₀ c.L h' m := ⟨p.st.fr.ns.keeps hk, fun b o q => hk _ _ (p.st.fr.keep b o q), p.st.fr.above⟩
  have N₁ : News c.h₀ c.L h' (hl ++ (kp ++ W.ims)) := fun q hq => ⟨hk _ _ (p.st.news q hq).1, (p.st.news q hq).2⟩
  have lt : ∀ q ∈ hl ++ (kp ++ W.ims), q.1 < h'.objs.size := fun q hq => Heap.lt_size (N₁ q hq).1
  exact k _ _ _ _ s.toks (W.add_le _ (tupO us)) (p.freeze (F₁.push _) (N₁.push F₁ (tupO us)) lt) _ (.tup (.inl (.head _)) (rs.mono (W.add_le _ _)))
theorem tuple_same {Q : Value → Shared → Prop} {vs : List AV} {u : Value} (ra : R (Kw w) ε W (.tup vs) u)
    (p : Pre prog w ε F n c W σ hl kp s.heap m) (k : After prog w ε F n c W kp s σ (fun W' s' => ∀ u, R (Kw w) ε W' (.tup vs) u → Q u s')) : wpAny (model prog w) c.A (call (.type "tuple") [u]) Q E s := by
  exact R.tupE (P := fun u => R (Kw w) ε W (.tup vs) u → wpAny (model prog w) c.A (call (.type "tuple") [u]) Q E s) ra (fun us a i rs r => call_tuple_tup ⟨_, p.im i, rfl, _, rfl⟩ (p.done k s.toks _ r)) ra
theorem lenI_ok {K : Frag} {vs : List AV} {r : AI} {us : List Value} (e : lenI vs = some r) (rs : Rs K ε W vs us) : (us.length : Int) = ε.ev r ∧ us.length ≤ 200000 := by
  refine altE e (fun q hq e => gdE e fun z e2 => andE z fun z1 z2 => ?_) fun _ e => gdE e fun z e => andE z fun z1 z2 => ?_
  · rcases vs with _ | ⟨x, t⟩
    · exact nos hq
    · refine boE hq fun k hx hq => ?_
      rw [sqA_inv hx] at rs
      rw [← Option.some.inj e2, ← Option.some.inj hq]
      rw [← Option.some.inj hq] at z1 z2
      refine rs.view (fun us => (us.length : Int) = ε.ev (.slen k t.length) ∧ us.length ≤ 200000) (fun _ _ r => r.sqN.elim) fun k' us vs ek r1 r2 => ?_
      have ek := AV.sq.inj ek
      rw [← ek] at r1
      refine ⟨?_, ?_⟩
      · show ((us ++ vs).length : Int) = (((ε.sq k).length + t.length : Nat) : Int)
        rw [List.length_append, r1.plain_len (ε.sq_pl k), r2.plain_len z1]
      · rw [List.length_append, r1.plain_len (ε.sq_pl k)]
        exact Nat.add_le_add (Nat.le_trans (ε.sq_le k) (show 1000 ≤ 100000 by decide)) (r2.small z2)
  · rw [← Option.some.inj e]
    exact ⟨congrArg Int.ofNat (rs.plain_len z1), Nat.le_trans (rs.small z2) (by decide)⟩
theorem len_snd {Q : Value → Shared → Prop} {v : AV} {r : AI} {u : Value} (e : len? σ v = some r) (ra : R (Kw w) ε W v u)
    (p : Pre prog w ε F n c W σ hl kp s.heap m) (k : After prog w ε F n c W kp s σ (fun W' s' => ∀ u, R (Kw w) ε W' (.int r) u → Q u s')) : wpAny (model prog w) c.A (call (.builtin "len") [u]) Q E s := by
  rcases v with _ | _ | _ | _ | l | _ | _ | vs | _ | _ | _
  case fl =>
    refine R.flE ra fun us a kk i rs => ?_
    have hh := lenI_ok e rs
    refine call_len_list ⟨_, p.im i, rfl, _, rfl⟩ (fit63 (Nat.le_trans hh.2 (by decide))) ?_
    rw [List.size_toArray, hh.1]
    exact p.done k _ _ (.int _ _)
  case obj =>
    refine objE e fun pre items q e => p.listE ra q fun x us kk _ g rs => ?_
    rcases pre with _ | pk
    · have hh := lenI_ok e rs
      refine call_len_list ⟨_, g, rfl, _, rfl⟩ (fit63 (Nat.le_trans hh.2 (by decide))) ?_
      show Q (.int (us.length : Int) _) _
      rw [hh.1]
      exact p.done k _ _ (.int _ _)
    · refine gdE e fun z e => andE z fun z1 z2 => ?_
      refine call_len_list ⟨_, g, rfl, _, rfl⟩ (fit63 (pre_le _ (Nat.le_trans (rs.small z2) (by decide)))) ?_
      rw [List.size_toArray, show (preL ε (some pk) ++ us).length = (ε.raw pk).length + items.length by rw [List.length_append, rs.plain_len z1]; rfl]
      exact p.done k _ _ ((Option.some.inj e) ▸ .int (.len _ _) _)
  all_goals exact nos e
end
end
section
open PySem PySem.W PySem.Calls PyProof.Rows
set_option maxRecDepth 100000
section
variable {K : Type} [DecidableEq K]
theorem valueAt_cons (x : K × Value) (r : List (K × Value)) (k : K) : valueAt (x :: r) k = if x.1 = k then some x.2 else valueAt r k := by
  show Option.map _ (List.find? _ _) = _
  rw [List.find?_cons]
  by_cases h : x.1 = k
  · rw [decide_eq_true h, if_pos h]; rfl
  · rw [decide_eq_false h, if_neg h]; rfl
theorem any_valueAt (kvs : List (K × Value)) (k : K) : (kvs.any fun kv => decide (kv.1 = k)) = (valueAt kvs k).isSome := by
  induction kvs with
  | nil => rfl
  | cons x r ih =>
    rw [List.any_cons, ih, valueAt_cons]
    by_cases h : x.1 = k
    · rw [decide_eq_true h, if_pos h]; rfl
    · rw [decide_eq_false h, if_neg h]; rfl
theorem valueAt_map (k k' : K) (v : Value) (kvs : List (K × Value)) : valueAt (kvs.map (fun kv => if kv.1 = k then (kv.1, v) else kv)) k' = if k = k' then (valueAt kvs k).map (fun _ => v) else valueAt kvs k' := by
  induction kvs with
  | nil => exact (ite_self _).symm
  | cons x r ih =>
    rw [List.map_cons, valueAt_cons, ih, valueAt_cons, valueAt_cons]
    by_cases h : x.1 = k
    · rw [if_pos h, if_pos h]
      by_cases h2 : k = k'
      · rw [if_pos (h.trans h2), if_pos h2]; rfl
      · rw [if_neg (fun z => h2 (h.symm.trans z)), if_neg h2, if_neg h2, if_neg (fun z => h2 (h.symm.trans z))]
    · rw [if_neg h, if_neg h]
      by_cases h3 : x.1 = k'
      · rw [if_pos h3, if_neg (fun z => h (h3.trans z.symm)), if_pos h3]
      · rw [if_neg h3, if_neg h3]
theorem valueAt_append (k k' : K) (v : Value) (kvs : List (K × Value)) : valueAt kvs k = none → valueAt (kvs ++ [(k, v)]) k' = if k = k' then some v else valueAt kvs k' := by
  induction kvs with
  | nil => exact fun _ => valueAt_cons _ _ _
  | cons x r ih =>
    intro hn
    rw [valueAt_cons] at hn
    by_cases h : x.1 = k
    · rw [if_pos h] at hn; exact nos hn.symm
    · rw [if_neg h] at hn
      rw [List.cons_append, valueAt_cons, ih hn, valueAt_cons]
      by_cases h3 : x.1 = k'
      · rw [if_pos h3, if_neg (fun z => h (h3.trans z.symm)), if_pos h3]
      · rw [if_neg h3, if_neg h3]
theorem valueAt_stored (kvs : List (K × Value)) (k k' : K) (v : Value) : valueAt (stored kvs k v) k' = if k = k' then some v else valueAt kvs k' := by
  unfold stored
  rw [any_valueAt]
  generalize h : valueAt kvs k = o
  rcases o with _ | u
  · show valueAt (if false = true then _ else _) k' = _
    rw [if_neg Bool.false_ne_true]; exact valueAt_append k k' v kvs h
  · show valueAt (if true = true then _ else _) k' = _
    rw [if_pos rfl, valueAt_map, h]; rfl
theorem stored_len (kvs : List (K × Value)) (k : K) (v : Value) : (stored kvs k v).length = kvs.length + (if (valueAt kvs k).isSome then 0 else 1) := by
  unfold stored
  rw [any_valueAt]
  generalize (valueAt kvs k).isSome = b
  cases b <;> simp
end
section
variable {prog : Program} {w : World} {ε : Eps} {F : Facts} {n : Nat} {c : Cx} {W : Wd} {σ : AS} {hl kp : Led} {h : Heap} {m : Str → Option Value} {E : Value → Shared → Prop} {s : Shared}
theorem agree_put {base : Option Nat} {ents : List (AKey × AV)} {k k' : AKey} {v : AV} {u : Value} {o : Option Value} (rv : R (Kw w) ε W v u) (a : Agree w ε W base ents k' o) (o' : Option Value) (e : o' = if k.beq k' = true then some u else o) :
    Agree w ε W base (putK ents k v) k' o' := by
  subst e
  unfold Agree at a ⊢
  rw [lookK_putK]
  by_cases q : k.beq k' = true
  · rw [if_pos q, if_pos q]
    exact ⟨u, rfl, rv⟩
  · rw [if_neg q, if_neg q]
    exact a
theorem beq_i (a b : Int) : ((AKey.i a).beq (.i b) = true) = (a = b) := propext ⟨fun h => iB_eq h, fun h => h ▸ iB_self a⟩
theorem beq_s (a b : Str) : ((AKey.s a).beq (.s b) = true) = (a = b) := propext ⟨fun h => sB_eq h, fun h => h ▸ sB_self a⟩
theorem beq_t (a b : List Int) : ((AKey.t a).beq (.t b) = true) = (a = b) := propext ⟨fun h => ilB_eq h, fun h => h ▸ ilB_self a⟩
theorem len_put {base : Option Nat} {ents : List (AKey × AV)} {k : AKey} {v : AV} {o : Option Value} {a : Nat} (ha : a ≤ dl ε base + ents.length) (ag : Agree w ε W base ents k o) : a + (if o.isSome then 0 else 1) ≤ dl ε base + (putK ents k v).length := by
  rw [putK_len, ← Nat.add_assoc]
  refine Nat.add_le_add ha ?_
  unfold Agree at ag
  generalize lookK ents k = q at ag
  rcases q with _ | u
  · show (if o.isSome = true then 0 else 1) ≤ 1
    generalize o.isSome = b
    cases b <;> decide
  · exact ex1_2 ag fun z e _ => by rw [e]; exact Nat.le_refl _
theorem putK_ne (ents : List (AKey × AV)) (k : AKey) (v : AV) (base : Option Nat) : emptyD base (putK ents k v) = false := by
  have h : ∀ l : List (AKey × AV), l ≠ [] → emptyD base l = false := fun l hl => by
    rcases l with _ | ⟨a, r⟩
    · exact absurd rfl hl
    · rcases base with _ | _ <;> rfl
  refine h _ fun e => ?_
  have := putK_len k v ents
  rw [e] at this
  rcases ents with _ | ⟨x, r⟩
  · exact List.noConfusion rfl (heq_of_eq e)
  · exact Nat.noConfusion (this.trans (Nat.add_right_comm _ 1 _))
theorem updF_of {d : Addr} {o : Obj} {post pre : Led} : ((pre ++ (d, o) :: post).map (·.1)).Nodup → ∃ g, UpdF d o (pre ++ (d, o) :: post) g ∧ ∀ o', g o' = pre ++ (d, o') :: post := by
  induction pre with
  | nil => exact fun h => mk1_2 _ (.head fun p hp e => (List.nodup_cons.mp h).1 (List.mem_map.mpr ⟨p, hp, e⟩)) fun _ => rfl
  | cons q pre ih =>
    intro h
    have h := List.nodup_cons.mp h
    exact ex1_2 (ih h.2) fun g h1 h2 => mk1_2 _ (.tail (fun e => h.1 (List.mem_map.mpr ⟨(d, o), List.mem_append_right _ (.head _), e.symm⟩)) h1) fun o' => congrArg _ (h2 o')
theorem updF_in {a b R : Led} {x : Addr} {ob : Obj} (nd : (((a ++ ([(x, ob)] ++ b)) ++ R).map (·.1)).Nodup) : ∃ g, UpdF x ob ((a ++ ([(x, ob)] ++ b)) ++ R) g ∧ ∀ o', g o' = (a ++ ([(x, o')] ++ b)) ++ R := by
  have e1 : ∀ q : Addr × Obj, (a ++ ([q] ++ b)) ++ R = a ++ q :: (b ++ R) := fun q => List.append_assoc _ _ _
  rw [e1] at nd
  exact ex1_2 (updF_of nd) fun g h1 h2 => mk1_2 g (by rw [e1]; exact h1) fun o' => by rw [h2, e1]
theorem keyOf_t {v : AV} {k : List Int} (e : keyOf v = some (.t k)) {P : Prop} (kk : ∀ i j, v = .tup [.int (.lit i), .int (.lit j)] → k = [i, j] → P) : P :=
  keyE e (fun _ _ h => AKey.noConfusion h) (fun _ _ h => AKey.noConfusion h) fun i j h1 h2 => kk i j h1 (AKey.t.inj h2)
@[elab_as_elim] theorem Pre.keyTE {P : Value → Prop} {u : Value} {v : AV} {k : List Int} (e : keyOf v = some (.t k)) (r : R (Kw w) ε W v u) (kk : ∀ a ok, W.im (Kw w) a ok → TupKeyObj (intKind prog w) k ok → P (.ref a)) : P u :=
  keyOf_t e fun i j h1 h2 => by
    rw [h1] at r; rw [h2] at kk
    exact R.pairE r fun x t1 t2 im => kk _ _ im (TupKeyObj.made (itemsAre2 t1 t2))
section
variable {Q : Unit → Shared → Prop} {l kd : Nat} {base : Option Nat} {ents : List (AKey × AV)} {kv v : AV} {x ku u : Value} {r0 : Option AV}
/-- a dict behind a label, to be written -/
@[elab_as_elim] theorem Pre.findD {P : Value → Led → Prop} {v : Value} (p : Pre prog w ε F n c W σ hl kp h m) (r : R (Kw w) ε W (.obj l) v) (e : lookN σ.hp l = some (.dict kd base ents))
    (k : ∀ x od a b, (x == sysModules) = false → DctR prog w ε W kd base ents od → (∀ (o' : Obj) ky w', o'.ExactDict → DctAt prog w ε W (kindOfKey ky) base (putK ents ky w') o' → HpR prog w ε W (putNL σ.hp l (.dict (kindOfKey ky) base (putK ents ky w'))) (a ++ ([(x, o')] ++ b))) → P (.ref x) (a ++ ([(x, od)] ++ b))) : P v hl :=
  p.findE r e fun x dx os a b ho eh hr => ex1_4 (A0 := fun od => os = [(x, od)]) (A1 := fun _ => (x == sysModules) = false) (A2 := fun od => od.ExactDict) (A3 := fun od => DctR prog w ε W kd base ents od) ho fun od eo lo _ d => by
    rw [eh, eo]
    refine k x od a b lo d fun o' ky w' hx z => hr _ _ ⟨o', rfl, lo, hx, fun kd' _ h2 => ?_⟩
    rcases h2 with h2 | h2
    · rw [h2]; exact z
    · exact bnf ((putK_ne ents ky w' base).symm.trans h2)
theorem dl_le (base : Option Nat) : dl ε base ≤ 1000000 := by
  rcases base with _ | b
  · exact Nat.zero_le _
  · exact ε.dlen_le b
theorem dl_line {base : Option Nat} {ents : List (AKey × AV)} {a : Nat} (h : a ≤ dl ε base + ents.length) (hs : small ents = true) : a ≤ sizeLine := by
  rw [sizeLine_eq]; exact Nat.le_trans h (Nat.le_trans (Nat.add_le_add (dl_le base) (small_le hs)) (by decide))
/-- a key of a plain kind -/
theorem setd_plain {K : Type} [DecidableEq K] {knd : KeyKind prog w K} {mk : K → AKey} {k : K} {a b : Led} {y : Addr} {od : Obj} {kvs : List (K × Value)} (hm : ∀ k', ((mk k).beq (mk k') = true) = (k = k')) (hx : ∀ {o : Obj} {kvs : List (K × Value)}, o.IsDictOf knd kvs → o.ExactDict)
    (hd : ∀ (o' : Obj) kvs', o'.IsDictOf knd kvs' → kvs'.length ≤ dl ε base + (putK ents (mk k) v).length → (∀ k', Agree w ε W base (putK ents (mk k) v) (mk k') (valueAt kvs' k')) → DctAt prog w ε W (kindOfKey (mk k)) base (putK ents (mk k) v) o')
    (hs : small ents = true) (rv : R (Kw w) ε W v u) (p : Pre prog w ε F n c W σ (a ++ ([(y, od)] ++ b)) kp s.heap m) (h1 : od.IsDictOf knd kvs) (h2 : kvs.length ≤ dl ε base + ents.length) (h3 : ∀ k', Agree w ε W base ents (mk k') (valueAt kvs k')) (hk : knd.is k ku = true)
    (hr : ∀ (o' : Obj) ky w', o'.ExactDict → DctAt prog w ε W (kindOfKey ky) base (putK ents ky w') o' → HpR prog w ε W (putNL σ.hp l (.dict (kindOfKey ky) base (putK ents ky w'))) (a ++ ([(y, o')] ++ b)))
    (kk : After prog w ε F n c W kp s (upd σ l (.dict (kindOfKey (mk k)) base (putK ents (mk k) v))) (fun _ s' => Q () s')) : wpAny (model prog w) c.A (setItem (.ref y) ku u) Q E s :=
  ex1_2 (updF_in p.st.lg.nd) fun g U hg => kda_set p.st.fr p.st.news U h1 hk (dl_line h2 hs) fun h' o' F' N' hd' => by
    rw [hg] at N'
    refine kk W _ m h' _ (.refl W) (p.upd1 rfl F' N' (nd_in p.st.lg.nd) (hr _ _ _ (hx hd') (hd _ _ hd' ?_ fun k' => ?_)))
    · rw [stored_len]; exact len_put h2 (h3 k)
    · refine agree_put rv (h3 k') _ ?_
      rw [valueAt_stored]; simp only [hm]
theorem setd_snd {k : AKey} (e : lookN σ.hp l = some (.dict kd base ents)) (ek : keyOf kv = some k) (ed : dictLook F kd base ents k = some r0) (hs : small ents = true)
    (rx : R (Kw w) ε W (.obj l) x) (rk : R (Kw w) ε W kv ku) (rv : R (Kw w) ε W v u)
    (p : Pre prog w ε F n c W σ hl kp s.heap m) (kk : After prog w ε F n c W kp s (upd σ l (.dict (kindOfKey k) base (putK ents k v))) (fun _ s' => Q () s')) : wpAny (model prog w) c.A (setItem x ku u) Q E s := by
  refine Pre.findD (P := fun x hl => Pre prog w ε F n c W σ hl kp s.heap m → wpAny (model prog w) c.A (setItem x ku u) Q E s) p rx e (fun y od a b lo d hr p => ?_) p
  have dd := d _ (kindOfKey_lt k) (dictLook_kd ed)
  have ky := p.key ek rk
  rcases k with k | k | k
  · obtain ⟨kvs, h1, h2, h3⟩ := dd
    refine ex1_1 ky fun t et => ?_
    rw [et]
    exact setd_plain (mk := AKey.i) (beq_i k) (fun h => let ⟨_, _, hx, _⟩ := h; hx) (fun o' kvs' h1 h2 h3 => ⟨kvs', h1, h2, h3⟩) hs rv p h1 h2 h3 (intKind_is prog w k t) hr kk
  · obtain ⟨kvs, h1, h2, h3⟩ := dd
    refine ex1_1 ky fun t et => ?_
    rw [et]
    exact setd_plain (mk := AKey.s) (beq_s k) (fun h => let ⟨_, _, hx, _⟩ := h; hx) (fun o' kvs' h1 h2 h3 => ⟨kvs', h1, h2, h3⟩) hs rv p h1 h2 h3 (strKind_is prog w k t) hr kk
  · obtain ⟨es, ep, xs, h1, h2, h3, h4, h5, h6, h7⟩ := dd
    refine Pre.keyTE (prog := prog) ek rk fun ka ok hi hk => ?_
    have gy := p.st.news (y, od) (List.mem_append_left _ (List.mem_append_right _ (.head _)))
    refine wpAny_setItem_heap (knd := tupleKind (intKind prog w)) (tupleKind_room_in1 (unit1 (Nat.lt_of_le_of_lt (Nat.add_le_add_right (Nat.le_add_right _ _) 64) p.ok.units))) (hk.key (p.im hi)) ⟨od, es, ep, gy.1, h1, h2, h3, fun x hx => ex1_2 (h5 x hx) fun _ i t => t.key (p.im i), h4⟩ (fun h' hd' hsb => ?_) (dl_line h6 hs)
    obtain ⟨o', es', ep', g', c1, c2, c3, c4, c5⟩ := hd'
    obtain ⟨pr, po, e1, e2, n1, n2⟩ := (upd_in (ob' := o') p.st.lg.nd).split
    have N₀ := p.st.news
    rw [e1] at N₀
    have N' := news_set N₀ n1 n2 hsb g'
    rw [← e2] at N'
    refine kk W _ m h' _ (.refl W) (p.upd1 rfl (p.st.fr.change hsb gy.2.1 gy.2.2) N' (nd_in p.st.lg.nd) (hr _ (.t k) _ c1 ⟨es', ep', _, c1, c2, c3, c5, fun x hx => ?_, ?_, fun k' => ?_⟩))
    · rcases mem_storedH hx with ⟨z, hz, q1, q2⟩ | ⟨q1, q2⟩
      · rw [q1, q2]; exact h5 z hz
      · rw [q1, q2]; exact ⟨ok, hi, hk⟩
    · have e3 : (storedH xs k ka u).length = (stored (kvsOf xs) k u).length := by rw [← kvsOf_storedH xs k ka u]; exact (List.length_map _).symm
      have e4 : xs.length = (kvsOf xs).length := (List.length_map _).symm
      rw [e3, stored_len, ← e4, valueAt_kvsOf]
      exact len_put h6 (h7 k)
    · refine agree_put rv (h7 k') _ ?_
      rw [← valueAt_kvsOf, kvsOf_storedH, valueAt_stored, valueAt_kvsOf]
      simp only [beq_t]
end
end
end
section
open PySem PySem.W PySem.Calls PyProof.Rows
set_option maxRecDepth 100000
section
variable {prog : Program} {w : World} {ε : Eps} {F : Facts} {n : Nat} {c : Cx} {W : Wd} {σ : AS} {hl kp : Led} {h : Heap} {m : Str → Option Value} {E : Value → Shared → Prop} {s : Shared}
theorem solid_ok {K : Frag} {v : AV} {u : Value} (hs : solid v = true) (r : R K ε W v u) : handedIn u = true :=
  R.casesOn (motive_1 := fun v u _ => solid v = true → handedIn u = true) r (fun _ => rfl) (fun _ _ => rfl) (fun _ _ _ => rfl) (fun _ _ _ => rfl) (fun _ _ => rfl) (fun _ h => bnf h) (fun _ _ _ => rfl) (fun _ _ _ => rfl) (fun _ _ _ => rfl) (fun _ h => bnf h) hs
structure ClsF (K : Frag) (C : Addr) : Prop where
  get : ∀ n, plainGet K C n = true
  hd : hasDictIn K C = true
  st : findIn K (.ref C) "__setattr__" = some (some (.builtin "object.__setattr__"))
  over : plainOver K C = true
  make : makesIn K C = true
  keep : keepIn K (.ref C) = true
theorem clsF_of {K : Frag} {C : Addr} (e : clsChk K C = true) : ClsF K C :=
  andE e fun a e => andE e fun b e => andE e fun c e => andE e fun d e => andE e fun f g => ⟨fun _ => a, b, ocE c fun o h1 h => ocE h fun v h2 h => ocE h fun s h3 h => by rw [h1, h2, bltI_inv h3, beq_iff_eq.mp h], d, f, g⟩
structure AttF (K : Frag) (C : Addr) (x : Str) : Prop where
  find : ∃ a, findIn K (.ref C) x = some a ∧ noGet K a = true
  take : takerIn K C x = some none
theorem attF_of {K : Frag} {C : Addr} {x : Str} (e : attChk K C x = true) : AttF K C x := andE e fun a b => ⟨ocE a fun v h1 h2 => mk1_2 v h1 h2, nnE b⟩
structure MetF (K : Frag) (C : Addr) (n : Str) (f : Addr) : Prop where
  find : findIn K (.ref C) n = some (some (.ref f))
  fn : isFn K (.ref f) = true
  keep : keepIn K (.ref f) = true
theorem metF_of {K : Frag} {C : Addr} {n : Str} {f : Addr} (e : metChk K C n f = true) : MetF K C n f :=
  andE e fun a e => andE e fun b c => ⟨ocE a fun o h1 h => ocE h fun v h2 h => ocE h fun s h3 h => by rw [h1, h2, refI_inv h3, Nat.eq_of_beq_eq_true h], b, c⟩
theorem setOk_att {P : Params} {C : Addr} {x : Str} (e : setOk C x = true) : attChk (K0 P) C x = true := by
  unfold setOk at e
  generalize q : lookN atab C = o at e
  rcases o with _ | l
  · exact bnf e
  · exact andE (List.all_eq_true.mp (aAll P) _ (lookN_mem q)) fun _ h => List.all_eq_true.mp h _ (hasS_mem e)
theorem methOf_ok {P : Params} {C : Addr} {n : Str} {f : Addr} (e : methOf C n = some f) : MetF (K0 P) C n f := by
  unfold methOf at e
  generalize q : lookN mtab C = o at e
  rcases o with _ | l
  · exact nos e
  · exact andE (List.all_eq_true.mp (mAll P) _ (lookN_mem q)) fun _ h => metF_of (List.all_eq_true.mp h _ (look_mem e))
theorem initOf_ok {P : Params} {C f : Addr} (e : initOf C = some f) : ClsF (K0 P) C ∧ clsChk (K0 P) C = true ∧ MetF (K0 P) C "__init__" f := by
  exact andE (List.all_eq_true.mp (cAll P) _ (lookN_mem e)) fun h1 h2 => ⟨clsF_of h1, h1, metF_of h2⟩
/-- the object of a class behind a label -/
@[elab_as_elim] theorem Pre.instE {P : Value → Led → Prop} {v : Value} (p : Pre prog w ε F n c W σ hl kp h m) {l : Nat} {C : Addr} {attrs : List (Str × AV)} (e : lookN σ.hp l = some (.inst C attrs)) (r : R (Kw w) ε W (.obj l) v)
    (kk : ∀ x dx es k a b, InstAt h x (instObj C dx) C (some (dictOf es k)) → AtR (Kw w) ε W C attrs es → clsChk (Kw w) C = true →
      (∀ attrs' es' k', AtR (Kw w) ε W C attrs' es' → HpR prog w ε W (putNL σ.hp l (.inst C attrs')) (a ++ ([(x, instObj C dx), (dx, dictOf es' k')] ++ b))) → P (.ref x) (a ++ ([(x, instObj C dx), (dx, dictOf es k)] ++ b))) : P v hl :=
  p.findE r e fun x dx os a b ho eh hr => ex2_3 (A0 := fun es n => os = [(x, instObj C dx), (dx, dictOf es n)]) (A1 := fun es _ => AtR (Kw w) ε W C attrs es) (A2 := fun _ _ => clsChk (Kw w) C = true) ho fun es k eo ha hc => by
    have N := p.st.news
    rw [eh, eo] at N ⊢
    exact kk x dx es k a b (InstAt.of_news N (by simp) (by simp)) ha hc fun attrs' es' k' h' => hr _ _ ⟨es', k', rfl, h', hc⟩
theorem Pre.inst (p : Pre prog w ε F n c W σ hl kp h m) {l : Nat} {C : Addr} {attrs : List (Str × AV)} (e : lookN σ.hp l = some (.inst C attrs)) {v : Value} (r : R (Kw w) ε W (.obj l) v) :
    ∃ x dx es k a b, v = .ref x ∧ hl = a ++ ([(x, instObj C dx), (dx, dictOf es k)] ++ b) ∧ InstAt h x (instObj C dx) C (some (dictOf es k)) ∧ AtR (Kw w) ε W C attrs es ∧ clsChk (Kw w) C = true ∧
      (∀ attrs' es' k', AtR (Kw w) ε W C attrs' es' → HpR prog w ε W (putNL σ.hp l (.inst C attrs')) (a ++ ([(x, instObj C dx), (dx, dictOf es' k')] ++ b))) :=
  p.instE e r fun x dx es k a b h1 h2 h3 h4 => mk6_6 x dx es k a b rfl rfl h1 h2 h3 h4
theorem attr_snd {Q : Value → Shared → Prop} {l : Nat} {C : Addr} {attrs : List (Str × AV)} {nm : Str} {v : AV} {x : Value} {ex : Bool} (e : lookN σ.hp l = some (.inst C attrs)) (ea : look attrs nm = some v) (hs : solid v = true) (rx : R (Kw w) ε W (.obj l) x)
    (p : Pre prog w ε F n c W σ hl kp s.heap m) (k : After prog w ε F n c W kp s σ (fun W' s' => ∀ u, R (Kw w) ε W' v u → Q u s')) : wpAny (model prog w) c.A (getAttr x nm ex) Q E s := by
  refine Pre.instE (P := fun x hl => Pre prog w ε F n c W σ hl kp s.heap m → wpAny (model prog w) c.A (getAttr x nm ex) Q E s) p e rx (fun x dx es kk a b I ha hc _ p => ?_) p
  refine ex1_3 (ha.get ea) fun u h1 h2 h3 => ex1_2 (attF_of h3).find fun at' h4 h5 => ?_
  exact get_own p.st.fr p.ok.kin I ((clsF_of hc).get nm) (clsF_of hc).hd h4 h5 h1 (solid_ok hs h2) (p.done k _ _ h2)
theorem seta_snd {Q : Unit → Shared → Prop} {l : Nat} {C : Addr} {attrs : List (Str × AV)} {nm : Str} {v : AV} {x u : Value} (e : lookN σ.hp l = some (.inst C attrs)) (hs : small attrs = true) (ho : setOk C nm = true) (rx : R (Kw w) ε W (.obj l) x) (rv : R (Kw w) ε W v u)
    (p : Pre prog w ε F n c W σ hl kp s.heap m) (k : After prog w ε F n c W kp s (upd σ l (.inst C (put attrs nm v))) (fun _ s' => Q () s')) : wpAny (model prog w) c.A (setAttr x nm u) Q E s := by
  refine Pre.instE (P := fun x hl => Pre prog w ε F n c W σ hl kp s.heap m → wpAny (model prog w) c.A (setAttr x nm u) Q E s) p e rx (fun x dx es kk a b I ha hc hr p => ?_) p
  have cf := clsF_of hc
  have af := attF_of (setOk_att (P := w.params) ho)
  have hput := ha.put (PyData.keyHash w.params nm) (s.toks + 1) (setOk_att ho) rv
  refine set_dict p.st.fr p.ok.kin p.st.news I rfl cf.st cf.over af.take cf.hd (ha.getSome nm) rfl (upd_in2 p.st.lg.nd) ?_ fun h' F' N' => k W _ m h' _ (.refl W) (p.upd1 rfl F' N' (nd_in2 p.st.lg.nd) (hr _ _ _ hput))
  rw [hput.len]
  exact Nat.le_trans (put_len attrs nm v) (Nat.le_trans (Nat.succ_le_succ (small_le hs)) (by decide))
theorem Pre.allocI (p : Pre prog w ε F n c W σ hl kp h m) {h' : Heap} {x dx C : Addr} (F' : Fr c.h₀ c.L h' m) (N' : News c.h₀ c.L h' ((x, instObj C dx) :: (dx, dictOf [] 0) :: (hl ++ (kp ++ W.ims)))) (lt : ∀ q ∈ hl ++ (kp ++ W.ims), q.1 < dx) (lt2 : dx < x)
    (hc : clsChk (Kw w) C = true) : Pre prog w ε F n c (W.lab σ.nx x dx) { σ with hp := (σ.nx, .inst C []) :: σ.hp, nx := σ.nx + 1 } ([(x, instObj C dx), (dx, dictOf [] 0)] ++ hl) kp h' m := by
  have le := W.lab_le x dx p.st.rb (Nat.le_refl _)
  have N1 : News c.h₀ c.L h' ((dx, dictOf [] 0) :: (hl ++ (kp ++ W.ims))) := fun q hq => N' q (.tail _ hq)
  have g1 := Lg.cons N1 lt p.st.lg.nd
  have g2 := Lg.cons N' (fun q hq => (List.mem_cons.mp hq).elim (fun z => z ▸ lt2) fun hq => Nat.lt_trans (lt q hq) lt2) g1.nd
  exact ⟨p.ok, ⟨F', g2, HpR.cons (os := [(x, instObj C dx), (dx, dictOf [] 0)]) (lab_self W _ x dx) ⟨[], 0, rfl, .nil, hc⟩ (p.st.hr.mono le), Wd.lab_rb p.st.rb⟩, p.loc.mono le, p.fk.mono le⟩
theorem list_snd {Q : Value → Shared → Prop} {vs : List AV} {us : List Value} (r : Rl (Kw w) ε W vs us) (hs : vs.length ≤ 1000) (p : Pre prog w ε F n c W σ hl kp s.heap m)
    (k : After prog w ε F n c W kp s (alloc σ (.list none vs)).2 (fun W' s' => ∀ u, R (Kw w) ε W' (alloc σ (.list none vs)).1 u → Q u s')) : wpAny (model prog w) c.A (newList us) Q E s := by
  refine newList_K p.st.fr p.st.news (fun l h' F' N' lt => ?_) (line_of (by rw [r.len]; exact Nat.le_trans hs (by decide)))
  exact k _ _ m h' s.toks (W.lab_le l 0 p.st.rb (Nat.le_refl _)) (p.alloc1 (dx := 0) F' N' lt ⟨us, 0, rfl, (r.rs).mono (W.lab_le l 0 p.st.rb (Nat.le_refl _))⟩) _ (.obj (lab_self W _ l 0))
theorem tup_snd {Q : Value → Shared → Prop} {vs : List AV} {us : List Value} (r : Rl (Kw w) ε W vs us) (hs : vs.length ≤ 1000) (p : Pre prog w ε F n c W σ hl kp s.heap m)
    (k : After prog w ε F n c W kp s σ (fun W' s' => ∀ u, R (Kw w) ε W' (.tup vs) u → Q u s')) : wpAny (model prog w) c.A (newTuple us) Q E s := by
  have lt : ∀ q ∈ hl ++ (kp ++ W.ims), q.1 < s.heap.objs.size := fun q hq => Heap.lt_size (p.st.news q hq).1
  exact newTuple_N p.st.fr p.st.news (fun h' F' N' => k _ _ m h' s.toks (W.add_le _ _) (p.freeze F' N' lt) _ (.tup (.inl (.head _)) (r.rs.mono (W.add_le _ _)))) (line_of (by rw [r.len]; exact Nat.le_trans hs (by decide)))
theorem empty_dct {od : Obj} (hs : od.IsDictOf (strKind prog w) []) (hi : od.IsDictOf (intKind prog w) []) (kd : Nat) : DctR prog w ε W kd none [] od := by
  intro kd' _ _
  rcases kd' with _ | _ | _
  · exact ⟨[], hs, Nat.zero_le _, fun _ => rfl⟩
  · exact ⟨[], hi, Nat.zero_le _, fun _ => rfl⟩
  · obtain ⟨es, ep, hc, hdat, _, hp, _⟩ := hs
    exact ⟨es, ep, [], hc, hdat, List.length_eq_zero_iff.mp hp.length, List.nodup_nil, (fun _ hx => nomatch hx), Nat.zero_le _, fun _ => rfl⟩
theorem dict_snd {Q : Value → Shared → Prop} {pos : Pos} {env : Env} (p : Pre prog w ε F n c W σ hl kp s.heap m)
    (k : After prog w ε F n c W kp s (alloc σ (.dict 0 none [])).2 (fun W' s' => ∀ u, R (Kw w) ε W' (alloc σ (.dict 0 none [])).1 u → Q u s')) : wpAny (model prog w) c.A (eval (.Dict [] [] pos) env) Q E s := by
  refine newDict_K p.st.fr p.st.news p.ok.top.nolimit fun d h' o F' N' lt lo h1 _ h2 _ => ?_
  exact k _ _ m h' s.toks (W.lab_le d 0 p.st.rb (Nat.le_refl _)) (p.alloc1 (dx := 0) F' N' lt ⟨o, rfl, lo, (let ⟨_, _, hx, _⟩ := h1; hx), empty_dct h1 h2 0⟩) _ (.obj (lab_self W _ d 0))
end
end
section
open PySem PySem.W PySem.Calls PyProof.Rows
set_option maxRecDepth 100000
section
variable {prog : Program} {w : World} {ε : Eps} {F : Facts} {n : Nat} {c : Cx} {W : Wd} {σ : AS} {hl kp : Led} {h : Heap} {m : Str → Option Value} {E : Value → Shared → Prop} {s : Shared} {ih : Ih} {sc : Scope}
theorem Pre.move {c' : Cx} {σ : AS} (p : Pre prog w ε F n c W σ hl kp h m) {k : Nat} (o : c'.Ok w k) (e1 : c'.h₀ = c.h₀) (e2 : c'.L = c.L) : Pre prog w ε F k c' W σ hl kp h m :=
  ⟨o, by rw [e1, e2]; exact p.st, p.loc, p.fk⟩
theorem Snd.rF (S : Snd prog w ε F n ih) {f : Addr} {args : List AV} {v : AV} {σ' : AS} (e : runF ih f args σ = some (v, σ')) {us : List Value} {Q : Value → Shared → Prop} (p : Pre prog w ε F (n + 1) c W σ hl kp s.heap m) (r : Rl (Kw w) ε W args us)
    (k : After prog w ε F (n + 1) c W kp s σ' (fun W' s' => ∀ u, R (Kw w) ε W' v u → Q u s')) : wpAny (model prog w) c.A (call (.ref f) us) Q E s :=
  wpAny_call (S.f _ _ _ _ _ (runF_eq e) c W hl kp s m us _ (p.le (Nat.le_succ _)) r fun W' hl' m' h' tk' hw p' u ru => k W' hl' m' h' tk' hw (p'.up p.ok) u ru)
theorem under_new {A : Around} {C : Addr} {pos : List Value} : (A.under (.builtin "type.__call__" ⟨.ref C :: pos, []⟩)).frames = A.frames ∧ (A.under (.builtin "type.__call__" ⟨.ref C :: pos, []⟩)).handled = A.handled ∧
    (A.under (.builtin "type.__call__" ⟨.ref C :: pos, []⟩)).depth ≤ A.depth + 1 ∧ (A.under (.builtin "type.__call__" ⟨.ref C :: pos, []⟩)).units ≤ A.units + 8 := by
  have e1 : (Code.builtin "type.__call__" ⟨.ref C :: pos, []⟩).envs = [] := by kernel_rfl
  have e2 : (Code.builtin "type.__call__" ⟨.ref C :: pos, []⟩).weight = 1 := by kernel_rfl
  have e3 : (Code.builtin "type.__call__" ⟨.ref C :: pos, []⟩).cUnits = 1 := by kernel_rfl
  refine ⟨?_, rfl, ?_, ?_⟩
  · show pushEnvs (Code.builtin "type.__call__" ⟨.ref C :: pos, []⟩).envs A.frames = A.frames
    rw [e1]; rfl
  · show A.depth + (Code.builtin "type.__call__" ⟨.ref C :: pos, []⟩).weight ≤ _
    rw [e2]; exact Nat.le_refl _
  · show A.units + (Code.builtin "type.__call__" ⟨.ref C :: pos, []⟩).cUnits ≤ _
    rw [e3]; exact Nat.add_le_add_left (by decide) _
theorem Cx.Ok.under {c : Cx} {C : Addr} {us : List Value} (o : c.Ok w (n + 1)) : Cx.Ok w { c with A := c.A.under (.builtin "type.__call__" ⟨.ref C :: us, []⟩) } n :=
  have u4 := under_new (A := c.A) (C := C) (pos := us)
  ⟨o.below, u4.1.trans o.frames, u4.2.1.trans o.hand, o.kin, o.top, o.kind, o.dbg, Nat.lt_of_le_of_lt (Nat.add_le_add_right u4.2.2.1 n) (by rw [Nat.add_assoc, Nat.add_comm 1]; exact o.depth),
    Nat.lt_of_le_of_lt (Nat.add_le_add_right (Nat.add_le_add_right u4.2.2.2 _) 64) (Nat.lt_of_le_of_lt (Nat.add_le_add_right (by rw [Nat.mul_succ, Nat.add_assoc, Nat.add_comm 8]; exact Nat.add_le_add_left (Nat.add_le_add_left (by decide) _) _) 64) o.units)⟩
theorem cls_snd (S : Snd prog w ε F n ih) {C i : Addr} {args : List AV} {us : List Value} {σ' : AS} (ei : initOf C = some i) (e : runF ih i ((alloc σ (.inst C [])).1 :: args) (alloc σ (.inst C [])).2 = some (.none, σ')) {Q : Value → Shared → Prop}
    (p : Pre prog w ε F (n + 1) c W σ hl kp s.heap m) (r : Rl (Kw w) ε W args us) (k : After prog w ε F (n + 1) c W kp s σ' (fun W' s' => ∀ u, R (Kw w) ε W' (alloc σ (.inst C [])).1 u → Q u s')) :
    wpAny (model prog w) c.A (call (.ref C) us) Q E s := by
  have io := initOf_ok (P := w.params) ei
  refine call_cls p.st.fr p.ok.kin p.st.news io.1.make io.2.2.find io.2.2.fn fun x dx h' F' N' lt lt2 => ?_
  have le := W.lab_le x dx p.st.rb (Nat.le_refl _)
  have p1 := p.allocI F' N' lt lt2 io.2.1
  have rx : R (Kw w) ε (W.lab σ.nx x dx) (.obj σ.nx) (.ref x) := .obj (lab_self W _ x dx)
  refine S.f _ _ _ _ _ (runF_eq e) { c with A := c.A.under (.builtin "type.__call__" ⟨.ref C :: us, []⟩) } _ _ kp { s with heap := h' } m (.ref x :: us) _ (p1.move p.ok.under rfl rfl) (.cons rx (r.mono le)) fun W' hl' m' h'' tk' hw p' u ru => ?_
  exact R.noneE ru ⟨rfl, k W' hl' m' h'' tk' (le.trans hw) (p'.move p.ok rfl rfl) _ (rx.mono hw)⟩
theorem hasFn_mem {a : Nat} {l : List (Addr × Option Stmt × Option AV)} : hasFn l a = true → ∃ e ∈ l, e.1 = a := by
  induction l with
  | nil => exact fun h => bnf h
  | cons e r ih => exact fun h => (Bool.or_eq_true_iff.mp h).elim (fun h => mk1_2 e (.head _) (Nat.eq_of_beq_eq_true h)) fun h => ex1_2 (ih h) fun e' h1 h2 => mk1_2 e' (.tail _ h1) h2
theorem hasFn_keep {P : Params} {a : Nat} (h : hasFn ftab a = true) : keepIn (K0 P) (.ref a) = true :=
  ex1_2 (hasFn_mem h) fun e h1 h2 => ex1_2 (fnAll P e h1) fun dv h3 _ => by
    obtain ⟨_, _, _, _, _, _, _, hk, _⟩ := h3
    rw [← h2]; exact hk
theorem nk_t {k : NameKind} {b : Bool} : nkOf k = some b → k = cond b .local .globalImplicit := by
  rcases k with _ | _ | _ | _ | _
  · exact fun h => by rw [← Option.some.inj h]; rfl
  · exact fun h => nos h
  · exact fun h => nos h
  · exact fun h => nos h
  · exact fun h => by rw [← Option.some.inj h]; rfl
theorem kindV_t {sc : Scope} {x : Str} {b : Bool} (h : kindV sc x = some b) : sc.names.lookup x = some (cond b .local .globalImplicit) := boE h fun k h1 h2 => h1.trans (congrArg some (nk_t h2))
theorem name_snd {Q : Value → Shared → Prop} {x : Str} {pos : Pos} {v : AV} (hc : c.cs = sc) (e : nameV sc σ x = some v) (p : Pre prog w ε F n c W σ hl kp s.heap m)
    (k : After prog w ε F n c W kp s σ (fun W' s' => ∀ u, R (Kw w) ε W' v u → Q u s')) : wpAny (model prog w) c.A (eval (.Name x pos) c.env) Q E s := by
  refine boE e fun b q e => ?_
  have q := kindV_t q
  rw [← hc] at q
  have hd : (x == ("__debug__" : Str)) = false := by
    rw [str_beq]
    generalize z : sB x ("__debug__" : Str) = t
    rcases t with _ | _
    · rfl
    · rw [sB_eq z, p.ok.dbg] at q; exact nos q
  rcases b with _ | _
  · refine altE e (fun v' z e => ?_) fun _ e => boE e fun bv h1 e => ?_
    · refine ex1_3 (gAll w.params _ (look_mem z)) fun u h1 _ h3 => ?_
      rw [Option.some.inj e] at h3
      exact nameX_K p.st.fr p.ok.kin (topRead_of p.ok.top) h1 (p.done k s.toks _ (h3 ε W)) p.ok.kind q hd
    · refine andE (List.all_eq_true.mp (bAll w.params) _ (look_mem h1)) fun a1 a => andE a fun a2 a => andE a fun _ a4 => ?_
      rw [← Option.some.inj e] at k
      exact nameX_B (v := bv) p.st.fr p.ok.kin (topRead_of p.ok.top) (nnE a1) (ocE a2 fun u z h => by rw [z, eq_of_beq h]) (fun z => by rw [z] at a4; exact bnf a4) (p.done k s.toks _ (.stat _)) p.ok.kind q hd
  · exact ex1_2 (p.loc x v e) fun u h1 h2 => nameX_L p.st.fr h1 (p.done k s.toks _ h2) p.ok.kind q hd
section
variable {op : BoolOp} {pos : Pos} {σ' : AS}
theorem boolV_snd (S : Snd prog w ε F n ih) (hc : c.cs = sc) {v : AV} {vs : List Expr} : ∀ {σ : AS} {W : Wd} {hl kp : Led} {s : Shared} {m : Str → Option Value} {Q : Value → Shared → Prop},
    boolV ih sc op vs σ = some (v, σ') → Pre prog w ε F (n + 1) c W σ hl kp s.heap m → After prog w ε F (n + 1) c W kp s σ' (fun W' s' => ∀ u, R (Kw w) ε W' v u → Q u s') → wpAny (model prog w) c.A (eval (.BoolOp op vs pos) c.env) Q E s := by
  induction vs with
  | nil => exact fun e _ _ => nos e
  | cons x r IH =>
    rcases r with _ | ⟨y, r⟩
    · exact fun e p k => BoolOp_one (S.rE e hc p k)
    · intro σ W hl kp s m Q e p k
      refine biE e fun v₁ σ₁ e1 e => boE e fun b e2 e => ?_
      have stop : ∀ {W' hl' m' h' tk' tk'' u}, W.Le W' → Pre prog w ε F (n + 1) c W' σ₁ hl' kp h' m' → R (Kw w) ε W' v₁ u → some (v₁, σ₁) = some (v, σ') → Q u { ({ s with heap := h', toks := tk' } : Shared) with toks := tk'' } := fun hw p' ru e => som2 e fun h1 h2 => k _ _ _ _ _ hw (h2 ▸ p') _ (h1 ▸ ru)
      have go : ∀ {W' hl' m' h' tk' tk''}, W.Le W' → Pre prog w ε F (n + 1) c W' σ₁ hl' kp h' m' → boolV ih sc op (y :: r) σ₁ = some (v, σ') → wpAny (model prog w) c.A (eval (.BoolOp op (y :: r) pos) c.env) Q E { ({ s with heap := h', toks := tk' } : Shared) with toks := tk'' } := fun {W' hl' m' h' tk' tk''} hw p' e => IH (s := { s with heap := h', toks := tk'' }) e p' fun W'' hl'' m'' h'' tk3 hw' p'' => k W'' hl'' m'' h'' tk3 (hw.trans hw') p''
      rcases op with _ | _
      · refine BoolOp_and (S.rE e1 hc p fun W' hl' m' h' tk' hw p' u ru => truthy_snd e2 ru p' fun tk'' => ?_)
        rcases b with _ | _
        · exact stop hw p' ru e
        · exact go hw p' e
      · refine BoolOp_or (S.rE e1 hc p fun W' hl' m' h' tk' hw p' u ru => truthy_snd e2 ru p' fun tk'' => ?_)
        rcases b with _ | _
        · exact go hw p' e
        · exact stop hw p' ru e
theorem boolT_snd (S : Snd prog w ε F n ih) (hc : c.cs = sc) {v : Bool} {whole : Sem Value} {vs : List Expr} : ∀ {σ : AS} {W : Wd} {hl kp : Led} {s : Shared} {m : Str → Option Value} {Q : Bool → Shared → Prop},
    boolT ih sc op vs σ = some (v, σ') → Pre prog w ε F (n + 1) c W σ hl kp s.heap m → After prog w ε F (n + 1) c W kp s σ' (fun _ s' => Q v s') → wpAny (model prog w) c.A (PySem.isTrue (.BoolOp op vs pos) c.env whole) Q E s := by
  induction vs with
  | nil =>
    intro σ W hl kp s m Q e p k
    refine som2 e fun h1 h2 => ?_
    rw [← h1, ← h2] at k
    rcases op with _ | _
    · exact isTrue_and_nil (p.done k s.toks)
    · exact isTrue_or_nil (p.done k s.toks)
  | cons x r IH =>
    intro σ W hl kp s m Q e p k
    refine biE e fun b σ₁ e1 e => ?_
    have stop : ∀ {W' hl' m' h' tk'}, W.Le W' → Pre prog w ε F (n + 1) c W' σ₁ hl' kp h' m' → some (b, σ₁) = some (v, σ') → Q b { s with heap := h', toks := tk' } := fun hw p' e => som2 e fun h1 h2 => by rw [h1]; exact k _ _ _ _ _ hw (h2 ▸ p')
    have go : ∀ {W' hl' m' h' tk'}, W.Le W' → Pre prog w ε F (n + 1) c W' σ₁ hl' kp h' m' → boolT ih sc op r σ₁ = some (v, σ') → wpAny (model prog w) c.A (PySem.isTrue (.BoolOp op r pos) c.env whole) Q E { s with heap := h', toks := tk' } := fun {W' hl' m' h' tk'} hw p' e => IH (s := { s with heap := h', toks := tk' }) e p' fun W'' hl'' m'' h'' tk3 hw' p'' => k W'' hl'' m'' h'' tk3 (hw.trans hw') p''
    rcases op with _ | _
    · refine isTrue_and (S.rT e1 hc p fun W' hl' m' h' tk' hw p' => ?_)
      rcases b with _ | _
      · exact stop hw p' e
      · exact go hw p' e
    · refine isTrue_or (S.rT e1 hc p fun W' hl' m' h' tk' hw p' => ?_)
      rcases b with _ | _
      · exact go hw p' e
      · exact stop hw p' e
end
end
end
section
open PySem PySem.W PySem.Calls PyProof.Rows
set_option maxRecDepth 100000
section
variable {prog : Program} {w : World} {ε : Eps} {F : Facts} {n : Nat} {c : Cx} {W : Wd} {σ : AS} {hl kp : Led} {h : Heap} {m : Str → Option Value} {E : Value → Shared → Prop} {s : Shared} {ih : Ih} {sc : Scope}
@[elab_as_elim] theorem Rl.oneE {K : Frag} {P : List Value → Prop} {v : AV} {us : List Value} (r : Rl K ε W [v] us) (k : ∀ u, R K ε W v u → P [u]) : P us := Rl.consE r fun u t r1 r2 => Rl.nilE (P := fun t => P (u :: t)) r2 (k u r1)
@[elab_as_elim] theorem Rl.twoE {K : Frag} {P : List Value → Prop} {v v' : AV} {us : List Value} (r : Rl K ε W [v, v'] us) (k : ∀ u u', R K ε W v u → R K ε W v' u' → P [u, u']) : P us := Rl.consE r fun u t r1 r2 => Rl.oneE (P := fun t => P (u :: t)) r2 fun u' r2 => k u u' r1 r2
theorem Rl.one {K : Frag} {v : AV} {us : List Value} (r : Rl K ε W [v] us) : ∃ u, us = [u] ∧ R K ε W v u := r.oneE fun u h => ⟨u, rfl, h⟩
theorem getD_has {r : Option AV} {o : Option Value} (ho : match (generalizing := false) r with | some v => ∃ u, o = some u ∧ R (Kw w) ε W v u | none => o = none) {d : AV} {ud : Value} (rd : R (Kw w) ε W d ud) : R (Kw w) ε W (r.getD d) (o.getD ud) := by
  rcases r with _ | v
  · rw [show o = none from ho]; exact rd
  · exact ex1_2 ho fun u h1 h => by rw [h1]; exact h
theorem oneA_inv {l : List AV} {a : AV} (h : oneA l = some a) : l = [a] := by
  rcases l with _ | ⟨x, _ | ⟨y, r⟩⟩
  · exact nos h
  · exact congrArg (fun x => [x]) (Option.some.inj h)
  · exact nos h
theorem nilVs_inv {l : List AV} (h : nilVs l = true) : l = [] := by
  rcases l with _ | ⟨x, r⟩
  · rfl
  · exact bnf h
theorem argsDE {l : List AV} {k : AV} {d : Option AV} (h : argsD l = some (k, d)) {p : Prop} (k1 : l = [k] → d = none → p) (k2 : ∀ d', l = [k, d'] → d = some d' → p) : p := by
  rcases l with _ | ⟨x, _ | ⟨y, _ | ⟨z, r⟩⟩⟩
  · exact nos h
  · exact som2 h fun h1 h2 => k1 (by rw [h1]) h2.symm
  · exact som2 h fun h1 h2 => k2 y (by rw [h1]) h2.symm
  · exact nos h
/-- the method of a list, found -/
theorem gm_list {Q : Value × List Value → Shared → Prop} {l : Nat} {pre : Option Nat} {items : List AV} {nm : Str} {id : String} {x : Value} {pl : Sem Bool} (e : lookN σ.hp l = some (.list pre items)) (rx : R (Kw w) ε W (.obj l) x) (p : Pre prog w ε F n c W σ hl kp s.heap m)
    (slot : Slot "list" nm id) (ty : typeOf (.builtin id) = pure (.type "method_descriptor")) (k : Q (.builtin id, [x]) s) : wpAny (model prog w) c.A (getMethod x nm pl) Q E s := by
  exact p.listE rx e (fun y us kk hm _ _ k => kl_method p.st.news (List.mem_append_left _ hm) slot ty k) k
theorem gm_dict {Q : Value × List Value → Shared → Prop} {l kd : Nat} {base : Option Nat} {ents : List (AKey × AV)} {nm : Str} {id : String} {x : Value} {pl : Sem Bool} (e : lookN σ.hp l = some (.dict kd base ents)) (rx : R (Kw w) ε W (.obj l) x) (p : Pre prog w ε F n c W σ hl kp s.heap m)
    (slot : Slot "dict" nm id) (ty : typeOf (.builtin id) = pure (.type "method_descriptor")) (k : Q (.builtin id, [x]) s) : wpAny (model prog w) c.A (getMethod x nm pl) Q E s := by
  refine R.objE (P := fun x => Q (.builtin id, [x]) s → wpAny (model prog w) c.A (getMethod x nm pl) Q E s) rx (fun y dx q k => p.at e q fun os ho hm => ex1_4 (A0 := fun od => os = [(y, od)]) (A1 := fun _ => (y == sysModules) = false) (A2 := fun od => od.ExactDict) (A3 := fun od => DctR prog w ε W kd base ents od) ho fun od eo _ hx _ => ?_) k
  have g := (p.st.news (y, od) (List.mem_append_left _ (hm _ (by rw [eo]; exact .head _)))).1
  exact getMethod_builtin (T := "dict") ⟨od, g, hx.1⟩ PySem.F.plainAttrs_dict slot ty (fun a e => by rw [← Value.ref.inj e]; exact ⟨od, g, hx.2.1⟩) k
theorem call_list_meth (S : Snd prog w ε F n ih) (hc : c.cs = sc) {Q : Value → Shared → Prop} {l : Nat} {pre : Option Nat} {items : List AV} {nm : Str} {args : List Expr} {vs : List AV} {σ₁ σ' : AS} {v : AV} {x : Value} {pos : Pos} {pl : Sem Bool} (hst : noStars args = true)
    (e : lookN σ.hp l = some (.list pre items)) (ev : evs ih sc args σ = some (vs, σ₁)) (eb : listMeth σ₁ l nm vs = some (v, σ')) (rx : R (Kw w) ε W (.obj l) x)
    (p : Pre prog w ε F (n + 1) c W σ hl kp s.heap m) (k : After prog w ε F (n + 1) c W kp s σ' (fun W' s' => ∀ u, R (Kw w) ε W' v u → Q u s')) :
    wpAny (model prog w) c.A (getMethod x nm pl) (fun fx s₂ => wpAny (model prog w) c.A (callWith pos fx.1 fx.2 (backTo pos (starEach args c.env)) []) Q E s₂) E s := by
  refine objE eb fun pre₁ items₁ q eb => condE eb (fun z eb => boE eb fun v₀ e1 eb => gdE eb fun hs eb => ?_) fun _ eb => gdE eb fun z eb => gdE eb fun z0 eb => boE eb fun v₀ z2 eb => gdE eb fun hs eb => ?_
  · rw [sB_eq z]
    refine gm_list e rx p PySem.F.slot_list_append PySem.F.type_list_append ?_
    refine callWith_list (P := fun _ => True) hst keeps_bi (S.evs hc ev hst p fun W' hl' m' h' tk' hw p' us rus => ⟨True.intro, ?_⟩)
    rw [oneA_inv e1] at rus
    refine Rl.oneE rus fun u ru => som2 eb fun h1 h2 => ?_
    exact append_snd q hs (rx.mono hw) ru p' fun W'' hl'' m'' h'' tk'' hw' p'' => k W'' hl'' m'' h'' tk'' (hw.trans hw') (h2 ▸ p'') _ (h1 ▸ .none)
  · rw [sB_eq z]
    refine gm_list e rx p PySem.F.slot_list_pop PySem.F.type_list_pop ?_
    refine callWith_list (P := fun _ => True) hst keeps_bi (S.evs hc ev hst p fun W' hl' m' h' tk' hw p' us rus => ⟨True.intro, ?_⟩)
    rw [nilVs_inv z0] at rus
    refine Rl.nilE rus (som2 eb fun h1 h2 => ?_)
    exact pop_snd q hs z2 (rx.mono hw) p' fun W'' hl'' m'' h'' tk'' hw' p'' u ru => k W'' hl'' m'' h'' tk'' (hw.trans hw') (h2 ▸ p'') u (h1 ▸ ru)
theorem call_dict_meth (S : Snd prog w ε F n ih) (hc : c.cs = sc) {Q : Value → Shared → Prop} {l kd : Nat} {base : Option Nat} {ents : List (AKey × AV)} {nm : Str} {args : List Expr} {vs : List AV} {σ₁ σ' : AS} {v : AV} {x : Value} {pos : Pos} {pl : Sem Bool} (hst : noStars args = true)
    (e : lookN σ.hp l = some (.dict kd base ents)) (ev : evs ih sc args σ = some (vs, σ₁)) (eb : dictMeth F σ₁ l nm vs = some (v, σ')) (rx : R (Kw w) ε W (.obj l) x)
    (p : Pre prog w ε F (n + 1) c W σ hl kp s.heap m) (k : After prog w ε F (n + 1) c W kp s σ' (fun W' s' => ∀ u, R (Kw w) ε W' v u → Q u s')) :
    wpAny (model prog w) c.A (getMethod x nm pl) (fun fx s₂ => wpAny (model prog w) c.A (callWith pos fx.1 fx.2 (backTo pos (starEach args c.env)) []) Q E s₂) E s := by
  refine dictNE eb fun kd₁ q₁ q eb => gdE eb fun z eb => biE eb fun ka da ea eb => boE eb fun key z1 eb => boE eb fun r z2 eb => som2 eb fun h1 h2 => ?_
  rw [sB_eq z]
  refine gm_dict e rx p PySem.F.slot_dict_get PySem.F.type_dict_get ?_
  refine callWith_list (P := fun _ => True) hst keeps_bi (S.evs hc ev hst p fun W' hl' m' h' tk' hw p' us rus => ⟨True.intro, ?_⟩)
  have hu : c.A.units + 64 < 9900 := Nat.lt_of_le_of_lt (Nat.add_le_add_right (Nat.le_add_right _ _) 64) p.ok.units
  refine p'.dictE (rx.mono hw) q fun y od _ g lo d => p'.hasE g d z2 fun o hd ho => ?_
  refine argsDE ea (fun e1 e2 => ?_) fun d' e1 e2 => ?_
  · rw [e1] at rus; rw [e2] at h1
    exact Rl.oneE rus fun u ru => get_has1 (s := { s with heap := h', toks := tk' }) hu hd lo (p'.key z1 ru) fun tk'' => k W' hl' m' h' tk'' hw (h2 ▸ p') _ (h1 ▸ getD_has ho .none)
  · rw [e1] at rus; rw [e2] at h1
    exact Rl.twoE rus fun u u' ru ru' => get_has2 (s := { s with heap := h', toks := tk' }) hu hd lo (p'.key z1 ru) fun tk'' => k W' hl' m' h' tk'' hw (h2 ▸ p') _ (h1 ▸ getD_has ho ru')
theorem call_inst_meth (S : Snd prog w ε F n ih) (hc : c.cs = sc) {Q : Value → Shared → Prop} {l : Nat} {C f : Addr} {attrs : List (Str × AV)} {nm : Str} {args : List Expr} {vs : List AV} {σ₁ σ' : AS} {v : AV} {x : Value} {pos : Pos} {pl : Sem Bool} (hst : noStars args = true)
    (e : lookN σ.hp l = some (.inst C attrs)) (ea : look attrs nm = none) (em : methOf C nm = some f) (ev : evs ih sc args σ = some (vs, σ₁)) (eb : runF ih f (.obj l :: vs) σ₁ = some (v, σ')) (rx : R (Kw w) ε W (.obj l) x)
    (p : Pre prog w ε F (n + 1) c W σ hl kp s.heap m) (k : After prog w ε F (n + 1) c W kp s σ' (fun W' s' => ∀ u, R (Kw w) ε W' v u → Q u s')) :
    wpAny (model prog w) c.A (getMethod x nm pl) (fun fx s₂ => wpAny (model prog w) c.A (callWith pos fx.1 fx.2 (backTo pos (starEach args c.env)) []) Q E s₂) E s := by
  refine Pre.instE (P := fun x hl => Pre prog w ε F (n + 1) c W σ hl kp s.heap m → R (Kw w) ε W (.obj l) x → wpAny (model prog w) c.A (getMethod x nm pl) (fun fx s₂ => wpAny (model prog w) c.A (callWith pos fx.1 fx.2 (backTo pos (starEach args c.env)) []) Q E s₂) E s) p e rx (fun y dx es kk a b I ha hcl _ p rx => ?_) p rx
  have mf := methOf_ok (P := w.params) em
  refine method_inst p.st.fr p.ok.kin I ((clsF_of hcl).get nm) mf.find mf.fn (ha.none ea) ?_
  refine callWith_list (P := fun h => (Kw w).In h) hst (keeps_K mf.keep) (S.evs hc ev hst p fun W' hl' m' h' tk' hw p' us rus => ⟨p'.kin, ?_⟩)
  exact S.rF (s := { s with heap := h', toks := tk' }) eb p' (.cons (rx.mono hw) rus) fun W'' hl'' m'' h'' tk'' hw' p'' => k W'' hl'' m'' h'' tk'' (hw.trans hw') p''
theorem statA_inv {v : AV} {x : Value} (h : statA v = some x) : v = .stat x := by
  rcases v with _ | _ | _ | _ | _ | x | _ | _ | _ | _ | _ <;> first | exact nos h | exact congrArg AV.stat (Option.some.inj h)
noncomputable def afV (f : AF) : Value := AF.casesOn f .ref .builtin .type
set_option tactic.hygienic false in
theorem refV_af {v : Value} {f : AF} : refV v = some f → v = afV f := by
  induction v using Value.casesOn with
  | ref a => exact fun h => congrArg afV (Option.some.inj h)
  | builtin a => exact fun h => congrArg afV (Option.some.inj h)
  | type a => exact fun h => congrArg afV (Option.some.inj h)
  | _ => exact fun h => nos h
theorem refV_fn {v : Value} {a : Addr} (h : refV v = some (.fn a)) : v = .ref a := refV_af h
theorem refV_bi {v : Value} {a : String} (h : refV v = some (.bi a)) : v = .builtin a := refV_af h
theorem refV_ty {v : Value} {a : String} (h : refV v = some (.ty a)) : v = .type a := refV_af h
theorem callV_snd (S : Snd prog w ε F n ih) {Q : Value → Shared → Prop} {f : AV} {vs : List AV} {σ' : AS} {v : AV} {fu : Value} {us : List Value}
    (e : callV ih f vs σ = some (v, σ')) (rf : R (Kw w) ε W f fu) (rus : Rl (Kw w) ε W vs us) (p : Pre prog w ε F (n + 1) c W σ hl kp s.heap m)
    (k : After prog w ε F (n + 1) c W kp s σ' (fun W' s' => ∀ u, R (Kw w) ε W' v u → Q u s')) : wpAny (model prog w) c.A (call fu us) Q E s := by
  refine boE e fun fv z e => boE e fun fa z2 e => ?_
  rw [statA_inv z] at rf
  refine R.statE rf ?_
  rcases fa with a | nm | nm
  · rw [refV_fn z2]
    refine altE e (fun i ei e => biE e fun v' σ'' e1 e => gdE e fun hn e => som2 e fun h1 h2 => ?_) fun _ e => gdE e fun _ e => S.rF e p rus k
    rw [isNoneA_inv hn] at e1
    exact cls_snd S ei e1 p rus fun W'' hl'' m'' h'' tk'' hw' p'' u ru => k W'' hl'' m'' h'' tk'' hw' (h2 ▸ p'') u (h1 ▸ ru)
  · refine gdE e fun zn e => boE e fun a1 e1 e => boE e fun r e2 e => som2 e fun h1 h2 => ?_
    rw [refV_bi z2, eq_of_beq zn]
    rw [oneA_inv e1] at rus
    exact Rl.oneE rus fun u ru => len_snd e2 ru p fun W'' hl'' m'' h'' tk'' hw' p'' u ru => k W'' hl'' m'' h'' tk'' hw' (h2 ▸ p'') u (h1 ▸ ru)
  · refine gdE e fun zn e => boE e fun a1 e1 e => boE e fun xs e2 e => som2 e fun h1 h2 => ?_
    rw [refV_ty z2, eq_of_beq zn]
    rw [oneA_inv e1] at rus
    have k' : After prog w ε F (n + 1) c W kp s σ (fun W' s' => ∀ u, R (Kw w) ε W' (.tup xs) u → Q u s') := fun W'' hl'' m'' h'' tk'' hw' p'' u ru => k W'' hl'' m'' h'' tk'' hw' (h2 ▸ p'') u (h1 ▸ ru)
    refine Rl.oneE rus fun u ru => altE e2 (fun vs0 e3 e2 => ?_) fun _ e2 => boE e2 fun xs' e3 e2 => gdE e2 fun hs e2 => ?_
    · rw [tupA_inv e3, Option.some.inj e2] at ru
      exact tuple_same ru p k'
    · rw [Option.some.inj e2] at e3 hs
      exact tuple_snd e3 hs ru p k'
/-- what is called keeps its place -/
theorem callV_keep {f : AV} {vs : List AV} {σ' : AS} {v : AV} {fu : Value} (e : callV ih f vs σ = some (v, σ')) (rf : R (Kw w) ε W f fu) {p : Prop}
    (kk : ∀ P : Heap → Prop, (∀ h, (Kw w).In h → P h) → (∀ {M : Model} (h : Heap), P h → ∃ k, (k = Keeper.frame ∨ k = Keeper.machine ∨ k = Keeper.boundFrame) ∧ Looks M h (keeperOf fu) k) → p) : p := by
  refine boE e fun fv z e => boE e fun fa z2 e => ?_
  rw [statA_inv z] at rf
  have hf : fu = afV fa := R.statE rf (refV_af z2)
  rw [hf] at kk
  rcases fa with a | nm | nm
  · exact altE e (fun i ei _ => kk (Kw w).In (fun _ x => x) (keeps_K (initOf_ok (P := w.params) ei).1.keep)) fun _ e => gdE e fun z _ => kk (Kw w).In (fun _ x => x) (keeps_K (hasFn_keep (P := w.params) z))
  · exact kk (fun _ => True) (fun _ _ => True.intro) keeps_bi
  · exact kk (fun _ => True) (fun _ _ => True.intro) keeps_ty
theorem call_name (S : Snd prog w ε F n ih) (hc : c.cs = sc) {Q : Value → Shared → Prop} {g : Expr} {args : List Expr} {f : AV} {vs : List AV} {σ₁ σ₂ σ' : AS} {v : AV} {pos : Pos} (hst : noStars args = true)
    (e1 : runE ih sc g σ = some (f, σ₁)) (ev : evs ih sc args σ₁ = some (vs, σ₂)) (e2 : callV ih f vs σ₂ = some (v, σ'))
    (p : Pre prog w ε F (n + 1) c W σ hl kp s.heap m) (k : After prog w ε F (n + 1) c W kp s σ' (fun W' s' => ∀ u, R (Kw w) ε W' v u → Q u s')) :
    wpAny (model prog w) c.A (do callWith pos (← eval g c.env) [] (backTo pos (starEach args c.env)) (backToKw pos (keywordEach [] c.env))) Q E s := by
  refine wpAny_bind (S.rE e1 hc p fun W' hl' m' h' tk' hw p' fu rf => ?_)
  refine callV_keep e2 rf fun P hP hk => ?_
  refine callWith_list (P := P) hst hk (S.evs (s := { s with heap := h', toks := tk' }) hc ev hst p' fun W'' hl'' m'' h'' tk'' hw' p'' us rus => ⟨hP _ p''.kin, ?_⟩)
  exact callV_snd S (s := { s with heap := h'', toks := tk'' }) e2 (rf.mono hw') rus p'' fun W3 hl3 m3 h3 tk3 hw3 p3 => k W3 hl3 m3 h3 tk3 ((hw.trans hw').trans hw3) p3
end
end
section
open PySem PySem.W PySem.Calls PyProof.Rows
set_option maxRecDepth 100000
section
variable {prog : Program} {w : World} {ε : Eps} {F : Facts} {n : Nat} {c : Cx} {W : Wd} {σ : AS} {hl kp : Led} {h : Heap} {m : Str → Option Value} {E : Value → Shared → Prop} {s : Shared} {ih : Ih} {sc : Scope}
theorem evs_len {args : List Expr} : ∀ {vs : List AV} {σ σ' : AS}, evs ih sc args σ = some (vs, σ') → vs.length = args.length := by
  induction args with
  | nil => exact fun e => som2 e fun h1 _ => by rw [← h1]; rfl
  | cons x r IH => exact fun e => biE e fun v σ₁ _ e => biE e fun vs' σ₂ e2 e => som2 e fun h1 _ => by rw [← h1]; exact congrArg Nat.succ (IH e2)
set_option tactic.hygienic false in
theorem litE_inv {x : Expr} {i : Int} : litE x = some i → ∃ k p, x = .Constant (.int i) k p := by
  induction x using Expr.casesOn with
  | Constant c k p => induction c using Const.casesOn with
    | int j => exact fun h => ⟨k, p, by rw [Option.some.inj h]⟩
    | _ => exact fun h => nos h
  | _ => exact fun h => nos h
theorem one1_inv {α : Type} {l : List α} {a : α} (h : one1 l = some a) : l = [a] := by
  rcases l with _ | ⟨x, _ | ⟨y, r⟩⟩
  · exact nos h
  · exact congrArg (fun x => [x]) (Option.some.inj h)
  · exact nos h
theorem one2_inv {ops : List CmpOp} {rs : List Expr} {op : CmpOp} {r : Expr} (h : one2 ops rs = some (op, r)) : ops = [op] ∧ rs = [r] := boE h fun _ h1 h => boE h fun _ h2 h => som2 h fun e1 e2 => ⟨e1 ▸ one1_inv h1, e2 ▸ one1_inv h2⟩
theorem nilL_inv {α : Type} {l : List α} (h : nilL l = true) : l = [] := by
  rcases l with _ | ⟨x, r⟩
  · rfl
  · exact bnf h
theorem instOf_inv {v : AV} {l : Nat} {q : Addr × List (Str × AV)} (h : instOf σ v = some (l, q)) : v = .obj l ∧ lookN σ.hp l = some (.inst q.1 q.2) :=
  boE h fun l' h1 h => boE h fun o h2 h => boE h fun q' h3 h => som2 h fun e1 e2 => by rw [← e1, ← e2]; exact ⟨objL_inv h1, h2.trans (congrArg some (instO_inv h3))⟩
theorem twoE {l r : Expr} {a : AV} {q : AV × AS} (h : two ih sc l r σ = some (a, q)) {p : Prop} (k : ∀ σ₁, runE ih sc l σ = some (a, σ₁) → runE ih sc r σ₁ = some (q.1, q.2) → p) : p :=
  biE h fun a' σ₁ h1 h => biE h fun b' σ₂ h2 h => som2 h fun e1 e2 => k σ₁ (e1 ▸ h1) (by rw [← e2]; exact h2)
theorem xSeq_inv {es : List Expr} {vs : List AV} {σ' : AS} (h : xSeq ih sc es σ = some (vs, σ')) : noStars es = true ∧ vs.length ≤ 100 ∧ evs ih sc es σ = some (vs, σ') :=
  gdE h fun z h => andE z fun z1 z2 => ⟨z1, by rw [evs_len h]; exact small_le z2, h⟩
theorem two_snd (S : Snd prog w ε F n ih) (hc : c.cs = sc) {l r : Expr} {a : AV} {q : AV × AS} {Q : Value → Shared → Prop} {f : Value → Value → Sem Value} {x : Sem Value} (e : two ih sc l r σ = some (a, q)) (p : Pre prog w ε F (n + 1) c W σ hl kp s.heap m)
    (hx : wpAny (model prog w) c.A (eval l c.env) (fun u s₁ => wpAny (model prog w) c.A (eval r c.env) (fun v s₂ => wpAny (model prog w) c.A (f u v) Q E s₂) E s₁) E s → wpAny (model prog w) c.A x Q E s)
    (k : ∀ W' hl' m' h' tk' u v, W.Le W' → R (Kw w) ε W' a u → R (Kw w) ε W' q.1 v → Pre prog w ε F (n + 1) c W' q.2 hl' kp h' m' → wpAny (model prog w) c.A (f u v) Q E { s with heap := h', toks := tk' }) : wpAny (model prog w) c.A x Q E s :=
  twoE e fun σ₁ e1 e2 => hx (S.rE e1 hc p fun W' hl' m' h' tk' hw p' u ru =>
    S.rE (s := { s with heap := h', toks := tk' }) e2 hc p' fun W'' hl'' m'' h'' tk'' hw' p'' u' ru' => k W'' hl'' m'' h'' tk'' u u' (hw.trans hw') (ru.mono hw') ru' p'')
section
variable {Q : Value → Shared → Prop} {v : AV} {σ' : AS}
set_option tactic.hygienic false in
theorem xCon_snd {x : Const} {k0 : Nat} {ps : Pos} (e : xCon x = some v) (p : Pre prog w ε F (n + 1) c W σ hl kp s.heap m) (k : After prog w ε F (n + 1) c W kp s σ (fun W' s' => ∀ u, R (Kw w) ε W' v u → Q u s')) :
    wpAny (model prog w) c.A (eval (.Constant x k0 ps) c.env) Q E s := by
  induction x using Const.casesOn with
  | none => exact wpAny_Constant_none (p.done k _ _ (Option.some.inj e ▸ .none))
  | bool b => exact wpAny_Constant_bool (p.done k _ _ (Option.some.inj e ▸ .bool _))
  | int i => exact wpAny_Constant_int (p.done k _ _ (Option.some.inj e ▸ .int (.lit _) _))
  | str t => exact wpAny_Constant_str (p.done k _ _ (Option.some.inj e ▸ .str _ _))
  | _ => exact nos e
theorem xAttr_snd (S : Snd prog w ε F n ih) (hc : c.cs = sc) {o : Expr} {nm : Str} {ps : Pos} (z : isCallE o = false) (e : xAttr ih sc o nm σ = some (v, σ')) (p : Pre prog w ε F (n + 1) c W σ hl kp s.heap m) (k : After prog w ε F (n + 1) c W kp s σ' (fun W' s' => ∀ u, R (Kw w) ε W' v u → Q u s')) :
    wpAny (model prog w) c.A (eval (.Attribute o nm ps) c.env) Q E s := by
  refine biE e fun v₁ σ₁ e1 e => biE e fun l q q0 e => boE e fun v₂ q2 e => gdE e fun hs e => som2 e fun h1 h2 => ?_
  have qq := instOf_inv q0
  rw [qq.1] at e1
  rw [← h1, ← h2] at k
  refine Attribute_any_ (S.rE e1 hc p fun W' hl' m' h' tk' hw p' u ru => ?_) ?_
  · exact attr_snd qq.2 q2 hs ru p' fun W'' hl'' m'' h'' tk'' hw' p'' => k W'' hl'' m'' h'' tk'' (hw.trans hw') p''
  · show (do let o ← attributeBase o nm c.env (eval o c.env); standAt ps.atName; let r ← holding [o] (getAttr o nm true); letTemporaryGo _ o r; pure r) = _
    rw [attrBase z]
set_option tactic.hygienic false in
theorem xUn_snd (S : Snd prog w ε F n ih) (hc : c.cs = sc) {op : UnaryOp} {x : Expr} {ps : Pos} (e : xUn ih sc op x σ = some (v, σ')) (p : Pre prog w ε F (n + 1) c W σ hl kp s.heap m) (k : After prog w ε F (n + 1) c W kp s σ' (fun W' s' => ∀ u, R (Kw w) ε W' v u → Q u s')) :
    wpAny (model prog w) c.A (eval (.UnaryOp op x ps) c.env) Q E s := by
  induction op with
  | USub =>
    exact boE e fun i h1 e => som2 e fun h2 h3 => ex2_1 (litE_inv h1) fun k1 p1 hx => by
      rw [hx]
      rw [← h2, ← h3] at k
      exact UnaryOp_ (wpAny_Constant_int (neg_int (p.done k _ _ (.int (.lit _) _))))
  | Not => exact biE e fun v₁ σ₁ e1 e => boE e fun b h1 e => som2 e fun h2 h3 => UnaryOp_ (S.rE e1 hc p fun W' hl' m' h' tk' hw p' u ru => not_of (truthy_snd h1 ru p' fun tk'' => k W' hl' m' h' tk'' hw (h3 ▸ p') _ (h2 ▸ .bool _)))
  | _ => exact nos e
theorem xBin_snd (S : Snd prog w ε F n ih) (hc : c.cs = sc) {op : Operator} {x y : Expr} {ps : Pos} (e : xBin ih F sc x op y σ = some (v, σ')) (p : Pre prog w ε F (n + 1) c W σ hl kp s.heap m) (k : After prog w ε F (n + 1) c W kp s σ' (fun W' s' => ∀ u, R (Kw w) ε W' v u → Q u s')) :
    wpAny (model prog w) c.A (eval (.BinOp x op y ps) c.env) Q E s :=
  biE e fun a q e1 e => boE e fun r h1 e => som2 e fun h2 h3 => two_snd S hc e1 p (f := fun u v => binaryOp op u v) (fun h => wpAny_BinOp h) fun W' hl' m' h' tk' u u' hw ru ru' p' =>
    bin_snd (s := { s with heap := h', toks := tk' }) h1 ru ru' p' fun W3 hl3 m3 h3' tk3 hw3 p3 u3 r3 => k W3 hl3 m3 h3' tk3 (hw.trans hw3) (h3 ▸ p3) u3 (h2 ▸ r3)
theorem xSub_snd (S : Snd prog w ε F n ih) (hc : c.cs = sc) {x y : Expr} {ps : Pos} (z : isSlice y = false) (e : xSub ih F sc x y σ = some (v, σ')) (p : Pre prog w ε F (n + 1) c W σ hl kp s.heap m) (k : After prog w ε F (n + 1) c W kp s σ' (fun W' s' => ∀ u, R (Kw w) ε W' v u → Q u s')) :
    wpAny (model prog w) c.A (eval (.Subscript x y ps) c.env) Q E s :=
  biE e fun a q e1 e => boE e fun r h1 e => som2 e fun h2 h3 => two_snd S hc e1 p (f := fun u v => subscriptTail x y u v) (fun h => Subscript_ h) fun W' hl' m' h' tk' u u' hw ru ru' p' =>
    sub_snd (s := { s with heap := h', toks := tk' }) z h1 ru ru' p' fun W3 hl3 m3 h3' tk3 hw3 p3 u3 r3 => k W3 hl3 m3 h3' tk3 (hw.trans hw3) (h3 ▸ p3) u3 (h2 ▸ r3)
theorem xIf_snd (S : Snd prog w ε F n ih) (hc : c.cs = sc) {t a b : Expr} {ps : Pos} (e : xIf ih sc t a b σ = some (v, σ')) (p : Pre prog w ε F (n + 1) c W σ hl kp s.heap m) (k : After prog w ε F (n + 1) c W kp s σ' (fun W' s' => ∀ u, R (Kw w) ε W' v u → Q u s')) :
    wpAny (model prog w) c.A (eval (.IfExp t a b ps) c.env) Q E s := by
  refine biE e fun cc σ₁ e1 e => IfExp_ (S.rT e1 hc p fun W' hl' m' h' tk' hw p' => ?_)
  rcases cc with _ | _ <;> exact S.rE (s := { s with heap := h', toks := tk' }) e hc p' fun W'' hl'' m'' h'' tk'' hw' p'' => k W'' hl'' m'' h'' tk'' (hw.trans hw') p''
theorem xMeth_snd (S : Snd prog w ε F n ih) (hc : c.cs = sc) {l : Nat} {ob : AO} {nm : Str} {args : List Expr} {x : Value} {pos : Pos} {pl : Sem Bool} (hst : noStars args = true) (q : lookN σ.hp l = some ob) (e : xMeth ih F sc l nm args σ ob = some (v, σ')) (rx : R (Kw w) ε W (.obj l) x)
    (p : Pre prog w ε F (n + 1) c W σ hl kp s.heap m) (k : After prog w ε F (n + 1) c W kp s σ' (fun W' s' => ∀ u, R (Kw w) ε W' v u → Q u s')) :
    wpAny (model prog w) c.A (getMethod x nm pl) (fun fx s₂ => wpAny (model prog w) c.A (callWith pos fx.1 fx.2 (backTo pos (starEach args c.env)) []) Q E s₂) E s := by
  rcases ob with ⟨a, b⟩ | ⟨C, attrs⟩ | ⟨kd, a, b⟩
  · exact biE e fun vs σ₁ ev e => call_list_meth S hc hst q ev e rx p k
  · exact altE e (fun _ _ h => nos h) fun q2 e => boE e fun f em e => biE e fun vs σ₁ ev e => call_inst_meth S hc hst q q2 em ev e rx p k
  · exact biE e fun vs σ₁ ev e => call_dict_meth S hc hst q ev e rx p k
theorem xCallM_snd (S : Snd prog w ε F n ih) (hc : c.cs = sc) {o : Expr} {nm : Str} {ap pos : Pos} {args : List Expr} (z : (!isCallE o && noStars args && Nat.blt args.length 30 && Nat.beq ap.endLine pos.line) = true) (e : xCallM ih F sc o nm args σ = some (v, σ'))
    (p : Pre prog w ε F (n + 1) c W σ hl kp s.heap m) (k : After prog w ε F (n + 1) c W kp s σ' (fun W' s' => ∀ u, R (Kw w) ε W' v u → Q u s')) :
    wpAny (model prog w) c.A (eval (.Call (.Attribute o nm ap) args [] pos) c.env) Q E s :=
  andE z fun z z4 => andE z fun z z3 => andE z fun z1 z2 => biE e fun v₁ σ₁ e1 e => boE e fun l q0 e => boE e fun ob q e => by
    rw [objL_inv q0] at e1
    exact call_meth (notE z1) z2 (Nat.blt_eq.mp z3) (Nat.eq_of_beq_eq_true z4) (S.rE e1 hc p fun W' hl' m' h' tk' hw p' u ru pl =>
      xMeth_snd (s := { s with heap := h', toks := tk' }) S hc z2 q e ru p' fun W'' hl'' m'' h'' tk'' hw' p'' => k W'' hl'' m'' h'' tk'' (hw.trans hw') p'')
set_option tactic.hygienic false in
@[elab_as_elim] theorem xCallE {P : Expr → Prop} {f : Expr} {pos : Pos} {args : List Expr} {r : AV × AS} (k1 : ∀ o nm ap, (!isCallE o && noStars args && Nat.blt args.length 30 && Nat.beq ap.endLine pos.line) = true → xCallM ih F sc o nm args σ = some r → P (.Attribute o nm ap))
    (k2 : ∀ g gp, noStars args = true → xCallN ih sc (.Name g gp) args σ = some r → P (.Name g gp)) : xCall ih F sc f args pos σ = some r → P f := by
  induction f using Expr.casesOn with
  | Attribute o nm ap => exact fun e => gdE e fun z e => k1 o nm ap z e
  | Name g gp => exact fun e => gdE e fun z e => k2 g gp z e
  | _ => exact fun e => nos e
theorem xCall_snd (S : Snd prog w ε F n ih) (hc : c.cs = sc) {f : Expr} {pos : Pos} {args : List Expr} (e : xCall ih F sc f args pos σ = some (v, σ'))
    (p : Pre prog w ε F (n + 1) c W σ hl kp s.heap m) (k : After prog w ε F (n + 1) c W kp s σ' (fun W' s' => ∀ u, R (Kw w) ε W' v u → Q u s')) :
    wpAny (model prog w) c.A (eval (.Call f args [] pos) c.env) Q E s :=
  xCallE (P := fun f => wpAny (model prog w) c.A (eval (.Call f args [] pos) c.env) Q E s) (fun o nm ap z e => xCallM_snd S hc z e p k) (fun g gp z e => biE e fun f σ₁ e1 e => biE e fun vs σ₂ ev e => call_name S hc z e1 ev e p k) e
theorem xCmp_snd (S : Snd prog w ε F n ih) (hc : c.cs = sc) {l r : Expr} {op : CmpOp} {pos : Pos} {b : Bool} (e : xCmp ih F sc l op r σ = some (b, σ')) (p : Pre prog w ε F (n + 1) c W σ hl kp s.heap m)
    (k : After prog w ε F (n + 1) c W kp s σ' (fun _ s' => Q (.bool b) s')) : wpAny (model prog w) c.A (eval (.Compare l [op] [r] pos) c.env) Q E s :=
  biE e fun a q e1 e => gdE e fun z e => boE e fun r' h5 e => som2 e fun h1 h2 => two_snd S hc e1 p (f := fun u v => compareOp op u v) (fun h => wpAny_Compare1 h (notE z)) fun W' hl' m' h' tk' u u' hw ru ru' p' =>
    cmp_snd (s := { s with heap := h', toks := tk' }) h5 ru ru' p' fun tk3 => by rw [h1]; exact k W' hl' m' h' tk3 hw (h2 ▸ p')
end
set_option tactic.hygienic false in
theorem sE (S : Snd prog w ε F n ih) : SE prog w ε F (n + 1) (xStep F ih) := by
  intro sc x σ v σ' e0 c W hl kp s m Q E hc p k
  refine biE e0 fun v' σ'' e e0 => som2 e0 fun h1 h2 => ?_
  rw [← Out.v.inj h1, ← h2] at k
  induction x using Expr.casesOn with
  | Constant x k0 ps => exact boE e fun v1 e1 e => som2 e fun h1 h2 => xCon_snd e1 p (by rw [h1, h2]; exact k)
  | Name x ps => exact boE e fun v1 e1 e => som2 e fun h1 h2 => name_snd hc e1 p (by rw [h1, h2]; exact k)
  | Attribute o nm ps => exact gdE e fun z e => xAttr_snd S hc (notE z) e p k
  | UnaryOp op x ps => exact xUn_snd S hc e p k
  | BinOp l op r ps => exact xBin_snd S hc e p k
  | BoolOp op vs ps => exact boolV_snd S hc e p k
  | IfExp t a b ps => exact xIf_snd S hc e p k
  | Compare l ops rs ps =>
    exact biE e fun op r q0 e => biE e fun b σ₁ e1 e => som2 e fun h1 h2 => by
      rw [(one2_inv q0).1, (one2_inv q0).2]
      exact xCmp_snd S hc e1 p fun W' hl' m' h' tk3 hw p' => k W' hl' m' h' tk3 hw (h2 ▸ p') _ (h1 ▸ .bool _)
  | Subscript x y ps => exact gdE e fun z e => xSub_snd S hc (notE z) e p k
  | List es ps =>
    exact biE e fun vs σ₁ h1 e => som2 e fun h2 h3 => by
      have hx := xSeq_inv h1
      exact List_ (S.evs hc hx.2.2 hx.1 p fun W' hl' m' h' tk' hw p' us rus => list_snd (s := { s with heap := h', toks := tk' }) rus (Nat.le_trans hx.2.1 (by decide)) p' fun W'' hl'' m'' h'' tk'' hw' p'' u r => k W'' hl'' m'' h'' tk'' (hw.trans hw') (h3 ▸ p'') u (h2 ▸ r))
  | Tuple es k0 ps =>
    exact biE e fun vs σ₁ h1 e => som2 e fun h2 h3 => by
      have hx := xSeq_inv h1
      exact Tuple_ (S.evs hc hx.2.2 hx.1 p fun W' hl' m' h' tk' hw p' us rus => tup_snd (s := { s with heap := h', toks := tk' }) rus (Nat.le_trans hx.2.1 (by decide)) p' fun W'' hl'' m'' h'' tk'' hw' p'' u r => k W'' hl'' m'' h'' tk'' (hw.trans hw') (h3 ▸ p'') u (h2 ▸ r))
  | Dict ks vs ps =>
    exact gdE e fun z e => andE z fun z1 z2 => som2 e fun h2 h3 => by
      rw [nilL_inv z1, nilL_inv z2]
      exact dict_snd p fun W'' hl'' m'' h'' tk'' hw' p'' u r => k W'' hl'' m'' h'' tk'' hw' (h3 ▸ p'') u (h2 ▸ r)
  | Call f args ks ps =>
    exact gdE e fun z e => by
      rw [nilL_inv z]
      exact xCall_snd S hc e p k
  | _ => exact nos e
end
end
section
open PySem PySem.W PySem.Calls PyProof.Rows
set_option maxRecDepth 100000
section
variable {prog : Program} {w : World} {ε : Eps} {F : Facts} {n : Nat} {c : Cx} {W : Wd} {σ : AS} {hl kp : Led} {h : Heap} {m : Str → Option Value} {E : Value → Shared → Prop} {s : Shared} {ih : Ih} {sc : Scope}
theorem isNot_inv {op : UnaryOp} (h : isNot op = true) : op = .Not := by
  rcases op with _ | _ | _ | _ <;> first | rfl | exact bnf h
set_option tactic.hygienic false in
theorem isNotE_inv {x y : Expr} : isNotE x = some y → ∃ p, x = .UnaryOp .Not y p := by
  induction x using Expr.casesOn with
  | UnaryOp op z p => exact fun h => gdE h fun h1 h2 => ⟨p, by rw [isNot_inv h1, Option.some.inj h2]⟩
  | _ => exact fun h => nos h
set_option tactic.hygienic false in
theorem isTrue_eq {x : Expr} {env : Env} {whole : Sem Value} : isNotE x = none → isBE x = false → PySem.isTrue x env whole = (do let v ← whole; standAt x.pos; holding [v] (truthy v)) := by
  induction x using Expr.casesOn with
  | UnaryOp op y p =>
    rcases op with _ | _ | _ | _
    · exact fun _ _ => rfl
    · exact fun h _ => nos h.symm
    · exact fun _ _ => rfl
    · exact fun _ _ => rfl
  | IfExp => exact fun _ h => bnt h
  | Compare => exact fun _ h => bnt h
  | BoolOp => exact fun _ h => bnt h
  | _ => exact fun _ _ => rfl
set_option tactic.hygienic false in
@[elab_as_elim] theorem xTbE {P : Expr → Prop} {x : Expr} {r : Bool × AS} (k1 : ∀ op vs ps, boolT ih sc op vs σ = some r → P (.BoolOp op vs ps)) (k2 : ∀ l op rr ps, xCmp ih F sc l op rr σ = some r → P (.Compare l [op] [rr] ps)) : xTb ih F sc x σ = some r → P x := by
  induction x using Expr.casesOn with
  | BoolOp op vs ps => exact fun e => k1 op vs ps e
  | Compare l ops rs ps => exact fun e => biE e fun op r q0 e => by rw [(one2_inv q0).1, (one2_inv q0).2]; exact k2 l op r ps e
  | _ => exact fun e => nos e
theorem xTb_snd (S : Snd prog w ε F n ih) (hc : c.cs = sc) {x : Expr} {v : Bool} {σ' : AS} {Q : Bool → Shared → Prop} (e : xTb ih F sc x σ = some (v, σ')) (p : Pre prog w ε F (n + 1) c W σ hl kp s.heap m)
    (k : After prog w ε F (n + 1) c W kp s σ' (fun _ s' => Q v s')) : wpAny (model prog w) c.A (PySem.isTrue x c.env (eval x c.env)) Q E s :=
  xTbE (P := fun x => wpAny (model prog w) c.A (PySem.isTrue x c.env (eval x c.env)) Q E s) (fun op vs ps e => boolT_snd S hc e p k) (fun l op r ps e => biE e fun a q e1 e => gdE e fun z e => boE e fun r' h5 e => som2 e fun h1 h2 => twoE e1 fun σ₁ e2 e3 => by
    rw [isTrue_Compare1, markedBehindIn_of_false (notE z)]
    rw [← h1, ← h2] at k
    refine wpAny_bind (S.rE e2 hc p fun W' hl' m' h' tk' hw p' u ru => wpAny_bind (wpAny_holding ?_))
    refine S.rE (s := { s with heap := h', toks := tk' }) e3 hc p' fun W'' hl'' m'' h'' tk'' hw' p'' u' ru' => wpAny_bind (wpAny_standAt (wpAny_bind (wpAny_operating ?_)))
    exact cmp_snd (s := { s with heap := h'', toks := tk'' }) h5 (ru.mono hw') ru' p'' fun tk3 => wpAny_holding (wpAny_truthy_bool (k W'' hl'' m'' h'' tk3 (hw.trans hw') p''))) e
theorem sT (S : Snd prog w ε F n ih) : ST prog w ε F (n + 1) (xStep F ih) := by
  intro sc x σ v σ' e0 c W hl kp s m Q E hc p k
  refine biE e0 fun v' σ'' e e0 => som2 e0 fun h1 h2 => ?_
  rw [← Out.b.inj h1, ← h2] at k
  refine altE e (fun y q e => biE e fun b σ₁ h1 e => som2 e fun h3 h4 => ex1_1 (isNotE_inv q) fun ps hx => ?_) fun q e => condE e (fun _ e => xTb_snd S hc e p k) fun z e => biE e fun v₁ σ₁ e1 e => boE e fun b h1 e => som2 e fun h3 h4 => ?_
  · rw [hx]
    rw [← h3, ← h4] at k
    exact isTrue_not (S.rT h1 hc p k)
  · rw [← h3, ← h4] at k
    exact isTrue_plain (S.rE e1 hc p fun W' hl' m' h' tk' hw p' u ru => truthy_snd (s := { s with heap := h', toks := tk' }) h1 ru p' fun tk'' => k W' hl' m' h' tk'' hw p') (isTrue_eq q z)
theorem Snd.exs (S : Snd prog w ε F n ih) (hc : c.cs = sc) {fl : AFl} {σ' : AS} {body : List Stmt} : ∀ {σ : AS} {W : Wd} {hl kp : Led} {s : Shared} {m : Str → Option Value} {Q : Flow → Shared → Prop},
    exs ih sc body σ = some (fl, σ') → Pre prog w ε F n c W σ hl kp s.heap m → After prog w ε F n c W kp s σ' (fun W' s' => ∀ f, FlR w ε W' fl f → Q f s') → wpAny (model prog w) c.A (execs body c.env) Q E s := by
  induction body with
  | nil =>
    intro σ W hl kp s m Q e p k
    refine som2 e fun h1 h2 => ?_
    rw [← h1, ← h2] at k
    exact wpAny_execs_nil (p.done k s.toks _ rfl)
  | cons x r IH =>
    intro σ W hl kp s m Q e p k
    refine biE e fun fl₁ σ₁ e1 e => wpAny_execs_cons (S.s _ _ _ _ _ (runS_eq e1) c W hl kp s m _ _ hc p fun W' hl' m' h' tk' hw p' f rf => ?_)
    rcases fl₁ with _ | v
    · rw [show f = .next from rf]
      exact IH (s := { s with heap := h', toks := tk' }) e p' fun W'' hl'' m'' h'' tk'' hw' p'' => k W'' hl'' m'' h'' tk'' (hw.trans hw') p''
    · refine ex1_2 rf fun u e2 ru => som2 e fun h1 h2 => ?_
      rw [e2]
      exact k W' hl' m' h' tk' hw (h2 ▸ p') _ (h1 ▸ ⟨u, rfl, ru⟩)
theorem Snd.exs1 (S : Snd prog w ε F n ih) (hc : c.cs = sc) {fl : AFl} {σ' : AS} {body : List Stmt} {Q : Flow → Shared → Prop} (e : Mine.exs ih sc body σ = some (fl, σ')) (p : Pre prog w ε F (n + 1) c W σ hl kp s.heap m)
    (k : After prog w ε F (n + 1) c W kp s σ' (fun W' s' => ∀ f, FlR w ε W' fl f → Q f s')) : wpAny (model prog w) c.A (execs body c.env) Q E s :=
  S.exs hc e (p.le (Nat.le_succ _)) fun W' hl' m' h' tk' hw p' => k W' hl' m' h' tk' hw (p'.up p.ok)
/-! calls of the program's functions -/
theorem hasS_of {x : Str} {l : List Str} (h : x ∈ l) : hasS l x = true := by
  induction h with
  | head r => exact Bool.or_eq_true_iff.mpr (.inl (sB_self x))
  | tail y _ ih => exact Bool.or_eq_true_iff.mpr (.inr ih)
theorem distinct_nodup {l : List Str} : distinctS l = true → l.Nodup := by
  induction l with
  | nil => exact fun _ => List.nodup_nil
  | cons x r ih => exact fun h => andE h fun h1 h2 => List.nodup_cons.mpr ⟨fun hm => bnt ((hasS_of hm).symm.trans (notE h1)), ih h2⟩
inductive BR (K : Frag) (ε : Eps) (W : Wd) : List (Str × AV) → List (Str × Value) → Prop
  | nil : BR K ε W [] []
  | cons {x : Str} {v : AV} {u : Value} {r : List (Str × AV)} {t : List (Str × Value)} : R K ε W v u → BR K ε W r t → BR K ε W ((x, v) :: r) ((x, u) :: t)
theorem BR.zip {K : Frag} {ps : List Str} : ∀ {args : List AV} {us : List Value}, Rl K ε W args us → BR K ε W (ps.zip args) (ps.zip us) := by
  induction ps with
  | nil => exact fun _ => .nil
  | cons x ps ih =>
    intro args us r
    induction r with
    | nil => exact .nil
    | cons r s _ => exact .cons r (ih s)
theorem Rl.snoc {K : Frag} {v : AV} {u : Value} (r : R K ε W v u) {args : List AV} {us : List Value} (h : Rl K ε W args us) : Rl K ε W (args ++ [v]) (us ++ [u]) := by
  induction h with
  | nil => exact .cons r .nil
  | cons a _ ih => exact .cons a ih
theorem dRelE {d : Option AV} {dv : Option Value} (h : dRel d dv) {v : AV} (e : d = some v) {p : Prop} (k : ∀ u, dv = some u → (∀ K, R K ε W v u) → p) : p := by
  rcases h with _ | _ | _
  · exact nos e
  · exact k _ rfl fun K => Option.some.inj e ▸ .none
  · exact k _ rfl fun K => Option.some.inj e ▸ .bool _
theorem binds_of {K : Frag} {ps : List Str} {args : List AV} {us : List Value} {d : Option AV} {dv : Option Value} {bs : List (Str × AV)} (e : bindsOf ps args d = some bs) (r : Rl K ε W args us) (hd : dRel d dv) :
    ∃ binds, bindsV ps us dv = some binds ∧ BR K ε W bs binds ∧ ∀ y ∈ binds, y.1 ∈ ps := by
  unfold bindsV
  rw [r.len]
  refine condE e (fun z e => ?_) fun z e => gdE e fun z2 e => boE e fun v e1 e => dRelE (ε := ε) (W := W) hd e1 fun u e2 ru => ?_
  · rw [if_pos z, ← Option.some.inj e]
    exact mk1_3 _ rfl (BR.zip r) fun y hy => (List.of_mem_zip hy).1
  · rw [if_neg (by rw [z]; exact Bool.false_ne_true), if_pos z2, ← Option.some.inj e, e2]
    exact mk1_3 _ rfl (BR.zip (r.snoc (ru K))) fun y hy => (List.of_mem_zip hy).1
theorem BR.look {K : Frag} {x : Str} {v : AV} {bs : List (Str × AV)} {binds : List (Str × Value)} (h : BR K ε W bs binds) : Mine.look bs x = some v → ∃ u, (x, u) ∈ binds ∧ R K ε W v u := by
  induction h with
  | nil => exact fun h => nos h
  | @cons y v' u r t r1 _ ih => exact fun h => iteE (x := some v') (y := Mine.look r x) h (fun z h => mk1_2 u (by rw [sB_eq z]; exact .head _) (Option.some.inj h ▸ r1)) fun _ h => ex1_2 (ih h) fun u h1 h2 => mk1_2 u (.tail _ h1) h2
theorem BR.keys {K : Frag} {bs : List (Str × AV)} {binds : List (Str × Value)} (h : BR K ε W bs binds) : binds.map (·.1) = bs.map (·.1) := by
  induction h with
  | nil => rfl
  | cons _ _ ih => exact congrArg _ ih
theorem lookup_mem_nodup {x : Str} {u : Value} {l : List (Str × Value)} : (l.map (·.1)).Nodup → (x, u) ∈ l → l.lookup x = some u := by
  induction l with
  | nil => exact fun _ h => nomatch h
  | cons q r ih =>
    intro h hm
    have h := List.nodup_cons.mp h
    rw [List.lookup_cons]
    rcases List.mem_cons.mp hm with e | hm
    · rw [← e, beq_self_eq_true]
    · rw [beq_eq_false_iff_ne.mpr fun e => h.1 (List.mem_map.mpr ⟨(x, u), hm, e⟩)]
      exact ih h.2 hm
set_option tactic.hygienic false in
@[elab_as_elim] theorem funDE {P : Stmt → Prop} {x : Stmt} {q : Str × Arguments × List Stmt × Scope} (k : ∀ x1 x2 x3 x4 x5 x6, P (.FunctionDef q.1 q.2.1 q.2.2.1 x1 x2 x3 q.2.2.2 x4 x5 x6)) : funD x = some q → P x := by
  induction x using Stmt.casesOn with
  | FunctionDef n ar b x1 x2 x3 sc x4 x5 x6 => exact fun h => by rw [← Option.some.inj h] at k; exact k x1 x2 x3 x4 x5 x6
  | _ => exact fun h => nos h
theorem fnOfAddr_mem {f : Addr} {nm : Str} {ar : Arguments} {body : List Stmt} {sc : Scope} {d : Option AV} (e : fnOfAddr f = some (nm, ar, body, sc, d)) {p : Prop}
    (k : ∀ de re dl tp ts bn, (f, some (.FunctionDef nm ar body de re dl sc tp ts bn), d) ∈ ftab → p) : p :=
  boE e fun q h1 e => boE e fun x h2 e => biE e fun n r h3 e => som2 e fun e1 e2 => by
    have m := List.mem_of_find?_eq_some h1
    have hf := Nat.eq_of_beq_eq_true (List.find?_some (p := fun x : Addr × Option Stmt × Option AV => Nat.beq x.1 f) h1)
    have e3 := congrArg (·.1) e2
    have e4 := congrArg (·.2.1) e2
    have e5 := congrArg (·.2.2.1) e2
    have e6 := congrArg (·.2.2.2) e2
    have hq : q = (f, some x, d) := Prod.ext hf (Prod.ext h2 e6)
    rw [hq] at m
    refine funDE (P := fun x => (f, some x, d) ∈ ftab → p) (fun x1 x2 x3 x4 x5 x6 m => k x1 x2 x3 x4 x5 x6 ?_) h3 m
    rw [← e1, show ar = _ from e3.symm, show body = _ from e4.symm, show sc = _ from e5.symm]
    exact m
structure ScF (ar : Arguments) (sc : Scope) : Prop where
  dbg : sc.names.lookup (Str.ofString "__debug__") = none
  nd : (ar.args.map (·.arg)).Nodup
  co : sc.isCoroutine = false
  ge : sc.isGenerator = false
  ki : sc.kind = .function
  ce : ∀ x ∈ sc.names, x.2 ≠ .cell
  lo : ∀ y ∈ ar.args.map (·.arg), sc.names.lookup y = some .local
theorem isFnK_inv {k : ScopeKind} (h : isFnK k = true) : k = .function := by
  rcases k with _ | _ | _ | _ | _ | _ | _ <;> first | rfl | exact bnf h
theorem noneO_inv {α : Type} {o : Option α} (h : noneO o = true) : o = none := by
  rcases o with _ | a
  · rfl
  · exact bnf h
theorem isLoc_inv {x : Str} (h : isLoc sc x = true) : sc.names.lookup x = some .local := by
  unfold isLoc at h
  generalize q : kindV sc x = o at h
  rcases o with _ | b
  · exact bnf h
  · rw [show b = true from h] at q
    exact kindV_t q
theorem scChk_ok {ar : Arguments} {sc : Scope} (e : scOk ar sc = true) : ScF ar sc :=
  andE e fun a e => andE e fun b e => andE e fun c e => andE e fun d e => andE e fun f e => andE e fun g i => ⟨noneO_inv a, distinct_nodup b, notE c, notE d, isFnK_inv f, fun x hx z => bnf (by have := List.all_eq_true.mp g x hx; rw [z] at this; exact this),
    fun y hy => ex1_2 (List.mem_map.mp hy) fun q hq e => e ▸ isLoc_inv (List.all_eq_true.mp i q hq)⟩
end
/-- the end of a body that is walked by hand -/
inductive HandEnd (prog : Program) (w : World) (n : Nat) (c c' : Cx) (kp : Led) (m : Str → Option Value) (Rr : Result → Shared → Prop) (s : Shared) (fl : Flow) (s' : Shared) : Prop
  | mk (u : Value) (ε' : Eps) (F' : Facts) (W' : Wd) (hl' : Led) (σ₂ : AS) (m' : Str → Option Value) (h' : Heap) (tk' : Nat) (e1 : fl = .ret u ∨ fl = .next ∧ u = .none) (e2 : s' = { s with heap := h', toks := tk' }) (p : Pre prog w ε' F' n c' W' σ₂ hl' kp h' m')
    (fin : (∀ (loc : List (Str × AV)), LocR w ε' W' m loc → Pre prog w ε' F' (n + 1) c W' { σ₂ with loc := loc } hl' kp h' m) → Rr (.ok (.ret u)) { s with heap := h', toks := tk' })
section
variable {prog : Program} {w : World} {ε : Eps} {F : Facts} {n : Nat} {c : Cx} {W : Wd} {σ : AS} {hl kp : Led} {h : Heap} {m : Str → Option Value} {E : Value → Shared → Prop} {s : Shared} {ih : Ih} {sc : Scope}
theorem bind_nodup {ps : List Str} {args : List AV} {d : Option AV} {bs : List (Str × AV)} (eb : bindsOf ps args d = some bs) (c2 : ps.Nodup) : (bs.map (·.1)).Nodup := by
  have h : ∀ {q : List AV}, ps.length = q.length → ((ps.zip q).map (·.1)).Nodup := fun h => by rw [List.map_fst_zip (Nat.le_of_eq h)]; exact c2
  exact condE eb (fun z e => Option.some.inj e ▸ h (Nat.eq_of_beq_eq_true z)) fun _ e => gdE e fun z e => boE e fun v _ e => Option.some.inj e ▸ h (by rw [List.length_append]; exact Nat.eq_of_beq_eq_true z)
theorem deep_units {a n : Nat} (h : a + 16 * (n + 1) + 64 < 9900) : a + 3 + 16 * n + 64 < 9900 :=
  Nat.lt_of_le_of_lt (Nat.add_le_add_right (by rw [Nat.mul_succ, Nat.add_assoc, Nat.add_comm 3]; exact Nat.add_le_add_left (Nat.add_le_add_left (by decide) _) _) 64) h
theorem call_hand {f : Addr} {nm : Str} {ar : Arguments} {body : List Stmt} {d : Option AV} {args : List AV} {us : List Value} {bs : List (Str × AV)} {Rr : Result → Shared → Prop} (ef : fnOfAddr f = some (nm, ar, body, sc, d)) (eb : bindsOf (ar.args.map (·.arg)) args d = some bs)
    (p : Pre prog w ε F (n + 1) c W σ hl kp s.heap m) (rl : Rl (Kw w) ε W args us)
    (k : ∀ (c' : Cx) (h₁ : Heap) (tk₁ : Nat) (m₁ : Str → Option Value), c'.cs = sc → c'.mg = c.mg → c'.mb = c.mb → Pre prog w ε F n c' W { σ with loc := bs } hl kp h₁ m₁ →
      wpAny (model prog w) c'.A (execs body c'.env) (HandEnd prog w n c c' kp m Rr s) (fun _ _ => False) { s with heap := h₁, toks := tk₁ }) :
    codeAny (model prog w) c.A (.call (.ref f) ⟨us, []⟩) Rr s := by
  refine fnOfAddr_mem ef fun x1 x2 x3 x4 x5 x6 hmem => ex1_2 (fnAll w.params _ hmem) fun dv hF hd => ?_
  obtain ⟨qual, pm, cd, dV, hlook, hcd, hsc, hkeep, hbind⟩ := hF
  have scf : ScF ar sc := scChk_ok hsc
  refine ex1_3 (binds_of eb rl hd) fun binds b1 b2 b3 => ?_
  have o1 := p.ok
  refine code_def (mg := c.mg) (mb := c.mb) (mean := c.mean) (qual := Str.ofString qual) (params := ar) (body := body) (scope := sc) (dV := dV) (kV := .none) (doc := .none) (pm := pm) (an := none) (cdv := .ref cd) (ct := .none) (oc := .type "function") (od := none) (osl := #[])
    o1.below p.st.fr o1.kin p.st.news o1.top o1.frames rfl o1.kind hlook hcd (Nat.lt_of_le_of_lt (Nat.le_add_right _ _) o1.depth) (hbind s us binds p.kin b1) (fun y hy => scf.lo _ (b3 y hy)) (fun g L' h₁ FG F' N' B' Kg Tg => ?_) scf.co scf.ge scf.ki scf.ce
  have hnd : (binds.reverse.map (·.1)).Nodup := by
    rw [List.map_reverse, b2.keys]
    exact (List.reverse_perm _).nodup_iff.mpr (bind_nodup eb scf.nd)
  have hloc : LocR w ε W (fun y => binds.reverse.lookup y) bs := fun x v hx => ex1_2 (b2.look hx) fun u h1 h2 => mk1_2 u (lookup_mem_nodup hnd (List.mem_reverse.mpr h1)) h2
  let c' : Cx := { A₀ := c.A, A := c.A.deeper (envOf (Str.ofString qual) sc L' f (.ref cd)), base := c.base, h₀ := g, outer := c.env :: c.outer, cn := Str.ofString qual, cs := sc, L := L', a := f, ccd := .ref cd, cl := [], mean := c.mean, mg := c.mg, mb := c.mb }
  have ok' : c'.Ok w n := ⟨B', by show c.A.frames.map _ = _; rw [o1.frames]; rfl, o1.hand, Kg, Tg, scf.ki, scf.dbg, (by show c.A.depth + 1 + n < 1000; rw [Nat.add_assoc, Nat.add_comm 1]; exact o1.depth), deep_units o1.units⟩
  have p' : Pre prog w ε F n c' W { σ with loc := bs } hl kp h₁ (fun y => binds.reverse.lookup y) := ⟨ok', ⟨F', ⟨N', p.st.lg.nd⟩, p.st.hr, p.st.rb⟩, hloc, p.fk⟩
  refine wpAny_mono (k c' h₁ (s.toks + binds.length) _ rfl rfl rfl p') (fun fl s' z => ?_) (fun _ _ z => z.elim)
  obtain ⟨u, ε', F₁, W', hl', σ₂, m', h', tk', e1, e2, p₂, fin⟩ := z
  rw [e2]
  have lk : LeaveK c.h₀ c.L m g Rr u { s with heap := h', toks := tk' } := leaveK_ p₂.st.fr p₂.st.lg.nw fun F₂ N₂ => fin fun loc hl2 => ⟨o1, ⟨F₂, ⟨N₂, p₂.st.lg.nd⟩, p₂.st.hr, p₂.st.rb⟩, hl2, p₂.fk⟩
  rcases e1 with e1 | ⟨e1, e3⟩
  · rw [e1]; exact lk
  · rw [e1]; rw [e3] at lk; exact lk
theorem sF (S : Snd prog w ε F n ih) : SF prog w ε F (n + 1) (xStep F ih) := by
  intro f args σ v σ' e0 c W hl kp s m us Rr p rl k
  refine biE e0 fun v' σ'' e e0 => som2 e0 fun h1 h2 => biE e fun nm q ef e => boE e fun bs eb e => biE e fun fl σ₂ ex e => som2 e fun h3 h4 => ?_
  rw [← Out.v.inj h1, ← h2, ← h3, ← h4] at k
  refine call_hand (nm := nm) (ar := q.1) (body := q.2.1) (sc := q.2.2.1) (d := q.2.2.2) ef eb p rl fun c' h₁ tk₁ m₁ hcs _ _ p' => ?_
  refine S.exs (c := c') (s := { s with heap := h₁, toks := tk₁ }) hcs ex p' fun W' hl' m' h' tk' hw p₂ fl' rf => ?_
  rcases fl with _ | v₂
  · exact ⟨.none, ε, F, W', hl', σ₂, m', h', tk', .inr ⟨rf, rfl⟩, rfl, p₂, fun fin => k W' hl' m h' tk' hw (fin _ (p.loc.mono hw)) _ .none⟩
  · exact ex1_2 rf fun u e2 ru => ⟨u, ε, F, W', hl', σ₂, m', h', tk', .inl e2, rfl, p₂, fun fin => k W' hl' m h' tk' hw (fin _ (p.loc.mono hw)) _ ru⟩
end
end
section
open PySem PySem.W PySem.Calls PyProof.Rows
set_option maxRecDepth 100000
section
variable {prog : Program} {w : World} {ε : Eps} {F : Facts} {n : Nat} {c : Cx} {W : Wd} {σ : AS} {hl kp : Led} {h : Heap} {m : Str → Option Value} {E : Value → Shared → Prop} {s : Shared} {ih : Ih} {sc : Scope}
noncomputable def ImLe (W W' : Wd) : Prop := ∀ q ∈ W.ims, q ∈ W'.ims
theorem ImLe.refl (W : Wd) : ImLe W W := fun _ h => h
theorem ImLe.trans {W W' W'' : Wd} (h : ImLe W W') (h' : ImLe W' W'') : ImLe W W'' := fun q hq => h' q (h q hq)
theorem Wd.Le.i {W W' : Wd} (h : W.Le W') : ImLe W W' := h.ims
inductive LEnd (prog : Program) (w : World) (n : Nat) (c : Cx) (W : Wd) (kp : Led) (I : Addr) (it : Obj) (Inv : Eps → Facts → Wd → AS → Prop) (fs : Heap → Nat → Shared) (s' : Shared) : Prop
  | mk (ε' : Eps) (F' : Facts) (W' : Wd) (hl' : Led) (σ' : AS) (m' : Str → Option Value) (h' : Heap) (tk' : Nat) (h1 : s' = fs h' tk') (h2 : ImLe W W') (h3 : Pre prog w ε' F' n c W' σ' hl' ((I, it) :: kp) h' m') (h4 : Inv ε' F' W' σ')
inductive LoopJ (prog : Program) (w : World) (W : Wd) (kp : Led) (Inv : Eps → Facts → Wd → AS → Prop) (m₁ : Str → Option Value) (news : Led) : Prop
  | mk (ε' : Eps) (F' : Facts) (W' : Wd) (hl' : Led) (σ' : AS) (h1 : ImLe W W') (h2 : news = hl' ++ (kp ++ W'.ims)) (h3 : (news.map (·.1)).Nodup) (h4 : HpR prog w ε' W' σ'.hp hl') (h5 : ∀ l q, W'.ρ l = some q → l < σ'.nx) (h6 : LocR w ε' W' m₁ σ'.loc) (h7 : FOk w ε' F' W') (h8 : Inv ε' F' W' σ')
/-- how one turn of a loop may end -/
noncomputable def LStep (prog : Program) (w : World) (n : Nat) (c : Cx) (W : Wd) (kp : Led) (I : Addr) (it : Obj) (Inv : Eps → Facts → Wd → AS → Prop) (Q : Flow → Shared → Prop) (s : Shared) (f : Flow) (s' : Shared) : Prop := match f with
  | .ret v => Q (.ret v) s'
  | .brk => Q .next s'
  | _ => LEnd prog w n c W kp I it Inv (fun h tk => { s with heap := h, toks := tk }) s'
theorem mk10_11 {α0 : Sort _} {α1 : Sort _} {α2 : Sort _} {α3 : Sort _} {α4 : Sort _} {α5 : Sort _} {α6 : Sort _} {α7 : Sort _} {α8 : Sort _} {α9 : Sort _} {A0 A1 A2 A3 A4 A5 A6 A7 A8 A9 A10 : α0 → α1 → α2 → α3 → α4 → α5 → α6 → α7 → α8 → α9 → Prop} (x0 : α0) (x1 : α1) (x2 : α2) (x3 : α3) (x4 : α4) (x5 : α5) (x6 : α6) (x7 : α7) (x8 : α8) (x9 : α9) (h0 : A0 x0 x1 x2 x3 x4 x5 x6 x7 x8 x9) (h1 : A1 x0 x1 x2 x3 x4 x5 x6 x7 x8 x9) (h2 : A2 x0 x1 x2 x3 x4 x5 x6 x7 x8 x9) (h3 : A3 x0 x1 x2 x3 x4 x5 x6 x7 x8 x9) (h4 : A4 x0 x1 x2 x3 x4 x5 x6 x7 x8 x9) (h5 : A5 x0 x1 x2 x3 x4 x5 x6 x7 x8 x9) (h6 : A6 x0 x1 x2 x3 x4 x5 x6 x7 x8 x9) (h7 : A7 x0 x1 x2 x3 x4 x5 x6 x7 x8 x9) (h8 : A8 x0 x1 x2 x3 x4 x5 x6 x7 x8 x9) (h9 : A9 x0 x1 x2 x3 x4 x5 x6 x7 x8 x9) (h10 : A10 x0 x1 x2 x3 x4 x5 x6 x7 x8 x9) : ∃ x0 x1 x2 x3 x4 x5 x6 x7 x8 x9, A0 x0 x1 x2 x3 x4 x5 x6 x7 x8 x9 ∧ A1 x0 x1 x2 x3 x4 x5 x6 x7 x8 x9 ∧ A2 x0 x1 x2 x3 x4 x5 x6 x7 x8 x9 ∧ A3 x0 x1 x2 x3 x4 x5 x6 x7 x8 x9 ∧ A4 x0 x1 x2 x3 x4 x5 x6 x7 x8 x9 ∧ A5 x0 x1 x2 x3 x4 x5 x6 x7 x8 x9 ∧ A6 x0 x1 x2 x3 x4 x5 x6 x7 x8 x9 ∧ A7 x0 x1 x2 x3 x4 x5 x6 x7 x8 x9 ∧ A8 x0 x1 x2 x3 x4 x5 x6 x7 x8 x9 ∧ A9 x0 x1 x2 x3 x4 x5 x6 x7 x8 x9 ∧ A10 x0 x1 x2 x3 x4 x5 x6 x7 x8 x9 := ⟨x0, x1, x2, x3, x4, x5, x6, x7, x8, x9, h0, h1, h2, h3, h4, h5, h6, h7, h8, h9, h10⟩
theorem loop_core {target : Expr} {body : List Stmt} {Q : Flow → Shared → Prop} {I : Addr} {fp : List Addr} {k : Nat} {P Md : Nat → Value → Heap → Prop} {Stt : Nat → Heap → Prop} (KW : KTurns prog w c.A target I fp [I] k P Md Stt)
    (p : Pre prog w ε F n c W σ hl kp s.heap m) (hIL : I ≠ c.L) (hI0 : c.h₀.get? I = none) (hIn : ∀ q ∈ hl ++ (kp ++ W.ims), q.1 ≠ I)
    (hfp : ∀ b ∈ fp, b = I ∨ (∃ o, c.h₀.get? b = some o) ∨ ∃ o, (b, o) ∈ kp ++ W.ims) (hLfp : c.L ∉ fp) (hst0 : Stt 0 s.heap) (hit : ∀ i h, Stt i h → ∃ o, h.get? I = some o) (hIfp : I ∈ fp)
    (Inv : Nat → Eps → Facts → Wd → AS → Prop) (h0 : Inv 0 ε F W σ)
    (step : ∀ i v ε' F' W' hl' σ' it m₁ h₁ tk₁, i < k → P i v h₁ → ImLe W W' → Pre prog w ε' F' n c W' σ' hl' ((I, it) :: kp) h₁ m₁ → Inv i ε' F' W' σ' →
      wpAny (model prog w) c.A (assign target c.env v) (fun _ s₂ => wpAny (model prog w) c.A (execs body c.env) (LStep prog w n c W' kp I it (Inv (i + 1)) Q s) E s₂) E { s with heap := h₁, toks := tk₁ })
    (done : ∀ ε' F' W' hl' σ' m' h' tk', ImLe W W' → Pre prog w ε' F' n c W' σ' hl' kp h' m' → Inv k ε' F' W' σ' → Q .next { s with heap := h', toks := tk' }) :
    TurnsAt prog w c.A c.h₀ c.env target body Q E (.ref I) s := by
  refine mk10_11 I fp [I] k P Md Stt m (hl ++ (kp ++ W.ims)) (fun i => LoopJ prog w W kp (Inv i)) rfl KW hLfp (fun b hb => by rw [List.mem_singleton.mp hb]; exact hI0) (fun q hq hm => hIn q hq (List.mem_singleton.mp hm)) hst0 p.st.fr p.st.lg.nw ⟨ε, F, W, hl, σ, .refl W, rfl, p.st.lg.nd, p.st.hr, p.st.rb, p.loc, p.fk, h0⟩ ?_ ?_
  · rintro i v m₁ news₁ h₁ tk₁ own hik hP ⟨ε', F', W', hl', σ', hw, rfl, nd, hr, rb, lc, fk', hinv⟩ hoff hown hget hall hst F₁ N₁
    obtain ⟨it, hI1⟩ := hit _ _ hst
    have hmemI := hall I hIfp hI0 it hI1
    have NI : News c.h₀ c.L h₁ ((I, it) :: (hl' ++ (kp ++ W'.ims))) := fun q hq => by
      rcases List.mem_cons.mp hq with rfl | hq
      · exact N₁ _ (List.mem_append_left _ hmemI)
      · exact N₁ _ (List.mem_append_right _ hq)
    have LI : Lg c.h₀ c.L h₁ ((I, it) :: (hl' ++ (kp ++ W'.ims))) := ⟨NI, by
      rw [List.map_cons, List.nodup_cons]
      refine ⟨fun hm => ?_, nd⟩
      obtain ⟨q, hq, e⟩ := List.mem_map.mp hm
      exact hoff q hq (List.mem_singleton.mpr e)⟩
    have p' : Pre prog w ε' F' n c W' σ' hl' ((I, it) :: kp) h₁ m₁ := ⟨p.ok, ⟨F₁, LI.perm List.perm_middle.symm, hr, rb⟩, lc, fk'⟩
    refine wpAny_mono (step i v ε' F' W' hl' σ' it m₁ h₁ tk₁ hik hP hw p' hinv) (fun _ s₂ h₂ => wpAny_mono h₂ (fun f s₃ h₃ => ?_) fun _ _ e => e) fun _ _ e => e
    have fin : LEnd prog w n c W' kp I it (Inv (i + 1)) (fun h tk => { s with heap := h, toks := tk }) s₃ →
        LoopStepU c.h₀ c.L [I] own (LoopJ prog w W kp (Inv (i + 1))) { s with heap := h₁, toks := tk₁ } .next s₃ := by
      rintro ⟨ε'', F'', W'', hl'', σ'', m'', h'', tk'', rfl, hw', p'', hinv'⟩
      have L2 : Lg c.h₀ c.L h'' ((I, it) :: (hl'' ++ (kp ++ W''.ims))) := p''.st.lg.perm List.perm_middle
      have nd2 := L2.nd
      rw [List.map_cons, List.nodup_cons] at nd2
      refine ⟨rfl, h'', tk'', m'', hl'' ++ (kp ++ W''.ims), rfl, p''.st.fr, fun q hq => ?_, fun q hq hm => nd2.1 (by rw [← List.mem_singleton.mp hm]; exact List.mem_map_of_mem (f := (·.1)) hq), ε'', F'', W'', hl'', σ'', hw.trans hw', rfl, nd2.2, p''.st.hr, p''.st.rb, p''.loc, p''.fk, hinv'⟩
      rcases List.mem_append.mp hq with hq | hq
      · have g1 := hget q hq
        rcases hfp q.1 (hown q hq) with e | ⟨o, e⟩ | ⟨o, e⟩
        · have : q = (I, it) := by rw [e, hI1] at g1; exact Prod.ext e (Option.some.inj g1).symm
          rw [this]; exact L2.nw _ (.head _)
        · have := (N₁ q (List.mem_append_left _ hq)).2.2
          rw [this] at e; cases e
        · have e1 : (q.1, o) ∈ hl' ++ (kp ++ W'.ims) := by
            rcases List.mem_append.mp e with e | e
            · exact List.mem_append_right _ (List.mem_append_left _ e)
            · exact List.mem_append_right _ (List.mem_append_right _ (hw _ e))
          have g2 := (N₁ _ (List.mem_append_right own e1)).1
          have e2 : q = (q.1, o) := by
            have g2' : h₁.get? q.1 = some o := g2
            rw [g1] at g2'; exact Prod.ext rfl (Option.some.inj g2')
          have e3 : (q.1, o) ∈ hl'' ++ (kp ++ W''.ims) := by
            rcases List.mem_append.mp e with e | e
            · exact List.mem_append_right _ (List.mem_append_left _ e)
            · exact List.mem_append_right _ (List.mem_append_right _ (hw' _ (hw _ e)))
          rw [e2]; exact L2.nw _ (.tail _ e3)
      · exact L2.nw _ (.tail _ hq)
    cases f with
    | ret v => exact .ret h₃
    | brk => exact .brk h₃
    | next => exact .next (fin h₃)
    | cont => exact .cont (fin h₃)
  · rintro h' tk m' news' F' N' hoff ⟨ε', F₀, W', hl', σ', hw, rfl, nd, hr, rb, lc, fk', hinv⟩
    exact done ε' F₀ W' hl' σ' m' h' tk hw ⟨p.ok, ⟨F', ⟨N', nd⟩, hr, rb⟩, lc, fk'⟩ hinv
theorem Pre.push (p : Pre prog w ε F n c W σ hl kp h m) (o : Obj) : Pre prog w ε F n c W σ hl kp (h.push o) m :=
  ⟨p.ok, ⟨p.st.fr.push o, ⟨fun q hq => ⟨Heap.get?_push_of_some _ (p.st.news q hq).1, (p.st.news q hq).2⟩, p.st.lg.nd⟩, p.st.hr, p.st.rb⟩, p.loc, p.fk⟩
theorem Pre.fresh (p : Pre prog w ε F n c W σ hl kp h m) : h.objs.size ≠ c.L ∧ c.h₀.get? h.objs.size = none ∧ ∀ q ∈ hl ++ (kp ++ W.ims), q.1 ≠ h.objs.size :=
  ⟨fun e => absurd p.st.fr.ns.lt (e ▸ Nat.lt_irrefl _), next_is_new p.st.fr, fun q hq => Nat.ne_of_lt (Heap.lt_size (p.st.news q hq).1)⟩
/-- a thing that stays -/
noncomputable def Kept (c : Cx) (W : Wd) (kp : Led) (b : Addr) (o : Obj) : Prop := c.h₀.get? b = some o ∨ (b, o) ∈ kp ++ W.ims
theorem Pre.kept (p : Pre prog w ε F n c W σ hl kp h m) {b : Addr} {o : Obj} (k : Kept c W kp b o) : h.get? b = some o ∧ b ≠ c.L := by
  rcases k with k | k
  · refine ⟨p.st.fr.keep _ _ k, fun e => ?_⟩
    have := Heap.lt_size k
    rw [e] at this
    exact absurd this (Nat.not_lt.mpr p.st.fr.above)
  · have := p.st.news _ (List.mem_append_right hl k)
    exact ⟨this.1, this.2.1⟩
theorem im_kept (p : Pre prog w ε F n c W σ hl kp h m) {b : Addr} {o : Obj} (i : W.im (Kw w) b o) : Kept c W kp b o :=
  i.elim (fun q => .inr (List.mem_append_right _ q)) (fun q => .inl (p.ok.kin _ _ q))
/-- a loop over a tuple that stays -/
theorem loop_tup {target : Expr} {body : List Stmt} {Q : Flow → Shared → Prop} {t : Addr} {us : List Value} (ht : Kept c W kp t (tupO us)) (p : Pre prog w ε F n c W σ hl kp s.heap m)
    (Inv : Nat → Eps → Facts → Wd → AS → Prop) (h0 : Inv 0 ε F W σ)
    (step : ∀ i v I ε' F' W' hl' σ' it m₁ h₁ tk₁, us[i]? = some v → ImLe W W' → Pre prog w ε' F' n c W' σ' hl' ((I, it) :: kp) h₁ m₁ → Inv i ε' F' W' σ' →
      wpAny (model prog w) c.A (assign target c.env v) (fun _ s₂ => wpAny (model prog w) c.A (execs body c.env) (LStep prog w n c W' kp I it (Inv (i + 1)) Q s) E s₂) E { s with heap := h₁, toks := tk₁ })
    (done : ∀ ε' F' W' hl' σ' m' h' tk', ImLe W W' → Pre prog w ε' F' n c W' σ' hl' kp h' m' → Inv us.length ε' F' W' σ' → Q .next { s with heap := h', toks := tk' }) :
    wpAny (model prog w) c.A (pyIter (.ref t)) (fun it s₂ => TurnsAt prog w c.A c.h₀ c.env target body Q E it s₂) E s := by
  obtain ⟨g, hL⟩ := p.kept ht
  have hT : s.heap.IsTuple t us.toArray := ⟨_, g, rfl, _, rfl⟩
  have hne : t ≠ s.heap.objs.size := Nat.ne_of_lt (Heap.lt_size g)
  obtain ⟨f1, f2, f3⟩ := p.fresh
  refine wpAny_pyIter_tuple hT ?_
  refine loop_core (I := s.heap.objs.size) (s := { s with heap := s.heap.push _ }) (KTurns.ofWalks (Walks.tuple p.ok.hand s.heap.objs.size t hne us.toArray) fun i v s Q E st q => letGo_tupleiter st.1 q) (p.push _) f1 f2 f3 ?_ ?_ ?_ (fun i h st => ?_) (by simp) Inv h0 ?_ ?_
  · intro b hb
    rcases List.mem_cons.mp hb with rfl | hb
    · exact .inl rfl
    · rw [List.mem_singleton.mp hb]
      rcases ht with ht | ht
      · exact .inr (.inl ⟨_, ht⟩)
      · exact .inr (.inr ⟨_, ht⟩)
  · intro hb
    rcases List.mem_cons.mp hb with e | hb
    · exact f1 e.symm
    · exact hL (List.mem_singleton.mp hb).symm
  · exact ⟨⟨_, Heap.get?_push_size _ rfl, rfl, rfl⟩, hT.at fun o e => Heap.get?_push_of_some _ e⟩
  · obtain ⟨it, a, _⟩ := st.1
    exact ⟨it, a⟩
  · intro i v ε' F' W' hl' σ' it m₁ h₁ tk₁ hi hp hw p' hinv
    have hp' : us.toArray[i]? = some v := hp
    exact step i v _ ε' F' W' hl' σ' it m₁ h₁ tk₁ (by simpa using hp') hw p' hinv
  · intro ε' F' W' hl' σ' m' h' tk' hw p' hinv
    have e : us.toArray.size = us.length := by simp
    rw [e] at hinv
    exact done ε' F' W' hl' σ' m' h' tk' hw p' hinv
end
end
section
open PySem PySem.W PySem.Calls PyProof.Rows
set_option maxRecDepth 100000
section
variable {prog : Program} {w : World} {ε : Eps} {F : Facts} {n : Nat} {c : Cx} {W : Wd} {σ : AS} {hl kp : Led} {h : Heap} {m : Str → Option Value} {E : Value → Shared → Prop} {s : Shared} {ih : Ih} {sc : Scope}
theorem letGo_name {A : Around} {M : Model} {x : Str} {px : Pos} {it v : Value} {Q : Unit → Shared → Prop} (h : Q () s) : wpAny M A (letOwnedTupleGo (.Name x px) it v) Q E s := wpAny_pure h
/-- a loop over a list that stays -/
theorem loop_list {target : Expr} {body : List Stmt} {Q : Flow → Shared → Prop} {t : Addr} {us : List Value} {kk : Nat} (ht : Kept c W kp t (listOf us.toArray kk)) (p : Pre prog w ε F n c W σ hl kp s.heap m)
    (Inv : Nat → Eps → Facts → Wd → AS → Prop) (h0 : Inv 0 ε F W σ)
    (step : ∀ i v I ε' F' W' hl' σ' it m₁ h₁ tk₁, us[i]? = some v → ImLe W W' → Pre prog w ε' F' n c W' σ' hl' ((I, it) :: kp) h₁ m₁ → Inv i ε' F' W' σ' →
      wpAny (model prog w) c.A (assign target c.env v) (fun _ s₂ => wpAny (model prog w) c.A (execs body c.env) (LStep prog w n c W' kp I it (Inv (i + 1)) Q s) E s₂) E { s with heap := h₁, toks := tk₁ })
    (done : ∀ ε' F' W' hl' σ' m' h' tk', ImLe W W' → Pre prog w ε' F' n c W' σ' hl' kp h' m' → Inv us.length ε' F' W' σ' → Q .next { s with heap := h', toks := tk' }) :
    wpAny (model prog w) c.A (pyIter (.ref t)) (fun it s₂ => TurnsAt prog w c.A c.h₀ c.env target body Q E it s₂) E s := by
  obtain ⟨g, hL⟩ := p.kept ht
  have hT : s.heap.IsList t us.toArray := ⟨_, g, rfl, _, rfl⟩
  have hne : t ≠ s.heap.objs.size := Nat.ne_of_lt (Heap.lt_size g)
  obtain ⟨f1, f2, f3⟩ := p.fresh
  refine wpAny_pyIter_list hT ?_
  refine loop_core (I := s.heap.objs.size) (s := { s with heap := s.heap.push _ }) (KTurns.ofWalks (Walks.list p.ok.hand s.heap.objs.size t hne us.toArray) fun i v s Q E st q => letGo_listiter st.1 q) (p.push _) f1 f2 f3 ?_ ?_ ?_ (fun i h st => ?_) (by simp) Inv h0 ?_ ?_
  · intro b hb
    rcases List.mem_cons.mp hb with rfl | hb
    · exact .inl rfl
    · rw [List.mem_singleton.mp hb]
      rcases ht with ht | ht
      · exact .inr (.inl ⟨_, ht⟩)
      · exact .inr (.inr ⟨_, ht⟩)
  · intro hb
    rcases List.mem_cons.mp hb with e | hb
    · exact f1 e.symm
    · exact hL (List.mem_singleton.mp hb).symm
  · exact ⟨⟨_, Heap.get?_push_size _ rfl, rfl, rfl⟩, hT.at fun o e => Heap.get?_push_of_some _ e⟩
  · obtain ⟨it, a, _⟩ := st.1
    exact ⟨it, a⟩
  · intro i v ε' F' W' hl' σ' it m₁ h₁ tk₁ hi hp hw p' hinv
    have hp' : us.toArray[i]? = some v := hp
    exact step i v _ ε' F' W' hl' σ' it m₁ h₁ tk₁ (by simpa using hp') hw p' hinv
  · intro ε' F' W' hl' σ' m' h' tk' hw p' hinv
    have e : us.toArray.size = us.length := by simp
    rw [e] at hinv
    exact done ε' F' W' hl' σ' m' h' tk' hw p' hinv
/-- a loop over the turned list -/
theorem loop_rev {x : Str} {px : Pos} {body : List Stmt} {Q : Flow → Shared → Prop} {t : Addr} {us : List Value} {kk : Nat} (ht : Kept c W kp t (listOf us.toArray kk)) (p : Pre prog w ε F n c W σ hl kp s.heap m)
    (Inv : Nat → Eps → Facts → Wd → AS → Prop) (h0 : Inv 0 ε F W σ)
    (step : ∀ i v I ε' F' W' hl' σ' it m₁ h₁ tk₁, us.reverse[i]? = some v → ImLe W W' → Pre prog w ε' F' n c W' σ' hl' ((I, it) :: kp) h₁ m₁ → Inv i ε' F' W' σ' →
      wpAny (model prog w) c.A (assign (.Name x px) c.env v) (fun _ s₂ => wpAny (model prog w) c.A (execs body c.env) (LStep prog w n c W' kp I it (Inv (i + 1)) Q s) E s₂) E { s with heap := h₁, toks := tk₁ })
    (done : ∀ ε' F' W' hl' σ' m' h' tk', ImLe W W' → Pre prog w ε' F' n c W' σ' hl' kp h' m' → Inv us.length ε' F' W' σ' → Q .next { s with heap := h', toks := tk' }) :
    wpAny (model prog w) c.A (call (.type "reversed") [.ref t]) (fun xv s₁ => wpAny (model prog w) c.A (pyIter xv) (fun it s₂ => TurnsAt prog w c.A c.h₀ c.env (.Name x px) body Q E it s₂) E s₁) E s := by
  obtain ⟨g, hL⟩ := p.kept ht
  have hT : s.heap.IsList t us.toArray := ⟨_, g, rfl, _, rfl⟩
  refine krv_reversed p.st.fr p.st.news hT fun D h' F' N' lt => ?_
  have hD := N' _ (.head _)
  have hne : t ≠ D := by
    have h1 := (Nat.ne_of_lt (Heap.lt_size g) : t ≠ s.heap.objs.size)
    intro e
    rcases ht with ht | ht
    · rw [e] at ht; rw [hD.2.2] at ht; cases ht
    · have := lt _ (List.mem_append_right hl ht)
      rw [e] at this; exact Nat.lt_irrefl _ this
  have p1 : Pre prog w ε F n c W σ hl kp h' m := ⟨p.ok, ⟨F', ⟨fun q hq => N' q (.tail _ hq), p.st.lg.nd⟩, p.st.hr, p.st.rb⟩, p.loc, p.fk⟩
  have hit : h'.IsRevIter D t ((us.length : Int) - 1) := ⟨_, hD.1, rfl, rfl⟩
  have hT' : h'.IsList t us.toArray := ⟨_, (p1.kept ht).1, rfl, _, rfl⟩
  refine wpAny_pyIter_revIter hit ?_
  have sz : us.toArray.size = us.length := by simp
  refine loop_core (I := D) (s := { s with heap := h' }) (KTurns.ofWalks (Walks.listRev p.ok.hand D t hne us.toArray) fun i v s Q E st q => letGo_name q) p1 hD.2.1 hD.2.2 (fun q hq => Nat.ne_of_lt (lt q hq)) ?_ ?_ ?_ (fun i h st => ?_) (by simp) Inv h0 ?_ ?_
  · intro b hb
    rcases List.mem_cons.mp hb with rfl | hb
    · exact .inl rfl
    · rw [List.mem_singleton.mp hb]
      rcases ht with ht | ht
      · exact .inr (.inl ⟨_, ht⟩)
      · exact .inr (.inr ⟨_, ht⟩)
  · intro hb
    rcases List.mem_cons.mp hb with e | hb
    · exact hD.2.1 e.symm
    · exact hL (List.mem_singleton.mp hb).symm
  · refine ⟨Nat.zero_le _, ?_, hT'⟩
    rw [sz]
    have e : (us.length : Int) - 1 - ((0 : Nat) : Int) = (us.length : Int) - 1 := by omega
    rw [e]; exact hit
  · obtain ⟨it, a, _⟩ := st.2.1
    exact ⟨it, a⟩
  · intro i v ε' F' W' hl' σ' it m₁ h₁ tk₁ hi hp hw p' hinv
    have hp' : us.toArray[us.toArray.size - 1 - i]? = some v := hp
    rw [sz] at hi
    refine step i v _ ε' F' W' hl' σ' it m₁ h₁ tk₁ ?_ hw p' hinv
    rw [List.getElem?_reverse hi]
    rw [sz] at hp'
    simpa using hp'
  · intro ε' F' W' hl' σ' m' h' tk' hw p' hinv
    rw [sz] at hinv
    exact done ε' F' W' hl' σ' m' h' tk' hw p' hinv
/-- a loop over range(k) -/
theorem loop_range {target : Expr} {body : List Stmt} {Q : Flow → Shared → Prop} {r : Addr} {k : Nat} {t u v : Tok} (hr : IsRange s.heap r 0 k 1 t u v) (hk : k < 1000000) (p : Pre prog w ε F n c W σ hl kp s.heap m) (hgo : ∀ (i : Nat) v (s : Shared) (Q : Unit → Shared → Prop) (E : Value → Shared → Prop) (I : Addr), Q () s → wpAny (model prog w) c.A (letOwnedTupleGo target (.ref I) v) Q E s)
    (Inv : Nat → Eps → Facts → Wd → AS → Prop) (h0 : Inv 0 ε F W σ)
    (step : ∀ i tk I ε' F' W' hl' σ' it m₁ h₁ tk₁, i < k → ImLe W W' → Pre prog w ε' F' n c W' σ' hl' ((I, it) :: kp) h₁ m₁ → Inv i ε' F' W' σ' →
      wpAny (model prog w) c.A (assign target c.env (.int (i : Int) tk)) (fun _ s₂ => wpAny (model prog w) c.A (execs body c.env) (LStep prog w n c W' kp I it (Inv (i + 1)) Q s) E s₂) E { s with heap := h₁, toks := tk₁ })
    (done : ∀ ε' F' W' hl' σ' m' h' tk', ImLe W W' → Pre prog w ε' F' n c W' σ' hl' kp h' m' → Inv k ε' F' W' σ' → Q .next { s with heap := h', toks := tk' }) :
    wpAny (model prog w) c.A (pyIter (.ref r)) (fun it s₂ => TurnsAt prog w c.A c.h₀ c.env target body Q E it s₂) E s := by
  obtain ⟨f1, f2, f3⟩ := p.fresh
  have hsz : Builtin.Range.rangeSize 0 (k : Int) 1 = (k : Int) := by
    unfold Builtin.Range.rangeSize
    rw [if_pos (by decide)]
    split
    · rw [Int.ediv_one]; omega
    · omega
  have hsm : Builtin.Range.small 0 (k : Int) 1 = true := by
    have fl : ∀ i : Int, 0 ≤ i → i < 1000000 → Builtin.Range.rangeFitsLong i = true := fun i h1 h2 => by
      unfold Builtin.Range.rangeFitsLong
      simp; omega
    unfold Builtin.Range.small
    rw [hsz, fl 0 (by omega) (by omega), fl k (by omega) (by omega), fl 1 (by omega) (by omega), if_pos (by decide), show (k : Int) + (1 - 1) = k by omega, fl k (by omega) (by omega)]
    simp
  refine wpAny_pyIter_range hr hsm ?_
  rw [hsz]
  refine loop_core (I := s.heap.objs.size) (s := { s with heap := s.heap.push _ }) (KTurns.ofWalks (Walks.range p.ok.hand s.heap.objs.size 0 1 k) fun i v s Q E st q => hgo i v s Q E _ q) (p.push _) f1 f2 f3 ?_ ?_ ?_ (fun i h st => ?_) (by simp) Inv h0 ?_ done
  · intro b hb
    exact .inl (List.mem_singleton.mp hb)
  · intro hb
    exact f1 (List.mem_singleton.mp hb).symm
  · show IsRangeIter _ _ _ _ _
    simpa using Heap.get?_push_size _ rfl
  · exact ⟨_, st⟩
  · intro i v ε' F' W' hl' σ' it m₁ h₁ tk₁ hi hp hw p' hinv
    obtain ⟨tk, rfl⟩ := hp
    have e : (0 : Int) + (i : Int) * 1 = (i : Int) := by omega
    rw [e]
    exact step i tk _ ε' F' W' hl' σ' it m₁ h₁ tk₁ hi hw p' hinv
end
end
section
open PySem PySem.W PySem.Calls PyProof.Rows
set_option maxRecDepth 100000
section
variable {prog : Program} {w : World} {ε : Eps} {F : Facts} {n : Nat} {c : Cx} {W : Wd} {σ : AS} {hl kp : Led} {h : Heap} {m : Str → Option Value} {E : Value → Shared → Prop} {s : Shared} {ih : Ih} {sc : Scope}
theorem Rs.rl {K : Frag} {vs : List AV} : ∀ {us : List Value}, plainL vs = true → Rs K ε W vs us → Rl K ε W vs us := by
  induction vs with
  | nil => exact fun _ r => Rs.nilE r .nil
  | cons a q ih => exact fun h r => andE h fun h1 h2 => Rs.consE r (notE h1) fun u t r1 r2 => .cons r1 (ih h2 r2)
theorem Rl.get {K : Frag} {vs : List AV} {us : List Value} (h : Rl K ε W vs us) : ∀ {i : Nat} {v : Value}, us[i]? = some v → ∃ a, vs.drop i = a :: vs.drop (i + 1) ∧ R K ε W a v := by
  induction h with
  | nil => exact fun h => nos h
  | @cons a u q t ra _ ih =>
    intro i v h
    rcases i with _ | i
    · exact mk1_2 a rfl (Option.some.inj h ▸ ra)
    · exact ih (i := i) h
theorem LocR.put {x : Str} {v : AV} {u : Value} {loc : List (Str × AV)} (l : LocR w ε W m loc) (r : R (Kw w) ε W v u) : LocR w ε W (fun y => if y = x then some u else m y) (Mine.put loc x v) := by
  intro y v' h
  rw [look_put] at h
  refine iteE h (fun q h => ?_) fun q h => ?_
  · exact mk1_2 u (if_pos (sB_eq q).symm) (Option.some.inj h ▸ r)
  · exact ex1_2 (l y v' h) fun u' h1 h2 => mk1_2 u' ((if_neg fun (e : y = x) => bnt ((sB_self x).symm.trans (by rw [e] at q; exact q))).trans h1) h2
theorem store_snd {Q : Unit → Shared → Prop} {x : Str} {v : AV} {u : Value} (hx : c.cs.names.lookup x = some .local) (r : R (Kw w) ε W v u) (p : Pre prog w ε F n c W σ hl kp s.heap m)
    (k : After prog w ε F n c W kp s { σ with loc := put σ.loc x v } (fun _ s' => Q () s')) : wpAny (model prog w) c.A (storeName c.env x u) Q E s :=
  storeX_L p.st.fr p.st.news (fun h' F' N' => k W hl _ h' _ (.refl W) ⟨p.ok, ⟨F', ⟨N', p.st.lg.nd⟩, p.st.hr, p.st.rb⟩, p.loc.put r, p.fk⟩) p.ok.kind hx
set_option tactic.hygienic false in
theorem notComp {e : Expr} (h : isCompE e = false) (t : Option Expr) (l : Nat) (env : Env) : swapsWith e t l env = pure false := by
  induction e using Expr.casesOn with
  | ListComp => exact bnt h
  | SetComp => exact bnt h
  | DictComp => exact bnt h
  | _ => rfl
set_option tactic.hygienic false in
theorem notTup {e : Expr} (h : isTupE e = false) (ts : List Expr) (k : Nat) (tp : Pos) (env : Env) : swappedStores [.Tuple ts k tp] e env = pure none := by
  induction e using Expr.casesOn with
  | Tuple => exact bnt h
  | _ => rfl
theorem Pre.drop {q : Addr × Obj} (p : Pre prog w ε F n c W σ hl (q :: kp) h m) : Pre prog w ε F n c W σ hl kp h m := by
  have L := p.st.lg.perm (List.perm_middle : (hl ++ q :: (kp ++ W.ims)).Perm (q :: (hl ++ (kp ++ W.ims))))
  have nd := L.nd
  have nd := List.nodup_cons.mp nd
  exact ⟨p.ok, ⟨p.st.fr, ⟨fun z hz => L.nw z (.tail _ hz), nd.2⟩, p.st.hr, p.st.rb⟩, p.loc, p.fk⟩
theorem stAttr_snd (S : Snd prog w ε F n ih) (hc : c.cs = sc) {Q : Flow → Shared → Prop} {o value : Expr} {x : Str} {ap pos : Pos} {v : AV} {σ₁ σ' : AS} (hv : isCompE value = false) (e1 : runE ih sc value σ = some (v, σ₁)) (e2 : stAttr ih sc o x v σ₁ = some σ')
    (p : Pre prog w ε F (n + 1) c W σ hl kp s.heap m) (k : After prog w ε F (n + 1) c W kp s σ' (fun _ s' => Q .next s')) : wpAny (model prog w) c.A (exec (.Assign [.Attribute o x ap] value pos) c.env) Q E s := by
  refine biE e2 fun u σ₂ eo e2 => biE e2 fun l q q0 e2 => gdE e2 fun z e2 => andE z fun z1 z2 => ?_
  have qq := instOf_inv q0
  rw [qq.1] at eo
  rw [← Option.some.inj e2] at k
  refine plainObj_wpAny_Assign_Attribute (S.rE e1 hc p fun W' hl' m' h' tk' hw p' u ru => ?_) (notComp hv _ _ _)
  refine S.rE (s := { s with heap := h', toks := tk' }) eo hc p' fun W'' hl'' m'' h'' tk'' hw' p'' x rx => ?_
  exact seta_snd (s := { s with heap := h'', toks := tk'' }) qq.2 z1 z2 rx (ru.mono hw') p'' fun W3 hl3 m3 h3 tk3 hw3 p3 => k W3 hl3 m3 h3 tk3 ((hw.trans hw').trans hw3) p3
theorem stSub_snd (S : Snd prog w ε F n ih) (hc : c.cs = sc) {Q : Flow → Shared → Prop} {o i value : Expr} {ap pos : Pos} {v : AV} {σ₁ σ' : AS} (hv : isCompE value = false) (e1 : runE ih sc value σ = some (v, σ₁)) (e2 : stSub ih F sc o i v σ₁ = some σ')
    (p : Pre prog w ε F (n + 1) c W σ hl kp s.heap m) (k : After prog w ε F (n + 1) c W kp s σ' (fun _ s' => Q .next s')) : wpAny (model prog w) c.A (exec (.Assign [.Subscript o i ap] value pos) c.env) Q E s := by
  refine biE e2 fun a q et e2 => twoE et fun σ₂ eo ei => boE e2 fun l q0 e2 => boE e2 fun ob qo e2 => biE e2 fun kd d qd e2 => boE e2 fun k0 q2 e2 => boE e2 fun r0 q3 e2 => gdE e2 fun hs e2 => ?_
  rw [objL_inv q0] at eo
  rw [dictO_inv qd] at qo
  rw [← Option.some.inj e2] at k
  refine wpAny_Assign_Subscript (S.rE e1 hc p fun W' hl' m' h' tk' hw p' u ru => ?_) (notComp hv _ _ _)
  refine S.rE (s := { s with heap := h', toks := tk' }) eo hc p' fun W'' hl'' m'' h'' tk'' hw' p'' x rx => ?_
  refine S.rE (s := { s with heap := h'', toks := tk'' }) ei hc p'' fun W3 hl3 m3 h3 tk3 hw3 p3 i ri => ?_
  exact setd_snd (s := { s with heap := h3, toks := tk3 }) qo q2 q3 hs (rx.mono hw3) ri ((ru.mono hw').mono hw3) p3 fun W4 hl4 m4 h4 tk4 hw4 p4 => k W4 hl4 m4 h4 tk4 (((hw.trans hw').trans hw3).trans hw4) p4
set_option tactic.hygienic false in
@[elab_as_elim] theorem storeTE {P : Expr → Prop} {t : Expr} {v : AV} {r : AS} (k1 : ∀ x ps, isLoc sc x = true → { σ with loc := put σ.loc x v } = r → P (.Name x ps)) (k2 : ∀ o x ps, stAttr ih sc o x v σ = some r → P (.Attribute o x ps)) (k3 : ∀ o i ps, stSub ih F sc o i v σ = some r → P (.Subscript o i ps)) : storeT ih F sc t v σ = some r → P t := by
  induction t using Expr.casesOn with
  | Name x ps => exact fun e => gdE e fun z e => k1 x ps z (Option.some.inj e)
  | Attribute o x ps => exact fun e => k2 o x ps e
  | Subscript o i ps => exact fun e => k3 o i ps e
  | _ => exact fun e => nos e
theorem storeT_snd (S : Snd prog w ε F n ih) (hc : c.cs = sc) {Q : Flow → Shared → Prop} {t value : Expr} {pos : Pos} {v : AV} {σ₁ σ' : AS} (hv : isCompE value = false) (e1 : runE ih sc value σ = some (v, σ₁)) (e2 : storeT ih F sc t v σ₁ = some σ')
    (p : Pre prog w ε F (n + 1) c W σ hl kp s.heap m) (k : After prog w ε F (n + 1) c W kp s σ' (fun _ s' => Q .next s')) : wpAny (model prog w) c.A (exec (.Assign [t] value pos) c.env) Q E s :=
  storeTE (σ := σ₁) (r := σ') (P := fun t => wpAny (model prog w) c.A (exec (.Assign [t] value pos) c.env) Q E s) (fun x ps hx e => wpAny_Assign_Name (S.rE e1 hc p fun W' hl' m' h' tk' hw p' u ru =>
    store_snd (s := { s with heap := h', toks := tk' }) (by rw [hc]; exact isLoc_inv hx) ru p' fun W'' hl'' m'' h'' tk'' hw' p'' => k W'' hl'' m'' h'' tk'' (hw.trans hw') (e ▸ p'')) (notComp hv _ _ _)) (fun _ _ _ e2 => stAttr_snd S hc hv e1 e2 p k) (fun _ _ _ e2 => stSub_snd S hc hv e1 e2 p k) e2
set_option tactic.hygienic false in
@[elab_as_elim] theorem nameEE {P : Expr → Prop} {t : Expr} {x : Str} (k : ∀ p, P (.Name x p)) : nameE t = some x → P t := by
  induction t using Expr.casesOn with
  | Name y p => exact fun h => Option.some.inj h ▸ k p
  | _ => exact fun h => nos h
theorem nameE_inv {t : Expr} {x : Str} (h : nameE t = some x) : ∃ p, t = .Name x p := nameEE (P := fun t => ∃ p, t = .Name x p) (fun p => ⟨p, rfl⟩) h
theorem storeEach_cons {t : Expr} {r : List Expr} {v : AV} {vs : List AV} {σ' : AS} (h : storeEach sc (t :: r) (v :: vs) σ = some σ') : ∃ x p, t = .Name x p ∧ sc.names.lookup x = some .local ∧ storeEach sc r vs { σ with loc := put σ.loc x v } = some σ' :=
  boE h fun x h1 h => gdE h fun h2 h => ex1_1 (nameE_inv h1) fun p hp => mk2_3 x p hp (isLoc_inv h2) h
theorem storeEach_star (env : Env) {ts : List Expr} : ∀ {vs : List AV} {σ σ' : AS}, storeEach sc ts vs σ = some σ' → (assignEach ts env).length = vs.length ∧ (assignEach ts env).findIdx? (·.1) = none := by
  induction ts with
  | nil =>
    intro vs σ σ' e
    rcases vs with _ | ⟨v, vs⟩
    · exact ⟨rfl, rfl⟩
    · exact nos e
  | cons t r ih =>
    intro vs σ σ' e
    rcases vs with _ | ⟨v, vs⟩
    · exact nos e
    · refine ex2_3 (storeEach_cons e) fun x p ht _ e => ?_
      have hh := ih e
      rw [ht]
      show (List.length ((false, assign (.Name x p) env) :: assignEach r env) = _) ∧ List.findIdx? (·.1) ((false, assign (.Name x p) env) :: assignEach r env) = none
      exact ⟨congrArg Nat.succ hh.1, by rw [List.findIdx?_cons, hh.2]; rfl⟩
theorem storeEach_snd (hc : c.cs = sc) {Q : Unit → Shared → Prop} {σ' : AS} {ts : List Expr} : ∀ {vs : List AV} {us : List Value} {σ : AS} {W : Wd} {hl : Led} {s : Shared} {m : Str → Option Value}, storeEach sc ts vs σ = some σ' → Rl (Kw w) ε W vs us →
    Pre prog w ε F n c W σ hl kp s.heap m → After prog w ε F n c W kp s σ' (fun _ s' => Q () s') → wpAny (model prog w) c.A (assignInOrder ((assignEach ts c.env).map (·.2)) us) Q E s := by
  induction ts with
  | nil =>
    intro vs us σ W hl s m e r p k
    rcases vs with _ | ⟨v, vs⟩
    · rw [← Option.some.inj e] at k; exact Rl.nilE r (assignInOrder_nil (p.done k s.toks))
    · exact nos e
  | cons t r ih =>
    intro vs us σ W hl s m e rl p k
    rcases vs with _ | ⟨v, vs⟩
    · exact nos e
    · refine ex2_3 (storeEach_cons e) fun x px ht hx e => Rl.consE rl fun u us ra rr => ?_
      rw [ht]
      refine assignInOrder_cons (assign_Name (store_snd (by rw [hc]; exact hx) ra p fun W' hl' m' h' tk' hw p' => ?_))
      exact ih (s := { s with heap := h', toks := tk' }) e (rr.mono hw) p' fun W'' hl'' m'' h'' tk'' hw' p'' => k W'' hl'' m'' h'' tk'' (hw.trans hw') p''
theorem unp_snd (hc : c.cs = sc) {Q : Unit → Shared → Prop} {ts : List Expr} {k0 : Nat} {tp : Pos} {vs : List AV} {u : Value} {σ' : AS} (e : storeEach sc ts vs σ = some σ') (hp : plainL vs = true) (r : R (Kw w) ε W (.tup vs) u)
    (p : Pre prog w ε F n c W σ hl kp s.heap m) (k : After prog w ε F n c W kp s σ' (fun _ s' => Q () s')) : wpAny (model prog w) c.A (assign (.Tuple ts k0 tp) c.env u) Q E s := by
  refine R.tupE r fun us a i rs => ?_
  have hh := storeEach_star c.env e
  refine assign_Tuple_tuple p.ok.hand ⟨_, p.im i, rfl, _, rfl⟩ (by rw [hh.1, List.size_toArray, rs.plain_len hp]) hh.2 fun h' he => ?_
  have hk : ∀ b o, s.heap.get? b = some o → h'.get? b = some o := fun b o q => he b o (Nat.ne_of_lt (Heap.lt_size q)) q
  have p1 : Pre prog w ε F n c W σ hl kp h' m := ⟨p.ok, ⟨p.st.fr.extBut he (Nat.le_refl _), ⟨fun q hq => ⟨hk _ _ (p.st.news q hq).1, (p.st.news q hq).2⟩, p.st.lg.nd⟩, p.st.hr, p.st.rb⟩, p.loc, p.fk⟩
  exact storeEach_snd (s := { s with heap := h' }) hc e (rs.rl hp) p1 fun W'' hl'' m'' h'' tk'' hw' p'' => k W'' hl'' m'' h'' tk'' hw' p''
/-- the turns of a for over known items -/
structure InvE (w : World) (ε : Eps) (ih : Ih) (sc : Scope) (x : Str) (body : List Stmt) (vs : List AV) (us : List Value) (fl : AFl) (σe : AS) (F : Facts) (W₀ : Wd) (i : Nat) (ε' : Eps) (F' : Facts) (W : Wd) (σ : AS) : Prop where
  e : ε' = ε
  f : F' = F
  le : W₀.Le W
  rl : Rl (Kw w) ε W vs us
  go : forEach ih sc x body (vs.drop i) σ = some (fl, σe)
theorem turn_snd (S : Snd prog w ε F n ih) (hc : c.cs = sc) {x : Str} {px : Pos} {body : List Stmt} {vs : List AV} {us : List Value} {fl : AFl} {σe : AS} (hx : sc.names.lookup x = some .local) {i : Nat} {I : Addr} {it : Obj} {v : Value} {W' : Wd} {Q : Flow → Shared → Prop} {s₀ : Shared} {h0 : Heap} {tk0 : Nat} (hs0 : s = { s₀ with heap := h0, toks := tk0 })
    (hv : us[i]? = some v) (p : Pre prog w ε F (n + 1) c W' σ hl ((I, it) :: kp) s.heap m) {W₀ : Wd} (hinv : InvE w ε ih sc x body vs us fl σe F W₀ i ε F W' σ)
    (hret : ∀ W'' hl'' m'' h'' tk'' u w', W'.Le W'' → Pre prog w ε F (n + 1) c W'' σe hl'' ((I, it) :: kp) h'' m'' → fl = .ret w' → R (Kw w) ε W'' w' u → Q (.ret u) { s₀ with heap := h'', toks := tk'' }) :
    wpAny (model prog w) c.A (assign (.Name x px) c.env v) (fun _ s₂ => wpAny (model prog w) c.A (execs body c.env) (LStep prog w (n + 1) c W' kp I it (InvE w ε ih sc x body vs us fl σe F W₀ (i + 1)) Q s₀) E s₂) E s := by
  refine ex1_2 (hinv.rl.get hv) fun a h1 h2 => ?_
  have hf := hinv.go
  rw [h1] at hf
  refine biE hf fun fl₁ σ₁ ex hf => assign_Name (store_snd (by rw [hc]; exact hx) h2 p fun W1 hl1 m1 h1' tk1 hw1 p1 => ?_)
  rw [hs0]
  refine S.exs1 (s := { s₀ with heap := h1', toks := tk1 }) hc ex p1 fun W2 hl2 m2 h2' tk2 hw2 p2 f rf => ?_
  rcases fl₁ with _ | w'
  · rw [show f = .next from rf]
    exact ⟨ε, F, W2, hl2, σ₁, m2, h2', tk2, rfl, (hw1.trans hw2).i, p2, rfl, rfl, hinv.le.trans (hw1.trans hw2), hinv.rl.mono (hw1.trans hw2), hf⟩
  · refine ex1_2 rf fun u e2 ru => som2 hf fun e3 e4 => ?_
    rw [e2]
    exact hret W2 hl2 m2 h2' tk2 u w' (hw1.trans hw2) (e4 ▸ p2) e3.symm ru
theorem inv_end {x : Str} {body : List Stmt} {vs : List AV} {us : List Value} {fl : AFl} {σe : AS} {W' W₀ : Wd} {ε' : Eps} {F' : Facts} (h : InvE w ε ih sc x body vs us fl σe F W₀ us.length ε' F' W' σ) : fl = .next ∧ σe = σ := by
  have hf := h.go
  rw [h.rl.len, List.drop_length] at hf
  exact som2 hf fun h1 h2 => ⟨h1.symm, h2.symm⟩
set_option tactic.hygienic false in
theorem setok {iter : Expr} (h : isSetE iter = false) (env : Env) (x : Value) : foldedSetIterable iter env x = pure x := by
  induction iter using Expr.casesOn with
  | Set => exact bnt h
  | _ => rfl
theorem for_tup (S : Snd prog w ε F n ih) (hc : c.cs = sc) {Q : Flow → Shared → Prop} {x : Str} {px pos : Pos} {iter : Expr} {body : List Stmt} {vs : List AV} {fl : AFl} {σ₁ σe : AS} (hx : sc.names.lookup x = some .local) (hi : isSetE iter = false)
    (e1 : runE ih sc iter σ = some (.tup vs, σ₁)) (hp : plainL vs = true) (e2 : forEach ih sc x body vs σ₁ = some (fl, σe))
    (p : Pre prog w ε F (n + 1) c W σ hl kp s.heap m) (k : After prog w ε F (n + 1) c W kp s σe (fun W' s' => ∀ f, FlR w ε W' fl f → Q f s')) : wpAny (model prog w) c.A (exec (.For (.Name x px) iter body [] pos) c.env) Q E s := by
  refine wpAny_mono (E := fun _ _ => False) ?_ (fun _ _ z => z) (fun _ _ z => z.elim)
  refine For_turns p.st.fr (S.rE e1 hc p fun W1 hl1 m1 h1 tk1 hw1 p1 u ru => ?_) (setok hi _) PassesOwn.never
  refine R.tupE ru fun us t i rs => ?_
  refine loop_tup (s := { s with heap := h1, toks := tk1 }) (im_kept p1 i) p1 (InvE w ε ih sc x body vs us fl σe F W1) ⟨rfl, rfl, .refl _, rs.rl hp, e2⟩ ?_ ?_
  · intro j v I ε2 F2 W2 hl2 σ2 it m2 h2 tk2 hv _ p2 hinv
    rw [hinv.e, hinv.f] at p2 hinv
    refine turn_snd (s := { s with heap := h2, toks := tk2 }) S hc hx rfl hv p2 hinv fun W3 hl3 m3 h3 tk3 u w' hw3 p3 ef ru => ?_
    exact k W3 hl3 m3 h3 tk3 ((hw1.trans hinv.le).trans hw3) p3.drop _ (ef ▸ ⟨u, rfl, ru⟩)
  · intro ε2 F2 W2 hl2 σ2 m2 h2 tk2 _ p2 hinv
    rw [hinv.e, hinv.f] at p2
    have ee := inv_end hinv
    exact k W2 hl2 m2 h2 tk2 (hw1.trans hinv.le) (ee.2 ▸ p2) _ (ee.1 ▸ rfl)
end
end
section
open PySem PySem.W PySem.Calls PyProof.Rows
set_option maxRecDepth 100000
section
variable {prog : Program} {w : World} {ε : Eps} {F : Facts} {n : Nat} {c : Cx} {W : Wd} {σ : AS} {hl kp : Led} {h : Heap} {m : Str → Option Value} {E : Value → Shared → Prop} {s : Shared} {ih : Ih} {sc : Scope}
theorem Pre.find2 (p : Pre prog w ε F n c W σ hl kp h m) {l : Nat} {vs : List AV} {v : Value} (e : lookN σ.hp l = some (.list none vs)) (r : R (Kw w) ε W (.obj l) v) :
    ∃ t dx us kk a b, v = .ref t ∧ W.ρ l = some (t, dx) ∧ Rs (Kw w) ε W vs us ∧ hl = a ++ ([(t, listOf (List.toArray us) kk)] ++ b) ∧ Pre prog w ε F n c W { σ with hp := dropN σ.hp l } (a ++ b) ((t, listOf us.toArray kk) :: kp) h m := by
  refine R.objE r fun t dx rl => ?_
  obtain ⟨x', dx', os, a, b, h1, h2, h3, _, h4⟩ := p.st.hr.find e
  refine som2 (rl.symm.trans h1) fun e1 e2 => ex2_2 (A0 := fun us n => os = [(x', listOf (preL ε none ++ us).toArray n)]) (A1 := fun us _ => Rs (Kw w) ε W vs us) h2 fun us kk eo rs => ?_
  rw [eo] at h3
  refine mk6_5 t dx us kk a b rfl rl rs (by rw [e1]; exact h3) ⟨p.ok, ⟨p.st.fr, p.st.lg.perm ?_, h4, p.st.rb⟩, p.loc, p.fk⟩
  rw [h3, e1]
  show (a ++ ([(x', listOf us.toArray kk)] ++ b) ++ (kp ++ W.ims)).Perm (a ++ b ++ ((x', listOf us.toArray kk) :: (kp ++ W.ims)))
  refine List.Perm.trans ?_ List.perm_middle.symm
  rw [List.append_assoc, List.append_assoc a b]
  exact List.perm_middle
theorem Pre.back (p : Pre prog w ε F n c W σ hl ((h' : Addr × Obj) :: kp) h m) {l : Nat} {dx : Addr} {o : AO} (rl : W.ρ l = some (h'.1, dx)) (ho : OR prog w ε W o h'.1 dx [h']) : Pre prog w ε F n c W { σ with hp := (l, o) :: σ.hp } (h' :: hl) kp h m :=
  ⟨p.ok, ⟨p.st.fr, p.st.lg.perm (List.perm_middle : (hl ++ h' :: (kp ++ W.ims)).Perm (h' :: (hl ++ (kp ++ W.ims)))), HpR.cons (os := [h']) rl ho p.st.hr, p.st.rb⟩, p.loc, p.fk⟩
theorem evs_one {e : Expr} {v : AV} {σ₁ : AS} (h : runE ih sc e σ = some (v, σ₁)) : evs ih sc [e] σ = some ([v], σ₁) := by
  show bi (runE ih sc e σ) _ = _
  rw [h]; rfl
theorem plain_append {a b : List AV} (h : plainL a = true) (h' : plainL b = true) : plainL (a ++ b) = true := by
  induction a with
  | nil => exact h'
  | cons x r ih => exact andE h fun h1 h2 => Bool.and_eq_true_iff.mpr ⟨h1, ih h2⟩
theorem plain_rev {a : List AV} (h : plainL a = true) : plainL a.reverse = true := by
  induction a with
  | nil => rfl
  | cons x r ih =>
    refine andE h fun h1 h2 => ?_
    rw [List.reverse_cons]
    exact plain_append (ih h2) (Bool.and_eq_true_iff.mpr ⟨h1, rfl⟩)
theorem rev_fl (S : Snd prog w ε F n ih) (hc : c.cs = sc) {Q : Flow → Shared → Prop} {x : Str} {px : Pos} {body : List Stmt} {vs : List AV} {u : Value} {fl : AFl} {σe : AS} (hx : sc.names.lookup x = some .local) (z : plainL vs = true) (ef : forEach ih sc x body vs.reverse σ = some (fl, σe)) (ru : R (Kw w) ε W (.fl vs) u)
    (p : Pre prog w ε F (n + 1) c W σ hl kp s.heap m) (k : After prog w ε F (n + 1) c W kp s σe (fun W' s' => ∀ f, FlR w ε W' fl f → Q f s')) :
    wpAny (model prog w) c.A (call (.type "reversed") [u]) (fun xv s₁ => wpAny (model prog w) c.A (pyIter xv) (fun it s₂ => TurnsAt prog w c.A c.h₀ c.env (.Name x px) body Q (fun _ _ => False) it s₂) (fun _ _ => False) s₁) (fun _ _ => False) s := by
  refine R.flE ru fun us t kk i rs => ?_
  refine loop_rev (im_kept p i) p (InvE w ε ih sc x body vs.reverse us.reverse fl σe F W) ⟨rfl, rfl, .refl _, (rs.reverse z).rl (plain_rev z), ef⟩ ?_ ?_
  · intro j v I ε2 F2 W2 hl2 σ2 it m2 h2 tk2 hv _ p2 hinv
    rw [hinv.e, hinv.f] at p2 hinv
    refine turn_snd (s := { s with heap := h2, toks := tk2 }) S hc hx rfl hv p2 hinv fun W3 hl3 m3 h3 tk3 u w' hw3 p3 ef ru => ?_
    exact k W3 hl3 m3 h3 tk3 (hinv.le.trans hw3) p3.drop _ (ef ▸ ⟨u, rfl, ru⟩)
  · intro ε2 F2 W2 hl2 σ2 m2 h2 tk2 _ p2 hinv
    rw [hinv.e, hinv.f] at p2
    rw [← List.length_reverse] at hinv
    have ee := inv_end hinv
    exact k W2 hl2 m2 h2 tk2 hinv.le (ee.2 ▸ p2) _ (ee.1 ▸ rfl)
theorem rev_obj (S : Snd prog w ε F n ih) (hc : c.cs = sc) {Q : Flow → Shared → Prop} {x : Str} {px : Pos} {body : List Stmt} {l : Nat} {vs : List AV} {u : Value} {σ₂ : AS} (hx : sc.names.lookup x = some .local) (q : lookN σ.hp l = some (.list none vs)) (z : plainL vs = true) (ef : forEach ih sc x body vs.reverse { σ with hp := dropN σ.hp l } = some (.next, σ₂)) (ru : R (Kw w) ε W (.obj l) u)
    (p : Pre prog w ε F (n + 1) c W σ hl kp s.heap m) (k : After prog w ε F (n + 1) c W kp s { σ₂ with hp := (l, .list none vs) :: σ₂.hp } (fun W' s' => ∀ f, FlR w ε W' .next f → Q f s')) :
    wpAny (model prog w) c.A (call (.type "reversed") [u]) (fun xv s₁ => wpAny (model prog w) c.A (pyIter xv) (fun it s₂ => TurnsAt prog w c.A c.h₀ c.env (.Name x px) body Q (fun _ _ => False) it s₂) (fun _ _ => False) s₁) (fun _ _ => False) s := by
  refine ex6_5 (p.find2 q ru) fun t dx us kk a b hu rl rs _ p1' => ?_
  rw [hu]
  refine loop_rev (.inr (.head _)) p1' (InvE w ε ih sc x body vs.reverse us.reverse .next σ₂ F W) ⟨rfl, rfl, .refl _, (rs.reverse z).rl (plain_rev z), ef⟩ ?_ ?_
  · intro j v I ε2 F2 W2 hl2 σ2 it m2 h2 tk2 hv _ p2 hinv
    rw [hinv.e, hinv.f] at p2 hinv
    exact turn_snd (s := { s with heap := h2, toks := tk2 }) S hc hx rfl hv p2 hinv fun W3 hl3 m3 h3 tk3 u w' hw3 p3 ef ru => AFl.noConfusion ef
  · intro ε2 F2 W2 hl2 σ2 m2 h2 tk2 _ p2 hinv
    rw [hinv.e, hinv.f] at p2
    rw [← List.length_reverse] at hinv
    have ee := inv_end hinv
    exact k W2 _ m2 h2 tk2 hinv.le ((ee.2 ▸ p2 : Pre prog w ε F (n + 1) c W2 σ₂ hl2 ((t, listOf us.toArray kk) :: kp) h2 m2).back (hinv.le.ρ _ _ rl) ⟨us, kk, rfl, rs.mono hinv.le⟩) _ rfl
theorem isNext_inv {fl : AFl} (h : isNext fl = true) : fl = .next := by
  rcases fl with _ | v
  · rfl
  · exact bnf h
theorem rev_any (S : Snd prog w ε F n ih) (hc : c.cs = sc) {Q : Flow → Shared → Prop} {x : Str} {px cp : Pos} {e : Expr} {body : List Stmt} {fl : AFl} {σe : AS} (hx : sc.names.lookup x = some .local) (hst : isStar e = false) (ef : forRev ih sc x e body σ = some (fl, σe))
    (p : Pre prog w ε F (n + 1) c W σ hl kp s.heap m) (k : After prog w ε F (n + 1) c W kp s σe (fun W' s' => ∀ f, FlR w ε W' fl f → Q f s')) :
    wpAny (model prog w) c.A (callWith cp (.type "reversed") [] (backTo cp (starEach [e] c.env)) []) (fun xv s₁ => wpAny (model prog w) c.A (pyIter xv) (fun it s₂ => TurnsAt prog w c.A c.h₀ c.env (.Name x px) body Q (fun _ _ => False) it s₂) (fun _ _ => False) s₁) (fun _ _ => False) s := by
  have hns : noStars [e] = true := Bool.and_eq_true_iff.mpr ⟨by rw [hst]; rfl, rfl⟩
  refine biE ef fun v σ₁ e1 ef => callWith_list (P := fun _ => True) hns keeps_ty (S.evs hc (evs_one e1) hns p fun W1 hl1 m1 h1 tk1 hw1 p1 us1 rus => ⟨True.intro, Rl.oneE rus fun u ru => ?_⟩)
  refine altE ef (fun vs q ef => gdE ef fun z ef => andE z fun z _ => ?_) fun _ ef => boE ef fun l q0 ef => boE ef fun vs q ef => gdE ef fun z ef => andE z fun z _ => biE ef fun fl2 σ₂ ef' ef => gdE ef fun hn ef => som2 ef fun e3 e4 => ?_
  · rw [flA_inv q] at ru
    exact rev_fl (s := { s with heap := h1, toks := tk1 }) S hc hx z ef ru p1 fun W2 hl2 m2 h2 tk2 hw2 p2 => k W2 hl2 m2 h2 tk2 (hw1.trans hw2) p2
  · rw [objL_inv q0] at ru
    rw [isNext_inv hn] at ef'
    rw [← e3, ← e4] at k
    exact rev_obj (s := { s with heap := h1, toks := tk1 }) S hc hx (listN_inv q) z ef' ru p1 fun W2 hl2 m2 h2 tk2 hw2 p2 => k W2 hl2 m2 h2 tk2 (hw1.trans hw2) p2
theorem nameV_glo {x : Str} (hg : sc.names.lookup x = some .globalImplicit) : nameV sc σ x = alt (look gtab x) some (bo (look btab x) fun v => some (.stat v)) := by
  unfold nameV kindV
  rw [hg]; rfl
theorem for_rev (S : Snd prog w ε F n ih) (hc : c.cs = sc) {Q : Flow → Shared → Prop} {x g : Str} {px gp cp pos : Pos} {e : Expr} {body : List Stmt} {fl : AFl} {σe : AS} (hx : sc.names.lookup x = some .local) (hg : sc.names.lookup g = some .globalImplicit) (hgr : sB g (Str.ofString "reversed") = true) (hst : isStar e = false)
    (ef : forRev ih sc x e body σ = some (fl, σe))
    (p : Pre prog w ε F (n + 1) c W σ hl kp s.heap m) (k : After prog w ε F (n + 1) c W kp s σe (fun W' s' => ∀ f, FlR w ε W' fl f → Q f s')) : wpAny (model prog w) c.A (exec (.For (.Name x px) (.Call (.Name g gp) [e] [] cp) body [] pos) c.env) Q E s := by
  have hge := sB_eq hgr
  rw [hge] at hg ⊢
  refine wpAny_mono (E := fun _ _ => False) ?_ (fun _ _ z => z) (fun _ _ z => z.elim)
  refine For_turns p.st.fr ?_ (fun _ => rfl) PassesOwn.never
  show wpAny (model prog w) c.A (do callWith cp (← eval (.Name (Str.ofString "reversed") gp) c.env) [] (backTo cp (starEach [e] c.env)) (backToKw cp (keywordEach [] c.env))) _ _ s
  have hn : nameV sc σ (Str.ofString "reversed") = some (.stat (.type "reversed")) := (nameV_glo hg).trans rfl
  refine wpAny_bind (name_snd hc hn p fun W0 hl0 m0 h0 tk0 hw0 p0 u0 r0 => R.statE r0 ?_)
  exact rev_any (s := { s with heap := h0, toks := tk0 }) S hc hx hst ef p0 fun W2 hl2 m2 h2 tk2 hw2 p2 => k W2 hl2 m2 h2 tk2 (hw0.trans hw2) p2
end
end
section
open PySem PySem.W PySem.Calls PyProof.Rows
set_option maxRecDepth 100000
section
variable {prog : Program} {w : World} {ε : Eps} {F : Facts} {n : Nat} {c : Cx} {W : Wd} {σ : AS} {hl kp : Led} {h : Heap} {m : Str → Option Value} {E : Value → Shared → Prop} {s : Shared} {ih : Ih} {sc : Scope}
theorem notInter (p : Pre prog w ε F n c W σ hl kp h m) : interactive c.env = false := by
  unfold interactive
  rw [show c.env.scope.kind = .function from p.ok.kind]; rfl
set_option tactic.hygienic false in
theorem tupT_inv {t : Expr} {us : List Expr} : tupT t = some us → ∃ k p, t = .Tuple us k p := by
  induction t using Expr.casesOn with
  | Tuple ts k p => exact fun h => ⟨k, p, by rw [Option.some.inj h]⟩
  | _ => exact fun h => nos h
set_option tactic.hygienic false in
theorem revOf_inv {x : Expr} {g : Str} {e : Expr} : revOf x = some (g, e) → ∃ gp p, x = .Call (.Name g gp) [e] [] p := by
  induction x using Expr.casesOn with
  | Call f args ks p => exact fun h => boE h fun g' h1 h => boE h fun e' h2 h => gdE h fun h3 h => som2 h fun e1 e2 => ex1_1 (nameE_inv h1) fun gp hg => ⟨gp, p, by rw [hg, one1_inv h2, nilL_inv h3, e1, e2]⟩
  | _ => exact fun h => nos h
theorem isGlo_inv {x : Str} (h : isGlo sc x = true) : sc.names.lookup x = some .globalImplicit := by
  unfold isGlo at h
  generalize q : kindV sc x = o at h
  rcases o with _ | b
  · exact bnf h
  · rw [show b = false from notE h] at q
    exact kindV_t q
theorem xAss_snd (S : Snd prog w ε F n ih) (hc : c.cs = sc) {Q : Flow → Shared → Prop} {t value : Expr} {pos : Pos} {fl : AFl} {σ' : AS} (e : xAss ih F sc t value σ = some (fl, σ')) (p : Pre prog w ε F (n + 1) c W σ hl kp s.heap m)
    (k : After prog w ε F (n + 1) c W kp s σ' (fun W' s' => ∀ f, FlR w ε W' fl f → Q f s')) : wpAny (model prog w) c.A (exec (.Assign [t] value pos) c.env) Q E s := by
  refine altE e (fun us q e => gdE e fun z e => andE z fun z1 z2 => biE e fun v σ₁ e1 e => boE e fun vs q1 e => gdE e fun hp e => boE e fun σ₂ h1 e => som2 e fun h2 h3 => ex2_1 (tupT_inv q) fun k0 tp ht => ?_) fun _ e => gdE e fun z e => biE e fun v σ₁ e1 e => boE e fun σ₂ h1 e => som2 e fun h2 h3 => ?_
  · rw [ht]
    rw [tupA_inv q1] at e1
    rw [← h2, ← h3] at k
    refine Assign_Tuple (S.rE e1 hc p fun W' hl' m' h' tk' hw p' u ru => ?_) (by unfold swapsWithSole; exact notComp (notE z1) _ _ _) (notTup (notE z2) _ _ _ _)
    exact unp_snd (s := { s with heap := h', toks := tk' }) hc h1 hp ru p' fun W'' hl'' m'' h'' tk'' hw' p'' => k W'' hl'' m'' h'' tk'' (hw.trans hw') p'' _ rfl
  · rw [← h2, ← h3] at k
    exact storeT_snd S hc (notE z) e1 h1 p fun W'' hl'' m'' h'' tk'' hw' p'' => k W'' hl'' m'' h'' tk'' hw' p'' _ rfl
theorem xFor_snd (S : Snd prog w ε F n ih) (hc : c.cs = sc) {Q : Flow → Shared → Prop} {t iter : Expr} {body : List Stmt} {pos : Pos} {fl : AFl} {σ' : AS} (e : xFor ih sc t iter body σ = some (fl, σ')) (p : Pre prog w ε F (n + 1) c W σ hl kp s.heap m)
    (k : After prog w ε F (n + 1) c W kp s σ' (fun W' s' => ∀ f, FlR w ε W' fl f → Q f s')) : wpAny (model prog w) c.A (exec (.For t iter body [] pos) c.env) Q E s := by
  refine boE e fun x q e => ex1_1 (nameE_inv q) fun px ht => ?_
  rw [ht]
  refine altE e (fun q q1 e => gdE e fun z e => andE z fun z1 z => andE z fun z2 z => andE z fun z3 z4 => ex2_1 (revOf_inv q1) fun gp cp hi => ?_) fun _ e => gdE e fun z e => andE z fun z1 z2 => biE e fun v σ₁ e1 e => boE e fun vs q2 e => gdE e fun hp e => ?_
  · rw [hi]
    exact for_rev S hc (isLoc_inv z1) (isGlo_inv z2) z3 (notE z4) e p k
  · rw [tupA_inv q2] at e1
    exact for_tup S hc (isLoc_inv z2) (notE z1) e1 hp e p k
set_option tactic.hygienic false in
theorem sS (S : Snd prog w ε F n ih) : SS prog w ε F (n + 1) (xStep F ih) := by
  intro sc x σ fl σ' e0 c W hl kp s m Q E hc p k
  refine biE e0 fun v' σ'' e e0 => som2 e0 fun h1 h2 => ?_
  rw [← Out.f.inj h1, ← h2] at k
  induction x using Stmt.casesOn with
  | Expr x ps => exact gdE e fun z e => biE e fun v σ₁ h1 e => som2 e fun h3 h4 => wpAny_Expr_any (S.rE h1 hc p fun W' hl' m' h' tk' hw p' u _ => k W' hl' m' h' tk' hw (h4 ▸ p') _ (h3 ▸ rfl)) (notInter p) (notComp (notE z) _ _ _)
  | Return o ps =>
    refine boE e fun x ho e => biE e fun v σ₁ h1 e => som2 e fun h3 h4 => ?_
    rw [ho]
    show wpAny (model prog w) c.A (do standAt _; return Flow.ret (← eval _ c.env)) Q E s
    exact wpAny_bind (wpAny_standAt (wpAny_bind (S.rE h1 hc p fun W' hl' m' h' tk' hw p' u ru => wpAny_pure (k W' hl' m' h' tk' hw (h4 ▸ p') _ (h3 ▸ ⟨u, rfl, ru⟩)))))
  | Pass ps =>
    refine som2 e fun h3 h4 => ?_
    rw [← h3, ← h4] at k
    exact wpAny_Pass (p.done k s.toks _ rfl)
  | If t a b ps =>
    refine biE e fun cc σ₁ e1 e => wpAny_If (S.rT e1 hc p fun W' hl' m' h' tk' hw p' => ?_)
    rcases cc with _ | _ <;> exact S.exs1 (s := { s with heap := h', toks := tk' }) hc e p' fun W'' hl'' m'' h'' tk'' hw' p'' => k W'' hl'' m'' h'' tk'' (hw.trans hw') p''
  | Assign ts value ps => exact boE e fun t ht e => by rw [one1_inv ht]; exact xAss_snd S hc e p k
  | For t iter body orelse ps => exact gdE e fun z e => by rw [nilL_inv z]; exact xFor_snd S hc e p k
  | _ => exact nos e
theorem snd_step (S : Snd prog w ε F n ih) : Snd prog w ε F (n + 1) (xStep F ih) := ⟨sE S, sT S, sS S, sF S⟩
theorem snd_run (prog : Program) (w : World) (ε : Eps) (F : Facts) (n : Nat) : Snd prog w ε F n (xRun F n) := by
  induction n with
  | zero => exact ⟨fun _ _ _ _ _ e => nos e, fun _ _ _ _ _ e => nos e, fun _ _ _ _ _ e => nos e, fun _ _ _ _ _ e => nos e⟩
  | succ n ih => exact snd_step ih
end
end
section
open PySem PySem.W PySem.Calls PyProof.Rows
set_option maxRecDepth 100000
/-! another meaning of the unknowns -/
mutual
noncomputable def AV.sub (ε : Eps) : AV → AV
  | .int e => .int (.lit (ε.ev e))
  | .tup vs => .tup (AV.subs ε vs)
  | .fl vs => .fl (AV.subs ε vs)
  | .opq k => .tup (ε.pv k)
  | a => a
noncomputable def AV.subs (ε : Eps) : List AV → List AV
  | [] => []
  | .sq k :: r => ε.sq k ++ AV.subs ε r
  | a :: r => a.sub ε :: AV.subs ε r
end
section
variable {K : Frag} {ε ε₀ ε' : Eps} {W W' : Wd}
theorem AI.clo_ev {e : AI} (h : e.clo = true) (ε ε' : Eps) : ε.ev e = ε'.ev e := by cases e <;> first | rfl | cases h
theorem R.epsB (ε' : Eps) : (∀ {a u}, R K ε W a u → a.clo = true → R K ε' W a u) ∧ ∀ {l us}, Rs K ε W l us → AV.cloL l = true → Rs K ε' W l us :=
  R.ind (P := fun a u => a.clo = true → R K ε' W a u) (P' := fun l us => AV.cloL l = true → Rs K ε' W l us) (fun _ => .none) (fun b _ => .bool b) (fun e t h => by
    have h1 := R.int (K := K) (ε := ε') (W := W) e t
    rw [← AI.clo_ev h ε ε'] at h1
    exact h1) (fun s t _ => .str s t) (fun _ _ _ e _ => .obj e) (fun v _ => .stat v) (fun _ _ _ i _ r h => .tup i (r h)) (fun _ _ _ _ i _ r h => .fl i (r h)) (fun _ _ _ _ _ _ h => by cases h) (fun v _ => .any v) (fun _ => .nil)
    (fun _ _ _ _ _ _ r s h => by
      simp only [AV.cloL, Bool.and_eq_true] at h
      exact .cons (r h.1) (s h.2)) (fun _ _ _ _ _ _ _ _ h => by cases h)
theorem R.eps (ε' : Eps) {a : AV} {u : Value} (r : R K ε W a u) (h : a.clo = true) : R K ε' W a u := (R.epsB ε').1 r h
theorem Rs.eps (ε' : Eps) {a : List AV} {u : List Value} (r : Rs K ε W a u) (h : AV.cloL a = true) : Rs K ε' W a u := (R.epsB ε').2 r h
theorem AV.subs_cons {a : AV} (h : isSq a = false) (ε : Eps) (r : List AV) : AV.subs ε (a :: r) = a.sub ε :: AV.subs ε r := by
  cases a <;> first | (simp [AV.subs]; done) | cases h
theorem R.closeB : (∀ {a u}, R K ε W a u → R K ε₀ W (a.sub ε) u) ∧ ∀ {l us}, Rs K ε W l us → Rs K ε₀ W (AV.subs ε l) us :=
  R.ind (P := fun a u => R K ε₀ W (a.sub ε) u) (P' := fun l us => Rs K ε₀ W (AV.subs ε l) us) .none .bool (fun e t => .int (.lit (ε.ev e)) t) .str (fun _ _ _ e => .obj e) .stat (fun _ _ _ i _ r => .tup i r) (fun _ _ _ _ i _ r => .fl i r) (fun k _ _ i r _ => .tup i (Rs.eps _ r (ε.pv_cl k))) .any .nil
    (fun a _ _ _ r0 _ r s => by
      have h : isSq a = false := by cases r0 <;> rfl
      rw [AV.subs_cons h]
      exact .cons r s) (fun k _ _ _ r0 _ _ s => (Rs.eps _ r0 (ε.sq_cl k)).append s)
theorem R.close {a : AV} {u : Value} (r : R K ε W a u) : R K ε₀ W (a.sub ε) u := R.closeB.1 r
theorem Rs.close {a : List AV} {u : List Value} (r : Rs K ε W a u) : Rs K ε₀ W (AV.subs ε a) u := R.closeB.2 r
theorem Rs.split : ∀ {a b : List AV} {us : List Value}, plainL a = true → Rs K ε W (a ++ b) us → ∃ u1 u2, us = u1 ++ u2 ∧ Rs K ε W a u1 ∧ Rs K ε W b u2
  | [], _, us, _, h => ⟨[], us, rfl, .nil, h⟩
  | x :: r, b, us, hp, h => by
    simp only [plainL, Bool.and_eq_true, Bool.not_eq_true'] at hp
    cases h with
    | cons ra rr =>
      obtain ⟨u1, u2, rfl, h1, h2⟩ := Rs.split hp.2 rr
      exact ⟨_ :: u1, u2, rfl, .cons ra h1, h2⟩
    | sq _ _ => simp [isSq] at hp
theorem Rs.uncons {a : AV} {r : List AV} {us : List Value} (hx : isSq a = false) (h : Rs K ε W (a :: r) us) : ∃ u us', us = u :: us' ∧ R K ε W a u ∧ Rs K ε W r us' := by
  cases h with
  | cons ra rr => exact ⟨_, _, rfl, ra, rr⟩
  | sq _ _ => cases hx
mutual
theorem R.opn : ∀ (a : AV) {u : Value}, R K ε₀ W (a.sub ε) u → R K ε W a u
  | .none, _, h => by simp only [AV.sub] at h; cases h; exact .none
  | .bool b, _, h => by simp only [AV.sub] at h; cases h; exact .bool b
  | .int e, _, h => by
    simp only [AV.sub] at h
    cases h
    exact .int e _
  | .str s, _, h => by simp only [AV.sub] at h; cases h; exact .str s _
  | .obj l, _, h => by simp only [AV.sub] at h; cases h; exact .obj (by assumption)
  | .stat v, _, h => by simp only [AV.sub] at h; cases h; exact .stat v
  | .tup vs, _, h => by
    simp only [AV.sub] at h
    cases h with
    | tup i r => exact .tup i (Rs.opn vs r)
  | .fl vs, _, h => by
    simp only [AV.sub] at h
    cases h with
    | fl i r => exact .fl i (Rs.opn vs r)
  | .opq k, _, h => by
    simp only [AV.sub] at h
    cases h with
    | tup i r => exact .opq i (Rs.eps _ r (ε.pv_cl k))
  | .sq k, _, h => by simp only [AV.sub] at h; cases h
  | .any, _, h => .any _
theorem Rs.opn : ∀ (l : List AV) {us : List Value}, Rs K ε₀ W (AV.subs ε l) us → Rs K ε W l us
  | [], _, h => by simp only [AV.subs] at h; cases h; exact .nil
  | a :: r, us, h => by
    by_cases q : isSq a = true
    · cases a <;> first | cases q | skip
      rename_i k
      simp only [AV.subs] at h
      obtain ⟨u1, u2, rfl, h1, h2⟩ := Rs.split (ε.sq_pl k) h
      exact .sq (Rs.eps _ h1 (ε.sq_cl k)) (Rs.opn r h2)
    · simp only [Bool.not_eq_true] at q
      rw [AV.subs_cons q] at h
      have hx : isSq (a.sub ε) = false := by cases a <;> first | rfl | cases q
      obtain ⟨u, us', rfl, ra, rr⟩ := Rs.uncons hx h
      exact .cons (R.opn a ra) (Rs.opn r rr)
end
end
end
section
open PySem PySem.W PySem.Calls PyProof.Rows
set_option maxRecDepth 100000
noncomputable def subA (ε : Eps) : List (Str × AV) → List (Str × AV)
  | [] => []
  | (x, a) :: r => (x, a.sub ε) :: subA ε r
noncomputable def subK (ε : Eps) : List (AKey × AV) → List (AKey × AV)
  | [] => []
  | (x, a) :: r => (x, a.sub ε) :: subK ε r
noncomputable def AO.sub (ε : Eps) : AO → AO
  | .list pre items => .list pre (AV.subs ε items)
  | .inst C attrs => .inst C (subA ε attrs)
  | .dict kd base ents => .dict kd base (subK ε ents)
noncomputable def subH (ε : Eps) : List (Nat × AO) → List (Nat × AO)
  | [] => []
  | (l, o) :: r => (l, o.sub ε) :: subH ε r
/-- alike on everything but numbers and terms -/
structure EqR (ε ε' : Eps) : Prop where
  raw : ∀ k, ε.raw k = ε'.raw k
  dct : ∀ b k, ε.dct b k = ε'.dct b k
  dlen : ∀ b, ε.dlen b = ε'.dlen b
section
variable {prog : Program} {w : World} {K : Frag} {ε ε₀ : Eps} {W W' : Wd} {F F' : Facts} {n : Nat} {c : Cx} {σ : AS} {hl kp : Led} {h : Heap} {m : Str → Option Value}
theorem AtR.close {C : Addr} {l : List (Str × AV)} {es : List DictEntry} (r : AtR K ε W C l es) : AtR K ε₀ W C (subA ε l) es := by
  induction r with
  | nil => exact .nil
  | cons a b c _ ih => exact .cons a b c.close ih
theorem AtR.opn {C : Addr} : ∀ {l : List (Str × AV)} {es : List DictEntry}, AtR K ε₀ W C (subA ε l) es → AtR K ε W C l es
  | [], _, h => by cases h; exact .nil
  | (x, a) :: r, _, h => by
    simp only [subA] at h
    cases h with
    | cons a b c d => exact .cons a b (R.opn _ c) (AtR.opn d)
theorem lookK_sub (k : AKey) : ∀ l : List (AKey × AV), lookK (subK ε l) k = (lookK l k).map (AV.sub ε)
  | [] => rfl
  | (x, a) :: r => by
    simp only [subK, lookK]
    split
    · rfl
    · exact lookK_sub k r
theorem subK_len : ∀ l : List (AKey × AV), (subK ε l).length = l.length
  | [] => rfl
  | (x, a) :: r => by simp [subK, subK_len r]
theorem Agree.close (q : EqR ε ε₀) {base ents k o} (a : Agree w ε W base ents k o) : Agree w ε₀ W base (subK ε ents) k o := by
  unfold Agree at a ⊢
  rw [lookK_sub]
  cases h : lookK ents k with
  | some v => rw [h] at a; obtain ⟨u, h1, h2⟩ := a; exact ⟨u, h1, h2.close⟩
  | none => rw [h] at a; rw [show Option.map (AV.sub ε) none = none from rfl]; dsimp only at a ⊢; rw [a]; cases base with | none => rfl | some b => exact q.dct b k
theorem Agree.opn (q : EqR ε ε₀) {base ents k o} (a : Agree w ε₀ W base (subK ε ents) k o) : Agree w ε W base ents k o := by
  unfold Agree at a ⊢
  rw [lookK_sub] at a
  cases h : lookK ents k with
  | some v => rw [h] at a; obtain ⟨u, h1, h2⟩ := a; exact ⟨u, h1, R.opn _ h2⟩
  | none => rw [h] at a; rw [show Option.map (AV.sub ε) none = none from rfl] at a; dsimp only at a ⊢; rw [a]; cases base with | none => rfl | some b => exact (q.dct b k).symm
theorem dl_eq (q : EqR ε ε₀) (base : Option Nat) : dl ε base = dl ε₀ base := by unfold dl; split <;> first | rfl | exact q.dlen _
theorem preL_eq (q : EqR ε ε₀) (pre : Option Nat) : preL ε pre = preL ε₀ pre := by unfold preL; split <;> first | rfl | exact q.raw _
theorem emptyD_sub (base : Option Nat) (ents : List (AKey × AV)) : emptyD base (subK ε ents) = emptyD base ents := by cases ents <;> cases base <;> rfl
theorem OR.close (q : EqR ε ε₀) {o : AO} {x dx : Addr} {os : Led} (h : OR prog w ε W o x dx os) : OR prog w ε₀ W (o.sub ε) x dx os := by
  cases o with
  | list pre items => obtain ⟨us, n, h1, h2⟩ := h; exact ⟨us, n, by rw [← preL_eq q]; exact h1, h2.close⟩
  | inst C attrs => obtain ⟨es, n, h1, h2, h3⟩ := h; exact ⟨es, n, h1, h2.close, h3⟩
  | dict kd base ents =>
    obtain ⟨od, h1, h2, h3, h4⟩ := h
    exact ⟨od, h1, h2, h3, fun kd' a b => (h4 kd' a (by rw [emptyD_sub] at b; exact b)).imp (by rw [dl_eq q, subK_len]; exact Nat.le_refl _) (fun _ _ _ z => z.close q) (fun _ _ z => z)⟩
theorem OR.opn (q : EqR ε ε₀) {o : AO} {x dx : Addr} {os : Led} (h : OR prog w ε₀ W (o.sub ε) x dx os) : OR prog w ε W o x dx os := by
  cases o with
  | list pre items => obtain ⟨us, n, h1, h2⟩ := h; exact ⟨us, n, by rw [preL_eq q]; exact h1, Rs.opn _ h2⟩
  | inst C attrs => obtain ⟨es, n, h1, h2, h3⟩ := h; exact ⟨es, n, h1, h2.opn, h3⟩
  | dict kd base ents =>
    obtain ⟨od, h1, h2, h3, h4⟩ := h
    exact ⟨od, h1, h2, h3, fun kd' a b => (h4 kd' a (by rw [emptyD_sub]; exact b)).imp (by rw [dl_eq q, subK_len]; exact Nat.le_refl _) (fun _ _ _ z => z.opn q) (fun _ _ z => z)⟩
theorem HpR.close (q : EqR ε ε₀) {hp : List (Nat × AO)} {hl : Led} (r : HpR prog w ε W hp hl) : HpR prog w ε₀ W (subH ε hp) hl := by
  induction r with
  | nil => exact .nil
  | cons a b _ ih => exact .cons a (b.close q) ih
theorem HpR.opn (q : EqR ε ε₀) : ∀ {hp : List (Nat × AO)} {hl : Led}, HpR prog w ε₀ W (subH ε hp) hl → HpR prog w ε W hp hl
  | [], _, h => by cases h; exact .nil
  | (l, o) :: r, _, h => by
    simp only [subH] at h
    cases h with
    | cons a b c => exact .cons a (b.opn q) (HpR.opn q c)
theorem look_sub (x : Str) : ∀ l : List (Str × AV), look (subA ε l) x = (look l x).map (AV.sub ε)
  | [] => rfl
  | (y, a) :: r => by
    simp only [subA, look]
    split
    · rfl
    · exact look_sub x r
theorem LocR.close {loc : List (Str × AV)} (l : LocR w ε W m loc) : LocR w ε₀ W m (subA ε loc) := fun x v e => by
  rw [look_sub] at e
  obtain ⟨v', h1, rfl⟩ := Option.map_eq_some_iff.mp e
  obtain ⟨u, h2, h3⟩ := l x v' h1
  exact ⟨u, h2, h3.close⟩
theorem LocR.opn {loc : List (Str × AV)} (l : LocR w ε₀ W m (subA ε loc)) : LocR w ε W m loc := fun x v e => by
  obtain ⟨u, h2, h3⟩ := l x (v.sub ε) (by rw [look_sub, e]; rfl)
  exact ⟨u, h2, R.opn _ h3⟩
noncomputable def AS.sub (ε : Eps) (σ : AS) : AS := ⟨subA ε σ.loc, subH ε σ.hp, σ.nx⟩
/-- all unknowns made known -/
theorem Pre.close (q : EqR ε ε₀) (fk : FOk w ε₀ F' W) (p : Pre prog w ε F n c W σ hl kp h m) : Pre prog w ε₀ F' n c W (σ.sub ε) hl kp h m :=
  ⟨p.ok, ⟨p.st.fr, p.st.lg, p.st.hr.close q, p.st.rb⟩, p.loc.close, fk⟩
/-- some known things made unknown -/
theorem Pre.opn (q : EqR ε ε₀) (fk : FOk w ε F W) {σ₀ : AS} (e : σ₀ = σ.sub ε) (p : Pre prog w ε₀ F' n c W σ₀ hl kp h m) : Pre prog w ε F n c W σ hl kp h m := by
  subst e
  exact ⟨p.ok, ⟨p.st.fr, p.st.lg, HpR.opn q p.st.hr, p.st.rb⟩, LocR.opn p.loc, fk⟩
theorem fok0 : FOk w ε {} W := ⟨fun _ _ _ h => (nomatch h), fun _ _ h => (nomatch h), fun _ _ _ h => (nomatch h), fun _ _ _ h => (nomatch h)⟩
end
/-! other labels -/
mutual
noncomputable def AV.rel (g : Nat → AV) : AV → AV
  | .obj l => g l
  | .tup vs => .tup (AV.rels g vs)
  | .fl vs => .fl (AV.rels g vs)
  | a => a
noncomputable def AV.rels (g : Nat → AV) : List AV → List AV
  | [] => []
  | a :: r => a.rel g :: AV.rels g r
end
section
variable {prog : Program} {w : World} {K : Frag} {ε : Eps} {W W' : Wd} {F : Facts} {n : Nat} {c : Cx} {σ : AS} {hl kp : Led} {h : Heap} {m : Str → Option Value} {g : Nat → AV} {p : Nat → Bool}
mutual
theorem AV.rel_none : ∀ {a : AV}, a.labs (fun _ => false) = true → a.rel g = a
  | .none, _ => rfl
  | .bool _, _ => rfl
  | .int _, _ => rfl
  | .str _, _ => rfl
  | .obj _, h => by cases h
  | .stat _, _ => rfl
  | .tup vs, h => by simp only [AV.rel]; rw [AV.rels_none h]
  | .fl vs, h => by simp only [AV.rel]; rw [AV.rels_none h]
  | .sq _, _ => rfl
  | .opq _, _ => rfl
  | .any, _ => rfl
theorem AV.rels_none : ∀ {l : List AV}, AV.labsL (fun _ => false) l = true → AV.rels g l = l
  | [], _ => rfl
  | a :: r, h => by
    simp only [AV.labsL, Bool.and_eq_true] at h
    simp only [AV.rels]
    rw [AV.rel_none h.1, AV.rels_none h.2]
end
mutual
theorem AV.labs_mono : ∀ {a : AV}, a.labs (fun _ => false) = true → a.labs p = true
  | .none, _ => rfl
  | .bool _, _ => rfl
  | .int _, _ => rfl
  | .str _, _ => rfl
  | .obj _, h => by cases h
  | .stat _, _ => rfl
  | .tup vs, h => by simp only [AV.labs] at h ⊢; exact AV.labsL_mono h
  | .fl vs, h => by simp only [AV.labs] at h ⊢; exact AV.labsL_mono h
  | .sq _, _ => rfl
  | .opq _, _ => rfl
  | .any, _ => rfl
theorem AV.labsL_mono : ∀ {l : List AV}, AV.labsL (fun _ => false) l = true → AV.labsL p l = true
  | [], _ => rfl
  | a :: r, h => by
    simp only [AV.labsL, Bool.and_eq_true] at h ⊢
    exact ⟨AV.labs_mono h.1, AV.labsL_mono h.2⟩
end
theorem R.relB (hi : ∀ a o, W.im K a o → W'.im K a o) (hg : ∀ l u, p l = true → R K ε W (.obj l) u → R K ε W' (g l) u) : (∀ {a u}, R K ε W a u → a.labs p = true → R K ε W' (a.rel g) u) ∧ ∀ {l us}, Rs K ε W l us → AV.labsL p l = true → Rs K ε W' (AV.rels g l) us :=
  R.ind (P := fun a u => a.labs p = true → R K ε W' (a.rel g) u) (P' := fun l us => AV.labsL p l = true → Rs K ε W' (AV.rels g l) us) (fun _ => .none) (fun b _ => .bool b) (fun e t _ => .int e t) (fun s t _ => .str s t) (fun _ _ _ e h => hg _ _ h (.obj e)) (fun v _ => .stat v) (fun _ _ _ i _ r h => .tup (hi _ _ i) (r h)) (fun _ _ _ _ i _ r h => .fl (hi _ _ i) (r h))
    (fun k _ _ i _ r _ => by
      have r' := r (AV.labsL_mono (ε.pv_lf k))
      rw [AV.rels_none (ε.pv_lf k)] at r'
      exact .opq (hi _ _ i) r') (fun v _ => .any v) (fun _ => .nil) (fun _ _ _ _ _ _ r s h => by
      simp only [AV.labsL, Bool.and_eq_true] at h
      exact .cons (r h.1) (s h.2)) (fun k _ _ _ _ _ r s h => by
      simp only [AV.labsL, Bool.and_eq_true] at h
      have r' := r (AV.labsL_mono (ε.sq_lf k))
      rw [AV.rels_none (ε.sq_lf k)] at r'
      exact .sq r' (s h.2))
theorem R.rel (hi : ∀ a o, W.im K a o → W'.im K a o) (hg : ∀ l u, p l = true → R K ε W (.obj l) u → R K ε W' (g l) u) {a : AV} {u : Value} (r : R K ε W a u) (h : a.labs p = true) : R K ε W' (a.rel g) u := (R.relB hi hg).1 r h
theorem Rs.rel (hi : ∀ a o, W.im K a o → W'.im K a o) (hg : ∀ l u, p l = true → R K ε W (.obj l) u → R K ε W' (g l) u) {a : List AV} {u : List Value} (r : Rs K ε W a u) (h : AV.labsL p a = true) : Rs K ε W' (AV.rels g a) u := (R.relB hi hg).2 r h
end
end
section
open PySem PySem.W PySem.Calls PyProof.Rows
set_option maxRecDepth 100000
noncomputable def relA (g : Nat → AV) : List (Str × AV) → List (Str × AV)
  | [] => []
  | (x, a) :: r => (x, a.rel g) :: relA g r
noncomputable def labA (p : Nat → Bool) : List (Str × AV) → Bool
  | [] => true
  | (_, a) :: r => a.labs p && labA p r
noncomputable def relK (g : Nat → AV) : List (AKey × AV) → List (AKey × AV)
  | [] => []
  | (x, a) :: r => (x, a.rel g) :: relK g r
noncomputable def labK (p : Nat → Bool) : List (AKey × AV) → Bool
  | [] => true
  | (_, a) :: r => a.labs p && labK p r
noncomputable def AO.rel (g : Nat → AV) : AO → AO
  | .list pre items => .list pre (AV.rels g items)
  | .inst C attrs => .inst C (relA g attrs)
  | .dict kd base ents => .dict kd base (relK g ents)
noncomputable def AO.labs (p : Nat → Bool) : AO → Bool
  | .list _ items => AV.labsL p items
  | .inst _ attrs => labA p attrs
  | .dict _ _ ents => labK p ents
/-- some objects under new labels, the others let go -/
noncomputable def selH (g : Nat → AV) (p : Nat → Bool) : List (Nat × Nat) → List (Nat × AO) → Option (List (Nat × AO))
  | [], _ => some []
  | (new, old) :: r, hp => match lookN hp old with
    | some o => if o.labs p then match selH g p r (dropN hp old) with
        | some t => some ((new, o.rel g) :: t)
        | none => none
      else none
    | none => none
noncomputable def selL (g : Nat → AV) (p : Nat → Bool) : List Str → List (Str × AV) → Option (List (Str × AV))
  | [], _ => some []
  | x :: r, loc => match look loc x with
    | some a => if a.labs p then match selL g p r loc with
        | some t => some ((x, a.rel g) :: t)
        | none => none
      else none
    | none => none
noncomputable def revL : List (Nat × Nat) → Nat → Option Nat
  | [], _ => none
  | (new, old) :: r, l => if Nat.beq old l then some new else revL r l
noncomputable def gOf (sel : List (Nat × Nat)) (fz : List (Nat × List AV)) (l : Nat) : AV := match revL sel l with
  | some new => .obj new
  | none => match lookN fz l with
    | some vs => .fl vs
    | none => .any
noncomputable def pOf (sel : List (Nat × Nat)) (fz : List (Nat × List AV)) (l : Nat) : Bool := (revL sel l).isSome || (lookN fz l).isSome
section
variable {prog : Program} {w : World} {K : Frag} {ε ε' : Eps} {W W' : Wd} {F F' : Facts} {n : Nat} {c : Cx} {σ : AS} {hl kp : Led} {h : Heap} {m : Str → Option Value} {g : Nat → AV} {p : Nat → Bool}
theorem AtR.rel (hi : ∀ a o, W.im K a o → W'.im K a o) (hg : ∀ l u, p l = true → R K ε W (.obj l) u → R K ε W' (g l) u) {C : Addr} {l : List (Str × AV)} {es : List DictEntry} (r : AtR K ε W C l es) : labA p l = true → AtR K ε W' C (relA g l) es := by
  induction r with
  | nil => intro _; exact .nil
  | cons a b c _ ih =>
    intro h
    simp only [labA, Bool.and_eq_true] at h
    exact .cons a b (c.rel hi hg h.1) (ih h.2)
theorem lookK_rel (k : AKey) : ∀ l : List (AKey × AV), lookK (relK g l) k = (lookK l k).map (AV.rel g)
  | [] => rfl
  | (x, a) :: r => by
    simp only [relK, lookK]
    split
    · rfl
    · exact lookK_rel k r
theorem labK_look {k : AKey} {v : AV} : ∀ {l : List (AKey × AV)}, labK p l = true → lookK l k = some v → v.labs p = true
  | (x, a) :: r, h, e => by
    simp only [labK, Bool.and_eq_true] at h
    unfold lookK at e
    split at e
    · cases e; exact h.1
    · exact labK_look h.2 e
theorem relK_len : ∀ l : List (AKey × AV), (relK g l).length = l.length
  | [] => rfl
  | (x, a) :: r => by simp [relK, relK_len r]
theorem emptyD_rel (base : Option Nat) (ents : List (AKey × AV)) : emptyD base (relK g ents) = emptyD base ents := by cases ents <;> cases base <;> rfl
theorem OR.rel (hi : ∀ a o, W.im (Kw w) a o → W'.im (Kw w) a o) (hg : ∀ l u, p l = true → R (Kw w) ε W (.obj l) u → R (Kw w) ε W' (g l) u) {o : AO} {x dx : Addr} {os : Led} (hl : o.labs p = true) (h : OR prog w ε W o x dx os) : OR prog w ε W' (o.rel g) x dx os := by
  cases o with
  | list pre items => obtain ⟨us, n, h1, h2⟩ := h; exact ⟨us, n, h1, h2.rel hi hg hl⟩
  | inst C attrs => obtain ⟨es, n, h1, h2, h3⟩ := h; exact ⟨es, n, h1, h2.rel hi hg hl, h3⟩
  | dict kd base ents =>
    obtain ⟨od, h1, h2, h3, h4⟩ := h
    refine ⟨od, h1, h2, h3, fun kd' a b => (h4 kd' a (by rw [emptyD_rel] at b; exact b)).imp (by rw [relK_len]; exact Nat.le_refl _) (fun k o _ z => ?_) hi⟩
    unfold Agree at z ⊢
    rw [lookK_rel]
    cases q : lookK ents k with
    | some v => rw [q] at z; obtain ⟨u, z1, z2⟩ := z; exact ⟨u, z1, z2.rel hi hg (labK_look hl q)⟩
    | none => rw [q] at z; exact z
theorem HpR.sel (hi : ∀ a o, W.im (Kw w) a o → W'.im (Kw w) a o) (hg : ∀ l u, p l = true → R (Kw w) ε W (.obj l) u → R (Kw w) ε W' (g l) u) : ∀ {sel : List (Nat × Nat)} {hp hp' : List (Nat × AO)} {hl : Led}, selH g p sel hp = some hp' → HpR prog w ε W hp hl →
    (∀ x ∈ sel, ∀ q, W.ρ x.2 = some q → W'.ρ x.1 = some q) → ∃ hl' rest, HpR prog w ε W' hp' hl' ∧ hl.Perm (hl' ++ rest)
  | [], hp, hp', hl, e, _, _ => by cases e; exact ⟨[], hl, .nil, by rw [List.nil_append]⟩
  | (new, old) :: r, hp, hp', hl, e, H, hs => by
    unfold selH at e
    split at e
    · rename_i o q
      split at e
      · rename_i z
        split at e
        · rename_i t et
          cases e
          obtain ⟨x, dx, os, a, b, h1, h2, rfl, _, h4⟩ := H.find q
          obtain ⟨hl', rest, h5, h6⟩ := HpR.sel hi hg et h4 fun x hx => hs x (.tail _ hx)
          refine ⟨os ++ hl', rest, .cons (hs (new, old) (.head _) _ h1) (h2.rel hi hg z) h5, ?_⟩
          have e1 : (a ++ (os ++ b)).Perm (os ++ (a ++ b)) := by
            rw [← List.append_assoc, ← List.append_assoc]
            exact List.Perm.append_right b List.perm_append_comm
          rw [List.append_assoc]
          exact e1.trans (List.Perm.append_left os h6)
        · cases e
      · cases e
    · cases e
theorem LocR.sel (hi : ∀ a o, W.im (Kw w) a o → W'.im (Kw w) a o) (hg : ∀ l u, p l = true → R (Kw w) ε W (.obj l) u → R (Kw w) ε W' (g l) u) : ∀ {xs : List Str} {loc loc' : List (Str × AV)}, selL g p xs loc = some loc' → LocR w ε W m loc → LocR w ε W' m loc'
  | [], _, _, e, _ => by cases e; exact fun _ _ h => by cases h
  | x :: r, loc, loc', e, H => by
    unfold selL at e
    split at e
    · rename_i a q
      split at e
      · rename_i z
        split at e
        · rename_i t et
          cases e
          have ih := LocR.sel hi hg et H
          intro y v hy
          unfold look at hy
          split at hy
          · rename_i s
            cases hy
            obtain ⟨u, h1, h2⟩ := H x a q
            rw [sB_eq s] at h1
            exact ⟨u, h1, h2.rel hi hg z⟩
          · exact ih y v hy
        · cases e
      · cases e
    · cases e
noncomputable def Wd.selW (W : Wd) (sel : List (Nat × Nat)) : Wd := ⟨fun l => (lookN sel l).bind W.ρ, W.ims⟩
theorem revL_mem : ∀ {sel : List (Nat × Nat)} {l new : Nat}, revL sel l = some new → (new, l) ∈ sel
  | (a, b) :: r, l, new, h => by
    unfold revL at h
    split at h
    · rename_i q; cases h; rw [← Nat.eq_of_beq_eq_true q]; exact .head _
    · exact .tail _ (revL_mem h)
/-- keep some objects under new labels, and some as frozen lists -/
theorem Pre.tidy (pr : Pre prog w ε F n c W σ hl kp h m) (sel : List (Nat × Nat)) (fz : List (Nat × List AV)) (xs : List Str) (nx' : Nat) {hp' : List (Nat × AO)} {loc' : List (Str × AV)}
    (h1 : selH (gOf sel fz) (pOf sel fz) sel σ.hp = some hp') (h2 : selL (gOf sel fz) (pOf sel fz) xs σ.loc = some loc') (h3 : sel.all (fun x => Nat.blt x.1 nx' && (match lookN sel x.1 with | some o => Nat.beq o x.2 | none => false)) = true)
    (h4 : fz.all (fun x => AV.labsL (fun _ => false) x.2) = true) (h5 : ∀ x ∈ fz, ∀ u, R (Kw w) ε W (.obj x.1) u → R (Kw w) ε W (.fl x.2) u) (fk : FOk w ε F' (W.selW sel)) :
    ∃ hl', Pre prog w ε F' n c (W.selW sel) ⟨loc', hp', nx'⟩ hl' kp h m := by
  have hi : ∀ a o, W.im (Kw w) a o → (W.selW sel).im (Kw w) a o := fun _ _ z => z
  have hsel : ∀ x ∈ sel, x.1 < nx' ∧ lookN sel x.1 = some x.2 := fun x hx => by
    have := List.all_eq_true.mp h3 x hx
    simp only [Bool.and_eq_true, Nat.blt_eq] at this
    refine ⟨this.1, ?_⟩
    have t2 := this.2
    split at t2
    · rename_i q; rw [q, Nat.eq_of_beq_eq_true t2]
    · cases t2
  have hρ : ∀ x ∈ sel, ∀ q, W.ρ x.2 = some q → (W.selW sel).ρ x.1 = some q := fun x hx q e => by
    show (lookN sel x.1).bind W.ρ = some q
    rw [(hsel x hx).2]; exact e
  have hg : ∀ l u, pOf sel fz l = true → R (Kw w) ε W (.obj l) u → R (Kw w) ε (W.selW sel) (gOf sel fz l) u := fun l u hp r => by
    unfold pOf at hp
    unfold gOf
    cases q : revL sel l with
    | some new =>
      cases r with
      | obj e => exact .obj (hρ (new, l) (revL_mem q) _ e)
    | none =>
      rw [q] at hp
      cases q2 : lookN fz l with
      | none => rw [q2] at hp; cases hp
      | some vs =>
        have hm := lookN_mem q2
        have r2 := h5 _ hm u r
        have h6 := List.all_eq_true.mp h4 _ hm
        have r3 := R.rel (W' := W.selW sel) (g := fun _ => .any) (p := fun _ => false) hi (fun _ _ z => by cases z) r2 h6
        dsimp only
        simp only [AV.rel] at r3
        rw [AV.rels_none h6] at r3
        exact r3
  obtain ⟨hl', rest, h6, h7⟩ := HpR.sel hi hg h1 pr.st.hr hρ
  refine ⟨hl', pr.ok, ⟨pr.st.fr, ?_, h6, fun l q e => ?_⟩, LocR.sel hi hg h2 pr.loc, fk⟩
  · have L : Lg c.h₀ c.L h ((hl' ++ rest) ++ (kp ++ W.ims)) := pr.st.lg.perm (List.Perm.append_right _ h7)
    have L2 : Lg c.h₀ c.L h (rest ++ (hl' ++ (kp ++ W.ims))) := L.perm (by
      have e1 : rest ++ (hl' ++ (kp ++ W.ims)) = (rest ++ hl') ++ (kp ++ W.ims) := by rw [List.append_assoc]
      rw [e1]
      exact List.Perm.append_right _ List.perm_append_comm)
    refine ⟨fun q hq => L2.nw q (List.mem_append_right _ hq), ?_⟩
    have := L2.nd
    rw [List.map_append] at this
    exact (List.nodup_append.mp this).2.1
  · have e' : (lookN sel l).bind W.ρ = some q := e
    obtain ⟨o, h8, _⟩ := Option.bind_eq_some_iff.mp e'
    exact (hsel _ (lookN_mem h8)).1
/-- a list that is written no more -/
theorem Pre.freezeL (pr : Pre prog w ε F n c W σ hl kp h m) {l : Nat} {vs : List AV} (e : lookN σ.hp l = some (.list none vs)) :
    ∃ t lo hl', Pre prog w ε F n c (W.add t lo) { σ with hp := dropN σ.hp l } hl' kp h m ∧ ∀ W', (W.add t lo).Le W' → ∀ u, R (Kw w) ε W (.obj l) u → R (Kw w) ε W' (.fl vs) u := by
  obtain ⟨x, dx, os, a, b, h1, h2, rfl, _, h4⟩ := pr.st.hr.find e
  have r : R (Kw w) ε W (.obj l) (.ref x) := .obj h1
  obtain ⟨t, dx', us, kk, a', b', e1, e2, rs, e3, p1⟩ := pr.find2 e r
  cases e1
  have p2 : Pre prog w ε F n c (W.add x (listOf us.toArray kk)) { σ with hp := dropN σ.hp l } (a' ++ b') kp h m := by
    have le := W.add_le x (listOf us.toArray kk)
    refine ⟨p1.ok, ⟨p1.st.fr, p1.st.lg.perm ?_, p1.st.hr.mono le, p1.st.rb⟩, p1.loc.mono le, p1.fk.mono le⟩
    show ((a' ++ b') ++ ((x, listOf us.toArray kk) :: (kp ++ W.ims))).Perm ((a' ++ b') ++ (kp ++ (x, listOf us.toArray kk) :: W.ims))
    exact List.Perm.append_left _ List.perm_middle.symm
  refine ⟨x, _, _, p2, fun W' le u ru => ?_⟩
  cases ru with
  | obj e4 =>
    rw [h1] at e4
    cases e4
    exact R.mono le (.fl (.inl (.head _)) (rs.mono (W.add_le x (listOf us.toArray kk))))
end
end
section
open PySem PySem.W PySem.Calls PyProof.Rows
set_option maxRecDepth 100000
section
variable {prog : Program} {w : World} {A : Around} {env : Env} {s : Shared}
noncomputable abbrev TurnOf (I : Nat → Shared → Prop) (n : Nat) (Q : Flow → Shared → Prop) (f : Flow) (s₃ : Shared) : Prop := match f with
  | .next => ∃ m, m < n ∧ I m s₃
  | .cont => ∃ m, m < n ∧ I m s₃
  | .brk => Q .next s₃
  | .ret v => Q (.ret v) s₃
theorem while_rule {test : Expr} {body : List Stmt} {pos : Pos} {Q : Flow → Shared → Prop} (I : Nat → Shared → Prop)
    (turn : ∀ n s', I n s' → wpAny (model prog w) A (PySem.isTrue test env (eval test env)) (fun b s₂ =>
      if b = true then wpAny (model prog w) A (execs body env) (TurnOf I n Q) (fun _ _ => False) s₂
      else Q .next s₂) (fun _ _ => False) s') (n : Nat) (h : I n s) : wpAny (model prog w) A (exec (.While test body [] pos) env) Q (fun _ _ => False) s := by
  rw [exec_While]
  refine wpAny_bind (wpAny_standAt (wpAny_runOwn ?_))
  refine codeAny_whileLoop I (fun n s' hI => ?_) n h
  refine wpAny_mono (turn n s' hI) (fun b s₂ h₂ => ?_) fun _ _ z => z.elim
  cases b with
  | true =>
    simp only [if_true] at h₂ ⊢
    refine wpAny_mono h₂ (fun f s₃ h₃ => ?_) fun _ _ z => z.elim
    cases f <;> exact h₃
  | false =>
    simp only [Bool.false_eq_true, if_false] at h₂ ⊢
    exact wpAny_execs_nil h₂
end
end
section
end
section
/-! the parser's machine, without the program -/
inductive Nm where
  | u | plus | w | q | c | f
  deriving DecidableEq
inductive Pu where
  | rp | lb | rb | lc | rc | comma | bar
  deriving DecidableEq
inductive Tk where
  | int (i : Int) | name (s : Nm) | qname (s : Nm) | var (k : Nat) | op | oct | pu (p : Pu) | fin
  deriving DecidableEq
inductive Tm where
  | i (n : Int) | a (n : Int) | v (k : Nat) | s1 (f : Int) (t : Tm) | s2 (f : Int) (t r : Tm)
/-- numbers of the names and functors -/
structure Sy where
  atom : Nm → Option Int
  fn : Int → Int → Option Int
/-- fixities: each a priority and a type -/
inductive Ty where
  | fx | fy | xfx | xfy | yfx | xf | yf
  deriving DecidableEq
structure Ops where
  u : Int × Ty
  p : Int × Ty
  w : Int × Ty
  i : Int × Ty
  q : Int × Ty
noncomputable def rightOf : Int × Ty → Int
  | (p, .fx) => p - 1
  | (p, .fy) => p
  | (p, .xfx) => p - 1
  | (p, .xfy) => p
  | (p, .yfx) => p - 1
  | (_, .xf) => 0
  | (_, .yf) => 0
structure Ops.Ok (O : Ops) : Prop where
  u : 1 ≤ O.u.1 ∧ O.u.1 ≤ 1200 ∧ (O.u.2 = .fx ∨ O.u.2 = .fy)
  p : 1 ≤ O.p.1 ∧ O.p.1 ≤ 1200 ∧ (O.p.2 = .fx ∨ O.p.2 = .fy)
  w : 1 ≤ O.w.1 ∧ O.w.1 ≤ 1200 ∧ (O.w.2 = .xfx ∨ O.w.2 = .xfy ∨ O.w.2 = .yfx)
  i : 1 ≤ O.i.1 ∧ O.i.1 ≤ 1200 ∧ (O.i.2 = .xfx ∨ O.i.2 = .xfy ∨ O.i.2 = .yfx)
  q : 1 ≤ O.q.1 ∧ O.q.1 ≤ 1200 ∧ (O.q.2 = .xf ∨ O.q.2 = .yf)
/-- rows of signs and their terms -/
inductive Pt (D : Sy) : List Tk → Tm → Prop
  | int (i : Int) : Pt D [.int i] (.i i)
  | c {n : Int} : D.atom .c = some n → Pt D [.name .c] (.a n)
  | var {k : Nat} : k < 4 → Pt D [.var k] (.v k)
  | par {s : Nm} {n : Int} : s = .u ∨ s = .plus ∨ s = .w ∨ s = .q → D.atom s = some n → Pt D [.op, .name s, .pu .rp] (.a n)
  | qpar {s : Nm} {n : Int} : s = .u ∨ s = .plus ∨ s = .w ∨ s = .q → D.atom s = some n → Pt D [.op, .qname s, .pu .rp] (.a n)
  | pre {s : Nm} {n f : Int} {r : List Tk} {t : Tm} : s = .u ∨ s = .plus → D.atom s = some n → D.fn n 1 = some f → Pt D r t → Pt D (.op :: .name s :: (r ++ [.pu .rp])) (.s1 f t)
  | post {n f : Int} {r : List Tk} {t : Tm} : D.atom .q = some n → D.fn n 1 = some f → Pt D r t → Pt D (.op :: (r ++ [.name .q, .pu .rp])) (.s1 f t)
  | curly {r : List Tk} {t : Tm} : Pt D r t → Pt D (.pu .lc :: (r ++ [.pu .rc])) (.s1 9 t)
  | list {r : List Tk} {t : Tm} : Pt D r t → Pt D (.pu .lb :: (r ++ [.pu .rb])) (.s2 0 t (.a 0))
  | call1 {n f : Int} {r : List Tk} {t : Tm} : D.atom .u = some n → D.fn n 1 = some f → Pt D r t → Pt D (.name .u :: .oct :: (r ++ [.pu .rp])) (.s1 f t)
  | inf {s : Nm} {n f : Int} {r r' : List Tk} {t t' : Tm} : s = .w ∨ s = .plus → D.atom s = some n → D.fn n 2 = some f → Pt D r t → Pt D r' t' → Pt D (.op :: (r ++ .name s :: (r' ++ [.pu .rp]))) (.s2 f t t')
  | comma {r r' : List Tk} {t t' : Tm} : Pt D r t → Pt D r' t' → Pt D (.op :: (r ++ .pu .comma :: (r' ++ [.pu .rp]))) (.s2 1 t t')
  | bar {r r' : List Tk} {t t' : Tm} : Pt D r t → Pt D r' t' → Pt D (.pu .lb :: (r ++ .pu .bar :: (r' ++ [.pu .rb]))) (.s2 0 t t')
  | list2 {r r' : List Tk} {t t' : Tm} : Pt D r t → Pt D r' t' → Pt D (.pu .lb :: (r ++ .pu .comma :: (r' ++ [.pu .rb]))) (.s2 0 t (.s2 0 t' (.a 0)))
  | call2 {s : Nm} {n f : Int} {r r' : List Tk} {t t' : Tm} : s = .f ∨ s = .w → D.atom s = some n → D.fn n 2 = some f → Pt D r t → Pt D r' t' → Pt D (.name s :: .oct :: (r ++ .pu .comma :: (r' ++ [.pu .rp]))) (.s2 f t t')
/-- frames -/
inductive Fm where
  | op (lim f p : Int) (left : Option Tm)
  | round (lim : Int)
  | curly (lim : Int)
  | list (lim : Int) (items : List Tm)
  | tail (lim : Int) (items : List Tm)
  | args (lim : Int) (name : Int) (items : List Tm)
structure Cf where
  toks : List Tk
  fs : List Fm
  lim : Int
  tm : Option Tm
  pr : Int
  ns : List Nat
  opr : Bool
noncomputable def ext1 (ns : List Nat) (k : Nat) : List Nat := if k ∈ ns then ns else ns ++ [k]
noncomputable def extL (ns : List Nat) : List Tk → List Nat
  | [] => ns
  | .var k :: r => extL (ext1 ns k) r
  | _ :: r => extL ns r
noncomputable def num (ns : List Nat) : Tm → Tm
  | .i n => .i n
  | .a n => .a n
  | .v k => .v (ns.idxOf k)
  | .s1 f t => .s1 f (num ns t)
  | .s2 f t r => .s2 f (num ns t) (num ns r)
/-- what may begin a row -/
noncomputable def starts : Tk → Bool
  | .int _ => true
  | .var _ => true
  | .name _ => true
  | .op => true
  | .pu .lb => true
  | .pu .lc => true
  | _ => false
inductive Stp (D : Sy) (O : Ops) : Cf → Cf → Prop
  | int {i r fs lim tm pr ns} : Stp D O ⟨.int i :: r, fs, lim, tm, pr, ns, false⟩ ⟨r, fs, lim, some (.i i), 0, ns, true⟩
  | var {k r fs lim tm pr ns} : k < 4 → Stp D O ⟨.var k :: r, fs, lim, tm, pr, ns, false⟩ ⟨r, fs, lim, some (.v ((ext1 ns k).idxOf k)), 0, ext1 ns k, true⟩
  | c {n t r fs lim tm pr ns} : D.atom .c = some n → t ≠ .oct → Stp D O ⟨.name .c :: t :: r, fs, lim, tm, pr, ns, false⟩ ⟨t :: r, fs, lim, some (.a n), 0, ns, true⟩
  | alone {s n r l fs tm pr ns} {q : Bool} : s = .u ∨ s = .plus ∨ s = .w ∨ s = .q → D.atom s = some n → Stp D O ⟨(if q then .qname s else .name s) :: .pu .rp :: r, .round l :: fs, 1200, tm, pr, ns, false⟩ ⟨.pu .rp :: r, .round l :: fs, 1200, some (.a n), 0, ns, true⟩
  | alone0 {s n tm pr ns} {q : Bool} : s = .u ∨ s = .plus ∨ s = .w ∨ s = .q → D.atom s = some n → Stp D O ⟨[(if q then .qname s else .name s), .fin], [], 1200, tm, pr, ns, false⟩ ⟨[.fin], [], 1200, some (.a n), 0, ns, true⟩
  | round {r fs lim tm pr ns} : Stp D O ⟨.op :: r, fs, lim, tm, pr, ns, false⟩ ⟨r, .round lim :: fs, 1200, tm, pr, ns, false⟩
  | preU {n f t r fs tm pr ns} : D.atom .u = some n → D.fn n 1 = some f → starts t = true → Stp D O ⟨.name .u :: t :: r, fs, 1200, tm, pr, ns, false⟩ ⟨t :: r, .op 1200 f O.u.1 none :: fs, rightOf O.u, tm, pr, ns, false⟩
  | preP {n f t r fs tm pr ns} : D.atom .plus = some n → D.fn n 1 = some f → starts t = true → Stp D O ⟨.name .plus :: t :: r, fs, 1200, tm, pr, ns, false⟩ ⟨t :: r, .op 1200 f O.p.1 none :: fs, rightOf O.p, tm, pr, ns, false⟩
  | lb {t r fs lim tm pr ns} : starts t = true → Stp D O ⟨.pu .lb :: t :: r, fs, lim, tm, pr, ns, false⟩ ⟨t :: r, .list lim [] :: fs, 999, tm, pr, ns, false⟩
  | lc {t r fs lim tm pr ns} : starts t = true → Stp D O ⟨.pu .lc :: t :: r, fs, lim, tm, pr, ns, false⟩ ⟨t :: r, .curly lim :: fs, 1200, tm, pr, ns, false⟩
  | call {s n r fs lim tm pr ns} : s = .u ∨ s = .f ∨ s = .w → D.atom s = some n → Stp D O ⟨.name s :: .oct :: r, fs, lim, tm, pr, ns, false⟩ ⟨r, .args lim n [] :: fs, 999, tm, pr, ns, false⟩
  | red1 {t r l f p fs lim x pr ns} : t = .pu .rp ∨ t = .fin → Stp D O ⟨t :: r, .op l f p none :: fs, lim, some x, pr, ns, true⟩ ⟨t :: r, fs, l, some (.s1 f x), p, ns, true⟩
  | red2 {t r l f p y fs lim x pr ns} : t = .pu .rp ∨ t = .fin → Stp D O ⟨t :: r, .op l f p (some y) :: fs, lim, some x, pr, ns, true⟩ ⟨t :: r, fs, l, some (.s2 f y x), p, ns, true⟩
  | clr {r l fs lim x pr ns} : Stp D O ⟨.pu .rp :: r, .round l :: fs, lim, some x, pr, ns, true⟩ ⟨r, fs, l, some x, 0, ns, true⟩
  | clc {r l fs lim x pr ns} : Stp D O ⟨.pu .rc :: r, .curly l :: fs, lim, some x, pr, ns, true⟩ ⟨r, fs, l, some (.s1 9 x), 0, ns, true⟩
  | cll {r l fs lim x pr ns} : Stp D O ⟨.pu .rb :: r, .list l [] :: fs, lim, some x, pr, ns, true⟩ ⟨r, fs, l, some (.s2 0 x (.a 0)), 0, ns, true⟩
  | cll2 {r l y fs lim x pr ns} : Stp D O ⟨.pu .rb :: r, .list l [y] :: fs, lim, some x, pr, ns, true⟩ ⟨r, fs, l, some (.s2 0 y (.s2 0 x (.a 0))), 0, ns, true⟩
  | clt {r l y fs lim x pr ns} : Stp D O ⟨.pu .rb :: r, .tail l [y] :: fs, lim, some x, pr, ns, true⟩ ⟨r, fs, l, some (.s2 0 y x), 0, ns, true⟩
  | cla1 {n f r l fs lim x pr ns} : D.atom .u = some n → D.fn n 1 = some f → Stp D O ⟨.pu .rp :: r, .args l n [] :: fs, lim, some x, pr, ns, true⟩ ⟨r, fs, l, some (.s1 f x), 0, ns, true⟩
  | cla2 {s n f y r l fs lim x pr ns} : s = .f ∨ s = .w → D.atom s = some n → D.fn n 2 = some f → Stp D O ⟨.pu .rp :: r, .args l n [y] :: fs, lim, some x, pr, ns, true⟩ ⟨r, fs, l, some (.s2 f y x), 0, ns, true⟩
  | sepl {r l fs x pr ns} : Stp D O ⟨.pu .comma :: r, .list l [] :: fs, 999, some x, pr, ns, true⟩ ⟨r, .list l [x] :: fs, 999, some x, pr, ns, false⟩
  | sepa {r l n fs x pr ns} : Stp D O ⟨.pu .comma :: r, .args l n [] :: fs, 999, some x, pr, ns, true⟩ ⟨r, .args l n [x] :: fs, 999, some x, pr, ns, false⟩
  | sept {r l fs lim x pr ns} : Stp D O ⟨.pu .bar :: r, .list l [] :: fs, lim, some x, pr, ns, true⟩ ⟨r, .tail l [x] :: fs, 999, some x, pr, ns, false⟩
  | infW {n f r fs x ns} : D.atom .w = some n → D.fn n 2 = some f → Stp D O ⟨.name .w :: r, fs, 1200, some x, 0, ns, true⟩ ⟨r, .op 1200 f O.w.1 (some x) :: fs, rightOf O.w, some x, 0, ns, false⟩
  | infP {n f r fs x ns} : D.atom .plus = some n → D.fn n 2 = some f → Stp D O ⟨.name .plus :: r, fs, 1200, some x, 0, ns, true⟩ ⟨r, .op 1200 f O.i.1 (some x) :: fs, rightOf O.i, some x, 0, ns, false⟩
  | comma {r fs x ns} : Stp D O ⟨.pu .comma :: r, fs, 1200, some x, 0, ns, true⟩ ⟨r, .op 1200 1 1000 (some x) :: fs, 1000, some x, 0, ns, false⟩
  | post {n f r fs x ns} : D.atom .q = some n → D.fn n 1 = some f → Stp D O ⟨.name .q :: r, fs, 1200, some x, 0, ns, true⟩ ⟨r, fs, 1200, some (.s1 f x), O.q.1, ns, true⟩
inductive Run (D : Sy) (O : Ops) : Nat → Cf → Cf → Prop
  | nil {a} : Run D O 0 a a
  | cons {n a b c} : Stp D O a b → Run D O n b c → Run D O (n + 1) a c
section
variable {D : Sy} {O : Ops}
theorem Run.trans {n m : Nat} {a b c : Cf} (h : Run D O n a b) (h' : Run D O m b c) : ∃ k, Run D O k a c := by
  induction h with
  | nil => exact ⟨m, h'⟩
  | cons s _ ih => (refine ex1_1 (ih h') ?_; rintro k hk); exact ⟨k + 1, .cons s hk⟩
noncomputable def Goes (D : Sy) (O : Ops) (a b : Cf) : Prop := ∃ n, Run D O n a b
theorem Goes.refl (a : Cf) : Goes D O a a := ⟨0, .nil⟩
theorem Goes.step {a b c : Cf} (s : Stp D O a b) (h : Goes D O b c) : Goes D O a c := let ⟨n, r⟩ := h; ⟨n + 1, .cons s r⟩
theorem Goes.trans {a b c : Cf} (h : Goes D O a b) (h' : Goes D O b c) : Goes D O a c := let ⟨_, r⟩ := h; let ⟨_, r'⟩ := h'; r.trans r'
theorem extL_append (ns : List Nat) (a b : List Tk) : extL ns (a ++ b) = extL (extL ns a) b := by
  induction a generalizing ns with
  | nil => rfl
  | cons x r ih => cases x <;> simp only [List.cons_append, extL, ih]
theorem ext1_mem (ns : List Nat) (k : Nat) : k ∈ ext1 ns k := by unfold ext1; split <;> simp_all
theorem ext1_sub (ns : List Nat) (k : Nat) : ∃ m, ext1 ns k = ns ++ m := by unfold ext1; split; exact ⟨[], by simp⟩; exact ⟨[k], rfl⟩
theorem extL_sub (ns : List Nat) (a : List Tk) : ∃ m, extL ns a = ns ++ m := by
  induction a generalizing ns with
  | nil => exact ⟨[], by simp [extL]⟩
  | cons x r ih =>
    cases x <;> simp only [extL] <;> first | exact ih ns | skip
    rename_i k
    (refine ex1_1 (ext1_sub ns k) ?_; rintro m h)
    (refine ex1_1 (ih (ext1 ns k)) ?_; rintro m' h')
    exact ⟨m ++ m', by rw [h', h, List.append_assoc]⟩
noncomputable def varsIn (ns : List Nat) : Tm → Prop
  | .i _ => True
  | .a _ => True
  | .v k => k ∈ ns
  | .s1 _ t => varsIn ns t
  | .s2 _ t r => varsIn ns t ∧ varsIn ns r
theorem varsIn.append {ns : List Nat} (m : List Nat) : ∀ {t : Tm}, varsIn ns t → varsIn (ns ++ m) t
  | .i _, _ => trivial
  | .a _, _ => trivial
  | .v _, h => List.mem_append_left _ h
  | .s1 _ t, h => varsIn.append m (t := t) h
  | .s2 _ t r, h => ⟨varsIn.append m (t := t) h.1, varsIn.append m (t := r) h.2⟩
theorem num_append {ns : List Nat} (m : List Nat) : ∀ {t : Tm}, varsIn ns t → num (ns ++ m) t = num ns t
  | .i _, _ => rfl
  | .a _, _ => rfl
  | .v k, h => by have h' : k ∈ ns := h; simp [num, List.idxOf_append, h']
  | .s1 _ t, h => by simp only [num]; rw [num_append m (t := t) h]
  | .s2 _ t r, h => by simp only [num]; rw [num_append m (t := t) h.1, num_append m (t := r) h.2]
theorem num_ext {ns : List Nat} (a : List Tk) {t : Tm} (h : varsIn ns t) : num (extL ns a) t = num ns t := by
  (refine ex1_1 (extL_sub ns a) ?_; rintro m e); rw [e]; exact num_append m h
theorem varsIn_ext {ns : List Nat} (a : List Tk) {t : Tm} (h : varsIn ns t) : varsIn (extL ns a) t := by
  (refine ex1_1 (extL_sub ns a) ?_; rintro m e); rw [e]; exact h.append m
theorem Pt.vars {r : List Tk} {t : Tm} (h : Pt D r t) : ∀ ns, varsIn (extL ns r) t := by
  induction h with
  | int i => intro ns; trivial
  | c _ => intro ns; trivial
  | var _ => intro ns; exact ext1_mem ns _
  | par _ _ => intro ns; trivial
  | qpar _ _ => intro ns; trivial
  | pre _ _ _ _ ih => intro ns; show varsIn (extL ns (_ ++ _)) _; rw [extL_append]; exact varsIn_ext _ (ih ns)
  | post _ _ _ ih => intro ns; show varsIn (extL ns (_ ++ _)) _; rw [extL_append]; exact varsIn_ext _ (ih ns)
  | curly _ ih => intro ns; show varsIn (extL ns (_ ++ _)) _; rw [extL_append]; exact varsIn_ext _ (ih ns)
  | list _ ih => intro ns; show varsIn (extL ns (_ ++ _)) _ ∧ True; rw [extL_append]; exact ⟨varsIn_ext _ (ih ns), trivial⟩
  | call1 _ _ _ ih => intro ns; show varsIn (extL ns (_ ++ _)) _; rw [extL_append]; exact varsIn_ext _ (ih ns)
  | inf _ _ _ _ _ ih ih' => intro ns; show varsIn (extL ns (_ ++ _)) _ ∧ varsIn (extL ns (_ ++ _)) _; rw [extL_append]; exact ⟨varsIn_ext _ (ih ns), by show varsIn (extL _ (_ ++ _)) _; rw [extL_append]; exact varsIn_ext _ (ih' _)⟩
  | comma _ _ ih ih' => intro ns; show varsIn (extL ns (_ ++ _)) _ ∧ varsIn (extL ns (_ ++ _)) _; rw [extL_append]; exact ⟨varsIn_ext _ (ih ns), by show varsIn (extL _ (_ ++ _)) _; rw [extL_append]; exact varsIn_ext _ (ih' _)⟩
  | bar _ _ ih ih' => intro ns; show varsIn (extL ns (_ ++ _)) _ ∧ varsIn (extL ns (_ ++ _)) _; rw [extL_append]; exact ⟨varsIn_ext _ (ih ns), by show varsIn (extL _ (_ ++ _)) _; rw [extL_append]; exact varsIn_ext _ (ih' _)⟩
  | list2 _ _ ih ih' => intro ns; show varsIn (extL ns (_ ++ _)) _ ∧ varsIn (extL ns (_ ++ _)) _ ∧ True; rw [extL_append]; exact ⟨varsIn_ext _ (ih ns), by show varsIn (extL _ (_ ++ _)) _; rw [extL_append]; exact varsIn_ext _ (ih' _), trivial⟩
  | call2 _ _ _ _ _ ih ih' => intro ns; show varsIn (extL ns (_ ++ _)) _ ∧ varsIn (extL ns (_ ++ _)) _; rw [extL_append]; exact ⟨varsIn_ext _ (ih ns), by show varsIn (extL _ (_ ++ _)) _; rw [extL_append]; exact varsIn_ext _ (ih' _)⟩
theorem Pt.start {r : List Tk} {t : Tm} (h : Pt D r t) : ∃ x r', r = x :: r' ∧ starts x = true := by
  cases h <;> exact mk2_2 _ _ rfl rfl
theorem parse {r : List Tk} {t : Tm} (h : Pt D r t) : ∀ (x : Tk) (rest : List Tk) (fs : List Fm) (lim : Int) (tm : Option Tm) (pr : Int) (ns : List Nat), x ≠ .oct →
    Goes D O ⟨r ++ x :: rest, fs, lim, tm, pr, ns, false⟩ ⟨x :: rest, fs, lim, some (num (extL ns r) t), 0, extL ns r, true⟩ := by
  induction h with
  | int i => intro x rest fs lim tm pr ns hx; exact .step .int (.refl _)
  | c h => intro x rest fs lim tm pr ns hx; exact .step (.c h hx) (.refl _)
  | var h => intro x rest fs lim tm pr ns hx; exact .step (.var h) (.refl _)
  | par hs hn =>
    intro x rest fs lim tm pr ns hx
    exact .step .round (.step (.alone (q := false) hs hn) (.step .clr (.refl _)))
  | qpar hs hn =>
    intro x rest fs lim tm pr ns hx
    exact .step .round (.step (.alone (q := true) hs hn) (.step .clr (.refl _)))
  | @pre s n f r t hs hn hf hp ih =>
    intro x rest fs lim tm pr ns hx
    (refine ex2_2 (hp.start) ?_; rintro y r' e hy)
    have e1 : (.op :: .name s :: (r ++ [.pu .rp])) ++ x :: rest = Tk.op :: .name s :: (r ++ Tk.pu .rp :: x :: rest) := by simp
    have e2 : extL ns (.op :: .name s :: (r ++ [.pu .rp])) = extL ns r := by simp [extL, extL_append]
    rw [e1, e2]
    refine .step .round ?_
    have key : ∀ l1 p, Goes D O ⟨r ++ Tk.pu .rp :: x :: rest, .op 1200 f p none :: .round lim :: fs, l1, tm, pr, ns, false⟩ ⟨x :: rest, fs, lim, some (num (extL ns r) (.s1 f t)), 0, extL ns r, true⟩ := fun l1 p =>
      (ih (.pu .rp) (x :: rest) (.op 1200 f p none :: .round lim :: fs) l1 tm pr ns (by simp)).trans (.step (.red1 (.inl rfl)) (.step .clr (.refl _)))
    rcases hs with rfl | rfl
    · have := key (rightOf O.u) O.u.1
      rw [e] at this ⊢
      exact .step (.preU hn hf hy) this
    · have := key (rightOf O.p) O.p.1
      rw [e] at this ⊢
      exact .step (.preP hn hf hy) this
  | @post n f r t hn hf hp ih =>
    intro x rest fs lim tm pr ns hx
    have e1 : (.op :: (r ++ [.name .q, .pu .rp])) ++ x :: rest = Tk.op :: (r ++ Tk.name .q :: .pu .rp :: x :: rest) := by simp
    have e2 : extL ns (.op :: (r ++ [.name .q, .pu .rp])) = extL ns r := by simp [extL, extL_append]
    rw [e1, e2]
    exact .step .round ((ih _ _ _ _ _ _ _ (by simp)).trans (.step (.post hn hf) (.step .clr (.refl _))))
  | @curly r t hp ih =>
    intro x rest fs lim tm pr ns hx
    (refine ex2_2 (hp.start) ?_; rintro y r' e hy)
    have e1 : (.pu .lc :: (r ++ [.pu .rc])) ++ x :: rest = Tk.pu .lc :: (r ++ Tk.pu .rc :: x :: rest) := by simp
    have e2 : extL ns (.pu .lc :: (r ++ [.pu .rc])) = extL ns r := by simp [extL, extL_append]
    rw [e1, e2]
    have key := (ih (.pu .rc) (x :: rest) (.curly lim :: fs) 1200 tm pr ns (by simp)).trans (.step .clc (.refl _))
    rw [e] at key ⊢
    exact .step (.lc hy) key
  | @list r t hp ih =>
    intro x rest fs lim tm pr ns hx
    (refine ex2_2 (hp.start) ?_; rintro y r' e hy)
    have e1 : (.pu .lb :: (r ++ [.pu .rb])) ++ x :: rest = Tk.pu .lb :: (r ++ Tk.pu .rb :: x :: rest) := by simp
    have e2 : extL ns (.pu .lb :: (r ++ [.pu .rb])) = extL ns r := by simp [extL, extL_append]
    rw [e1, e2]
    have key := (ih (.pu .rb) (x :: rest) (.list lim [] :: fs) 999 tm pr ns (by simp)).trans (.step .cll (.refl _))
    rw [e] at key ⊢
    exact .step (.lb hy) key
  | @call1 n f r t hn hf hp ih =>
    intro x rest fs lim tm pr ns hx
    have e1 : (.name .u :: .oct :: (r ++ [.pu .rp])) ++ x :: rest = Tk.name .u :: .oct :: (r ++ Tk.pu .rp :: x :: rest) := by simp
    have e2 : extL ns (.name .u :: .oct :: (r ++ [.pu .rp])) = extL ns r := by simp [extL, extL_append]
    rw [e1, e2]
    exact .step (.call (.inl rfl) hn) ((ih _ _ _ _ _ _ _ (by simp)).trans (.step (.cla1 hn hf) (.refl _)))
  | @inf s n f r r' t t' hs hn hf hp hp' ih ih' =>
    intro x rest fs lim tm pr ns hx
    have e1 : (.op :: (r ++ .name s :: (r' ++ [.pu .rp]))) ++ x :: rest = Tk.op :: (r ++ Tk.name s :: (r' ++ Tk.pu .rp :: x :: rest)) := by simp
    have e2 : extL ns (.op :: (r ++ .name s :: (r' ++ [.pu .rp]))) = extL (extL ns r) r' := by simp [extL, extL_append]
    rw [e1, e2]
    refine .step .round ((ih _ _ _ _ _ _ _ (by simp)).trans ?_)
    have e3 : num (extL (extL ns r) r') t = num (extL ns r) t := num_ext r' (hp.vars ns)
    have key : ∀ l1 p, Goes D O ⟨r' ++ Tk.pu .rp :: x :: rest, .op 1200 f p (some (num (extL ns r) t)) :: .round lim :: fs, l1, some (num (extL ns r) t), 0, extL ns r, false⟩ ⟨x :: rest, fs, lim, some (num (extL (extL ns r) r') (.s2 f t t')), 0, extL (extL ns r) r', true⟩ := fun l1 p => by
      refine (ih' (.pu .rp) (x :: rest) _ l1 _ 0 (extL ns r) (by simp)).trans (.step (.red2 (.inl rfl)) (.step .clr ?_))
      simp only [num, e3]
      exact .refl _
    rcases hs with rfl | rfl
    · exact .step (.infW hn hf) (key _ _)
    · exact .step (.infP hn hf) (key _ _)
  | @comma r r' t t' hp hp' ih ih' =>
    intro x rest fs lim tm pr ns hx
    have e1 : (.op :: (r ++ .pu .comma :: (r' ++ [.pu .rp]))) ++ x :: rest = Tk.op :: (r ++ Tk.pu .comma :: (r' ++ Tk.pu .rp :: x :: rest)) := by simp
    have e2 : extL ns (.op :: (r ++ .pu .comma :: (r' ++ [.pu .rp]))) = extL (extL ns r) r' := by simp [extL, extL_append]
    rw [e1, e2]
    have e3 : num (extL (extL ns r) r') t = num (extL ns r) t := num_ext r' (hp.vars ns)
    refine .step .round ((ih _ _ _ _ _ _ _ (by simp)).trans (.step .comma ((ih' _ _ _ _ _ _ _ (by simp)).trans (.step (.red2 (.inl rfl)) (.step .clr ?_)))))
    simp only [num, e3]
    exact .refl _
  | @bar r r' t t' hp hp' ih ih' =>
    intro x rest fs lim tm pr ns hx
    (refine ex2_2 (hp.start) ?_; rintro y r2 e hy)
    have e1 : (.pu .lb :: (r ++ .pu .bar :: (r' ++ [.pu .rb]))) ++ x :: rest = Tk.pu .lb :: (r ++ Tk.pu .bar :: (r' ++ Tk.pu .rb :: x :: rest)) := by simp
    have e2 : extL ns (.pu .lb :: (r ++ .pu .bar :: (r' ++ [.pu .rb]))) = extL (extL ns r) r' := by simp [extL, extL_append]
    rw [e1, e2]
    have e3 : num (extL (extL ns r) r') t = num (extL ns r) t := num_ext r' (hp.vars ns)
    have key : Goes D O ⟨r ++ Tk.pu .bar :: (r' ++ Tk.pu .rb :: x :: rest), .list lim [] :: fs, 999, tm, pr, ns, false⟩ ⟨x :: rest, fs, lim, some (num (extL (extL ns r) r') (.s2 0 t t')), 0, extL (extL ns r) r', true⟩ := by
      refine (ih _ _ _ _ _ _ _ (by simp)).trans (.step .sept ((ih' _ _ _ _ _ _ _ (by simp)).trans (.step .clt ?_)))
      simp only [num, e3]
      exact .refl _
    rw [e] at key ⊢
    exact .step (.lb hy) key
  | @list2 r r' t t' hp hp' ih ih' =>
    intro x rest fs lim tm pr ns hx
    (refine ex2_2 (hp.start) ?_; rintro y r2 e hy)
    have e1 : (.pu .lb :: (r ++ .pu .comma :: (r' ++ [.pu .rb]))) ++ x :: rest = Tk.pu .lb :: (r ++ Tk.pu .comma :: (r' ++ Tk.pu .rb :: x :: rest)) := by simp
    have e2 : extL ns (.pu .lb :: (r ++ .pu .comma :: (r' ++ [.pu .rb]))) = extL (extL ns r) r' := by simp [extL, extL_append]
    rw [e1, e2]
    have e3 : num (extL (extL ns r) r') t = num (extL ns r) t := num_ext r' (hp.vars ns)
    have key : Goes D O ⟨r ++ Tk.pu .comma :: (r' ++ Tk.pu .rb :: x :: rest), .list lim [] :: fs, 999, tm, pr, ns, false⟩ ⟨x :: rest, fs, lim, some (num (extL (extL ns r) r') (.s2 0 t (.s2 0 t' (.a 0)))), 0, extL (extL ns r) r', true⟩ := by
      refine (ih _ _ _ _ _ _ _ (by simp)).trans (.step .sepl ((ih' _ _ _ _ _ _ _ (by simp)).trans (.step .cll2 ?_)))
      simp only [num, e3]
      exact .refl _
    rw [e] at key ⊢
    exact .step (.lb hy) key
  | @call2 s n f r r' t t' hs hn hf hp hp' ih ih' =>
    intro x rest fs lim tm pr ns hx
    have e1 : (.name s :: .oct :: (r ++ .pu .comma :: (r' ++ [.pu .rp]))) ++ x :: rest = Tk.name s :: .oct :: (r ++ Tk.pu .comma :: (r' ++ Tk.pu .rp :: x :: rest)) := by simp
    have e2 : extL ns (.name s :: .oct :: (r ++ .pu .comma :: (r' ++ [.pu .rp]))) = extL (extL ns r) r' := by simp [extL, extL_append]
    rw [e1, e2]
    have e3 : num (extL (extL ns r) r') t = num (extL ns r) t := num_ext r' (hp.vars ns)
    refine .step (.call (.inr hs) hn) ((ih _ _ _ _ _ _ _ (by simp)).trans (.step .sepa ((ih' _ _ _ _ _ _ _ (by simp)).trans (.step (.cla2 hs hn hf) ?_))))
    simp only [num, e3]
    exact .refl _
theorem parse0 {row : List Tk} {t : Tm} (h : Pt D row t) (h0 : row.head? = some .op) (tm : Option Tm) (pr : Int) :
    ∃ pr', Goes D O ⟨row.tail.dropLast ++ [.fin], [], 1200, tm, pr, [], false⟩ ⟨[.fin], [], 1200, some (num (extL [] row) t), pr', extL [] row, true⟩ := by
  cases h with
  | int i => cases h0
  | c _ => cases h0
  | var _ => cases h0
  | @par s n hs hn => exact ⟨0, .step (.alone0 (q := false) hs hn) (.refl _)⟩
  | @qpar s n hs hn => exact ⟨0, .step (.alone0 (q := true) hs hn) (.refl _)⟩
  | @pre s n f r t hs hn hf hp =>
    (refine ex2_2 (hp.start) ?_; rintro y r' e hy)
    have e1 : (Tk.op :: .name s :: (r ++ [.pu .rp])).tail.dropLast ++ [Tk.fin] = Tk.name s :: (r ++ [Tk.fin]) := by
      have : (Tk.name s :: (r ++ [.pu .rp])) = (Tk.name s :: r) ++ [.pu .rp] := by simp
      rw [List.tail_cons, this, List.dropLast_concat]; simp
    have e2 : extL [] (.op :: .name s :: (r ++ [.pu .rp])) = extL [] r := by simp [extL, extL_append]
    rw [e1, e2]
    have key : ∀ l1 p, Goes D O ⟨r ++ [Tk.fin], [.op 1200 f p none], l1, tm, pr, [], false⟩ ⟨[.fin], [], 1200, some (num (extL [] r) (.s1 f t)), p, extL [] r, true⟩ := fun l1 p =>
      (parse hp .fin [] [.op 1200 f p none] l1 tm pr [] (by simp)).trans (.step (.red1 (.inr rfl)) (.refl _))
    rcases hs with rfl | rfl
    · refine ⟨O.u.1, ?_⟩
      have := key (rightOf O.u) O.u.1
      rw [e] at this ⊢
      exact .step (.preU hn hf hy) this
    · refine ⟨O.p.1, ?_⟩
      have := key (rightOf O.p) O.p.1
      rw [e] at this ⊢
      exact .step (.preP hn hf hy) this
  | @post n f r t hn hf hp =>
    have e1 : (Tk.op :: (r ++ [.name .q, .pu .rp])).tail.dropLast ++ [Tk.fin] = r ++ Tk.name .q :: [Tk.fin] := by
      have : (r ++ [.name .q, .pu .rp]) = (r ++ [Tk.name .q]) ++ [.pu .rp] := by simp
      rw [List.tail_cons, this, List.dropLast_concat]; simp
    have e2 : extL [] (.op :: (r ++ [.name .q, .pu .rp])) = extL [] r := by simp [extL, extL_append]
    rw [e1, e2]
    exact ⟨O.q.1, (parse hp _ _ _ _ _ _ _ (by simp)).trans (.step (.post hn hf) (.refl _))⟩
  | curly _ => cases h0
  | list _ => cases h0
  | call1 _ _ _ => cases h0
  | @inf s n f r r' t t' hs hn hf hp hp' =>
    have e1 : (Tk.op :: (r ++ .name s :: (r' ++ [.pu .rp]))).tail.dropLast ++ [Tk.fin] = r ++ Tk.name s :: (r' ++ [Tk.fin]) := by
      have : (r ++ .name s :: (r' ++ [.pu .rp])) = (r ++ Tk.name s :: r') ++ [.pu .rp] := by simp
      rw [List.tail_cons, this, List.dropLast_concat]; simp
    have e2 : extL [] (.op :: (r ++ .name s :: (r' ++ [.pu .rp]))) = extL (extL [] r) r' := by simp [extL, extL_append]
    rw [e1, e2]
    have e3 : num (extL (extL [] r) r') t = num (extL [] r) t := num_ext r' (hp.vars [])
    have key : ∀ l1 p, Goes D O ⟨r' ++ [Tk.fin], [.op 1200 f p (some (num (extL [] r) t))], l1, some (num (extL [] r) t), 0, extL [] r, false⟩ ⟨[.fin], [], 1200, some (num (extL (extL [] r) r') (.s2 f t t')), p, extL (extL [] r) r', true⟩ := fun l1 p => by
      refine (parse hp' .fin [] _ l1 _ 0 (extL [] r) (by simp)).trans (.step (.red2 (.inr rfl)) ?_)
      simp only [num, e3]
      exact .refl _
    rcases hs with rfl | rfl
    · exact ⟨_, (parse hp _ _ _ _ _ _ _ (by simp)).trans (.step (.infW hn hf) (key _ _))⟩
    · exact ⟨_, (parse hp _ _ _ _ _ _ _ (by simp)).trans (.step (.infP hn hf) (key _ _))⟩
  | @comma r r' t t' hp hp' =>
    have e1 : (Tk.op :: (r ++ .pu .comma :: (r' ++ [.pu .rp]))).tail.dropLast ++ [Tk.fin] = r ++ Tk.pu .comma :: (r' ++ [Tk.fin]) := by
      have : (r ++ .pu .comma :: (r' ++ [.pu .rp])) = (r ++ Tk.pu .comma :: r') ++ [.pu .rp] := by simp
      rw [List.tail_cons, this, List.dropLast_concat]; simp
    have e2 : extL [] (.op :: (r ++ .pu .comma :: (r' ++ [.pu .rp]))) = extL (extL [] r) r' := by simp [extL, extL_append]
    rw [e1, e2]
    have e3 : num (extL (extL [] r) r') t = num (extL [] r) t := num_ext r' (hp.vars [])
    refine ⟨1000, (parse hp _ _ _ _ _ _ _ (by simp)).trans (.step .comma ((parse hp' .fin [] _ _ _ _ _ (by simp)).trans (.step (.red2 (.inr rfl)) ?_)))⟩
    simp only [num, e3]
    exact .refl _
  | bar _ _ => cases h0
  | list2 _ _ => cases h0
  | call2 _ _ _ _ _ => cases h0
end
end
section
open PySem PySem.W PySem.Calls PyProof.Rows
/-! one turn of the parser's loop, run by the executor -/
noncomputable def pSc : Scope := match fnOfAddr 397 with
  | some (_, _, _, sc, _) => sc
  | none => default
noncomputable def pBody : List Stmt := match fnOfAddr 397 with
  | some (_, _, b, _, _) => b
  | none => []
noncomputable def pIf : Stmt := match pBody with
  | [_, _, .While _ [x] _ _, _] => x
  | _ => .Pass default
noncomputable def pTest : Expr := match pBody with
  | [_, _, .While t _ _ _, _] => t
  | _ => default
noncomputable def turnS (F : Facts) (sel : List (Nat × Nat)) (σ : AS) : Option (List (Str × AV) × List (Nat × AO)) :=
  bi (xRun F 60 (.s pSc pIf) σ) fun o σ' => bo (outF o) fun fl => gd (isNext fl) (bo (selL (gOf sel []) (pOf sel []) [Str.ofString "self", Str.ofString "state"] σ'.loc) fun loc' => bo (selH (gOf sel []) (pOf sel []) sel σ'.hp) fun hp' => some (loc', hp'))
noncomputable def idSel : List (Nat × Nat) := [(0, 0), (1, 1), (2, 2), (3, 3), (4, 4), (5, 5), (6, 6), (7, 7), (10, 10), (11, 11), (12, 12), (9, 9)]
/-- what is kept from world to world: the immutable objects and the places of the lasting labels -/
structure KpLe (W W' : Wd) : Prop where
  ims : ∀ q ∈ W.ims, q ∈ W'.ims
  rho : ∀ l y, lookN idSel l = some l → W.ρ l = some y → W'.ρ l = some y
theorem KpLe.trans {W W' W'' : Wd} (h : KpLe W W') (h' : KpLe W' W'') : KpLe W W'' := ⟨fun q hq => h'.ims q (h.ims q hq), fun l y e hy => h'.rho l y e (h.rho l y e hy)⟩
theorem Wd.Le.kp {W W' : Wd} (h : W.Le W') : KpLe W W' := ⟨h.ims, fun l y _ e => h.ρ l y e⟩
noncomputable def selId (sel : List (Nat × Nat)) : Bool := idSel.all (fun x => match lookN sel x.1 with | some o => Nat.beq o x.1 | none => false)
theorem selId_ok {sel : List (Nat × Nat)} (h : selId sel = true) : ∀ {l : Nat}, lookN idSel l = some l → lookN sel l = some l := by
  have key : ∀ (L : List (Nat × Nat)) (l o : Nat), L.all (fun x => match lookN sel x.1 with | some o => Nat.beq o x.1 | none => false) = true → lookN L l = some o → lookN sel l = some l := by
    intro L
    induction L with
    | nil => intro l o _ h; cases h
    | cons q r ih =>
      obtain ⟨a, b⟩ := q
      intro l o h1 h2
      simp only [List.all_cons, Bool.and_eq_true] at h1
      unfold lookN at h2
      split at h2
      · rename_i z
        have z' := Nat.eq_of_beq_eq_true z
        have h3 := h1.1
        split at h3
        · rename_i o' e
          have e2 := Nat.eq_of_beq_eq_true h3
          subst e2
          subst z'
          exact e
        · cases h3
      · exact ih l o h1.2 h2
  exact fun {l} e => key _ _ _ h e
noncomputable def selOk (sel : List (Nat × Nat)) : Bool := sel.all (fun x => Nat.blt x.1 40 && (match lookN sel x.1 with | some o => Nat.beq o x.2 | none => false))
section
variable {prog : Program} {w : World} {ε : Eps} {F : Facts} {n : Nat} {c : Cx} {W : Wd} {σ : AS} {hl kp : Led} {m : Str → Option Value} {E : Value → Shared → Prop} {s : Shared}
theorem turn_run {sel : List (Nat × Nat)} {loc' : List (Str × AV)} {hp' : List (Nat × AO)} {Q : Flow → Shared → Prop} (e : turnS F sel σ = some (loc', hp')) (hs : selOk sel = true) (hid : selId sel = true) (hc : c.cs = pSc) (o : c.Ok w 60) (p : Pre prog w ε F 60 c W σ hl kp s.heap m)
    (k : ∀ W' hl' m' h' tk', KpLe W W' → (∀ l, lookN sel l = none → W'.ρ l = none) → Pre prog w ε {} 60 c W' ⟨loc', hp', 40⟩ hl' kp h' m' → Q .next { s with heap := h', toks := tk' }) : wpAny (model prog w) c.A (exec pIf c.env) Q E s := by
  refine biE e fun o1 σ' e1 e => boE e fun fl e0 e => gdE e fun hn e => boE e fun l1 e2 e => boE e fun h1 e3 e => som2 e fun h4 h5 => ?_
  rw [outF_inv e0, isNext_inv hn] at e1
  rw [h4] at e2; rw [h5] at e3
  refine (snd_run prog w ε F 60).s _ _ _ _ _ e1 c W hl kp s m Q E hc p fun W' hl' m' h' tk' hw p' f rf => ?_
  rw [show f = .next from rf]
  refine ex1_1 (p'.tidy (F' := {}) sel [] [Str.ofString "self", Str.ofString "state"] 40 e3 e2 hs rfl (fun _ h => nomatch h) fok0) fun hl'' p'' => ?_
  exact k (W'.selW sel) hl'' m' h' tk' ⟨fun q hq => hw.ims q hq, fun l y e1 e2 => by show (lookN sel l).bind _ = _; rw [selId_ok hid e1]; exact hw.ρ l y e2⟩ (fun l hl => by show (lookN sel l).bind _ = none; rw [hl]; rfl) p''
end
noncomputable def parA (lim pl pr nx : AI) (tm : AV) : AO := .inst 517 [g1 "symbols" (.obj 1), g1 "operators" (.obj 4), g1 "mode" .any, g1 "tokens" (.fl [.sq 5]), g1 "place" (.int pl), g1 "frames" (.obj 9), g1 "limit" (.int lim), g1 "term" tm, g1 "priority" (.int pr), g1 "numbers" (.obj 10), g1 "names" (.obj 11), g1 "counts" (.obj 12), g1 "next_number" (.int nx)]
noncomputable def entA (k : Nat) (ty : String) : AV := .tup [.int (.sym k), .str (Str.ofString ty)]
/-- what no turn changes -/
noncomputable def comA (tu tp tw ti tq : String) : List (Nat × AO) := [(1, .inst 154 [g1 "texts" .any, g1 "atom_numbers" (.obj 2), g1 "functors" .any, g1 "functor_numbers" (.obj 3)]), (2, .dict 0 (some 0) []), (3, .dict 2 (some 1) []),
  (4, .inst 286 [g1 "symbols" .any, g1 "prefixes" (.obj 5), g1 "infixes" (.obj 6), g1 "postfixes" (.obj 7)]),
  (5, .dict 1 none [(.i 29, entA 2 tu), (.i 4, entA 3 tp)]),
  (6, .dict 1 none [(.i 7, .tup [.int (.lit 1000), .str (Str.ofString "xfy")]), (.i 30, entA 4 tw), (.i 4, entA 5 ti)]),
  (7, .dict 1 none [(.i 31, entA 6 tq)])]
noncomputable def varA (nm : List AV) : List (Nat × AO) := [(10, .dict 0 (some 2) []), (11, .list none nm), (12, .dict 1 (some 3) [])]
noncomputable def locA (st : Int) : List (Str × AV) := [g1 "self" (.obj 0), g1 "state" (.int (.lit st))]
noncomputable def stA (st : Int) (P : AO) (com : List (Nat × AO)) (frs : AO) (top : List (Nat × AO)) : AS := ⟨locA st, (0, P) :: (com ++ (varA [.sq 6] ++ ((9, frs) :: top))), 40⟩
noncomputable def tk (k : String) (v : AV) : AV := .tup [.str (Str.ofString k), v, .any]
noncomputable def ft (t1 t2 : AV) (dk : List (Nat × AKey × Option AV)) (ls : List (AI × AI × Bool)) : Facts := { dk := dk, less := ls, at_ := (5, .sym 0, t1) :: (match t2 with | .any => [] | t2 => [(5, .add (.sym 0) (.lit 1), t2)]) }
theorem turn_sim {prog : Program} {w : World} {ε ε₀ : Eps} {F F₀ : Facts} {c : Cx} {W : Wd} {σ σ₀ : AS} {hl kp : Led} {m : Str → Option Value} {E : Value → Shared → Prop} {s : Shared} {sel : List (Nat × Nat)} {loc' : List (Str × AV)} {hp' : List (Nat × AO)} {Q : Flow → Shared → Prop}
    (e : turnS F sel σ = some (loc', hp')) (hs : selOk sel = true) (hid : selId sel = true) (hc : c.cs = pSc) (q : EqR ε ε₀) (fk : FOk w ε F W) (es : σ₀ = σ.sub ε) (p : Pre prog w ε₀ F₀ 60 c W σ₀ hl kp s.heap m)
    (k : ∀ W' hl' m' h' tk', KpLe W W' → (∀ l, lookN sel l = none → W'.ρ l = none) → Pre prog w ε₀ {} 60 c W' ⟨subA ε loc', subH ε hp', 40⟩ hl' kp h' m' → Q .next { s with heap := h', toks := tk' }) : wpAny (model prog w) c.A (exec pIf c.env) Q E s :=
  turn_run e hs hid hc p.ok (Pre.opn q fk es p) fun W' hl' m' h' tk' hw hρ p' => k W' hl' m' h' tk' hw hρ (p'.close q fok0)
noncomputable def fmA (kind : String) (lim fn nm pr : AI) (left : AV) : AO := .inst 309 [g1 "kind" (.str (Str.ofString kind)), g1 "limit" (.int lim), g1 "functor" (.int fn), g1 "name" (.int nm), g1 "priority" (.int pr), g1 "left" left, g1 "items" (.obj 21)]
noncomputable def fSel : List (Nat × Nat) := [(20, 20), (21, 21)]
noncomputable def nSel : List (Nat × Nat) := [(20, 40), (21, 41)]
end
section
open PySem PySem.W PySem.Calls PyProof.Rows
noncomputable def nmS : Nm → String
  | .u => "u" | .plus => "+" | .w => "w" | .q => "q" | .c => "c" | .f => "f"
noncomputable def puS : Pu → String
  | .rp => ")" | .lb => "[" | .rb => "]" | .lc => "{" | .rc => "}" | .comma => "," | .bar => "|"
noncomputable def vnS : Nat → String
  | 0 => "X" | 1 => "Y" | 2 => "_Z" | _ => "Yes"
/-- a sign as the parser looks at it -/
noncomputable def tkA : Tk → AV
  | .int i => tk "int" (.int (.lit i))
  | .name s => tk "name" (.str (Str.ofString (nmS s)))
  | .qname s => tk "qname" (.str (Str.ofString (nmS s)))
  | .var k => tk "var" (.str (Str.ofString (vnS k)))
  | .op => tk "open" (.str (Str.ofString "("))
  | .oct => tk "open_ct" (.str (Str.ofString "("))
  | .pu p => tk "punct" (.str (Str.ofString (puS p)))
  | .fin => tk "end" (.str (Str.ofString "."))
theorem starts_cases {t : Tk} (h : starts t = true) : (∃ i, t = .int i) ∨ (∃ k, t = .var k) ∨ (∃ s, t = .name s) ∨ t = .op ∨ t = .pu .lb ∨ t = .pu .lc := by
  cases t with
  | int i => exact .inl ⟨i, rfl⟩
  | var k => exact .inr (.inl ⟨k, rfl⟩)
  | name s => exact .inr (.inr (.inl ⟨s, rfl⟩))
  | qname s => cases h
  | op => exact .inr (.inr (.inr (.inl rfl)))
  | oct => cases h
  | fin => cases h
  | pu p =>
    cases p with
    | lb => exact .inr (.inr (.inr (.inr (.inl rfl))))
    | lc => exact .inr (.inr (.inr (.inr (.inr rfl))))
    | rp => cases h
    | rb => cases h
    | rc => cases h
    | comma => cases h
    | bar => cases h
noncomputable def tyS : Ty → String
  | .fx => "fx" | .fy => "fy" | .xfx => "xfx" | .xfy => "xfy" | .yfx => "yfx" | .xf => "xf" | .yf => "yf"
noncomputable def rightA (k : Nat) : Ty → AI
  | .fx => .sub (.sym k) (.lit 1)
  | .fy => .sym k
  | .xfx => .sub (.sym k) (.lit 1)
  | .xfy => .sym k
  | .yfx => .sub (.sym k) (.lit 1)
  | .xf => .lit 0
  | .yf => .lit 0
noncomputable abbrev pl1 : AI := .add (.sym 0) (.lit 1)
noncomputable abbrev pl2 : AI := .add pl1 (.lit 1)
noncomputable abbrev frO : AO := .list (some 0) []
noncomputable abbrev frT : AO := .list (some 0) [.obj 20]
noncomputable abbrev frE : AO := .list none []
noncomputable abbrev PG (tm : AV) : AO := parA (.sym 10) (.sym 0) (.sym 11) (.sym 12) tm
noncomputable def topA (kind : String) (left : AV) (nm : AI) (items : List AV) : List (Nat × AO) := [(20, fmA kind (.sym 23) (.sym 21) nm (.sym 22) left), (21, .list none items)]
noncomputable def newA (kind : String) (lim fn nm pr : AI) (left : AV) : List (Nat × AO) := [(20, fmA kind lim fn nm pr left), (21, .list none [])]
section
variable (tu tp tw ti tq : String)
noncomputable def ok1 (st : Int) (P : AO) (com : List (Nat × AO)) (frs : AO) (top : List (Nat × AO)) : Option (List (Str × AV) × List (Nat × AO)) := some (locA st, (stA st P com frs top).hp)
theorem q_int (i : Int) : turnS (ft (tkA (.int i)) .any [] []) idSel (stA 0 (PG .any) (comA tu tp tw ti tq) frO []) = ok1 1 (parA (.sym 10) pl1 (.lit 0) (.sym 12) (.tup [.str (Str.ofString "i"), .int (.lit i)])) (comA tu tp tw ti tq) frO [] := by kernel_rfl
noncomputable def dkc (n : Int) : List (Nat × AKey × Option AV) := [(0, .s (Str.ofString "c"), some (.int (.lit n)))]
theorem q_c (n : Int) (t : Tk) (hn : n = 32 ∨ n = 33) (ht : t ≠ .oct) : turnS (ft (tkA (.name .c)) (tkA t) (dkc n) []) idSel (stA 0 (PG .any) (comA tu tp tw ti tq) frO []) = ok1 1 (parA (.sym 10) pl1 (.lit 0) (.sym 12) (.tup [.str (Str.ofString "a"), .int (.lit n)])) (comA tu tp tw ti tq) frO [] := by
  rcases hn with rfl | rfl <;> cases t <;> first | exact absurd rfl ht | kernel_rfl
noncomputable def atN : Nm → Int
  | .u => 29 | .plus => 4 | .w => 30 | .q => 31 | .c => 32 | .f => 33
noncomputable def dka (s : Nm) : List (Nat × AKey × Option AV) := [(0, .s (Str.ofString (nmS s)), some (.int (.lit (atN s))))]
theorem q_alone (s : Nm) (q : Bool) (hs : s = .u ∨ s = .plus ∨ s = .w ∨ s = .q) : turnS (ft (tkA (if q then .qname s else .name s)) (tkA (.pu .rp)) (dka s) []) (idSel ++ fSel) (stA 0 (parA (.lit 1200) (.sym 0) (.sym 11) (.sym 12) .any) (comA tu tp tw ti tq) frT (topA "round" .any (.sym 24) [])) =
    ok1 1 (parA (.lit 1200) pl1 (.lit 0) (.sym 12) (.tup [.str (Str.ofString "a"), .int (.lit (atN s))])) (comA tu tp tw ti tq) frT (topA "round" .any (.sym 24) []) := by
  rcases hs with rfl | rfl | rfl | rfl <;> cases q <;> kernel_rfl
theorem q_alone0 (s : Nm) (q : Bool) (hs : s = .u ∨ s = .plus ∨ s = .w ∨ s = .q) : turnS (ft (tkA (if q then .qname s else .name s)) (tkA .fin) (dka s) []) idSel (stA 0 (parA (.lit 1200) (.sym 0) (.sym 11) (.sym 12) .any) (comA tu tp tw ti tq) frE []) =
    ok1 1 (parA (.lit 1200) pl1 (.lit 0) (.sym 12) (.tup [.str (Str.ofString "a"), .int (.lit (atN s))])) (comA tu tp tw ti tq) frE [] := by
  rcases hs with rfl | rfl | rfl | rfl <;> cases q <;> kernel_rfl
theorem q_round : turnS (ft (tkA .op) .any [] []) (idSel ++ nSel) (stA 0 (PG .any) (comA tu tp tw ti tq) frO []) = ok1 0 (parA (.lit 1200) pl1 (.sym 11) (.sym 12) .any) (comA tu tp tw ti tq) frT (newA "round" (.sym 10) (.lit (-1)) (.lit (-1)) (.lit 0) .none) := by kernel_rfl
theorem q_lb (t : Tk) (h : starts t = true) : turnS (ft (tkA (.pu .lb)) (tkA t) [] []) (idSel ++ nSel) (stA 0 (PG .any) (comA tu tp tw ti tq) frO []) = ok1 0 (parA (.lit 999) pl1 (.sym 11) (.sym 12) .any) (comA tu tp tw ti tq) frT (newA "list" (.sym 10) (.lit (-1)) (.lit (-1)) (.lit 0) .none) := by
  rcases starts_cases h with ⟨_, rfl⟩ | ⟨_, rfl⟩ | ⟨_, rfl⟩ | rfl | rfl | rfl <;> kernel_rfl
theorem q_lc (t : Tk) (h : starts t = true) : turnS (ft (tkA (.pu .lc)) (tkA t) [] []) (idSel ++ nSel) (stA 0 (PG .any) (comA tu tp tw ti tq) frO []) = ok1 0 (parA (.lit 1200) pl1 (.sym 11) (.sym 12) .any) (comA tu tp tw ti tq) frT (newA "curly" (.sym 10) (.lit (-1)) (.lit (-1)) (.lit 0) .none) := by
  rcases starts_cases h with ⟨_, rfl⟩ | ⟨_, rfl⟩ | ⟨_, rfl⟩ | rfl | rfl | rfl <;> kernel_rfl
noncomputable def dkn (s : Nm) (n : Int) : List (Nat × AKey × Option AV) := [(0, .s (Str.ofString (nmS s)), some (.int (.lit n)))]
theorem q_call (s : Nm) (n : Int) (h : (s = .u ∧ n = 29) ∨ (s = .w ∧ n = 30) ∨ (s = .f ∧ (n = 32 ∨ n = 33))) : turnS (ft (tkA (.name s)) (tkA .oct) (dkn s n) []) (idSel ++ nSel) (stA 0 (PG .any) (comA tu tp tw ti tq) frO []) =
    ok1 0 (parA (.lit 999) pl2 (.sym 11) (.sym 12) .any) (comA tu tp tw ti tq) frT (newA "args" (.sym 10) (.lit (-1)) (.lit n) (.lit 0) .none) := by
  rcases h with ⟨rfl, rfl⟩ | ⟨rfl, rfl⟩ | ⟨rfl, rfl | rfl⟩ <;> kernel_rfl
/-- the functor of a known atom -/
noncomputable def dkf (a n : Int) : List (Nat × AKey × Option AV) := [(1, .t [a, n], some (.int (.sym 20)))]
noncomputable abbrev lsf : List (AI × AI × Bool) := [(.sym 20, .lit 0, false)]
theorem q_red1 (t : Tk) (h : t = .pu .rp ∨ t = .fin) : turnS (ft (tkA t) .any [] []) idSel (stA 1 (PG (.opq 0)) (comA tu tp tw ti tq) frT (topA "operator" .none (.sym 24) [])) =
    ok1 1 (parA (.sym 23) (.sym 0) (.sym 22) (.sym 12) (.tup [.str (Str.ofString "s"), .int (.sym 21), .tup [.opq 0]])) (comA tu tp tw ti tq) frO [] := by
  rcases h with rfl | rfl <;> kernel_rfl
theorem q_red2 (t : Tk) (h : t = .pu .rp ∨ t = .fin) : turnS (ft (tkA t) .any [] []) idSel (stA 1 (PG (.opq 0)) (comA tu tp tw ti tq) frT (topA "operator" (.opq 1) (.sym 24) [])) =
    ok1 1 (parA (.sym 23) (.sym 0) (.sym 22) (.sym 12) (.tup [.str (Str.ofString "s"), .int (.sym 21), .tup [.opq 1, .opq 0]])) (comA tu tp tw ti tq) frO [] := by
  rcases h with rfl | rfl <;> kernel_rfl
theorem q_clr : turnS (ft (tkA (.pu .rp)) .any [] []) idSel (stA 1 (PG (.opq 0)) (comA tu tp tw ti tq) frT (topA "round" .any (.sym 24) [])) = ok1 1 (parA (.sym 23) pl1 (.lit 0) (.sym 12) (.opq 0)) (comA tu tp tw ti tq) frO [] := by kernel_rfl
theorem q_clc : turnS (ft (tkA (.pu .rc)) .any [] []) idSel (stA 1 (PG (.opq 0)) (comA tu tp tw ti tq) frT (topA "curly" .any (.sym 24) [])) =
    ok1 1 (parA (.sym 23) pl1 (.lit 0) (.sym 12) (.tup [.str (Str.ofString "s"), .int (.lit 9), .tup [.opq 0]])) (comA tu tp tw ti tq) frO [] := by kernel_rfl
noncomputable abbrev nilA : AV := .tup [.str (Str.ofString "a"), .int (.lit 0)]
theorem q_cll : turnS (ft (tkA (.pu .rb)) .any [] []) idSel (stA 1 (PG (.opq 0)) (comA tu tp tw ti tq) frT (topA "list" .any (.sym 24) [])) =
    ok1 1 (parA (.sym 23) pl1 (.lit 0) (.sym 12) (.tup [.str (Str.ofString "s"), .int (.lit 0), .tup [.opq 0, nilA]])) (comA tu tp tw ti tq) frO [] := by kernel_rfl
theorem q_cll2 : turnS (ft (tkA (.pu .rb)) .any [] []) idSel (stA 1 (PG (.opq 0)) (comA tu tp tw ti tq) frT (topA "list" .any (.sym 24) [.opq 1])) =
    ok1 1 (parA (.sym 23) pl1 (.lit 0) (.sym 12) (.tup [.str (Str.ofString "s"), .int (.lit 0), .tup [.opq 1, .tup [.str (Str.ofString "s"), .int (.lit 0), .tup [.opq 0, nilA]]]])) (comA tu tp tw ti tq) frO [] := by kernel_rfl
theorem q_clt : turnS (ft (tkA (.pu .rb)) .any [] []) idSel (stA 1 (PG (.opq 0)) (comA tu tp tw ti tq) frT (topA "tail" .any (.sym 24) [.opq 1])) =
    ok1 1 (parA (.sym 23) pl1 (.lit 0) (.sym 12) (.tup [.str (Str.ofString "s"), .int (.lit 0), .tup [.opq 1, .opq 0]])) (comA tu tp tw ti tq) frO [] := by kernel_rfl
theorem q_cla1 : turnS (ft (tkA (.pu .rp)) .any (dkf 29 1) lsf) idSel (stA 1 (PG (.opq 0)) (comA tu tp tw ti tq) frT (topA "args" .any (.lit 29) [])) =
    ok1 1 (parA (.sym 23) pl1 (.lit 0) (.sym 12) (.tup [.str (Str.ofString "s"), .int (.sym 20), .tup [.opq 0]])) (comA tu tp tw ti tq) frO [] := by kernel_rfl
theorem q_cla2 (n : Int) (h : n = 30 ∨ n = 32 ∨ n = 33) : turnS (ft (tkA (.pu .rp)) .any (dkf n 2) lsf) idSel (stA 1 (PG (.opq 0)) (comA tu tp tw ti tq) frT (topA "args" .any (.lit n) [.opq 1])) =
    ok1 1 (parA (.sym 23) pl1 (.lit 0) (.sym 12) (.tup [.str (Str.ofString "s"), .int (.sym 20), .tup [.opq 1, .opq 0]])) (comA tu tp tw ti tq) frO [] := by
  rcases h with rfl | rfl | rfl <;> kernel_rfl
theorem q_sepl : turnS (ft (tkA (.pu .comma)) .any [] []) (idSel ++ fSel) (stA 1 (parA (.lit 999) (.sym 0) (.sym 11) (.sym 12) (.opq 0)) (comA tu tp tw ti tq) frT (topA "list" .any (.sym 24) [])) =
    ok1 0 (parA (.lit 999) pl1 (.sym 11) (.sym 12) (.opq 0)) (comA tu tp tw ti tq) frT (topA "list" .any (.sym 24) [.opq 0]) := by kernel_rfl
theorem q_sepa : turnS (ft (tkA (.pu .comma)) .any [] []) (idSel ++ fSel) (stA 1 (parA (.lit 999) (.sym 0) (.sym 11) (.sym 12) (.opq 0)) (comA tu tp tw ti tq) frT (topA "args" .any (.sym 24) [])) =
    ok1 0 (parA (.lit 999) pl1 (.sym 11) (.sym 12) (.opq 0)) (comA tu tp tw ti tq) frT (topA "args" .any (.sym 24) [.opq 0]) := by kernel_rfl
theorem q_sept : turnS (ft (tkA (.pu .bar)) .any [] []) (idSel ++ fSel) (stA 1 (PG (.opq 0)) (comA tu tp tw ti tq) frT (topA "list" .any (.sym 24) [])) =
    ok1 0 (parA (.lit 999) pl1 (.sym 11) (.sym 12) (.opq 0)) (comA tu tp tw ti tq) frT (topA "tail" .any (.sym 24) [.opq 0]) := by kernel_rfl
theorem q_comma : turnS (ft (tkA (.pu .comma)) .any [(1, .t [7, 2], some (.int (.lit 1)))] []) (idSel ++ nSel) (stA 1 (parA (.lit 1200) (.sym 0) (.lit 0) (.sym 12) (.opq 0)) (comA tu tp tw ti tq) frO []) =
    ok1 0 (parA (.lit 1000) pl1 (.lit 0) (.sym 12) (.opq 0)) (comA tu tp tw ti tq) frT (newA "operator" (.lit 1200) (.lit 1) (.lit (-1)) (.lit 1000) (.opq 0)) := by kernel_rfl
end
section
variable (tu tp tw ti tq : String) (ty : Ty)
/-- priorities are at most 1200 -/
noncomputable abbrev ls1 (k : Nat) : List (AI × AI × Bool) := [(.lit 1200, .sym k, false), (.sym 20, .lit 0, false)]
theorem q_preU (t : Tk) (h : starts t = true) (hy : ty = .fx ∨ ty = .fy) : turnS (ft (tkA (.name .u)) (tkA t) (dka .u ++ dkf 29 1) (ls1 2)) (idSel ++ nSel) (stA 0 (parA (.lit 1200) (.sym 0) (.sym 11) (.sym 12) .any) (comA (tyS ty) tp tw ti tq) frO []) =
    ok1 0 (parA (rightA 2 ty) pl1 (.sym 11) (.sym 12) .any) (comA (tyS ty) tp tw ti tq) frT (newA "operator" (.lit 1200) (.sym 20) (.lit (-1)) (.sym 2) .none) := by
  rcases hy with rfl | rfl <;> rcases starts_cases h with ⟨_, rfl⟩ | ⟨_, rfl⟩ | ⟨_, rfl⟩ | rfl | rfl | rfl <;> kernel_rfl
theorem q_preP (t : Tk) (h : starts t = true) (hy : ty = .fx ∨ ty = .fy) : turnS (ft (tkA (.name .plus)) (tkA t) (dka .plus ++ dkf 4 1) (ls1 3)) (idSel ++ nSel) (stA 0 (parA (.lit 1200) (.sym 0) (.sym 11) (.sym 12) .any) (comA tu (tyS ty) tw ti tq) frO []) =
    ok1 0 (parA (rightA 3 ty) pl1 (.sym 11) (.sym 12) .any) (comA tu (tyS ty) tw ti tq) frT (newA "operator" (.lit 1200) (.sym 20) (.lit (-1)) (.sym 3) .none) := by
  rcases hy with rfl | rfl <;> rcases starts_cases h with ⟨_, rfl⟩ | ⟨_, rfl⟩ | ⟨_, rfl⟩ | rfl | rfl | rfl <;> kernel_rfl
noncomputable abbrev ls2 (k : Nat) : List (AI × AI × Bool) := [(.lit 1200, .sym k, false), (.sym 20, .lit 0, false), (.sym k, .lit 0, false), (.sub (.sym k) (.lit 1), .lit 0, false)]
theorem q_infW (hy : ty = .xfx ∨ ty = .xfy ∨ ty = .yfx) : turnS (ft (tkA (.name .w)) .any (dka .w ++ dkf 30 2) (ls2 4)) (idSel ++ nSel) (stA 1 (parA (.lit 1200) (.sym 0) (.lit 0) (.sym 12) (.opq 0)) (comA tu tp (tyS ty) ti tq) frO []) =
    ok1 0 (parA (rightA 4 ty) pl1 (.lit 0) (.sym 12) (.opq 0)) (comA tu tp (tyS ty) ti tq) frT (newA "operator" (.lit 1200) (.sym 20) (.lit (-1)) (.sym 4) (.opq 0)) := by
  rcases hy with rfl | rfl | rfl <;> kernel_rfl
theorem q_infP (hy : ty = .xfx ∨ ty = .xfy ∨ ty = .yfx) : turnS (ft (tkA (.name .plus)) .any (dka .plus ++ dkf 4 2) (ls2 5)) (idSel ++ nSel) (stA 1 (parA (.lit 1200) (.sym 0) (.lit 0) (.sym 12) (.opq 0)) (comA tu tp tw (tyS ty) tq) frO []) =
    ok1 0 (parA (rightA 5 ty) pl1 (.lit 0) (.sym 12) (.opq 0)) (comA tu tp tw (tyS ty) tq) frT (newA "operator" (.lit 1200) (.sym 20) (.lit (-1)) (.sym 5) (.opq 0)) := by
  rcases hy with rfl | rfl | rfl <;> kernel_rfl
theorem q_post (hy : ty = .xf ∨ ty = .yf) : turnS (ft (tkA (.name .q)) .any (dka .q ++ dkf 31 1) (ls2 6)) idSel (stA 1 (parA (.lit 1200) (.sym 0) (.lit 0) (.sym 12) (.opq 0)) (comA tu tp tw ti (tyS ty)) frO []) =
    ok1 1 (parA (.lit 1200) pl1 (.sym 6) (.sym 12) (.tup [.str (Str.ofString "s"), .int (.sym 20), .tup [.opq 0]])) (comA tu tp tw ti (tyS ty)) frO [] := by
  rcases hy with rfl | rfl <;> kernel_rfl
/-- variables -/
noncomputable def varN (nm : List AV) (en ec : List (AKey × AV)) : List (Nat × AO) := [(10, .dict 0 (some 2) en), (11, .list none nm), (12, .dict 1 (some 3) ec)]
noncomputable def stV (st : Int) (P : AO) (com vr : List (Nat × AO)) (frs : AO) : AS := ⟨locA st, (0, P) :: (com ++ (vr ++ [(9, frs)])), 40⟩
theorem q_seen (k j : Nat) (hk : k < 4) (hj : j < 4) : turnS (ft (tkA (.var k)) .any [(2, .s (Str.ofString (vnS k)), some (.int (.lit (j : Int)))), (3, .i (j : Int), some (.int (.sym 13)))] []) idSel (stA 0 (PG .any) (comA tu tp tw ti tq) frO []) =
    some (locA 1, (stV 1 (parA (.sym 10) pl1 (.lit 0) (.sym 12) (.tup [.str (Str.ofString "v"), .int (.lit (j : Int))])) (comA tu tp tw ti tq) (varN [.sq 6] [] [(.i (j : Int), .int (.add (.sym 13) (.lit 1)))]) frO).hp) := by
  match k, j, hk, hj with
  | 0, 0, _, _ | 0, 1, _, _ | 0, 2, _, _ | 0, 3, _, _ | 1, 0, _, _ | 1, 1, _, _ | 1, 2, _, _ | 1, 3, _, _ | 2, 0, _, _ | 2, 1, _, _ | 2, 2, _, _ | 2, 3, _, _ | 3, 0, _, _ | 3, 1, _, _ | 3, 2, _, _ | 3, 3, _, _ => kernel_rfl
  | k + 4, _, h, _ => omega
  | _, j + 4, _, h => omega
theorem q_new (k j : Nat) (hk : k < 4) (hj : j < 4) : turnS (ft (tkA (.var k)) .any [(2, .s (Str.ofString (vnS k)), none), (3, .i (j : Int), none)] []) idSel (stA 0 (parA (.sym 10) (.sym 0) (.sym 11) (.lit (j : Int)) .any) (comA tu tp tw ti tq) frO []) =
    some (locA 1, (stV 1 (parA (.sym 10) pl1 (.lit 0) (.lit ((j : Int) + 1)) (.tup [.str (Str.ofString "v"), .int (.lit (j : Int))])) (comA tu tp tw ti tq) (varN [.sq 6, .tup [.str (Str.ofString (vnS k)), .int (.lit (j : Int))]] [(.s (Str.ofString (vnS k)), .int (.lit (j : Int)))] [(.i (j : Int), .int (.lit 1))]) frO).hp) := by
  match k, j, hk, hj with
  | 0, 0, _, _ | 0, 1, _, _ | 0, 2, _, _ | 0, 3, _, _ | 1, 0, _, _ | 1, 1, _, _ | 1, 2, _, _ | 1, 3, _, _ | 2, 0, _, _ | 2, 1, _, _ | 2, 2, _, _ | 2, 3, _, _ | 3, 0, _, _ | 3, 1, _, _ | 3, 2, _, _ | 3, 3, _, _ => kernel_rfl
  | k + 4, _, h, _ => omega
  | _, j + 4, _, h => omega
/-- the end -/
theorem q_end : turnS (ft (tkA .fin) .any [] []) idSel (stA 1 (PG (.opq 0)) (comA tu tp tw ti tq) frE []) = ok1 2 (PG (.opq 0)) (comA tu tp tw ti tq) frE [] := by kernel_rfl
end
end
section
open PySem PySem.W PySem.Calls PyProof.Rows
noncomputable def cloA : List (Str × AV) → Bool
  | [] => true
  | (_, a) :: r => a.clo && cloA r
noncomputable def cloK : List (AKey × AV) → Bool
  | [] => true
  | (_, a) :: r => a.clo && cloK r
noncomputable def AO.clo : AO → Bool
  | .list _ items => AV.cloL items
  | .inst _ attrs => cloA attrs
  | .dict _ _ ents => cloK ents
/-- the same meaning for what an object leans on -/
noncomputable def AO.same (ε ε' : Eps) : AO → Prop
  | .list pre _ => preL ε pre = preL ε' pre
  | .inst _ _ => True
  | .dict _ base _ => ∀ b, base = some b → (∀ k, ε.dct b k = ε'.dct b k) ∧ ε.dlen b = ε'.dlen b
noncomputable def cloH : List (Nat × AO) → Bool
  | [] => true
  | (_, o) :: r => o.clo && cloH r
noncomputable def sameH (ε ε' : Eps) : List (Nat × AO) → Prop
  | [] => True
  | (_, o) :: r => o.same ε ε' ∧ sameH ε ε' r
section
variable {prog : Program} {w : World} {K : Frag} {ε ε' : Eps} {W W' : Wd} {F F' : Facts} {n : Nat} {c : Cx} {σ : AS} {hl kp : Led} {h : Heap} {m : Str → Option Value}
theorem AtR.eps (ε' : Eps) {C : Addr} {l : List (Str × AV)} {es : List DictEntry} (r : AtR K ε W C l es) : cloA l = true → AtR K ε' W C l es := by
  induction r with
  | nil => intro _; exact .nil
  | cons a b c _ ih =>
    intro h
    simp only [cloA, Bool.and_eq_true] at h
    exact .cons a b (c.eps ε' h.1) (ih h.2)
theorem cloK_look {k : AKey} {v : AV} : ∀ {l : List (AKey × AV)}, cloK l = true → lookK l k = some v → v.clo = true
  | (x, a) :: r, h, e => by
    simp only [cloK, Bool.and_eq_true] at h
    unfold lookK at e
    split at e
    · (refine som1 e ?_; rintro rfl); exact h.1
    · exact cloK_look h.2 e
theorem OR.chg {o : AO} {x dx : Addr} {os : Led} (hc : o.clo = true) (hs : o.same ε ε') (h : OR prog w ε W o x dx os) : OR prog w ε' W o x dx os := by
  cases o with
  | list pre items => (refine ex2_2 (h) ?_; rintro us n h1 h2); exact mk2_2 us n (by rw [← (show preL ε pre = preL ε' pre from hs)]; exact h1) (h2.eps ε' hc)
  | inst C attrs => (refine ex2_3 (h) ?_; rintro es n h1 h2 h3); exact mk2_3 es n h1 (h2.eps ε' hc) h3
  | dict kd base ents =>
    (refine ex1_4 (h) ?_; rintro od h1 h2 h3 h4)
    have hd : dl ε base = dl ε' base := by
      unfold dl
      cases base with
      | none => rfl
      | some b => exact (hs b rfl).2
    refine mk1_4 od h1 h2 h3 (fun kd' a b' => (h4 kd' a b').imp (by rw [hd]; exact Nat.le_refl _) (fun k o _ z => ?_) (fun _ _ z => z))
    unfold Agree at z ⊢
    cases q : lookK ents k with
    | some v => rw [q] at z; (refine ex1_2 (z) ?_; rintro u z1 z2); exact mk1_2 u z1 (z2.eps ε' (cloK_look hc q))
    | none =>
      rw [q] at z
      dsimp only at z ⊢
      rw [z]
      cases base with
      | none => rfl
      | some b0 => exact (hs b0 rfl).1 k
theorem HpR.chg {hp : List (Nat × AO)} {hl : Led} (r : HpR prog w ε W hp hl) : cloH hp = true → sameH ε ε' hp → HpR prog w ε' W hp hl := by
  induction r with
  | nil => intro _ _; exact .nil
  | cons a b _ ih =>
    intro hc hs
    simp only [cloH, Bool.and_eq_true] at hc
    exact .cons a (b.chg hc.1 hs.1) (ih hc.2 hs.2)
theorem LocR.chg {loc : List (Str × AV)} (hc : cloA loc = true) (l : LocR w ε W m loc) : LocR w ε' W m loc := fun x v e => by
  (refine ex1_2 (l x v e) ?_; rintro u h1 h2)
  refine mk1_2 u h1 (h2.eps ε' ?_)
  clear l h1 h2
  induction loc with
  | nil => exact nos e
  | cons p r ih =>
    obtain ⟨y, a⟩ := p
    simp only [cloA, Bool.and_eq_true] at hc
    unfold look at e
    split at e
    · (refine som1 e ?_; rintro rfl); exact hc.1
    · exact ih hc.2 e
theorem HpR.append {a b : List (Nat × AO)} {x y : Led} (r : HpR prog w ε W a x) (h : HpR prog w ε W b y) : HpR prog w ε W (a ++ b) (x ++ y) := by
  induction r with
  | nil => exact h
  | cons p q _ ih => rw [List.append_assoc]; exact .cons p q ih
theorem HpR.split : ∀ {a b : List (Nat × AO)} {x : Led}, HpR prog w ε W (a ++ b) x → ∃ y z, x = y ++ z ∧ HpR prog w ε W a y ∧ HpR prog w ε W b z
  | [], _, x, h => mk2_3 [] x rfl .nil h
  | _ :: _, _, _, .cons p q r => by
    (refine ex2_3 (r.split) ?_; rintro y z rfl h1 h2)
    exact mk2_3 _ z (by rw [List.append_assoc]) (.cons p q h1) h2
/-- objects set aside, and taken back -/
theorem Pre.aside {a b : List (Nat × AO)} (p : Pre prog w ε F n c W σ hl kp h m) (e : σ.hp = a ++ b) : ∃ y z, hl = y ++ z ∧ HpR prog w ε W b z ∧ Pre prog w ε F n c W { σ with hp := a } y (z ++ kp) h m := by
  have H := p.st.hr
  rw [e] at H
  (refine ex2_3 (H.split) ?_; rintro y z rfl h1 h2)
  refine ⟨y, z, rfl, h2, p.ok, ⟨p.st.fr, p.st.lg.perm ?_, h1, p.st.rb⟩, p.loc, p.fk⟩
  have e1 : (y ++ z) ++ (kp ++ W.ims) = y ++ ((z ++ kp) ++ W.ims) := by simp
  rw [e1]
theorem Pre.takeBack {b : List (Nat × AO)} {y z : Led} (p : Pre prog w ε F n c W σ y (z ++ kp) h m) (hb : HpR prog w ε W b z) : Pre prog w ε F n c W { σ with hp := σ.hp ++ b } (y ++ z) kp h m := by
  refine ⟨p.ok, ⟨p.st.fr, p.st.lg.perm ?_, p.st.hr.append hb, p.st.rb⟩, p.loc, p.fk⟩
  have e1 : (y ++ z) ++ (kp ++ W.ims) = y ++ ((z ++ kp) ++ W.ims) := by simp
  rw [e1]
mutual
theorem AV.rel_id : ∀ (a : AV), a.rel AV.obj = a
  | .none => rfl
  | .bool _ => rfl
  | .int _ => rfl
  | .str _ => rfl
  | .obj _ => rfl
  | .stat _ => rfl
  | .tup vs => by simp only [AV.rel]; rw [AV.rels_id vs]
  | .fl vs => by simp only [AV.rel]; rw [AV.rels_id vs]
  | .sq _ => rfl
  | .opq _ => rfl
  | .any => rfl
theorem AV.rels_id : ∀ (l : List AV), AV.rels AV.obj l = l
  | [] => rfl
  | a :: r => by simp only [AV.rels]; rw [AV.rel_id a, AV.rels_id r]
end
theorem relA_id : ∀ l : List (Str × AV), relA AV.obj l = l
  | [] => rfl
  | (x, a) :: r => by simp only [relA]; rw [AV.rel_id a, relA_id r]
theorem relK_id : ∀ l : List (AKey × AV), relK AV.obj l = l
  | [] => rfl
  | (x, a) :: r => by simp only [relK]; rw [AV.rel_id a, relK_id r]
theorem AO.rel_id (o : AO) : o.rel AV.obj = o := by cases o <;> simp only [AO.rel, AV.rels_id, relA_id, relK_id]
noncomputable def labH (p : Nat → Bool) : List (Nat × AO) → Bool
  | [] => true
  | (l, o) :: r => p l && o.labs p && labH p r
/-- the same labels elsewhere -/
theorem HpR.relab {p : Nat → Bool} (hi : ∀ a o, W.im (Kw w) a o → W'.im (Kw w) a o) (hρ : ∀ l q, p l = true → W.ρ l = some q → W'.ρ l = some q) : ∀ {hp : List (Nat × AO)} {hl : Led}, HpR prog w ε W hp hl → labH p hp = true → HpR prog w ε W' hp hl
  | _, _, .nil, _ => .nil
  | _, _, .cons a b c, hl => by
    simp only [labH, Bool.and_eq_true] at hl
    have b' := OR.rel (g := AV.obj) (p := p) hi (fun l u hp r => by cases r with | obj e => exact .obj (hρ _ _ hp e)) hl.1.2 b
    rw [AO.rel_id] at b'
    exact .cons (hρ _ _ hl.1.1 a) b' (HpR.relab hi hρ c hl.2)
noncomputable def anyAt (x : Str) : List (Str × AV) → List (Str × AV)
  | [] => []
  | (y, a) :: r => if sB y x then (y, .any) :: anyAt x r else (y, a) :: anyAt x r
theorem AtR.anyAt (x : Str) {C : Addr} : ∀ {l : List (Str × AV)} {es : List DictEntry}, AtR K ε W C l es → AtR K ε W C (anyAt x l) es
  | _, _, .nil => .nil
  | _, _, .cons a b c d => by
    unfold Mine.anyAt
    split
    · exact .cons a b (.any _) (AtR.anyAt x d)
    · exact .cons a b c (AtR.anyAt x d)
theorem Pre.anyAttr (p : Pre prog w ε F n c W σ hl kp h m) (x : Str) {l : Nat} {C : Addr} {attrs : List (Str × AV)} (e : lookN σ.hp l = some (.inst C attrs)) : Pre prog w ε F n c W { σ with hp := putNL σ.hp l (.inst C (anyAt x attrs)) } hl kp h m := by
  obtain ⟨y, dx, os, a, b, h1, ⟨es, k, rfl, ha, hc⟩, rfl, h3, _⟩ := p.st.hr.find e
  exact ⟨p.ok, ⟨p.st.fr, p.st.lg, h3 _ _ ⟨es, k, rfl, ha.anyAt x, hc⟩, p.st.rb⟩, p.loc, p.fk⟩
end
end
section
open PySem PySem.W PySem.Calls PyProof.Rows
/-- a term as the heap holds it -/
noncomputable def Tm.items : Tm → List AV
  | .i n => [.str (Str.ofString "i"), .int (.lit n)]
  | .a n => [.str (Str.ofString "a"), .int (.lit n)]
  | .v k => [.str (Str.ofString "v"), .int (.lit k)]
  | .s1 f t => [.str (Str.ofString "s"), .int (.lit f), .tup [.tup t.items]]
  | .s2 f t r => [.str (Str.ofString "s"), .int (.lit f), .tup [.tup t.items, .tup r.items]]
noncomputable def Tm.av (t : Tm) : AV := .tup t.items
theorem Tm.clo : ∀ t : Tm, AV.cloL t.items = true
  | .i _ => rfl
  | .a _ => rfl
  | .v _ => rfl
  | .s1 f t => by simp [Tm.items, AV.cloL, AV.clo, AI.clo, t.clo]
  | .s2 f t r => by simp [Tm.items, AV.cloL, AV.clo, AI.clo, t.clo, r.clo]
theorem Tm.lf : ∀ t : Tm, AV.labsL (fun _ => false) t.items = true
  | .i _ => rfl
  | .a _ => rfl
  | .v _ => rfl
  | .s1 f t => by simp [Tm.items, AV.labsL, AV.labs, t.lf]
  | .s2 f t r => by simp [Tm.items, AV.labsL, AV.labs, t.lf, r.lf]
/-- the fields of a frame, numbers that matter not left open -/
structure FmR where
  kind : String
  lim : Int
  fn : Int
  nm : Int
  pr : Int
  left : AV
  items : List AV
noncomputable def FmR.h (r : FmR) : List (Nat × AO) := [(20, fmA r.kind (.lit r.lim) (.lit r.fn) (.lit r.nm) (.lit r.pr) r.left), (21, .list none r.items)]
inductive FmIs : Fm → FmR → Prop
  | op1 {lim f p nm} : FmIs (.op lim f p none) ⟨"operator", lim, f, nm, p, .none, []⟩
  | op2 {lim f p nm} {t : Tm} : FmIs (.op lim f p (some t)) ⟨"operator", lim, f, nm, p, t.av, []⟩
  | round {lim f nm p} : FmIs (.round lim) ⟨"round", lim, f, nm, p, .any, []⟩
  | curly {lim f nm p} : FmIs (.curly lim) ⟨"curly", lim, f, nm, p, .any, []⟩
  | list {lim f nm p} {ts : List Tm} : FmIs (.list lim ts) ⟨"list", lim, f, nm, p, .any, ts.map Tm.av⟩
  | tail {lim f nm p} {ts : List Tm} : FmIs (.tail lim ts) ⟨"tail", lim, f, nm, p, .any, ts.map Tm.av⟩
  | args {lim f nm p} {ts : List Tm} : FmIs (.args lim nm ts) ⟨"args", lim, f, nm, p, .any, ts.map Tm.av⟩
theorem items_clo (ts : List Tm) : AV.cloL (ts.map Tm.av) = true := by
  induction ts with
  | nil => rfl
  | cons t r ih => simp only [List.map_cons, AV.cloL, Tm.av, AV.clo, t.clo, ih]; rfl
theorem items_lf (p : Nat → Bool) (ts : List Tm) : AV.labsL p (ts.map Tm.av) = true := by
  induction ts with
  | nil => rfl
  | cons t r ih => simp only [List.map_cons, AV.labsL, Tm.av, AV.labs, AV.labsL_mono t.lf, ih]; rfl
noncomputable def p2 (l : Nat) : Bool := Nat.beq l 20 || Nat.beq l 21
theorem FmIs.clo {f : Fm} {r : FmR} (h : FmIs f r) : cloH r.h = true := by
  cases h <;> simp [FmR.h, cloH, AO.clo, fmA, cloA, g1, AV.clo, AI.clo, AV.cloL, items_clo, Tm.av, Tm.clo]
theorem FmIs.lab {f : Fm} {r : FmR} (h : FmIs f r) : labH p2 r.h = true := by
  cases h <;> simp [FmR.h, labH, AO.labs, fmA, labA, g1, AV.labs, AV.labsL, items_lf, Tm.av, AV.labsL_mono (Tm.lf _), p2]
theorem FmIs.same {f : Fm} {r : FmR} (_ : FmIs f r) (ε ε' : Eps) : sameH ε ε' r.h := ⟨trivial, rfl, trivial⟩
section
variable (prog : Program) (w : World) (ims : Led)
/-- a frame at its place -/
noncomputable def FrAt (f : Fm) (x : Addr) (os : Led) : Prop := ∃ (ε : Eps) (ρ : Rho) (r : FmR) (dx : Addr), FmIs f r ∧ ρ 20 = some (x, dx) ∧ HpR prog w ε ⟨ρ, ims⟩ r.h os
/-- the stack of frames, top first; the list in the heap holds them bottom first -/
inductive FrsRep : List Fm → List Value → Led → Prop
  | nil : FrsRep [] [] []
  | cons {f : Fm} {fs : List Fm} {x : Addr} {os os' : Led} {raw : List Value} : FrAt prog w ims f x os → FrsRep fs raw os' → FrsRep (f :: fs) (raw ++ [.ref x]) (os ++ os')
end
section
variable {prog : Program} {w : World} {ε ε' : Eps} {W W' : Wd} {F F' : Facts} {n : Nat} {c : Cx} {σ : AS} {hl kp : Led} {h : Heap} {m : Str → Option Value} {ims ims' : Led}
theorem FrAt.mono (hi : ∀ q ∈ ims, q ∈ ims') {f x os} (h : FrAt prog w ims f x os) : FrAt prog w ims' f x os := by
  (refine ex4_3 (h) ?_; rintro ε ρ r dx h1 h2 h3)
  exact mk4_3 ε ρ r dx h1 h2 (h3.mono (W := ⟨ρ, ims⟩) (W' := ⟨ρ, ims'⟩) ⟨fun _ _ e => e, hi⟩)
theorem FrsRep.mono (hi : ∀ q ∈ ims, q ∈ ims') {fs raw os} (h : FrsRep prog w ims fs raw os) : FrsRep prog w ims' fs raw os := by
  induction h with
  | nil => exact .nil
  | cons a _ ih => exact .cons (a.mono hi) ih
/-- other addresses in place of the unseen part of the stack -/
noncomputable def Eps.raw0 (ε : Eps) (r : List Value) (hr : r.length ≤ 1000000) : Eps :=
  { ε with raw := fun k => if k = 0 then r else ε.raw k, raw_le := fun k => by by_cases e : k = 0 <;> simp [e, hr, ε.raw_le] }
theorem raw0_0 (ε : Eps) (r : List Value) (hr : r.length ≤ 1000000) : (ε.raw0 r hr).raw 0 = r := by show (if 0 = 0 then r else ε.raw 0) = r; rw [if_pos rfl]
/-- no object leans on the stack's addresses -/
noncomputable def noRaw0 : List (Nat × AO) → Bool
  | [] => true
  | (_, .list (some 0) _) :: _ => false
  | _ :: r => noRaw0 r
theorem same_raw0 (ε : Eps) (r : List Value) (hr : r.length ≤ 1000000) : ∀ {hp : List (Nat × AO)}, noRaw0 hp = true → sameH ε (ε.raw0 r hr) hp
  | [], _ => trivial
  | (_, .list none _) :: t, h => ⟨rfl, same_raw0 ε r hr (hp := t) h⟩
  | (_, .list (some 0) _) :: t, h => by injection h
  | (_, .list (some (k + 1)) _) :: t, h => ⟨by show ε.raw (k + 1) = (if k + 1 = 0 then r else ε.raw (k + 1)); rw [if_neg (by omega)], same_raw0 ε r hr (hp := t) h⟩
  | (_, .inst _ _) :: t, h => ⟨trivial, same_raw0 ε r hr (hp := t) h⟩
  | (_, .dict _ _ _) :: t, h => ⟨fun _ _ => ⟨fun _ => rfl, rfl⟩, same_raw0 ε r hr (hp := t) h⟩
noncomputable def pN (l : Nat) : Bool := !p2 l
theorem HpR.nil_inv {x : Led} (h : HpR prog w ε W [] x) : x = [] := by cases h; rfl
theorem HpR.one_inv {l : Nat} {o : AO} {z : Led} (h : HpR prog w ε W [(l, o)] z) : ∃ x dx, W.ρ l = some (x, dx) ∧ OR prog w ε W o x dx z := by
  cases h with
  | cons a b c => have := c.nil_inv; subst this; rw [List.append_nil]; exact mk2_2 _ _ a b
theorem idSel_pN {l : Nat} (e : lookN idSel l = some l) : pN l = true := by
  by_cases h : p2 l = true
  · unfold p2 at h
    rw [Bool.or_eq_true] at h
    rcases h with h | h <;> (have := Nat.eq_of_beq_eq_true h; subst this; exact nos e)
  · unfold pN; simpa using h
/-- the top frame, brought to sight -/
theorem expose {loc : List (Str × AV)} {base : List (Nat × AO)} {f : Fm} {x : Addr} {os : Led} {raw' : List Value} (hb1 : noRaw0 base = true) (hb2 : cloH base = true) (hl2 : cloA loc = true) (p : Pre prog w ε F n c W ⟨loc, base ++ [(9, frO)], 40⟩ hl (os ++ kp) h m) (hf : FrAt prog w W.ims f x os) (hraw : ε.raw 0 = raw' ++ [.ref x]) (h20 : W.ρ 20 = none) (h21 : W.ρ 21 = none) :
    ∃ (r : FmR) (hr : raw'.length ≤ 1000000) (W' : Wd) (hl' : Led), FmIs f r ∧ Pre prog w (ε.raw0 raw' hr) {} n c W' ⟨loc, base ++ ((9, frT) :: r.h), 40⟩ hl' kp h m ∧ W'.ims = W.ims ∧ KpLe W W' := by
  (refine ex4_3 (hf) ?_; rintro εf ρ r dx h1 h2 h3)
  have hr : raw'.length ≤ 1000000 := by have := ε.raw_le 0; rw [hraw, List.length_append] at this; omega
  let W' : Wd := ⟨fun l => if l = 20 then ρ 20 else if l = 21 then ρ 21 else W.ρ l, W.ims⟩
  have le : W.Le W' := ⟨fun l q e => by
    show (if l = 20 then ρ 20 else if l = 21 then ρ 21 else W.ρ l) = some q
    by_cases e1 : l = 20
    · rw [e1, h20] at e; exact nos e
    · by_cases e2 : l = 21
      · rw [e2, h21] at e; exact nos e
      · rw [if_neg e1, if_neg e2]; exact e, fun _ z => z⟩
  have ρ20 : W'.ρ 20 = some (x, dx) := by show (if 20 = 20 then ρ 20 else if 20 = 21 then ρ 21 else W.ρ 20) = some (x, dx); rw [if_pos rfl]; exact h2
  (refine ex2_3 (p.st.hr.split) ?_; rintro y z e1 hy hz)
  obtain ⟨x9, dx9, e9, us, k9, e2, rs⟩ := hz.one_inv
  have := rs.nil_inv; subst this
  refine mk4_4 r hr W' ((y ++ z) ++ os) h1 ⟨p.ok, ⟨p.st.fr, p.st.lg.perm ?_, ?_, fun l q e => ?_⟩, ((p.loc.chg hl2).mono le), fok0⟩ rfl le.kp
  · rw [e1]
    have e3 : (y ++ z) ++ ((os ++ kp) ++ W.ims) = ((y ++ z) ++ os) ++ (kp ++ W'.ims) := by simp [W']
    rw [e3]
  · have e4 : base ++ ((9, frT) :: r.h) = (base ++ [(9, frT)]) ++ r.h := by simp
    rw [e4]
    refine (HpR.append ((hy.chg hb2 (same_raw0 ε raw' hr hb1)).mono le) ?_).append ?_
    · have e5 : z = z ++ [] := by simp
      rw [e5]
      refine .cons (le.ρ _ _ e9) ⟨[.ref x], k9, ?_, .cons (.obj ρ20) .nil⟩ .nil
      rw [e2]
      show [(x9, listOf (ε.raw 0 ++ ([] : List Value)).toArray k9)] = [(x9, listOf ((ε.raw0 raw' hr).raw 0 ++ [Value.ref x]).toArray k9)]
      rw [raw0_0, hraw, List.append_nil]
    · refine HpR.relab (W := ⟨ρ, W.ims⟩) (W' := W') (p := p2) (fun _ _ q => q) (fun l q hl e => ?_) (h3.chg h1.clo (h1.same _ _)) h1.lab
      show (if l = 20 then ρ 20 else if l = 21 then ρ 21 else W.ρ l) = some q
      rcases Bool.or_eq_true_iff.mp hl with z | z
      · have := Nat.eq_of_beq_eq_true z; subst this; rw [if_pos rfl]; exact e
      · have := Nat.eq_of_beq_eq_true z; subst this; rw [if_neg (by omega), if_pos rfl]; exact e
  · have e' : (if l = 20 then ρ 20 else if l = 21 then ρ 21 else W.ρ l) = some q := e
    by_cases a : l = 20
    · rw [a]; show 20 < 40; omega
    · by_cases b : l = 21
      · rw [b]; show 21 < 40; omega
      · rw [if_neg a, if_neg b] at e'; exact p.st.rb l q e'
/-- the top frame, put out of sight -/
theorem absorb {loc : List (Str × AV)} {base : List (Nat × AO)} {f : Fm} {r : FmR} (hb1 : noRaw0 base = true) (hb2 : cloH base = true) (hb3 : labH pN base = true) (hl2 : cloA loc = true) (hl3 : labA pN loc = true) (hf : FmIs f r) (hlen : (ε.raw 0).length < 1000000)
    (p : Pre prog w ε F n c W ⟨loc, base ++ ((9, frT) :: r.h), 40⟩ hl kp h m) :
    ∃ (x : Addr) (os : Led) (hr : (ε.raw 0 ++ [Value.ref x]).length ≤ 1000000) (W' : Wd) (hl' : Led), FrAt prog w W'.ims f x os ∧ Pre prog w (ε.raw0 (ε.raw 0 ++ [.ref x]) hr) {} n c W' ⟨loc, base ++ [(9, frO)], 40⟩ hl' (os ++ kp) h m ∧ W'.ims = W.ims ∧ W'.ρ 20 = none ∧ W'.ρ 21 = none ∧ KpLe W W' := by
  have e0 : base ++ ((9, frT) :: r.h) = (base ++ [(9, frT)]) ++ r.h := by simp
  have H := p.st.hr
  rw [show (AS.mk loc (base ++ ((9, frT) :: r.h)) 40).hp = (base ++ [(9, frT)]) ++ r.h from e0] at H
  (refine ex2_3 (H.split) ?_; rintro yz os e1 hyz hos)
  (refine ex2_3 (hyz.split) ?_; rintro y z e2 hy hz)
  obtain ⟨x9, dx9, e9, us, k9, e3, rs⟩ := hz.one_inv
  cases rs with
  | cons ra rr =>
    have := rr.nil_inv; subst this
    cases ra with
    | @obj _ x dx e20 =>
      have hr : (ε.raw 0 ++ [Value.ref x]).length ≤ 1000000 := by rw [List.length_append]; simp; omega
      let W' : Wd := ⟨fun l => if p2 l = true then none else W.ρ l, W.ims⟩
      have hρ : ∀ l q, pN l = true → W.ρ l = some q → W'.ρ l = some q := fun l q hl e => by
        show (if p2 l = true then none else W.ρ l) = some q
        have : p2 l = false := by unfold pN at hl; simpa using hl
        rw [if_neg (by rw [this]; simp)]; exact e
      refine ⟨x, os, hr, W', y ++ z, ⟨ε, W.ρ, r, dx, hf, e20, hos⟩, ⟨p.ok, ⟨p.st.fr, p.st.lg.perm ?_, ?_, fun l q e => ?_⟩, ?_, fok0⟩, rfl, rfl, rfl, fun _ z => z, fun l y e q => hρ l y (idSel_pN e) q⟩
      · rw [e1, e2]
        have e4 : ((y ++ z) ++ os) ++ (kp ++ W.ims) = (y ++ z) ++ ((os ++ kp) ++ W'.ims) := by simp [W']
        rw [e4]
      · refine HpR.append (HpR.relab (W := W) (W' := W') (p := pN) (fun _ _ q => q) hρ (hy.chg hb2 (same_raw0 ε _ hr hb1)) hb3) ?_
        have e5 : z = z ++ [] := by simp
        rw [e5]
        refine .cons (hρ _ _ rfl e9) ⟨[], k9, ?_, .nil⟩ .nil
        rw [e3]
        show [(x9, listOf (ε.raw 0 ++ [Value.ref x]).toArray k9)] = [(x9, listOf ((ε.raw0 (ε.raw 0 ++ [Value.ref x]) hr).raw 0 ++ ([] : List Value)).toArray k9)]
        rw [raw0_0, List.append_nil]
      · have e' : (if p2 l = true then none else W.ρ l) = some q := e
        split at e'
        · exact nos e'
        · exact p.st.rb l q e'
      · have L := (p.loc.chg (ε' := ε.raw0 (ε.raw 0 ++ [.ref x]) hr) hl2)
        intro xx v e
        (refine ex1_2 (L xx v e) ?_; rintro u g1' g2')
        have hv : v.labs pN = true := by
          clear g1' g2' L p H
          induction loc with
          | nil => exact nos e
          | cons q t ih =>
            obtain ⟨yy, a⟩ := q
            simp only [labA, Bool.and_eq_true] at hl3
            simp only [cloA, Bool.and_eq_true] at hl2
            unfold look at e
            split at e
            · (refine som1 e ?_; rintro rfl); exact hl3.1
            · exact ih hl2.2 hl3.2 e
        have g3 := R.rel (W := W) (W' := W') (g := AV.obj) (p := pN) (fun _ _ q => q) (fun l u hp r => by cases r with | obj e => exact .obj (hρ _ _ hp e)) g2' hv
        rw [AV.rel_id] at g3
        exact mk1_2 u g1' g3
end
end
section
open PySem PySem.W PySem.Calls PyProof.Rows
/-- a sign at a place of the list of signs -/
noncomputable def tkV (j : Nat) : Tk → AV
  | .int i => .tup [.str (Str.ofString "int"), .int (.lit i), .int (.lit (3 * j))]
  | .name s => .tup [.str (Str.ofString "name"), .str (Str.ofString (nmS s)), .int (.lit (3 * j))]
  | .qname s => .tup [.str (Str.ofString "qname"), .str (Str.ofString (nmS s)), .int (.lit (3 * j))]
  | .var k => .tup [.str (Str.ofString "var"), .str (Str.ofString (vnS k)), .int (.lit (3 * j))]
  | .op => .tup [.str (Str.ofString "open"), .str (Str.ofString "("), .int (.lit (3 * j))]
  | .oct => .tup [.str (Str.ofString "open_ct"), .str (Str.ofString "("), .int (.lit (3 * j))]
  | .pu p => .tup [.str (Str.ofString "punct"), .str (Str.ofString (puS p)), .int (.lit (3 * j))]
  | .fin => .tup [.str (Str.ofString "end"), .str (Str.ofString "."), .int (.lit (3 * j))]
noncomputable def tkVs : Nat → List Tk → List AV
  | _, [] => []
  | j, t :: r => tkV j t :: tkVs (j + 1) r
noncomputable def nmV (j k : Nat) : AV := .tup [.str (Str.ofString (vnS k)), .int (.lit j)]
noncomputable def nmVs : Nat → List Nat → List AV
  | _, [] => []
  | j, k :: r => nmV j k :: nmVs (j + 1) r
theorem tkVs_clo : ∀ (j : Nat) (l : List Tk), AV.cloL (tkVs j l) = true
  | _, [] => rfl
  | j, t :: r => by simp only [tkVs, AV.cloL, tkVs_clo (j + 1) r, Bool.and_true]; cases t <;> rfl
theorem tkVs_lf : ∀ (j : Nat) (l : List Tk), AV.labsL (fun _ => false) (tkVs j l) = true
  | _, [] => rfl
  | j, t :: r => by simp only [tkVs, AV.labsL, tkVs_lf (j + 1) r, Bool.and_true]; cases t <;> rfl
theorem tkVs_len : ∀ (j : Nat) (l : List Tk), (tkVs j l).length = l.length
  | _, [] => rfl
  | j, t :: r => by simp [tkVs, tkVs_len (j + 1) r]
theorem tkVs_get : ∀ (j : Nat) (l : List Tk) (i : Nat) (t : Tk), l[i]? = some t → (tkVs j l)[i]? = some (tkV (j + i) t)
  | j, a :: r, 0, t, h => by simp only [List.getElem?_cons_zero, Option.some.injEq] at h; subst h; rfl
  | j, a :: r, i + 1, t, h => by
    have := tkVs_get (j + 1) r i t (by simpa using h)
    simp only [tkVs, List.getElem?_cons_succ, this]
    congr 2; omega
  | _, [], _, _, h => by simp at h
theorem nmVs_clo : ∀ (j : Nat) (l : List Nat), AV.cloL (nmVs j l) = true
  | _, [] => rfl
  | j, t :: r => by simp only [nmVs, AV.cloL, nmVs_clo (j + 1) r, Bool.and_true]; rfl
theorem nmVs_lf : ∀ (j : Nat) (l : List Nat), AV.labsL (fun _ => false) (nmVs j l) = true
  | _, [] => rfl
  | j, t :: r => by simp only [nmVs, AV.labsL, nmVs_lf (j + 1) r, Bool.and_true]; rfl
theorem nmVs_len : ∀ (j : Nat) (l : List Nat), (nmVs j l).length = l.length
  | _, [] => rfl
  | j, t :: r => by simp [nmVs, nmVs_len (j + 1) r]
theorem nmVs_snoc : ∀ (j : Nat) (l : List Nat) (k : Nat), nmVs j (l ++ [k]) = nmVs j l ++ [nmV (j + l.length) k]
  | j, [], k => rfl
  | j, t :: r, k => by simp only [List.cons_append, nmVs, nmVs_snoc (j + 1) r k, List.length_cons]; congr 4; omega
/-- what a turn may leave open -/
structure Ar where
  pl : Nat
  lim : Int
  pr : Int
  nx : Int
  cnt : Int := 0
  fnn : Int := 0
  fr : FmR := ⟨"", 0, 0, 0, 0, .none, []⟩
  t0 : Tm := .i 0
  t1 : Tm := .i 0
noncomputable def mkE (ε₀ : Eps) (O : Ops) (toks : List Tk) (ns : List Nat) (ht : toks.length ≤ 1000) (hn : ns.length ≤ 1000) (a : Ar) : Eps :=
  { ε₀ with
    int := fun k => match k with
      | 0 => a.pl | 2 => O.u.1 | 3 => O.p.1 | 4 => O.w.1 | 5 => O.i.1 | 6 => O.q.1 | 10 => a.lim | 11 => a.pr | 12 => a.nx | 13 => a.cnt | 20 => a.fnn
      | 21 => a.fr.fn | 22 => a.fr.pr | 23 => a.fr.lim | 24 => a.fr.nm | _ => 0
    pv := fun k => match k with
      | 0 => a.t0.items | _ => a.t1.items
    sq := fun k => match k with
      | 5 => tkVs 0 toks | 6 => nmVs 0 ns | _ => []
    sq_cl := fun k => by split; exact tkVs_clo 0 toks; exact nmVs_clo 0 ns; rfl
    pv_cl := fun k => by split; exact a.t0.clo; exact a.t1.clo
    sq_lf := fun k => by split; exact tkVs_lf 0 toks; exact nmVs_lf 0 ns; rfl
    pv_lf := fun k => by split; exact a.t0.lf; exact a.t1.lf
    sq_le := fun k => by split; (rw [tkVs_len]; exact ht); (rw [nmVs_len]; exact hn); exact Nat.zero_le _ }
section
variable {prog : Program} {w : World} {ε₀ : Eps} {O : Ops} {toks : List Tk} {ns : List Nat} {ht : toks.length ≤ 1000} {hn : ns.length ≤ 1000} {a : Ar} {W : Wd}
theorem mkE_eq : EqR (mkE ε₀ O toks ns ht hn a) ε₀ := ⟨fun _ => rfl, fun _ _ => rfl, fun _ => rfl⟩
theorem tk_weak {K : Frag} {ε : Eps} {t : Tk} {j : Nat} {u : Value} (r : R K ε W (tkV j t) u) : R K ε W (tkA t) u := by
  have key : ∀ {x y z : AV} {u : Value}, isSq x = false → isSq y = false → isSq z = false → R K ε W (.tup [x, y, z]) u → R K ε W (.tup [x, y, .any]) u := by
    intro x y z u hx hy hz r
    cases r with
    | tup i rs =>
      (refine ex2_3 (Rs.uncons hx rs) ?_; rintro u1 us1 rfl r1 rs1)
      (refine ex2_3 (Rs.uncons hy rs1) ?_; rintro u2 us2 rfl r2 rs2)
      (refine ex2_3 (Rs.uncons hz rs2) ?_; rintro u3 us3 rfl r3 rs3)
      exact .tup i (.cons r1 (.cons r2 (.cons (.any _) rs3)))
  cases t <;> exact key rfl rfl rfl r
/-- the facts of a turn -/
theorem fok_ft {t1 : Tk} {t2 : AV} {dk : List (Nat × AKey × Option AV)} {ls : List (AI × AI × Bool)} (h1 : toks[a.pl]? = some t1) (h2 : t2 = .any ∨ ∃ t, t2 = tkA t ∧ toks[a.pl + 1]? = some t) (hlen : toks.length < 900)
    (hd : ∀ b k r, (b, k, r) ∈ dk → match r with | none => ε₀.dct b k = none | some v => ∃ u, ε₀.dct b k = some u ∧ R (Kw w) (mkE ε₀ O toks ns ht hn a) W v u)
    (hl : ∀ x y b, (x, y, b) ∈ ls → decide ((mkE ε₀ O toks ns ht hn a).ev x < (mkE ε₀ O toks ns ht hn a).ev y) = b) : FOk w (mkE ε₀ O toks ns ht hn a) (ft (tkA t1) t2 dk ls) W := by
  refine ⟨hl, fun _ _ h => (nomatch h), hd, fun k e v h => ?_⟩
  rcases h2 with rfl | ⟨t, rfl, h2⟩
  · simp only [ft, List.mem_cons, List.not_mem_nil, or_false, Prod.mk.injEq] at h
    obtain ⟨rfl, rfl, rfl⟩ := h
    have hlt := (List.getElem?_eq_some_iff.mp h1).1
    exact ⟨a.pl, rfl, by omega, _, tkVs_get 0 toks _ _ h1, fun W u r => tk_weak r⟩
  · have h' : (k, e, v) ∈ [(5, AI.sym 0, tkA t1), (5, AI.add (.sym 0) (.lit 1), tkA t)] := by cases t <;> exact h
    have hlt := (List.getElem?_eq_some_iff.mp h2).1
    simp only [List.mem_cons, List.not_mem_nil, or_false, Prod.mk.injEq] at h'
    rcases h' with ⟨rfl, rfl, rfl⟩ | ⟨rfl, rfl, rfl⟩
    · exact ⟨a.pl, rfl, by omega, _, tkVs_get 0 toks _ _ h1, fun W u r => tk_weak r⟩
    · exact ⟨a.pl + 1, by simp only [Eps.ev]; rfl, by omega, _, tkVs_get 0 toks _ _ h2, fun W u r => tk_weak r⟩
theorem fok_ft1 {t1 : Tk} (h1 : toks[a.pl]? = some t1) (hlen : toks.length < 900) : FOk w (mkE ε₀ O toks ns ht hn a) { at_ := [(5, .sym 0, tkA t1)] } W := by
  refine ⟨fun _ _ _ h => (nomatch h), fun _ _ h => (nomatch h), fun _ _ _ h => (nomatch h), fun k e v h => ?_⟩
  have hlt := (List.getElem?_eq_some_iff.mp h1).1
  simp only [List.mem_cons, List.not_mem_nil, or_false, Prod.mk.injEq] at h
  obtain ⟨rfl, rfl, rfl⟩ := h
  exact ⟨a.pl, rfl, by omega, _, tkVs_get 0 toks _ _ h1, fun W u r => tk_weak r⟩
end
section
variable (tu tp tw ti tq : String)
noncomputable abbrev ft1 (t : Tk) : Facts := { at_ := [(5, .sym 0, tkA t)] }
end
end
section
open PySem PySem.W PySem.Calls PyProof.Rows
noncomputable def entC (e : Int × Ty) : AV := .tup [.int (.lit e.1), .str (Str.ofString (tyS e.2))]
noncomputable def comC (O : Ops) : List (Nat × AO) := [(1, .inst 154 [g1 "texts" .any, g1 "atom_numbers" (.obj 2), g1 "functors" .any, g1 "functor_numbers" (.obj 3)]), (2, .dict 0 (some 0) []), (3, .dict 2 (some 1) []),
  (4, .inst 286 [g1 "symbols" .any, g1 "prefixes" (.obj 5), g1 "infixes" (.obj 6), g1 "postfixes" (.obj 7)]),
  (5, .dict 1 none [(.i 29, entC O.u), (.i 4, entC O.p)]),
  (6, .dict 1 none [(.i 7, .tup [.int (.lit 1000), .str (Str.ofString "xfy")]), (.i 30, entC O.w), (.i 4, entC O.i)]),
  (7, .dict 1 none [(.i 31, entC O.q)])]
noncomputable def comO (O : Ops) : List (Nat × AO) := comA (tyS O.u.2) (tyS O.p.2) (tyS O.w.2) (tyS O.i.2) (tyS O.q.2)
noncomputable def parC (toks : List Tk) (lim pr nx : Int) (pl : Nat) (tm : AV) : AO := .inst 517 [g1 "symbols" (.obj 1), g1 "operators" (.obj 4), g1 "mode" .any, g1 "tokens" (.fl (tkVs 0 toks ++ [])), g1 "place" (.int (.lit pl)), g1 "frames" (.obj 9), g1 "limit" (.int (.lit lim)), g1 "term" tm, g1 "priority" (.int (.lit pr)), g1 "numbers" (.obj 10), g1 "names" (.obj 11), g1 "counts" (.obj 12), g1 "next_number" (.int (.lit nx))]
noncomputable def varC (ns : List Nat) : List (Nat × AO) := [(10, .dict 0 (some 2) []), (11, .list none (nmVs 0 ns ++ [])), (12, .dict 1 (some 3) [])]
noncomputable def baseC (toks : List Tk) (O : Ops) (lim pr : Int) (ns : List Nat) (pl : Nat) (tm : AV) : List (Nat × AO) := (0, parC toks lim pr ns.length pl tm) :: (comC O ++ varC ns)
/-- what the tables of names and functors hold -/
structure DictOk (ε : Eps) (D : Sy) : Prop where
  atom : ∀ s n, D.atom s = some n → ∃ t, ε.dct 0 (.s (Str.ofString (nmS s))) = some (.int n t)
  lit : ∀ s n, D.atom s = some n → (s = .c ∨ s = .f → n = 32 ∨ n = 33) ∧ (s ≠ .c → s ≠ .f → n = atN s)
  fn : ∀ a k f, D.fn a k = some f → 0 ≤ f ∧ ∃ t, ε.dct 1 (.t [a, k]) = some (.int f t)
  comma : D.fn 7 2 = some 1
structure VarOk (ε : Eps) (ns : List Nat) : Prop where
  nd : ns.Nodup
  lt : ∀ k ∈ ns, k < 4
  seen : ∀ k, k ∈ ns → ∃ t, ε.dct 2 (.s (Str.ofString (vnS k))) = some (.int (ns.idxOf k) t)
  new : ∀ k, k < 4 → k ∉ ns → ε.dct 2 (.s (Str.ofString (vnS k))) = none
  cnt : ∀ j : Nat, j < ns.length → ∃ v t, ε.dct 3 (.i j) = some (.int v t)
  cnt0 : ∀ j : Nat, ns.length ≤ j → ε.dct 3 (.i j) = none
noncomputable def tmA (b : Bool) (t : Option Tm) : AV := if b then (match t with | some t => t.av | none => .any) else .any
section
variable (prog : Program) (w : World) (D : Sy) (O : Ops) (toks : List Tk) (c : Cx) (kp₀ : Led) (ims₀ : Wd)
/-- the heap holds a state of the machine -/
inductive Rep (cf : Cf) (h : Heap) (m : Str → Option Value) : Prop
  | mk (ε : Eps) (W : Wd) (hl os : Led) (pl : Nat) (hdrop : toks.drop pl = cf.toks) (hfl : cf.fs.length ≤ pl ∧ ε.dlen 2 ≤ pl ∧ ε.dlen 3 ≤ pl) (hD : DictOk ε D) (hV : VarOk ε cf.ns) (hF : FrsRep prog w W.ims cf.fs (ε.raw 0) os)
    (h20 : W.ρ 20 = none) (h21 : W.ρ 21 = none) (him : KpLe ims₀ W) (p : Pre prog w ε {} 60 c W ⟨locA (if cf.opr then 1 else 0), baseC toks O cf.lim cf.pr cf.ns pl (tmA cf.opr cf.tm) ++ [(9, frO)], 40⟩ hl (os ++ kp₀) h m)
end
theorem drop_head {l : List Tk} {n : Nat} {t : Tk} {r : List Tk} (h : l.drop n = t :: r) : l[n]? = some t ∧ l.drop (n + 1) = r := by
  have h1 : l[n]? = (l.drop n)[0]? := by simp
  refine ⟨by rw [h1, h]; rfl, ?_⟩
  have h2 : l.drop (n + 1) = (l.drop n).drop 1 := by rw [List.drop_drop]
  rw [h2, h]; rfl
theorem FrsRep.len {prog : Program} {w : World} {ims : Led} {fs : List Fm} {raw : List Value} {os : Led} (h : FrsRep prog w ims fs raw os) : raw.length = fs.length := by
  induction h with
  | nil => rfl
  | cons _ _ ih => simp [ih]
theorem nodup_lt : ∀ (n : Nat) (l : List Nat), l.Nodup → (∀ k ∈ l, k < n) → l.length ≤ n
  | 0, l, _, h => by
    cases l with
    | nil => exact Nat.le_refl _
    | cons a r => exact absurd (h a (.head _)) (Nat.not_lt_zero _)
  | n + 1, l, hd, h => by
    by_cases hn : n ∈ l
    · have h1 : (l.erase n).length ≤ n := nodup_lt n _ (hd.erase n) fun k hk => by
        have h2 := (List.Nodup.mem_erase_iff hd).mp hk
        have := h k h2.2
        omega
      rw [List.length_erase_of_mem hn] at h1
      omega
    · exact Nat.le_succ_of_le (nodup_lt n l hd fun k hk => by
        have := h k hk
        have : k ≠ n := fun e => hn (e ▸ hk)
        omega)
theorem VarOk.le4 {ε : Eps} {ns : List Nat} (v : VarOk ε ns) : ns.length ≤ 4 := nodup_lt 4 ns v.nd v.lt
section
variable {prog : Program} {w : World} {D : Sy} {O : Ops} {toks : List Tk} {c : Cx} {kp₀ : Led} {ims₀ : Wd} {E : Value → Shared → Prop}
theorem sub0 {ε₀ : Eps} {ns : List Nat} {ht : toks.length ≤ 1000} {hn : ns.length ≤ 1000} (a : Ar) (st : Int) : (stA st (PG .any) (comO O) frO []).sub (mkE ε₀ O toks ns ht hn { a with nx := ns.length }) = ⟨locA st, baseC toks O a.lim a.pr ns a.pl .any ++ [(9, frO)], 40⟩ := by rfl
end
end
section
open PySem PySem.W PySem.Calls PyProof.Rows
section
variable {prog : Program} {w : World} {D : Sy} {O : Ops} {toks : List Tk} {c : Cx} {kp₀ : Led} {ims₀ : Wd} {E : Value → Shared → Prop} {s : Shared} {m : Str → Option Value}
noncomputable def TurnQ (prog : Program) (w : World) (D : Sy) (O : Ops) (toks : List Tk) (c : Cx) (kp₀ : Led) (ims₀ : Wd) (s : Shared) (b : Cf) (f : Flow) (s' : Shared) : Prop :=
  f = .next ∧ ∃ m' h' tk', s' = { s with heap := h', toks := tk' } ∧ Rep prog w D O toks c kp₀ ims₀ b h' m'
theorem ls_nil {ε : Eps} : ∀ x y b, (x, y, b) ∈ ([] : List (AI × AI × Bool)) → decide (ε.ev x < ε.ev y) = b := fun _ _ _ h => nomatch h
theorem dk_nil {ε₀ ε : Eps} {W : Wd} : ∀ b k r, (b, k, r) ∈ ([] : List (Nat × AKey × Option AV)) → match r with | none => ε₀.dct b k = none | some v => ∃ u, ε₀.dct b k = some u ∧ R (Kw w) ε W v u := fun _ _ _ h => nomatch h
theorem dk_atom {ε₀ ε : Eps} {W : Wd} {nm : Nm} {n : Int} (hD : DictOk ε₀ D) (h : D.atom nm = some n) : ∀ b k r, (b, k, r) ∈ [((0 : Nat), AKey.s (Str.ofString (nmS nm)), some (AV.int (.lit n)))] → match r with | none => ε₀.dct b k = none | some v => ∃ u, ε₀.dct b k = some u ∧ R (Kw w) ε W v u := fun b k r hm => by
  simp only [List.mem_cons, List.not_mem_nil, or_false, Prod.mk.injEq] at hm
  obtain ⟨rfl, rfl, rfl⟩ := hm
  obtain ⟨t, ht⟩ := hD.atom nm n h
  exact ⟨_, ht, .int (.lit n) t⟩
theorem sim_int {i : Int} {r fs lim tm pr ns} (hlen : toks.length < 900) (hc : c.cs = pSc) (h : Rep prog w D O toks c kp₀ ims₀ ⟨.int i :: r, fs, lim, tm, pr, ns, false⟩ s.heap m) :
    wpAny (model prog w) c.A (exec pIf c.env) (TurnQ prog w D O toks c kp₀ ims₀ s ⟨r, fs, lim, some (.i i), 0, ns, true⟩) E s := by
  obtain ⟨ε, W, hl, os, pl, hdrop, hfl, hD, hV, hF, h20, h21, him, p⟩ := h
  obtain ⟨h1, h2⟩ := drop_head hdrop
  refine turn_sim (ε := mkE ε O toks ns (by omega) (by have h4 : ns.length ≤ 4 := hV.le4; omega) { pl := pl, lim := lim, pr := pr, nx := ns.length }) (q_int _ _ _ _ _ i) rfl rfl hc mkE_eq (fok_ft h1 (.inl rfl) hlen dk_nil ls_nil) (sub0 { pl := pl, lim := lim, pr := pr, nx := ns.length } 0).symm p fun W' hl' m' h' tk' hw hρ p' => ⟨rfl, m', h', tk', rfl, ?_⟩
  exact ⟨ε, W', hl', os, pl + 1, h2, ⟨Nat.le_succ_of_le hfl.1, Nat.le_succ_of_le hfl.2.1, Nat.le_succ_of_le hfl.2.2⟩, hD, hV, hF.mono hw.ims, hρ 20 rfl, hρ 21 rfl, (him.trans hw), p'⟩
theorem sim_c {n : Int} {t r fs lim tm pr ns} (hlen : toks.length < 900) (hc : c.cs = pSc) (hn : D.atom .c = some n) (ht : t ≠ .oct) (h : Rep prog w D O toks c kp₀ ims₀ ⟨.name .c :: t :: r, fs, lim, tm, pr, ns, false⟩ s.heap m) :
    wpAny (model prog w) c.A (exec pIf c.env) (TurnQ prog w D O toks c kp₀ ims₀ s ⟨t :: r, fs, lim, some (.a n), 0, ns, true⟩) E s := by
  obtain ⟨ε, W, hl, os, pl, hdrop, hfl, hD, hV, hF, h20, h21, him, p⟩ := h
  obtain ⟨h1, h2⟩ := drop_head hdrop
  obtain ⟨h3, _⟩ := drop_head h2
  refine turn_sim (ε := mkE ε O toks ns (by omega) (by have h4 : ns.length ≤ 4 := hV.le4; omega) { pl := pl, lim := lim, pr := pr, nx := ns.length }) (q_c _ _ _ _ _ n t ((hD.lit _ _ hn).1 (.inl rfl)) ht) rfl rfl hc mkE_eq (fok_ft h1 (.inr ⟨t, rfl, h3⟩) hlen (dk_atom hD hn) ls_nil) (sub0 { pl := pl, lim := lim, pr := pr, nx := ns.length } 0).symm p fun W' hl' m' h' tk' hw hρ p' => ⟨rfl, m', h', tk', rfl, ?_⟩
  exact ⟨ε, W', hl', os, pl + 1, h2, ⟨Nat.le_succ_of_le hfl.1, Nat.le_succ_of_le hfl.2.1, Nat.le_succ_of_le hfl.2.2⟩, hD, hV, hF.mono hw.ims, hρ 20 rfl, hρ 21 rfl, (him.trans hw), p'⟩
theorem DictOk.raw {ε : Eps} (h : DictOk ε D) {r : List Value} {hr : r.length ≤ 1000000} : DictOk (ε.raw0 r hr) D := ⟨h.atom, h.lit, h.fn, h.comma⟩
theorem VarOk.raw {ε : Eps} {ns : List Nat} (h : VarOk ε ns) {r : List Value} {hr : r.length ≤ 1000000} : VarOk (ε.raw0 r hr) ns := ⟨h.nd, h.lt, h.seen, h.new, h.cnt, h.cnt0⟩
theorem base_ok (lim pr : Int) (ns : List Nat) (pl : Nat) (tm : AV) (h1 : tm.clo = true) (h2 : tm.labs pN = true) : noRaw0 (baseC toks O lim pr ns pl tm) = true ∧ cloH (baseC toks O lim pr ns pl tm) = true ∧ labH pN (baseC toks O lim pr ns pl tm) = true := by
  have e1 : AV.cloL (tkVs 0 toks ++ []) = true := by rw [List.append_nil]; exact tkVs_clo 0 toks
  have e2 : AV.cloL (nmVs 0 ns ++ []) = true := by rw [List.append_nil]; exact nmVs_clo 0 ns
  have e3 : AV.labsL pN (tkVs 0 toks ++ []) = true := by rw [List.append_nil]; exact AV.labsL_mono (tkVs_lf 0 toks)
  have e4 : AV.labsL pN (nmVs 0 ns ++ []) = true := by rw [List.append_nil]; exact AV.labsL_mono (nmVs_lf 0 ns)
  refine ⟨rfl, ?_, ?_⟩
  · simp only [baseC, comC, varC, List.cons_append, List.nil_append, cloH, AO.clo, parC, cloA, g1, AV.clo, cloK, entC, AV.cloL, e1, e2, h1]
    rfl
  · simp only [baseC, comC, varC, List.cons_append, List.nil_append, labH, AO.labs, parC, labA, g1, AV.labs, labK, entC, AV.labsL, e3, e4, h2]
    rfl
theorem push_fin {ε : Eps} {W : Wd} {hl os : Led} {h' : Heap} {m' : Str → Option Value} {f : Fm} {r : FmR} {fs : List Fm} {lim pr : Int} {ns : List Nat} {pl : Nat} {rest : List Tk} {tm : Option Tm} (hlen : toks.length < 900)
    (p : Pre prog w ε {} 60 c W ⟨locA 0, baseC toks O lim pr ns pl .any ++ ((9, frT) :: r.h), 40⟩ hl (os ++ kp₀) h' m') (hf : FmIs f r) (hF : FrsRep prog w W.ims fs (ε.raw 0) os) (hpl : fs.length + 1 ≤ pl) (hdl : ε.dlen 2 ≤ pl ∧ ε.dlen 3 ≤ pl) (hple : pl ≤ toks.length) (hdrop : toks.drop pl = rest)
    (hD : DictOk ε D) (hV : VarOk ε ns) (him : KpLe ims₀ W) : Rep prog w D O toks c kp₀ ims₀ ⟨rest, f :: fs, lim, tm, pr, ns, false⟩ h' m' := by
  obtain ⟨b1, b2, b3⟩ := base_ok (toks := toks) (O := O) lim pr ns pl .any rfl rfl
  obtain ⟨x, os1, hr, W2, hl2, hfr, p2, e1, e2, e3, e4⟩ := absorb b1 b2 b3 rfl rfl hf (by rw [hF.len]; omega) p
  refine ⟨ε.raw0 (ε.raw 0 ++ [.ref x]) hr, W2, hl2, os1 ++ os, pl, hdrop, ⟨hpl, hdl⟩, hD.raw, hV.raw, ?_, e2, e3, him.trans e4, ?_⟩
  · rw [raw0_0]
    exact .cons hfr (by rw [e1]; exact hF)
  · rw [List.append_assoc]; exact p2
theorem sim_round {r fs lim tm pr ns} (hlen : toks.length < 900) (hc : c.cs = pSc) (h : Rep prog w D O toks c kp₀ ims₀ ⟨.op :: r, fs, lim, tm, pr, ns, false⟩ s.heap m) :
    wpAny (model prog w) c.A (exec pIf c.env) (TurnQ prog w D O toks c kp₀ ims₀ s ⟨r, .round lim :: fs, 1200, tm, pr, ns, false⟩) E s := by
  obtain ⟨ε, W, hl, os, pl, hdrop, hfl, hD, hV, hF, h20, h21, him, p⟩ := h
  obtain ⟨h1, h2⟩ := drop_head hdrop
  have hpl := (List.getElem?_eq_some_iff.mp h1).1
  refine turn_sim (ε := mkE ε O toks ns (by omega) (by have h4 : ns.length ≤ 4 := hV.le4; omega) { pl := pl, lim := lim, pr := pr, nx := ns.length }) (q_round _ _ _ _ _) rfl rfl hc mkE_eq (fok_ft h1 (.inl rfl) hlen dk_nil ls_nil) (sub0 { pl := pl, lim := lim, pr := pr, nx := ns.length } 0).symm p fun W' hl' m' h' tk' hw hρ p' => ⟨rfl, m', h', tk', rfl, ?_⟩
  have p2 := p'.anyAttr (Str.ofString "left") (l := 20) (by rfl)
  exact push_fin (r := ⟨"round", lim, -1, -1, 0, .any, []⟩) (pl := pl + 1) hlen p2 .round (hF.mono hw.ims) (by have : fs.length ≤ pl := hfl.1; omega) ⟨by have := hfl.2.1; omega, by have := hfl.2.2; omega⟩ hpl h2 hD hV (him.trans hw)
theorem sim_lb {t r fs lim tm pr ns} (hlen : toks.length < 900) (hc : c.cs = pSc) (hs : starts t = true) (h : Rep prog w D O toks c kp₀ ims₀ ⟨.pu .lb :: t :: r, fs, lim, tm, pr, ns, false⟩ s.heap m) :
    wpAny (model prog w) c.A (exec pIf c.env) (TurnQ prog w D O toks c kp₀ ims₀ s ⟨t :: r, .list lim [] :: fs, 999, tm, pr, ns, false⟩) E s := by
  obtain ⟨ε, W, hl, os, pl, hdrop, hfl, hD, hV, hF, h20, h21, him, p⟩ := h
  obtain ⟨h1, h2⟩ := drop_head hdrop
  have hpl := (List.getElem?_eq_some_iff.mp h1).1
  obtain ⟨h3, _⟩ := drop_head h2
  refine turn_sim (ε := mkE ε O toks ns (by omega) (by have h4 : ns.length ≤ 4 := hV.le4; omega) { pl := pl, lim := lim, pr := pr, nx := ns.length }) (q_lb _ _ _ _ _ t hs) rfl rfl hc mkE_eq (fok_ft h1 (.inr ⟨t, rfl, h3⟩) hlen dk_nil ls_nil) (sub0 { pl := pl, lim := lim, pr := pr, nx := ns.length } 0).symm p fun W' hl' m' h' tk' hw hρ p' => ⟨rfl, m', h', tk', rfl, ?_⟩
  have p2 := p'.anyAttr (Str.ofString "left") (l := 20) (by rfl)
  exact push_fin (r := ⟨"list", lim, -1, -1, 0, .any, []⟩) (pl := pl + 1) hlen p2 .list (hF.mono hw.ims) (by have : fs.length ≤ pl := hfl.1; omega) ⟨by have := hfl.2.1; omega, by have := hfl.2.2; omega⟩ hpl h2 hD hV (him.trans hw)
theorem sim_lc {t r fs lim tm pr ns} (hlen : toks.length < 900) (hc : c.cs = pSc) (hs : starts t = true) (h : Rep prog w D O toks c kp₀ ims₀ ⟨.pu .lc :: t :: r, fs, lim, tm, pr, ns, false⟩ s.heap m) :
    wpAny (model prog w) c.A (exec pIf c.env) (TurnQ prog w D O toks c kp₀ ims₀ s ⟨t :: r, .curly lim :: fs, 1200, tm, pr, ns, false⟩) E s := by
  obtain ⟨ε, W, hl, os, pl, hdrop, hfl, hD, hV, hF, h20, h21, him, p⟩ := h
  obtain ⟨h1, h2⟩ := drop_head hdrop
  have hpl := (List.getElem?_eq_some_iff.mp h1).1
  obtain ⟨h3, _⟩ := drop_head h2
  refine turn_sim (ε := mkE ε O toks ns (by omega) (by have h4 : ns.length ≤ 4 := hV.le4; omega) { pl := pl, lim := lim, pr := pr, nx := ns.length }) (q_lc _ _ _ _ _ t hs) rfl rfl hc mkE_eq (fok_ft h1 (.inr ⟨t, rfl, h3⟩) hlen dk_nil ls_nil) (sub0 { pl := pl, lim := lim, pr := pr, nx := ns.length } 0).symm p fun W' hl' m' h' tk' hw hρ p' => ⟨rfl, m', h', tk', rfl, ?_⟩
  have p2 := p'.anyAttr (Str.ofString "left") (l := 20) (by rfl)
  exact push_fin (r := ⟨"curly", lim, -1, -1, 0, .any, []⟩) (pl := pl + 1) hlen p2 .curly (hF.mono hw.ims) (by have : fs.length ≤ pl := hfl.1; omega) ⟨by have := hfl.2.1; omega, by have := hfl.2.2; omega⟩ hpl h2 hD hV (him.trans hw)
theorem sim_call {nm n r fs lim tm pr ns} (hlen : toks.length < 900) (hc : c.cs = pSc) (hs : nm = .u ∨ nm = .f ∨ nm = .w) (hn : D.atom nm = some n) (h : Rep prog w D O toks c kp₀ ims₀ ⟨.name nm :: .oct :: r, fs, lim, tm, pr, ns, false⟩ s.heap m) :
    wpAny (model prog w) c.A (exec pIf c.env) (TurnQ prog w D O toks c kp₀ ims₀ s ⟨r, .args lim n [] :: fs, 999, tm, pr, ns, false⟩) E s := by
  obtain ⟨ε, W, hl, os, pl, hdrop, hfl, hD, hV, hF, h20, h21, him, p⟩ := h
  obtain ⟨h1, h2⟩ := drop_head hdrop
  have hpl := (List.getElem?_eq_some_iff.mp h1).1
  obtain ⟨h3, h4⟩ := drop_head h2
  have hpl2 := (List.getElem?_eq_some_iff.mp h3).1
  have hq : (nm = .u ∧ n = 29) ∨ (nm = .w ∧ n = 30) ∨ (nm = .f ∧ (n = 32 ∨ n = 33)) := by
    have hl := hD.lit _ _ hn
    rcases hs with rfl | rfl | rfl
    · exact .inl ⟨rfl, hl.2 (by simp) (by simp)⟩
    · exact .inr (.inr ⟨rfl, hl.1 (.inr rfl)⟩)
    · exact .inr (.inl ⟨rfl, hl.2 (by simp) (by simp)⟩)
  refine turn_sim (ε := mkE ε O toks ns (by omega) (by have h4 : ns.length ≤ 4 := hV.le4; omega) { pl := pl, lim := lim, pr := pr, nx := ns.length }) (q_call _ _ _ _ _ nm n hq) rfl rfl hc mkE_eq (fok_ft h1 (.inr ⟨.oct, rfl, h3⟩) hlen (dk_atom hD hn) ls_nil) (sub0 { pl := pl, lim := lim, pr := pr, nx := ns.length } 0).symm p fun W' hl' m' h' tk' hw hρ p' => ⟨rfl, m', h', tk', rfl, ?_⟩
  have p2 := p'.anyAttr (Str.ofString "left") (l := 20) (by rfl)
  exact push_fin (r := ⟨"args", lim, -1, n, 0, .any, []⟩) (pl := pl + 2) hlen p2 (.args (ts := [])) (hF.mono hw.ims) (by have : fs.length ≤ pl := hfl.1; omega) ⟨by have := hfl.2.1; omega, by have := hfl.2.2; omega⟩ hpl2 h4 hD hV (him.trans hw)
theorem rightOf_ev {ε : Eps} {e : Int × Ty} {k : Nat} (h : ε.int k = e.1) : ε.ev (rightA k e.2) = rightOf e := by
  obtain ⟨a, b⟩ := e
  cases b <;> simp [rightA, rightOf, Eps.ev] <;> first | exact h | (rw [h])
theorem dk_both {ε₀ : Eps} {ns : List Nat} {ht : toks.length ≤ 1000} {hn : ns.length ≤ 1000} {a : Ar} {W : Wd} {nm : Nm} {n k f : Int} (hD : DictOk ε₀ D) (h : D.atom nm = some n) (hf : D.fn n k = some f) (ha : a.fnn = f) :
    ∀ b k' r, (b, k', r) ∈ [((0 : Nat), AKey.s (Str.ofString (nmS nm)), some (AV.int (.lit n)))] ++ dkf n k → match r with | none => ε₀.dct b k' = none | some v => ∃ u, ε₀.dct b k' = some u ∧ R (Kw w) (mkE ε₀ O toks ns ht hn a) W v u := fun b k' r hm => by
  rcases List.mem_append.mp hm with hm | hm
  · exact dk_atom hD h b k' r hm
  · simp only [dkf, List.mem_cons, List.not_mem_nil, or_false, Prod.mk.injEq] at hm
    obtain ⟨rfl, rfl, rfl⟩ := hm
    obtain ⟨_, t, ht'⟩ := hD.fn n k f hf
    subst ha
    exact ⟨_, ht', .int (.sym 20) t⟩
theorem atN_of {ε₀ : Eps} (hD : DictOk ε₀ D) {nm : Nm} {n : Int} (h : D.atom nm = some n) (h1 : nm ≠ .c) (h2 : nm ≠ .f) : n = atN nm := (hD.lit _ _ h).2 h1 h2
theorem sim_preU {n f t r fs tm pr ns} (hO : O.Ok) (hlen : toks.length < 900) (hc : c.cs = pSc) (hn : D.atom .u = some n) (hf : D.fn n 1 = some f) (hs : starts t = true) (h : Rep prog w D O toks c kp₀ ims₀ ⟨.name .u :: t :: r, fs, 1200, tm, pr, ns, false⟩ s.heap m) :
    wpAny (model prog w) c.A (exec pIf c.env) (TurnQ prog w D O toks c kp₀ ims₀ s ⟨t :: r, .op 1200 f O.u.1 none :: fs, rightOf O.u, tm, pr, ns, false⟩) E s := by
  obtain ⟨ε, W, hl, os, pl, hdrop, hfl, hD, hV, hF, h20, h21, him, p⟩ := h
  obtain ⟨h1, h2⟩ := drop_head hdrop
  obtain ⟨h3, _⟩ := drop_head h2
  have hpl := (List.getElem?_eq_some_iff.mp h1).1
  have hn' := atN_of hD hn (by simp) (by simp)
  subst hn'
  obtain ⟨hf0, _⟩ := hD.fn _ _ _ hf
  have h4 : ns.length ≤ 4 := hV.le4
  refine turn_sim (ε := mkE ε O toks ns (by omega) (by omega) { pl := pl, lim := 1200, pr := pr, nx := ns.length, fnn := f }) (q_preU _ _ _ _ O.u.2 t hs hO.u.2.2) rfl rfl hc mkE_eq (fok_ft h1 (.inr ⟨t, rfl, h3⟩) hlen (dk_both hD hn hf rfl) (fun x y b hm => ?_)) rfl p fun W' hl' m' h' tk' hw hρ p' => ⟨rfl, m', h', tk', rfl, ?_⟩
  · simp only [List.mem_cons, List.not_mem_nil, or_false, Prod.mk.injEq] at hm
    have := hO.u.2.1
    rcases hm with ⟨rfl, rfl, rfl⟩ | ⟨rfl, rfl, rfl⟩
    · exact decide_eq_false (by show ¬ (1200 : Int) < O.u.1; omega)
    · exact decide_eq_false (by show ¬ f < (0 : Int); omega)
  · have p2 : Pre prog w ε {} 60 c W' ⟨locA 0, baseC toks O ((mkE ε O toks ns (by omega) (by omega) { pl := pl, lim := 1200, pr := pr, nx := ns.length, fnn := f }).ev (rightA 2 O.u.2)) pr ns (pl + 1) .any ++ ((9, frT) :: (FmR.mk "operator" 1200 f (-1) O.u.1 .none []).h), 40⟩ hl' (os ++ kp₀) h' m' := p'
    rw [rightOf_ev (e := O.u) rfl] at p2
    exact push_fin hlen p2 .op1 (hF.mono hw.ims) (by have : fs.length ≤ pl := hfl.1; omega) ⟨by have := hfl.2.1; omega, by have := hfl.2.2; omega⟩ hpl h2 hD hV (him.trans hw)
theorem sim_preP {n f t r fs tm pr ns} (hO : O.Ok) (hlen : toks.length < 900) (hc : c.cs = pSc) (hn : D.atom .plus = some n) (hf : D.fn n 1 = some f) (hs : starts t = true) (h : Rep prog w D O toks c kp₀ ims₀ ⟨.name .plus :: t :: r, fs, 1200, tm, pr, ns, false⟩ s.heap m) :
    wpAny (model prog w) c.A (exec pIf c.env) (TurnQ prog w D O toks c kp₀ ims₀ s ⟨t :: r, .op 1200 f O.p.1 none :: fs, rightOf O.p, tm, pr, ns, false⟩) E s := by
  obtain ⟨ε, W, hl, os, pl, hdrop, hfl, hD, hV, hF, h20, h21, him, p⟩ := h
  obtain ⟨h1, h2⟩ := drop_head hdrop
  obtain ⟨h3, _⟩ := drop_head h2
  have hpl := (List.getElem?_eq_some_iff.mp h1).1
  have hn' := atN_of hD hn (by simp) (by simp)
  subst hn'
  obtain ⟨hf0, _⟩ := hD.fn _ _ _ hf
  have h4 : ns.length ≤ 4 := hV.le4
  refine turn_sim (ε := mkE ε O toks ns (by omega) (by omega) { pl := pl, lim := 1200, pr := pr, nx := ns.length, fnn := f }) (q_preP _ _ _ _ O.p.2 t hs hO.p.2.2) rfl rfl hc mkE_eq (fok_ft h1 (.inr ⟨t, rfl, h3⟩) hlen (dk_both hD hn hf rfl) (fun x y b hm => ?_)) rfl p fun W' hl' m' h' tk' hw hρ p' => ⟨rfl, m', h', tk', rfl, ?_⟩
  · simp only [List.mem_cons, List.not_mem_nil, or_false, Prod.mk.injEq] at hm
    have := hO.p.2.1
    rcases hm with ⟨rfl, rfl, rfl⟩ | ⟨rfl, rfl, rfl⟩
    · exact decide_eq_false (by show ¬ (1200 : Int) < O.p.1; omega)
    · exact decide_eq_false (by show ¬ f < (0 : Int); omega)
  · have p2 : Pre prog w ε {} 60 c W' ⟨locA 0, baseC toks O ((mkE ε O toks ns (by omega) (by omega) { pl := pl, lim := 1200, pr := pr, nx := ns.length, fnn := f }).ev (rightA 3 O.p.2)) pr ns (pl + 1) .any ++ ((9, frT) :: (FmR.mk "operator" 1200 f (-1) O.p.1 .none []).h), 40⟩ hl' (os ++ kp₀) h' m' := p'
    rw [rightOf_ev (e := O.p) rfl] at p2
    exact push_fin hlen p2 .op1 (hF.mono hw.ims) (by have : fs.length ≤ pl := hfl.1; omega) ⟨by have := hfl.2.1; omega, by have := hfl.2.2; omega⟩ hpl h2 hD hV (him.trans hw)
end
end
section
open PySem PySem.W PySem.Calls PyProof.Rows
section
variable {prog : Program} {w : World} {D : Sy} {O : Ops} {toks : List Tk} {c : Cx} {kp₀ : Led} {ims₀ : Wd} {E : Value → Shared → Prop} {s : Shared} {m : Str → Option Value}
/-- a state with its top frame in sight -/
theorem Rep.top {f : Fm} {fs : List Fm} {r : List Tk} {lim pr : Int} {tm : Option Tm} {ns : List Nat} {b : Bool} (htm : (tmA b tm).clo = true) (h : Rep prog w D O toks c kp₀ ims₀ ⟨r, f :: fs, lim, tm, pr, ns, b⟩ s.heap m) :
    ∃ (ε : Eps) (W : Wd) (hl os : Led) (pl : Nat) (fr : FmR), toks.drop pl = r ∧ (fs.length + 1 ≤ pl ∧ ε.dlen 2 ≤ pl ∧ ε.dlen 3 ≤ pl) ∧ DictOk ε D ∧ VarOk ε ns ∧ FmIs f fr ∧ FrsRep prog w W.ims fs (ε.raw 0) os ∧ KpLe ims₀ W ∧
      Pre prog w ε {} 60 c W ⟨locA (if b then 1 else 0), baseC toks O lim pr ns pl (tmA b tm) ++ ((9, frT) :: fr.h), 40⟩ hl (os ++ kp₀) s.heap m := by
  obtain ⟨ε, W, hl, os, pl, hdrop, hfl, hD, hV, hF, h20, h21, him, p⟩ := h
  have hl0 : cloA (locA (if b then 1 else 0)) = true := by cases b <;> rfl
  generalize hraw : ε.raw 0 = raw at hF
  cases hF with
  | @cons _ _ x os1 os2 raw' hfr hrest =>
    rw [List.append_assoc] at p
    have hb2 : cloH (baseC toks O lim pr ns pl (tmA b tm)) = true := by
      have e1 : AV.cloL (tkVs 0 toks ++ []) = true := by rw [List.append_nil]; exact tkVs_clo 0 toks
      have e2 : AV.cloL (nmVs 0 ns ++ []) = true := by rw [List.append_nil]; exact nmVs_clo 0 ns
      simp only [baseC, comC, varC, List.cons_append, List.nil_append, cloH, AO.clo, parC, cloA, g1, AV.clo, cloK, entC, AV.cloL, e1, e2, htm]
      rfl
    (refine ex4_4 (expose rfl hb2 hl0 p hfr hraw h20 h21) ?_; rintro fr hr W2 hl2 h1 p2 h2 h3)
    refine ⟨ε.raw0 raw' hr, W2, hl2, os2, pl, fr, hdrop, hfl, hD.raw, hV.raw, h1, ?_, him.trans h3, p2⟩
    rw [raw0_0, h2]; exact hrest
theorem tmA_clo (b : Bool) (t : Option Tm) : (tmA b t).clo = true := by
  unfold tmA
  split
  · cases t with
    | none => rfl
    | some t => exact t.clo
  · rfl
theorem sim_clr {r l fs lim x pr ns} (hlen : toks.length < 900) (hc : c.cs = pSc) (h : Rep prog w D O toks c kp₀ ims₀ ⟨.pu .rp :: r, .round l :: fs, lim, some x, pr, ns, true⟩ s.heap m) :
    wpAny (model prog w) c.A (exec pIf c.env) (TurnQ prog w D O toks c kp₀ ims₀ s ⟨r, fs, l, some x, 0, ns, true⟩) E s := by
  obtain ⟨ε, W, hl, os, pl, fr, hdrop, hfl, hD, hV, hf, hF, him, p⟩ := h.top (tmA_clo _ _)
  (refine ex0_2 (drop_head hdrop) ?_; rintro h1 h2)
  have h4 : ns.length ≤ 4 := hV.le4
  cases hf with
  | @round _ f nm pp =>
    refine turn_sim (ε := mkE ε O toks ns (by omega) (by omega) { pl := pl, lim := lim, pr := pr, nx := ns.length, fr := ⟨"", l, f, nm, pp, .none, []⟩, t0 := x }) (q_clr _ _ _ _ _) rfl rfl hc mkE_eq (fok_ft h1 (.inl rfl) hlen dk_nil ls_nil) rfl p fun W' hl' m' h' tk' hw hρ p' => ⟨rfl, m', h', tk', rfl, ?_⟩
    exact ⟨ε, W', hl', os, pl + 1, h2, ⟨by show fs.length ≤ pl + 1; have := hfl.1; omega, Nat.le_succ_of_le hfl.2.1, Nat.le_succ_of_le hfl.2.2⟩, hD, hV, hF.mono hw.ims, hρ 20 rfl, hρ 21 rfl, (him.trans hw), p'⟩
theorem sim_clc {r l fs lim x pr ns} (hlen : toks.length < 900) (hc : c.cs = pSc)  (h : Rep prog w D O toks c kp₀ ims₀ ⟨.pu .rc :: r, .curly l :: fs, lim, some x, pr, ns, true⟩ s.heap m) :
    wpAny (model prog w) c.A (exec pIf c.env) (TurnQ prog w D O toks c kp₀ ims₀ s ⟨r, fs, l, some (.s1 9 x), 0, ns, true⟩) E s := by
  obtain ⟨ε, W, hl, os, pl, fr, hdrop, hfl, hD, hV, hf, hF, him, p⟩ := h.top (tmA_clo _ _)
  (refine ex0_2 (drop_head hdrop) ?_; rintro h1 h2)
  have h4 : ns.length ≤ 4 := hV.le4
  cases hf with
  | @curly _ f nm pp =>
    refine turn_sim (ε := mkE ε O toks ns (by omega) (by omega) { pl := pl, lim := lim, pr := pr, nx := ns.length, fr := ⟨"", l, f, nm, pp, .none, []⟩, t0 := x }) (q_clc _ _ _ _ _) rfl rfl hc mkE_eq (fok_ft h1 (.inl rfl) hlen dk_nil ls_nil) rfl p fun W' hl' m' h' tk' hw hρ p' => ⟨rfl, m', h', tk', rfl, ?_⟩
    exact ⟨ε, W', hl', os, pl + 1, h2, ⟨by show fs.length ≤ pl + 1; have := hfl.1; omega, Nat.le_succ_of_le hfl.2.1, Nat.le_succ_of_le hfl.2.2⟩, hD, hV, hF.mono hw.ims, hρ 20 rfl, hρ 21 rfl, (him.trans hw), p'⟩
theorem sim_cll {r l fs lim x pr ns} (hlen : toks.length < 900) (hc : c.cs = pSc)  (h : Rep prog w D O toks c kp₀ ims₀ ⟨.pu .rb :: r, .list l [] :: fs, lim, some x, pr, ns, true⟩ s.heap m) :
    wpAny (model prog w) c.A (exec pIf c.env) (TurnQ prog w D O toks c kp₀ ims₀ s ⟨r, fs, l, some (.s2 0 x (.a 0)), 0, ns, true⟩) E s := by
  obtain ⟨ε, W, hl, os, pl, fr, hdrop, hfl, hD, hV, hf, hF, him, p⟩ := h.top (tmA_clo _ _)
  (refine ex0_2 (drop_head hdrop) ?_; rintro h1 h2)
  have h4 : ns.length ≤ 4 := hV.le4
  cases hf with
  | @list _ f nm pp =>
    refine turn_sim (ε := mkE ε O toks ns (by omega) (by omega) { pl := pl, lim := lim, pr := pr, nx := ns.length, fr := ⟨"", l, f, nm, pp, .none, []⟩, t0 := x }) (q_cll _ _ _ _ _) rfl rfl hc mkE_eq (fok_ft h1 (.inl rfl) hlen dk_nil ls_nil) rfl p fun W' hl' m' h' tk' hw hρ p' => ⟨rfl, m', h', tk', rfl, ?_⟩
    exact ⟨ε, W', hl', os, pl + 1, h2, ⟨by show fs.length ≤ pl + 1; have := hfl.1; omega, Nat.le_succ_of_le hfl.2.1, Nat.le_succ_of_le hfl.2.2⟩, hD, hV, hF.mono hw.ims, hρ 20 rfl, hρ 21 rfl, (him.trans hw), p'⟩
theorem sim_cll2 {y r l fs lim x pr ns} (hlen : toks.length < 900) (hc : c.cs = pSc)  (h : Rep prog w D O toks c kp₀ ims₀ ⟨.pu .rb :: r, .list l [y] :: fs, lim, some x, pr, ns, true⟩ s.heap m) :
    wpAny (model prog w) c.A (exec pIf c.env) (TurnQ prog w D O toks c kp₀ ims₀ s ⟨r, fs, l, some (.s2 0 y (.s2 0 x (.a 0))), 0, ns, true⟩) E s := by
  obtain ⟨ε, W, hl, os, pl, fr, hdrop, hfl, hD, hV, hf, hF, him, p⟩ := h.top (tmA_clo _ _)
  (refine ex0_2 (drop_head hdrop) ?_; rintro h1 h2)
  have h4 : ns.length ≤ 4 := hV.le4
  cases hf with
  | @list _ f nm pp =>
    refine turn_sim (ε := mkE ε O toks ns (by omega) (by omega) { pl := pl, lim := lim, pr := pr, nx := ns.length, fr := ⟨"", l, f, nm, pp, .none, []⟩, t0 := x, t1 := y }) (q_cll2 _ _ _ _ _) rfl rfl hc mkE_eq (fok_ft h1 (.inl rfl) hlen dk_nil ls_nil) rfl p fun W' hl' m' h' tk' hw hρ p' => ⟨rfl, m', h', tk', rfl, ?_⟩
    exact ⟨ε, W', hl', os, pl + 1, h2, ⟨by show fs.length ≤ pl + 1; have := hfl.1; omega, Nat.le_succ_of_le hfl.2.1, Nat.le_succ_of_le hfl.2.2⟩, hD, hV, hF.mono hw.ims, hρ 20 rfl, hρ 21 rfl, (him.trans hw), p'⟩
theorem sim_clt {y r l fs lim x pr ns} (hlen : toks.length < 900) (hc : c.cs = pSc)  (h : Rep prog w D O toks c kp₀ ims₀ ⟨.pu .rb :: r, .tail l [y] :: fs, lim, some x, pr, ns, true⟩ s.heap m) :
    wpAny (model prog w) c.A (exec pIf c.env) (TurnQ prog w D O toks c kp₀ ims₀ s ⟨r, fs, l, some (.s2 0 y x), 0, ns, true⟩) E s := by
  obtain ⟨ε, W, hl, os, pl, fr, hdrop, hfl, hD, hV, hf, hF, him, p⟩ := h.top (tmA_clo _ _)
  (refine ex0_2 (drop_head hdrop) ?_; rintro h1 h2)
  have h4 : ns.length ≤ 4 := hV.le4
  cases hf with
  | @tail _ f nm pp =>
    refine turn_sim (ε := mkE ε O toks ns (by omega) (by omega) { pl := pl, lim := lim, pr := pr, nx := ns.length, fr := ⟨"", l, f, nm, pp, .none, []⟩, t0 := x, t1 := y }) (q_clt _ _ _ _ _) rfl rfl hc mkE_eq (fok_ft h1 (.inl rfl) hlen dk_nil ls_nil) rfl p fun W' hl' m' h' tk' hw hρ p' => ⟨rfl, m', h', tk', rfl, ?_⟩
    exact ⟨ε, W', hl', os, pl + 1, h2, ⟨by show fs.length ≤ pl + 1; have := hfl.1; omega, Nat.le_succ_of_le hfl.2.1, Nat.le_succ_of_le hfl.2.2⟩, hD, hV, hF.mono hw.ims, hρ 20 rfl, hρ 21 rfl, (him.trans hw), p'⟩
theorem dk_fn {ε₀ : Eps} {ns : List Nat} {ht : toks.length ≤ 1000} {hn : ns.length ≤ 1000} {a : Ar} {W : Wd} {n k f : Int} (hD : DictOk ε₀ D) (hf : D.fn n k = some f) (ha : a.fnn = f) :
    ∀ b k' r, (b, k', r) ∈ dkf n k → match r with | none => ε₀.dct b k' = none | some v => ∃ u, ε₀.dct b k' = some u ∧ R (Kw w) (mkE ε₀ O toks ns ht hn a) W v u := fun b k' r hm => by
  simp only [dkf, List.mem_cons, List.not_mem_nil, or_false, Prod.mk.injEq] at hm
  (refine ex0_3 (hm) ?_; rintro rfl rfl rfl)
  obtain ⟨_, t, ht'⟩ := hD.fn n k f hf
  subst ha
  exact mk1_2 _ ht' (.int (.sym 20) t)
theorem ls_fn {ε₀ : Eps} {ns : List Nat} {ht : toks.length ≤ 1000} {hn : ns.length ≤ 1000} {a : Ar} (h0 : 0 ≤ a.fnn) : ∀ x y b, (x, y, b) ∈ lsf → decide ((mkE ε₀ O toks ns ht hn a).ev x < (mkE ε₀ O toks ns ht hn a).ev y) = b := fun x y b hm => by
  simp only [List.mem_cons, List.not_mem_nil, or_false, Prod.mk.injEq] at hm
  (refine ex0_3 (hm) ?_; rintro rfl rfl rfl)
  exact decide_eq_false (by show ¬ a.fnn < (0 : Int); omega)
theorem sim_cla1 {n f r l fs lim x pr ns} (hlen : toks.length < 900) (hc : c.cs = pSc) (hn : D.atom .u = some n) (hf : D.fn n 1 = some f) (h : Rep prog w D O toks c kp₀ ims₀ ⟨.pu .rp :: r, .args l n [] :: fs, lim, some x, pr, ns, true⟩ s.heap m) :
    wpAny (model prog w) c.A (exec pIf c.env) (TurnQ prog w D O toks c kp₀ ims₀ s ⟨r, fs, l, some (.s1 f x), 0, ns, true⟩) E s := by
  obtain ⟨ε, W, hl, os, pl, fr, hdrop, hfl, hD, hV, hfm, hF, him, p⟩ := h.top (tmA_clo _ _)
  (refine ex0_2 (drop_head hdrop) ?_; rintro h1 h2)
  have h4 : ns.length ≤ 4 := hV.le4
  have hn' := atN_of hD hn (by simp) (by simp)
  subst hn'
  (refine ex0_2 (hD.fn _ _ _ hf) ?_; rintro hf0 _)
  cases hfm with
  | @args _ f' nm pp =>
    refine turn_sim (ε := mkE ε O toks ns (by omega) (by omega) { pl := pl, lim := lim, pr := pr, nx := ns.length, fr := ⟨"", l, f', 0, pp, .none, []⟩, t0 := x, fnn := f }) (q_cla1 _ _ _ _ _) rfl rfl hc mkE_eq (fok_ft h1 (.inl rfl) hlen (dk_fn hD hf rfl) (ls_fn hf0)) rfl p fun W' hl' m' h' tk' hw hρ p' => ⟨rfl, m', h', tk', rfl, ?_⟩
    exact ⟨ε, W', hl', os, pl + 1, h2, ⟨by show fs.length ≤ pl + 1; have := hfl.1; omega, Nat.le_succ_of_le hfl.2.1, Nat.le_succ_of_le hfl.2.2⟩, hD, hV, hF.mono hw.ims, hρ 20 rfl, hρ 21 rfl, (him.trans hw), p'⟩
theorem sim_cla2 {nm n f y r l fs lim x pr ns} (hlen : toks.length < 900) (hc : c.cs = pSc) (hs : nm = .f ∨ nm = .w) (hn : D.atom nm = some n) (hf : D.fn n 2 = some f) (h : Rep prog w D O toks c kp₀ ims₀ ⟨.pu .rp :: r, .args l n [y] :: fs, lim, some x, pr, ns, true⟩ s.heap m) :
    wpAny (model prog w) c.A (exec pIf c.env) (TurnQ prog w D O toks c kp₀ ims₀ s ⟨r, fs, l, some (.s2 f y x), 0, ns, true⟩) E s := by
  obtain ⟨ε, W, hl, os, pl, fr, hdrop, hfl, hD, hV, hfm, hF, him, p⟩ := h.top (tmA_clo _ _)
  (refine ex0_2 (drop_head hdrop) ?_; rintro h1 h2)
  have h4 : ns.length ≤ 4 := hV.le4
  have hq : n = 30 ∨ n = 32 ∨ n = 33 := by
    have hl := hD.lit _ _ hn
    rcases hs with rfl | rfl
    · exact .inr (hl.1 (.inr rfl))
    · exact .inl (hl.2 (by simp) (by simp))
  (refine ex0_2 (hD.fn _ _ _ hf) ?_; rintro hf0 _)
  cases hfm with
  | @args _ f' nm pp =>
    refine turn_sim (ε := mkE ε O toks ns (by omega) (by omega) { pl := pl, lim := lim, pr := pr, nx := ns.length, fr := ⟨"", l, f', 0, pp, .none, []⟩, t0 := x, t1 := y, fnn := f }) (q_cla2 _ _ _ _ _ n hq) rfl rfl hc mkE_eq (fok_ft h1 (.inl rfl) hlen (dk_fn hD hf rfl) (ls_fn hf0)) rfl p fun W' hl' m' h' tk' hw hρ p' => ⟨rfl, m', h', tk', rfl, ?_⟩
    exact ⟨ε, W', hl', os, pl + 1, h2, ⟨by show fs.length ≤ pl + 1; have := hfl.1; omega, Nat.le_succ_of_le hfl.2.1, Nat.le_succ_of_le hfl.2.2⟩, hD, hV, hF.mono hw.ims, hρ 20 rfl, hρ 21 rfl, (him.trans hw), p'⟩
theorem sim_red1 {t r l f pp fs lim x pr ns} (hlen : toks.length < 900) (hc : c.cs = pSc) (ht : t = .pu .rp ∨ t = .fin) (h : Rep prog w D O toks c kp₀ ims₀ ⟨t :: r, .op l f pp none :: fs, lim, some x, pr, ns, true⟩ s.heap m) :
    wpAny (model prog w) c.A (exec pIf c.env) (TurnQ prog w D O toks c kp₀ ims₀ s ⟨t :: r, fs, l, some (.s1 f x), pp, ns, true⟩) E s := by
  obtain ⟨ε, W, hl, os, pl, fr, hdrop, hfl, hD, hV, hfm, hF, him, p⟩ := h.top (tmA_clo _ _)
  (refine ex0_2 (drop_head hdrop) ?_; rintro h1 h2)
  have h4 : ns.length ≤ 4 := hV.le4
  cases hfm with
  | @op1 _ _ _ nm =>
    refine turn_sim (ε := mkE ε O toks ns (by omega) (by omega) { pl := pl, lim := lim, pr := pr, nx := ns.length, fr := ⟨"", l, f, nm, pp, .none, []⟩, t0 := x }) (q_red1 _ _ _ _ _ t ht) rfl rfl hc mkE_eq (fok_ft h1 (.inl rfl) hlen dk_nil ls_nil) rfl p fun W' hl' m' h' tk' hw hρ p' => ⟨rfl, m', h', tk', rfl, ?_⟩
    exact ⟨ε, W', hl', os, pl, hdrop, ⟨by show fs.length ≤ pl; have := hfl.1; omega, hfl.2⟩, hD, hV, hF.mono hw.ims, hρ 20 rfl, hρ 21 rfl, (him.trans hw), p'⟩
theorem sim_red2 {t r l f pp y fs lim x pr ns} (hlen : toks.length < 900) (hc : c.cs = pSc) (ht : t = .pu .rp ∨ t = .fin) (h : Rep prog w D O toks c kp₀ ims₀ ⟨t :: r, .op l f pp (some y) :: fs, lim, some x, pr, ns, true⟩ s.heap m) :
    wpAny (model prog w) c.A (exec pIf c.env) (TurnQ prog w D O toks c kp₀ ims₀ s ⟨t :: r, fs, l, some (.s2 f y x), pp, ns, true⟩) E s := by
  obtain ⟨ε, W, hl, os, pl, fr, hdrop, hfl, hD, hV, hfm, hF, him, p⟩ := h.top (tmA_clo _ _)
  (refine ex0_2 (drop_head hdrop) ?_; rintro h1 h2)
  have h4 : ns.length ≤ 4 := hV.le4
  cases hfm with
  | @op2 _ _ _ nm _ =>
    refine turn_sim (ε := mkE ε O toks ns (by omega) (by omega) { pl := pl, lim := lim, pr := pr, nx := ns.length, fr := ⟨"", l, f, nm, pp, .none, []⟩, t0 := x, t1 := y }) (q_red2 _ _ _ _ _ t ht) rfl rfl hc mkE_eq (fok_ft h1 (.inl rfl) hlen dk_nil ls_nil) rfl p fun W' hl' m' h' tk' hw hρ p' => ⟨rfl, m', h', tk', rfl, ?_⟩
    exact ⟨ε, W', hl', os, pl, hdrop, ⟨by show fs.length ≤ pl; have := hfl.1; omega, hfl.2⟩, hD, hV, hF.mono hw.ims, hρ 20 rfl, hρ 21 rfl, (him.trans hw), p'⟩
theorem sim_sepl { r l fs x pr ns} (hlen : toks.length < 900) (hc : c.cs = pSc) (h : Rep prog w D O toks c kp₀ ims₀ ⟨.pu .comma :: r, .list l [] :: fs, 999, some x, pr, ns, true⟩ s.heap m) :
    wpAny (model prog w) c.A (exec pIf c.env) (TurnQ prog w D O toks c kp₀ ims₀ s ⟨r, .list l [x] :: fs, 999, some x, pr, ns, false⟩) E s := by
  obtain ⟨ε, W, hl, os, pl, fr, hdrop, hfl, hD, hV, hf, hF, him, p⟩ := h.top (tmA_clo _ _)
  (refine ex0_2 (drop_head hdrop) ?_; rintro h1 h2)
  have hpl := (List.getElem?_eq_some_iff.mp h1).1
  have h4 : ns.length ≤ 4 := hV.le4
  cases hf with
  | @list _ f nm pp =>
    refine turn_sim (ε := mkE ε O toks ns (by omega) (by omega) { pl := pl, lim := 999, pr := pr, nx := ns.length, fr := ⟨"", l, f, nm, pp, .none, []⟩, t0 := x }) (q_sepl _ _ _ _ _) rfl rfl hc mkE_eq (fok_ft h1 (.inl rfl) hlen dk_nil ls_nil) rfl p fun W' hl' m' h' tk' hw hρ p' => ⟨rfl, m', h', tk', rfl, ?_⟩
    have p2 := p'.anyAttr (Str.ofString "term") (l := 0) (by rfl)
    exact push_fin (r := ⟨"list", l, f, nm, pp, .any, [x.av]⟩) (pl := pl + 1) hlen p2 (.list (ts := [x])) (hF.mono hw.ims) (by have := hfl.1; omega) ⟨by have := hfl.2.1; omega, by have := hfl.2.2; omega⟩ hpl h2 hD hV (him.trans hw)
theorem sim_sepa {n r l fs x pr ns} (hlen : toks.length < 900) (hc : c.cs = pSc) (h : Rep prog w D O toks c kp₀ ims₀ ⟨.pu .comma :: r, .args l n [] :: fs, 999, some x, pr, ns, true⟩ s.heap m) :
    wpAny (model prog w) c.A (exec pIf c.env) (TurnQ prog w D O toks c kp₀ ims₀ s ⟨r, .args l n [x] :: fs, 999, some x, pr, ns, false⟩) E s := by
  obtain ⟨ε, W, hl, os, pl, fr, hdrop, hfl, hD, hV, hf, hF, him, p⟩ := h.top (tmA_clo _ _)
  (refine ex0_2 (drop_head hdrop) ?_; rintro h1 h2)
  have hpl := (List.getElem?_eq_some_iff.mp h1).1
  have h4 : ns.length ≤ 4 := hV.le4
  cases hf with
  | @args _ f nm pp =>
    refine turn_sim (ε := mkE ε O toks ns (by omega) (by omega) { pl := pl, lim := 999, pr := pr, nx := ns.length, fr := ⟨"", l, f, n, pp, .none, []⟩, t0 := x }) (q_sepa _ _ _ _ _) rfl rfl hc mkE_eq (fok_ft h1 (.inl rfl) hlen dk_nil ls_nil) rfl p fun W' hl' m' h' tk' hw hρ p' => ⟨rfl, m', h', tk', rfl, ?_⟩
    have p2 := p'.anyAttr (Str.ofString "term") (l := 0) (by rfl)
    exact push_fin (r := ⟨"args", l, f, n, pp, .any, [x.av]⟩) (pl := pl + 1) hlen p2 (.args (ts := [x])) (hF.mono hw.ims) (by have := hfl.1; omega) ⟨by have := hfl.2.1; omega, by have := hfl.2.2; omega⟩ hpl h2 hD hV (him.trans hw)
theorem sim_sept { r l fs lim x pr ns} (hlen : toks.length < 900) (hc : c.cs = pSc) (h : Rep prog w D O toks c kp₀ ims₀ ⟨.pu .bar :: r, .list l [] :: fs, lim, some x, pr, ns, true⟩ s.heap m) :
    wpAny (model prog w) c.A (exec pIf c.env) (TurnQ prog w D O toks c kp₀ ims₀ s ⟨r, .tail l [x] :: fs, 999, some x, pr, ns, false⟩) E s := by
  obtain ⟨ε, W, hl, os, pl, fr, hdrop, hfl, hD, hV, hf, hF, him, p⟩ := h.top (tmA_clo _ _)
  (refine ex0_2 (drop_head hdrop) ?_; rintro h1 h2)
  have hpl := (List.getElem?_eq_some_iff.mp h1).1
  have h4 : ns.length ≤ 4 := hV.le4
  cases hf with
  | @list _ f nm pp =>
    refine turn_sim (ε := mkE ε O toks ns (by omega) (by omega) { pl := pl, lim := lim, pr := pr, nx := ns.length, fr := ⟨"", l, f, nm, pp, .none, []⟩, t0 := x }) (q_sept _ _ _ _ _) rfl rfl hc mkE_eq (fok_ft h1 (.inl rfl) hlen dk_nil ls_nil) rfl p fun W' hl' m' h' tk' hw hρ p' => ⟨rfl, m', h', tk', rfl, ?_⟩
    have p2 := p'.anyAttr (Str.ofString "term") (l := 0) (by rfl)
    exact push_fin (r := ⟨"tail", l, f, nm, pp, .any, [x.av]⟩) (pl := pl + 1) hlen p2 (.tail (ts := [x])) (hF.mono hw.ims) (by have := hfl.1; omega) ⟨by have := hfl.2.1; omega, by have := hfl.2.2; omega⟩ hpl h2 hD hV (him.trans hw)
theorem sim_infW {n f r fs x ns} (hO : O.Ok) (hlen : toks.length < 900) (hc : c.cs = pSc) (hn : D.atom .w = some n) (hf : D.fn n 2 = some f) (h : Rep prog w D O toks c kp₀ ims₀ ⟨.name .w :: r, fs, 1200, some x, 0, ns, true⟩ s.heap m) :
    wpAny (model prog w) c.A (exec pIf c.env) (TurnQ prog w D O toks c kp₀ ims₀ s ⟨r, .op 1200 f O.w.1 (some x) :: fs, rightOf O.w, some x, 0, ns, false⟩) E s := by
  obtain ⟨ε, W, hl, os, pl, hdrop, hfl, hD, hV, hF, h20, h21, him, p⟩ := h
  (refine ex0_2 (drop_head hdrop) ?_; rintro h1 h2)
  have hpl := (List.getElem?_eq_some_iff.mp h1).1
  have hn' := atN_of hD hn (by simp) (by simp)
  subst hn'
  (refine ex0_2 (hD.fn _ _ _ hf) ?_; rintro hf0 _)
  have h4 : ns.length ≤ 4 := hV.le4
  refine turn_sim (ε := mkE ε O toks ns (by omega) (by omega) { pl := pl, lim := 1200, pr := 0, nx := ns.length, fnn := f, t0 := x }) (q_infW _ _ _ _ O.w.2 hO.w.2.2) rfl rfl hc mkE_eq (fok_ft h1 (.inl rfl) hlen (dk_both hD hn hf rfl) (fun x' y b hm => ?_)) rfl p fun W' hl' m' h' tk' hw hρ p' => ⟨rfl, m', h', tk', rfl, ?_⟩
  · simp only [List.mem_cons, List.not_mem_nil, or_false, Prod.mk.injEq] at hm
    have := hO.w.2.1
    have := hO.w.1
    rcases hm with ⟨rfl, rfl, rfl⟩ | ⟨rfl, rfl, rfl⟩ | ⟨rfl, rfl, rfl⟩ | ⟨rfl, rfl, rfl⟩
    · exact decide_eq_false (by show ¬ (1200 : Int) < O.w.1; omega)
    · exact decide_eq_false (by show ¬ f < (0 : Int); omega)
    · exact decide_eq_false (by show ¬ O.w.1 < (0 : Int); omega)
    · exact decide_eq_false (by show ¬ O.w.1 - 1 < (0 : Int); omega)
  · have p2 : Pre prog w ε {} 60 c W' ⟨locA 0, baseC toks O ((mkE ε O toks ns (by omega) (by omega) { pl := pl, lim := 1200, pr := 0, nx := ns.length, fnn := f, t0 := x }).ev (rightA 4 O.w.2)) 0 ns (pl + 1) x.av ++ ((9, frT) :: (FmR.mk "operator" 1200 f (-1) O.w.1 x.av []).h), 40⟩ hl' (os ++ kp₀) h' m' := p'
    rw [rightOf_ev (e := O.w) rfl] at p2
    have p3 := p2.anyAttr (Str.ofString "term") (l := 0) (by rfl)
    exact push_fin hlen p3 .op2 (hF.mono hw.ims) (by have : fs.length ≤ pl := hfl.1; omega) ⟨by have := hfl.2.1; omega, by have := hfl.2.2; omega⟩ hpl h2 hD hV (him.trans hw)
theorem sim_infP {n f r fs x ns} (hO : O.Ok) (hlen : toks.length < 900) (hc : c.cs = pSc) (hn : D.atom .plus = some n) (hf : D.fn n 2 = some f) (h : Rep prog w D O toks c kp₀ ims₀ ⟨.name .plus :: r, fs, 1200, some x, 0, ns, true⟩ s.heap m) :
    wpAny (model prog w) c.A (exec pIf c.env) (TurnQ prog w D O toks c kp₀ ims₀ s ⟨r, .op 1200 f O.i.1 (some x) :: fs, rightOf O.i, some x, 0, ns, false⟩) E s := by
  obtain ⟨ε, W, hl, os, pl, hdrop, hfl, hD, hV, hF, h20, h21, him, p⟩ := h
  (refine ex0_2 (drop_head hdrop) ?_; rintro h1 h2)
  have hpl := (List.getElem?_eq_some_iff.mp h1).1
  have hn' := atN_of hD hn (by simp) (by simp)
  subst hn'
  (refine ex0_2 (hD.fn _ _ _ hf) ?_; rintro hf0 _)
  have h4 : ns.length ≤ 4 := hV.le4
  refine turn_sim (ε := mkE ε O toks ns (by omega) (by omega) { pl := pl, lim := 1200, pr := 0, nx := ns.length, fnn := f, t0 := x }) (q_infP _ _ _ _ O.i.2 hO.i.2.2) rfl rfl hc mkE_eq (fok_ft h1 (.inl rfl) hlen (dk_both hD hn hf rfl) (fun x' y b hm => ?_)) rfl p fun W' hl' m' h' tk' hw hρ p' => ⟨rfl, m', h', tk', rfl, ?_⟩
  · simp only [List.mem_cons, List.not_mem_nil, or_false, Prod.mk.injEq] at hm
    have := hO.i.2.1
    have := hO.i.1
    rcases hm with ⟨rfl, rfl, rfl⟩ | ⟨rfl, rfl, rfl⟩ | ⟨rfl, rfl, rfl⟩ | ⟨rfl, rfl, rfl⟩
    · exact decide_eq_false (by show ¬ (1200 : Int) < O.i.1; omega)
    · exact decide_eq_false (by show ¬ f < (0 : Int); omega)
    · exact decide_eq_false (by show ¬ O.i.1 < (0 : Int); omega)
    · exact decide_eq_false (by show ¬ O.i.1 - 1 < (0 : Int); omega)
  · have p2 : Pre prog w ε {} 60 c W' ⟨locA 0, baseC toks O ((mkE ε O toks ns (by omega) (by omega) { pl := pl, lim := 1200, pr := 0, nx := ns.length, fnn := f, t0 := x }).ev (rightA 5 O.i.2)) 0 ns (pl + 1) x.av ++ ((9, frT) :: (FmR.mk "operator" 1200 f (-1) O.i.1 x.av []).h), 40⟩ hl' (os ++ kp₀) h' m' := p'
    rw [rightOf_ev (e := O.i) rfl] at p2
    have p3 := p2.anyAttr (Str.ofString "term") (l := 0) (by rfl)
    exact push_fin hlen p3 .op2 (hF.mono hw.ims) (by have : fs.length ≤ pl := hfl.1; omega) ⟨by have := hfl.2.1; omega, by have := hfl.2.2; omega⟩ hpl h2 hD hV (him.trans hw)
theorem sim_comma {r fs x ns} (hlen : toks.length < 900) (hc : c.cs = pSc) (h : Rep prog w D O toks c kp₀ ims₀ ⟨.pu .comma :: r, fs, 1200, some x, 0, ns, true⟩ s.heap m) :
    wpAny (model prog w) c.A (exec pIf c.env) (TurnQ prog w D O toks c kp₀ ims₀ s ⟨r, .op 1200 1 1000 (some x) :: fs, 1000, some x, 0, ns, false⟩) E s := by
  obtain ⟨ε, W, hl, os, pl, hdrop, hfl, hD, hV, hF, h20, h21, him, p⟩ := h
  (refine ex0_2 (drop_head hdrop) ?_; rintro h1 h2)
  have hpl := (List.getElem?_eq_some_iff.mp h1).1
  have h4 : ns.length ≤ 4 := hV.le4
  refine turn_sim (ε := mkE ε O toks ns (by omega) (by omega) { pl := pl, lim := 1200, pr := 0, nx := ns.length, t0 := x }) (q_comma _ _ _ _ _) rfl rfl hc mkE_eq (fok_ft h1 (.inl rfl) hlen (fun b k' r hm => ?_) ls_nil) rfl p fun W' hl' m' h' tk' hw hρ p' => ⟨rfl, m', h', tk', rfl, ?_⟩
  · simp only [List.mem_cons, List.not_mem_nil, or_false, Prod.mk.injEq] at hm
    (refine ex0_3 (hm) ?_; rintro rfl rfl rfl)
    obtain ⟨_, t, ht'⟩ := hD.fn 7 2 1 hD.comma
    exact mk1_2 _ ht' (.int (.lit 1) t)
  · have p3 := p'.anyAttr (Str.ofString "term") (l := 0) (by rfl)
    exact push_fin (r := ⟨"operator", 1200, 1, -1, 1000, x.av, []⟩) (pl := pl + 1) hlen p3 .op2 (hF.mono hw.ims) (by have : fs.length ≤ pl := hfl.1; omega) ⟨by have := hfl.2.1; omega, by have := hfl.2.2; omega⟩ hpl h2 hD hV (him.trans hw)
theorem sim_post {n f r fs x ns} (hO : O.Ok) (hlen : toks.length < 900) (hc : c.cs = pSc) (hn : D.atom .q = some n) (hf : D.fn n 1 = some f) (h : Rep prog w D O toks c kp₀ ims₀ ⟨.name .q :: r, fs, 1200, some x, 0, ns, true⟩ s.heap m) :
    wpAny (model prog w) c.A (exec pIf c.env) (TurnQ prog w D O toks c kp₀ ims₀ s ⟨r, fs, 1200, some (.s1 f x), O.q.1, ns, true⟩) E s := by
  obtain ⟨ε, W, hl, os, pl, hdrop, hfl, hD, hV, hF, h20, h21, him, p⟩ := h
  (refine ex0_2 (drop_head hdrop) ?_; rintro h1 h2)
  have hn' := atN_of hD hn (by simp) (by simp)
  subst hn'
  (refine ex0_2 (hD.fn _ _ _ hf) ?_; rintro hf0 _)
  have h4 : ns.length ≤ 4 := hV.le4
  refine turn_sim (ε := mkE ε O toks ns (by omega) (by omega) { pl := pl, lim := 1200, pr := 0, nx := ns.length, fnn := f, t0 := x }) (q_post _ _ _ _ O.q.2 hO.q.2.2) rfl rfl hc mkE_eq (fok_ft h1 (.inl rfl) hlen (dk_both hD hn hf rfl) (fun x' y b hm => ?_)) rfl p fun W' hl' m' h' tk' hw hρ p' => ⟨rfl, m', h', tk', rfl, ?_⟩
  · simp only [List.mem_cons, List.not_mem_nil, or_false, Prod.mk.injEq] at hm
    have := hO.q.2.1
    have := hO.q.1
    rcases hm with ⟨rfl, rfl, rfl⟩ | ⟨rfl, rfl, rfl⟩ | ⟨rfl, rfl, rfl⟩ | ⟨rfl, rfl, rfl⟩
    · exact decide_eq_false (by show ¬ (1200 : Int) < O.q.1; omega)
    · exact decide_eq_false (by show ¬ f < (0 : Int); omega)
    · exact decide_eq_false (by show ¬ O.q.1 < (0 : Int); omega)
    · exact decide_eq_false (by show ¬ O.q.1 - 1 < (0 : Int); omega)
  · exact ⟨ε, W', hl', os, pl + 1, h2, ⟨Nat.le_succ_of_le hfl.1, Nat.le_succ_of_le hfl.2.1, Nat.le_succ_of_le hfl.2.2⟩, hD, hV, hF.mono hw.ims, hρ 20 rfl, hρ 21 rfl, (him.trans hw), p'⟩
theorem tm_lab (x : Tm) : (x.av).labs pN = true := AV.labsL_mono x.lf
theorem push_opr {ε : Eps} {W : Wd} {hl os : Led} {h' : Heap} {m' : Str → Option Value} {f : Fm} {r : FmR} {fs : List Fm} {lim pr : Int} {ns : List Nat} {pl : Nat} {rest : List Tk} {x : Tm} (hlen : toks.length < 900)
    (p : Pre prog w ε {} 60 c W ⟨locA 1, baseC toks O lim pr ns pl x.av ++ ((9, frT) :: r.h), 40⟩ hl (os ++ kp₀) h' m') (hf : FmIs f r) (hF : FrsRep prog w W.ims fs (ε.raw 0) os) (hpl : fs.length + 1 ≤ pl) (hdl : ε.dlen 2 ≤ pl ∧ ε.dlen 3 ≤ pl) (hple : pl ≤ toks.length) (hdrop : toks.drop pl = rest)
    (hD : DictOk ε D) (hV : VarOk ε ns) (him : KpLe ims₀ W) : Rep prog w D O toks c kp₀ ims₀ ⟨rest, f :: fs, lim, some x, pr, ns, true⟩ h' m' := by
  (refine ex0_3 (base_ok (toks := toks) (O := O) lim pr ns pl x.av x.clo (tm_lab x)) ?_; rintro b1 b2 b3)
  obtain ⟨x', os1, hr, W2, hl2, hfr, p2, e1, e2, e3, e4⟩ := absorb b1 b2 b3 rfl rfl hf (by rw [hF.len]; omega) p
  refine ⟨ε.raw0 (ε.raw 0 ++ [.ref x']) hr, W2, hl2, os1 ++ os, pl, hdrop, ⟨hpl, hdl⟩, hD.raw, hV.raw, ?_, e2, e3, him.trans e4, ?_⟩
  · rw [raw0_0]
    exact .cons hfr (by rw [e1]; exact hF)
  · rw [List.append_assoc]; exact p2
theorem sim_alone {nm n r l fs tm pr ns} {q : Bool} (hlen : toks.length < 900) (hc : c.cs = pSc) (hs : nm = .u ∨ nm = .plus ∨ nm = .w ∨ nm = .q) (hn : D.atom nm = some n) (h : Rep prog w D O toks c kp₀ ims₀ ⟨(if q then .qname nm else .name nm) :: .pu .rp :: r, .round l :: fs, 1200, tm, pr, ns, false⟩ s.heap m) :
    wpAny (model prog w) c.A (exec pIf c.env) (TurnQ prog w D O toks c kp₀ ims₀ s ⟨.pu .rp :: r, .round l :: fs, 1200, some (.a n), 0, ns, true⟩) E s := by
  obtain ⟨ε, W, hl, os, pl, fr, hdrop, hfl, hD, hV, hf, hF, him, p⟩ := h.top (tmA_clo _ _)
  (refine ex0_2 (drop_head hdrop) ?_; rintro h1 h2)
  (refine ex0_2 (drop_head h2) ?_; rintro h3 _)
  have hpl := (List.getElem?_eq_some_iff.mp h1).1
  have h4 : ns.length ≤ 4 := hV.le4
  have hn' : n = atN nm := by rcases hs with rfl | rfl | rfl | rfl <;> exact atN_of hD hn (by simp) (by simp)
  subst hn'
  cases hf with
  | @round _ f nmm pp =>
    refine turn_sim (ε := mkE ε O toks ns (by omega) (by omega) { pl := pl, lim := 1200, pr := pr, nx := ns.length, fr := ⟨"", l, f, nmm, pp, .none, []⟩ }) (q_alone _ _ _ _ _ nm q hs) rfl rfl hc mkE_eq (fok_ft h1 (.inr ⟨_, rfl, h3⟩) hlen (dk_atom hD hn) ls_nil) rfl p fun W' hl' m' h' tk' hw hρ p' => ⟨rfl, m', h', tk', rfl, ?_⟩
    exact push_opr (x := .a (atN nm)) (r := ⟨"round", l, f, nmm, pp, .any, []⟩) (pl := pl + 1) hlen p' .round (hF.mono hw.ims) (by have := hfl.1; omega) ⟨by have := hfl.2.1; omega, by have := hfl.2.2; omega⟩ hpl h2 hD hV (him.trans hw)
theorem toE {ε : Eps} {F : Facts} {n : Nat} {W : Wd} {loc : List (Str × AV)} {base : List (Nat × AO)} {hl kp : Led} {h : Heap} (hr : ε.raw 0 = []) (p : Pre prog w ε F n c W ⟨loc, base ++ [(9, frO)], 40⟩ hl kp h m) : Pre prog w ε F n c W ⟨loc, base ++ [(9, frE)], 40⟩ hl kp h m := by
  (refine ex2_3 (p.st.hr.split) ?_; rintro y z e1 hy hz)
  obtain ⟨x9, dx9, e9, us, k9, e2, rs⟩ := hz.one_inv
  have e3 : z = [(x9, listOf (preL ε none ++ us).toArray k9)] := by rw [e2]; show [(x9, listOf (ε.raw 0 ++ us).toArray k9)] = _; rw [hr]; rfl
  have H : HpR prog w ε W [(9, frE)] z := by
    have e5 : z = z ++ [] := by simp
    rw [e5]
    exact .cons e9 ⟨us, k9, e3, rs⟩ .nil
  exact ⟨p.ok, ⟨p.st.fr, p.st.lg, by rw [e1]; exact hy.append H, p.st.rb⟩, p.loc, p.fk⟩
theorem fromE {ε : Eps} {F : Facts} {n : Nat} {W : Wd} {loc : List (Str × AV)} {base : List (Nat × AO)} {hl kp : Led} {h : Heap} (hr : ε.raw 0 = []) (p : Pre prog w ε F n c W ⟨loc, base ++ [(9, frE)], 40⟩ hl kp h m) : Pre prog w ε F n c W ⟨loc, base ++ [(9, frO)], 40⟩ hl kp h m := by
  (refine ex2_3 (p.st.hr.split) ?_; rintro y z e1 hy hz)
  obtain ⟨x9, dx9, e9, us, k9, e2, rs⟩ := hz.one_inv
  have e3 : z = [(x9, listOf (preL ε (some 0) ++ us).toArray k9)] := by rw [e2]; show [(x9, listOf ([] ++ us).toArray k9)] = [(x9, listOf (ε.raw 0 ++ us).toArray k9)]; rw [hr]
  have H : HpR prog w ε W [(9, frO)] z := by
    have e5 : z = z ++ [] := by simp
    rw [e5]
    exact .cons e9 ⟨us, k9, e3, rs⟩ .nil
  exact ⟨p.ok, ⟨p.st.fr, p.st.lg, by rw [e1]; exact hy.append H, p.st.rb⟩, p.loc, p.fk⟩
theorem sim_alone0 {nm n tm pr ns} {q : Bool} (hlen : toks.length < 900) (hc : c.cs = pSc) (hs : nm = .u ∨ nm = .plus ∨ nm = .w ∨ nm = .q) (hn : D.atom nm = some n) (h : Rep prog w D O toks c kp₀ ims₀ ⟨[(if q then .qname nm else .name nm), .fin], [], 1200, tm, pr, ns, false⟩ s.heap m) :
    wpAny (model prog w) c.A (exec pIf c.env) (TurnQ prog w D O toks c kp₀ ims₀ s ⟨[.fin], [], 1200, some (.a n), 0, ns, true⟩) E s := by
  obtain ⟨ε, W, hl, os, pl, hdrop, hfl, hD, hV, hF, h20, h21, him, p⟩ := h
  (refine ex0_2 (drop_head hdrop) ?_; rintro h1 h2)
  (refine ex0_2 (drop_head h2) ?_; rintro h3 _)
  have h4 : ns.length ≤ 4 := hV.le4
  have hraw : ε.raw 0 = [] := by have := hF.len; exact List.length_eq_zero_iff.mp this
  have hn' : n = atN nm := by rcases hs with rfl | rfl | rfl | rfl <;> exact atN_of hD hn (by simp) (by simp)
  subst hn'
  refine turn_sim (ε := mkE ε O toks ns (by omega) (by omega) { pl := pl, lim := 1200, pr := pr, nx := ns.length }) (q_alone0 _ _ _ _ _ nm q hs) rfl rfl hc mkE_eq (fok_ft h1 (.inr ⟨_, rfl, h3⟩) hlen (dk_atom hD hn) ls_nil) rfl (toE hraw p) fun W' hl' m' h' tk' hw hρ p' => ⟨rfl, m', h', tk', rfl, ?_⟩
  exact ⟨ε, W', hl', os, pl + 1, h2, ⟨Nat.le_succ_of_le hfl.1, Nat.le_succ_of_le hfl.2.1, Nat.le_succ_of_le hfl.2.2⟩, hD, hV, hF.mono hw.ims, hρ 20 rfl, hρ 21 rfl, (him.trans hw), fromE hraw p'⟩
end
end
section
open PySem PySem.W PySem.Calls PyProof.Rows
section
variable {prog : Program} {w : World} {D : Sy} {O : Ops} {toks : List Tk} {c : Cx} {kp₀ : Led} {ims₀ : Wd} {E : Value → Shared → Prop} {s : Shared} {m : Str → Option Value}
/-- a dict of one kind of keys, its entries told by ε alone -/
theorem OR.rebase {ε : Eps} {W : Wd} {kd b : Nat} {ents : List (AKey × AV)} {x dx : Addr} {os : Led} (hk : kd < 2) (h : OR prog w ε W (.dict kd (some b) ents) x dx os) :
    ∃ g : AKey → Option Value, (∀ k, kindOfKey k = kd → Agree w ε W (some b) ents k (g k)) ∧ ∀ ε' : Eps, (∀ k, ε'.dct b k = g k) → ε.dlen b + ents.length ≤ ε'.dlen b → OR prog w ε' W (.dict kd (some b) []) x dx os := by
  obtain ⟨od, h1, h2, h3, h4⟩ := h
  have d := h4 kd (by omega) (.inl rfl)
  match kd, hk, d with
  | 0, _, ⟨kvs, d1, d2, d3⟩ =>
    refine mk1_2 (fun k => match k with | .s k => valueAt kvs k | _ => none) (fun k hk => ?_) (fun ε' he hl => ⟨od, h1, h2, h3, fun kd' a b' => ?_⟩)
    · cases k <;> first | exact d3 _ | injection hk
    · rcases b' with rfl | b'
      · exact ⟨kvs, d1, Nat.le_trans d2 hl, fun k => by unfold Agree; simp only [lookK]; exact (he (.s k)).symm⟩
      · injection b'
  | 1, _, ⟨kvs, d1, d2, d3⟩ =>
    refine mk1_2 (fun k => match k with | .i k => valueAt kvs k | _ => none) (fun k hk => ?_) (fun ε' he hl => ⟨od, h1, h2, h3, fun kd' a b' => ?_⟩)
    · cases k <;> first | exact d3 _ | cases hk
    · rcases b' with rfl | b'
      · exact ⟨kvs, d1, Nat.le_trans d2 hl, fun k => by unfold Agree; simp only [lookK]; exact (he (.i k)).symm⟩
      · injection b'
/-- dicts 2 and 3 told anew -/
noncomputable def Eps.dct23 (ε : Eps) (g2 g3 : AKey → Option Value) (n2 n3 : Nat) (h2 : n2 ≤ 1000000) (h3 : n3 ≤ 1000000) : Eps :=
  { ε with
    dct := fun b k => if b = 2 then g2 k else if b = 3 then g3 k else ε.dct b k
    dlen := fun b => if b = 2 then n2 else if b = 3 then n3 else ε.dlen b
    dlen_le := fun b => by by_cases e : b = 2 <;> by_cases e' : b = 3 <;> simp [e, e', h2, h3, ε.dlen_le] }
/-- the tables of variables in canonical form -/
theorem rebase23 {ε : Eps} {W : Wd} {loc : List (Str × AV)} {P : AO} {nm : List AV} {en ec : List (AKey × AV)} {hl kp : Led} {h : Heap} (hl2 : cloA loc = true) (hP : P.clo = true) (hPs : ∀ ε', P.same ε ε') (hnm : AV.cloL nm = true) (hb2 : ε.dlen 2 + en.length ≤ 1000000) (hb3 : ε.dlen 3 + ec.length ≤ 1000000)
    (p : Pre prog w ε {} 60 c W ⟨loc, (0, P) :: (comC O ++ (varN nm en ec ++ [(9, frO)])), 40⟩ hl kp h m) :
    ∃ (g2 g3 : AKey → Option Value), (∀ k, kindOfKey k = 0 → Agree w ε W (some 2) en k (g2 k)) ∧ (∀ k, kindOfKey k = 1 → Agree w ε W (some 3) ec k (g3 k)) ∧
      Pre prog w (ε.dct23 g2 g3 _ _ hb2 hb3) {} 60 c W ⟨loc, (0, P) :: (comC O ++ (varN nm [] [] ++ [(9, frO)])), 40⟩ hl kp h m := by
  have H := p.st.hr
  cases H with
  | @cons _ _ x0 dx0 os0 _ hl0 a0 b0 H =>
    (refine ex2_3 (H.split) ?_; rintro y z e1 hy hz)
    cases hz with
    | @cons _ _ x10 dx10 os10 _ hl10 a10 b10 H =>
      cases H with
      | @cons _ _ x11 dx11 os11 _ hl11 a11 b11 H =>
        cases H with
        | @cons _ _ x12 dx12 os12 _ hl12 a12 b12 H =>
          cases H with
          | @cons _ _ x9 dx9 os9 _ hl9 a9 b9 H9 =>
            (refine ex1_2 (OR.rebase (by decide) b10) ?_; rintro g2 q1 q2)
            (refine ex1_2 (OR.rebase (by decide) b12) ?_; rintro g3 r1 r2)
            refine ⟨g2, g3, q1, r1, p.ok, ⟨p.st.fr, p.st.lg, ?_, p.st.rb⟩, p.loc.chg hl2, fok0⟩
            have hcom : sameH ε (ε.dct23 g2 g3 _ _ hb2 hb3) (comC O) := ⟨trivial, fun b hb => by cases hb; exact ⟨fun _ => rfl, rfl⟩, fun b hb => (by cases hb; exact ⟨fun _ => rfl, rfl⟩), trivial, fun b hb => (nomatch hb), fun b hb => (nomatch hb), fun b hb => (nomatch hb), trivial⟩
            subst e1
            refine .cons a0 (b0.chg hP (hPs _)) (HpR.append (hy.chg rfl hcom) (.cons a10 (q2 _ (fun k => rfl) (Nat.le_refl _)) (.cons a11 (OR.chg (ε := ε) (ε' := ε.dct23 g2 g3 _ _ hb2 hb3) hnm (show preL ε none = preL (ε.dct23 g2 g3 _ _ hb2 hb3) none from rfl) b11) (.cons a12 (r2 _ (fun k => rfl) (Nat.le_refl _)) (.cons a9 (OR.chg (ε := ε) (ε' := ε.dct23 g2 g3 _ _ hb2 hb3) rfl (show preL ε (some 0) = preL (ε.dct23 g2 g3 _ _ hb2 hb3) (some 0) from rfl) b9) (H9.chg rfl trivial))))))
theorem lookK_one (k k' : AKey) (v : AV) : lookK [(k, v)] k' = if k.beq k' = true then some v else none := by
  simp only [lookK]
theorem DictOk.d23 {ε : Eps} (h : DictOk ε D) {g2 g3 n2 n3 h2 h3} : DictOk (ε.dct23 g2 g3 n2 n3 h2 h3) D := ⟨h.atom, h.lit, h.fn, h.comma⟩
theorem vnS_inj {a b : Nat} (ha : a < 4) (hb : b < 4) (h : Str.ofString (vnS a) = Str.ofString (vnS b)) : a = b := by
  have key : ∀ a b : Nat, a < 4 → b < 4 → sB (Str.ofString (vnS a)) (Str.ofString (vnS b)) = true → a = b := by
    intro a b ha hb
    match a, b, ha, hb with
    | 0, 0, _, _ | 1, 1, _, _ | 2, 2, _, _ | 3, 3, _, _ => intro _; rfl
    | 0, 1, _, _ | 0, 2, _, _ | 0, 3, _, _ | 1, 0, _, _ | 1, 2, _, _ | 1, 3, _, _ | 2, 0, _, _ | 2, 1, _, _ | 2, 3, _, _ | 3, 0, _, _ | 3, 1, _, _ | 3, 2, _, _ => intro h; exact absurd h (by decide +kernel)
    | a + 4, _, h, _ => omega
    | _, b + 4, _, h => omega
  exact key a b ha hb (by rw [h]; exact sB_self _)
theorem sim_seen {k r fs lim tm pr ns} (hlen : toks.length < 900) (hc : c.cs = pSc) (hk : k < 4) (hm : k ∈ ns) (h : Rep prog w D O toks c kp₀ ims₀ ⟨.var k :: r, fs, lim, tm, pr, ns, false⟩ s.heap m) :
    wpAny (model prog w) c.A (exec pIf c.env) (TurnQ prog w D O toks c kp₀ ims₀ s ⟨r, fs, lim, some (.v (ns.idxOf k)), 0, ns, true⟩) E s := by
  obtain ⟨ε, W, hl, os, pl, hdrop, hfl, hD, hV, hF, h20, h21, him, p⟩ := h
  (refine ex0_2 (drop_head hdrop) ?_; rintro h1 h2)
  have hpl := (List.getElem?_eq_some_iff.mp h1).1
  have h4 : ns.length ≤ 4 := hV.le4
  have hj : ns.idxOf k < ns.length := List.idxOf_lt_length_of_mem hm
  (refine ex1_1 (hV.seen k hm) ?_; rintro t ht)
  (refine ex2_1 (hV.cnt _ hj) ?_; rintro v t' ht')
  have d1 := hfl.2.1
  have d2 := hfl.2.2
  refine turn_sim (ε := mkE ε O toks ns (by omega) (by omega) { pl := pl, lim := lim, pr := pr, nx := ns.length, cnt := v }) (q_seen _ _ _ _ _ k (ns.idxOf k) hk (by omega)) rfl rfl hc mkE_eq (fok_ft h1 (.inl rfl) hlen (fun b k' r' hm' => ?_) ls_nil) (sub0 { pl := pl, lim := lim, pr := pr, nx := ns.length, cnt := v } 0).symm p fun W' hl' m' h' tk' hw hρ p' => ⟨rfl, m', h', tk', rfl, ?_⟩
  · simp only [List.mem_cons, List.not_mem_nil, or_false, Prod.mk.injEq] at hm'
    rcases hm' with ⟨rfl, rfl, rfl⟩ | ⟨rfl, rfl, rfl⟩
    · exact mk1_2 _ ht (.int (.lit _) t)
    · exact mk1_2 _ ht' (.int (.sym 13) t')
  · have e1 : AV.cloL (tkVs 0 toks ++ []) = true := by rw [List.append_nil]; exact tkVs_clo 0 toks
    have e2 : AV.cloL (nmVs 0 ns ++ []) = true := by rw [List.append_nil]; exact nmVs_clo 0 ns
    have p2 : Pre prog w ε {} 60 c W' ⟨locA 1, (0, parC toks lim 0 ns.length (pl + 1) (Tm.v (ns.idxOf k)).av) :: (comC O ++ (varN (nmVs 0 ns ++ []) [] [(.i (ns.idxOf k : Int), .int (.lit (v + 1)))] ++ [(9, frO)])), 40⟩ hl' (os ++ kp₀) h' m' := p'
    have hb2 : ε.dlen 2 + ([] : List (AKey × AV)).length ≤ 1000000 := by simp; omega
    have hb3 : ε.dlen 3 + [((AKey.i (ns.idxOf k : Int)), AV.int (.lit (v + 1)))].length ≤ 1000000 := by simp; omega
    (refine ex2_3 (rebase23 (P := parC toks lim 0 ns.length (pl + 1) (Tm.v (ns.idxOf k)).av) rfl (by simp only [AO.clo, parC, cloA, g1, AV.clo, e1]; rfl) (fun _ => trivial) e2 hb2 hb3 p2) ?_; rintro g2 g3 a2 a3 p3)
    refine ⟨ε.dct23 g2 g3 _ _ hb2 hb3, W', hl', os, pl + 1, h2, ⟨Nat.le_succ_of_le hfl.1, Nat.le_succ_of_le d1, Nat.succ_le_succ d2⟩, hD.d23, ⟨hV.nd, hV.lt, fun k1 hk1 => ?_, fun k1 hk1 hn1 => ?_, fun j1 hj1 => ?_, fun j1 hj1 => ?_⟩, hF.mono hw.ims, hρ 20 rfl, hρ 21 rfl, (him.trans hw), p3⟩
    · have := a2 (.s (Str.ofString (vnS k1))) rfl
      (refine ex1_1 (hV.seen k1 hk1) ?_; rintro t1 ht1)
      exact ⟨t1, (show g2 _ = _ from this).trans ht1⟩
    · have := a2 (.s (Str.ofString (vnS k1))) rfl
      exact (show g2 _ = _ from this).trans (hV.new k1 hk1 hn1)
    · have := a3 (.i (j1 : Int)) rfl
      unfold Agree at this
      rw [lookK_one] at this
      split at this
      · rename_i vv q
        (refine ex1_2 (this) ?_; rintro u hu ru)
        split at q
        · cases q
          obtain ⟨t2, rfl⟩ := ru.toInt
          exact mk2_1 _ _ hu
        · exact nos q
      · (refine ex2_1 (hV.cnt j1 hj1) ?_; rintro v1 t1 ht1)
        exact mk2_1 v1 t1 ((show g3 _ = _ from this).trans ht1)
    · have := a3 (.i (j1 : Int)) rfl
      unfold Agree at this
      rw [lookK_one] at this
      have hne : ¬ (AKey.i (ns.idxOf k : Int)).beq (.i (j1 : Int)) = true := fun q => by
        have := AKey.beq_eq q
        have h7 : ((ns.idxOf k : Nat) : Int) = (j1 : Int) := by simpa using this
        have h6 : ns.idxOf k = j1 := by omega
        have : ns.length ≤ j1 := hj1
        omega
      rw [if_neg hne] at this
      exact (show g3 _ = _ from this).trans (hV.cnt0 j1 hj1)
theorem sim_new {k r fs lim tm pr ns} (hlen : toks.length < 900) (hc : c.cs = pSc) (hk : k < 4) (hm : k ∉ ns) (h : Rep prog w D O toks c kp₀ ims₀ ⟨.var k :: r, fs, lim, tm, pr, ns, false⟩ s.heap m) :
    wpAny (model prog w) c.A (exec pIf c.env) (TurnQ prog w D O toks c kp₀ ims₀ s ⟨r, fs, lim, some (.v ns.length), 0, ns ++ [k], true⟩) E s := by
  obtain ⟨ε, W, hl, os, pl, hdrop, hfl, hD, hV, hF, h20, h21, him, p⟩ := h
  (refine ex0_2 (drop_head hdrop) ?_; rintro h1 h2)
  have hpl := (List.getElem?_eq_some_iff.mp h1).1
  have hVnd : ns.Nodup := hV.nd
  have hVlt : ∀ k ∈ ns, k < 4 := hV.lt
  have nd' : (ns ++ [k]).Nodup := List.nodup_append.mpr ⟨hVnd, by simp, fun a ha b hb e => by
    have : b = k := by simpa using hb
    exact hm (this ▸ e ▸ ha)⟩
  have lt' : ∀ a ∈ ns ++ [k], a < 4 := fun a ha => by
    rcases List.mem_append.mp ha with ha | ha
    · exact hVlt a ha
    · have : a = k := by simpa using ha
      omega
  have h4 : ns.length < 4 := by have := nodup_lt 4 _ nd' lt'; rw [List.length_append] at this; simp at this; omega
  have d1 := hfl.2.1
  have d2 := hfl.2.2
  refine turn_sim (ε := mkE ε O toks ns (by omega) (by omega) { pl := pl, lim := lim, pr := pr, nx := ns.length }) (q_new _ _ _ _ _ k ns.length hk h4) rfl rfl hc mkE_eq (fok_ft h1 (.inl rfl) hlen (fun b k' r' hm' => ?_) ls_nil) rfl p fun W' hl' m' h' tk' hw hρ p' => ⟨rfl, m', h', tk', rfl, ?_⟩
  · simp only [List.mem_cons, List.not_mem_nil, or_false, Prod.mk.injEq] at hm'
    rcases hm' with ⟨rfl, rfl, rfl⟩ | ⟨rfl, rfl, rfl⟩
    · exact hV.new k hk hm
    · exact hV.cnt0 ns.length (Nat.le_refl _)
  · have e1 : AV.cloL (tkVs 0 toks ++ []) = true := by rw [List.append_nil]; exact tkVs_clo 0 toks
    have e0 : nmVs 0 ns ++ [nmV ns.length k] = nmVs 0 (ns ++ [k]) ++ [] := by rw [List.append_nil, nmVs_snoc, Nat.zero_add]
    have e2 : AV.cloL (nmVs 0 (ns ++ [k]) ++ []) = true := by rw [List.append_nil]; exact nmVs_clo 0 (ns ++ [k])
    have eL : (ns ++ [k]).length = ns.length + 1 := by simp
    have p2 : Pre prog w ε {} 60 c W' ⟨locA 1, (0, parC toks lim 0 ((ns.length : Int) + 1) (pl + 1) (Tm.v ns.length).av) :: (comC O ++ (varN (nmVs 0 ns ++ [nmV ns.length k]) [(.s (Str.ofString (vnS k)), .int (.lit (ns.length : Int)))] [(.i (ns.length : Int), .int (.lit 1))] ++ [(9, frO)])), 40⟩ hl' (os ++ kp₀) h' m' := p'
    rw [e0] at p2
    have hb2 : ε.dlen 2 + [((AKey.s (Str.ofString (vnS k))), AV.int (.lit (ns.length : Int)))].length ≤ 1000000 := by simp; omega
    have hb3 : ε.dlen 3 + [((AKey.i (ns.length : Int)), AV.int (.lit 1))].length ≤ 1000000 := by simp; omega
    (refine ex2_3 (rebase23 (P := parC toks lim 0 ((ns.length : Int) + 1) (pl + 1) (Tm.v ns.length).av) rfl (by simp only [AO.clo, parC, cloA, g1, AV.clo, e1]; rfl) (fun _ => trivial) e2 hb2 hb3 p2) ?_; rintro g2 g3 a2 a3 p3)
    refine ⟨ε.dct23 g2 g3 _ _ hb2 hb3, W', hl', os, pl + 1, h2, ⟨Nat.le_succ_of_le hfl.1, Nat.succ_le_succ d1, Nat.succ_le_succ d2⟩, hD.d23, ⟨nd', lt', fun k1 hk1 => ?_, fun k1 hk1 hn1 => ?_, fun j1 hj1 => ?_, fun j1 hj1 => ?_⟩, hF.mono hw.ims, hρ 20 rfl, hρ 21 rfl, (him.trans hw), ?_⟩
    · have := a2 (.s (Str.ofString (vnS k1))) rfl
      unfold Agree at this
      rw [lookK_one] at this
      split at this
      · rename_i vv q
        (refine ex1_2 (this) ?_; rintro u hu ru)
        split at q
        · rename_i qb
          have qe := AKey.beq_eq qb
          have : k = k1 := vnS_inj hk (lt' k1 hk1) (by simpa using qe)
          subst this
          (refine som1 q ?_; rintro rfl)
          (refine ex1_1 (ru.toInt) ?_; rintro t2 rfl)
          refine ⟨t2, ?_⟩
          have : (ns ++ [k]).idxOf k = ns.length := by rw [List.idxOf_append, if_neg hm]; simp
          rw [this]
          exact hu
        · exact nos q
      · rename_i q
        split at q
        · injection q
        · rename_i qb
          have hk1' : k1 ∈ ns := by
            rcases List.mem_append.mp hk1 with ha | ha
            · exact ha
            · have : k1 = k := by simpa using ha
              subst this
              exact absurd (AKey.beq_self _) qb
          (refine ex1_1 (hV.seen k1 hk1') ?_; rintro t1 ht1)
          refine ⟨t1, ?_⟩
          rw [List.idxOf_append, if_pos hk1']
          exact (show g2 _ = _ from this).trans ht1
    · have := a2 (.s (Str.ofString (vnS k1))) rfl
      unfold Agree at this
      rw [lookK_one] at this
      have hn2 : k1 ∉ ns := fun q => hn1 (List.mem_append_left _ q)
      have hne : ¬ (AKey.s (Str.ofString (vnS k))).beq (.s (Str.ofString (vnS k1))) = true := fun q => by
        have qe := AKey.beq_eq q
        have : k = k1 := vnS_inj hk hk1 (by simpa using qe)
        subst this
        exact hn1 (by simp)
      rw [if_neg hne] at this
      exact (show g2 _ = _ from this).trans (hV.new k1 hk1 hn2)
    · have := a3 (.i (j1 : Int)) rfl
      unfold Agree at this
      rw [lookK_one] at this
      split at this
      · rename_i vv q
        (refine ex1_2 (this) ?_; rintro u hu ru)
        split at q
        · cases q
          obtain ⟨t2, rfl⟩ := ru.toInt
          exact mk2_1 _ _ hu
        · exact nos q
      · rename_i q
        split at q
        · injection q
        · rename_i qb
          have hj2 : j1 < ns.length := by
            have hj3 : j1 < ns.length + 1 := eL ▸ (show j1 < (ns ++ [k]).length from hj1)
            have : j1 ≠ ns.length := fun e => by subst e; exact qb (AKey.beq_self _)
            omega
          (refine ex2_1 (hV.cnt j1 hj2) ?_; rintro v1 t1 ht1)
          exact mk2_1 v1 t1 ((show g3 _ = _ from this).trans ht1)
    · have := a3 (.i (j1 : Int)) rfl
      unfold Agree at this
      rw [lookK_one] at this
      have hne : ¬ (AKey.i (ns.length : Int)).beq (.i (j1 : Int)) = true := fun q => by
        have := AKey.beq_eq q
        have h7 : ((ns.length : Nat) : Int) = (j1 : Int) := by simpa using this
        have h6 : ns.length = j1 := by omega
        have hj2 : ns.length + 1 ≤ j1 := eL ▸ (show (ns ++ [k]).length ≤ j1 from hj1)
        omega
      rw [if_neg hne] at this
      have hj2 : ns.length + 1 ≤ j1 := eL ▸ (show (ns ++ [k]).length ≤ j1 from hj1)
      exact (show g3 _ = _ from this).trans (hV.cnt0 j1 (Nat.le_of_succ_le hj2))
    · have e7 : (((ns ++ [k]).length : Nat) : Int) = (ns.length : Int) + 1 := by rw [eL]; rfl
      show Pre prog w (ε.dct23 g2 g3 _ _ hb2 hb3) {} 60 c W' ⟨locA 1, (0, parC toks lim 0 ((ns ++ [k]).length : Nat) (pl + 1) (Tm.v ns.length).av) :: (comC O ++ (varN (nmVs 0 (ns ++ [k]) ++ []) [] [] ++ [(9, frO)])), 40⟩ hl' (os ++ kp₀) h' m'
      rw [e7]
      exact p3
end
end
section
open PySem PySem.W PySem.Calls PyProof.Rows
section
variable {prog : Program} {w : World} {D : Sy} {O : Ops} {toks : List Tk} {c : Cx} {kp₀ : Led} {ims₀ : Wd} {E : Value → Shared → Prop} {s : Shared} {m : Str → Option Value}
/-- the parser is done -/
inductive RepE (prog : Program) (w : World) (D : Sy) (O : Ops) (toks : List Tk) (c : Cx) (kp₀ : Led) (ims₀ : Wd) (x : Tm) (pr : Int) (ns : List Nat) (h : Heap) (m : Str → Option Value) : Prop
  | mk (ε : Eps) (W : Wd) (hl : Led) (lim : Int) (pl : Nat) (hp : toks[pl]? = some .fin) (hD : DictOk ε D) (hV : VarOk ε ns) (hr : ε.raw 0 = [])
    (him : KpLe ims₀ W) (p : Pre prog w ε {} 60 c W ⟨locA 2, baseC toks O lim pr ns pl x.av ++ [(9, frE)], 40⟩ hl kp₀ h m)
theorem sim_end {lim x pr ns} (hlen : toks.length < 900) (hc : c.cs = pSc) (h : Rep prog w D O toks c kp₀ ims₀ ⟨[.fin], [], lim, some x, pr, ns, true⟩ s.heap m) :
    wpAny (model prog w) c.A (exec pIf c.env) (fun f s' => f = .next ∧ ∃ m' h' tk', s' = { s with heap := h', toks := tk' } ∧ RepE prog w D O toks c kp₀ ims₀ x pr ns h' m') E s := by
  obtain ⟨ε, W, hl, os, pl, hdrop, hfl, hD, hV, hF, h20, h21, him, p⟩ := h
  (refine ex0_2 (drop_head hdrop) ?_; rintro h1 h2)
  have h4 : ns.length ≤ 4 := hV.le4
  have hraw : ε.raw 0 = [] := by generalize hr : ε.raw 0 = rw at hF; cases hF; rfl
  have hos : os = [] := by generalize hr : ε.raw 0 = rw at hF; cases hF; rfl
  subst hos
  refine turn_sim (ε := mkE ε O toks ns (by omega) (by omega) { pl := pl, lim := lim, pr := pr, nx := ns.length, t0 := x }) (q_end _ _ _ _ _) rfl rfl hc mkE_eq (fok_ft h1 (.inl rfl) hlen dk_nil ls_nil) rfl (toE hraw p) fun W' hl' m' h' tk' hw hρ p' => ⟨rfl, m', h', tk', rfl, ?_⟩
  exact ⟨ε, W', hl', lim, pl, h1, hD, hV, hraw, (him.trans hw), p'⟩
theorem sim_step {a b : Cf} (hO : O.Ok) (hlen : toks.length < 900) (hc : c.cs = pSc) (st : Stp D O a b) (h : Rep prog w D O toks c kp₀ ims₀ a s.heap m) :
    wpAny (model prog w) c.A (exec pIf c.env) (TurnQ prog w D O toks c kp₀ ims₀ s b) E s := by
  cases st with
  | int => exact sim_int hlen hc h
  | @var k r fs lim tm pr ns hk =>
    by_cases hm : k ∈ ns
    · have e : ext1 ns k = ns := by unfold ext1; rw [if_pos hm]
      rw [e]
      exact sim_seen hlen hc hk hm h
    · have e : ext1 ns k = ns ++ [k] := by unfold ext1; rw [if_neg hm]
      have e2 : (ns ++ [k]).idxOf k = ns.length := by rw [List.idxOf_append, if_neg hm]; simp
      rw [e, e2]
      exact sim_new hlen hc hk hm h
  | c hn ht => exact sim_c hlen hc hn ht h
  | alone hs hn => exact sim_alone hlen hc hs hn h
  | alone0 hs hn => exact sim_alone0 hlen hc hs hn h
  | round => exact sim_round hlen hc h
  | preU hn hf hs => exact sim_preU hO hlen hc hn hf hs h
  | preP hn hf hs => exact sim_preP hO hlen hc hn hf hs h
  | lb hs => exact sim_lb hlen hc hs h
  | lc hs => exact sim_lc hlen hc hs h
  | call hs hn => exact sim_call hlen hc hs hn h
  | red1 ht => exact sim_red1 hlen hc ht h
  | red2 ht => exact sim_red2 hlen hc ht h
  | clr => exact sim_clr hlen hc h
  | clc => exact sim_clc hlen hc h
  | cll => exact sim_cll hlen hc h
  | cll2 => exact sim_cll2 hlen hc h
  | clt => exact sim_clt hlen hc h
  | cla1 hn hf => exact sim_cla1 hlen hc hn hf h
  | cla2 hs hn hf => exact sim_cla2 hlen hc hs hn hf h
  | sepl => exact sim_sepl hlen hc h
  | sepa => exact sim_sepa hlen hc h
  | sept => exact sim_sept hlen hc h
  | infW hn hf => exact sim_infW hO hlen hc hn hf h
  | infP hn hf => exact sim_infP hO hlen hc hn hf h
  | comma => exact sim_comma hlen hc h
  | post hn hf => exact sim_post hO hlen hc hn hf h
end
end
section
open PySem PySem.W PySem.Calls PyProof.Rows
/-! a list of statements run by the executor, then tidied -/
noncomputable def blkS (F : Facts) (n : Nat) (sc : Scope) (body : List Stmt) (sel : List (Nat × Nat)) (fz : List (Nat × List AV)) (xs : List Str) (σ : AS) : Option (List (Str × AV) × List (Nat × AO)) :=
  bi (exs (xRun F n) sc body σ) fun fl σ' => gd (isNext fl) (bo (selL (gOf sel fz) (pOf sel fz) xs σ'.loc) fun loc' => bo (selH (gOf sel fz) (pOf sel fz) sel σ'.hp) fun hp' => some (loc', hp'))
section
variable {prog : Program} {w : World} {ε : Eps} {F : Facts} {n : Nat} {c : Cx} {W : Wd} {σ : AS} {hl kp : Led} {m : Str → Option Value} {E : Value → Shared → Prop} {s : Shared} {sc : Scope}
theorem exs_then {ih : Ih} (S : Snd prog w ε F n ih) (hc : c.cs = sc) {σ' : AS} {rest : List Stmt} {body : List Stmt} : ∀ {σ : AS} {W : Wd} {hl kp : Led} {s : Shared} {m : Str → Option Value} {Q : Flow → Shared → Prop},
    exs ih sc body σ = some (.next, σ') → Pre prog w ε F n c W σ hl kp s.heap m → After prog w ε F n c W kp s σ' (fun _ s' => wpAny (model prog w) c.A (execs rest c.env) Q E s') → wpAny (model prog w) c.A (execs (body ++ rest) c.env) Q E s := by
  induction body with
  | nil =>
    intro σ W hl kp s m Q e p k
    refine som2 e fun _ h2 => ?_
    rw [← h2] at k
    exact p.done k s.toks
  | cons x r ih =>
    intro σ W hl kp s m Q e p k
    refine biE e fun fl σ₁ e1 e => ?_
    rcases fl with _ | v
    · refine wpAny_execs_cons (S.s _ _ _ _ _ (runS_eq e1) c W hl kp s m _ _ hc p fun W' hl' m' h' tk' hw p' f rf => ?_)
      rw [show f = .next from rf]
      exact ih (s := { s with heap := h', toks := tk' }) e p' fun W'' hl'' m'' h'' tk'' hw' p'' => k W'' hl'' m'' h'' tk'' (hw.trans hw') p''
    · exact som2 e fun h _ => AFl.noConfusion h
theorem blk_run {body rest : List Stmt} {sel : List (Nat × Nat)} {xs : List Str} {loc' : List (Str × AV)} {hp' : List (Nat × AO)} {Q : Flow → Shared → Prop} (e : blkS F n sc body sel [] xs σ = some (loc', hp')) (hs : selOk sel = true) (hc : c.cs = sc) (p : Pre prog w ε F n c W σ hl kp s.heap m)
    (k : ∀ W' hl' m' h' tk', W.Le W' → Pre prog w ε {} n c (W'.selW sel) ⟨loc', hp', 40⟩ hl' kp h' m' → wpAny (model prog w) c.A (execs rest c.env) Q E { s with heap := h', toks := tk' }) : wpAny (model prog w) c.A (execs (body ++ rest) c.env) Q E s :=
  biE e fun fl σ' e1 e => gdE e fun hn e => boE e fun l1 e2 e => boE e fun h1 e3 e => som2 e fun h4 h5 => by
    rw [isNext_inv hn] at e1
    rw [h4] at e2; rw [h5] at e3
    exact exs_then (snd_run prog w ε F n) hc e1 p fun W' hl' m' h' tk' hw p' => ex1_1 (p'.tidy (F' := {}) sel [] xs 40 e3 e2 hs rfl (fun _ h => nomatch h) fok0) fun hl'' p'' => k W' hl'' m' h' tk' hw p''
theorem selW_kp {sel : List (Nat × Nat)} {W' : Wd} (hid : selId sel = true) (hw : W.Le W') : KpLe W (W'.selW sel) := ⟨hw.ims, fun l y e1 e2 => by show (lookN sel l).bind _ = _; rw [selId_ok hid e1]; exact hw.ρ l y e2⟩
theorem selW_none {sel : List (Nat × Nat)} {W' : Wd} {l : Nat} (h : lookN sel l = none) : (W'.selW sel).ρ l = none := by show (lookN sel l).bind _ = none; rw [h]; rfl
theorem blk_sim {ε₀ : Eps} {F₀ : Facts} {σ₀ : AS} {body rest : List Stmt} {sel : List (Nat × Nat)} {xs : List Str} {loc' : List (Str × AV)} {hp' : List (Nat × AO)} {Q : Flow → Shared → Prop}
    (e : blkS F n sc body sel [] xs σ = some (loc', hp')) (hs : selOk sel = true) (hc : c.cs = sc) (q : EqR ε ε₀) (fk : FOk w ε F W) (es : σ₀ = σ.sub ε) (p : Pre prog w ε₀ F₀ n c W σ₀ hl kp s.heap m)
    (k : ∀ W' hl' m' h' tk', W.Le W' → Pre prog w ε₀ {} n c (W'.selW sel) ⟨subA ε loc', subH ε hp', 40⟩ hl' kp h' m' → wpAny (model prog w) c.A (execs rest c.env) Q E { s with heap := h', toks := tk' }) : wpAny (model prog w) c.A (execs (body ++ rest) c.env) Q E s :=
  blk_run e hs hc (Pre.opn q fk es p) fun W' hl' m' h' tk' hw p' => k W' hl' m' h' tk' hw (p'.close q fok0)
/-- a list of statements that ends in a return -/
theorem ret_run {ε₀ : Eps} {F₀ : Facts} {σ₀ σ' : AS} {body : List Stmt} {v : AV} {Q : Flow → Shared → Prop}
    (e : exs (xRun F n) sc body σ = some (.ret v, σ')) (hc : c.cs = sc) (q : EqR ε ε₀) (fk : FOk w ε F W) (es : σ₀ = σ.sub ε) (p : Pre prog w ε₀ F₀ n c W σ₀ hl kp s.heap m)
    (k : ∀ W' hl' m' h' tk' u, W.Le W' → R (Kw w) ε₀ W' (v.sub ε) u → Pre prog w ε₀ {} n c W' (σ'.sub ε) hl' kp h' m' → Q (.ret u) { s with heap := h', toks := tk' }) : wpAny (model prog w) c.A (execs body c.env) Q E s :=
  (snd_run prog w ε F n).exs hc e (Pre.opn q fk es p) fun W' hl' m' h' tk' hw p' f rf => by
    (refine ex1_2 (rf) ?_; rintro u rfl ru)
    exact k W' hl' m' h' tk' u hw ru.close (p'.close q fok0)
theorem Pre.forget {loc : List (Str × AV)} {hp : List (Nat × AO)} (h3 : labH pN hp = true) (h4 : labA pN loc = true) (p : Pre prog w ε F n c W ⟨loc, hp, 40⟩ hl kp s.heap m) :
    ∃ W' : Wd, KpLe W W' ∧ W'.ims = W.ims ∧ W'.ρ 20 = none ∧ W'.ρ 21 = none ∧ Pre prog w ε {} n c W' ⟨loc, hp, 40⟩ hl kp s.heap m := by
  have hρ : ∀ l q, pN l = true → W.ρ l = some q → (fun l => if p2 l = true then none else W.ρ l) l = some q := fun l q hl e => by
    show (if p2 l = true then none else W.ρ l) = some q
    have : p2 l = false := by unfold pN at hl; simpa using hl
    rw [if_neg (by rw [this]; simp)]; exact e
  refine ⟨⟨fun l => if p2 l = true then none else W.ρ l, W.ims⟩, ⟨fun _ z => z, fun l y e q => hρ l y (idSel_pN e) q⟩, rfl, rfl, rfl, p.ok, ⟨p.st.fr, p.st.lg, HpR.relab (W := W) (W' := ⟨fun l => if p2 l = true then none else W.ρ l, W.ims⟩) (p := pN) (fun _ _ q => q) hρ p.st.hr h3, fun l q e => ?_⟩, ?_, fok0⟩
  · have e' : (if p2 l = true then none else W.ρ l) = some q := e
    split at e'
    · exact nos e'
    · exact p.st.rb l q e'
  · intro xx v e
    (refine ex1_2 (p.loc xx v e) ?_; rintro u g1' g2')
    have hv : v.labs pN = true := by
      have e2 : look loc xx = some v := e
      clear e g1' g2' p h3 hρ
      induction loc with
      | nil => exact nos e2
      | cons q t ih =>
        obtain ⟨yy, a⟩ := q
        simp only [labA, Bool.and_eq_true] at h4
        unfold look at e2
        split at e2
        · (refine som1 e2 ?_; rintro rfl); exact h4.1
        · exact ih h4.2 e2
    have g3 := R.rel (W := W) (W' := ⟨fun l => if p2 l = true then none else W.ρ l, W.ims⟩) (g := AV.obj) (p := pN) (fun _ _ q => q) (fun l u hp r => by cases r with | obj e => exact .obj (hρ _ _ hp e)) g2' hv
    rw [AV.rel_id] at g3
    exact mk1_2 u g1' g3
end
/-! Parser.parse -/
section
variable {prog : Program} {w : World} {D : Sy} {O : Ops} {toks : List Tk} {c : Cx} {kp₀ : Led} {ims₀ : Wd} {E : Value → Shared → Prop} {s : Shared} {m : Str → Option Value}
noncomputable def pTwo : List Stmt := pBody.take 2
noncomputable def pRet : List Stmt := pBody.drop 3
theorem pBody_eq : ∃ pos, pBody = pTwo ++ (.While pTest [pIf] [] pos :: pRet) := ⟨_, rfl⟩
theorem q_start (tu tp tw ti tq : String) : blkS {} 60 pSc pTwo idSel [] [Str.ofString "self", Str.ofString "state"] ⟨[g1 "self" (.obj 0), g1 "most" (.int (.lit 1200))], (0, parA (.lit 1200) (.lit 0) (.lit 0) (.lit 0) .none) :: (comA tu tp tw ti tq ++ (varA [.sq 6] ++ [(9, frE)])), 40⟩ =
    some (locA 0, (0, parA (.lit 1200) (.lit 0) (.lit 0) (.lit 0) .none) :: (comA tu tp tw ti tq ++ (varA [.sq 6] ++ [(9, frE)]))) := by kernel_rfl
theorem q_test (st : Int) (hs : st = 0 ∨ st = 1 ∨ st = 2) (hp : List (Nat × AO)) : xRun {} 60 (.t pSc pTest) ⟨locA st, hp, 40⟩ = some (.b (Bool.not (Int.beq' st 2)), ⟨locA st, hp, 40⟩) := by
  rcases hs with rfl | rfl | rfl <;> kernel_rfl
theorem q_ret (tu tp tw ti tq : String) : exs (xRun {} 60) pSc pRet ⟨locA 2, (0, PG (.opq 0)) :: (comA tu tp tw ti tq ++ (varA [.sq 6] ++ [(9, frE)])), 40⟩ =
    some (.ret (.tup [.opq 0, .int (.sym 11)]), ⟨locA 2, (0, PG (.opq 0)) :: (comA tu tp tw ti tq ++ (varA [.sq 6] ++ [(9, frE)])), 40⟩) := by kernel_rfl
theorem locA_lab (st : Int) : labA pN (locA st) = true := rfl
theorem baseO_lab (lim pr : Int) (ns : List Nat) (pl : Nat) (tm : AV) (h1 : tm.clo = true) (h2 : tm.labs pN = true) {z : AO} (hz : z = frO ∨ z = frE) : labH pN (baseC toks O lim pr ns pl tm ++ [(9, z)]) = true := by
  have key : ∀ {a b : List (Nat × AO)}, labH pN a = true → labH pN b = true → labH pN (a ++ b) = true := by
    intro a
    induction a with
    | nil => intro b _ h; exact h
    | cons q r ih =>
      intro b h h'
      obtain ⟨l, o⟩ := q
      simp only [List.cons_append, labH, Bool.and_eq_true] at h ⊢
      exact ⟨h.1, ih h.2 h'⟩
  refine key (base_ok lim pr ns pl tm h1 h2).2.2 ?_
  rcases hz with rfl | rfl <;> rfl
theorem tmA_lab (b : Bool) (t : Option Tm) : (tmA b t).labs pN = true := by
  unfold tmA
  split
  · cases t with
    | none => rfl
    | some t => exact AV.labsL_mono t.lf
  · rfl
/-- the state after the test of the loop -/
theorem test_snd {hp : List (Nat × AO)} {st : Int} {ε : Eps} {W : Wd} {hl kp : Led} {Q : Bool → Shared → Prop} (hs : st = 0 ∨ st = 1 ∨ st = 2) (hc : c.cs = pSc) (hlab : labH pN hp = true) (p : Pre prog w ε {} 60 c W ⟨locA st, hp, 40⟩ hl kp s.heap m)
    (k : ∀ W' hl' m' h' tk', KpLe W W' → W'.ρ 20 = none → W'.ρ 21 = none → Pre prog w ε {} 60 c W' ⟨locA st, hp, 40⟩ hl' kp h' m' → Q (Bool.not (Int.beq' st 2)) { s with heap := h', toks := tk' }) :
    wpAny (model prog w) c.A (PySem.isTrue pTest c.env (eval pTest c.env)) Q E s := by
  refine (snd_run prog w ε {} 60).t _ _ _ _ _ (q_test st hs hp) c W hl kp s m Q E hc p fun W' hl' m' h' tk' hw p' => ?_
  (refine ex1_5 (Pre.forget (s := { s with heap := h', toks := tk' }) hlab (locA_lab st) p') ?_; rintro W2 h1 _ h2 h3 p2)
  exact k W2 hl' m' h' tk' (hw.kp.trans h1) h2 h3 p2
/-- the loop -/
inductive LoopI (prog : Program) (w : World) (D : Sy) (O : Ops) (toks : List Tk) (c : Cx) (kp₀ : Led) (ims₀ : Wd) (x : Tm) (pr lim : Int) (ns : List Nat) (s : Shared) : Nat → Shared → Prop
  | fin (h' : Heap) (tk' : Nat) (m' : Str → Option Value) (r : RepE prog w D O toks c kp₀ ims₀ x pr ns h' m') : LoopI prog w D O toks c kp₀ ims₀ x pr lim ns s 0 { s with heap := h', toks := tk' }
  | on (h' : Heap) (tk' : Nat) (m' : Str → Option Value) (k : Nat) (cf : Cf) (run : Run D O k cf ⟨[.fin], [], lim, some x, pr, ns, true⟩) (r : Rep prog w D O toks c kp₀ ims₀ cf h' m') : LoopI prog w D O toks c kp₀ ims₀ x pr lim ns s (k + 1) { s with heap := h', toks := tk' }
theorem loop_turn {Q : Flow → Shared → Prop} {x : Tm} {pr lim : Int} {ns : List Nat} {k : Nat} {cf : Cf} {h' : Heap} {tk' : Nat} {m' : Str → Option Value} (hO : O.Ok) (hlen : toks.length < 900) (hc : c.cs = pSc) (run : Run D O k cf ⟨[.fin], [], lim, some x, pr, ns, true⟩) (h : Rep prog w D O toks c kp₀ ims₀ cf h' m') :
    wpAny (model prog w) c.A (execs [pIf] c.env) (TurnOf (LoopI prog w D O toks c kp₀ ims₀ x pr lim ns s) (k + 1) Q) (fun _ _ => False) { s with heap := h', toks := tk' } := by
  cases run with
  | nil =>
    refine wpAny_execs_cons (wpAny_mono (sim_end (E := fun _ _ => False) (s := { s with heap := h', toks := tk' }) hlen hc h) (fun f s' z => ?_) (fun _ _ z => z))
    obtain ⟨rfl, m2, h2, tk2, rfl, r2⟩ := z
    exact wpAny_execs_nil ⟨0, by omega, .fin h2 tk2 m2 r2⟩
  | @cons k2 _ b _ st run2 =>
    refine wpAny_execs_cons (wpAny_mono (sim_step (E := fun _ _ => False) (s := { s with heap := h', toks := tk' }) hO hlen hc st h) (fun f s' z => ?_) (fun _ _ z => z))
    obtain ⟨rfl, m2, h2, tk2, rfl, r2⟩ := z
    exact wpAny_execs_nil ⟨k2 + 1, by omega, .on h2 tk2 m2 k2 b run2 r2⟩
theorem loop_snd {Q : Flow → Shared → Prop} {x : Tm} {pr lim : Int} {ns : List Nat} {k : Nat} {cf : Cf} (hO : O.Ok) (hlen : toks.length < 900) (hc : c.cs = pSc) (run : Run D O k cf ⟨[.fin], [], lim, some x, pr, ns, true⟩) (h : Rep prog w D O toks c kp₀ ims₀ cf s.heap m) {pos : Pos}
    (q : ∀ m' h' tk', RepE prog w D O toks c kp₀ ims₀ x pr ns h' m' → Q .next { s with heap := h', toks := tk' }) :
    wpAny (model prog w) c.A (exec (.While pTest [pIf] [] pos) c.env) Q (fun _ _ => False) s := by
  refine while_rule (LoopI prog w D O toks c kp₀ ims₀ x pr lim ns s) ?_ (k + 1) (.on s.heap s.toks m k cf run h)
  intro n s1 hI
  cases hI with
  | fin h1 tk1 m1 r =>
    obtain ⟨ε, W, hl, lim', pl, hdr, hD, hV, hraw, him, p⟩ := r
    refine test_snd (s := { s with heap := h1, toks := tk1 }) (.inr (.inr rfl)) hc (baseO_lab lim' pr ns pl x.av x.clo (AV.labsL_mono x.lf) (.inr rfl)) p fun W' hl' m' h' tk' hw _ _ p' => ?_
    rw [if_neg (by decide)]
    exact q m' h' tk' ⟨ε, W', hl', lim', pl, hdr, hD, hV, hraw, him.trans hw, p'⟩
  | on h1 tk1 m1 k1 cf1 run1 hR =>
    obtain ⟨ε, W, hl, os, pl, hdrop, hfl, hD, hV, hF, h20, h21, him, p⟩ := hR
    refine test_snd (s := { s with heap := h1, toks := tk1 }) (by cases cf1.opr <;> simp) hc (baseO_lab cf1.lim cf1.pr cf1.ns pl (tmA cf1.opr cf1.tm) (tmA_clo _ _) (tmA_lab _ _) (.inl rfl)) p fun W' hl' m' h' tk' hw g20 g21 p' => ?_
    have ht : (Bool.not (Int.beq' (if cf1.opr = true then 1 else 0) 2)) = true := by cases cf1.opr <;> rfl
    rw [if_pos ht]
    have hR' : Rep prog w D O toks c kp₀ ims₀ cf1 h' m' := ⟨ε, W', hl', os, pl, hdrop, hfl, hD, hV, hF.mono hw.ims, g20, g21, him.trans hw, p'⟩
    exact loop_turn hO hlen hc run1 hR'
/-- Parser.parse -/
theorem parse_call {loc : List (Str × AV)} {us : List Value} {ε : Eps} {W : Wd} {hl kp : Led} {Rr : Result → Shared → Prop} {x : Tm} {pr lim : Int} {ns : List Nat} {k : Nat} (hO : O.Ok) (hlen : toks.length < 900)
    (run : Run D O k ⟨toks, [], 1200, none, 0, [], false⟩ ⟨[.fin], [], lim, some x, pr, ns, true⟩) (hD : DictOk ε D) (hV : VarOk ε []) (hraw : ε.raw 0 = []) (h2 : ε.dlen 2 = 0) (h3 : ε.dlen 3 = 0)
    (p : Pre prog w ε {} 61 c W ⟨loc, baseC toks O 1200 0 [] 0 .none ++ [(9, frE)], 40⟩ hl kp s.heap m) (rl : Rl (Kw w) ε W [.obj 0, .int (.lit 1200)] us)
    (fin : ∀ ε' W' hl' (lim' : Int) (pl : Nat) h' tk' u, KpLe W W' → toks[pl]? = some .fin → DictOk ε' D → R (Kw w) ε' W' (.tup [x.av, .int (.lit pr)]) u → (∀ loc', LocR w ε' W' m loc' → Pre prog w ε' {} 61 c W' ⟨loc', baseC toks O lim' pr ns pl x.av ++ [(9, frE)], 40⟩ hl' kp h' m) → Rr (.ok (.ret u)) { s with heap := h', toks := tk' }) :
    codeAny (model prog w) c.A (.call (.ref 397) ⟨us, []⟩) Rr s := by
  have ef : ∃ nm ar d, fnOfAddr 397 = some (nm, ar, pBody, pSc, d) ∧ bindsOf (ar.args.map (·.arg)) [.obj 0, .int (.lit 1200)] d = some [g1 "self" (.obj 0), g1 "most" (.int (.lit 1200))] := mk3_2 _ _ _ rfl (by kernel_rfl)
  (refine ex3_2 (ef) ?_; rintro nm ar d e1 e2)
  refine call_hand (n := 60) e1 e2 p rl fun c' h₁ tk₁ m₁ hcs hmg hmb p1 => ?_
  (refine ex1_1 (pBody_eq) ?_; rintro pos eb2)
  rw [eb2]
  refine blk_sim (ε := mkE ε O toks [] (by omega) (by simp) { pl := 0, lim := 1200, pr := 0, nx := 0 }) (s := { s with heap := h₁, toks := tk₁ }) (q_start (tyS O.u.2) (tyS O.p.2) (tyS O.w.2) (tyS O.i.2) (tyS O.q.2)) rfl hcs mkE_eq fok0 rfl p1 fun W' hl' m4 h4 tk4 hw p' => ?_
  have p2 := p'.anyAttr (Str.ofString "term") (l := 0) (by rfl)
  have hR : Rep prog w D O toks c' kp W ⟨toks, [], 1200, none, 0, [], false⟩ h4 m4 := ⟨ε, W'.selW idSel, hl', [], 0, rfl, ⟨Nat.zero_le _, by rw [h2]; exact Nat.le_refl _, by rw [h3]; exact Nat.le_refl _⟩, hD, hV, by rw [hraw]; exact .nil, selW_none rfl, selW_none rfl, selW_kp rfl hw, fromE hraw p2⟩
  refine wpAny_execs_cons (loop_snd (s := { s with heap := h4, toks := tk4 }) hO hlen hcs run hR fun m5 h5 tk5 hE => ?_)
  obtain ⟨ε', W5, hl5, lim5, pl5, hpl5, hD5, hV5, hraw5, hkp5, p5⟩ := hE
  refine ret_run (ε := mkE ε' O toks ns (by omega) (by have h4 : ns.length ≤ 4 := hV5.le4; omega) { pl := pl5, lim := lim5, pr := pr, nx := ns.length, t0 := x }) (s := { s with heap := h5, toks := tk5 }) (q_ret (tyS O.u.2) (tyS O.p.2) (tyS O.w.2) (tyS O.i.2) (tyS O.q.2)) hcs mkE_eq fok0 rfl p5 fun W6 hl6 m6 h6 tk6 u hw6 ru p6 => ?_
  refine ⟨u, ε', {}, W6, hl6, _, m6, h6, tk6, .inl rfl, rfl, p6, fun fin' => fin ε' W6 hl6 lim5 pl5 h6 tk6 u (hkp5.trans hw6.kp) hpl5 hD5 ru fun loc' hl => fin' loc' hl⟩
/-! Parser.clause -/
noncomputable def cSc : Scope := match fnOfAddr 355 with
  | some (_, _, _, sc, _) => sc
  | none => default
noncomputable def cBody : List Stmt := match fnOfAddr 355 with
  | some (_, _, b, _, _) => b
  | none => []
noncomputable def cRest : List Stmt := cBody.drop 1
inductive CBody_eqI : Prop
  | mk (p1 p2 k tp p3 ap p4 pos apos : _)
    (h0 : ap.endLine = pos.line)
    (h1 : cBody = .Assign [.Tuple [.Name (Str.ofString "term") p1, .Name (Str.ofString "priority") p2] k tp] (.Call (.Attribute (.Name (Str.ofString "self") p3) (Str.ofString "parse") ap) [.Name (Str.ofString "CLAUSE_PRIORITY") p4] [] pos) apos :: cRest)
theorem cBody_eq : CBody_eqI := ⟨_, _, _, _, _, _, _, _, _, rfl, rfl⟩
theorem q_clause (tu tp tw ti tq : String) : ∃ σ', exs (xRun (ft1 .fin) 60) cSc cRest ⟨[g1 "self" (.obj 0), g1 "term" (.opq 0), g1 "priority" (.int (.sym 11))], (0, PG (.opq 0)) :: (comA tu tp tw ti tq ++ (varA [.sq 6] ++ [(9, frE)])), 40⟩ =
    some (.ret (.opq 0), σ') ∧ σ'.hp = (0, PG (.opq 0)) :: (comA tu tp tw ti tq ++ (varA [.sq 6] ++ [(9, frE)])) ∧ σ'.nx = 40 := by
  refine mk1_3 ⟨[g1 "self" (.obj 0), g1 "term" (.opq 0), g1 "priority" (.int (.sym 11)), g1 "token" (tkA .fin)], (0, PG (.opq 0)) :: (comA tu tp tw ti tq ++ (varA [.sq 6] ++ [(9, frE)])), 40⟩ ?_ rfl rfl
  kernel_rfl
theorem clause_call {loc : List (Str × AV)} {us : List Value} {ε : Eps} {W : Wd} {hl kp : Led} {Rr : Result → Shared → Prop} {x : Tm} {pr lim : Int} {ns : List Nat} {k : Nat} (hO : O.Ok) (hlen : toks.length < 900)
    (run : Run D O k ⟨toks, [], 1200, none, 0, [], false⟩ ⟨[.fin], [], lim, some x, pr, ns, true⟩) (hD : DictOk ε D) (hV : VarOk ε []) (hns : ns.length ≤ 4) (hraw : ε.raw 0 = []) (h2 : ε.dlen 2 = 0) (h3 : ε.dlen 3 = 0)
    (p : Pre prog w ε {} 62 c W ⟨loc, baseC toks O 1200 0 [] 0 .none ++ [(9, frE)], 40⟩ hl kp s.heap m) (rl : Rl (Kw w) ε W [.obj 0] us)
    (fin : ∀ ε' W' hl' (lim' : Int) (pl : Nat) h' tk' u, KpLe W W' → DictOk ε' D → R (Kw w) ε' W' x.av u → (∀ loc', LocR w ε' W' m loc' → Pre prog w ε' {} 62 c W' ⟨loc', baseC toks O lim' pr ns pl x.av ++ [(9, frE)], 40⟩ hl' kp h' m) → Rr (.ok (.ret u)) { s with heap := h', toks := tk' }) :
    codeAny (model prog w) c.A (.call (.ref 355) ⟨us, []⟩) Rr s := by
  have ef : ∃ nm ar d, fnOfAddr 355 = some (nm, ar, cBody, cSc, d) ∧ bindsOf (ar.args.map (·.arg)) [.obj 0] d = some [g1 "self" (.obj 0)] := mk3_2 _ _ _ rfl (by kernel_rfl)
  (refine ex3_2 (ef) ?_; rintro nm ar d e1 e2)
  refine call_hand (n := 61) e1 e2 p rl fun c' h₁ tk₁ m₁ hcs hmg hmb p1 => ?_
  obtain ⟨p1', p2', k0, tp, p3', ap, p4', pos, apos, hpos, eb⟩ := cBody_eq
  rw [eb]
  have S := snd_run prog w ε {} 60
  refine wpAny_execs_cons (Assign_Tuple (call_meth (s := { s with heap := h₁, toks := tk₁ }) rfl rfl (by show 1 < 30; omega) hpos (name_snd (v := .obj 0) (s := { s with heap := h₁, toks := tk₁ }) hcs (by kernel_rfl) p1 fun W2 hl2 m2 h2' tk2 hw2 p2 u ru pl => ?_)) (by unfold swapsWithSole; exact notComp rfl _ _ _) (notTup rfl _ _ _ _))
  (refine ex6_6 (p2.inst (l := 0) (by rfl) ru) ?_; rintro y dx es kk a b rfl rfl I ha hcl _)
  have mf := methOf_ok (P := w.params) (C := 517) (n := Str.ofString "parse") (f := 397) (by kernel_rfl)
  refine method_inst p2.st.fr p2.ok.kin I ((clsF_of hcl).get _) mf.find mf.fn (ha.none (by kernel_rfl)) ?_
  have ev : evs (xRun {} 60) cSc [.Name (Str.ofString "CLAUSE_PRIORITY") p4'] ⟨[g1 "self" (.obj 0)], baseC toks O 1200 0 [] 0 .none ++ [(9, frE)], 40⟩ = some ([.int (.lit 1200)], ⟨[g1 "self" (.obj 0)], baseC toks O 1200 0 [] 0 .none ++ [(9, frE)], 40⟩) := by kernel_rfl
  refine callWith_list (s := { s with heap := h2', toks := tk2 }) (P := fun h => (Kw w).In h) rfl (keeps_K mf.keep) (S.evs (s := { s with heap := h2', toks := tk2 }) hcs ev rfl p2 fun W3 hl3 m3 h3' tk3 hw3 p3 us rus => ⟨p3.kin, ?_⟩)
  (refine ex1_2 (rus.one) ?_; rintro uu rfl ru1)
  refine wpAny_call (parse_call (s := { s with heap := h3', toks := tk3 }) hO hlen run hD hV hraw h2 h3 p3 (.cons (ru.mono hw3) (.cons ru1 .nil)) fun ε4 W4 hl4 lim4 pl4 h4 tk4 u4 hw4 hpl4 hD4 ru4 fin4 => ?_)
  have l4 : LocR w ε4 W4 m3 [g1 "self" (.obj 0)] := fun z v hz => by
    (refine ex1_2 (p3.loc z v hz) ?_; rintro u' q1 q2)
    refine mk1_2 u' q1 ?_
    have : v = .obj 0 := by
      unfold look g1 at hz
      split at hz
      · (refine som1 hz ?_; rintro rfl); rfl
      · exact nos hz
    subst this
    cases q2 with
    | obj e => exact .obj (hw4.rho 0 _ rfl e)
  have p4 := fin4 _ l4
  refine unp_snd (s := { s with heap := h4, toks := tk4 }) (vs := [x.av, .int (.lit pr)]) (σ' := ⟨[g1 "self" (.obj 0), g1 "term" x.av, g1 "priority" (.int (.lit pr))], _, 40⟩) hcs (by rfl) (by rfl) ru4 p4 fun W5 hl5 m5 h5 tk5 hw5 p5 => ?_
  (refine ex1_3 (q_clause (tyS O.u.2) (tyS O.p.2) (tyS O.w.2) (tyS O.i.2) (tyS O.q.2)) ?_; rintro σ' q1 q2 q3)
  refine ret_run (n := 60) (ε := mkE ε4 O toks ns (by omega) (by omega) { pl := pl4, lim := lim4, pr := pr, nx := ns.length, t0 := x }) (s := { s with heap := h5, toks := tk5 }) q1 hcs mkE_eq (fok_ft1 hpl4 hlen) rfl (p5.le (by omega)) fun W6 hl6 m6 h6 tk6 u hw6 ru6 p6 => ?_
  have hkp : KpLe W W6 := (((hw2.trans hw3).kp.trans hw4).trans hw5.kp).trans hw6.kp
  have e6 : (σ'.sub (mkE ε4 O toks ns (by omega) (by omega) { pl := pl4, lim := lim4, pr := pr, nx := ns.length, t0 := x })).hp = baseC toks O lim4 pr ns pl4 x.av ++ [(9, frE)] := by
    obtain ⟨l', hp', nx'⟩ := σ'
    have : hp' = _ := q2
    subst this
    rfl
  refine ⟨u, ε4, {}, W6, hl6, _, m6, h6, tk6, .inl rfl, rfl, p6.up p5.ok, fun fin' => fin ε4 W6 hl6 lim4 pl4 h6 tk6 u hkp hD4 ru6 fun loc' hl => ?_⟩
  have p7 := fin' loc' hl
  obtain ⟨l', hp', nx'⟩ := σ'
  have h1 : hp' = _ := q2
  have h2 : nx' = 40 := q3
  subst h1
  subst h2
  exact p7
end
end
section
open PySem PySem.W PyProof.Rows
set_option maxHeartbeats 0
theorem said0 : Fast.tw9446332074065402090 PySem.Challenge.rw_sa0156_01 = true := by
  delta PySem.W.Fast.tw9446332074065402090
  iterate 18 refine Bool.and_eq_true_iff.mpr ⟨?_, by decide +kernel⟩
  delta PySem.W.Fast.tw17960256430627541270
  iterate 2 refine Bool.and_eq_true_iff.mpr ⟨?_, by decide +kernel⟩
  delta PySem.W.Fast.tw2436336058641802641
  iterate 13 refine Bool.and_eq_true_iff.mpr ⟨?_, by decide +kernel⟩
  decide +kernel
theorem said : PySem.Challenge.rw_sa0156_01.wellSaid = true := by
  have e : @OpenLaw.wellSaid = Fast.tw9446332074065402090 := Fast.te9446332074065402090
  rw [e]; exact said0
theorem prom : PySem.Challenge.rw_sa0156_01.row.toRowW.promised := by w_witness2
theorem ok0 : (chainsOk qv && opensWell PySem.Challenge.rw_sa0156_01.row.toRowW.prog && (frees PySem.Challenge.rw_sa0156_01.row.toRowW && PySem.Challenge.rw_sa0156_01.row.toRowW.within.isEmpty)) = true := by decide +kernel
noncomputable def lawDef : DefRec := ⟨Str.ofString "law", (match sAt 49 with | some (.FunctionDef _ a _ _ _ _ _ _ _ _) => a | _ => default), (match sAt 49 with | some (.FunctionDef _ _ b _ _ _ _ _ _ _) => b | _ => []), (match sAt 49 with | some (.FunctionDef _ _ _ _ _ _ sc _ _ _) => sc | _ => default), (match sAt 49 with | some (.FunctionDef _ _ _ _ _ _ _ _ _ p) => p | _ => default)⟩
theorem hdef0 : defOf qv (Str.ofString "law") = some (lawDef, []) := by kernel_rfl
theorem hdef1 : pw.theDef (Str.ofString "law") = some (lawDef.params, lawDef.body, lawDef.scope) := by kernel_rfl
theorem hdef2 : kwWritten? lawDef.params.kwonlyargs lawDef.params.kw_defaults = some [] := by kernel_rfl
theorem hd (call : WalkO qv lse (XL qv []) HK.says PySem.Challenge.rw_sa0156_01.row.toRowW lawDef [] fun f vs => PySem.call f vs) : PySem.Challenge.rw_sa0156_01.Holds := by
  refine holds_law said fun sd => ?_
  exact holds_open (q := qv) (loose := lse) (Xt := Xt0) (XP := XL qv []) (Yf := HK.obs) (Ya := HK.val) (YP := HK.says) (N := 7300) left0 HK.of HK.keeps
    (fun s e => xl_of s (Bool.and_eq_true_iff.mp e).1) XL.keeps hdef0 hdef1 hdef2 (fun s e => recFacts_of (Bool.and_eq_true_iff.mp e).2) rfl sd ok0 ⟨rfl, rfl, rfl, rfl, rfl, by decide +kernel⟩ prom call
end
section
open PySem PySem.W PySem.Calls PyProof.Rows
/-! the law -/
noncomputable def lSc : Scope := lawDef.scope
noncomputable def lwB (i n : Nat) : List Stmt := (lawDef.body.drop i).take n
noncomputable def eps0 : Eps := { int := fun _ => 0, pv := fun _ => [], sq := fun _ => [], raw := fun _ => [], dct := fun _ _ => none, dlen := fun _ => 0, sq_cl := fun _ => rfl, pv_cl := fun _ => rfl, sq_lf := fun _ => rfl, pv_lf := fun _ => rfl, sq_le := fun _ => Nat.zero_le _, raw_le := fun _ => Nat.zero_le _, dlen_le := fun _ => Nat.zero_le _ }
noncomputable def wd0 : Wd := ⟨fun _ => none, []⟩
noncomputable def nmN : Str := Str.ofString "names"
/-- an end of the law -/
noncomputable def LawEnd (c : Cx) (s : Shared) (f : Flow) (s' : Shared) : Prop := f = .ret (.bool true) ∧ ∃ h' tk' m', s' = { s with heap := h', toks := tk' } ∧ Fr c.h₀ c.L h' m'
noncomputable def LawSays : Prop := ∀ (prog : Program) (w : World) (s : Shared) (c : Cx) (l : Addr) (vs : List Value) (ns : List Int) (cell : Obj), c.cs = lSc → c.cl = [(nmN, c.L + 1)] → c.outer = [] →
  Pre prog w eps0 {} 100 c wd0 ⟨[g1 "script" .any], [], 0⟩ [] [(c.L + 1, cell)] s.heap (fun y => if y = Str.ofString "script" then some (.ref l) else none) → c.h₀.IsList l vs.toArray → IntsAre vs ns → ns.length ≤ 63 → cell.data = .cell none →
  wpAny (model prog w) c.A (execs lawDef.body c.env) (LawEnd c s) (fun _ _ => False) s
theorem bindL1 {k : Str → Option NameKind} {x : Str} {v : Value} (h : k x = some .local) : bindL k [(x, v)] (fun _ => none) = fun y => if y = x then some v else none := by simp [bindL, h]
theorem bindC1 {k : Str → Option NameKind} {x : Str} {v : Value} (h : k x = some .local) : bindC k [(x, v)] (fun _ => none) = fun _ => none := by simp [bindC, h]
theorem hold (law : LawSays) : PySem.Challenge.rw_sa0156_01.Holds := Mine.hd (by
  intro w s₀ s₁ mg mb G Y fa o pm cd doc dV kV ho hd hcd hD hmg hg args vals as hpre hlay hrd hwl hlo
  have KX := kIn_of Y
  have X := (Ground.X G).1
  have V := (Ground.X G).2
  refine Ground.open G ?_
  intro T B D TE TW
  refine guard_noD D (by decide +kernel) ?_
  clear D
  (refine ex2_1 (bmod_of_top T) ?_; rintro w8 w9 M)
  (refine ex2_2 (based_of_top T rfl hmg ho hd) ?_; rintro cd' w7 he B0)
  have he' : cd = _ := he
  subst he'
  clear he hmg
  wrow_args hpre hlay hrd hwl hlo
  refine enter_call ?_
  w_top on
  refine codeAny_mono ?_ (fun _ _ g => GoodW.toG g)
  have K0 := below_caller (Top.heap T)
  w_call any ho hd hcd hD T F
  clear hd
  k_drop
  rename_i ns hs hlay0 hL1 hr1 hl2 w5 w4 l vs w1 hL ra w1' r0 hI hr hcond hc2 h₁ tk₁ cell right N0 X0
  have dep : (callerA.deeper (envOfC lawDef.name lawDef.scope s₁.heap.objs.size fa (.ref cd'))).depth = 302 := rfl
  have uni : (callerA.deeper (envOfC lawDef.name lawDef.scope s₁.heap.objs.size fa (.ref cd'))).units = 7 := rfl
  let c : Cx := { A₀ := callerA, A := callerA.deeper (envOfC lawDef.name lawDef.scope s₁.heap.objs.size fa (.ref cd')), base := s₁.heap, h₀ := s₁.heap, outer := [], cn := lawDef.name, cs := lawDef.scope, L := s₁.heap.objs.size, a := fa, ccd := .ref cd', cl := [(nmN, s₁.heap.objs.size + 1)], mean := ExcName.means s₀.heap, mg := mg, mb := mb }
  have hcl : cellsFrom (s₁.heap.objs.size + 1) lawDef.scope.names [] = [(nmN, s₁.heap.objs.size + 1)] := by kernel_rfl
  have henv : c.env = envOfC lawDef.name lawDef.scope s₁.heap.objs.size fa (.ref cd') := by
    show envX _ _ _ _ _ _ = envOfC _ _ _ _ _
    unfold envOfC
    rw [hcl]
  have ok : c.Ok w 100 := ⟨K0, by rw [henv]; rfl, rfl, KX, T, by kernel_rfl, by kernel_rfl, by show (callerA.deeper _).depth + 100 < 1000; rw [dep]; omega, by show (callerA.deeper _).units + 16 * 100 + 64 < 9900; rw [uni]; omega⟩
  have hm : (bindL (envOfC lawDef.name lawDef.scope s₁.heap.objs.size fa (.ref cd')).kindOf [(Str.ofString "script", Value.ref l)] fun _ => none) = (fun y => if y = Str.ofString "script" then some (.ref l) else none) := by
    have hk : (envOfC lawDef.name lawDef.scope s₁.heap.objs.size fa (.ref cd')).kindOf (Str.ofString "script") = some .local := by kernel_rfl
    exact bindL1 hk
  have F' : Fr s₁.heap s₁.heap.objs.size h₁ (fun y => if y = Str.ofString "script" then some (.ref l) else none) := by rw [← hm]; exact F
  have hcell : cell.data = .cell none := by
    rw [right]
    have hk : (envOfC lawDef.name lawDef.scope s₁.heap.objs.size fa (.ref cd')).kindOf (Str.ofString "script") = some .local := by kernel_rfl
    have e : bindC (envOfC lawDef.name lawDef.scope s₁.heap.objs.size fa (.ref cd')).kindOf [(Str.ofString "script", Value.ref l)] (fun _ => none) = fun _ => none := bindC1 hk
    exact congrArg (fun g => Data.cell (g (Str.ofString "names"))) e
  have p : Pre PySem.Challenge.rw_sa0156_01.row.prog w eps0 {} 100 c wd0 ⟨[g1 "script" .any], [], 0⟩ [] [(c.L + 1, cell)] h₁ (fun y => if y = Str.ofString "script" then some (.ref l) else none) := by
    refine ⟨ok, ⟨F', ⟨N0, by simp [wd0]⟩, .nil, fun _ _ e => (by cases e)⟩, fun x v e => ?_, fok0⟩
    refine mk1_2 (.ref l) ?_ ?_
    · have hx : x = Str.ofString "script" := by
        unfold look g1 at e
        split at e
        · rename_i q; exact (sB_eq q).symm
        · exact nos e
      rw [if_pos hx]
    · have hv : v = .any := by
        unfold look g1 at e
        split at e
        · (refine som1 e ?_; rintro rfl); rfl
        · exact nos e
      rw [hv]; exact .any _
  have hlen : ns.length ≤ 63 := by
    have := hcond
    omega
  have key := law PySem.Challenge.rw_sa0156_01.row.prog w { heap := h₁, gens := s₁.gens, drawn := s₁.drawn, toks := tk₁, os := s₁.os } c l vs ns cell rfl rfl rfl p hL hI hlen hcell
  rw [henv] at key
  refine wpAny_mono key (fun f s' z => ?_) (fun _ _ z => z.elim)
  obtain ⟨rfl, h', tk', m', rfl, F2⟩ := z
  exact goodW_bool F2 hg (fun _ => rfl) (by kernel_rfl))
end
section
open PySem PySem.W PySem.Calls PyProof.Rows
/-! tools for the law's loops -/
structure SqOk (l : List (Nat × List AV)) : Prop where
  clo : ∀ x ∈ l, AV.cloL x.2 = true
  lf : ∀ x ∈ l, AV.labsL (fun _ => false) x.2 = true
  le : ∀ x ∈ l, x.2.length ≤ 1000
theorem SqOk.nil : SqOk [] := ⟨fun _ h => (nomatch h), fun _ h => (nomatch h), fun _ h => (nomatch h)⟩
theorem SqOk.cons {k : Nat} {v : List AV} {l : List (Nat × List AV)} (h1 : AV.cloL v = true) (h2 : AV.labsL (fun _ => false) v = true) (h3 : v.length ≤ 1000) (h : SqOk l) : SqOk ((k, v) :: l) :=
  ⟨fun x hx => by rcases List.mem_cons.mp hx with rfl | hx; exact h1; exact h.clo x hx, fun x hx => by rcases List.mem_cons.mp hx with rfl | hx; exact h2; exact h.lf x hx, fun x hx => by rcases List.mem_cons.mp hx with rfl | hx; exact h3; exact h.le x hx⟩
noncomputable def getN {α : Type} (d : α) (l : List (Nat × α)) (k : Nat) : α := match lookN l k with
  | some v => v
  | none => d
theorem getN_all {α : Type} {d : α} {l : List (Nat × α)} {P : α → Prop} (h0 : P d) (h : ∀ x ∈ l, P x.2) (k : Nat) : P (getN d l k) := by
  unfold getN
  split
  · rename_i q; exact h _ (lookN_mem q)
  · exact h0
noncomputable def Eps.put (ε : Eps) (is : List (Nat × Int)) (sq pv : List (Nat × List AV)) (hs : SqOk sq) (hp : SqOk pv) : Eps :=
  { ε with
    int := getN 0 is
    sq := getN [] sq
    pv := getN [] pv
    sq_cl := getN_all (P := fun v => AV.cloL v = true) rfl hs.clo
    pv_cl := getN_all (P := fun v => AV.cloL v = true) rfl hp.clo
    sq_lf := getN_all (P := fun v => AV.labsL (fun _ => false) v = true) rfl hs.lf
    pv_lf := getN_all (P := fun v => AV.labsL (fun _ => false) v = true) rfl hp.lf
    sq_le := getN_all (P := fun v : List AV => v.length ≤ 1000) (Nat.zero_le _) hs.le }
theorem put_eq {ε : Eps} {is : List (Nat × Int)} {sq pv : List (Nat × List AV)} {hs : SqOk sq} {hp : SqOk pv} : EqR (ε.put is sq pv hs hp) ε := ⟨fun _ => rfl, fun _ _ => rfl, fun _ => rfl⟩
/-- the table of symbols told anew -/
noncomputable def Eps.sym (ε : Eps) (g0 g1 : AKey → Option Value) (n0 n1 : Nat) (r2 : List Value) (h0 : n0 ≤ 1000000) (h1 : n1 ≤ 1000000) (hr : r2.length ≤ 1000000) : Eps :=
  { ε with
    dct := fun b k => if b = 0 then g0 k else if b = 1 then g1 k else ε.dct b k
    dlen := fun b => if b = 0 then n0 else if b = 1 then n1 else ε.dlen b
    dlen_le := fun b => by by_cases e : b = 0 <;> by_cases e' : b = 1 <;> simp [e, e', h0, h1, ε.dlen_le]
    raw := fun k => if k = 2 then r2 else ε.raw k
    raw_le := fun k => by by_cases e : k = 2 <;> simp [e, hr, ε.raw_le] }
noncomputable def anyL : Nat → List AV
  | 0 => []
  | n + 1 => .any :: anyL n
theorem anyL_len : ∀ n, (anyL n).length = n
  | 0 => rfl
  | n + 1 => by simp [anyL, anyL_len n]
theorem anyL_clo : ∀ n, AV.cloL (anyL n) = true
  | 0 => rfl
  | n + 1 => by simp [anyL, AV.cloL, AV.clo, anyL_clo n]
theorem anyL_lf : ∀ n, AV.labsL (fun _ => false) (anyL n) = true
  | 0 => rfl
  | n + 1 => by simp [anyL, AV.labsL, AV.labs, anyL_lf n]
section
variable {prog : Program} {w : World} {K : Frag} {ε ε' : Eps} {W : Wd} {F : Facts} {n : Nat} {c : Cx} {σ : AS} {hl kp : Led} {h : Heap} {m : Str → Option Value} {E : Value → Shared → Prop} {s : Shared} {sc : Scope}
theorem Rs.anyL : ∀ {vs : List AV} {us : List Value}, Rs K ε W vs us → plainL vs = true → Rs K ε' W (anyL vs.length) us ∧ us.length = vs.length
  | _, _, .nil, _ => ⟨.nil, rfl⟩
  | _, _, .cons _ r, h => by
    simp only [plainL, Bool.and_eq_true] at h
    have := Rs.anyL r h.2
    exact ⟨.cons (.any _) this.1, by simp [this.2]⟩
  | _, _, .sq _ _, h => by simp [plainL, isSq] at h
/-- a dict of one kind of keys, its entries told by ε alone -/
theorem OR.base {kd b' : Nat} {base : Option Nat} {ents : List (AKey × AV)} {x dx : Addr} {os : Led} (hk : kd < 3) (h : OR prog w ε W (.dict kd base ents) x dx os) :
    ∃ g : AKey → Option Value, (∀ k, kindOfKey k = kd → Agree w ε W base ents k (g k)) ∧ ∀ ε' : Eps, (∀ k, ε'.dct b' k = g k) → dl ε base + ents.length ≤ ε'.dlen b' → OR prog w ε' W (.dict kd (some b') []) x dx os := by
  obtain ⟨od, h1, h2, h3, h4⟩ := h
  have d := h4 kd (by omega) (.inl rfl)
  match kd, hk, d with
  | 0, _, ⟨kvs, d1, d2, d3⟩ =>
    refine mk1_2 (fun k => match k with | .s k => valueAt kvs k | _ => none) (fun k hk => ?_) (fun ε' he hl => ⟨od, h1, h2, h3, fun kd' a b' => ?_⟩)
    · cases k <;> first | exact d3 _ | injection hk
    · rcases b' with rfl | b'
      · exact ⟨kvs, d1, Nat.le_trans d2 hl, fun k => by unfold Agree; simp only [lookK]; exact (he (.s k)).symm⟩
      · injection b'
  | 1, _, ⟨kvs, d1, d2, d3⟩ =>
    refine mk1_2 (fun k => match k with | .i k => valueAt kvs k | _ => none) (fun k hk => ?_) (fun ε' he hl => ⟨od, h1, h2, h3, fun kd' a b' => ?_⟩)
    · cases k <;> first | exact d3 _ | cases hk
    · rcases b' with rfl | b'
      · exact ⟨kvs, d1, Nat.le_trans d2 hl, fun k => by unfold Agree; simp only [lookK]; exact (he (.i k)).symm⟩
      · injection b'
  | 2, _, ⟨es, ep, xs, d1, d2, d3, d4, d5, d6, d7⟩ =>
    refine mk1_2 (fun k => match k with | .t k => (atKey xs k).map (·.2) | _ => none) (fun k hk => ?_) (fun ε' he hl => ⟨od, h1, h2, h3, fun kd' a b' => ?_⟩)
    · cases k <;> first | exact d7 _ | cases hk
    · rcases b' with rfl | b'
      · exact ⟨es, ep, xs, d1, d2, d3, d4, d5, Nat.le_trans d6 hl, fun k => by unfold Agree; simp only [lookK]; exact (he (.t k)).symm⟩
      · injection b'
theorem symbase {loc : List (Str × AV)} {I : AO} {rest : List (Nat × AO)} {b0 b1 : Option Nat} {e0 e1 : List (AKey × AV)} {xs ys : List AV} {pre : Option Nat} (hl2 : cloA loc = true) (hI : I.clo = true) (hIs : ∀ ε', I.same ε ε') (hr1 : cloH rest = true) (hr2 : ∀ ε', sameH ε ε' rest) (hx : plainL xs = true) (hy : plainL ys = true)
    (hb0 : dl ε b0 + e0.length ≤ 1000000) (hb1 : dl ε b1 + e1.length ≤ 1000000) (hbr : (preL ε pre).length + ys.length ≤ 1000000)
    (p : Pre prog w ε F n c W ⟨loc, (1, I) :: (2, .dict 0 b0 e0) :: (3, .dict 2 b1 e1) :: (13, .list none xs) :: (14, .list pre ys) :: rest, 40⟩ hl kp h m) :
    ∃ (g0 g1 : AKey → Option Value) (r2 : List Value) (hr : r2.length ≤ 1000000), (∀ k, kindOfKey k = 0 → Agree w ε W b0 e0 k (g0 k)) ∧ (∀ k, kindOfKey k = 2 → Agree w ε W b1 e1 k (g1 k)) ∧ r2.length = (preL ε pre).length + ys.length ∧
      Pre prog w (ε.sym g0 g1 _ _ r2 hb0 hb1 hr) {} n c W ⟨loc, (1, I) :: (2, .dict 0 (some 0) []) :: (3, .dict 2 (some 1) []) :: (13, .list none (anyL xs.length)) :: (14, .list (some 2) []) :: rest, 40⟩ hl kp h m := by
  have H := p.st.hr
  cases H with
  | @cons _ _ x1 dx1 os1 _ hl1 a1 c1 H =>
    cases H with
    | @cons _ _ x2 dx2 os2 _ hl2' a2 c2 H =>
      cases H with
      | @cons _ _ x3 dx3 os3 _ hl3 a3 c3 H =>
        cases H with
        | @cons _ _ x4 dx4 os4 _ hl4 a4 c4 H =>
          cases H with
          | @cons _ _ x5 dx5 os5 _ hl5 a5 c5 H =>
            obtain ⟨g0, q1, q2⟩ := OR.base (b' := 0) (by decide) c2
            (refine ex1_2 (OR.base (b' := 1) (by decide) c3) ?_; rintro g1 r1 r2)
            (refine ex2_2 (c4) ?_; rintro us4 k4 t4 v4)
            (refine ex2_2 (c5) ?_; rintro us5 k5 t5 v5)
            have l5 := (Rs.anyL (ε' := ε) v5 hy).2
            have hr : (preL ε pre ++ us5).length ≤ 1000000 := by rw [List.length_append, l5]; exact hbr
            refine ⟨g0, g1, preL ε pre ++ us5, hr, q1, r1, by rw [List.length_append, l5], p.ok, ⟨p.st.fr, p.st.lg, ?_, p.st.rb⟩, p.loc.chg hl2, fok0⟩
            refine .cons a1 (c1.chg hI (hIs _)) (.cons a2 (q2 _ (fun _ => rfl) (Nat.le_refl _)) (.cons a3 (r2 _ (fun _ => rfl) (Nat.le_refl _)) (.cons a4 ⟨us4, k4, t4, (Rs.anyL v4 hx).1⟩ (.cons a5 ⟨[], k5, ?_, .nil⟩ (H.chg hr1 (hr2 _))))))
            rw [t5]
            show [(x5, listOf (preL ε pre ++ us5).toArray k5)] = [(x5, listOf ((preL ε pre ++ us5) ++ ([] : List Value)).toArray k5)]
            rw [List.append_nil]
/-! a list of statements run by the executor, one list frozen, then tidied -/
noncomputable def blkZ (F : Facts) (n : Nat) (sc : Scope) (body : List Stmt) (sel : List (Nat × Nat)) (lab : Nat) (xs : List Str) (σ : AS) : Option (List (Str × AV) × List (Nat × AO)) :=
  bi (exs (xRun F n) sc body σ) fun fl σ' => gd (isNext fl) (bo (listN σ' lab) fun row => gd (AV.labsL (fun _ => false) row) (bo (selL (gOf sel [(lab, row)]) (pOf sel [(lab, row)]) xs σ'.loc) fun loc' => bo (selH (gOf sel [(lab, row)]) (pOf sel [(lab, row)]) sel (dropN σ'.hp lab)) fun hp' => some (loc', hp')))
theorem blkz_run {body rest : List Stmt} {sel : List (Nat × Nat)} {lab : Nat} {xs : List Str} {loc' : List (Str × AV)} {hp' : List (Nat × AO)} {Q : Flow → Shared → Prop} (e : blkZ F n sc body sel lab xs σ = some (loc', hp')) (hs : selOk sel = true) (hc : c.cs = sc) (p : Pre prog w ε F n c W σ hl kp s.heap m)
    (k : ∀ W' hl' m' h' tk', W.Le W' → Pre prog w ε {} n c (W'.selW sel) ⟨loc', hp', 40⟩ hl' kp h' m' → wpAny (model prog w) c.A (execs rest c.env) Q E { s with heap := h', toks := tk' }) : wpAny (model prog w) c.A (execs (body ++ rest) c.env) Q E s := by
  refine biE e fun fl σ' e1 e => gdE e fun hn e => boE e fun row e0 e => gdE e fun hrow e => boE e fun l1 e2 e => boE e fun h1 e3 e => som2 e fun h4 h5 => ?_
  rw [isNext_inv hn] at e1
  rw [h4] at e2; rw [h5] at e3
  refine exs_then (snd_run prog w ε F n) hc e1 p fun W' hl' m' h' tk' hw p' => ex3_2 (p'.freezeL (listN_inv e0)) fun t lo hl2 p2 hz => ?_
  have hw2 := W'.add_le t lo
  refine ex1_1 (p2.tidy (F' := {}) sel [(lab, row)] xs 40 e3 e2 hs (by simp [hrow]) (fun x hx u ru => by
    rw [List.mem_singleton.mp hx] at ru ⊢
    exact hz _ (.refl _) u (R.objE ru fun x dx q => .obj q)) fok0) fun hl'' p'' => ?_
  exact k _ hl'' m' h' tk' (hw.trans hw2) p''
theorem blkz_sim {ε₀ : Eps} {F₀ : Facts} {σ₀ : AS} {body rest : List Stmt} {sel : List (Nat × Nat)} {lab : Nat} {xs : List Str} {loc' : List (Str × AV)} {hp' : List (Nat × AO)} {Q : Flow → Shared → Prop}
    (e : blkZ F n sc body sel lab xs σ = some (loc', hp')) (hs : selOk sel = true) (hc : c.cs = sc) (q : EqR ε ε₀) (fk : FOk w ε F W) (es : σ₀ = σ.sub ε) (p : Pre prog w ε₀ F₀ n c W σ₀ hl kp s.heap m)
    (k : ∀ W' hl' m' h' tk', W.Le W' → Pre prog w ε₀ {} n c (W'.selW sel) ⟨subA ε loc', subH ε hp', 40⟩ hl' kp h' m' → wpAny (model prog w) c.A (execs rest c.env) Q E { s with heap := h', toks := tk' }) : wpAny (model prog w) c.A (execs (body ++ rest) c.env) Q E s :=
  blkz_run e hs hc (Pre.opn q fk es p) fun W' hl' m' h' tk' hw p' => k W' hl' m' h' tk' hw (p'.close q fok0)
end
end
section
open PySem PySem.W PySem.Calls PyProof.Rows
/-! the turns of the law's loops, run by the executor -/
noncomputable def pk (k : String) (v : AV) : AV := .tup [.str (Str.ofString k), v]
noncomputable def rwT : Tk → AV
  | .int i => pk "int" (.int (.lit i))
  | .name s => pk "name" (.str (Str.ofString (nmS s)))
  | .qname s => pk "qname" (.str (Str.ofString (nmS s)))
  | .var k => pk "var" (.str (Str.ofString (vnS k)))
  | .op => pk "open" (.str (Str.ofString "("))
  | .oct => pk "open_ct" (.str (Str.ofString "("))
  | .pu p => pk "punct" (.str (Str.ofString (puS p)))
  | .fin => pk "end" (.str (Str.ofString "."))
noncomputable def symI : AO := .inst 154 [g1 "texts" (.obj 13), g1 "atom_numbers" (.obj 2), g1 "functors" (.obj 14), g1 "functor_numbers" (.obj 3)]
noncomputable def opI : AO := .inst 286 [g1 "symbols" .any, g1 "prefixes" (.obj 5), g1 "infixes" (.obj 6), g1 "postfixes" (.obj 7)]
noncomputable def cmE : AKey × AV := (.i 7, .tup [.int (.lit 1000), .str (Str.ofString "xfy")])
noncomputable def opsL (a b c : List (AKey × AV)) : List (Nat × AO) := [(4, opI), (5, .dict 1 none a), (6, .dict 1 none b), (7, .dict 1 none c)]
noncomputable def opsC (O : Ops) : List (Nat × AO) := opsL [(.i 29, entC O.u), (.i 4, entC O.p)] [cmE, (.i 30, entC O.w), (.i 4, entC O.i)] [(.i 31, entC O.q)]
noncomputable def lwS (e0 e1 : List (AKey × AV)) (tx ys : List AV) (rest : List (Nat × AO)) : List (Nat × AO) := (1, symI) :: (2, .dict 0 (some 0) e0) :: (3, .dict 2 (some 1) e1) :: (13, .list none tx) :: (14, .list (some 2) ys) :: rest
noncomputable def lwH (e0 e1 : List (AKey × AV)) (tx ys made : List AV) (O : Ops) : List (Nat × AO) := lwS e0 e1 tx ys ((15, .list none made) :: opsC O)
noncomputable def forBody (i : Nat) : List Stmt := match lawDef.body[i]? with
  | some (.For _ _ b _ _) => b
  | _ => []
/-! the start -/
noncomputable def atomsL : List String := ["[]", ".", "{}", "-", "+", "*", "/", ",", "|", ";", "->", "\\+", ":-", "?-", "-->", "!", "true", "fail", "false", "call", "=", "^", "error", "", "end_of_file", "system", "$VAR", "catch", "throw"]
noncomputable def fnsL : List (Int × Int) := [(1, 2), (7, 2), (9, 2), (10, 2), (11, 1), (12, 2), (12, 1), (13, 1), (14, 2), (2, 1), (20, 2), (21, 2), (3, 1), (3, 2), (4, 2), (6, 2), (22, 2), (26, 1), (27, 3), (28, 1), (15, 0), (16, 0), (17, 0), (18, 0), (19, 1), (19, 2), (19, 3), (19, 4), (19, 5), (19, 6), (19, 7), (19, 8)]
noncomputable def atE : Int → List String → List (AKey × AV)
  | _, [] => []
  | i, s :: r => (.s (Str.ofString s), .int (.lit i)) :: atE (i + 1) r
noncomputable def fnE : Int → List (Int × Int) → List (AKey × AV)
  | _, [] => []
  | i, (a, k) :: r => (.t [a, k], .int (.lit i)) :: fnE (i + 1) r
noncomputable def atV : List String → List AV
  | [] => []
  | s :: r => .str (Str.ofString s) :: atV r
noncomputable def fnV : List (Int × Int) → List AV
  | [] => []
  | (a, k) :: r => .tup [.int (.lit a), .int (.lit k)] :: fnV r
noncomputable def sel2 : List (Nat × Nat) := [(1, 40), (2, 42), (3, 44), (13, 41), (14, 43), (4, 45), (5, 46), (6, 47), (7, 48)]
noncomputable def opI1 : AO := .inst 286 [g1 "symbols" (.obj 1), g1 "prefixes" (.obj 5), g1 "infixes" (.obj 6), g1 "postfixes" (.obj 7)]
noncomputable def locS : List (Str × AV) := [g1 "figures" (.fl [.sq 60]), g1 "book" (.obj 1), g1 "operators" (.obj 4)]
theorem z_start : blkS {} 60 lSc (lwB 1 2) sel2 [] [Str.ofString "figures", Str.ofString "book", Str.ofString "operators"] ⟨[g1 "figures" (.fl [.sq 60])], [], 40⟩ =
    some (locS, (1, symI) :: (2, .dict 0 none (atE 0 atomsL)) :: (3, .dict 2 none (fnE 0 fnsL)) :: (13, .list none (atV atomsL)) :: (14, .list none (fnV fnsL)) :: [(4, opI1), (5, .dict 0 none []), (6, .dict 1 none [cmE]), (7, .dict 0 none [])]) := by kernel_rfl
/-! the five fixities -/
noncomputable def prA : AI := .add (.lit 1) (.mod (.mul (.sym 2) (.lit 313)) (.lit 1200))
noncomputable def F5 (i : Int) (len v : Int) (dk : List (Nat × AKey × Option AV)) : Facts := { at_ := [(60, .lit (10 + i), .int (.sym 2))], val := [(.mod (.fdiv (.sym 2) (.lit 3)) (.lit len), v)], less := [(.lit 0, prA, true)], dk := dk }
noncomputable def sel7 : List (Nat × Nat) := [(1, 1), (2, 2), (3, 3), (13, 13), (14, 14), (4, 4), (5, 5), (6, 6), (7, 7)]
noncomputable def xsS : List Str := [Str.ofString "figures", Str.ofString "book", Str.ofString "operators"]
noncomputable def locI (i : Int) : List (Str × AV) := locS ++ [g1 "step" (.int (.lit i))]
noncomputable def entP (ty : Ty) : AV := .tup [.int prA, .str (Str.ofString (tyS ty))]
noncomputable def nmK (s : Nm) : AKey := .s (Str.ofString (nmS s))
noncomputable def nmT (s : Nm) : AV := .str (Str.ofString (nmS s))
noncomputable def rest5 (a b c : AO) : List (Nat × AO) := [(4, opI), (5, a), (6, b), (7, c)]
noncomputable def dE : AO := .dict 0 none []
noncomputable def d1 (l : List (AKey × AV)) : AO := .dict 1 none l
noncomputable def ty0 (v : Nat) : Ty := match v with | 0 => .fy | _ => .fx
noncomputable def ty1 (v : Nat) : Ty := match v with | 0 => .fx | _ => .fy
noncomputable def ty2 (v : Nat) : Ty := match v with | 0 => .yfx | 1 => .xfy | _ => .xfx
noncomputable def ty3 (v : Nat) : Ty := match v with | 0 => .xfx | 1 => .yfx | _ => .xfy
noncomputable def ty4 (v : Nat) : Ty := match v with | 0 => .yf | _ => .xf
theorem z_5_0 (v : Nat) (h : v < 2) : blkS (F5 0 2 v [(0, nmK .u, none)]) 60 lSc (forBody 3) sel7 [] xsS ⟨locI 0, lwS [] [] (anyL 29) [] (rest5 dE (d1 [cmE]) dE), 40⟩ =
    some (locS, lwS [(nmK .u, .int (.lit 29))] [] (anyL 29 ++ [nmT .u]) [] (rest5 (d1 [(.i 29, entP (ty0 v))]) (d1 [cmE]) dE)) := by
  match v, h with
  | 0, _ => kernel_rfl
  | 1, _ => kernel_rfl
theorem z_5_1 (u : Int × Ty) (v : Nat) (h : v < 2) : blkS (F5 1 2 v [(0, nmK .plus, some (.int (.lit 4)))]) 60 lSc (forBody 3) sel7 [] xsS ⟨locI 1, lwS [] [] (anyL 30) [] (rest5 (d1 [(.i 29, entC u)]) (d1 [cmE]) dE), 40⟩ =
    some (locS, lwS [] [] (anyL 30) [] (rest5 (d1 [(.i 29, entC u), (.i 4, entP (ty1 v))]) (d1 [cmE]) dE)) := by
  match v, h with
  | 0, _ => kernel_rfl
  | 1, _ => kernel_rfl
theorem z_5_2 (u p : Int × Ty) (v : Nat) (h : v < 3) : blkS (F5 2 3 v [(0, nmK .w, none)]) 60 lSc (forBody 3) sel7 [] xsS ⟨locI 2, lwS [] [] (anyL 30) [] (rest5 (d1 [(.i 29, entC u), (.i 4, entC p)]) (d1 [cmE]) dE), 40⟩ =
    some (locS, lwS [(nmK .w, .int (.lit 30))] [] (anyL 30 ++ [nmT .w]) [] (rest5 (d1 [(.i 29, entC u), (.i 4, entC p)]) (d1 [cmE, (.i 30, entP (ty2 v))]) dE)) := by
  match v, h with
  | 0, _ => kernel_rfl
  | 1, _ => kernel_rfl
  | 2, _ => kernel_rfl
theorem z_5_3 (u p w : Int × Ty) (v : Nat) (h : v < 3) : blkS (F5 3 3 v [(0, nmK .plus, some (.int (.lit 4)))]) 60 lSc (forBody 3) sel7 [] xsS ⟨locI 3, lwS [] [] (anyL 31) [] (rest5 (d1 [(.i 29, entC u), (.i 4, entC p)]) (d1 [cmE, (.i 30, entC w)]) dE), 40⟩ =
    some (locS, lwS [] [] (anyL 31) [] (rest5 (d1 [(.i 29, entC u), (.i 4, entC p)]) (d1 [cmE, (.i 30, entC w), (.i 4, entP (ty3 v))]) dE)) := by
  match v, h with
  | 0, _ => kernel_rfl
  | 1, _ => kernel_rfl
  | 2, _ => kernel_rfl
theorem z_5_4 (u p w i : Int × Ty) (v : Nat) (h : v < 2) : blkS (F5 4 2 v [(0, nmK .q, none)]) 60 lSc (forBody 3) sel7 [] xsS ⟨locI 4, lwS [] [] (anyL 31) [] (rest5 (d1 [(.i 29, entC u), (.i 4, entC p)]) (d1 [cmE, (.i 30, entC w), (.i 4, entC i)]) dE), 40⟩ =
    some (locS, lwS [(nmK .q, .int (.lit 31))] [] (anyL 31 ++ [nmT .q]) [] (rest5 (d1 [(.i 29, entC u), (.i 4, entC p)]) (d1 [cmE, (.i 30, entC w), (.i 4, entC i)]) (d1 [(.i 31, entP (ty4 v))]))) := by
  match v, h with
  | 0, _ => kernel_rfl
  | 1, _ => kernel_rfl
/-! leaves -/
noncomputable def lfV (x : AI) (way : Int) : List (AI × Int) := [(.mod x (.lit 5), way)]
noncomputable def lfW (x : AI) (way which : Int) : List (AI × Int) := [(.mod x (.lit 5), way), (.mod (.fdiv x (.lit 5)) (.lit 4), which)]
/-- how a leaf may look: number of the way, of the name; its row and its term; the label of its row -/
structure Leaf where
  vs : List (AI × Int)
  dk : List (Nat × AKey × Option AV)
  e0 : List (AKey × AV)
  xt : List AV
  tx : List AV
  row : List AV
  term : AV
  lab : Nat
noncomputable def nm4 (k : Nat) : Nm := match k with | 0 => .u | 1 => .plus | 2 => .w | _ => .q
inductive IsLeaf (x : AI) : Nat → Leaf → Prop
  | int {n : Nat} : IsLeaf x n ⟨lfV x 0, [], [], [], [.sq 64], [pk "int" (.int x)], .tup [.str (Str.ofString "i"), .int x], 40⟩
  | cOld {n : Nat} (i : Int) : i = 32 ∨ i = 33 → IsLeaf x n ⟨lfV x 1, [(0, nmK .c, some (.int (.lit i)))], [], [], [.sq 64], [rwT (.name .c)], .tup [.str (Str.ofString "a"), .int (.lit i)], 40⟩
  | cNew {n : Nat} : n = 32 ∨ n = 33 → IsLeaf x n ⟨lfV x 1, [(0, nmK .c, none)], [(nmK .c, .int (.lit n))], [nmT .c], anyL n, [rwT (.name .c)], .tup [.str (Str.ofString "a"), .int (.lit n)], 40⟩
  | var {n : Nat} (k : Nat) : k < 4 → IsLeaf x n ⟨lfW x 2 k, [], [], [], [.sq 64], [rwT (.var k)], .tup [.str (Str.ofString "v"), .int (.lit k)], 41⟩
  | name {n : Nat} (k : Nat) : k < 4 → IsLeaf x n ⟨lfW x 3 k, [(0, nmK (nm4 k), some (.int (.lit (atN (nm4 k)))))], [], [], [.sq 64], [rwT .op, rwT (.name (nm4 k)), rwT (.pu .rp)], .tup [.str (Str.ofString "a"), .int (.lit (atN (nm4 k)))], 41⟩
  | qname {n : Nat} (k : Nat) : k < 4 → IsLeaf x n ⟨lfW x 4 k, [(0, nmK (nm4 k), some (.int (.lit (atN (nm4 k)))))], [], [], [.sq 64], [rwT .op, rwT (.qname (nm4 k)), rwT (.pu .rp)], .tup [.str (Str.ofString "a"), .int (.lit (atN (nm4 k)))], 41⟩
end
section
open PySem PySem.W PySem.Calls PyProof.Rows
noncomputable def selM (lab : Nat) : List (Nat × Nat) := [(1, 1), (2, 2), (3, 3), (13, 13), (14, 14), (15, lab + 1), (4, 4), (5, 5), (6, 6), (7, 7)]
noncomputable def selD : List (Nat × Nat) := [(1, 1), (2, 2), (3, 3), (13, 13), (14, 14), (15, 15), (4, 4), (5, 5), (6, 6), (7, 7)]
noncomputable def xsM : List Str := [Str.ofString "figures", Str.ofString "book", Str.ofString "operators", Str.ofString "made"]
noncomputable def locM : List (Str × AV) := [g1 "figures" (.fl [.sq 60]), g1 "book" (.obj 1), g1 "operators" (.obj 4), g1 "made" (.obj 15)]
noncomputable def locD : List (Str × AV) := locM ++ [g1 "step" (.int (.sym 1))]
noncomputable def xF2 : AI := .fdiv (.sym 2) (.lit 3)
theorem z_leaf0 (O : Ops) {n : Nat} {lf : Leaf} (h : IsLeaf (.sym 2) n lf) : blkZ { at_ := [(60, .lit 1, .int (.sym 2))], val := lf.vs, dk := lf.dk } 60 lSc (lwB 4 1) (selM lf.lab) lf.lab xsM ⟨locS, lwS [] [] lf.tx [] (opsC O), 40⟩ =
    some (locM, lwH lf.e0 [] (lf.tx ++ lf.xt) [] [.tup [.fl lf.row, lf.term]] O) := by
  cases h with
  | int => kernel_rfl
  | cOld i hi => rcases hi with rfl | rfl <;> kernel_rfl
  | cNew hn => rcases hn with rfl | rfl <;> kernel_rfl
  | var k hk =>
    match k, hk with
    | 0, _ => kernel_rfl
    | 1, _ => kernel_rfl
    | 2, _ => kernel_rfl
    | 3, _ => kernel_rfl
  | name k hk =>
    match k, hk with
    | 0, _ => kernel_rfl
    | 1, _ => kernel_rfl
    | 2, _ => kernel_rfl
    | 3, _ => kernel_rfl
  | qname k hk =>
    match k, hk with
    | 0, _ => kernel_rfl
    | 1, _ => kernel_rfl
    | 2, _ => kernel_rfl
    | 3, _ => kernel_rfl
/-- the test that leads to a leaf -/
inductive ToLeaf : Int → List (AI × AI × Bool) → Prop
  | zero : ToLeaf 0 []
  | two : ToLeaf 2 [(.slen 61 0, .lit 2, true)]
theorem z_leaf (O : Ops) {n : Nat} {lf : Leaf} {f3 : Int} {ls : List (AI × AI × Bool)} (t : ToLeaf f3 ls) (h : IsLeaf xF2 n lf) : blkZ { at_ := [(60, .add (.lit 2) (.sym 1), .int (.sym 2))], val := (.mod (.sym 2) (.lit 3), f3) :: lf.vs, dk := lf.dk, less := ls } 60 lSc (forBody 5) selD lf.lab xsM ⟨locD, lwH [] [] lf.tx [] [.sq 61] O, 40⟩ =
    some (locM, lwH lf.e0 [] (lf.tx ++ lf.xt) [] [.sq 61, .tup [.fl lf.row, lf.term]] O) := by
  cases h with
  | int => cases t <;> kernel_rfl
  | cOld i hi => rcases hi with rfl | rfl <;> cases t <;> kernel_rfl
  | cNew hn => rcases hn with rfl | rfl <;> cases t <;> kernel_rfl
  | var k hk =>
    match k, hk with
    | 0, _ => cases t <;> kernel_rfl
    | 1, _ => cases t <;> kernel_rfl
    | 2, _ => cases t <;> kernel_rfl
    | 3, _ => cases t <;> kernel_rfl
  | name k hk =>
    match k, hk with
    | 0, _ => cases t <;> kernel_rfl
    | 1, _ => cases t <;> kernel_rfl
    | 2, _ => cases t <;> kernel_rfl
    | 3, _ => cases t <;> kernel_rfl
  | qname k hk =>
    match k, hk with
    | 0, _ => cases t <;> kernel_rfl
    | 1, _ => cases t <;> kernel_rfl
    | 2, _ => cases t <;> kernel_rfl
    | 3, _ => cases t <;> kernel_rfl
end
section
open PySem PySem.W PySem.Calls PyProof.Rows
noncomputable def dkF (a k : Int) (fo : Bool) : List (Nat × AKey × Option AV) := [(1, .t [a, k], if fo then some (.int (.sym 20)) else none)]
noncomputable def lsF (fo : Bool) : List (AI × AI × Bool) := if fo then [(.sym 20, .lit 0, false)] else []
noncomputable def fnA (fo : Bool) : AI := if fo then .sym 20 else .len 2 0
noncomputable def efA (a k : Int) (fo : Bool) : List (AKey × AV) := if fo then [] else [(.t [a, k], .int (.len 2 0))]
noncomputable def fsA (a k : Int) (fo : Bool) : List AV := if fo then [] else [.tup [.int (.lit a), .int (.lit k)]]
noncomputable def dkN (s : Nm) : Nat × AKey × Option AV := (0, nmK s, some (.int (.lit (atN s))))
structure Grow where
  way : Int
  dk : List (Nat × AKey × Option AV)
  ls : List (AI × AI × Bool)
  e0 : List (AKey × AV)
  xt : List AV
  tx : List AV
  e1 : List (AKey × AV)
  ys : List AV
  row : List AV
  term : AV
noncomputable def s1A (f : AI) (t : AV) : AV := .tup [.str (Str.ofString "s"), .int f, .tup [t]]
noncomputable def s2A (f : AI) (t r : AV) : AV := .tup [.str (Str.ofString "s"), .int f, .tup [t, r]]
noncomputable def nlA : AV := .tup [.str (Str.ofString "a"), .int (.lit 0)]
inductive IsAlone : Grow → Prop
  | pre (k : Nat) (fo : Bool) : k < 2 → IsAlone ⟨k, dkN (nm4 k) :: dkF (atN (nm4 k)) 1 fo, lsF fo, [], [], [.sq 64], efA (atN (nm4 k)) 1 fo, fsA (atN (nm4 k)) 1 fo, [rwT .op, rwT (.name (nm4 k)), .sq 62, rwT (.pu .rp)], s1A (fnA fo) (.opq 0)⟩
  | post (fo : Bool) : IsAlone ⟨2, dkN .q :: dkF 31 1 fo, lsF fo, [], [], [.sq 64], efA 31 1 fo, fsA 31 1 fo, [rwT .op, .sq 62, rwT (.name .q), rwT (.pu .rp)], s1A (fnA fo) (.opq 0)⟩
  | curly : IsAlone ⟨3, [], [], [], [], [.sq 64], [], [], [rwT (.pu .lc), .sq 62, rwT (.pu .rc)], s1A (.lit 9) (.opq 0)⟩
  | list : IsAlone ⟨4, [], [], [], [], [.sq 64], [], [], [rwT (.pu .lb), .sq 62, rwT (.pu .rb)], s2A (.lit 0) (.opq 0) nlA⟩
  | call (fo : Bool) : IsAlone ⟨5, dkN .u :: dkF 29 1 fo, lsF fo, [], [], [.sq 64], efA 29 1 fo, fsA 29 1 fo, [rwT (.name .u), rwT .oct, .sq 62, rwT (.pu .rp)], s1A (fnA fo) (.opq 0)⟩
inductive IsBoth : Nat → Grow → Prop
  | inf {n : Nat} (k : Nat) (fo : Bool) : k < 2 → IsBoth n ⟨k, dkN (nm4 (2 - k)) :: dkF (atN (nm4 (2 - k))) 2 fo, lsF fo, [], [], [.sq 64], efA (atN (nm4 (2 - k))) 2 fo, fsA (atN (nm4 (2 - k))) 2 fo, [rwT .op, .sq 62, rwT (.name (nm4 (2 - k))), .sq 63, rwT (.pu .rp)], s2A (fnA fo) (.opq 0) (.opq 1)⟩
  | comma {n : Nat} : IsBoth n ⟨2, [], [], [], [], [.sq 64], [], [], [rwT .op, .sq 62, rwT (.pu .comma), .sq 63, rwT (.pu .rp)], s2A (.lit 1) (.opq 0) (.opq 1)⟩
  | bar {n : Nat} : IsBoth n ⟨3, [], [], [], [], [.sq 64], [], [], [rwT (.pu .lb), .sq 62, rwT (.pu .bar), .sq 63, rwT (.pu .rb)], s2A (.lit 0) (.opq 0) (.opq 1)⟩
  | list {n : Nat} : IsBoth n ⟨4, [], [], [], [], [.sq 64], [], [], [rwT (.pu .lb), .sq 62, rwT (.pu .comma), .sq 63, rwT (.pu .rb)], s2A (.lit 0) (.opq 0) (s2A (.lit 0) (.opq 1) nlA)⟩
  | fOld {n : Nat} (i : Int) (fo : Bool) : i = 32 ∨ i = 33 → IsBoth n ⟨5, (0, nmK .f, some (.int (.lit i))) :: dkF i 2 fo, lsF fo, [], [], [.sq 64], efA i 2 fo, fsA i 2 fo, [rwT (.name .f), rwT .oct, .sq 62, rwT (.pu .comma), .sq 63, rwT (.pu .rp)], s2A (fnA fo) (.opq 0) (.opq 1)⟩
  | fNew {n : Nat} (fo : Bool) : n = 32 ∨ n = 33 → IsBoth n ⟨5, (0, nmK .f, none) :: dkF n 2 fo, lsF fo, [(nmK .f, .int (.lit n))], [nmT .f], anyL n, efA n 2 fo, fsA n 2 fo, [rwT (.name .f), rwT .oct, .sq 62, rwT (.pu .comma), .sq 63, rwT (.pu .rp)], s2A (fnA fo) (.opq 0) (.opq 1)⟩
  | callW {n : Nat} (fo : Bool) : IsBoth n ⟨6, dkN .w :: dkF 30 2 fo, lsF fo, [], [], [.sq 64], efA 30 2 fo, fsA 30 2 fo, [rwT (.name .w), rwT .oct, .sq 62, rwT (.pu .comma), .sq 63, rwT (.pu .rp)], s2A (fnA fo) (.opq 0) (.opq 1)⟩
theorem z_alone (O : Ops) {g : Grow} (h : IsAlone g) : blkS { at_ := [(60, .add (.lit 2) (.sym 1), .int (.sym 2))], val := [(.mod (.sym 2) (.lit 3), 1), (.mod xF2 (.lit 6), g.way)], dk := g.dk, less := g.ls } 60 lSc (forBody 5) selD [] xsM ⟨locD, lwH [] [] g.tx [] [.sq 61, .tup [.fl [.sq 62], .opq 0]] O, 40⟩ =
    some (locM, lwH g.e0 g.e1 (g.tx ++ g.xt) g.ys [.sq 61, .tup [.fl g.row, g.term]] O) := by
  cases h with
  | pre k fo hk =>
    match k, hk with
    | 0, _ => cases fo <;> kernel_rfl
    | 1, _ => cases fo <;> kernel_rfl
  | post fo => cases fo <;> kernel_rfl
  | curly => kernel_rfl
  | list => kernel_rfl
  | call fo => cases fo <;> kernel_rfl
theorem z_both (O : Ops) {n : Nat} {g : Grow} (h : IsBoth n g) : blkS { at_ := [(60, .add (.lit 2) (.sym 1), .int (.sym 2))], val := [(.mod (.sym 2) (.lit 3), 2), (.mod xF2 (.lit 7), g.way)], dk := g.dk, less := (.slen 61 2, .lit 2, false) :: g.ls } 60 lSc (forBody 5) selD [] xsM ⟨locD, lwH [] [] g.tx [] [.sq 61, .tup [.fl [.sq 62], .opq 0], .tup [.fl [.sq 63], .opq 1]] O, 40⟩ =
    some (locM, lwH g.e0 g.e1 (g.tx ++ g.xt) g.ys [.sq 61, .tup [.fl g.row, g.term]] O) := by
  cases h with
  | inf k fo hk =>
    match k, hk with
    | 0, _ => cases fo <;> kernel_rfl
    | 1, _ => cases fo <;> kernel_rfl
  | comma => kernel_rfl
  | bar => kernel_rfl
  | list => kernel_rfl
  | fOld i fo hi => rcases hi with rfl | rfl <;> cases fo <;> kernel_rfl
  | fNew fo hn => rcases hn with rfl | rfl <;> cases fo <;> kernel_rfl
  | callW fo => cases fo <;> kernel_rfl
end
section
open PySem PySem.W PySem.Calls PyProof.Rows
/-! what the tables of symbols hold -/
structure SymIs (ε : Eps) (D : Sy) (n b : Nat) : Prop where
  atom : ∀ s : Nm, match D.atom s with | none => ε.dct 0 (nmK s) = none | some i => ∃ t, ε.dct 0 (nmK s) = some (.int i t)
  fn : ∀ a k : Int, match D.fn a k with | none => ε.dct 1 (.t [a, k]) = none | some f => 0 ≤ f ∧ ∃ t, ε.dct 1 (.t [a, k]) = some (.int f t)
  d0 : ε.dlen 0 ≤ n
  d1 : ε.dlen 1 ≤ b
  r2 : (ε.raw 2).length ≤ b
noncomputable def Sy.addA (D : Sy) (a0 : Option Nm) (n : Int) : Sy := ⟨fun s => if a0 = some s then some n else D.atom s, D.fn⟩
noncomputable def Sy.addF (D : Sy) (f0 : Option (Int × Int)) (f : Int) : Sy := ⟨D.atom, fun a k => if f0 = some (a, k) then some f else D.fn a k⟩
structure SyLe (D D' : Sy) : Prop where
  atom : ∀ s i, D.atom s = some i → D'.atom s = some i
  fn : ∀ a k f, D.fn a k = some f → D'.fn a k = some f
theorem SyLe.trans {D D' D'' : Sy} (h : SyLe D D') (h' : SyLe D' D'') : SyLe D D'' := ⟨fun s i e => h'.atom s i (h.atom s i e), fun a k f e => h'.fn a k f (h.fn a k f e)⟩
theorem Sy.addA_le {D : Sy} {a0 : Option Nm} {n : Int} (h : ∀ s, a0 = some s → D.atom s = none) : SyLe D (D.addA a0 n) := ⟨fun s i e => by
  show (if a0 = some s then some n else D.atom s) = some i
  by_cases q : a0 = some s
  · rw [h s q] at e; exact nos e
  · rw [if_neg q]; exact e, fun _ _ _ e => e⟩
theorem Sy.addF_le {D : Sy} {f0 : Option (Int × Int)} {f : Int} (h : ∀ a k, f0 = some (a, k) → D.fn a k = none) : SyLe D (D.addF f0 f) := ⟨fun _ _ e => e, fun a k f' e => by
  show (if f0 = some (a, k) then some f else D.fn a k) = some f'
  by_cases q : f0 = some (a, k)
  · rw [h a k q] at e; exact nos e
  · rw [if_neg q]; exact e⟩
theorem Pt.mono {D D' : Sy} (l : SyLe D D') {r : List Tk} {t : Tm} (h : Pt D r t) : Pt D' r t := by
  induction h with
  | int i => exact .int i
  | c h => exact .c (l.atom _ _ h)
  | var h => exact .var h
  | par hs hn => exact .par hs (l.atom _ _ hn)
  | qpar hs hn => exact .qpar hs (l.atom _ _ hn)
  | pre hs hn hf _ ih => exact .pre hs (l.atom _ _ hn) (l.fn _ _ _ hf) ih
  | post hn hf _ ih => exact .post (l.atom _ _ hn) (l.fn _ _ _ hf) ih
  | curly _ ih => exact .curly ih
  | list _ ih => exact .list ih
  | call1 hn hf _ ih => exact .call1 (l.atom _ _ hn) (l.fn _ _ _ hf) ih
  | inf hs hn hf _ _ ih ih' => exact .inf hs (l.atom _ _ hn) (l.fn _ _ _ hf) ih ih'
  | comma _ _ ih ih' => exact .comma ih ih'
  | bar _ _ ih ih' => exact .bar ih ih'
  | list2 _ _ ih ih' => exact .list2 ih ih'
  | call2 hs hn hf _ _ ih ih' => exact .call2 hs (l.atom _ _ hn) (l.fn _ _ _ hf) ih ih'
theorem nmK_inj {s s' : Nm} (h : nmK s = nmK s') : s = s' := by
  have e : sB (Str.ofString (nmS s)) (Str.ofString (nmS s')) = true := by
    have : Str.ofString (nmS s) = Str.ofString (nmS s') := by
      unfold nmK at h
      injection h
    rw [this]; exact sB_self _
  cases s <;> cases s' <;> first | rfl | (exact absurd e (by decide +kernel))
noncomputable def e0Of (a0 : Option Nm) (n : Nat) : List (AKey × AV) := match a0 with
  | none => []
  | some s => [(nmK s, .int (.lit n))]
noncomputable def e1Of (f0 : Option (Int × Int)) (f : Int) : List (AKey × AV) := match f0 with
  | none => []
  | some (a, k) => [(.t [a, k], .int (.lit f))]
noncomputable def cnt1 {α : Type} (o : Option α) : Nat := match o with
  | none => 0
  | some _ => 1
section
variable {prog : Program} {w : World} {ε : Eps} {W : Wd} {F : Facts} {n : Nat} {c : Cx} {σ : AS} {hl kp : Led} {h : Heap} {m : Str → Option Value}
theorem agree_nil {b : Nat} {k : AKey} {o : Option Value} (h : Agree w ε W (some b) [] k o) : o = ε.dct b k := h
theorem agree_one {b : Nat} {k0 k : AKey} {i : Int} {o : Option Value} (h : Agree w ε W (some b) [(k0, .int (.lit i))] k o) : (k0 = k → ∃ t, o = some (.int i t)) ∧ (k0 ≠ k → o = ε.dct b k) := by
  unfold Agree at h
  rw [lookK_one] at h
  constructor
  · rintro rfl
    rw [if_pos (AKey.beq_self k0)] at h
    (refine ex1_2 (h) ?_; rintro u rfl r)
    cases r
    exact ⟨_, rfl⟩
  · intro ne
    rw [if_neg (fun q => ne (AKey.beq_eq q))] at h
    exact h
theorem SymIs.step {D : Sy} {n b : Nat} (S : SymIs ε D n b) {a0 : Option Nm} {f0 : Option (Int × Int)} {f : Int} (hf : 0 ≤ f) {g0 g1 : AKey → Option Value} {r2 : List Value} {n0 n1 : Nat} {h0 : n0 ≤ 1000000} {h1 : n1 ≤ 1000000} {hr : r2.length ≤ 1000000}
    (A0 : ∀ k, kindOfKey k = 0 → Agree w ε W (some 0) (e0Of a0 n) k (g0 k)) (A1 : ∀ k, kindOfKey k = 2 → Agree w ε W (some 1) (e1Of f0 f) k (g1 k)) (hn0 : n0 ≤ n + cnt1 a0) (hn1 : n1 ≤ b + 1) (hr2 : r2.length ≤ b + 1) :
    SymIs (ε.sym g0 g1 n0 n1 r2 h0 h1 hr) ((D.addA a0 n).addF f0 f) (n + cnt1 a0) (b + 1) := by
  refine ⟨fun s => ?_, fun a k => ?_, hn0, hn1, hr2⟩
  · have hA := A0 (nmK s) rfl
    show match (if a0 = some s then some (n : Int) else D.atom s) with | none => g0 (nmK s) = none | some i => ∃ t, g0 (nmK s) = some (.int i t)
    cases a0 with
    | none =>
      rw [if_neg (by simp)]
      rw [agree_nil hA]
      exact S.atom s
    | some s0 =>
      have hA' := agree_one hA
      by_cases q : s0 = s
      · rw [if_pos (by rw [q])]
        exact hA'.1 (by rw [q])
      · rw [if_neg (by simpa using q)]
        rw [hA'.2 (fun e => q (nmK_inj e))]
        exact S.atom s
  · have hA := A1 (.t [a, k]) rfl
    show match (if f0 = some (a, k) then some f else D.fn a k) with | none => g1 (.t [a, k]) = none | some f => 0 ≤ f ∧ ∃ t, g1 (.t [a, k]) = some (.int f t)
    cases f0 with
    | none =>
      rw [if_neg (by simp)]
      rw [agree_nil hA]
      exact S.fn a k
    | some q0 =>
      obtain ⟨a', k'⟩ := q0
      have hA' := agree_one hA
      by_cases q : (a', k') = (a, k)
      · rw [if_pos (by rw [q])]
        exact ⟨hf, hA'.1 (by cases q; rfl)⟩
      · rw [if_neg (by simpa using q)]
        rw [hA'.2 (fun e => q (by injection e with e; injection e with e1 e2; injection e2 with e2 _; rw [e1, e2]))]
        exact S.fn a k
/-- the tables taken into ε after a turn -/
theorem sym_fin {D : Sy} {n b : Nat} (S : SymIs ε D n b) (hn : n ≤ 1000) (hb : b ≤ 1000) {a0 : Option Nm} {f0 : Option (Int × Int)} {f : Int} (hf : 0 ≤ f) {loc : List (Str × AV)} {rest : List (Nat × AO)} {xs ys : List AV} (hl2 : cloA loc = true) (hr1 : cloH rest = true) (hr2 : ∀ ε', sameH ε ε' rest)
    (hx : plainL xs = true) (hxl : xs.length = n + cnt1 a0) (hy : plainL ys = true) (hyl : ys.length = cnt1 f0)
    (p : Pre prog w ε F 60 c W ⟨loc, lwS (e0Of a0 n) (e1Of f0 f) xs ys rest, 40⟩ hl kp h m) :
    ∃ ε', SymIs ε' ((D.addA a0 n).addF f0 f) (n + cnt1 a0) (b + 1) ∧ Pre prog w ε' {} 60 c W ⟨loc, lwS [] [] (anyL (n + cnt1 a0)) [] rest, 40⟩ hl kp h m ∧ (∀ k, k ≠ 2 → ε'.raw k = ε.raw k) ∧ (∀ k, 2 ≤ k → ε'.dlen k = ε.dlen k ∧ ∀ q, ε'.dct k q = ε.dct k q) := by
  have c0 : (e0Of a0 n).length = cnt1 a0 := by cases a0 <;> rfl
  have c1 : (e1Of f0 f).length = cnt1 f0 := by cases f0 <;> rfl
  have b0 := S.d0
  have b1 := S.d1
  have b2 := S.r2
  have l0 : cnt1 a0 ≤ 1 := by cases a0 <;> simp [cnt1]
  have l1 : cnt1 f0 ≤ 1 := by cases f0 <;> simp [cnt1]
  have d0 : dl ε (some 0) = ε.dlen 0 := rfl
  have d1 : dl ε (some 1) = ε.dlen 1 := rfl
  have d2 : (preL ε (some 2)).length = (ε.raw 2).length := rfl
  have hb0 : dl ε (some 0) + (e0Of a0 n).length ≤ 1000000 := by rw [c0, d0]; omega
  have hb1 : dl ε (some 1) + (e1Of f0 f).length ≤ 1000000 := by rw [c1, d1]; omega
  obtain ⟨g0, g1, r2, hr, A0, A1, hrl, p2⟩ := symbase (I := symI) (b0 := some 0) (b1 := some 1) (pre := some 2) hl2 rfl (fun _ => trivial) hr1 hr2 hx hy hb0 hb1 (by rw [d2, hyl]; omega) p
  refine mk1_4 _ (S.step (h0 := hb0) (h1 := hb1) (hr := hr) hf A0 A1 (by rw [c0, d0]; omega) (by rw [c1, d1]; omega) (by rw [hrl, d2, hyl]; omega)) (by rw [← hxl]; exact p2) (fun k hk => ?_) (fun k hk => ⟨?_, fun q => ?_⟩)
  · show (if k = 2 then r2 else ε.raw k) = ε.raw k
    rw [if_neg hk]
  · show (if k = 0 then _ else if k = 1 then _ else ε.dlen k) = ε.dlen k
    rw [if_neg (by omega), if_neg (by omega)]
  · show (if k = 0 then g0 q else if k = 1 then g1 q else ε.dct k q) = ε.dct k q
    rw [if_neg (by omega), if_neg (by omega)]
end
end
section
open PySem PySem.W PySem.Calls PyProof.Rows
/-! the deeds -/
noncomputable def fgV : List Int → List AV
  | [] => []
  | i :: r => .int (.lit i) :: fgV r
noncomputable def rwL : List Tk → List AV
  | [] => []
  | t :: r => rwT t :: rwL r
noncomputable def mdT (x : List Tk × Tm) : AV := .tup [.fl (rwL x.1 ++ []), x.2.av]
noncomputable def mdL : List (List Tk × Tm) → List AV
  | [] => []
  | x :: r => mdT x :: mdL r
theorem fgV_clo : ∀ l, AV.cloL (fgV l) = true
  | [] => rfl
  | i :: r => by simp only [fgV, AV.cloL, fgV_clo r]; rfl
theorem fgV_lf : ∀ l, AV.labsL (fun _ => false) (fgV l) = true
  | [] => rfl
  | i :: r => by simp only [fgV, AV.labsL, fgV_lf r]; rfl
theorem fgV_len : ∀ l, (fgV l).length = l.length
  | [] => rfl
  | i :: r => by simp [fgV, fgV_len r]
theorem fgV_get : ∀ (l : List Int) (k : Nat) (f : Int), l[k]? = some f → (fgV l)[k]? = some (.int (.lit f))
  | [], k, f, h => by simp at h
  | i :: r, 0, f, h => by simp at h; subst h; rfl
  | i :: r, k + 1, f, h => by have := fgV_get r k f (by simpa using h); simpa [fgV] using this
theorem rwT_clo (t : Tk) : (rwT t).clo = true := by cases t <;> rfl
theorem rwT_lf (p : Nat → Bool) (t : Tk) : (rwT t).labs p = true := by cases t <;> rfl
theorem rwL_clo : ∀ l, AV.cloL (rwL l) = true
  | [] => rfl
  | t :: r => by simp only [rwL, AV.cloL, rwT_clo t, rwL_clo r]; rfl
theorem rwL_lf (p : Nat → Bool) : ∀ l, AV.labsL p (rwL l) = true
  | [] => rfl
  | t :: r => by simp only [rwL, AV.labsL, rwT_lf p t, rwL_lf p r]; rfl
theorem rwL_len : ∀ l, (rwL l).length = l.length
  | [] => rfl
  | t :: r => by simp [rwL, rwL_len r]
theorem rwL_app : ∀ a b, rwL (a ++ b) = rwL a ++ rwL b
  | [], b => rfl
  | t :: r, b => by simp [rwL, rwL_app r b]
theorem mdT_clo (x : List Tk × Tm) : (mdT x).clo = true := by
  have e : AV.cloL (rwL x.1 ++ []) = true := by rw [List.append_nil]; exact rwL_clo _
  simp only [mdT, AV.clo, AV.cloL, e, Tm.av, Tm.clo]; rfl
theorem mdT_lf (x : List Tk × Tm) : (mdT x).labs (fun _ => false) = true := by
  have e : AV.labsL (fun _ => false) (rwL x.1 ++ []) = true := by rw [List.append_nil]; exact rwL_lf _ _
  simp only [mdT, AV.labs, AV.labsL, e, Tm.av, Tm.lf]; rfl
theorem mdL_clo : ∀ l, AV.cloL (mdL l) = true
  | [] => rfl
  | x :: r => by simp only [mdL, AV.cloL, mdT_clo x, mdL_clo r]; rfl
theorem mdL_lf : ∀ l, AV.labsL (fun _ => false) (mdL l) = true
  | [] => rfl
  | x :: r => by simp only [mdL, AV.labsL, mdT_lf x, mdL_lf r]; rfl
theorem mdL_len : ∀ l, (mdL l).length = l.length
  | [] => rfl
  | x :: r => by simp [mdL, mdL_len r]
theorem mdL_app : ∀ a b, mdL (a ++ b) = mdL a ++ mdL b
  | [], b => rfl
  | x :: r, b => by simp [mdL, mdL_app r b]
noncomputable def dpt : Tm → Nat
  | .s1 _ t => dpt t + 1
  | .s2 _ t r => max (dpt t) (dpt r) + 1
  | _ => 1
structure SyOk (D : Sy) (n : Nat) : Prop where
  at_ : ∀ s, s ≠ .c → s ≠ .f → D.atom s = some (atN s)
  cf : ∀ s, s = .c ∨ s = .f → ∀ i, D.atom s = some i → i = 32 ∨ i = 33
  n : n = 32 + cnt1 (D.atom .c) + cnt1 (D.atom .f)
  comma : D.fn 7 2 = some 1
theorem SyOk.small {D : Sy} {n : Nat} (h : SyOk D n) : n ≤ 34 := by
  have := h.n
  have h1 : cnt1 (D.atom .c) ≤ 1 := by cases D.atom .c <;> simp [cnt1]
  have h2 : cnt1 (D.atom .f) ≤ 1 := by cases D.atom .f <;> simp [cnt1]
  omega
theorem SyOk.free {D : Sy} {n : Nat} (h : SyOk D n) {s : Nm} (hs : s = .c ∨ s = .f) (h0 : D.atom s = none) : n = 32 ∨ n = 33 := by
  have h3 := h.n
  have h1 : cnt1 (D.atom .c) ≤ 1 := by cases D.atom .c <;> simp [cnt1]
  have h2 : cnt1 (D.atom .f) ≤ 1 := by cases D.atom .f <;> simp [cnt1]
  rcases hs with rfl | rfl <;> rw [h0] at h3 <;> simp only [cnt1] at h3 h1 h2 <;> omega
theorem SyOk.step {D : Sy} {n : Nat} (h : SyOk D n) {a0 : Option Nm} {f0 : Option (Int × Int)} {f : Int} (ha : ∀ s, a0 = some s → (s = .c ∨ s = .f) ∧ D.atom s = none) (hf : ∀ a k, f0 = some (a, k) → D.fn a k = none) : SyOk ((D.addA a0 n).addF f0 f) (n + cnt1 a0) := by
  have at' : ∀ s, ((D.addA a0 n).addF f0 f).atom s = if a0 = some s then some (n : Int) else D.atom s := fun _ => rfl
  refine ⟨fun s h1 h2 => ?_, fun s hs i e => ?_, ?_, ?_⟩
  · rw [at', if_neg (fun q => by rcases (ha s q).1 with rfl | rfl; exact h1 rfl; exact h2 rfl)]
    exact h.at_ s h1 h2
  · rw [at'] at e
    by_cases q : a0 = some s
    · rw [if_pos q] at e
      cases e
      rcases h.free hs (ha s q).2 with rfl | rfl
      · exact .inl rfl
      · exact .inr rfl
    · rw [if_neg q] at e
      exact h.cf s hs i e
  · rw [at', at']
    cases a0 with
    | none => simpa [cnt1] using h.n
    | some s =>
      obtain ⟨h1, h2⟩ := ha s rfl
      have h3 := h.n
      rcases h1 with rfl | rfl
      · rw [if_pos rfl, if_neg (by simp)]
        rw [h2] at h3
        simp only [cnt1] at h3 ⊢
        omega
      · rw [if_neg (by simp), if_pos rfl]
        rw [h2] at h3
        simp only [cnt1] at h3 ⊢
        omega
  · exact (Sy.addF_le (D := D.addA a0 n) hf).fn 7 2 1 h.comma
theorem SyOk.le {D : Sy} {n : Nat} {a0 : Option Nm} {f0 : Option (Int × Int)} {f : Int} (ha : ∀ s, a0 = some s → (s = .c ∨ s = .f) ∧ D.atom s = none) (hf : ∀ a k, f0 = some (a, k) → D.fn a k = none) : SyLe D ((D.addA a0 n).addF f0 f) :=
  (Sy.addA_le fun s q => (ha s q).2).trans (Sy.addF_le hf)
structure DOk (ε : Eps) (D : Sy) (n i : Nat) (made : List (List Tk × Tm)) : Prop where
  sym : SymIs ε D n (40 + i)
  ok : SyOk D n
  pts : ∀ x ∈ made, Pt D x.1 x.2
  sz : (made.map (fun x => x.1.length)).sum ≤ 3 + 4 * i
  dp : ∀ x ∈ made, dpt x.2 ≤ 1 + 2 * i
  ne : made ≠ []
  ln : made.length ≤ i + 1
theorem anyL_sub (ε : Eps) : ∀ n, AV.subs ε (anyL n) = anyL n
  | 0 => rfl
  | n + 1 => by show .any :: AV.subs ε (anyL n) = .any :: anyL n; rw [anyL_sub ε n]
theorem anyL_subs (ε : Eps) (v : List AV) : ∀ n, AV.subs ε (anyL n ++ v) = anyL n ++ AV.subs ε v
  | 0 => rfl
  | n + 1 => by show .any :: AV.subs ε (anyL n ++ v) = .any :: (anyL n ++ AV.subs ε v); rw [anyL_subs ε v n]
/-- a leaf, for each figure -/
theorem leaf_cases {D : Sy} {n : Nat} (ok : SyOk D n) (x : AI) (g : Int) : ∃ (lf : Leaf) (r : List Tk) (t : Tm) (a0 : Option Nm), IsLeaf x n lf ∧ (∀ ε' : Eps, ε'.ev x = g → ∀ a i, (a, i) ∈ lf.vs → ε'.ev a = i) ∧
    (∀ b k v, (b, k, v) ∈ lf.dk → ∃ s, b = 0 ∧ k = nmK s ∧ v = (D.atom s).map (fun i => AV.int (.lit i))) ∧ lf.e0 = e0Of a0 n ∧ plainL lf.xt = true ∧ lf.xt.length = cnt1 a0 ∧
    (∀ ε' : Eps, ε'.sq 64 = anyL n → AV.subs ε' lf.tx = anyL n ∧ AV.subs ε' (lf.tx ++ lf.xt) = anyL n ++ lf.xt) ∧ (∀ ε' : Eps, ε'.ev x = g → AV.subs ε' lf.row = rwL r ++ [] ∧ lf.term.sub ε' = t.av) ∧
    Pt ((D.addA a0 n).addF none 0) r t ∧ r.length ≤ 3 ∧ dpt t = 1 ∧ (∀ s, a0 = some s → (s = .c ∨ s = .f) ∧ D.atom s = none) := by
  have h0 := Int.fmod_nonneg_of_pos g (b := 5) (by decide)
  have h5 := Int.fmod_lt_of_pos g (b := 5) (by decide)
  have k0 := Int.fmod_nonneg_of_pos (g.fdiv 5) (b := 4) (by decide)
  have k4 := Int.fmod_lt_of_pos (g.fdiv 5) (b := 4) (by decide)
  obtain ⟨k, hk⟩ : ∃ k : Nat, (g.fdiv 5).fmod 4 = k := ⟨((g.fdiv 5).fmod 4).toNat, by omega⟩
  have hk4 : k < 4 := by omega
  have sqx : ∀ ε' : Eps, ε'.sq 64 = anyL n → AV.subs ε' [.sq 64] = anyL n ∧ AV.subs ε' ([.sq 64] ++ []) = anyL n ++ [] := fun ε' e => by
    refine ⟨?_, ?_⟩
    · show ε'.sq 64 ++ [] = _; rw [e, List.append_nil]
    · show ε'.sq 64 ++ [] = _; rw [e]
  have v5 : ∀ (way : Int), g.fmod 5 = way → ∀ ε' : Eps, ε'.ev x = g → ∀ a i, (a, i) ∈ lfV x way → ε'.ev a = i := fun way hw ε' e a i hm => by
    simp only [lfV, List.mem_cons, List.not_mem_nil, or_false, Prod.mk.injEq] at hm
    obtain ⟨rfl, rfl⟩ := hm
    show (ε'.ev x).fmod 5 = _
    rw [e]; exact hw
  have v6 : ∀ (way : Int), g.fmod 5 = way → ∀ ε' : Eps, ε'.ev x = g → ∀ a i, (a, i) ∈ lfW x way k → ε'.ev a = i := fun way hw ε' e a i hm => by
    simp only [lfW, List.mem_cons, List.not_mem_nil, or_false, Prod.mk.injEq] at hm
    rcases hm with ⟨rfl, rfl⟩ | ⟨rfl, rfl⟩
    · show (ε'.ev x).fmod 5 = _
      rw [e]; exact hw
    · show ((ε'.ev x).fdiv 5).fmod 4 = _
      rw [e]; exact hk
  have n4 : ∀ k, k < 4 → nm4 k ≠ .c ∧ nm4 k ≠ .f ∧ (nm4 k = .u ∨ nm4 k = .plus ∨ nm4 k = .w ∨ nm4 k = .q) := fun k h => by
    match k, h with
    | 0, _ => exact ⟨by decide, by decide, by decide⟩
    | 1, _ => exact ⟨by decide, by decide, by decide⟩
    | 2, _ => exact ⟨by decide, by decide, by decide⟩
    | 3, _ => exact ⟨by decide, by decide, by decide⟩
  have none_ok : ∀ s : Nm, (none : Option Nm) = some s → (s = .c ∨ s = .f) ∧ D.atom s = none := fun s h => by cases h
  have cases5 : g.fmod 5 = 0 ∨ g.fmod 5 = 1 ∨ g.fmod 5 = 2 ∨ g.fmod 5 = 3 ∨ g.fmod 5 = 4 := by omega
  rcases cases5 with hw | hw | hw | hw | hw
  · refine ⟨_, [.int g], .i g, none, .int, v5 0 hw, fun b k v h => (nomatch h), rfl, rfl, rfl, sqx, fun ε' e => ⟨?_, ?_⟩, .int g, by simp, rfl, none_ok⟩
    · show [AV.tup [.str (Str.ofString "int"), .int (.lit (ε'.ev x))]] = _
      rw [e]; rfl
    · show AV.tup [.str (Str.ofString "i"), .int (.lit (ε'.ev x))] = _
      rw [e]; rfl
  · cases hc : D.atom .c with
    | some i =>
      refine ⟨_, [.name .c], .a i, none, .cOld i (ok.cf .c (.inl rfl) i hc), v5 1 hw, fun b k v h => ?_, rfl, rfl, rfl, sqx, fun ε' _ => ⟨rfl, rfl⟩, .c ?_, by simp, rfl, none_ok⟩
      · simp only [List.mem_cons, List.not_mem_nil, or_false, Prod.mk.injEq] at h
        obtain ⟨rfl, rfl, rfl⟩ := h
        exact ⟨.c, rfl, rfl, by rw [hc]; rfl⟩
      · exact hc
    | none =>
      refine ⟨_, [.name .c], .a n, some .c, .cNew (ok.free (.inl rfl) hc), v5 1 hw, fun b k v h => ?_, rfl, rfl, rfl, fun ε' _ => ⟨anyL_sub ε' n, anyL_subs ε' _ n⟩, fun ε' _ => ⟨rfl, rfl⟩, .c ?_, by simp, rfl, fun s h => ?_⟩
      · simp only [List.mem_cons, List.not_mem_nil, or_false, Prod.mk.injEq] at h
        obtain ⟨rfl, rfl, rfl⟩ := h
        exact ⟨.c, rfl, rfl, by rw [hc]; rfl⟩
      · show (if (some Nm.c : Option Nm) = some Nm.c then some (n : Int) else D.atom .c) = some (n : Int)
        rw [if_pos rfl]
      · cases h; exact ⟨.inl rfl, hc⟩
  · exact ⟨_, [.var k], .v k, none, .var k hk4, v6 2 hw, fun b k v h => (nomatch h), rfl, rfl, rfl, sqx, fun ε' _ => ⟨rfl, rfl⟩, .var hk4, by simp, rfl, none_ok⟩
  · refine ⟨_, [.op, .name (nm4 k), .pu .rp], .a (atN (nm4 k)), none, .name k hk4, v6 3 hw, fun b k' v h => ?_, rfl, rfl, rfl, sqx, fun ε' _ => ⟨rfl, rfl⟩, .par (n4 k hk4).2.2 (ok.at_ _ (n4 k hk4).1 (n4 k hk4).2.1), by simp, rfl, none_ok⟩
    simp only [List.mem_cons, List.not_mem_nil, or_false, Prod.mk.injEq] at h
    obtain ⟨rfl, rfl, rfl⟩ := h
    exact ⟨nm4 k, rfl, rfl, by rw [ok.at_ _ (n4 k hk4).1 (n4 k hk4).2.1]; rfl⟩
  · refine ⟨_, [.op, .qname (nm4 k), .pu .rp], .a (atN (nm4 k)), none, .qname k hk4, v6 4 hw, fun b k' v h => ?_, rfl, rfl, rfl, sqx, fun ε' _ => ⟨rfl, rfl⟩, .qpar (n4 k hk4).2.2 (ok.at_ _ (n4 k hk4).1 (n4 k hk4).2.1), by simp, rfl, none_ok⟩
    simp only [List.mem_cons, List.not_mem_nil, or_false, Prod.mk.injEq] at h
    obtain ⟨rfl, rfl, rfl⟩ := h
    exact ⟨nm4 k, rfl, rfl, by rw [ok.at_ _ (n4 k hk4).1 (n4 k hk4).2.1]; rfl⟩
end
section
open PySem PySem.W PySem.Calls PyProof.Rows
/-! one deed -/
noncomputable def locMc (figs : List Int) : List (Str × AV) := [g1 "figures" (.fl (fgV figs ++ [])), g1 "book" (.obj 1), g1 "operators" (.obj 4), g1 "made" (.obj 15)]
theorem locMc_clo (figs : List Int) : cloA (locMc figs) = true := by
  have e : AV.cloL (fgV figs ++ []) = true := by rw [List.append_nil]; exact fgV_clo _
  simp only [locMc, cloA, g1, AV.clo, e]; rfl
section
variable {prog : Program} {w : World} {O : Ops} {figs : List Int} {c : Cx} {kp : Led} {E : Value → Shared → Prop} {s : Shared} {m : Str → Option Value} {ε : Eps} {W : Wd} {hl : Led} {D : Sy} {n i : Nat} {made : List (List Tk × Tm)}
theorem dk_of (S : SymIs ε D n i) {ε1 : Eps} (he : ∀ q, ε1.dct 0 q = ε.dct 0 q) {W : Wd} {b : Nat} {k : AKey} {v : Option AV} (h : ∃ s, b = 0 ∧ k = nmK s ∧ v = (D.atom s).map (fun i => AV.int (.lit i))) : match (generalizing := false) v with | none => ε1.dct b k = none | some v => ∃ u, ε1.dct b k = some u ∧ R (Kw w) ε1 W v u := by
  (refine ex1_3 (h) ?_; rintro s rfl rfl rfl)
  have h1 := S.atom s
  rw [he]
  cases q : D.atom s with
  | none => rw [q] at h1; exact h1
  | some i =>
    rw [q] at h1
    (refine ex1_1 (h1) ?_; rintro t h2)
    exact mk1_2 _ h2 (.int (.lit i) t)
theorem fig_at {ε1 : Eps} {e : AI} {k : Nat} {f : Int} {sy : Nat} (hk : ε1.ev e = k) (hk2 : k < 1000) (h60 : ε1.sq 60 = fgV figs) (hf : figs[k]? = some f) (hs : ε1.int sy = f) {W : Wd} : ∀ k' e' v, (k', e', v) ∈ [((60 : Nat), e, AV.int (.sym sy))] → ∃ i : Nat, ε1.ev e' = i ∧ i < 1000 ∧ ∃ v', (ε1.sq k')[i]? = some v' ∧ ∀ W u, R (Kw w) ε1 W v' u → R (Kw w) ε1 W v u := by
  intro k' e' v h
  simp only [List.mem_cons, List.not_mem_nil, or_false, Prod.mk.injEq] at h
  (refine ex0_3 (h) ?_; rintro rfl rfl rfl)
  refine ⟨k, hk, hk2, _, by rw [h60]; exact fgV_get figs k f hf, fun W u r => ?_⟩
  cases r with
  | int _ t =>
    have : ε1.ev (.lit f) = ε1.ev (.sym sy) := hs.symm
    rw [this]; exact .int (.sym sy) t
noncomputable def DeedQ (prog : Program) (w : World) (O : Ops) (figs : List Int) (c : Cx) (kp : Led) (W : Wd) (i : Nat) (s : Shared) (f : Flow) (s' : Shared) : Prop :=
  f = .next ∧ ∃ ε' W' hl' m' h' tk' D' n' made', s' = { s with heap := h', toks := tk' } ∧ ImLe W W' ∧ DOk ε' D' n' (i + 1) made' ∧ Pre prog w ε' {} 60 c W' ⟨locMc figs, lwH [] [] (anyL n') [] (mdL made' ++ []) O, 40⟩ hl' kp h' m'
theorem opsC_same (ε ε' : Eps) (made : List AV) (O : Ops) : sameH ε ε' ((15, .list none made) :: opsC O) := ⟨rfl, trivial, fun _ h => (nomatch h), fun _ h => (nomatch h), fun _ h => (nomatch h), trivial⟩
theorem opsC_clo {made : List AV} (O : Ops) (h : AV.cloL made = true) : cloH ((15, .list none made) :: opsC O) = true := by
  simp only [cloH, AO.clo, h, opsC, opsL, opI, cloA, cloK, g1, AV.clo, entC, cmE, AV.cloL]; rfl
/-- after the executor: the tables into ε, the deed recorded -/
theorem deed_fin (h : DOk ε D n i made) {a0 : Option Nm} {f0 : Option (Int × Int)} {f : Int} (hf : 0 ≤ f) (hi : i ≤ 20) {W0 : Wd} {xs ys : List AV} {made' : List (List Tk × Tm)} (ha : ∀ s, a0 = some s → (s = .c ∨ s = .f) ∧ D.atom s = none) (hf0 : ∀ a k, f0 = some (a, k) → D.fn a k = none)
    (hx : plainL xs = true) (hxl : xs.length = n + cnt1 a0) (hy : plainL ys = true) (hyl : ys.length = cnt1 f0)
    (hp : ∀ x ∈ made', Pt ((D.addA a0 n).addF f0 f) x.1 x.2) (hsz : (made'.map (fun x => x.1.length)).sum ≤ 3 + 4 * (i + 1)) (hdp : ∀ x ∈ made', dpt x.2 ≤ 1 + 2 * (i + 1)) (hne : made' ≠ []) (hln : made'.length ≤ i + 1 + 1) (hw : ImLe W0 W)
    (p : Pre prog w ε {} 60 c W ⟨locMc figs, lwS (e0Of a0 n) (e1Of f0 f) xs ys ((15, .list none (mdL made' ++ [])) :: opsC O), 40⟩ hl kp s.heap m) {tk : Nat} : DeedQ prog w O figs c kp W0 i s .next { s with toks := tk } := by
  have hs := h.ok.small
  have hc : AV.cloL (mdL made' ++ []) = true := by rw [List.append_nil]; exact mdL_clo _
  (refine ex1_4 (sym_fin h.sym (by omega) (by omega) hf (locMc_clo figs) (opsC_clo O hc) (fun ε' => opsC_same ε ε' _ O) hx hxl hy hyl p) ?_; rintro ε' S p2 _ _)
  exact ⟨rfl, ε', W, hl, m, s.heap, tk, _, _, made', rfl, hw, ⟨S, h.ok.step ha hf0, hp, hsz, hdp, hne, hln⟩, p2⟩
theorem selW_im {W' : Wd} {sel : List (Nat × Nat)} (hw : W.Le W') : ImLe W (W'.selW sel) := hw.ims
theorem dd_pv (t1 t2 : Tm) : SqOk [(0, t1.items), (1, t2.items)] := by
  have key : ∀ t : Tm, t.items.length ≤ 1000 := fun t => by cases t <;> simp [Tm.items]
  exact .cons t1.clo t1.lf (key _) (.cons t2.clo t2.lf (key _) .nil)
noncomputable abbrev ddSq (figs : List Int) (made : List (List Tk × Tm)) (r1 r2 : List Tk) (n : Nat) : List (Nat × List AV) := [(60, fgV figs), (61, mdL made), (62, rwL r1), (63, rwL r2), (64, anyL n)]
noncomputable def Eps.dd (ε : Eps) (i f k : Int) (figs : List Int) (made : List (List Tk × Tm)) (r1 r2 : List Tk) (t1 t2 : Tm) (n : Nat) (h : SqOk (ddSq figs made r1 r2 n)) : Eps :=
  ε.put [(1, i), (2, f), (20, k)] (ddSq figs made r1 r2 n) [(0, t1.items), (1, t2.items)] h (dd_pv t1 t2)
theorem sqok_md (h : DOk ε D n i made) (hfl : figs.length ≤ 100) {made' : List (List Tk × Tm)} (hm : made'.length ≤ 100) {r1 r2 : List Tk} (h1 : r1.length ≤ 100) (h2 : r2.length ≤ 100) : SqOk (ddSq figs made' r1 r2 n) := by
  have := h.ok.small
  exact .cons (fgV_clo _) (fgV_lf _) (by rw [fgV_len]; omega) (.cons (mdL_clo _) (mdL_lf _) (by rw [mdL_len]; omega) (.cons (rwL_clo _) (rwL_lf _ _) (by rw [rwL_len]; omega) (.cons (rwL_clo _) (rwL_lf _ _) (by rw [rwL_len]; omega) (.cons (anyL_clo _) (anyL_lf _) (by rw [anyL_len]; omega) .nil))))
theorem deed_leaf (h : DOk ε D n i made) (hi : i ≤ 20) (hfl : figs.length ≤ 100) (hc : c.cs = lSc) {f : Int} (hj : figs[2 + i]? = some f) (ht : f.fmod 3 = 0 ∨ (f.fmod 3 = 2 ∧ made.length < 2))
    (p : Pre prog w ε {} 60 c W ⟨locMc figs ++ [g1 "step" (.int (.lit i))], lwH [] [] (anyL n) [] (mdL made ++ []) O, 40⟩ hl kp s.heap m) : wpAny (model prog w) c.A (execs (forBody 5) c.env) (DeedQ prog w O figs c kp W i s) E s := by
  obtain ⟨lf, r, t, a0, c1, c2, c3, c4, c5, c6, c7, c8, c9, c10, c11, c12⟩ := leaf_cases h.ok xF2 (f.fdiv 3)
  have hln := h.ln
  have hsq : SqOk (ddSq figs made [] [] n) := sqok_md h hfl (by omega) (by simp) (by simp)
  have ex : (ε.dd i f 0 figs made [] [] (.i 0) (.i 0) n hsq).ev xF2 = f.fdiv 3 := rfl
  have e64 : (ε.dd i f 0 figs made [] [] (.i 0) (.i 0) n hsq).sq 64 = anyL n := rfl
  have htt : ∃ f3 ls, ToLeaf f3 ls ∧ f.fmod 3 = f3 ∧ ∀ x y b, (x, y, b) ∈ ls → decide ((ε.dd i f 0 figs made [] [] (.i 0) (.i 0) n hsq).ev x < (ε.dd i f 0 figs made [] [] (.i 0) (.i 0) n hsq).ev y) = b := by
    rcases ht with h1 | ⟨h1, h2⟩
    · exact mk2_3 0 [] .zero h1 ls_nil
    · refine mk2_3 2 _ .two h1 (fun x y b hm => ?_)
      simp only [List.mem_cons, List.not_mem_nil, or_false, Prod.mk.injEq] at hm
      (refine ex0_3 (hm) ?_; rintro rfl rfl rfl)
      refine decide_eq_true ?_
      show (((mdL made).length + 0 : Nat) : Int) < 2
      rw [mdL_len]; omega
  (refine ex2_3 (htt) ?_; rintro f3 ls t1 t2 t3)
  have c8' := c8 _ ex
  have c7' := c7 _ e64
  have e0 : subK (ε.dd i f 0 figs made [] [] (.i 0) (.i 0) n hsq) lf.e0 = e0Of a0 n := by
    rw [c4]; cases a0 <;> rfl
  have hterm : isSq lf.term = false := by cases c1 <;> rfl
  have e2 : AV.subs (ε.dd i f 0 figs made [] [] (.i 0) (.i 0) n hsq) [.sq 61, .tup [.fl lf.row, lf.term]] = mdL made ++ [.tup [.fl (AV.subs (ε.dd i f 0 figs made [] [] (.i 0) (.i 0) n hsq) lf.row), lf.term.sub (ε.dd i f 0 figs made [] [] (.i 0) (.i 0) n hsq)]] := by
    show mdL made ++ [.tup (.fl (AV.subs (ε.dd i f 0 figs made [] [] (.i 0) (.i 0) n hsq) lf.row) :: AV.subs (ε.dd i f 0 figs made [] [] (.i 0) (.i 0) n hsq) [lf.term])] = _
    rw [AV.subs_cons hterm]
    rfl
  have key : wpAny (model prog w) c.A (execs (forBody 5 ++ []) c.env) (DeedQ prog w O figs c kp W i s) E s := by
    refine blkz_sim (rest := []) (ε := ε.dd i f 0 figs made [] [] (.i 0) (.i 0) n hsq) (s := s) (z_leaf O t1 c1) rfl hc put_eq
      ⟨t3, fun a i' hm => ?_, fun b k v hm => dk_of (ε1 := ε.dd i f 0 figs made [] [] (.i 0) (.i 0) n hsq) h.sym (fun _ => rfl) (c3 b k v hm), fig_at (W := W) (k := 2 + i) (f := f) (by show (2 : Int) + (i : Int) = _; omega) (by omega) rfl hj rfl⟩ ?_ p fun W' hl' m' h' tk' hw p' => ?_
    · rcases List.mem_cons.mp hm with hm | hm
      · cases hm
        exact t2
      · exact c2 _ ex a i' hm
    · show _ = AS.mk _ ((1, symI) :: (2, .dict 0 (some 0) []) :: (3, .dict 2 (some 1) []) :: (13, .list none (AV.subs (ε.dd i f 0 figs made [] [] (.i 0) (.i 0) n hsq) lf.tx)) :: (14, .list (some 2) []) :: (15, .list none (mdL made ++ [])) :: opsC O) 40
      rw [c7'.1]
      rfl
    · have p2 : Pre prog w ε {} 60 c (W'.selW selD) ⟨locMc figs, lwS (e0Of a0 n) (e1Of none 0) (anyL n ++ lf.xt) [] ((15, .list none (mdL (made ++ [(r, t)]) ++ [])) :: opsC O), 40⟩ hl' kp h' m' := by
        have e1 : mdL (made ++ [(r, t)]) ++ [] = mdL made ++ [.tup [.fl (rwL r ++ []), t.av]] := by rw [List.append_nil, mdL_app]; rfl
        rw [e1, ← c8'.1, ← c8'.2, ← c7'.2, ← e0, ← e2]
        exact p'
      refine wpAny_execs_nil (deed_fin (s := { s with heap := h' }) h (Int.le_refl 0) hi c12 (fun a k q => by exact nos q) ?_ ?_ rfl rfl ?_ ?_ ?_ (by simp) ?_ (selW_im hw) p2)
      · exact plain_append (AV.cloL_plain (anyL_clo n)) c5
      · rw [List.length_append, anyL_len, c6]
      · intro x hx
        rcases List.mem_append.mp hx with hx | hx
        · exact (h.pts x hx).mono (SyOk.le c12 (fun a k q => by exact nos q))
        · rw [List.mem_singleton.mp hx]; exact c9
      · rw [List.map_append, List.sum_append]
        have := h.sz
        simp
        omega
      · intro x hx
        rcases List.mem_append.mp hx with hx | hx
        · have := h.dp x hx; omega
        · rw [List.mem_singleton.mp hx, c11]; omega
      · rw [List.length_append]; simp; omega
  rw [List.append_nil] at key
  exact key
end
end
section
open PySem PySem.W PySem.Calls PyProof.Rows
section
variable {prog : Program} {w : World} {O : Ops} {figs : List Int} {c : Cx} {kp : Led} {E : Value → Shared → Prop} {s : Shared} {m : Str → Option Value} {ε : Eps} {W : Wd} {hl : Led} {D : Sy} {n i b : Nat} {made : List (List Tk × Tm)}
/-- what the executor is told -/
structure Told (ε ε1 : Eps) (num : Int) (r r2 : List Tk) (t t2 : Tm) (n : Nat) : Prop where
  dct : ∀ b q, ε1.dct b q = ε.dct b q
  raw : ε1.raw 2 = ε.raw 2
  num : ε1.int 20 = num
  q62 : ε1.sq 62 = rwL r
  q63 : ε1.sq 63 = rwL r2
  q64 : ε1.sq 64 = anyL n
  v0 : ε1.pv 0 = t.items
  v1 : ε1.pv 1 = t2.items
noncomputable def DkOk (w : World) (ε1 : Eps) (dk : List (Nat × AKey × Option AV)) : Prop := ∀ W b k v, (b, k, v) ∈ dk → match (generalizing := false) v with | none => ε1.dct b k = none | some v => ∃ u, ε1.dct b k = some u ∧ R (Kw w) ε1 W v u
noncomputable def LsOk (ε1 : Eps) (ls : List (AI × AI × Bool)) : Prop := ∀ x y b, (x, y, b) ∈ ls → decide (ε1.ev x < ε1.ev y) = b
structure GrowOk (w : World) (ε ε1 : Eps) (D : Sy) (n : Nat) (gr : Grow) (a0 : Option Nm) (f0 : Option (Int × Int)) (r' : List Tk) (t' : Tm) : Prop where
  dk : DkOk w ε1 gr.dk
  ls : LsOk ε1 gr.ls
  e0 : subK ε1 gr.e0 = e0Of a0 n
  e1 : subK ε1 gr.e1 = e1Of f0 (ε.raw 2).length
  tx : AV.subs ε1 gr.tx = anyL n
  tx2 : AV.subs ε1 (gr.tx ++ gr.xt) = anyL n ++ gr.xt
  xt : plainL gr.xt = true ∧ gr.xt.length = cnt1 a0
  ys : plainL (AV.subs ε1 gr.ys) = true ∧ (AV.subs ε1 gr.ys).length = cnt1 f0
  row : AV.subs ε1 gr.row = rwL r' ++ []
  term : gr.term.sub ε1 = t'.av
  nsq : isSq gr.term = false
  pt : Pt ((D.addA a0 n).addF f0 (ε.raw 2).length) r' t'
  a0 : ∀ s, a0 = some s → (s = .c ∨ s = .f) ∧ D.atom s = none
  f0 : ∀ a k, f0 = some (a, k) → D.fn a k = none
theorem dk_app {ε1 : Eps} {a : Nat × AKey × Option AV} {l : List (Nat × AKey × Option AV)} (h1 : DkOk w ε1 [a]) (h2 : DkOk w ε1 l) : DkOk w ε1 (a :: l) := fun W b k v hm => by
  rcases List.mem_cons.mp hm with hm | hm
  · exact h1 W b k v (by rw [hm]; exact .head _)
  · exact h2 W b k v hm
theorem dkN_ok (S : SymIs ε D n b) {ε1 : Eps} (hd : ∀ b q, ε1.dct b q = ε.dct b q) (s : Nm) {v : Option AV} (hv : v = (D.atom s).map (fun i => AV.int (.lit i))) : DkOk w ε1 [(0, nmK s, v)] := fun W b' k v' hm => by
  simp only [List.mem_cons, List.not_mem_nil, or_false, Prod.mk.injEq] at hm
  obtain ⟨rfl, rfl, rfl⟩ := hm
  exact dk_of S (hd 0) ⟨s, rfl, rfl, hv⟩
inductive Fn_caseI (w : World) (ε : Eps) (D : Sy) (n : Nat) (b : Nat) (a : Int) (k : Int) : Prop
  | mk (fo : Bool) (f0 : Option (Int × Int)) (num v : Int)
    (h_0 : (∀ ε1 : Eps, (∀ b q, ε1.dct b q = ε.dct b q) → ε1.raw 2 = ε.raw 2 → ε1.int 20 = num →
      DkOk w ε1 (dkF a k fo) ∧ LsOk ε1 (lsF fo) ∧ ε1.ev (fnA fo) = v ∧ subK ε1 (efA a k fo) = e1Of f0 (ε.raw 2).length ∧ plainL (AV.subs ε1 (fsA a k fo)) = true ∧ (AV.subs ε1 (fsA a k fo)).length = cnt1 f0))
    (h_1 : (∀ a0, ((D.addA a0 n).addF f0 (ε.raw 2).length).fn a k = some v))
    (h_2 : (∀ a' k', f0 = some (a', k') → D.fn a' k' = none))
theorem fn_case (S : SymIs ε D n b) (a k : Int) : Fn_caseI w ε D n b a k := by
  have h := S.fn a k
  cases q : D.fn a k with
  | some f =>
    rw [q] at h
    obtain ⟨h0, t, ht⟩ := h
    refine ⟨true, none, f, f, fun ε1 hd hr hn => ⟨fun W b' k' v' hm => ?_, fun x y b' hm => ?_, hn, rfl, rfl, rfl⟩, fun a0 => ?_, fun _ _ q => by cases q⟩
    · simp only [dkF, List.mem_cons, List.not_mem_nil, or_false, Prod.mk.injEq] at hm
      obtain ⟨rfl, rfl, rfl⟩ := hm
      refine ⟨_, (hd 1 _).trans ht, ?_⟩
      have : f = ε1.ev (.sym 20) := hn.symm
      rw [this]
      exact .int (.sym 20) t
    · simp only [lsF, if_true, List.mem_cons, List.not_mem_nil, or_false, Prod.mk.injEq] at hm
      obtain ⟨rfl, rfl, rfl⟩ := hm
      refine decide_eq_false ?_
      show ¬ ε1.int 20 < 0
      rw [hn]; omega
    · show (if (none : Option (Int × Int)) = some (a, k) then some ((ε.raw 2).length : Int) else D.fn a k) = some f
      rw [if_neg (by simp)]; exact q
  | none =>
    rw [q] at h
    refine ⟨false, some (a, k), 0, (ε.raw 2).length, fun ε1 hd hr hn => ⟨fun W b' k' v' hm => ?_, fun x y b' hm => (nomatch hm), ?_, ?_, rfl, rfl⟩, fun a0 => ?_, fun a' k' e => by cases e; exact q⟩
    · simp only [dkF, List.mem_cons, List.not_mem_nil, or_false, Prod.mk.injEq] at hm
      obtain ⟨rfl, rfl, rfl⟩ := hm
      exact (hd 1 _).trans h
    · show (((ε1.raw 2).length + 0 : Nat) : Int) = _
      rw [hr]; rfl
    · show [(AKey.t [a, k], AV.int (.lit (((ε1.raw 2).length + 0 : Nat) : Int)))] = [(AKey.t [a, k], AV.int (.lit ((ε.raw 2).length : Int)))]
      rw [hr]; rfl
    · show (if some (a, k) = some (a, k) then some ((ε.raw 2).length : Int) else D.fn a k) = _
      rw [if_pos rfl]
theorem n4' {k : Nat} (h : k < 2) : (nm4 k = .u ∨ nm4 k = .plus) ∧ nm4 k ≠ .c ∧ nm4 k ≠ .f := by
  match k, h with
  | 0, _ => exact ⟨.inl rfl, by decide, by decide⟩
  | 1, _ => exact ⟨.inr rfl, by decide, by decide⟩
theorem n4'' {k : Nat} (h : k < 2) : (nm4 (2 - k) = .w ∨ nm4 (2 - k) = .plus) ∧ nm4 (2 - k) ≠ .c ∧ nm4 (2 - k) ≠ .f := by
  match k, h with
  | 0, _ => exact ⟨.inl rfl, by decide, by decide⟩
  | 1, _ => exact ⟨.inr rfl, by decide, by decide⟩
theorem dk_nilOk {ε1 : Eps} : DkOk w ε1 [] := fun _ _ _ _ h => (nomatch h)
theorem ls_nilOk {ε1 : Eps} : LsOk ε1 [] := fun _ _ _ h => (nomatch h)
theorem tx_old {ε1 : Eps} (h : ε1.sq 64 = anyL n) : AV.subs ε1 [.sq 64] = anyL n ∧ AV.subs ε1 ([.sq 64] ++ []) = anyL n ++ [] := by
  refine ⟨?_, ?_⟩
  · show ε1.sq 64 ++ [] = _; rw [h, List.append_nil]
  · show ε1.sq 64 ++ [] = _; rw [h]
theorem nA : ∀ s : Nm, (none : Option Nm) = some s → (s = .c ∨ s = .f) ∧ D.atom s = none := fun _ h => by cases h
theorem nF : ∀ a k : Int, (none : Option (Int × Int)) = some (a, k) → D.fn a k = none := fun _ _ h => by cases h
inductive Alone_casesI (w : World) (ε : Eps) (D : Sy) (n : Nat) (g : Int) (r : List Tk) (t : Tm) : Prop
  | mk (gr : Grow) (f0 : Option (Int × Int)) (num : Int) (r' : List Tk) (t' : Tm)
    (h_0 : IsAlone gr)
    (h_1 : g.fmod 6 = gr.way)
    (h_2 : (∀ ε1 : Eps, ∀ r2 t2, Told ε ε1 num r r2 t t2 n → GrowOk w ε ε1 D n gr none f0 r' t'))
    (h_3 : r'.length ≤ r.length + 3)
    (h_4 : dpt t' ≤ dpt t + 2)
theorem alone_cases (ok : SyOk D n) (S : SymIs ε D n b) (g : Int) {r : List Tk} {t : Tm} (hp : Pt D r t) : Alone_casesI w ε D n g r t := by
  have h0 := Int.fmod_nonneg_of_pos g (b := 6) (by decide)
  have h6 := Int.fmod_lt_of_pos g (b := 6) (by decide)
  have at_ := fun s h1 h2 => ok.at_ s h1 h2
  have dN : ∀ s, s ≠ .c → s ≠ .f → ∀ ε1 : Eps, (∀ b q, ε1.dct b q = ε.dct b q) → DkOk w ε1 [dkN s] := fun s h1 h2 ε1 hd => dkN_ok S hd s (by rw [ok.at_ s h1 h2]; rfl)
  have cs : g.fmod 6 = 0 ∨ g.fmod 6 = 1 ∨ g.fmod 6 = 2 ∨ g.fmod 6 = 3 ∨ g.fmod 6 = 4 ∨ g.fmod 6 = 5 := by omega
  have pre : ∀ k : Nat, k < 2 → g.fmod 6 = k → Alone_casesI w ε D n g r t := fun k hk hw => by
    obtain ⟨fo, f0, num, v, q1, q2, q3⟩ := fn_case (w := w) S (atN (nm4 k)) 1
    refine ⟨_, f0, num, .op :: .name (nm4 k) :: (r ++ [.pu .rp]), .s1 v t, .pre k fo hk, hw, fun ε1 r2 t2 T => ?_, by simp, by simp [dpt]⟩
    obtain ⟨d1, d2, d3, d4, d5, d6⟩ := q1 ε1 T.dct T.raw T.num
    refine ⟨dk_app (dN _ (n4' hk).2.1 (n4' hk).2.2 ε1 T.dct) d1, d2, rfl, d4, (tx_old T.q64).1, (tx_old T.q64).2, ⟨rfl, rfl⟩, ⟨d5, d6⟩, ?_, ?_, rfl, ?_, nA, q3⟩
    · show rwT .op :: (rwT (.name (nm4 k))) :: (ε1.sq 62 ++ [rwT (.pu .rp)]) = _
      rw [T.q62, List.append_nil]
      simp only [rwL, rwL_app]
    · show AV.tup [.str (Str.ofString "s"), .int (.lit (ε1.ev (fnA fo))), .tup [.tup (ε1.pv 0)]] = _
      rw [d3, T.v0]; rfl
    · have hle := SyOk.le (D := D) (n := n) (f := ((ε.raw 2).length : Int)) nA q3
      exact .pre (n4' hk).1 (hle.atom _ _ (at_ _ (n4' hk).2.1 (n4' hk).2.2)) (q2 none) (hp.mono hle)
  rcases cs with hw | hw | hw | hw | hw | hw
  · exact pre 0 (by decide) hw
  · exact pre 1 (by decide) hw
  · obtain ⟨fo, f0, num, v, q1, q2, q3⟩ := fn_case (w := w) S 31 1
    refine ⟨_, f0, num, .op :: (r ++ [.name .q, .pu .rp]), .s1 v t, .post fo, hw, fun ε1 r2 t2 T => ?_, by simp, by simp [dpt]⟩
    obtain ⟨d1, d2, d3, d4, d5, d6⟩ := q1 ε1 T.dct T.raw T.num
    refine ⟨dk_app (dN .q (by decide) (by decide) ε1 T.dct) d1, d2, rfl, d4, (tx_old T.q64).1, (tx_old T.q64).2, ⟨rfl, rfl⟩, ⟨d5, d6⟩, ?_, ?_, rfl, ?_, nA, q3⟩
    · show rwT .op :: (ε1.sq 62 ++ [rwT (.name .q), rwT (.pu .rp)]) = _
      rw [T.q62, List.append_nil]
      simp only [rwL, rwL_app]
    · show AV.tup [.str (Str.ofString "s"), .int (.lit (ε1.ev (fnA fo))), .tup [.tup (ε1.pv 0)]] = _
      rw [d3, T.v0]; rfl
    · have hle := SyOk.le (D := D) (n := n) (f := ((ε.raw 2).length : Int)) nA q3
      exact .post (hle.atom _ _ (at_ .q (by decide) (by decide))) (q2 none) (hp.mono hle)
  · refine ⟨_, none, 0, .pu .lc :: (r ++ [.pu .rc]), .s1 9 t, .curly, hw, fun ε1 r2 t2 T => ?_, by simp, by simp [dpt]⟩
    refine ⟨dk_nilOk, ls_nilOk, rfl, rfl, (tx_old T.q64).1, (tx_old T.q64).2, ⟨rfl, rfl⟩, ⟨rfl, rfl⟩, ?_, ?_, rfl, .curly (hp.mono (SyOk.le nA nF)), nA, nF⟩
    · show rwT (.pu .lc) :: (ε1.sq 62 ++ [rwT (.pu .rc)]) = _
      rw [T.q62, List.append_nil]
      simp only [rwL, rwL_app]
    · show AV.tup [.str (Str.ofString "s"), .int (.lit 9), .tup [.tup (ε1.pv 0)]] = _
      rw [T.v0]; rfl
  · refine ⟨_, none, 0, .pu .lb :: (r ++ [.pu .rb]), .s2 0 t (.a 0), .list, hw, fun ε1 r2 t2 T => ?_, by simp, by simp [dpt]; omega⟩
    refine ⟨dk_nilOk, ls_nilOk, rfl, rfl, (tx_old T.q64).1, (tx_old T.q64).2, ⟨rfl, rfl⟩, ⟨rfl, rfl⟩, ?_, ?_, rfl, .list (hp.mono (SyOk.le nA nF)), nA, nF⟩
    · show rwT (.pu .lb) :: (ε1.sq 62 ++ [rwT (.pu .rb)]) = _
      rw [T.q62, List.append_nil]
      simp only [rwL, rwL_app]
    · show AV.tup [.str (Str.ofString "s"), .int (.lit 0), .tup [.tup (ε1.pv 0), nlA]] = _
      rw [T.v0]; rfl
  · obtain ⟨fo, f0, num, v, q1, q2, q3⟩ := fn_case (w := w) S 29 1
    refine ⟨_, f0, num, .name .u :: .oct :: (r ++ [.pu .rp]), .s1 v t, .call fo, hw, fun ε1 r2 t2 T => ?_, by simp, by simp [dpt]⟩
    obtain ⟨d1, d2, d3, d4, d5, d6⟩ := q1 ε1 T.dct T.raw T.num
    refine ⟨dk_app (dN .u (by decide) (by decide) ε1 T.dct) d1, d2, rfl, d4, (tx_old T.q64).1, (tx_old T.q64).2, ⟨rfl, rfl⟩, ⟨d5, d6⟩, ?_, ?_, rfl, ?_, nA, q3⟩
    · show rwT (.name .u) :: rwT .oct :: (ε1.sq 62 ++ [rwT (.pu .rp)]) = _
      rw [T.q62, List.append_nil]
      simp only [rwL, rwL_app]
    · show AV.tup [.str (Str.ofString "s"), .int (.lit (ε1.ev (fnA fo))), .tup [.tup (ε1.pv 0)]] = _
      rw [d3, T.v0]; rfl
    · have hle := SyOk.le (D := D) (n := n) (f := ((ε.raw 2).length : Int)) nA q3
      exact .call1 (hle.atom _ _ (at_ .u (by decide) (by decide))) (q2 none) (hp.mono hle)
theorem rwT_nsq (t : Tk) : isSq (rwT t) = false := by cases t <;> rfl
theorem rwT_sub (ε : Eps) (t : Tk) : (rwT t).sub ε = rwT t := by cases t <;> rfl
theorem dpt_pos (t : Tm) : 1 ≤ dpt t := by cases t <;> simp [dpt]
inductive Both_casesI (w : World) (ε : Eps) (D : Sy) (n : Nat) (g : Int) (r : List Tk) (r2 : List Tk) (t : Tm) (t2 : Tm) : Prop
  | mk (gr : Grow) (a0 : Option Nm) (f0 : Option (Int × Int)) (num : Int) (r' : List Tk) (t' : Tm)
    (h_0 : IsBoth n gr)
    (h_1 : g.fmod 7 = gr.way)
    (h_2 : (∀ ε1 : Eps, Told ε ε1 num r r2 t t2 n → GrowOk w ε ε1 D n gr a0 f0 r' t'))
    (h_3 : r'.length ≤ r.length + r2.length + 4)
    (h_4 : dpt t' ≤ max (dpt t) (dpt t2) + 2)
theorem both_cases (ok : SyOk D n) (S : SymIs ε D n b) (g : Int) {r r2 : List Tk} {t t2 : Tm} (hp : Pt D r t) (hp2 : Pt D r2 t2) : Both_casesI w ε D n g r r2 t t2 := by
  have h0 := Int.fmod_nonneg_of_pos g (b := 7) (by decide)
  have h7 := Int.fmod_lt_of_pos g (b := 7) (by decide)
  have at_ := fun s h1 h2 => ok.at_ s h1 h2
  have dN : ∀ s, s ≠ .c → s ≠ .f → ∀ ε1 : Eps, (∀ b q, ε1.dct b q = ε.dct b q) → DkOk w ε1 [dkN s] := fun s h1 h2 ε1 hd => dkN_ok S hd s (by rw [ok.at_ s h1 h2]; rfl)
  have cs : g.fmod 7 = 0 ∨ g.fmod 7 = 1 ∨ g.fmod 7 = 2 ∨ g.fmod 7 = 3 ∨ g.fmod 7 = 4 ∨ g.fmod 7 = 5 ∨ g.fmod 7 = 6 := by omega
  have rw2 : ∀ (ε1 : Eps) (num : Int), Told ε ε1 num r r2 t t2 n → ∀ (a mid z : Tk), AV.subs ε1 [rwT a, .sq 62, rwT mid, .sq 63, rwT z] = rwL (a :: (r ++ mid :: (r2 ++ [z]))) ++ [] := fun ε1 num T a mid z => by
    rw [AV.subs_cons (rwT_nsq a)]
    show _ :: (ε1.sq 62 ++ AV.subs ε1 [rwT mid, .sq 63, rwT z]) = _
    rw [AV.subs_cons (rwT_nsq mid)]
    show _ :: (ε1.sq 62 ++ _ :: (ε1.sq 63 ++ AV.subs ε1 [rwT z])) = _
    rw [AV.subs_cons (rwT_nsq z), T.q62, T.q63, rwT_sub, rwT_sub, rwT_sub, List.append_nil]
    simp only [rwL, rwL_app]
    rfl
  have tm2 : ∀ (ε1 : Eps) (num v : Int) (x : AI), Told ε ε1 num r r2 t t2 n → ε1.ev x = v → (s2A x (.opq 0) (.opq 1)).sub ε1 = (Tm.s2 v t t2).av := fun ε1 num v x T e => by
    show AV.tup [.str (Str.ofString "s"), .int (.lit (ε1.ev x)), .tup [.tup (ε1.pv 0), .tup (ε1.pv 1)]] = _
    rw [e, T.v0, T.v1]; rfl
  have inf : ∀ k : Nat, k < 2 → g.fmod 7 = k → Both_casesI w ε D n g r r2 t t2 := fun k hk hw => by
    obtain ⟨fo, f0, num, v, q1, q2, q3⟩ := fn_case (w := w) S (atN (nm4 (2 - k))) 2
    refine ⟨_, none, f0, num, .op :: (r ++ .name (nm4 (2 - k)) :: (r2 ++ [.pu .rp])), .s2 v t t2, .inf k fo hk, hw, fun ε1 T => ?_, by simp; omega, by simp [dpt]⟩
    obtain ⟨d1, d2, d3, d4, d5, d6⟩ := q1 ε1 T.dct T.raw T.num
    have hle := SyOk.le (D := D) (n := n) (f := ((ε.raw 2).length : Int)) nA q3
    exact ⟨dk_app (dN _ (n4'' hk).2.1 (n4'' hk).2.2 ε1 T.dct) d1, d2, rfl, d4, (tx_old T.q64).1, (tx_old T.q64).2, ⟨rfl, rfl⟩, ⟨d5, d6⟩, rw2 ε1 num T _ _ _, tm2 ε1 num v _ T d3, rfl, .inf (n4'' hk).1 (hle.atom _ _ (at_ _ (n4'' hk).2.1 (n4'' hk).2.2)) (q2 none) (hp.mono hle) (hp2.mono hle), nA, q3⟩
  have hle0 : SyLe D ((D.addA none n).addF none (ε.raw 2).length) := SyOk.le nA nF
  rcases cs with hw | hw | hw | hw | hw | hw | hw
  · exact inf 0 (by decide) hw
  · exact inf 1 (by decide) hw
  · exact ⟨_, none, none, 0, .op :: (r ++ .pu .comma :: (r2 ++ [.pu .rp])), .s2 1 t t2, .comma, hw, fun ε1 T => ⟨dk_nilOk, ls_nilOk, rfl, rfl, (tx_old T.q64).1, (tx_old T.q64).2, ⟨rfl, rfl⟩, ⟨rfl, rfl⟩, rw2 ε1 0 T _ _ _, tm2 ε1 0 1 _ T rfl, rfl, .comma (hp.mono hle0) (hp2.mono hle0), nA, nF⟩, by simp; omega, by simp [dpt]⟩
  · exact ⟨_, none, none, 0, .pu .lb :: (r ++ .pu .bar :: (r2 ++ [.pu .rb])), .s2 0 t t2, .bar, hw, fun ε1 T => ⟨dk_nilOk, ls_nilOk, rfl, rfl, (tx_old T.q64).1, (tx_old T.q64).2, ⟨rfl, rfl⟩, ⟨rfl, rfl⟩, rw2 ε1 0 T _ _ _, tm2 ε1 0 0 _ T rfl, rfl, .bar (hp.mono hle0) (hp2.mono hle0), nA, nF⟩, by simp; omega, by simp [dpt]⟩
  · refine ⟨_, none, none, 0, .pu .lb :: (r ++ .pu .comma :: (r2 ++ [.pu .rb])), .s2 0 t (.s2 0 t2 (.a 0)), .list, hw, fun ε1 T => ⟨dk_nilOk, ls_nilOk, rfl, rfl, (tx_old T.q64).1, (tx_old T.q64).2, ⟨rfl, rfl⟩, ⟨rfl, rfl⟩, rw2 ε1 0 T _ _ _, ?_, rfl, .list2 (hp.mono hle0) (hp2.mono hle0), nA, nF⟩, by simp; omega, by have := dpt_pos t2; simp [dpt]; omega⟩
    show AV.tup [.str (Str.ofString "s"), .int (.lit 0), .tup [.tup (ε1.pv 0), .tup [.str (Str.ofString "s"), .int (.lit 0), .tup [.tup (ε1.pv 1), nlA]]]] = _
    rw [T.v0, T.v1]; rfl
  · cases hf : D.atom .f with
    | some i =>
      obtain ⟨fo, f0, num, v, q1, q2, q3⟩ := fn_case (w := w) S i 2
      refine ⟨_, none, f0, num, .name .f :: .oct :: (r ++ .pu .comma :: (r2 ++ [.pu .rp])), .s2 v t t2, .fOld i fo (ok.cf .f (.inr rfl) i hf), hw, fun ε1 T => ?_, by simp; omega, by simp [dpt]⟩
      obtain ⟨d1, d2, d3, d4, d5, d6⟩ := q1 ε1 T.dct T.raw T.num
      have hle := SyOk.le (D := D) (n := n) (f := ((ε.raw 2).length : Int)) nA q3
      refine ⟨dk_app (dkN_ok S T.dct .f (by rw [hf]; rfl)) d1, d2, rfl, d4, (tx_old T.q64).1, (tx_old T.q64).2, ⟨rfl, rfl⟩, ⟨d5, d6⟩, ?_, tm2 ε1 num v _ T d3, rfl, .call2 (.inl rfl) (hle.atom _ _ hf) (q2 none) (hp.mono hle) (hp2.mono hle), nA, q3⟩
      show rwT (.name .f) :: AV.subs ε1 [rwT .oct, .sq 62, rwT (.pu .comma), .sq 63, rwT (.pu .rp)] = _
      rw [rw2 ε1 num T]
      rfl
    | none =>
      obtain ⟨fo, f0, num, v, q1, q2, q3⟩ := fn_case (w := w) S n 2
      have hA : ∀ s, (some Nm.f : Option Nm) = some s → (s = .c ∨ s = .f) ∧ D.atom s = none := fun s e => by cases e; exact ⟨.inr rfl, hf⟩
      refine ⟨_, some .f, f0, num, .name .f :: .oct :: (r ++ .pu .comma :: (r2 ++ [.pu .rp])), .s2 v t t2, .fNew fo (ok.free (.inr rfl) hf), hw, fun ε1 T => ?_, by simp; omega, by simp [dpt]⟩
      obtain ⟨d1, d2, d3, d4, d5, d6⟩ := q1 ε1 T.dct T.raw T.num
      have hle := SyOk.le (D := D) (n := n) (f := ((ε.raw 2).length : Int)) hA q3
      refine ⟨dk_app (dkN_ok S T.dct .f (by rw [hf]; rfl)) d1, d2, rfl, d4, anyL_sub ε1 n, anyL_subs ε1 _ n, ⟨rfl, rfl⟩, ⟨d5, d6⟩, ?_, tm2 ε1 num v _ T d3, rfl, .call2 (.inl rfl) ?_ (q2 _) (hp.mono hle) (hp2.mono hle), hA, q3⟩
      · show rwT (.name .f) :: AV.subs ε1 [rwT .oct, .sq 62, rwT (.pu .comma), .sq 63, rwT (.pu .rp)] = _
        rw [rw2 ε1 num T]
        rfl
      · show (if (some Nm.f : Option Nm) = some Nm.f then some (n : Int) else D.atom .f) = some (n : Int)
        rw [if_pos rfl]
  · obtain ⟨fo, f0, num, v, q1, q2, q3⟩ := fn_case (w := w) S 30 2
    refine ⟨_, none, f0, num, .name .w :: .oct :: (r ++ .pu .comma :: (r2 ++ [.pu .rp])), .s2 v t t2, .callW fo, hw, fun ε1 T => ?_, by simp; omega, by simp [dpt]⟩
    obtain ⟨d1, d2, d3, d4, d5, d6⟩ := q1 ε1 T.dct T.raw T.num
    have hle := SyOk.le (D := D) (n := n) (f := ((ε.raw 2).length : Int)) nA q3
    refine ⟨dk_app (dN .w (by decide) (by decide) ε1 T.dct) d1, d2, rfl, d4, (tx_old T.q64).1, (tx_old T.q64).2, ⟨rfl, rfl⟩, ⟨d5, d6⟩, ?_, tm2 ε1 num v _ T d3, rfl, .call2 (.inr rfl) (hle.atom _ _ (at_ .w (by decide) (by decide))) (q2 none) (hp.mono hle) (hp2.mono hle), nA, q3⟩
    show rwT (.name .w) :: AV.subs ε1 [rwT .oct, .sq 62, rwT (.pu .comma), .sq 63, rwT (.pu .rp)] = _
    rw [rw2 ε1 num T]
    rfl
end
end
section
open PySem PySem.W PySem.Calls PyProof.Rows
section
variable {prog : Program} {w : World} {O : Ops} {figs : List Int} {c : Cx} {kp : Led} {E : Value → Shared → Prop} {s : Shared} {m : Str → Option Value} {ε : Eps} {W : Wd} {hl : Led} {D : Sy} {n i b : Nat} {made : List (List Tk × Tm)}
theorem told_dd {ε : Eps} {i f k : Int} {figs : List Int} {made : List (List Tk × Tm)} {r1 r2 : List Tk} {t1 t2 : Tm} {n : Nat} {h : SqOk (ddSq figs made r1 r2 n)} : Told ε (ε.dd i f k figs made r1 r2 t1 t2 n h) k r1 r2 t1 t2 n := ⟨fun _ _ => rfl, rfl, rfl, rfl, rfl, rfl, rfl, rfl⟩
/-- the end of a deed that takes rows from the stack -/
theorem deed_grow (h : DOk ε D n i made) (hi : i ≤ 20) {ε1 : Eps} {W0 : Wd} (q : EqR ε1 ε) {m0 : List (List Tk × Tm)} {gr : Grow} {a0 : Option Nm} {f0 : Option (Int × Int)} {r' : List Tk} {t' : Tm} (e61 : ε1.sq 61 = mdL m0) (G : GrowOk w ε ε1 D n gr a0 f0 r' t')
    (hm : ∀ x ∈ m0, x ∈ made) (hsz : (m0.map (fun x => x.1.length)).sum + r'.length ≤ 3 + 4 * (i + 1)) (hdp : dpt t' ≤ 1 + 2 * (i + 1)) (hln : m0.length + 1 ≤ i + 1 + 1) (hw : ImLe W0 W) (el : subA ε1 locM = locMc figs)
    (p : Pre prog w ε {} 60 c W ⟨subA ε1 locM, subH ε1 (lwH gr.e0 gr.e1 (gr.tx ++ gr.xt) gr.ys [.sq 61, .tup [.fl gr.row, gr.term]] O), 40⟩ hl kp s.heap m) {tk : Nat} : DeedQ prog w O figs c kp W0 i s .next { s with toks := tk } := by
  have e2 : AV.subs ε1 [.sq 61, .tup [.fl gr.row, gr.term]] = mdL (m0 ++ [(r', t')]) ++ [] := by
    show ε1.sq 61 ++ [.tup (.fl (AV.subs ε1 gr.row) :: AV.subs ε1 [gr.term])] = _
    have e3 : mdL (m0 ++ [(r', t')]) ++ [] = mdL m0 ++ [mdT (r', t')] := by rw [List.append_nil, mdL_app]; rfl
    rw [AV.subs_cons G.nsq, e61, G.row, G.term, e3]
    rfl
  have p2 : Pre prog w ε {} 60 c W ⟨locMc figs, lwS (e0Of a0 n) (e1Of f0 ((ε.raw 2).length : Int)) (anyL n ++ gr.xt) (AV.subs ε1 gr.ys) ((15, .list none (mdL (m0 ++ [(r', t')]) ++ [])) :: opsC O), 40⟩ hl kp s.heap m := by
    rw [← e2, ← G.e0, ← G.e1, ← G.tx2, ← el]
    exact p
  have hle : SyLe D ((D.addA a0 n).addF f0 ((ε.raw 2).length : Int)) := SyOk.le G.a0 G.f0
  refine deed_fin h (by omega) hi G.a0 G.f0 ?_ ?_ G.ys.1 G.ys.2 ?_ ?_ ?_ (by simp) ?_ hw p2
  · exact plain_append (AV.cloL_plain (anyL_clo n)) G.xt.1
  · rw [List.length_append, anyL_len, G.xt.2]
  · intro x hx
    rcases List.mem_append.mp hx with hx | hx
    · exact (h.pts x (hm x hx)).mono hle
    · rw [List.mem_singleton.mp hx]; exact G.pt
  · rw [List.map_append, List.sum_append]
    simpa using hsz
  · intro x hx
    rcases List.mem_append.mp hx with hx | hx
    · have := h.dp x (hm x hx); omega
    · rw [List.mem_singleton.mp hx]; exact hdp
  · rw [List.length_append]; simp; omega
theorem deed_alone {m0 : List (List Tk × Tm)} {r : List Tk} {t : Tm} (h : DOk ε D n i (m0 ++ [(r, t)])) (hi : i ≤ 20) (hfl : figs.length ≤ 100) (hc : c.cs = lSc) {f : Int} (hj : figs[2 + i]? = some f) (ht : f.fmod 3 = 1)
    (p : Pre prog w ε {} 60 c W ⟨locMc figs ++ [g1 "step" (.int (.lit i))], lwH [] [] (anyL n) [] (mdL (m0 ++ [(r, t)]) ++ []) O, 40⟩ hl kp s.heap m) : wpAny (model prog w) c.A (execs (forBody 5) c.env) (DeedQ prog w O figs c kp W i s) E s := by
  obtain ⟨gr, f0, num, r', t', c1, c2, c3, c4, c5⟩ := alone_cases (w := w) h.ok h.sym (f.fdiv 3) (show Pt D r t from h.pts (r, t) (by simp))
  have hln := h.ln
  rw [List.length_append] at hln
  simp only [List.length_cons, List.length_nil] at hln
  have hsz := h.sz
  rw [List.map_append, List.sum_append] at hsz
  simp only [List.map_cons, List.map_nil, List.sum_cons, List.sum_nil] at hsz
  have hdp : dpt t ≤ 1 + 2 * i := h.dp (r, t) (by simp)
  have hsq : SqOk (ddSq figs m0 r [] n) := sqok_md h hfl (by omega) (by omega) (by simp)
  have G := c3 (ε.dd i f num figs m0 r [] t (.i 0) n hsq) [] (.i 0) told_dd
  have e1 : mdL (m0 ++ [(r, t)]) ++ [] = mdL m0 ++ [mdT (r, t)] := by rw [List.append_nil, mdL_app]; rfl
  rw [e1] at p
  have key : wpAny (model prog w) c.A (execs (forBody 5 ++ []) c.env) (DeedQ prog w O figs c kp W i s) E s := by
    refine blk_sim (rest := []) (ε := ε.dd i f num figs m0 r [] t (.i 0) n hsq) (s := s) (z_alone O c1) rfl hc put_eq
      ⟨G.ls, fun a i' hm => ?_, fun b k v hm => G.dk W b k v hm, fig_at (W := W) (k := 2 + i) (f := f) (by show (2 : Int) + (i : Int) = _; omega) (by omega) rfl hj rfl⟩ ?_ p fun W' hl' m' h' tk' hw p' => ?_
    · rcases List.mem_cons.mp hm with hm | hm
      · cases hm; exact ht
      · rw [List.mem_singleton] at hm
        cases hm; exact c2
    · show _ = AS.mk _ ((1, symI) :: (2, .dict 0 (some 0) []) :: (3, .dict 2 (some 1) []) :: (13, .list none (AV.subs (ε.dd i f num figs m0 r [] t (.i 0) n hsq) gr.tx)) :: (14, .list (some 2) []) :: (15, .list none (mdL m0 ++ [mdT (r, t)])) :: opsC O) 40
      rw [G.tx]
      rfl
    · exact wpAny_execs_nil (deed_grow (s := { s with heap := h' }) (i := i) (made := m0 ++ [(r, t)]) h hi put_eq rfl G (fun x hx => List.mem_append_left _ hx) (by omega) (by omega) (by omega) (selW_im hw) rfl p')
  rw [List.append_nil] at key
  exact key
theorem deed_both {m0 : List (List Tk × Tm)} {r r2 : List Tk} {t t2 : Tm} (h : DOk ε D n i (m0 ++ [(r, t), (r2, t2)])) (hi : i ≤ 20) (hfl : figs.length ≤ 100) (hc : c.cs = lSc) {f : Int} (hj : figs[2 + i]? = some f) (ht : f.fmod 3 = 2)
    (p : Pre prog w ε {} 60 c W ⟨locMc figs ++ [g1 "step" (.int (.lit i))], lwH [] [] (anyL n) [] (mdL (m0 ++ [(r, t), (r2, t2)]) ++ []) O, 40⟩ hl kp s.heap m) : wpAny (model prog w) c.A (execs (forBody 5) c.env) (DeedQ prog w O figs c kp W i s) E s := by
  obtain ⟨gr, a0, f0, num, r', t', c1, c2, c3, c4, c5⟩ := both_cases (w := w) h.ok h.sym (f.fdiv 3) (show Pt D r t from h.pts (r, t) (by simp)) (show Pt D r2 t2 from h.pts (r2, t2) (by simp))
  have hln := h.ln
  rw [List.length_append] at hln
  simp only [List.length_cons, List.length_nil] at hln
  have hsz := h.sz
  rw [List.map_append, List.sum_append] at hsz
  simp only [List.map_cons, List.map_nil, List.sum_cons, List.sum_nil] at hsz
  have hdp : dpt t ≤ 1 + 2 * i := h.dp (r, t) (by simp)
  have hdp2 : dpt t2 ≤ 1 + 2 * i := h.dp (r2, t2) (by simp)
  have hsq : SqOk (ddSq figs m0 r r2 n) := sqok_md h hfl (by omega) (by omega) (by omega)
  have G := c3 (ε.dd i f num figs m0 r r2 t t2 n hsq) told_dd
  have e1 : mdL (m0 ++ [(r, t), (r2, t2)]) ++ [] = mdL m0 ++ [mdT (r, t), mdT (r2, t2)] := by rw [List.append_nil, mdL_app]; rfl
  rw [e1] at p
  have key : wpAny (model prog w) c.A (execs (forBody 5 ++ []) c.env) (DeedQ prog w O figs c kp W i s) E s := by
    refine blk_sim (rest := []) (ε := ε.dd i f num figs m0 r r2 t t2 n hsq) (s := s) (z_both O c1) rfl hc put_eq
      ⟨fun x y b hm => ?_, fun a i' hm => ?_, fun b k v hm => G.dk W b k v hm, fig_at (W := W) (k := 2 + i) (f := f) (by show (2 : Int) + (i : Int) = _; omega) (by omega) rfl hj rfl⟩ ?_ p fun W' hl' m' h' tk' hw p' => ?_
    · rcases List.mem_cons.mp hm with hm | hm
      · cases hm
        refine decide_eq_false ?_
        show ¬ (((mdL m0).length + 2 : Nat) : Int) < 2
        omega
      · exact G.ls x y b hm
    · rcases List.mem_cons.mp hm with hm | hm
      · cases hm; exact ht
      · rw [List.mem_singleton] at hm
        cases hm; exact c2
    · show _ = AS.mk _ ((1, symI) :: (2, .dict 0 (some 0) []) :: (3, .dict 2 (some 1) []) :: (13, .list none (AV.subs (ε.dd i f num figs m0 r r2 t t2 n hsq) gr.tx)) :: (14, .list (some 2) []) :: (15, .list none (mdL m0 ++ [mdT (r, t), mdT (r2, t2)])) :: opsC O) 40
      rw [G.tx]
      rfl
    · exact wpAny_execs_nil (deed_grow (s := { s with heap := h' }) (i := i) (made := m0 ++ [(r, t), (r2, t2)]) h hi put_eq rfl G (fun x hx => List.mem_append_left _ hx) (by omega) (by omega) (by omega) (selW_im hw) rfl p')
  rw [List.append_nil] at key
  exact key
/-- one deed -/
theorem deed_turn (h : DOk ε D n i made) (hi : i ≤ 20) (hfl : figs.length ≤ 100) (hc : c.cs = lSc) {f : Int} (hj : figs[2 + i]? = some f)
    (p : Pre prog w ε {} 60 c W ⟨locMc figs ++ [g1 "step" (.int (.lit i))], lwH [] [] (anyL n) [] (mdL made ++ []) O, 40⟩ hl kp s.heap m) : wpAny (model prog w) c.A (execs (forBody 5) c.env) (DeedQ prog w O figs c kp W i s) E s := by
  have h0 := Int.fmod_nonneg_of_pos f (b := 3) (by decide)
  have h3 := Int.fmod_lt_of_pos f (b := 3) (by decide)
  have cs : f.fmod 3 = 0 ∨ f.fmod 3 = 1 ∨ f.fmod 3 = 2 := by omega
  have ne := h.ne
  rcases cs with ht | ht | ht
  · exact deed_leaf h hi hfl hc hj (.inl ht) p
  · obtain ⟨m0, x, rfl⟩ : ∃ m0 x, made = m0 ++ [x] := mk2_1 made.dropLast (made.getLast ne) ((List.dropLast_concat_getLast ne).symm)
    exact deed_alone h hi hfl hc hj ht p
  · by_cases hl2 : made.length < 2
    · exact deed_leaf h hi hfl hc hj (.inr ⟨ht, hl2⟩) p
    · obtain ⟨m1, x, rfl⟩ : ∃ m0 x, made = m0 ++ [x] := mk2_1 made.dropLast (made.getLast ne) ((List.dropLast_concat_getLast ne).symm)
      have ne1 : m1 ≠ [] := fun e => by subst e; simp at hl2
      obtain ⟨m0, y, rfl⟩ : ∃ m0 y, m1 = m0 ++ [y] := mk2_1 m1.dropLast (m1.getLast ne1) ((List.dropLast_concat_getLast ne1).symm)
      have e : m0 ++ [y] ++ [x] = m0 ++ [y, x] := by simp
      rw [e] at h p
      exact deed_both h hi hfl hc hj ht p
end
end
section
open PySem PySem.W PySem.Calls PyProof.Rows
section
variable {prog : Program} {w : World} {F : Facts} {c : Cx} {W : Wd} {hl kp : Led} {m : Str → Option Value} {s : Shared} {sc : Scope}
theorem LStep.mono {n : Nat} {W W' : Wd} {I : Addr} {it : Obj} {Inv : Eps → Facts → Wd → AS → Prop} {Q : Flow → Shared → Prop} {f : Flow} {s' : Shared} (hw : ImLe W W') (h : LStep prog w n c W' kp I it Inv Q s f s') : LStep prog w n c W kp I it Inv Q s f s' := by
  rcases f with _ | _ | _ | v
  case ret => exact h
  case brk => exact h
  all_goals
    obtain ⟨ε', F', W'', hl', σ', m', h', tk', h1, h2, h3, h4⟩ := h
    exact ⟨ε', F', W'', hl', σ', m', h', tk', h1, hw.trans h2, h3, h4⟩
/-- a loop over range(e) -/
theorem for_range {ε₀ ε1 : Eps} {σ σ₀ : AS} {x g : Str} {px gp cp pos : Pos} {e : Expr} {body : List Stmt} {a : AI} {k : Nat} {Q : Flow → Shared → Prop} (hx : sc.names.lookup x = some .local) (hg : sc.names.lookup g = some .globalImplicit) (hgr : sB g (Str.ofString "range") = true) (hn : nameV sc σ (Str.ofString "range") = some (.stat (.type "range"))) (hst : isStar e = false) (hc : c.cs = sc)
    (q : EqR ε1 ε₀) (fk : FOk w ε1 F W) (es : σ₀ = σ.sub ε1) (ev : evs (xRun F 59) sc [e] σ = some ([.int a], σ)) (hk : ε1.ev a = (k : Int)) (hk2 : k < 1000000) (p : Pre prog w ε₀ {} 60 c W σ₀ hl kp s.heap m)
    (Inv : Nat → Eps → Facts → Wd → AS → Prop) (h0 : ∀ W1, ImLe W W1 → Inv 0 ε₀ {} W1 σ₀)
    (step : ∀ i I ε' F' W' W3 hl' σ' it m₁ h₁ tk₁, i < k → ImLe W W' → W'.Le W3 → Pre prog w ε' F' 60 c W3 { σ' with loc := put σ'.loc x (.int (.lit i)) } hl' ((I, it) :: kp) h₁ m₁ → Inv i ε' F' W' σ' →
      wpAny (model prog w) c.A (execs body c.env) (LStep prog w 60 c W3 kp I it (Inv (i + 1)) Q s) (fun _ _ => False) { s with heap := h₁, toks := tk₁ })
    (done : ∀ ε' F' W' hl' σ' m' h' tk', ImLe W W' → Pre prog w ε' F' 60 c W' σ' hl' kp h' m' → Inv k ε' F' W' σ' → Q .next { s with heap := h', toks := tk' }) :
    wpAny (model prog w) c.A (exec (.For (.Name x px) (.Call (.Name g gp) [e] [] cp) body [] pos) c.env) Q (fun _ _ => False) s := by
  have hge := sB_eq hgr
  subst hge
  have S := snd_run prog w ε1 F 59
  refine For_turns p.st.fr ?_ (fun _ => rfl) PassesOwn.never
  show wpAny (model prog w) c.A (do callWith cp (← eval (.Name (Str.ofString "range") gp) c.env) [] (backTo cp (starEach [e] c.env)) (backToKw cp (keywordEach [] c.env))) _ _ s
  have hns : noStars [e] = true := Bool.and_eq_true_iff.mpr ⟨by rw [hst]; rfl, rfl⟩
  refine wpAny_bind (name_snd hc hn (Pre.opn q fk es p) fun W0 hl0 m0 h0' tk0 hw0 p0 u0 r0 => ?_)
  refine R.statE r0 ?_
  refine callWith_list (s := { s with heap := h0', toks := tk0 }) (P := fun _ => True) hns keeps_ty (S.evs (s := { s with heap := h0', toks := tk0 }) hc ev hns p0 fun W1 hl1 m1 h1 tk1 hw1 p1 us1 rus => ⟨True.intro, ?_⟩)
  refine Rl.oneE rus fun u ru => R.intE ru fun t => ?_
  rw [hk]
  have p2 : Pre prog w ε₀ {} 60 c W1 σ₀ hl1 kp h1 m1 := by rw [es]; exact p1.close q fok0
  refine call_range_1 (s := { s with heap := h1, toks := tk1 }) ?_
  have hr := IsRange.new h1 0 k 1 tk1 t (tk1 + 1)
  refine loop_range (s := { s with heap := h1.push _, toks := tk1 + 1 + 1 }) hr hk2 (p2.push _) (fun i v s Q E I q => letGo_name q) Inv (h0 W1 (hw0.trans hw1).i) ?_ ?_
  · intro i tk I ε' F' W' hl' σ' it m₁ h₁ tk₁ hi hw p' hinv
    refine assign_Name (store_snd (s := { s with heap := h₁, toks := tk₁ }) (u := .int (i : Int) tk) (v := .int (.lit i)) (by rw [hc]; exact hx) (.int (.lit i) tk) p' fun W3 hl3 m3 h3 tk3 hw3 p3 => ?_)
    exact wpAny_mono (step i I ε' F' W' W3 hl3 σ' it m3 h3 tk3 hi ((hw0.trans hw1).i.trans hw) hw3 p3 hinv) (fun f s' z => LStep.mono hw3.i z) (fun _ _ z => z)
  · intro ε' F' W' hl' σ' m' h' tk' hw p' hinv
    exact done ε' F' W' hl' σ' m' h' tk' ((hw0.trans hw1).i.trans hw) p' hinv
end
end
section
open PySem PySem.W PySem.Calls PyProof.Rows
noncomputable def prio (f : Int) : Int := 1 + (f * 313).fmod 1200
theorem prio_ok (f : Int) : 1 ≤ prio f ∧ prio f ≤ 1200 := by
  have h0 := Int.fmod_nonneg_of_pos (f * 313) (b := 1200) (by decide)
  have h1 := Int.fmod_lt_of_pos (f * 313) (b := 1200) (by decide)
  unfold prio
  omega
noncomputable def vOf (f : Int) (k : Int) : Nat := ((f.fdiv 3).fmod k).toNat
theorem vOf_lt (f : Int) {k : Nat} (hk : 0 < k) : vOf f k < k ∧ (f.fdiv 3).fmod k = (vOf f k : Int) := by
  have h0 := Int.fmod_nonneg_of_pos (f.fdiv 3) (b := (k : Int)) (by omega)
  have h1 := Int.fmod_lt_of_pos (f.fdiv 3) (b := (k : Int)) (by omega)
  unfold vOf
  omega
noncomputable def opsOf (figs : List Int) : Ops where
  u := (prio (figs.getD 10 0), ty0 (vOf (figs.getD 10 0) 2))
  p := (prio (figs.getD 11 0), ty1 (vOf (figs.getD 11 0) 2))
  w := (prio (figs.getD 12 0), ty2 (vOf (figs.getD 12 0) 3))
  i := (prio (figs.getD 13 0), ty3 (vOf (figs.getD 13 0) 3))
  q := (prio (figs.getD 14 0), ty4 (vOf (figs.getD 14 0) 2))
theorem opsOf_ok (figs : List Int) : (opsOf figs).Ok := by
  have t0 : ∀ v, ty0 v = .fx ∨ ty0 v = .fy := fun v => by unfold ty0; split <;> simp
  have t1 : ∀ v, ty1 v = .fx ∨ ty1 v = .fy := fun v => by unfold ty1; split <;> simp
  have t2 : ∀ v, ty2 v = .xfx ∨ ty2 v = .xfy ∨ ty2 v = .yfx := fun v => by unfold ty2; split <;> simp
  have t3 : ∀ v, ty3 v = .xfx ∨ ty3 v = .xfy ∨ ty3 v = .yfx := fun v => by unfold ty3; split <;> simp
  have t4 : ∀ v, ty4 v = .xf ∨ ty4 v = .yf := fun v => by unfold ty4; split <;> simp
  have k : ∀ j, 1 ≤ prio (figs.getD j 0) ∧ prio (figs.getD j 0) ≤ 1200 := fun j => prio_ok _
  exact { u := ⟨(k 10).1, (k 10).2, t0 _⟩, p := ⟨(k 11).1, (k 11).2, t1 _⟩, w := ⟨(k 12).1, (k 12).2, t2 _⟩, i := ⟨(k 13).1, (k 13).2, t3 _⟩, q := ⟨(k 14).1, (k 14).2, t4 _⟩ }
noncomputable def locSc (figs : List Int) : List (Str × AV) := [g1 "figures" (.fl (fgV figs ++ [])), g1 "book" (.obj 1), g1 "operators" (.obj 4)]
theorem locSc_clo (figs : List Int) : cloA (locSc figs) = true := by
  have e : AV.cloL (fgV figs ++ []) = true := by rw [List.append_nil]; exact fgV_clo _
  simp only [locSc, cloA, g1, AV.clo, e]; rfl
section
variable {prog : Program} {w : World} {O : Ops} {figs : List Int} {c : Cx} {kp : Led} {E : Value → Shared → Prop} {s : Shared} {m : Str → Option Value} {ε : Eps} {W : Wd} {hl : Led} {D : Sy} {n i b : Nat}
theorem blk_one {F : Facts} {nn : Nat} {sc : Scope} {σ σ₀ : AS} {ε₀ : Eps} {F₀ : Facts} {body : List Stmt} {sel : List (Nat × Nat)} {xs : List Str} {loc' : List (Str × AV)} {hp' : List (Nat × AO)} {Q : Flow → Shared → Prop}
    (e : blkS F nn sc body sel [] xs σ = some (loc', hp')) (hs : selOk sel = true) (hc : c.cs = sc) (q : EqR ε ε₀) (fk : FOk w ε F W) (es : σ₀ = σ.sub ε) (p : Pre prog w ε₀ F₀ nn c W σ₀ hl kp s.heap m)
    (k : ∀ W' hl' m' h' tk', W.Le W' → Pre prog w ε₀ {} nn c (W'.selW sel) ⟨subA ε loc', subH ε hp', 40⟩ hl' kp h' m' → Q .next { s with heap := h', toks := tk' }) : wpAny (model prog w) c.A (execs body c.env) Q E s := by
  have key : wpAny (model prog w) c.A (execs (body ++ []) c.env) Q E s := blk_sim (rest := []) e hs hc q fk es p fun W' hl' m' h' tk' hw p' => wpAny_execs_nil (k W' hl' m' h' tk' hw p')
  rw [List.append_nil] at key
  exact key
theorem sq60 (hfl : figs.length ≤ 100) : SqOk [(60, fgV figs)] := .cons (fgV_clo _) (fgV_lf _) (by rw [fgV_len]; omega) .nil
noncomputable def Eps.five (ε : Eps) (f : Int) (figs : List Int) (h : SqOk [(60, fgV figs)]) : Eps := ε.put [(2, f)] [(60, fgV figs)] [] h .nil
noncomputable def FiveQ (prog : Program) (w : World) (figs : List Int) (c : Cx) (kp : Led) (W : Wd) (D' : Sy) (n' b' : Nat) (restB : List (Nat × AO)) (s : Shared) (f : Flow) (s' : Shared) : Prop :=
  f = .next ∧ ∃ ε' W' hl' m' h' tk', s' = { s with heap := h', toks := tk' } ∧ ImLe W W' ∧ SymIs ε' D' n' b' ∧ Pre prog w ε' {} 60 c W' ⟨locSc figs, lwS [] [] (anyL n') [] restB, 40⟩ hl' kp h' m'
/-- one of the five fixities -/
theorem five_step (S : SymIs ε D n b) (hn : n ≤ 100) (hb : b ≤ 100) (hfl : figs.length ≤ 100) (hc : c.cs = lSc) {a0 : Option Nm} {xt : List AV} {ra rb restA restB : List (Nat × AO)} {f len v : Int} {dk : List (Nat × AKey × Option AV)} {i : Nat} {bd : List Stmt}
    (e : blkS (F5 i len v dk) 60 lSc bd sel7 [] xsS ⟨locI i, lwS [] [] (anyL n) [] ra, 40⟩ = some (locS, lwS (e0Of a0 n) [] (anyL n ++ xt) [] rb)) (hi : i < 5) (hj : figs[10 + i]? = some f) (hv : (f.fdiv 3).fmod len = v) (hdk : ∀ b k v, (b, k, v) ∈ dk → ∃ s, b = 0 ∧ k = nmK s ∧ v = (D.atom s).map (fun i => AV.int (.lit i)))
    (hx : plainL xt = true) (hxl : xt.length = cnt1 a0) (hxs : ∀ ε1, AV.subs ε1 xt = xt)
    (ea : subH (ε.five f figs (sq60 hfl)) ra = restA) (eb : subH (ε.five f figs (sq60 hfl)) rb = restB) (hr1 : cloH restB = true) (hr2 : ∀ ε', sameH ε ε' restB)
    (p : Pre prog w ε {} 60 c W ⟨locSc figs ++ [g1 "step" (.int (.lit i))], lwS [] [] (anyL n) [] restA, 40⟩ hl kp s.heap m) :
    wpAny (model prog w) c.A (execs bd c.env) (FiveQ prog w figs c kp W ((D.addA a0 n).addF none 0) (n + cnt1 a0) (b + 1) restB s) E s := by
  have fk : FOk w (ε.five f figs (sq60 hfl)) (F5 i len v dk) W := by
    refine ⟨fun x y b hm => ?_, fun a i' hm => ?_, fun b k v hm => ?_, fun k' e' v' hm => ?_⟩
    · have hm' : (x, y, b) ∈ [(AI.lit 0, prA, true)] := hm
      simp only [List.mem_cons, List.not_mem_nil, or_false, Prod.mk.injEq] at hm'
      (refine ex0_3 (hm') ?_; rintro rfl rfl rfl)
      refine decide_eq_true ?_
      show (0 : Int) < prio f
      have := (prio_ok f).1
      omega
    · have hm' : (a, i') ∈ [(AI.mod (.fdiv (.sym 2) (.lit 3)) (.lit len), v)] := hm
      simp only [List.mem_cons, List.not_mem_nil, or_false, Prod.mk.injEq] at hm'
      (refine ex0_2 (hm') ?_; rintro rfl rfl)
      exact hv
    · exact dk_of (ε1 := ε.five f figs (sq60 hfl)) S (fun _ => rfl) (hdk b k v hm)
    · exact fig_at (W := W) (k := 10 + i) (f := f) (sy := 2) (e := .lit (10 + (i : Int))) (by show (10 : Int) + (i : Int) = _; omega) (by omega) rfl hj rfl k' e' v' hm
  have es : (⟨locSc figs ++ [g1 "step" (.int (.lit i))], lwS [] [] (anyL n) [] restA, 40⟩ : AS) = AS.sub (ε.five f figs (sq60 hfl)) ⟨locI i, lwS [] [] (anyL n) [] ra, 40⟩ := by
    rw [← ea]
    show _ = AS.mk _ ((1, symI) :: (2, .dict 0 (some 0) []) :: (3, .dict 2 (some 1) []) :: (13, .list none (AV.subs (ε.five f figs (sq60 hfl)) (anyL n))) :: (14, .list (some 2) []) :: subH (ε.five f figs (sq60 hfl)) ra) 40
    rw [anyL_sub]
    rfl
  have e0 : subK (ε.five f figs (sq60 hfl)) (e0Of a0 n) = e0Of a0 n := by cases a0 <;> rfl
  have ex : AV.subs (ε.five f figs (sq60 hfl)) (anyL n ++ xt) = anyL n ++ xt := by rw [anyL_subs, hxs]
  have fin : ∀ W' hl' m' h' tk', W.Le W' → Pre prog w ε {} 60 c (W'.selW sel7) ⟨subA (ε.five f figs (sq60 hfl)) locS, subH (ε.five f figs (sq60 hfl)) (lwS (e0Of a0 n) [] (anyL n ++ xt) [] rb), 40⟩ hl' kp h' m' → FiveQ prog w figs c kp W ((D.addA a0 n).addF none 0) (n + cnt1 a0) (b + 1) restB s .next { s with heap := h', toks := tk' } := fun W' hl' m' h' tk' hw p' => by
    have p2 : Pre prog w ε {} 60 c (W'.selW sel7) ⟨locSc figs, lwS (e0Of a0 n) (e1Of none 0) (anyL n ++ xt) [] restB, 40⟩ hl' kp h' m' := by
      rw [← e0, ← ex, ← eb]
      assumption
    (refine ex1_4 (sym_fin S (by omega) (by omega) (Int.le_refl 0) (locSc_clo figs) hr1 hr2 (plain_append (AV.cloL_plain (anyL_clo n)) hx) (by rw [List.length_append, anyL_len, hxl]) rfl rfl p2) ?_; rintro ε' S' p3 _ _)
    exact ⟨rfl, ε', _, hl', m', h', tk', rfl, selW_im hw, S', p3⟩
  have key := @blk_one prog w c kp E s m (ε.five f figs (sq60 hfl)) W hl (F5 i len v dk) 60 lSc ⟨locI i, lwS [] [] (anyL n) [] ra, 40⟩ _ ε {} bd sel7 xsS _ _ (FiveQ prog w figs c kp W ((D.addA a0 n).addF none 0) (n + cnt1 a0) (b + 1) restB s) e rfl hc put_eq fk es p fin
  assumption
end
end
section
open PySem PySem.W PySem.Calls PyProof.Rows
noncomputable def restK (O : Ops) : Nat → List (Nat × AO)
  | 0 => rest5 dE (d1 [cmE]) dE
  | 1 => rest5 (d1 [(.i 29, entC O.u)]) (d1 [cmE]) dE
  | 2 => rest5 (d1 [(.i 29, entC O.u), (.i 4, entC O.p)]) (d1 [cmE]) dE
  | 3 => rest5 (d1 [(.i 29, entC O.u), (.i 4, entC O.p)]) (d1 [cmE, (.i 30, entC O.w)]) dE
  | 4 => rest5 (d1 [(.i 29, entC O.u), (.i 4, entC O.p)]) (d1 [cmE, (.i 30, entC O.w), (.i 4, entC O.i)]) dE
  | _ => opsC O
noncomputable def n5 : Nat → Nat
  | 0 => 29
  | 1 => 30
  | 2 => 30
  | 3 => 31
  | 4 => 31
  | _ => 32
noncomputable def a5 (k : Nat) : Nm → Option Int
  | .plus => some 4
  | .u => if Nat.ble 1 k then some 29 else none
  | .w => if Nat.ble 3 k then some 30 else none
  | .q => if Nat.ble 5 k then some 31 else none
  | _ => none
section
variable {prog : Program} {w : World} {figs : List Int} {c : Cx} {kp : Led} {E : Value → Shared → Prop} {s : Shared} {m : Str → Option Value} {ε : Eps} {W : Wd} {hl : Led} {D : Sy}
noncomputable def TurnF (prog : Program) (w : World) (figs : List Int) (c : Cx) (kp : Led) (W : Wd) (k : Nat) (s : Shared) (f : Flow) (s' : Shared) : Prop :=
  f = .next ∧ ∃ ε' W' hl' m' h' tk' D', s' = { s with heap := h', toks := tk' } ∧ ImLe W W' ∧ SymIs ε' D' (n5 k) (32 + k) ∧ (∀ s, D'.atom s = a5 k s) ∧ D'.fn 7 2 = some 1 ∧ Pre prog w ε' {} 60 c W' ⟨locSc figs, lwS [] [] (anyL (n5 k)) [] (restK (opsOf figs) k), 40⟩ hl' kp h' m'
theorem dk_one {D : Sy} {s : Nm} {o : Option Int} (h : D.atom s = o) : ∀ b k v, (b, k, v) ∈ [((0 : Nat), nmK s, o.map (fun i => AV.int (.lit i)))] → ∃ s, b = 0 ∧ k = nmK s ∧ v = (D.atom s).map (fun i => AV.int (.lit i)) := fun b k v hm => by
  simp only [List.mem_cons, List.not_mem_nil, or_false, Prod.mk.injEq] at hm
  obtain ⟨rfl, rfl, rfl⟩ := hm
  exact ⟨s, rfl, rfl, by rw [h]⟩
theorem getD_some {l : List Int} {k : Nat} (h : k < l.length) : l[k]? = some (l.getD k 0) := by
  rw [List.getD_eq_getElem?_getD, List.getElem?_eq_getElem h]; rfl
theorem clo5 (O : Ops) (k : Nat) : cloH (restK O k) = true := by
  match k with
  | 0 => rfl
  | 1 => rfl
  | 2 => rfl
  | 3 => rfl
  | 4 => rfl
  | _ + 5 => rfl
theorem same5 (O : Ops) (k : Nat) (ε ε' : Eps) : sameH ε ε' (restK O k) := by
  match k with
  | 0 => exact ⟨trivial, fun _ h => (nomatch h), fun _ h => (nomatch h), fun _ h => (nomatch h), trivial⟩
  | 1 => exact ⟨trivial, fun _ h => (nomatch h), fun _ h => (nomatch h), fun _ h => (nomatch h), trivial⟩
  | 2 => exact ⟨trivial, fun _ h => (nomatch h), fun _ h => (nomatch h), fun _ h => (nomatch h), trivial⟩
  | 3 => exact ⟨trivial, fun _ h => (nomatch h), fun _ h => (nomatch h), fun _ h => (nomatch h), trivial⟩
  | 4 => exact ⟨trivial, fun _ h => (nomatch h), fun _ h => (nomatch h), fun _ h => (nomatch h), trivial⟩
  | _ + 5 => exact ⟨trivial, fun _ h => (nomatch h), fun _ h => (nomatch h), fun _ h => (nomatch h), trivial⟩
theorem z_5_1' (u : Int × Ty) (v : Nat) (h : v < 2) : blkS (F5 1 2 v [(0, nmK .plus, some (.int (.lit 4)))]) 60 lSc (forBody 3) sel7 [] xsS ⟨locI 1, lwS [] [] (anyL 30) [] (rest5 (d1 [(.i 29, entC u)]) (d1 [cmE]) dE), 40⟩ =
    some (locS, lwS (e0Of none 30) [] (anyL 30 ++ []) [] (rest5 (d1 [(.i 29, entC u), (.i 4, entP (ty1 v))]) (d1 [cmE]) dE)) := by rw [List.append_nil]; exact z_5_1 u v h
theorem z_5_3' (u p w : Int × Ty) (v : Nat) (h : v < 3) : blkS (F5 3 3 v [(0, nmK .plus, some (.int (.lit 4)))]) 60 lSc (forBody 3) sel7 [] xsS ⟨locI 3, lwS [] [] (anyL 31) [] (rest5 (d1 [(.i 29, entC u), (.i 4, entC p)]) (d1 [cmE, (.i 30, entC w)]) dE), 40⟩ =
    some (locS, lwS (e0Of none 31) [] (anyL 31 ++ []) [] (rest5 (d1 [(.i 29, entC u), (.i 4, entC p)]) (d1 [cmE, (.i 30, entC w), (.i 4, entP (ty3 v))]) dE)) := by rw [List.append_nil]; exact z_5_3 u p w v h
theorem five_turn {i : Nat} (S : SymIs ε D (n5 i) (32 + i)) (hD : ∀ s, D.atom s = a5 i s) (h7 : D.fn 7 2 = some 1) (hl5 : figs.length = 15) (hc : c.cs = lSc) (hi : i < 5) {bd : List Stmt} (hb : forBody 3 = bd)
    (p : Pre prog w ε {} 60 c W ⟨locSc figs ++ [g1 "step" (.int (.lit i))], lwS [] [] (anyL (n5 i)) [] (restK (opsOf figs) i), 40⟩ hl kp s.heap m) : wpAny (model prog w) c.A (execs bd c.env) (TurnF prog w figs c kp W (i + 1) s) E s := by
  have hj := getD_some (l := figs) (k := 10 + i) (by omega)
  have hfl : figs.length ≤ 100 := by omega
  have fn7 : ∀ a0 n, ((D.addA a0 n).addF none 0).fn 7 2 = some 1 := fun a0 n => by
    show (if (none : Option (Int × Int)) = some (7, 2) then some 0 else D.fn 7 2) = some 1
    rw [if_neg (by simp)]; exact h7
  have v2 := vOf_lt (figs.getD (10 + i) 0) (k := 2) (by decide)
  have v3 := vOf_lt (figs.getD (10 + i) 0) (k := 3) (by decide)
  have cs : i = 0 ∨ i = 1 ∨ i = 2 ∨ i = 3 ∨ i = 4 := by omega
  rcases cs with rfl | rfl | rfl | rfl | rfl
  · skip
    have e0 := z_5_0 (vOf (figs.getD 10 0) 2) v2.1
    rw [hb] at e0
    refine wpAny_mono (five_step (restB := restK (opsOf figs) 1) (a0 := some .u) S (by decide) (by decide) hfl hc e0 (by decide) hj v2.2 (dk_one (hD .u)) rfl rfl (fun _ => rfl) rfl rfl (clo5 _ _) (fun _ => same5 _ _ _ _) p) (fun f s' z => ?_) (fun _ _ z => z)
    obtain ⟨rfl, ε', W', hl', m', h', tk', rfl, h1, h2, h3⟩ := z
    exact ⟨rfl, ε', W', hl', m', h', tk', _, rfl, h1, h2, fun s => by cases s <;> first | rfl | exact hD _, fn7 _ _, h3⟩
  · skip
    have e0 := z_5_1' (opsOf figs).u (vOf (figs.getD 11 0) 2) v2.1
    rw [hb] at e0
    refine wpAny_mono (five_step (restB := restK (opsOf figs) 2) (a0 := none) (xt := []) S (by decide) (by decide) hfl hc e0 (by decide) hj v2.2 (dk_one (hD .plus)) rfl rfl (fun _ => rfl) rfl rfl (clo5 _ _) (fun _ => same5 _ _ _ _) p) (fun f s' z => ?_) (fun _ _ z => z)
    obtain ⟨rfl, ε', W', hl', m', h', tk', rfl, h1, h2, h3⟩ := z
    exact ⟨rfl, ε', W', hl', m', h', tk', _, rfl, h1, h2, fun s => by cases s <;> first | rfl | exact hD _, fn7 _ _, h3⟩
  · skip
    have e0 := z_5_2 (opsOf figs).u (opsOf figs).p (vOf (figs.getD 12 0) 3) v3.1
    rw [hb] at e0
    refine wpAny_mono (five_step (restB := restK (opsOf figs) 3) (a0 := some .w) S (by decide) (by decide) hfl hc e0 (by decide) hj v3.2 (dk_one (hD .w)) rfl rfl (fun _ => rfl) rfl rfl (clo5 _ _) (fun _ => same5 _ _ _ _) p) (fun f s' z => ?_) (fun _ _ z => z)
    obtain ⟨rfl, ε', W', hl', m', h', tk', rfl, h1, h2, h3⟩ := z
    exact ⟨rfl, ε', W', hl', m', h', tk', _, rfl, h1, h2, fun s => by cases s <;> first | rfl | exact hD _, fn7 _ _, h3⟩
  · skip
    have e0 := z_5_3' (opsOf figs).u (opsOf figs).p (opsOf figs).w (vOf (figs.getD 13 0) 3) v3.1
    rw [hb] at e0
    refine wpAny_mono (five_step (restB := restK (opsOf figs) 4) (a0 := none) (xt := []) S (by decide) (by decide) hfl hc e0 (by decide) hj v3.2 (dk_one (hD .plus)) rfl rfl (fun _ => rfl) rfl rfl (clo5 _ _) (fun _ => same5 _ _ _ _) p) (fun f s' z => ?_) (fun _ _ z => z)
    obtain ⟨rfl, ε', W', hl', m', h', tk', rfl, h1, h2, h3⟩ := z
    exact ⟨rfl, ε', W', hl', m', h', tk', _, rfl, h1, h2, fun s => by cases s <;> first | rfl | exact hD _, fn7 _ _, h3⟩
  · skip
    have e0 := z_5_4 (opsOf figs).u (opsOf figs).p (opsOf figs).w (opsOf figs).i (vOf (figs.getD 14 0) 2) v2.1
    rw [hb] at e0
    refine wpAny_mono (five_step (restB := restK (opsOf figs) 5) (a0 := some .q) S (by decide) (by decide) hfl hc e0 (by decide) hj v2.2 (dk_one (hD .q)) rfl rfl (fun _ => rfl) rfl rfl (clo5 _ _) (fun _ => same5 _ _ _ _) p) (fun f s' z => ?_) (fun _ _ z => z)
    obtain ⟨rfl, ε', W', hl', m', h', tk', rfl, h1, h2, h3⟩ := z
    exact ⟨rfl, ε', W', hl', m', h', tk', _, rfl, h1, h2, fun s => by cases s <;> first | rfl | exact hD _, fn7 _ _, h3⟩
end
end
section
open PySem PySem.W PySem.Calls PyProof.Rows
section
variable {prog : Program} {w : World} {O : Ops} {figs : List Int} {c : Cx} {kp : Led} {E : Value → Shared → Prop} {s : Shared} {m : Str → Option Value} {ε : Eps} {W : Wd} {hl : Led} {D : Sy}
theorem SymIs.mono {n b b' : Nat} (h : SymIs ε D n b) (hb : b ≤ b') : SymIs ε D n b' := ⟨h.atom, h.fn, h.d0, Nat.le_trans h.d1 hb, Nat.le_trans h.r2 hb⟩
theorem syok5 (hD : ∀ s, D.atom s = a5 5 s) (h7 : D.fn 7 2 = some 1) : SyOk D 32 := by
  refine ⟨fun s h1 h2 => ?_, fun s h i e => ?_, ?_, h7⟩
  · rw [hD]; cases s <;> first | rfl | exact absurd rfl h1 | exact absurd rfl h2
  · rw [hD] at e; rcases h with rfl | rfl <;> cases e
  · rw [hD, hD]; rfl
noncomputable def LeafQ (prog : Program) (w : World) (O : Ops) (figs : List Int) (c : Cx) (kp : Led) (rest : List Stmt) (Q : Flow → Shared → Prop) (E : Value → Shared → Prop) (s : Shared) : Prop := ∀ ε' W' hl' m' h' tk' D' n' made', DOk ε' D' n' 0 made' → Pre prog w ε' {} 60 c W' ⟨locMc figs, lwH [] [] (anyL n') [] (mdL made' ++ []) O, 40⟩ hl' kp h' m' → wpAny (model prog w) c.A (execs rest c.env) Q E { s with heap := h', toks := tk' }
theorem leaf_start {b : Nat} (S : SymIs ε D 32 b) (hb40 : b ≤ 39) (ok : SyOk D 32) (hl5 : figs.length = 15) (hc : c.cs = lSc) {bd rest : List Stmt} (hb : lwB 4 1 = bd) {Q : Flow → Shared → Prop}
    (p : Pre prog w ε {} 60 c W ⟨locSc figs, lwS [] [] (anyL 32) [] (opsC O), 40⟩ hl kp s.heap m) (k : LeafQ prog w O figs c kp rest Q E s) : wpAny (model prog w) c.A (execs (bd ++ rest) c.env) Q E s := by
  have hj := getD_some (l := figs) (k := 1) (by omega)
  obtain ⟨lf, r, t, a0, c1, c2, c3, c4, c5, c6, c7, c8, c9, c10, c11, c12⟩ := leaf_cases ok (.sym 2) (figs.getD 1 0)
  have hsq : SqOk (ddSq figs [] [] [] 32) := .cons (fgV_clo _) (fgV_lf _) (by rw [fgV_len]; omega) (.cons rfl rfl (by decide) (.cons rfl rfl (by decide) (.cons rfl rfl (by decide) (.cons (anyL_clo _) (anyL_lf _) (by rw [anyL_len]; omega) .nil))))
  have ex : (ε.dd 0 (figs.getD 1 0) 0 figs [] [] [] (.i 0) (.i 0) 32 hsq).ev (.sym 2) = figs.getD 1 0 := rfl
  have e64 : (ε.dd 0 (figs.getD 1 0) 0 figs [] [] [] (.i 0) (.i 0) 32 hsq).sq 64 = anyL 32 := rfl
  have c8' := c8 _ ex
  have c7' := c7 _ e64
  have e0 : subK (ε.dd 0 (figs.getD 1 0) 0 figs [] [] [] (.i 0) (.i 0) 32 hsq) lf.e0 = e0Of a0 32 := by
    rw [c4]; cases a0 <;> rfl
  have hterm : isSq lf.term = false := by cases c1 <;> rfl
  have e2 : AV.subs (ε.dd 0 (figs.getD 1 0) 0 figs [] [] [] (.i 0) (.i 0) 32 hsq) [.tup [.fl lf.row, lf.term]] = [.tup [.fl (AV.subs (ε.dd 0 (figs.getD 1 0) 0 figs [] [] [] (.i 0) (.i 0) 32 hsq) lf.row), lf.term.sub (ε.dd 0 (figs.getD 1 0) 0 figs [] [] [] (.i 0) (.i 0) 32 hsq)]] := by
    show [AV.tup (.fl (AV.subs (ε.dd 0 (figs.getD 1 0) 0 figs [] [] [] (.i 0) (.i 0) 32 hsq) lf.row) :: AV.subs (ε.dd 0 (figs.getD 1 0) 0 figs [] [] [] (.i 0) (.i 0) 32 hsq) [lf.term])] = _
    rw [AV.subs_cons hterm]
    rfl
  have ez := z_leaf0 O c1
  rw [hb] at ez
  have fk : FOk w (ε.dd 0 (figs.getD 1 0) 0 figs [] [] [] (.i 0) (.i 0) 32 hsq) { at_ := [(60, .lit 1, .int (.sym 2))], val := lf.vs, dk := lf.dk } W :=
    ⟨fun _ _ _ h => (nomatch h), fun a i' hm => c2 _ ex a i' hm, fun b k v hm => dk_of (ε1 := ε.dd 0 (figs.getD 1 0) 0 figs [] [] [] (.i 0) (.i 0) 32 hsq) S (fun _ => rfl) (c3 b k v hm), fig_at (W := W) (k := 1) (f := figs.getD 1 0) rfl (by omega) rfl hj rfl⟩
  have es : (⟨locSc figs, lwS [] [] (anyL 32) [] (opsC O), 40⟩ : AS) = AS.sub (ε.dd 0 (figs.getD 1 0) 0 figs [] [] [] (.i 0) (.i 0) 32 hsq) ⟨locS, lwS [] [] lf.tx [] (opsC O), 40⟩ := by
    show _ = AS.mk _ ((1, symI) :: (2, .dict 0 (some 0) []) :: (3, .dict 2 (some 1) []) :: (13, .list none (AV.subs (ε.dd 0 (figs.getD 1 0) 0 figs [] [] [] (.i 0) (.i 0) 32 hsq) lf.tx)) :: (14, .list (some 2) []) :: opsC O) 40
    rw [c7'.1]
    rfl
  have hsel : selOk (selM lf.lab) = true := by cases c1 <;> rfl
  refine blkz_sim ez hsel hc put_eq fk es p fun W' hl' m' h' tk' hw p' => ?_
  have p2 : Pre prog w ε {} 60 c (W'.selW (selM lf.lab)) ⟨locMc figs, lwS (e0Of a0 32) (e1Of none 0) (anyL 32 ++ lf.xt) [] ((15, .list none (mdL [(r, t)] ++ [])) :: opsC O), 40⟩ hl' kp h' m' := by
    have e1 : mdL [(r, t)] ++ [] = [.tup [.fl (rwL r ++ []), t.av]] := rfl
    rw [e1, ← c8'.1, ← c8'.2, ← c7'.2, ← e0, ← e2]
    exact p'
  (refine ex1_4 (sym_fin S (by omega) (by omega) (Int.le_refl 0) (locMc_clo figs) (opsC_clo O (by rw [List.append_nil]; exact mdL_clo _)) (fun ε' => opsC_same ε ε' _ O) (plain_append (AV.cloL_plain (anyL_clo 32)) c5) (by rw [List.length_append, anyL_len, c6]) rfl rfl p2) ?_; rintro ε' S' p3 _ _)
  refine k ε' _ hl' m' h' tk' _ _ [(r, t)] ⟨S'.mono (by omega), ok.step c12 (fun a k q => by exact nos q), ?_, ?_, ?_, by simp, by simp⟩ p3
  · intro x hx; rw [List.mem_singleton.mp hx]; exact c9
  · simpa using c10
  · intro x hx; rw [List.mem_singleton.mp hx, c11]; omega
end
end
section
open PySem PySem.W PySem.Calls PyProof.Rows
theorem atE_sub (ε : Eps) : ∀ (i : Int) (l : List String), subK ε (atE i l) = atE i l
  | _, [] => rfl
  | i, s :: r => by show (_, _) :: subK ε (atE (i + 1) r) = _; rw [atE_sub ε (i + 1) r]; rfl
theorem fnE_sub (ε : Eps) : ∀ (i : Int) (l : List (Int × Int)), subK ε (fnE i l) = fnE i l
  | _, [] => rfl
  | i, (a, k) :: r => by show (_, _) :: subK ε (fnE (i + 1) r) = _; rw [fnE_sub ε (i + 1) r]; rfl
theorem atV_sub (ε : Eps) : ∀ (l : List String), AV.subs ε (atV l) = atV l
  | [] => rfl
  | s :: r => by show _ :: AV.subs ε (atV r) = _; rw [atV_sub ε r]; rfl
theorem fnV_sub (ε : Eps) : ∀ (l : List (Int × Int)), AV.subs ε (fnV l) = fnV l
  | [] => rfl
  | (a, k) :: r => by show _ :: AV.subs ε (fnV r) = _; rw [fnV_sub ε r]; rfl
theorem fnE_look {k : AKey} {v : AV} : ∀ (j : Int) (l : List (Int × Int)), lookK (fnE j l) k = some v → ∃ i, v = .int (.lit i) ∧ j ≤ i
  | _, [], h => by exact nos h
  | j, (a, b) :: r, h => by
    unfold fnE lookK at h
    split at h
    · (refine som1 h ?_; rintro rfl); exact mk1_2 j rfl (Int.le_refl _)
    · (refine ex1_2 (fnE_look (j + 1) r h) ?_; rintro i h1 h2)
      exact mk1_2 i h1 (by omega)
noncomputable def fn0 (a k : Int) : Option Int := match lookK (fnE 0 fnsL) (.t [a, k]) with
  | some (.int (.lit i)) => some i
  | _ => none
theorem fn0_7 : fn0 7 2 = some 1 := by kernel_rfl
theorem a5_look (s : Nm) : lookK (atE 0 atomsL) (nmK s) = (a5 0 s).map (fun i => AV.int (.lit i)) := by cases s <;> kernel_rfl
section
variable {prog : Program} {w : World} {O : Ops} {figs : List Int} {c : Cx} {kp : Led} {E : Value → Shared → Prop} {s : Shared} {m : Str → Option Value} {ε : Eps} {W : Wd} {hl : Led} {D : Sy}
noncomputable def StartQ (prog : Program) (w : World) (figs : List Int) (c : Cx) (kp : Led) (W : Wd) (rest : List Stmt) (Q : Flow → Shared → Prop) (E : Value → Shared → Prop) (s : Shared) : Prop := ∀ ε' W' hl' m' h' tk' D', ImLe W W' → SymIs ε' D' 29 32 → (∀ s, D'.atom s = a5 0 s) → D'.fn 7 2 = some 1 → Pre prog w ε' {} 60 c W' ⟨locSc figs, lwS [] [] (anyL 29) [] (restK (opsOf figs) 0), 40⟩ hl' kp h' m' → wpAny (model prog w) c.A (execs rest c.env) Q E { s with heap := h', toks := tk' }
theorem law_start (hl5 : figs.length = 15) (hc : c.cs = lSc) {bd rest : List Stmt} (hb : lwB 1 2 = bd) {Q : Flow → Shared → Prop} (p : Pre prog w ε {} 60 c W ⟨[g1 "figures" (.fl (fgV figs ++ []))], [], 40⟩ hl kp s.heap m) (k : StartQ prog w figs c kp W rest Q E s) : wpAny (model prog w) c.A (execs (bd ++ rest) c.env) Q E s := by
  have ez := z_start
  rw [hb] at ez
  refine blk_sim (ε := ε.five 0 figs (sq60 (by omega))) ez rfl hc put_eq fok0 rfl p fun W' hl' m' h' tk' hw p' => ?_
  have p2 : Pre prog w ε {} 60 c (W'.selW sel2) ⟨locSc figs, (1, symI) :: (2, .dict 0 none (subK (ε.five 0 figs (sq60 (by omega))) (atE 0 atomsL))) :: (3, .dict 2 none (subK (ε.five 0 figs (sq60 (by omega))) (fnE 0 fnsL))) :: (13, .list none (AV.subs (ε.five 0 figs (sq60 (by omega))) (atV atomsL))) :: (14, .list none (AV.subs (ε.five 0 figs (sq60 (by omega))) (fnV fnsL))) :: [(4, opI1), (5, .dict 0 none []), (6, .dict 1 none [cmE]), (7, .dict 0 none [])], 40⟩ hl' kp h' m' := p'
  rw [atE_sub, fnE_sub, atV_sub, fnV_sub] at p2
  have p3 : Pre prog w ε {} 60 c (W'.selW sel2) ⟨locSc figs, (1, symI) :: (2, .dict 0 none (atE 0 atomsL)) :: (3, .dict 2 none (fnE 0 fnsL)) :: (13, .list none (atV atomsL)) :: (14, .list none (fnV fnsL)) :: restK (opsOf figs) 0, 40⟩ hl' kp h' m' := by
    have e : putNL ((1, symI) :: (2, .dict 0 none (atE 0 atomsL)) :: (3, .dict 2 none (fnE 0 fnsL)) :: (13, .list none (atV atomsL)) :: (14, .list none (fnV fnsL)) :: [(4, opI1), (5, .dict 0 none []), (6, .dict 1 none [cmE]), (7, .dict 0 none [])]) 4 (.inst 286 (anyAt (Str.ofString "symbols") [g1 "symbols" (.obj 1), g1 "prefixes" (.obj 5), g1 "infixes" (.obj 6), g1 "postfixes" (.obj 7)])) = (1, symI) :: (2, .dict 0 none (atE 0 atomsL)) :: (3, .dict 2 none (fnE 0 fnsL)) :: (13, .list none (atV atomsL)) :: (14, .list none (fnV fnsL)) :: restK (opsOf figs) 0 := by kernel_rfl
    have p3' := p2.anyAttr (Str.ofString "symbols") (l := 4) (by rfl)
    rw [← e]
    exact p3'
  have l0 : (atE 0 atomsL).length = 29 := by decide +kernel
  have l1 : (fnE 0 fnsL).length = 32 := by decide +kernel
  have l2 : (atV atomsL).length = 29 := by decide +kernel
  have l3 : (fnV fnsL).length = 32 := by decide +kernel
  have d0 : dl ε none = 0 := rfl
  have d2 : (preL ε none).length = 0 := rfl
  have hb0 : dl ε none + (atE 0 atomsL).length ≤ 1000000 := by rw [l0, d0]; omega
  have hb1 : dl ε none + (fnE 0 fnsL).length ≤ 1000000 := by rw [l1, d0]; omega
  obtain ⟨g0, g1', r2, hr, A0, A1, hrl, p4⟩ := symbase (I := symI) (b0 := none) (b1 := none) (pre := none) (locSc_clo figs) rfl (fun _ => trivial) (clo5 _ 0) (fun _ => same5 _ 0 _ _) (by decide +kernel) (by decide +kernel) hb0 hb1 (by rw [d2, l3]; omega) p3
  rw [l2] at p4
  refine k _ _ hl' m' h' tk' ⟨a5 0, fn0⟩ (selW_im hw) ⟨fun s => ?_, fun a k => ?_, ?_, ?_, ?_⟩ (fun _ => rfl) fn0_7 p4
  · have hA := A0 (nmK s) rfl
    unfold Agree at hA
    rw [a5_look] at hA
    show match a5 0 s with | none => g0 (nmK s) = none | some i => ∃ t, g0 (nmK s) = some (.int i t)
    cases q : a5 0 s with
    | none => rw [q] at hA; exact hA
    | some i =>
      rw [q] at hA
      (refine ex1_2 (hA) ?_; rintro u h1 h2)
      cases h2
      exact ⟨_, h1⟩
  · have hA := A1 (.t [a, k]) rfl
    unfold Agree at hA
    show match fn0 a k with | none => g1' (.t [a, k]) = none | some f => 0 ≤ f ∧ ∃ t, g1' (.t [a, k]) = some (.int f t)
    unfold fn0
    cases q : lookK (fnE 0 fnsL) (.t [a, k]) with
    | none => rw [q] at hA; exact hA
    | some v =>
      rw [q] at hA
      (refine ex1_2 (fnE_look 0 fnsL q) ?_; rintro i rfl hi)
      (refine ex1_2 (hA) ?_; rintro u h1 h2)
      cases h2
      exact ⟨hi, _, h1⟩
  · show dl ε none + (atE 0 atomsL).length ≤ 29
    rw [l0, d0]; omega
  · show dl ε none + (fnE 0 fnsL).length ≤ 32
    rw [l1, d0]; omega
  · show r2.length ≤ 32
    rw [hrl, d2, l3]; omega
end
end
section
open PySem PySem.W PySem.Calls PyProof.Rows
inductive Law_bodyI : Prop
  | mk (b0 b12 f3 b4 f5 b6 px gp cp pos px2 gp2 cp2 pos2 e5 eD : _)
    (h0 : lwB 0 1 = b0)
    (h1 : lwB 1 2 = b12)
    (h2 : forBody 3 = f3)
    (h3 : lwB 4 1 = b4)
    (h4 : forBody 5 = f5)
    (h5 : lwB 6 8 = b6)
    (h6 : isStar e5 = false)
    (h7 : isStar eD = false)
    (h8 : (∀ hp, evs (xRun {} 59) lSc [e5] ⟨locS, hp, 40⟩ = some ([.int (.lit 5)], ⟨locS, hp, 40⟩)))
    (h9 : (∀ hp v, evs (xRun { at_ := [(60, .lit 0, .int (.sym 2))], val := [(.mod (.sym 2) (.lit 9), v)] } 59) lSc [eD] ⟨locM, hp, 40⟩ = some ([.int (.lit v)], ⟨locM, hp, 40⟩)))
    (h10 : lawDef.body = b0 ++ (b12 ++ (.For (.Name (Str.ofString "step") px) (.Call (.Name (Str.ofString "range") gp) [e5] [] cp) f3 [] pos :: (b4 ++ (.For (.Name (Str.ofString "step") px2) (.Call (.Name (Str.ofString "range") gp2) [eD] [] cp2) f5 [] pos2 :: b6)))))
theorem law_body : Law_bodyI :=
  ⟨_, _, _, _, _, _, _, _, _, _, _, _, _, _, _, _, rfl, rfl, rfl, rfl, rfl, rfl, rfl, rfl, fun hp => by kernel_rfl, fun hp v => by kernel_rfl, rfl⟩
section
variable {prog : Program} {w : World} {figs : List Int} {c : Cx} {kp : Led} {s : Shared} {m : Str → Option Value} {ε : Eps} {W : Wd} {hl : Led}
noncomputable def MadeQ (prog : Program) (w : World) (figs : List Int) (c : Cx) (kp : Led) (rest : List Stmt) (Q : Flow → Shared → Prop) (s : Shared) : Prop := ∀ ε' W' hl' m' h' tk' D' n' i' made', i' ≤ 8 → DOk ε' D' n' i' made' → Pre prog w ε' {} 60 c W' ⟨locMc figs, lwH [] [] (anyL n') [] (mdL made' ++ []) (opsOf figs), 40⟩ hl' kp h' m' → wpAny (model prog w) c.A (execs rest c.env) Q (fun _ _ => False) { s with heap := h', toks := tk' }
theorem five_loop (hl5 : figs.length = 15) (hc : c.cs = lSc) {f3 rest : List Stmt} (hb : forBody 3 = f3) {px gp cp pos : Pos} {e5 : Expr} (hst : isStar e5 = false) (ev : ∀ hp, evs (xRun {} 59) lSc [e5] ⟨locS, hp, 40⟩ = some ([.int (.lit 5)], ⟨locS, hp, 40⟩)) {Q : Flow → Shared → Prop} {D : Sy}
    (S : SymIs ε D 29 32) (hD : ∀ s, D.atom s = a5 0 s) (h7 : D.fn 7 2 = some 1) (p : Pre prog w ε {} 60 c W ⟨locSc figs, lwS [] [] (anyL 29) [] (restK (opsOf figs) 0), 40⟩ hl kp s.heap m)
    (k : ∀ ε' W' hl' m' h' tk' D', SymIs ε' D' 32 37 → (∀ s, D'.atom s = a5 5 s) → D'.fn 7 2 = some 1 → Pre prog w ε' {} 60 c W' ⟨locSc figs, lwS [] [] (anyL 32) [] (opsC (opsOf figs)), 40⟩ hl' kp h' m' → wpAny (model prog w) c.A (execs rest c.env) Q (fun _ _ => False) { s with heap := h', toks := tk' }) :
    wpAny (model prog w) c.A (execs (.For (.Name (Str.ofString "step") px) (.Call (.Name (Str.ofString "range") gp) [e5] [] cp) f3 [] pos :: rest) c.env) Q (fun _ _ => False) s := by
  refine wpAny_execs_cons ?_
  have es : (⟨locSc figs, lwS [] [] (anyL 29) [] (restK (opsOf figs) 0), 40⟩ : AS) = AS.sub (ε.five 0 figs (sq60 (by omega))) ⟨locS, lwS [] [] (anyL 29) [] (restK (opsOf figs) 0), 40⟩ := rfl
  refine for_range (k := 5) (by kernel_rfl) (by kernel_rfl) (by kernel_rfl) (by kernel_rfl) hst hc put_eq fok0 es (ev _) rfl (by decide) p
    (fun i ε' F' W' σ' => F' = {} ∧ ∃ D, SymIs ε' D (n5 i) (32 + i) ∧ (∀ s, D.atom s = a5 i s) ∧ D.fn 7 2 = some 1 ∧ σ' = ⟨locSc figs, lwS [] [] (anyL (n5 i)) [] (restK (opsOf figs) i), 40⟩) (fun W1 _ => ⟨rfl, D, S, hD, h7, rfl⟩) ?_ ?_
  · rintro i I ε' F' W' W3 hl' σ' it m₁ h₁ tk₁ hi hw hw3 p' ⟨rfl, D', S', hD', h7', rfl⟩
    refine wpAny_mono (five_turn (s := { s with heap := h₁, toks := tk₁ }) S' hD' h7' hl5 hc hi hb p') (fun f s' z => ?_) (fun _ _ z => z)
    obtain ⟨rfl, ε2, W2, hl2, m2, h2, tk2, D2, rfl, z1, z2, z3, z4, z5⟩ := z
    exact ⟨ε2, {}, W2, hl2, _, m2, h2, tk2, rfl, z1, z5, rfl, D2, z2, z3, z4, rfl⟩
  · rintro ε' F' W' hl' σ' m' h' tk' hw p' ⟨rfl, D', S', hD', h7', rfl⟩
    exact k ε' W' hl' m' h' tk' D' S' hD' h7' p'
theorem deed_loop (hl5 : figs.length = 15) (hc : c.cs = lSc) {f5 rest : List Stmt} (hb : forBody 5 = f5) {px gp cp pos : Pos} {eD : Expr} (hst : isStar eD = false) (ev : ∀ hp v, evs (xRun { at_ := [(60, .lit 0, .int (.sym 2))], val := [(.mod (.sym 2) (.lit 9), v)] } 59) lSc [eD] ⟨locM, hp, 40⟩ = some ([.int (.lit v)], ⟨locM, hp, 40⟩)) {Q : Flow → Shared → Prop} {D : Sy} {n : Nat} {made : List (List Tk × Tm)}
    (h : DOk ε D n 0 made) (p : Pre prog w ε {} 60 c W ⟨locMc figs, lwH [] [] (anyL n) [] (mdL made ++ []) (opsOf figs), 40⟩ hl kp s.heap m) (k : MadeQ prog w figs c kp rest Q s) :
    wpAny (model prog w) c.A (execs (.For (.Name (Str.ofString "step") px) (.Call (.Name (Str.ofString "range") gp) [eD] [] cp) f5 [] pos :: rest) c.env) Q (fun _ _ => False) s := by
  refine wpAny_execs_cons ?_
  have h0 := Int.fmod_nonneg_of_pos (figs.getD 0 0) (b := 9) (by decide)
  have h9 := Int.fmod_lt_of_pos (figs.getD 0 0) (b := 9) (by decide)
  obtain ⟨kk, hk⟩ : ∃ kk : Nat, (figs.getD 0 0).fmod 9 = kk := ⟨((figs.getD 0 0).fmod 9).toNat, by omega⟩
  have hk9 : kk ≤ 8 := by omega
  have hln := h.ln
  have hsq : SqOk (ddSq figs made [] [] n) := sqok_md h (by omega) (by omega) (by simp) (by simp)
  have es : (⟨locMc figs, lwH [] [] (anyL n) [] (mdL made ++ []) (opsOf figs), 40⟩ : AS) = AS.sub (ε.dd 0 (figs.getD 0 0) 0 figs made [] [] (.i 0) (.i 0) n hsq) ⟨locM, lwH [] [] (anyL n) [] [.sq 61] (opsOf figs), 40⟩ := by
    show _ = AS.mk _ ((1, symI) :: (2, .dict 0 (some 0) []) :: (3, .dict 2 (some 1) []) :: (13, .list none (AV.subs (ε.dd 0 (figs.getD 0 0) 0 figs made [] [] (.i 0) (.i 0) n hsq) (anyL n))) :: (14, .list (some 2) []) :: (15, .list none (mdL made ++ [])) :: opsC (opsOf figs)) 40
    rw [anyL_sub]
    rfl
  have fk : FOk w (ε.dd 0 (figs.getD 0 0) 0 figs made [] [] (.i 0) (.i 0) n hsq) { at_ := [(60, .lit 0, .int (.sym 2))], val := [(.mod (.sym 2) (.lit 9), (kk : Int))] } W :=
    ⟨fun _ _ _ h => (nomatch h), fun a i' hm => by
      rw [List.mem_singleton] at hm
      cases hm
      exact hk, fun _ _ _ h => (nomatch h), fig_at (W := W) (k := 0) (f := figs.getD 0 0) rfl (by omega) rfl (getD_some (by omega)) rfl⟩
  refine for_range (k := kk) (by kernel_rfl) (by kernel_rfl) (by kernel_rfl) (by kernel_rfl) hst hc put_eq fk es (ev _ _) rfl (by omega) p
    (fun i ε' F' W' σ' => F' = {} ∧ ∃ D n made, DOk ε' D n i made ∧ σ' = ⟨locMc figs, lwH [] [] (anyL n) [] (mdL made ++ []) (opsOf figs), 40⟩) (fun W1 _ => ⟨rfl, D, n, made, h, rfl⟩) ?_ ?_
  · rintro i I ε' F' W' W3 hl' σ' it m₁ h₁ tk₁ hi hw hw3 p' ⟨rfl, D', n', made', h', rfl⟩
    have key := deed_turn (E := fun _ _ => False) (s := { s with heap := h₁, toks := tk₁ }) h' (by omega) (by omega) hc (getD_some (l := figs) (k := 2 + i) (by omega)) p'
    rw [hb] at key
    refine wpAny_mono key (fun f s' z => ?_) (fun _ _ z => z)
    obtain ⟨rfl, ε2, W2, hl2, m2, h2, tk2, D2, n2, made2, rfl, z1, z2, z3⟩ := z
    exact ⟨ε2, {}, W2, hl2, _, m2, h2, tk2, rfl, z1, z3, rfl, D2, n2, made2, z2, rfl⟩
  · rintro ε' F' W' hl' σ' m' h' tk' hw p' ⟨rfl, D', n', made', h2, rfl⟩
    exact k ε' W' hl' m' h' tk' D' n' kk made' hk9 h2 p'
/-- all up to the stack -/
theorem law_made (hl5 : figs.length = 15) (hc : c.cs = lSc) {Q : Flow → Shared → Prop} : ∃ b0 b6 bM, lwB 0 1 = b0 ∧ lwB 6 8 = b6 ∧ lawDef.body = b0 ++ bM ∧ ∀ (W : Wd) (hl : Led) (s : Shared) (m : Str → Option Value) (ε : Eps), Pre prog w ε {} 60 c W ⟨[g1 "figures" (.fl (fgV figs ++ []))], [], 40⟩ hl kp s.heap m → MadeQ prog w figs c kp b6 Q s → wpAny (model prog w) c.A (execs bM c.env) Q (fun _ _ => False) s := by
  obtain ⟨b0, b12, f3, b4, f5, b6, px, gp, cp, pos, px2, gp2, cp2, pos2, e5, eD, q1, q2, q3, q4, q5, q6, q7, q8, q9, q10, q11⟩ := law_body
  refine mk3_4 b0 b6 _ q1 q6 q11 (fun W hl s m ε p k => ?_)
  refine law_start hl5 hc q2 p fun ε1 W1 hl1 m1 h1 tk1 D1 _ a1 a2 a3 p1 => ?_
  refine five_loop (s := { s with heap := h1, toks := tk1 }) hl5 hc q3 q7 q9 a1 a2 a3 p1 fun ε2 W2 hl2 m2 h2 tk2 D2 b1 b2 b3 p2 => ?_
  refine leaf_start (s := { s with heap := h2, toks := tk2 }) b1 (by decide) (syok5 b2 b3) hl5 hc q4 p2 fun ε3 W3 hl3 m3 h3 tk3 D3 n3 made3 c1 p3 => ?_
  exact deed_loop (s := { s with heap := h3, toks := tk3 }) hl5 hc q5 q8 q10 c1 p3 fun ε4 W4 hl4 m4 h4 tk4 D4 n4 i4 made4 d1 d2 p4 => k ε4 W4 hl4 m4 h4 tk4 D4 n4 i4 made4 d1 d2 p4
end
end
section
open PySem PySem.W PySem.Calls PyProof.Rows
/-! the row, the table of symbols forgotten but for its meaning -/
noncomputable def anyAttrS (x : Str) (l : Nat) (σ : AS) : AS := match lookN σ.hp l with
  | some (.inst C a) => { σ with hp := putNL σ.hp l (.inst C (anyAt x a)) }
  | _ => σ
noncomputable def selC : List (Nat × Nat) := [(1, 1), (2, 2), (3, 3), (4, 4), (5, 5), (6, 6), (7, 7)]
noncomputable def xsR : List Str := [Str.ofString "book", Str.ofString "operators", Str.ofString "row", Str.ofString "term"]
noncomputable def blkR (bd : List Stmt) (σ : AS) : Option (List (Str × AV) × List (Nat × AO)) :=
  bi (exs (xRun {} 60) lSc bd σ) fun fl σ' => gd (isNext fl) (bo (selL (gOf selC []) (pOf selC []) xsR (anyAttrS (Str.ofString "functors") 1 (anyAttrS (Str.ofString "texts") 1 σ')).loc) fun loc' => bo (selH (gOf selC []) (pOf selC []) selC (anyAttrS (Str.ofString "functors") 1 (anyAttrS (Str.ofString "texts") 1 σ')).hp) fun hp' => some (loc', hp'))
noncomputable def locR : List (Str × AV) := [g1 "book" (.obj 1), g1 "operators" (.obj 4), g1 "row" (.fl [.sq 62]), g1 "term" (.opq 0)]
theorem z_row (O : Ops) : blkR (lwB 6 1) ⟨locM, lwH [] [] [.sq 64] [] [.sq 61, .tup [.fl [.sq 62], .opq 0]] O, 40⟩ = some (locR, comC O) := by kernel_rfl
noncomputable def locRc (r : List Tk) (t : Tm) : List (Str × AV) := [g1 "book" (.obj 1), g1 "operators" (.obj 4), g1 "row" (.fl (rwL r ++ [])), g1 "term" t.av]
noncomputable def kdA : Tk → AV
  | .int _ => .str (Str.ofString "int")
  | .name _ => .str (Str.ofString "name")
  | .qname _ => .str (Str.ofString "qname")
  | .var _ => .str (Str.ofString "var")
  | .op => .str (Str.ofString "open")
  | .oct => .str (Str.ofString "open_ct")
  | .pu _ => .str (Str.ofString "punct")
  | .fin => .str (Str.ofString "end")
noncomputable def vlA : Tk → AV
  | .int i => .int (.lit i)
  | .name s => .str (Str.ofString (nmS s))
  | .qname s => .str (Str.ofString (nmS s))
  | .var k => .str (Str.ofString (vnS k))
  | .op => .str (Str.ofString "(")
  | .oct => .str (Str.ofString "(")
  | .pu p => .str (Str.ofString (puS p))
  | .fin => .str (Str.ofString ".")
theorem rwT_pair (t : Tk) : rwT t = .tup [kdA t, vlA t] := by cases t <;> rfl
noncomputable def loc6 (a b c d k v : AV) : List (Str × AV) := [g1 "book" a, g1 "operators" b, g1 "row" c, g1 "term" d, g1 "kind" k, g1 "value" v]
inductive Law_tailI : Prop
  | mk (b6 fb b9 px1 px2 tk tp rp pos pos9 c1 vp np cp bp1 ep na ap cpos vp2 ip s9 s10 s11 s12 s13 : _)
    (h0 : lwB 6 1 = b6)
    (h1 : lwB 9 1 = [s9])
    (h2 : lwB 10 1 = [s10])
    (h3 : lwB 11 1 = [s11])
    (h4 : lwB 12 1 = [s12])
    (h5 : lwB 13 1 = [s13])
    (h6 : fb = [Stmt.If (.BoolOp .And [c1, .Compare (.Name (Str.ofString "value") vp) [.NotIn] [.Name nmN np] cp] bp1) [.Expr (.Call (.Attribute (.Name nmN na) (Str.ofString "append") ap) [.Name (Str.ofString "value") vp2] [] cpos) ep] [] ip])
    (h7 : ap.endLine = cpos.line)
    (h8 : (∃ p7 p7', b9 = [Stmt.Assign [.Name nmN p7] (.List [] p7') pos9]))
    (h9 : (∀ (t : Tk) (a b c d v : AV) hp, (∀ k, t ≠ .var k) → exs (xRun {} 60) lSc fb ⟨loc6 a b c d (kdA t) v, hp, 40⟩ = some (.next, ⟨loc6 a b c d (kdA t) v, hp, 40⟩)))
    (h10 : (∀ (a b c d v : AV) hp, runT (xRun {} 59) lSc c1 ⟨loc6 a b c d (.str (Str.ofString "var")) v, hp, 40⟩ = some (true, ⟨loc6 a b c d (.str (Str.ofString "var")) v, hp, 40⟩)))
    (h11 : lwB 6 8 = b6 ++ (b9 ++ (.For (.Tuple [.Name (Str.ofString "kind") px1, .Name (Str.ofString "value") px2] tk tp) (.Name (Str.ofString "row") rp) fb [] pos :: [s9, s10, s11, s12, s13])))
theorem law_tail : Law_tailI := by
  refine ⟨_, _, _, _, _, _, _, _, _, _, _, _, _, _, _, _, _, _, _, _, _, _, _, _, _, _, rfl, rfl, rfl, rfl, rfl, rfl, rfl, rfl, ⟨_, _, rfl⟩, fun t a b c d v hp h => ?_, fun a b c d v hp => ?_, rfl⟩
  · cases t with
    | var k => exact absurd rfl (h k)
    | int _ => kernel_rfl
    | name _ => kernel_rfl
    | qname _ => kernel_rfl
    | op => kernel_rfl
    | oct => kernel_rfl
    | pu _ => kernel_rfl
    | fin => kernel_rfl
  · kernel_rfl
end
section
open PySem PySem.W PySem.Calls PyProof.Rows
section
variable {prog : Program} {w : World} {ε : Eps} {W : Wd} {F : Facts} {n : Nat} {c : Cx} {σ : AS} {hl kp : Led} {h : Heap} {m : Str → Option Value} {E : Value → Shared → Prop} {s : Shared}
theorem Pre.anyS (p : Pre prog w ε F n c W σ hl kp h m) (x : Str) (l : Nat) : Pre prog w ε F n c W (anyAttrS x l σ) hl kp h m := by
  unfold anyAttrS
  split
  · rename_i e; exact p.anyAttr x e
  · exact p
theorem Pre.locs {loc' : List (Str × AV)} (p : Pre prog w ε F n c W σ hl kp h m) (hl' : ∀ x v, look loc' x = some v → look σ.loc x = some v) : Pre prog w ε F n c W { σ with loc := loc' } hl kp h m :=
  ⟨p.ok, ⟨p.st.fr, p.st.lg, p.st.hr, p.st.rb⟩, fun x v e => p.loc x v (hl' x v e), p.fk⟩
theorem name_cell {pos : Pos} {cell : Obj} {v : Value} {Q : Value → Shared → Prop} (hc : c.cs = lSc) (hcl : c.cl = [(nmN, c.L + 1)]) (p : Pre prog w ε F n c W σ hl kp s.heap m) (hm : (c.L + 1, cell) ∈ kp) (hd : cell.data = .cell (some v)) (h : Q v s) :
    wpAny (model prog w) c.A (eval (.Name nmN pos) c.env) Q E s := by
  refine wpAny_Name (loadX_C (N := p.st.lg.nw) (c := c.L + 1) ?_ (List.mem_append_right _ (List.mem_append_left _ hm)) hd h p.ok.kind ?_) (by decide +kernel)
  · rw [hcl]; exact List.lookup_cons_self
  · show (envX c.cn c.cs c.L c.a c.ccd c.cl).kindOf nmN = some .cell
    rw [hc]; kernel_rfl
theorem store_cell {cell : Obj} {v0 : Option Value} {u : Value} {Q : Unit → Shared → Prop} (hc : c.cs = lSc) (hcl : c.cl = [(nmN, c.L + 1)]) (p : Pre prog w ε F n c W σ hl ((c.L + 1, cell) :: kp) s.heap m) (hd : cell.data = .cell v0)
    (k : ∀ h' cell', cell'.data = .cell (some u) → Pre prog w ε F n c W σ hl ((c.L + 1, cell') :: kp) h' m → Q () { s with heap := h' }) : wpAny (model prog w) c.A (storeName c.env nmN u) Q E s := by
  have L2 := p.st.lg.perm (List.perm_middle : (hl ++ (c.L + 1, cell) :: (kp ++ W.ims)).Perm ((c.L + 1, cell) :: (hl ++ (kp ++ W.ims))))
  have hmem := L2.nw (c.L + 1, cell) (.head _)
  have nd := L2.nd
  rw [List.map_cons, List.nodup_cons] at nd
  refine wpAny_storeName_cell p.ok.kind ?_ (c := c.L + 1) ?_ ⟨cell, hmem.1, hd⟩ fun h' hv hs => ?_
  · show (envX c.cn c.cs c.L c.a c.ccd c.cl).kindOf nmN = some .cell
    rw [hc]; kernel_rfl
  · show c.cl.lookup nmN = _
    rw [hcl]; exact List.lookup_cons_self
  · (refine ex1_2 (hv) ?_; rintro o' ho' hd')
    have F' : Fr c.h₀ c.L h' m := ⟨p.st.fr.ns.sameBut hs (Ne.symm hmem.2.1), fun b ob e => (hs.2 b (fun q => by rw [q, hmem.2.2] at e; cases e)).trans (p.st.fr.keep b ob e), p.st.fr.above⟩
    refine k h' o' hd' ⟨p.ok, ⟨F', ?_, p.st.hr, p.st.rb⟩, p.loc, p.fk⟩
    refine Lg.perm ?_ (List.perm_middle : (hl ++ (c.L + 1, o') :: (kp ++ W.ims)).Perm ((c.L + 1, o') :: (hl ++ (kp ++ W.ims)))).symm
    refine ⟨fun q hq => ?_, by rw [List.map_cons, List.nodup_cons]; exact nd⟩
    rcases List.mem_cons.mp hq with rfl | hq
    · exact ⟨ho', hmem.2⟩
    · have z := L2.nw q (.tail _ hq)
      exact ⟨(hs.2 _ (fun e => nd.1 (by rw [← e]; exact List.mem_map_of_mem (f := (·.1)) hq))).trans z.1, z.2⟩
noncomputable def nsV : List Nat → List AV
  | [] => []
  | k :: r => .str (Str.ofString (vnS k)) :: nsV r
theorem nsV_len : ∀ a, (nsV a).length = a.length
  | [] => rfl
  | k :: r => by simp [nsV, nsV_len r]
theorem nsV_app : ∀ a b, nsV (a ++ b) = nsV a ++ nsV b
  | [], b => rfl
  | k :: r, b => by simp [nsV, nsV_app r b]
theorem nsV_strs {K : Frag} : ∀ {ns : List Nat} {us : List Value}, Rs K ε W (nsV ns) us → StrsAre us (ns.map fun k => Str.ofString (vnS k))
  | [], _, h => by cases h; exact .nil
  | k :: r, _, h => by
    cases h with
    | cons a b => cases a; exact .cons _ _ (nsV_strs b)
theorem any_vn {ns : List Nat} {k : Nat} (h4 : ∀ j ∈ ns, j < 4) (hk : k < 4) : (ns.map fun k => Str.ofString (vnS k)).any (· == Str.ofString (vnS k)) = decide (k ∈ ns) := by
  induction ns with
  | nil => rfl
  | cons j r ih =>
    rw [List.map_cons, List.any_cons, ih (fun j hj => h4 j (.tail _ hj))]
    by_cases e : j = k
    · subst e; simp
    · have : (Str.ofString (vnS j) == Str.ofString (vnS k)) = false := by
        rw [beq_eq_false_iff_ne]
        exact fun q => e (vnS_inj (h4 j (.head _)) hk q)
      rw [this]
      simp [Ne.symm e]
theorem extL_lt {r : List Tk} : ∀ {ns : List Nat}, (∀ j ∈ ns, j < 4) → (∀ k, Tk.var k ∈ r → k < 4) → ∀ j ∈ extL ns r, j < 4 := by
  induction r with
  | nil => intro ns h _; exact h
  | cons t r ih =>
    intro ns h hr
    have hr' : ∀ k, Tk.var k ∈ r → k < 4 := fun k hk => hr k (.tail _ hk)
    cases t with
    | var k =>
      refine ih (ns := ext1 ns k) (fun j hj => ?_) hr'
      unfold ext1 at hj
      split at hj
      · exact h j hj
      · rcases List.mem_append.mp hj with hj | hj
        · exact h j hj
        · rw [List.mem_singleton.mp hj]; exact hr k (.head _)
    | int _ => exact ih h hr'
    | name _ => exact ih h hr'
    | qname _ => exact ih h hr'
    | op => exact ih h hr'
    | oct => exact ih h hr'
    | pu _ => exact ih h hr'
    | fin => exact ih h hr'
theorem extL_nd {r : List Tk} : ∀ {ns : List Nat}, ns.Nodup → (extL ns r).Nodup := by
  induction r with
  | nil => intro ns h; exact h
  | cons t r ih =>
    intro ns h
    cases t with
    | var k =>
      refine ih (ns := ext1 ns k) ?_
      unfold ext1
      split
      · exact h
      · rename_i hk
        exact List.nodup_append.mpr ⟨h, by simp, fun a ha b hb e => by
          have : b = k := by simpa using hb
          exact hk (this ▸ e ▸ ha)⟩
    | int _ => exact ih h
    | name _ => exact ih h
    | qname _ => exact ih h
    | op => exact ih h
    | oct => exact ih h
    | pu _ => exact ih h
    | fin => exact ih h
theorem Pt.var4 {D : Sy} {r : List Tk} {t : Tm} (h : Pt D r t) : ∀ k, Tk.var k ∈ r → k < 4 := by
  induction h with
  | var h => intro k hk; simp at hk; omega
  | _ => intro k hk; simp_all <;> grind
/-- the state in the loop over the names -/
noncomputable abbrev nmS2 (O : Ops) (loc : List (Str × AV)) (ns : List Nat) : AS := ⟨loc, comC O ++ [(16, .list none (nsV ns))], 40⟩
theorem app_names {O : Ops} {loc : List (Str × AV)} {ns : List Nat} {k : Nat} {cell : Obj} {X dX : Addr} {na : Pos} {ap cpos vp2 ep : Pos} (hc : c.cs = lSc) (hcl : c.cl = [(nmN, c.L + 1)]) (hap : ap.endLine = cpos.line) (hd : cell.data = .cell (some (.ref X))) (hm : (c.L + 1, cell) ∈ kp) (hX : W.ρ 16 = some (X, dX)) (hns : ns.length ≤ 4)
    (hv : nameV lSc ⟨loc, [], 40⟩ (Str.ofString "value") = some (.str (Str.ofString (vnS k)))) (p : Pre prog w ε {} 60 c W (nmS2 O loc ns) hl kp s.heap m) {Q : Flow → Shared → Prop}
    (fin : ∀ W' hl' m' h' tk', W.Le W' → Pre prog w ε {} 60 c W' (nmS2 O loc (ns ++ [k])) hl' kp h' m' → Q .next { s with heap := h', toks := tk' }) :
    wpAny (model prog w) c.A (exec (.Expr (.Call (.Attribute (.Name nmN na) (Str.ofString "append") ap) [.Name (Str.ofString "value") vp2] [] cpos) ep) c.env) Q E s := by
  have S := snd_run prog w ε {} 59
  have e : lookN (nmS2 O loc ns).hp 16 = some (.list none (nsV ns)) := by rfl
  have rx : R (Kw w) ε W (.obj 16) (.ref X) := .obj hX
  have hv' : nameV lSc (nmS2 O loc ns) (Str.ofString "value") = some (.str (Str.ofString (vnS k))) := hv
  have ev : evs (xRun {} 59) lSc [.Name (Str.ofString "value") vp2] (nmS2 O loc ns) = some ([.str (Str.ofString (vnS k))], nmS2 O loc ns) := by
    refine evs_one ?_
    show bi (bi (bo (nameV lSc (nmS2 O loc ns) (Str.ofString "value")) fun v => some (v, nmS2 O loc ns)) fun v σ => some (Out.v v, σ)) _ = _
    rw [hv']; rfl
  have hlen := nsV_len ns
  have hs : small (nsV ns) = true := by
    unfold small
    rw [Nat.ble_eq]
    omega
  refine wpAny_Expr_any (call_meth rfl rfl (by show 1 < 30; omega) hap (name_cell hc hcl p hm hd fun pl => ?_)) (notInter p) rfl
  refine gm_list e rx p PySem.F.slot_list_append PySem.F.type_list_append ?_
  refine callWith_list (P := fun _ => True) rfl keeps_bi (S.evs hc ev rfl p fun W' hl' m' h' tk' hw p' us rus => ⟨True.intro, ?_⟩)
  obtain ⟨u, rfl, ru⟩ := rus.one
  refine append_snd (s := { s with heap := h', toks := tk' }) e hs (rx.mono hw) ru p' fun W'' hl'' m'' h'' tk'' hw' p'' => ?_
  refine fin W'' hl'' m'' h'' tk'' (hw.trans hw') ?_
  show Pre prog w ε {} 60 c W'' ⟨loc, comC O ++ [(16, .list none (nsV (ns ++ [k])))], 40⟩ hl'' kp h'' m''
  rw [nsV_app]
  exact p''
theorem locRc_loc6 {r : List Tk} {t : Tm} {k v : AV} : ∀ x u, look (locRc r t) x = some u → look (loc6 (.obj 1) (.obj 4) (.fl (rwL r ++ [])) t.av k v) x = some u := by
  intro x u h
  have e : loc6 (.obj 1) (.obj 4) (.fl (rwL r ++ [])) t.av k v = locRc r t ++ [g1 "kind" k, g1 "value" v] := rfl
  rw [e]
  clear e
  generalize locRc r t = l at h
  induction l with
  | nil => exact nos h
  | cons q r ih =>
    obtain ⟨y, a⟩ := q
    rw [List.cons_append]
    unfold look at h ⊢
    split
    · rename_i z; rw [if_pos z] at h; exact h
    · rename_i z; rw [if_neg z] at h; exact ih h
/-- one sign of the row -/
theorem name_turn {O : Ops} {r : List Tk} {t : Tm} {q : Tk} {ns : List Nat} {cell : Obj} {X dX : Addr} {c1 : Expr} {na : Pos} {vp np cp bp1 ap cpos vp2 ep ip : Pos} (hc : c.cs = lSc) (hcl : c.cl = [(nmN, c.L + 1)]) (hap : ap.endLine = cpos.line) (hd : cell.data = .cell (some (.ref X))) (hm : (c.L + 1, cell) ∈ kp) (hX : W.ρ 16 = some (X, dX))
    (h4 : ∀ j ∈ ns, j < 4) (hnd : ns.Nodup) (hq : ∀ k, q = .var k → k < 4)
    (ev1 : ∀ (t : Tk) (a b c d v : AV) hp, (∀ k, t ≠ .var k) → exs (xRun {} 60) lSc [Stmt.If (.BoolOp .And [c1, .Compare (.Name (Str.ofString "value") vp) [.NotIn] [.Name nmN np] cp] bp1) [.Expr (.Call (.Attribute (.Name nmN na) (Str.ofString "append") ap) [.Name (Str.ofString "value") vp2] [] cpos) ep] [] ip] ⟨loc6 a b c d (kdA t) v, hp, 40⟩ = some (.next, ⟨loc6 a b c d (kdA t) v, hp, 40⟩))
    (ev2 : ∀ (a b c d v : AV) hp, runT (xRun {} 59) lSc c1 ⟨loc6 a b c d (.str (Str.ofString "var")) v, hp, 40⟩ = some (true, ⟨loc6 a b c d (.str (Str.ofString "var")) v, hp, 40⟩))
    (p : Pre prog w ε {} 60 c W (nmS2 O (loc6 (.obj 1) (.obj 4) (.fl (rwL r ++ [])) t.av (kdA q) (vlA q)) ns) hl kp s.heap m) {Q : Flow → Shared → Prop}
    (fin : ∀ W' hl' m' h' tk', W.Le W' → Pre prog w ε {} 60 c W' (nmS2 O (locRc r t) (extL ns [q])) hl' kp h' m' → Q .next { s with heap := h', toks := tk' }) :
    wpAny (model prog w) c.A (execs [Stmt.If (.BoolOp .And [c1, .Compare (.Name (Str.ofString "value") vp) [.NotIn] [.Name nmN np] cp] bp1) [.Expr (.Call (.Attribute (.Name nmN na) (Str.ofString "append") ap) [.Name (Str.ofString "value") vp2] [] cpos) ep] [] ip] c.env) Q E s := by
  by_cases hv : ∃ k, q = .var k
  · obtain ⟨k, rfl⟩ := hv
    have hk4 := hq k rfl
    refine wpAny_execs_cons (wpAny_If ?_)
    have S := snd_run prog w ε {} 59
    refine isTrue_and (S.rT (ev2 _ _ _ _ _ _) hc p fun W1 hl1 m1 h1 tk1 hw1 p1 => ?_)
    dsimp only
    rw [if_pos rfl]
    refine isTrue_and ?_
    refine wpAny_isTrue_Compare1 (name_snd (v := .str (Str.ofString (vnS k))) (s := { s with heap := h1, toks := tk1 }) hc (by kernel_rfl) p1 fun W2 hl2 m2 h2 tk2 hw2 p2 u ru => ?_) rfl
    cases ru with
    | str _ tt =>
      refine name_cell (s := { s with heap := h2, toks := tk2 }) hc hcl p2 hm hd ?_
      have hX2 := (hw1.trans hw2).ρ _ _ hX
      have e : lookN (nmS2 O (loc6 (.obj 1) (.obj 4) (.fl (rwL r ++ [])) t.av (kdA (.var k)) (vlA (.var k))) ns).hp 16 = some (.list none (nsV ns)) := by rfl
      (refine ex3_4 (p2.list e (.obj hX2)) ?_; rintro y us kk ey _ hg rs)
      cases ey
      have hL : h2.IsList X us.toArray := ⟨_, hg, rfl, _, rfl⟩
      refine notin_list_strs (s := { s with heap := h2, toks := tk2 }) hL (nsV_strs rs) (wpAny_truthy_bool ?_)
      rw [any_vn h4 hk4]
      have hlen : ns.length ≤ 4 := nodup_lt 4 ns hnd h4
      by_cases hk : k ∈ ns
      · have e1 : extL ns [.var k] = ns := by show ext1 ns k = ns; unfold ext1; rw [if_pos hk]
        rw [e1] at fin
        have hb : (!decide (k ∈ ns)) = false := by simp [hk]
        rw [hb]
        rw [if_neg (by simp), if_neg (by simp)]
        exact wpAny_execs_nil (wpAny_execs_nil (fin W2 hl2 m2 h2 tk2 (hw1.trans hw2) (p2.locs (loc' := locRc r t) locRc_loc6)))
      · have e1 : extL ns [.var k] = ns ++ [k] := by show ext1 ns k = _; unfold ext1; rw [if_neg hk]
        rw [e1] at fin
        have hb : (!decide (k ∈ ns)) = true := by simp [hk]
        rw [hb]
        rw [if_pos rfl]
        refine isTrue_and_nil ?_
        rw [if_pos rfl]
        refine wpAny_execs_cons (app_names (k := k) (s := { s with heap := h2, toks := tk2 }) hc hcl hap hd hm hX2 hlen (by kernel_rfl) p2 fun W3 hl3 m3 h3 tk3 hw3 p3 => ?_)
        exact wpAny_execs_nil (wpAny_execs_nil (fin W3 hl3 m3 h3 tk3 ((hw1.trans hw2).trans hw3) (p3.locs (loc' := locRc r t) locRc_loc6)))
  · have hnv : ∀ k, q ≠ .var k := fun k e => hv ⟨k, e⟩
    have e1 : extL ns [q] = ns := by cases q <;> first | rfl | exact absurd rfl (hnv _)
    rw [e1] at fin
    refine (snd_run prog w ε {} 60).exs hc (ev1 q _ _ _ _ _ _ hnv) p fun W' hl' m' h' tk' hw p' f rf => ?_
    have rf' : f = .next := rf
    subst rf'
    exact fin W' hl' m' h' tk' hw (p'.locs (loc' := locRc r t) locRc_loc6)
end
end
section
open PySem PySem.W PySem.Calls PyProof.Rows
section
variable {prog : Program} {w : World} {ε : Eps} {W : Wd} {F : Facts} {c : Cx} {σ : AS} {hl kp : Led} {h : Heap} {m : Str → Option Value} {s : Shared} {E : Value → Shared → Prop}
theorem rwL_get {K : Frag} : ∀ {r : List Tk} {us : List Value} {i : Nat} {v : Value}, Rl K ε W (rwL r) us → us[i]? = some v → ∃ q, r[i]? = some q ∧ R K ε W (rwT q) v
  | [], us, i, v, h, e => by cases h; simp at e
  | q :: r, us, 0, v, h, e => by
    cases h with
    | cons a b => simp at e; subst e; exact mk1_2 q rfl a
  | q :: r, us, i + 1, v, h, e => by
    cases h with
    | cons a b =>
      (refine ex1_2 (rwL_get b (by simpa using e)) ?_; rintro q' h1 h2)
      exact mk1_2 q' (by simpa using h1) h2
theorem blkR_run {bd rest : List Stmt} {loc' : List (Str × AV)} {hp' : List (Nat × AO)} {Q : Flow → Shared → Prop} (e : blkR bd σ = some (loc', hp')) (hc : c.cs = lSc) (p : Pre prog w ε {} 60 c W σ hl kp s.heap m)
    (k : ∀ W' hl' m' h' tk', W.Le W' → Pre prog w ε {} 60 c (W'.selW selC) ⟨loc', hp', 40⟩ hl' kp h' m' → wpAny (model prog w) c.A (execs rest c.env) Q E { s with heap := h', toks := tk' }) : wpAny (model prog w) c.A (execs (bd ++ rest) c.env) Q E s := by
  refine biE e fun fl σ' e1 e => gdE e fun hn e => boE e fun l1 e2 e => boE e fun h1 e3 e => som2 e fun h4 h5 => ?_
  rw [isNext_inv hn] at e1
  rw [h4] at e2; rw [h5] at e3
  refine exs_then (snd_run prog w ε {} 60) hc e1 p fun W' hl' m' h' tk' hw p' => ?_
  have p2 := (p'.anyS (Str.ofString "texts") 1).anyS (Str.ofString "functors") 1
  exact ex1_1 (p2.tidy (F' := {}) selC [] xsR 40 e3 e2 (by decide) rfl (fun _ h => nomatch h) fok0) fun hl'' p'' => k W' hl'' m' h' tk' hw p''
theorem dict_ok {D : Sy} {n b : Nat} (S : SymIs ε D n b) (ok : SyOk D n) : DictOk ε D := by
  refine ⟨fun s i e => ?_, fun s i e => ⟨fun hs => ok.cf s hs i e, fun h1 h2 => ?_⟩, fun a k f e => ?_, ok.comma⟩
  · have := S.atom s; rw [e] at this; exact this
  · rw [ok.at_ s h1 h2] at e; (refine som1 e ?_; rintro rfl); rfl
  · have := S.fn a k; rw [e] at this; exact this
noncomputable def selN : List (Nat × Nat) := [(1, 1), (2, 2), (3, 3), (4, 4), (5, 5), (6, 6), (7, 7), (16, 40)]
noncomputable def NamesQ (prog : Program) (w : World) (O : Ops) (c : Cx) (rest : List Stmt) (Q : Flow → Shared → Prop) (s : Shared) : Prop := ∀ ε' W' hl' m' h' tk' r t D cell' X dX, DictOk ε' D → Pt D r t → r.length ≤ 60 → dpt t ≤ 20 → cell'.data = .cell (some (.ref X)) → W'.ρ 16 = some (X, dX) →
  Pre prog w ε' {} 60 c W' (nmS2 O (locRc r t) (extL [] r)) hl' [(c.L + 1, cell')] h' m' → wpAny (model prog w) c.A (execs rest c.env) Q (fun _ _ => False) { s with heap := h', toks := tk' }
theorem names_loop {O : Ops} {r : List Tk} {t : Tm} {cell : Obj} {X dX : Addr} {c1 : Expr} {px1 px2 tp rp pos na : Pos} {tk : Nat} {vp np cp bp1 ap cpos vp2 ep ip : Pos} (hc : c.cs = lSc) (hcl : c.cl = [(nmN, c.L + 1)]) (hap : ap.endLine = cpos.line) (hd : cell.data = .cell (some (.ref X))) (hX : W.ρ 16 = some (X, dX)) (h4 : ∀ k, Tk.var k ∈ r → k < 4)
    (ev1 : ∀ (t : Tk) (a b c d v : AV) hp, (∀ k, t ≠ .var k) → exs (xRun {} 60) lSc [Stmt.If (.BoolOp .And [c1, .Compare (.Name (Str.ofString "value") vp) [.NotIn] [.Name nmN np] cp] bp1) [.Expr (.Call (.Attribute (.Name nmN na) (Str.ofString "append") ap) [.Name (Str.ofString "value") vp2] [] cpos) ep] [] ip] ⟨loc6 a b c d (kdA t) v, hp, 40⟩ = some (.next, ⟨loc6 a b c d (kdA t) v, hp, 40⟩))
    (ev2 : ∀ (a b c d v : AV) hp, runT (xRun {} 59) lSc c1 ⟨loc6 a b c d (.str (Str.ofString "var")) v, hp, 40⟩ = some (true, ⟨loc6 a b c d (.str (Str.ofString "var")) v, hp, 40⟩))
    (p : Pre prog w ε {} 60 c W (nmS2 O (locRc r t) []) hl [(c.L + 1, cell)] s.heap m) {Q : Flow → Shared → Prop}
    (fin : ∀ W' hl' m' h' tk', W.Le W' → Pre prog w ε {} 60 c W' (nmS2 O (locRc r t) (extL [] r)) hl' [(c.L + 1, cell)] h' m' → Q .next { s with heap := h', toks := tk' }) :
    wpAny (model prog w) c.A (exec (.For (.Tuple [.Name (Str.ofString "kind") px1, .Name (Str.ofString "value") px2] tk tp) (.Name (Str.ofString "row") rp) [Stmt.If (.BoolOp .And [c1, .Compare (.Name (Str.ofString "value") vp) [.NotIn] [.Name nmN np] cp] bp1) [.Expr (.Call (.Attribute (.Name nmN na) (Str.ofString "append") ap) [.Name (Str.ofString "value") vp2] [] cpos) ep] [] ip] [] pos) c.env) Q (fun _ _ => False) s := by
  refine For_turns p.st.fr (name_snd (v := .fl (rwL r ++ [])) hc (by kernel_rfl) p fun W1 hl1 m1 h1 tk1 hw1 p1 u ru => ?_) (fun _ => rfl) PassesOwn.never
  cases ru with
  | @fl _ us tt kk i rs =>
    rw [List.append_nil] at rs
    have rl : Rl (Kw w) ε W1 (rwL r) us := rs.rl (AV.cloL_plain (rwL_clo r))
    have hlen : us.length = r.length := by rw [rl.len, rwL_len]
    refine loop_list (s := { s with heap := h1, toks := tk1 }) (im_kept p1 i) p1 (fun j ε' F' W' σ' => ε' = ε ∧ F' = {} ∧ W1.Le W' ∧ σ' = nmS2 O (locRc r t) (extL [] (r.take j))) ⟨rfl, rfl, .refl _, rfl⟩ ?_ ?_
    · rintro j v I ε' F' W' hl' σ' it m₁ h₁ tk₁ hv hw p' ⟨rfl, rfl, hle, rfl⟩
      (refine ex1_2 (rwL_get rl hv) ?_; rintro q hq rq)
      have rq' := rq.mono hle
      rw [rwT_pair] at rq'
      have hmem : q ∈ r := List.mem_of_getElem? hq
      refine unp_snd (s := { s with heap := h₁, toks := tk₁ }) (vs := [kdA q, vlA q]) (σ' := nmS2 O (loc6 (.obj 1) (.obj 4) (.fl (rwL r ++ [])) t.av (kdA q) (vlA q)) (extL [] (r.take j))) hc (by rfl) (by cases q <;> rfl) rq' p' fun W2 hl2 m2 h2 tk2 hw2 p2 => ?_
      have hn4 : ∀ j' ∈ extL [] (r.take j), j' < 4 := extL_lt (fun _ h => (nomatch h)) fun k hk => h4 k (List.mem_of_mem_take hk)
      refine name_turn (s := { s with heap := h2, toks := tk2 }) (X := X) (dX := dX) hc hcl hap hd (.tail _ (.head _)) (((hw1.trans hle).trans hw2).ρ _ _ hX) hn4 (extL_nd List.nodup_nil) (fun k e => h4 k (e ▸ hmem)) ev1 ev2 p2 fun W3 hl3 m3 h3 tk3 hw3 p3 => ?_
      have e : extL (extL [] (r.take j)) [q] = extL [] (r.take (j + 1)) := by
        rw [List.take_add_one, hq]
        show extL (extL [] (r.take j)) [q] = extL [] (r.take j ++ [q])
        rw [extL_append]
      rw [e] at p3
      exact ⟨ε', {}, W3, hl3, _, m3, h3, tk3, rfl, (hw2.trans hw3).i, p3, rfl, rfl, (hle.trans hw2).trans hw3, rfl⟩
    · rintro ε' F' W' hl' σ' m' h' tk' hw p' ⟨rfl, rfl, hle, rfl⟩
      rw [hlen, List.take_length] at p'
      exact fin W' hl' m' h' tk' (hw1.trans hle) p'
theorem sum_mem {l : List (List Tk × Tm)} {x : List Tk × Tm} (h : x ∈ l) : x.1.length ≤ (l.map (fun x => x.1.length)).sum := by
  induction l with
  | nil => cases h
  | cons a r ih =>
    rw [List.map_cons, List.sum_cons]
    rcases List.mem_cons.mp h with rfl | h
    · omega
    · have := ih h; omega
/-- names = [] -/
theorem names_new {O : Ops} {ε1 : Eps} {rest : List Stmt} {p7 p7' pos : Pos} {cell : Obj} {Q : Flow → Shared → Prop} (hc : c.cs = lSc) (hcl : c.cl = [(nmN, c.L + 1)]) (hd : cell.data = .cell none) (p : Pre prog w ε1 {} 60 c W ⟨locR, comC O, 40⟩ hl [(c.L + 1, cell)] s.heap m)
    (k : ∀ W' hl' m' h' tk' cell' X dX, cell'.data = .cell (some (.ref X)) → W'.ρ 16 = some (X, dX) → Pre prog w ε1 {} 60 c W' ⟨locR, comC O ++ [(16, .list none [])], 40⟩ hl' [(c.L + 1, cell')] h' m' → wpAny (model prog w) c.A (execs rest c.env) Q E { s with heap := h', toks := tk' }) :
    wpAny (model prog w) c.A (execs ([Stmt.Assign [.Name nmN p7] (.List [] p7') pos] ++ rest) c.env) Q E s := by
  have S := snd_run prog w ε1 {} 59
  have e1 : runE (xRun {} 59) lSc (.List [] p7') ⟨locR, comC O, 40⟩ = some (.obj 40, ⟨locR, (40, .list none []) :: comC O, 41⟩) := by kernel_rfl
  refine wpAny_execs_cons (wpAny_Assign_Name (S.rE e1 hc p fun W1 hl1 m1 h1 tk1 hw1 p1 u ru => ?_) (notComp rfl _ _ _))
  cases ru with
  | @obj _ X dX hX =>
    refine store_cell (s := { s with heap := h1, toks := tk1 }) hc hcl p1 hd fun h2 cell' hd' p2 => ?_
    have h3 : selH (gOf selN []) (pOf selN []) selN ((40, .list none []) :: comC O) = some (comC O ++ [(16, .list none [])]) := by kernel_rfl
    have h4 : selL (gOf selN []) (pOf selN []) xsR locR = some locR := by kernel_rfl
    (refine ex1_1 (p2.tidy (F' := {}) selN [] xsR 40 h3 h4 (by decide) rfl (fun _ h => by cases h) fok0) ?_; rintro hl3 p3)
    exact k _ hl3 m1 h2 tk1 cell' X dX hd' (by show (lookN selN 16).bind _ = _; exact hX) p3
theorem law_names {figs : List Int} {D : Sy} {n i : Nat} {made : List (List Tk × Tm)} {cell : Obj} (hl5 : figs.length = 15) (hc : c.cs = lSc) (hcl : c.cl = [(nmN, c.L + 1)]) (hd : cell.data = .cell none) (hi : i ≤ 8) (h : DOk ε D n i made) {Q : Flow → Shared → Prop}
    (p : Pre prog w ε {} 60 c W ⟨locMc figs, lwH [] [] (anyL n) [] (mdL made ++ []) (opsOf figs), 40⟩ hl [(c.L + 1, cell)] s.heap m) :
    ∃ s9 s10 s11 s12 s13, lwB 9 1 = [s9] ∧ lwB 10 1 = [s10] ∧ lwB 11 1 = [s11] ∧ lwB 12 1 = [s12] ∧ lwB 13 1 = [s13] ∧ ∀ b6, lwB 6 8 = b6 → NamesQ prog w (opsOf figs) c [s9, s10, s11, s12, s13] Q s → wpAny (model prog w) c.A (execs b6 c.env) Q (fun _ _ => False) s := by
  obtain ⟨b6', fb, b9, px1, px2, tk, tp, rp, pos, pos9, c1, vp, np, cp, bp1, ep, na, ap, cpos, vp2, ip, s9, s10, s11, s12, s13, q1, q2, q3, q4, q5, q6, rfl, q8, ⟨p7, p7', rfl⟩, ev1, ev2, q11⟩ := law_tail
  refine mk5_6 s9 s10 s11 s12 s13 q2 q3 q4 q5 q6 (fun b6 hb k => ?_)
  rw [← hb, q11]
  have ne := h.ne
  obtain ⟨m0, x, rfl⟩ : ∃ m0 x, made = m0 ++ [x] := mk2_1 made.dropLast (made.getLast ne) ((List.dropLast_concat_getLast ne).symm)
  obtain ⟨r, t⟩ := x
  have hln := h.ln
  rw [List.length_append] at hln
  simp only [List.length_cons, List.length_nil] at hln
  have hr : r.length ≤ 60 := by
    have h1 := sum_mem (l := m0 ++ [(r, t)]) (x := (r, t)) (by simp)
    have h2 := h.sz
    simp only at h1
    omega
  have hdp : dpt t ≤ 20 := by have := h.dp (r, t) (by simp); simp only at this; omega
  have hpt : Pt D r t := h.pts (r, t) (by simp)
  have hsq : SqOk (ddSq figs m0 r [] n) := sqok_md h (by omega) (by omega) (by omega) (by simp)
  have e1 : mdL (m0 ++ [(r, t)]) ++ [] = mdL m0 ++ [mdT (r, t)] := by rw [List.append_nil, mdL_app]; rfl
  rw [e1] at p
  have es : (⟨locMc figs, lwH [] [] (anyL n) [] (mdL m0 ++ [mdT (r, t)]) (opsOf figs), 40⟩ : AS) = AS.sub (ε.dd 0 0 0 figs m0 r [] t (.i 0) n hsq) ⟨locM, lwH [] [] [.sq 64] [] [.sq 61, .tup [.fl [.sq 62], .opq 0]] (opsOf figs), 40⟩ := by
    show _ = AS.mk _ ((1, symI) :: (2, .dict 0 (some 0) []) :: (3, .dict 2 (some 1) []) :: (13, .list none (anyL n ++ [])) :: (14, .list (some 2) []) :: (15, .list none (mdL m0 ++ [mdT (r, t)])) :: opsC (opsOf figs)) 40
    rw [List.append_nil]
    rfl
  have ez := z_row (opsOf figs)
  rw [q1] at ez
  refine blkR_run ez hc (Pre.opn put_eq fok0 es p) fun W1 hl1 m1 h1 tk1 hw1 p1 => ?_
  refine names_new (s := { s with heap := h1, toks := tk1 }) hc hcl hd p1 fun W2 hl2 m2 h2 tk2 cell' X dX hd2 hX p2 => ?_
  have p3 : Pre prog w ε {} 60 c W2 (nmS2 (opsOf figs) (locRc r t) []) hl2 [(c.L + 1, cell')] h2 m2 := p2.close put_eq fok0
  refine wpAny_execs_cons (names_loop (s := { s with heap := h2, toks := tk2 }) hc hcl q8 hd2 hX hpt.var4 ev1 ev2 p3 fun W4 hl4 m4 h4 tk4 hw4 p4 => ?_)
  exact k ε W4 hl4 m4 h4 tk4 r t D cell' X dX (dict_ok h.sym h.ok) hpt hr hdp hd2 (hw4.ρ _ _ hX) p4
end
end
section
open PySem PySem.W PySem.Calls PyProof.Rows
/-! a comprehension over a tuple -/
noncomputable def SrcT (h₀ : Heap) (ax : Addr) (its : Array Value) (news : List (Addr × Obj)) : Prop := h₀.IsTuple ax its ∨ ∃ o, (ax, o) ∈ news ∧ o.cls = .type "tuple" ∧ ∃ n, o.data = .seq its n
theorem SrcT.tup {h₀ h : Heap} {L ax : Addr} {its : Array Value} {news : List (Addr × Obj)} (x : SrcT h₀ ax its news) (k : ∀ b o, h₀.get? b = some o → h.get? b = some o) (N : News h₀ L h news) : h.IsTuple ax its := by
  rcases x with ⟨o, e, r⟩ | ⟨o, hm, r⟩
  · exact mk1_2 o (k _ _ e) r
  · exact mk1_2 o ((N _ hm).1) r
section
variable {prog : Program} {w : World} {A : Around} {E : Value → Shared → Prop} {s : Shared} {h₀ : Heap} {L : Addr} {env : Env}
theorem comp_tuple {elt iter : Expr} {x : Str} {px : Pos} {scope : Scope} {cl : List (Str × Addr)} {pos : Pos} {Q : Value → Shared → Prop}
    (hclos : closureFor scope env = pure cl) (hcell : ∀ y ∈ scope.names, y.2 ≠ .cell) (hkind : scope.kind = .function)
    (hnames : ∀ y ∈ scope.names, y.2 = .local → scope.names.lookup y.1 = some .local) (hx : scope.names.lookup x = some .local)
    (hs : ∀ x, foldedSetIterable iter env x = pure x)
    (h : wpAny (model prog w) A (eval iter env) (fun xv s₁ => ∃ m ax its news, xv = .ref ax ∧ A.handled = none ∧ Fr h₀ L s₁.heap m ∧ News h₀ L s₁.heap news ∧ SrcT h₀ ax its news ∧ its.size ≤ sizeLine ∧
      ∀ g, LCg.CompRest prog w A h₀ L m env elt x scope cl { s₁ with heap := g } (SrcT h₀ ax its) (fun i v => its[i]? = some v) (LCg.FinE h₀ L m { s₁ with heap := g } Q) its.size 0 [] news) E s) :
    wpAny (model prog w) A (eval (.ListComp elt [⟨.Name x px, iter, [], 0⟩] scope pos) env) Q E s := by
  rw [eval_ListComp]
  refine wpAny_comprehension_free (use := none) rfl hs hclos hkind hnames (wpAny_mono h (fun xv s₁ h₁ => ?_) fun _ _ e => e)
  (refine ex4_7 (h₁) ?_; rintro m ax its news rfl hh F N S hsz R)
  have hl := S.tup F.keep N
  have hlt : ax < s₁.heap.objs.size := by (refine ex1_2 (hl) ?_; rintro _ e _); exact Heap.lt_size e
  refine wpAny_pyIter_tuple hl ?_
  refine LCg.block_U (S := SrcT h₀ ax its) (Walks.tuple hh s₁.heap.objs.size ax (Nat.ne_of_lt hlt) its) hsz (fun i h st => by (refine ex1_2 (st.1) ?_; rintro o e _); exact ⟨o, e⟩) (fun i h h' o nw st e e' k N' S' => ⟨?_, S'.tup k N'⟩) hcell hkind hx ⟨⟨_, Heap.get?_push_size _ rfl, rfl, rfl⟩, hl.at fun o e => Heap.get?_push_of_some _ e⟩ (fun b hb => ?_)
    (F.push _) (N.grown fun _ _ e => Heap.get?_push_of_some _ e) (Nat.ne_of_lt F.ns.lt) (next_is_new F) (fun p hp => Nat.ne_of_lt (Heap.lt_size (N p hp).1)) S (R _) ?_
  · (refine ex1_2 (st.1) ?_; rintro o' q r)
    rw [e] at q; (refine som1 q ?_; rintro rfl)
    exact mk1_2 o e' r
  · show b < (s₁.heap.push _).objs.size
    rw [Heap.size_push]
    rcases List.mem_cons.mp hb with rfl | hb
    · exact Nat.lt_succ_self _
    · rw [List.mem_singleton.mp hb]; exact Nat.lt_succ_of_lt hlt
  · intro D C h tk m' ys news' F' N' o1 hn hC₀ hD₀ hCL hDL hCD offC fin
    refine mk1_2 m' hn (fun h'' hs'' => fin D h'' tk (F'.change hs'' hCL hC₀) (fun p hp => ?_) o1)
    refine ⟨hs''.extBut _ _ ?_ (N' p hp).1, (N' p hp).2⟩
    rcases List.mem_cons.mp hp with rfl | hp
    · exact Ne.symm hCD
    · exact offC p hp
end
/-! _law_numbered: the call -/
noncomputable def nBody : List Stmt := match sAt 48 with
  | some (.FunctionDef _ _ b _ _ _ _ _ _ _) => b
  | _ => []
noncomputable def nSc : Scope := match sAt 48 with
  | some (.FunctionDef _ _ _ _ _ _ sc _ _ _) => sc
  | _ => default
noncomputable def nAr : Arguments := match sAt 48 with
  | some (.FunctionDef _ a _ _ _ _ _ _ _ _) => a
  | _ => default
noncomputable abbrev nPm : Value := .str "law_sa0156_01" 904
theorem fnN (P : Params) : (K0 P).lookup 554 = some (fO (sAt 48) "_law_numbered" nPm (.ref 553) .none) ∧ codeIn (K0 P) (.ref 553) (Str.ofString "_law_numbered") = true ∧ keepIn (K0 P) (.ref 554) = true ∧
    (∀ a b, bindArgs (fD (sAt 48) "_law_numbered" nPm (.ref 553) .none) ⟨[a, b], []⟩ = pure [(Str.ofString "term", a), (nmN, b)]) := ⟨by kernel_rfl, by kernel_rfl, by kernel_rfl, fun a b => by kernel_rfl⟩
/-- the end of a body that is walked by hand, without new unknowns -/
inductive FnEnd (prog : Program) (w : World) (ε : Eps) (F : Facts) (n : Nat) (c c' : Cx) (kp kp' : Led) (m : Str → Option Value) (Rr : Result → Shared → Prop) (s : Shared) (fl : Flow) (s' : Shared) : Prop
  | mk (u : Value) (W' : Wd) (hl' : Led) (σ₂ : AS) (m' : Str → Option Value) (h' : Heap) (tk' : Nat) (e1 : fl = .ret u) (e2 : s' = { s with heap := h', toks := tk' }) (p : Pre prog w ε F n c' W' σ₂ hl' kp' h' m')
    (fin : (∀ (loc : List (Str × AV)), LocR w ε W' m loc → Pre prog w ε F (n + 1) c W' { σ₂ with loc := loc } hl' kp h' m) → Rr (.ok (.ret u)) { s with heap := h', toks := tk' })
section
variable {prog : Program} {w : World} {ε : Eps} {F : Facts} {n : Nat} {c : Cx} {W : Wd} {σ : AS} {hl kp : Led} {m : Str → Option Value} {s : Shared}
theorem num_enter {a : AV} {ut un : Value} {Rr : Result → Shared → Prop} (p : Pre prog w ε F (n + 1) c W σ hl kp s.heap m) (rt : R (Kw w) ε W a ut)
    (k : ∀ (c' : Cx) (h₁ : Heap) (tk₁ : Nat) (m₁ : Str → Option Value) (cell : Obj), c'.cs = nSc → c'.cl = [(nmN, c'.L + 1)] → cell.data = .cell (some un) → Pre prog w ε F n c' W { σ with loc := [g1 "term" a] } hl ((c'.L + 1, cell) :: kp) h₁ m₁ →
      wpAny (model prog w) c'.A (execs nBody c'.env) (FnEnd prog w ε F n c c' kp ((c'.L + 1, cell) :: kp) m Rr s) (fun _ _ => False) { s with heap := h₁, toks := tk₁ }) :
    codeAny (model prog w) c.A (.call (.ref 554) ⟨[ut, un], []⟩) Rr s := by
  (refine ex0_4 (fnN w.params) ?_; rintro hlook hcd hkeep hbind)
  have o1 := p.ok
  have dep := o1.depth
  have uni := o1.units
  have hB : BindsTo s (fD (sAt 48) "_law_numbered" nPm (.ref 553) .none) ⟨[ut, un], []⟩ [(Str.ofString "term", ut), (nmN, un)] := .of_eq (hbind ut un)
  have lt : ∀ q ∈ hl ++ (kp ++ W.ims), q.1 < s.heap.objs.size := fun q hq => Heap.lt_size (p.st.news q hq).1
  refine code_defC (mg := c.mg) (mb := c.mb) (mean := c.mean) (qual := Str.ofString "_law_numbered") (params := nAr) (body := nBody) (scope := nSc) (dV := .none) (kV := .none) (doc := .none) (pm := nPm) (an := none) (cdv := .ref 553) (ct := .none) (oc := .type "function") (od := none) (osl := #[])
    o1.below p.st.fr o1.kin p.st.news o1.top o1.frames rfl o1.kind hlook hcd (by show c.A.depth < 1000; omega) hB (by kernel_rfl) (by decide +kernel) (fun g L' h₁ tk₁ cells FG F' N' CA B' Kg Tg hlt => ?_) (by kernel_rfl) (by kernel_rfl) (by kernel_rfl)
  have hcl : cellsFrom (L' + 1) nSc.names [] = [(nmN, L' + 1)] := by kernel_rfl
  have k1 : (envOfC (Str.ofString "_law_numbered") nSc L' 554 (.ref 553)).kindOf (Str.ofString "term") = some .local := by kernel_rfl
  have k2 : ¬ (envOfC (Str.ofString "_law_numbered") nSc L' 554 (.ref 553)).kindOf nmN = some .local := by
    have : (envOfC (Str.ofString "_law_numbered") nSc L' 554 (.ref 553)).kindOf nmN = some .cell := by kernel_rfl
    rw [this]; simp
  rw [hcl] at CA
  (refine ex1_2 (CA.one) ?_; rintro cell rfl hcell)
  have hcell' : cell.data = .cell (some un) := by
    rw [hcell]
    simp [bindC, k1, k2]
  have hbl : (bindL (envOfC (Str.ofString "_law_numbered") nSc L' 554 (.ref 553)).kindOf [(Str.ofString "term", ut), (nmN, un)] fun _ => none) = fun y => if y = Str.ofString "term" then some ut else none := by
    simp [bindL, k1, k2]
  rw [hbl] at F'
  let c' : Cx := { A₀ := c.A, A := c.A.deeper (envOfC (Str.ofString "_law_numbered") nSc L' 554 (.ref 553)), base := c.base, h₀ := g, outer := c.env :: c.outer, cn := Str.ofString "_law_numbered", cs := nSc, L := L', a := 554, ccd := .ref 553, cl := [(nmN, L' + 1)], mean := c.mean, mg := c.mg, mb := c.mb }
  have henv : c'.env = envOfC (Str.ofString "_law_numbered") nSc L' 554 (.ref 553) := by
    show envX _ _ _ _ _ _ = envOfC _ _ _ _ _
    unfold envOfC
    rw [hcl]
  have ok' : c'.Ok w n := ⟨B', by rw [henv]; show Option.map _ c.A.frames = _; rw [o1.frames]; rfl, o1.hand, Kg, Tg, by kernel_rfl, by kernel_rfl, by show c.A.depth + 1 + n < 1000; omega, by show c.A.units + 3 + 16 * n + 64 < 9900; omega⟩
  have hlocR : LocR w ε W (fun y => if y = Str.ofString "term" then some ut else none) [g1 "term" a] := fun x v hx => by
    refine mk1_2 ut ?_ ?_
    · have : x = Str.ofString "term" := by
        unfold look g1 at hx
        split at hx
        · rename_i z; exact (sB_eq z).symm
        · exact nos hx
      exact if_pos this
    · have : v = a := by
        unfold look g1 at hx
        split at hx
        · (refine som1 hx ?_; rintro rfl); rfl
        · exact nos hx
      rw [this]; exact rt
  have p' : Pre prog w ε F n c' W { σ with loc := [g1 "term" a] } hl ((L' + 1, cell) :: kp) h₁ (fun y => if y = Str.ofString "term" then some ut else none) := by
    refine ⟨ok', ⟨F', Lg.perm ⟨N', ?_⟩ (List.perm_middle : (hl ++ (L' + 1, cell) :: (kp ++ W.ims)).Perm ((L' + 1, cell) :: (hl ++ (kp ++ W.ims)))).symm, p.st.hr, p.st.rb⟩, hlocR, p.fk⟩
    show (((L' + 1, cell) :: (hl ++ (kp ++ W.ims))).map (·.1)).Nodup
    rw [List.map_cons, List.nodup_cons]
    refine ⟨fun hm => ?_, p.st.lg.nd⟩
    (refine ex1_2 (List.mem_map.mp hm) ?_; rintro q hq e)
    have := hlt q hq
    have e' : q.1 = L' + 1 := e
    rw [e'] at this
    exact Nat.lt_irrefl _ (Nat.lt_of_succ_lt this)
  have key := k c' h₁ tk₁ _ cell rfl rfl hcell' p'
  rw [henv] at key
  refine wpAny_mono key (fun fl s' z => ?_) (fun _ _ z => z.elim)
  obtain ⟨u, W', hl', σ₂, m', h', tk', rfl, rfl, p₂, fin⟩ := z
  have L2 := p₂.st.lg.perm (List.perm_middle : (hl' ++ (L' + 1, cell) :: (kp ++ W'.ims)).Perm ((L' + 1, cell) :: (hl' ++ (kp ++ W'.ims))))
  have nd2 := L2.nd
  rw [List.map_cons, List.nodup_cons] at nd2
  refine leaveK_ (news' := hl' ++ (kp ++ W'.ims)) p₂.st.fr (fun q hq => L2.nw q (.tail _ hq)) fun F₂ N₂ => fin fun loc hl2 => ?_
  exact ⟨o1, ⟨F₂, ⟨N₂, nd2.2⟩, p₂.st.hr, p₂.st.rb⟩, hl2, p₂.fk⟩
end
end
section
open PySem PySem.W PySem.Calls PyProof.Rows
noncomputable def lnS : Str := Str.ofString "_law_numbered"
noncomputable def ptS : Str := Str.ofString "part"
noncomputable def trS : Str := Str.ofString "term"
inductive Num_bodyI : Prop
  | mk (t1 e1 a1 a2 a3 a4 k5 a5 r1 i1 t2 e2 f2 g2 h1 h2 h3 h4 h5 it csc h6 h7 k8 h8 r2 i2 x3 : _)
    (h0 : nBody = [.If t1 [.Return (some (.Tuple [e1, .Call (.Attribute (.Name nmN a1) (Str.ofString "index") a2) [a3] [] a4] k5 a5)) r1] [] i1,
      .If t2 [.Return (some (.Tuple [e2, f2, .Call (.Name (Str.ofString "tuple") g2) [.ListComp (.Call (.Name lnS h1) [.Name ptS h2, .Name nmN h3] [] h4) [⟨.Name ptS h5, it, [], 0⟩] csc h6] [] h7] k8 h8)) r2] [] i2, x3])
    (h1 : a2.endLine = a4.line)
    (h2 : isStar e1 = false)
    (h3 : isStar a3 = false)
    (h4 : isStar e2 = false)
    (h5 : isStar f2 = false)
    (h6 : (∀ (i : Int) hp nx, exs (xRun {} 60) nSc nBody ⟨[g1 "term" (Tm.i i).av], hp, nx⟩ = some (.ret (Tm.i i).av, ⟨[g1 "term" (Tm.i i).av], hp, nx⟩)))
    (h7 : (∀ (i : Int) hp nx, exs (xRun {} 60) nSc nBody ⟨[g1 "term" (Tm.a i).av], hp, nx⟩ = some (.ret (Tm.a i).av, ⟨[g1 "term" (Tm.a i).av], hp, nx⟩)))
    (h8 : (∀ (k : Nat) hp nx, runT (xRun {} 59) nSc t1 ⟨[g1 "term" (Tm.v k).av], hp, nx⟩ = some (true, ⟨[g1 "term" (Tm.v k).av], hp, nx⟩)))
    (h9 : (∀ (v : AV) hp nx, runE (xRun {} 59) nSc e1 ⟨[g1 "term" v], hp, nx⟩ = some (.str (Str.ofString "v"), ⟨[g1 "term" v], hp, nx⟩)))
    (h10 : (∀ (k : Nat), k < 4 → ∃ σ', runE (xRun {} 59) nSc a3 ⟨[g1 "term" (Tm.v k).av], [], 40⟩ = some (.str (Str.ofString (vnS k)), σ') ∧ σ'.loc = [g1 "term" (Tm.v k).av]))
    (h11 : (∀ (f : Int) (y : List AV) hp nx, runT (xRun {} 59) nSc t1 ⟨[g1 "term" (.tup [.str (Str.ofString "s"), .int (.lit f), .tup y])], hp, nx⟩ = some (false, ⟨[g1 "term" (.tup [.str (Str.ofString "s"), .int (.lit f), .tup y])], hp, nx⟩)))
    (h12 : (∀ (f : Int) (y : List AV) hp nx, runT (xRun {} 59) nSc t2 ⟨[g1 "term" (.tup [.str (Str.ofString "s"), .int (.lit f), .tup y])], hp, nx⟩ = some (true, ⟨[g1 "term" (.tup [.str (Str.ofString "s"), .int (.lit f), .tup y])], hp, nx⟩)))
    (h13 : (∀ (f : Int) (y : List AV) hp nx, runE (xRun {} 59) nSc e2 ⟨[g1 "term" (.tup [.str (Str.ofString "s"), .int (.lit f), .tup y])], hp, nx⟩ = some (.str (Str.ofString "s"), ⟨[g1 "term" (.tup [.str (Str.ofString "s"), .int (.lit f), .tup y])], hp, nx⟩)))
    (h14 : (∀ (f : Int) (y : List AV) hp nx, runE (xRun {} 59) nSc f2 ⟨[g1 "term" (.tup [.str (Str.ofString "s"), .int (.lit f), .tup y])], hp, nx⟩ = some (.int (.lit f), ⟨[g1 "term" (.tup [.str (Str.ofString "s"), .int (.lit f), .tup y])], hp, nx⟩)))
    (h15 : (∀ (f : Int) (y : List AV) hp nx, runE (xRun {} 59) nSc it ⟨[g1 "term" (.tup [.str (Str.ofString "s"), .int (.lit f), .tup y])], hp, nx⟩ = some (.tup y, ⟨[g1 "term" (.tup [.str (Str.ofString "s"), .int (.lit f), .tup y])], hp, nx⟩)))
    (h16 : csc.names = [(Str.ofString ".0", .local), (ptS, .local), (lnS, .globalImplicit), (nmN, .free)])
    (h17 : csc.kind = .function)
    (h18 : (∀ env x, foldedSetIterable it env x = pure x))
theorem num_body : Num_bodyI := by
  refine ⟨_, _, _, _, _, _, _, _, _, _, _, _, _, _, _, _, _, _, _, _, _, _, _, _, _, _, _, _, rfl, rfl, rfl, rfl, rfl, rfl, fun i hp nx => by kernel_rfl, fun i hp nx => by kernel_rfl, fun k hp nx => by kernel_rfl, fun v hp nx => by kernel_rfl, fun k hk => ?_, fun f y hp nx => by kernel_rfl, fun f y hp nx => by kernel_rfl, fun f y hp nx => by kernel_rfl, fun f y hp nx => by kernel_rfl, fun f y hp nx => by kernel_rfl, ?_, rfl, fun _ _ => rfl⟩
  · match k, hk with
    | 0, _ => exact ⟨⟨[g1 "term" (Tm.v 0).av], [(40, .list none [.str (Str.ofString "X"), .str (Str.ofString "Y"), .str (Str.ofString "_Z"), .str (Str.ofString "Yes")])], 41⟩, by kernel_rfl, rfl⟩
    | 1, _ => exact ⟨⟨[g1 "term" (Tm.v 1).av], [(40, .list none [.str (Str.ofString "X"), .str (Str.ofString "Y"), .str (Str.ofString "_Z"), .str (Str.ofString "Yes")])], 41⟩, by kernel_rfl, rfl⟩
    | 2, _ => exact ⟨⟨[g1 "term" (Tm.v 2).av], [(40, .list none [.str (Str.ofString "X"), .str (Str.ofString "Y"), .str (Str.ofString "_Z"), .str (Str.ofString "Yes")])], 41⟩, by kernel_rfl, rfl⟩
    | 3, _ => exact ⟨⟨[g1 "term" (Tm.v 3).av], [(40, .list none [.str (Str.ofString "X"), .str (Str.ofString "Y"), .str (Str.ofString "_Z"), .str (Str.ofString "Yes")])], 41⟩, by kernel_rfl, rfl⟩
  · rfl
end
section
open PySem PySem.W PySem.Calls PyProof.Rows
theorem R.lf {K : Frag} {ε : Eps} {W W' : Wd} {a : AV} {u : Value} (h : a.labs (fun _ => false) = true) (hi : ∀ q ∈ W.ims, q ∈ W'.ims) (r : R K ε W a u) : R K ε W' a u := by
  have g := R.rel (W' := W') (g := AV.obj) (p := fun _ => false) (fun a o z => z.imp (hi _) id) (fun l u hp _ => by injection hp) r h
  rw [AV.rel_id] at g
  exact g
theorem idx_not : ∀ (ns : List Nat) (k i : Nat), i < ns.idxOf k → ns[i]? ≠ some k
  | [], _, _, h => by simp at h
  | a :: r, k, i, h => by
    rw [List.idxOf_cons] at h
    by_cases e : a = k
    · simp [e] at h
    · have e' : (a == k) = false := by simpa using e
      rw [e', cond_false] at h
      cases i with
      | zero => simpa using e
      | succ i =>
        have := idx_not r k i (by omega)
        simpa using this
theorem strs_get {us : List Value} {ys : List Str} (h : StrsAre us ys) : ∀ {i : Nat} {v : Value}, us[i]? = some v → ∃ t y, v = .str y t ∧ ys[i]? = some y := by
  induction h with
  | nil => intro i v e; simp at e
  | cons y t _ ih =>
    intro i v e
    cases i with
    | zero => simp at e; subst e; exact mk2_2 t y rfl rfl
    | succ i => (refine ex2_2 (ih (by simpa using e)) ?_; rintro t' y' h1 h2); exact mk2_2 t' y' h1 (by simpa using h2)
theorem strs_len {us : List Value} {ys : List Str} (h : StrsAre us ys) : us.length = ys.length := by
  induction h with
  | nil => rfl
  | cons _ _ _ ih => simp [ih]
section
variable {prog : Program} {w : World} {ε : Eps} {F : Facts} {n : Nat} {c : Cx} {W : Wd} {σ : AS} {hl kp : Led} {h : Heap} {m : Str → Option Value} {E : Value → Shared → Prop} {s : Shared}
theorem idx_call {X : Addr} {us : List Value} {kk : Nat} {ns : List Nat} {k : Nat} {t : Tok} {Q : Value → Shared → Prop} {A : Around} {news : Led} {h₀ : Heap} {L : Addr} (N : News h₀ L s.heap news) (hm : (X, listOf us.toArray kk) ∈ news) (hus : StrsAre us (ns.map fun k => Str.ofString (vnS k))) (h4 : ∀ j ∈ ns, j < 4) (hk : k ∈ ns) (hlen : ns.length ≤ 4)
    (q : Q (.int (ns.idxOf k : Int) s.toks) { s with toks := s.toks + 1 }) : wpAny (model prog w) A (call (.builtin "list.index") [.ref X, .str (Str.ofString (vnS k)) t]) Q E s := by
  have hul : us.length = ns.length := by rw [strs_len hus, List.length_map]
  have hj : ns.idxOf k < ns.length := List.idxOf_lt_length_of_mem hk
  have at_ : ∀ i (hi : i < us.toArray.size), ∃ t', us.toArray[i] = .str (Str.ofString (vnS (ns[i]'(by simpa [hul] using hi)))) t' := fun i hi => by
    have hi' : i < us.length := by simpa using hi
    (refine ex2_2 (strs_get hus (List.getElem?_eq_getElem hi')) ?_; rintro t' y e1 e2)
    have hi2 : i < ns.length := by omega
    rw [List.getElem?_map, List.getElem?_eq_getElem hi2] at e2
    simp only [Option.map_some, Option.some.injEq] at e2
    exact ⟨t', by rw [show us.toArray[i] = us[i] from by simp]; rw [e1, ← e2]⟩
  refine call_meets PySem.F.slot_list_index ⟨_, (N _ hm).1, rfl⟩ PySem.F.entry_list_index (PySem.F.args_list_index_2 _ _)
    (MeetsSeq.list_index X us.toArray kk (.str (Str.ofString (vnS k)) t) (isStrOf (Str.ofString (vnS k))) (fun y hy => eq_isStrOf _ t hus y (by simpa using hy)) (ns.idxOf k) (by simp; omega) (by omega) ?_ (fun i hi hlt => ?_)) ⟨(N _ hm).1, q⟩
  · (refine ex1_1 (at_ (ns.idxOf k) (by simp; omega)) ?_; rintro t' e)
    rw [e]
    show (Str.ofString (vnS ns[ns.idxOf k]) == Str.ofString (vnS k)) = true
    rw [List.getElem_idxOf]; simp
  · (refine ex1_1 (at_ i hi) ?_; rintro t' e)
    rw [e]
    have hi2 : i < ns.length := by simpa [hul] using hi
    show (Str.ofString (vnS ns[i]) == Str.ofString (vnS k)) = false
    rw [beq_eq_false_iff_ne]
    intro q'
    have := vnS_inj (h4 _ (List.getElem_mem hi2)) (h4 k hk) q'
    exact idx_not ns k i hlt (by rw [List.getElem?_eq_getElem hi2, this])
/-- nothing told of the heap -/
theorem Pre.bare {W' : Wd} {σ' : AS} {hl' : Led} (p : Pre prog w ε F n c W' σ' hl' kp h m) (hw : W.Le W') (rb : ∀ l q, W.ρ l = some q → l < 40) : Pre prog w ε {} n c ⟨W.ρ, W'.ims⟩ ⟨[], [], 40⟩ [] kp h m ∧ W.Le ⟨W.ρ, W'.ims⟩ := by
  refine ⟨⟨p.ok, ⟨p.st.fr, ⟨fun q hq => p.st.lg.nw q (List.mem_append_right _ hq), ?_⟩, .nil, rb⟩, fun x v e => (by exact nos e), fok0⟩, ⟨fun _ _ e => e, hw.ims⟩⟩
  have := p.st.lg.nd
  rw [List.map_append] at this
  exact (List.nodup_append.mp this).2.1
theorem Pre.reloc (p : Pre prog w ε F n c W σ hl kp h m) {loc : List (Str × AV)} (hl' : LocR w ε W m loc) : Pre prog w ε F n c W { σ with loc := loc } hl kp h m := ⟨p.ok, ⟨p.st.fr, p.st.lg, p.st.hr, p.st.rb⟩, hl', p.fk⟩
noncomputable def NumSpec (prog : Program) (w : World) (ε : Eps) (X : Addr) (us : List Value) (kk : Nat) (a b : AV) (d : Nat) : Prop := ∀ (n : Nat) (c : Cx) (W : Wd) (kp : Led) (s : Shared) (m : Str → Option Value) (ut : Value) (loc : List (Str × AV)) (Rr : Result → Shared → Prop), 61 + d ≤ n →
  Pre prog w ε {} n c W ⟨loc, [], 40⟩ [] kp s.heap m → R (Kw w) ε W a ut → (X, listOf us.toArray kk) ∈ kp →
  (∀ W' h' tk' u, W.Le W' → R (Kw w) ε W' b u → (∀ loc', LocR w ε W' m loc' → Pre prog w ε {} n c W' ⟨loc', [], 40⟩ [] kp h' m) → Rr (.ok (.ret u)) { s with heap := h', toks := tk' }) → codeAny (model prog w) c.A (.call (.ref 554) ⟨[ut, .ref X], []⟩) Rr s
/-- a term that stands for itself -/
theorem num_self {X : Addr} {us : List Value} {kk : Nat} {a : AV} {d : Nat} (hlf : a.labs (fun _ => false) = true) (e : ∀ hp nx, exs (xRun {} 60) nSc nBody ⟨[g1 "term" a], hp, nx⟩ = some (.ret a, ⟨[g1 "term" a], hp, nx⟩)) : NumSpec prog w ε X us kk a a d := by
  intro n c W kp s m ut loc Rr hn p rt hX k
  obtain ⟨n', rfl⟩ : ∃ n', n = n' + 1 := ⟨n - 1, by omega⟩
  refine num_enter p rt fun c' h₁ tk₁ m₁ cell hcs hcl hcell p1 => ?_
  refine (snd_run prog w ε {} 60).exs (s := { s with heap := h₁, toks := tk₁ }) hcs (e [] 40) (p1.le (by omega)) fun W' hl' m' h' tk' hw p' f rf => ?_
  (refine ex1_2 (rf) ?_; rintro u rfl ru)
  (refine ex0_2 (p'.bare hw p1.st.rb) ?_; rintro p2 hw2)
  refine ⟨u, _, [], _, m', h', tk', rfl, rfl, p2.up p1.ok, fun fin => k _ h' tk' u hw2 (R.lf (W := W') (W' := ⟨W.ρ, W'.ims⟩) hlf (fun _ z => z) ru) fun loc' hl => fin loc' hl⟩
theorem cellN {pos : Pos} {cell : Obj} {v : Value} {Q : Value → Shared → Prop} (hc : c.cs = nSc) (hcl : c.cl = [(nmN, c.L + 1)]) (p : Pre prog w ε F n c W σ hl kp s.heap m) (hm : (c.L + 1, cell) ∈ kp) (hd : cell.data = .cell (some v)) (h : Q v s) :
    wpAny (model prog w) c.A (eval (.Name nmN pos) c.env) Q E s := by
  refine wpAny_Name (loadX_C (N := p.st.lg.nw) (c := c.L + 1) ?_ (List.mem_append_right _ (List.mem_append_left _ hm)) hd h p.ok.kind ?_) (by decide +kernel)
  · rw [hcl]; exact List.lookup_cons_self
  · show (envX c.cn c.cs c.L c.a c.ccd c.cl).kindOf nmN = some .cell
    rw [hc]; kernel_rfl
theorem eval_ret {x : Expr} {pos : Pos} {Q : Flow → Shared → Prop} {env : Env} {A : Around} (h : wpAny (model prog w) A (eval x env) (fun u s' => Q (.ret u) s') E s) : wpAny (model prog w) A (exec (.Return (some x) pos) env) Q E s := by
  show wpAny (model prog w) A (do standAt pos; return Flow.ret (← eval x env)) Q E s
  exact wpAny_bind (wpAny_standAt (wpAny_bind (wpAny_mono h (fun u s' z => wpAny_pure z) fun _ _ z => z)))
/-- a variable -/
theorem num_var {X : Addr} {us : List Value} {kk : Nat} {ns : List Nat} {k : Nat} {d : Nat} (hus : StrsAre us (ns.map fun k => Str.ofString (vnS k))) (h4 : ∀ j ∈ ns, j < 4) (hk : k ∈ ns) (hlen : ns.length ≤ 4) : NumSpec prog w ε X us kk (Tm.v k).av (Tm.v (ns.idxOf k)).av d := by
  intro n c W kp s m ut loc Rr hn p rt hX kont
  obtain ⟨n', rfl⟩ : ∃ n', n = n' + 1 := ⟨n - 1, by omega⟩
  obtain ⟨t1, e1, a1, a2, a3, a4, k5, a5, r1, i1, t2, e2, f2, g2, h1, h2, h3, h4', h5, it, csc, h6, h7, k8, h8, r2, i2, x3, eb, q1, q2, q3, q4, q5, _, _, q8, q9, q10, _⟩ := num_body
  refine num_enter p rt fun c' h₁ tk₁ m₁ cell hcs hcl hcell p1 => ?_
  rw [eb]
  have S := snd_run prog w ε {} 59
  have p1' := p1.le (k := 60) (by omega)
  refine wpAny_execs_cons (wpAny_If (S.rT (s := { s with heap := h₁, toks := tk₁ }) (q8 k [] 40) hcs p1' fun W1 hl1 m1 h1' tk1 hw1 p2 => ?_))
  dsimp only
  rw [if_pos rfl]
  refine wpAny_execs_cons (eval_ret (Tuple_ ?_))
  rw [starEach_cons q2]
  show wpAny (model prog w) c'.A (spliced ((false, eval e1 c'.env) :: backTo a5 (starEach _ c'.env))) _ _ _
  refine spliced_cons (S.rE (s := { s with heap := h1', toks := tk1 }) (q9 _ [] 40) hcs p2 fun W2 hl2 m2 h2' tk2 hw2 p3 u1 ru1 => ?_)
  rw [starEach_cons rfl]
  show wpAny (model prog w) c'.A (spliced ((false, eval _ c'.env) :: backTo a5 (starEach [] c'.env))) _ _ _
  refine spliced_cons ?_
  refine call_meth (s := { s with heap := h2', toks := tk2 }) rfl (by simp [noStars, q3]) (by show 1 < 30; omega) q1 (cellN hcs hcl p3 (.head _) hcell fun pl => ?_)
  have hXm : (X, listOf us.toArray kk) ∈ hl2 ++ ((c'.L + 1, cell) :: kp ++ W2.ims) := List.mem_append_right _ (List.mem_append_left _ (.tail _ hX))
  refine getMethod_builtin ⟨_, (p3.st.lg.nw _ hXm).1, rfl⟩ PySem.F.plainAttrs_list PySem.F.slot_list_index PySem.F.type_list_index (fun a e => by cases e; exact mk1_2 _ ((p3.st.lg.nw _ hXm).1) rfl) ?_
  have hk4 := h4 k hk
  (refine ex1_2 (q10 k hk4) ?_; rintro σ' ea el)
  (refine ex0_2 (p3.bare ((hw1.trans hw2)) p1.st.rb) ?_; rintro p3b hw3)
  have p3c : Pre prog w ε {} 60 c' ⟨W.ρ, W2.ims⟩ ⟨[g1 "term" (Tm.v k).av], [], 40⟩ [] ((c'.L + 1, cell) :: kp) h2' m2 := p3b.reloc fun x v e => by
    (refine ex1_2 (p3.loc x v e) ?_; rintro u z1 z2)
    refine mk1_2 u z1 (R.lf (W := W2) (W' := ⟨W.ρ, W2.ims⟩) ?_ (fun _ z => z) z2)
    have e' : look [g1 "term" (Tm.v k).av] x = some v := e
    unfold look g1 at e'
    split at e'
    · (refine som1 e' ?_; rintro rfl); exact AV.labsL_mono (Tm.v k).lf
    · exact nos e'
  refine callWith_list (s := { s with heap := h2', toks := tk2 }) (P := fun _ => True) (by simp [noStars, q3]) keeps_bi (S.evs (s := { s with heap := h2', toks := tk2 }) hcs (evs_one ea) (by simp [noStars, q3]) p3c fun W4 hl4 m4 h4'' tk4 hw4 p4 us4 rus => ⟨True.intro, ?_⟩)
  (refine ex1_2 (rus.one) ?_; rintro u4 rfl ru4)
  cases ru4 with
  | str _ t4 =>
    have hXm4 : (X, listOf us.toArray kk) ∈ hl4 ++ ((c'.L + 1, cell) :: kp ++ W4.ims) := List.mem_append_right _ (List.mem_append_left _ (.tail _ hX))
    refine idx_call (s := { s with heap := h4'', toks := tk4 }) p4.st.lg.nw hXm4 hus h4 hk hlen ?_
    refine spliced_nil ?_
    have r5 : R (Kw w) ε W4 (.int (.lit (ns.idxOf k : Int))) (.int (ns.idxOf k : Int) tk4) := .int (.lit _) _
    have r6 : R (Kw w) ε W4 (.str (Str.ofString "v")) u1 := R.lf (W := W2) (W' := W4) rfl (fun q hq => hw4.ims _ hq) ru1
    refine tup_snd (s := { s with heap := h4'', toks := tk4 + 1 }) (vs := [.str (Str.ofString "v"), .int (.lit (ns.idxOf k : Int))]) (.cons r6 (.cons r5 .nil)) (by show 2 ≤ 1000; omega) p4 fun W5 hl5 m5 h5' tk5 hw5 p5 u ru => ?_
    have hwAll : W.Le W5 := (hw3.trans hw4).trans hw5
    (refine ex0_2 (p5.bare hwAll p1.st.rb) ?_; rintro p6 hw6)
    exact ⟨u, _, [], _, m5, h5', tk5, rfl, rfl, p6.up p1.ok, fun fin => kont _ h5' tk5 u hw6 (R.lf (W := W5) (W' := ⟨W.ρ, W5.ims⟩) rfl (fun _ z => z) ru) fun loc' hl => fin loc' hl⟩
end
end
section
open PySem PySem.W PySem.Calls PyProof.Rows
section
variable {prog : Program} {w : World} {ε : Eps} {F : Facts} {n : Nat} {c : Cx} {W : Wd} {σ : AS} {hl kp : Led} {h : Heap} {m : Str → Option Value} {E : Value → Shared → Prop} {s : Shared}
theorem glob_ln (P : Params) : nsIn (K0 P) mainGlobals lnS = some (some (.ref 554)) := by
  (refine ex1_3 (gAll P (lnS, .stat (.ref 554)) (look_mem (by kernel_rfl))) ?_; rintro u h1 _ h3)
  have := h3 eps0 wd0
  cases this
  exact h1
noncomputable abbrev cEnv (csc : Scope) (C : Addr) (c : Cx) : Env := compEnvC csc [(nmN, c.L + 1)] C c.env
theorem ce_kinds {csc : Scope} {C : Addr} (hc : c.cs = nSc) (hn : csc.names = [(Str.ofString ".0", .local), (ptS, .local), (lnS, .globalImplicit), (nmN, .free)]) :
    (cEnv csc C c).kindOf ptS = some .local ∧ (cEnv csc C c).kindOf lnS = some .globalImplicit ∧ (cEnv csc C c).kindOf nmN = some .cell := by
  have key : ∀ x, (cEnv csc C c).kindOf x = ((csc.names.map fun (n, k) => if (k == .free && (envX c.cn c.cs c.L c.a c.ccd c.cl).scope.kind == .function && (envX c.cn c.cs c.L c.a c.ccd c.cl).kindOf n == some .cell) then (n, .cell) else (n, k)).lookup x) := fun x => rfl
  refine ⟨?_, ?_, ?_⟩
  · rw [key, hn, hc]; kernel_rfl
  · rw [key, hn, hc]; kernel_rfl
  · rw [key, hn, hc]; kernel_rfl
theorem off_of {I C D : Addr} {oI oC oD : Obj} {news : Led} (nd : (((I, oI) :: (C, oC) :: (D, oD) :: news).map (·.1)).Nodup) : LCg.Off3 I C D news := by
  simp only [List.map_cons, List.nodup_cons] at nd
  refine LCg.Off3.of fun p hp => ⟨fun e => ?_, fun e => ?_, fun e => ?_⟩
  · exact nd.1 (.tail _ (.tail _ (e ▸ List.mem_map_of_mem (f := (·.1)) hp)))
  · exact nd.2.1 (.tail _ (e ▸ List.mem_map_of_mem (f := (·.1)) hp))
  · exact nd.2.2.1 (e ▸ List.mem_map_of_mem (f := (·.1)) hp)
theorem nd_of {I C D : Addr} {oI oC oD : Obj} {news : Led} (off : LCg.Off3 I C D news) (h1 : I ≠ C) (h2 : I ≠ D) (h3 : C ≠ D) (nd : (news.map (·.1)).Nodup) : (((I, oI) :: (C, oC) :: (D, oD) :: news).map (·.1)).Nodup := by
  have o := off.mem
  simp only [List.map_cons, List.nodup_cons, List.mem_cons, not_or]
  refine ⟨⟨h1, h2, fun hm => ?_⟩, ⟨h3, fun hm => ?_⟩, fun hm => ?_, nd⟩
  · (refine ex1_2 (List.mem_map.mp hm) ?_; rintro q hq e); exact (o q hq).1 e
  · (refine ex1_2 (List.mem_map.mp hm) ?_; rintro q hq e); exact (o q hq).2.1 e
  · (refine ex1_2 (List.mem_map.mp hm) ?_; rintro q hq e); exact (o q hq).2.2 e
theorem src_of {ax : Addr} {us : List Value} {kp' : Led} (kin : (Kw w).In c.h₀) (i : W.im (Kw w) ax (tupO us)) : SrcT c.h₀ ax us.toArray (kp' ++ W.ims) := by
  rcases i with i | i
  · exact .inr ⟨_, List.mem_append_right _ i, rfl, _, rfl⟩
  · exact .inl ⟨_, kin _ _ i, rfl, _, rfl⟩
/-- the parts of a term, one by one -/
theorem comp_parts {X : Addr} {us : List Value} {kk : Nat} {ns : List Nat} {d : Nat} {csc : Scope} {cell : Obj} {h1 h2 h3 h4 : Pos} {ts : List Tm} {vals : List Value} {ax : Addr} {W1 : Wd} {m1 : Str → Option Value} {n' : Nat} {Fin : List Value → Led → Prop} {s0 : Shared}
    (spec : ∀ t ∈ ts, NumSpec prog w ε X us kk t.av (num ns t).av d) (hn' : 61 + d ≤ n') (ok : c.Ok w n') (hcs : c.cs = nSc) (hcell : cell.data = .cell (some (.ref X))) (hcn : csc.names = [(Str.ofString ".0", .local), (ptS, .local), (lnS, .globalImplicit), (nmN, .free)]) (hck : csc.kind = .function)
    (hX : (X, listOf us.toArray kk) ∈ kp) (rl : Rl (Kw w) ε W1 (ts.map Tm.av) vals) (him : W1.im (Kw w) ax (tupO vals)) (rb1 : ∀ l q, W1.ρ l = some q → l < 40)
    (fin : ∀ ys Wj, W1.Le Wj → (∀ l q, Wj.ρ l = some q → l < 40) → Rl (Kw w) ε Wj (ts.map fun t => (num ns t).av) ys → ((((c.L + 1, cell) :: kp) ++ Wj.ims).map (·.1)).Nodup → Fin ys (((c.L + 1, cell) :: kp) ++ Wj.ims)) :
    ∀ (k i : Nat) (ys : List Value) (Wj : Wd), i + k = ts.length → W1.Le Wj → (∀ l q, Wj.ρ l = some q → l < 40) → Rl (Kw w) ε Wj ((ts.take i).map fun t => (num ns t).av) ys → ((((c.L + 1, cell) :: kp) ++ Wj.ims).map (·.1)).Nodup →
      LCg.CompRest prog w c.A c.h₀ c.L m1 c.env (.Call (.Name lnS h1) [.Name ptS h2, .Name nmN h3] [] h4) ptS csc [(nmN, c.L + 1)] s0 (SrcT c.h₀ ax vals.toArray) (fun i v => vals.toArray[i]? = some v) Fin k i ys (((c.L + 1, cell) :: kp) ++ Wj.ims)
  | 0, i, ys, Wj, hi, hle, rb, rls, nd => LCg.CompRest.zero (fin ys Wj hle rb (by
      have : ts.take i = ts := List.take_of_length_le (by omega)
      rw [this] at rls; exact rls) nd)
  | k + 1, i, ys, Wj, hi, hle, rb, rls, nd => by
    refine LCg.CompRest.succ fun v I oI C oC D m₂ hh tk E' hP hNs hm2 Fr1 N1 off ne => ?_
    (refine ex0_3 (ce_kinds (C := C) hcs hcn) ?_; rintro e1 e2 e3)
    have hv : vals[i]? = some v := by simpa using hP
    obtain ⟨t, ht, rt⟩ : ∃ t, ts[i]? = some t ∧ R (Kw w) ε W1 t.av v := by
      (refine ex1_2 (rl.get hv) ?_; rintro a q1 q2)
      have hi' : i < ts.length := by omega
      refine mk1_2 (ts[i]) (List.getElem?_eq_getElem hi') ?_
      have q3 : (ts.map Tm.av).drop i = ts[i].av :: (ts.map Tm.av).drop (i + 1) := by
        rw [List.drop_eq_getElem_cons (by simpa using hi')]; simp
      rw [q3] at q1
      injection q1 with q1 _
      rw [q1]; exact q2
    have htm : t ∈ ts := List.mem_of_getElem? ht
    have pre0 : Pre prog w ε {} n' c Wj ⟨[], [], 40⟩ [] ((I, oI) :: (C, oC) :: (D, LCg.lst ys) :: ((c.L + 1, cell) :: kp)) hh m1 :=
      ⟨ok, ⟨Fr1, ⟨N1, nd_of off ne.1 ne.2.1 ne.2.2 nd⟩, .nil, rb⟩, fun x v e => (by exact nos e), fok0⟩
    show wpAny (model prog w) c.A (do callWith h4 (← eval (.Name lnS h1) (cEnv csc C c)) [] (backTo h4 (starEach [.Name ptS h2, .Name nmN h3] (cEnv csc C c))) (backToKw h4 (keywordEach [] (cEnv csc C c)))) _ _ _
    have T := topRead_of ok.top
    refine wpAny_bind (Name_function_global (show (relabel csc c.env).kind = _ from hck) e2 (loadGlobal_global (env := cEnv csc C c) (T.g.keeps Fr1.keep) (mg_of ok.kin T.g (glob_ln w.params)) ?_) (by decide +kernel))
    refine callWith_list (P := fun h => (Kw w).In h) rfl (keeps_K (fnN w.params).2.2.1) ?_
    rw [starEach_cons rfl]
    show wpAny (model prog w) c.A (spliced ((false, eval (.Name ptS h2) (cEnv csc C c)) :: backTo h4 (starEach [.Name nmN h3] (cEnv csc C c)))) _ _ _
    refine spliced_cons (ldVarK (m := m₂) (hNs.ns (N1 _ (.tail _ (.head _))).1) hm2 ?_ (show (relabel csc c.env).kind = _ from hck) e1 (by decide +kernel))
    rw [starEach_cons rfl]
    show wpAny (model prog w) c.A (spliced ((false, eval (.Name nmN h3) (cEnv csc C c)) :: backTo h4 (starEach [] (cEnv csc C c)))) _ _ _
    refine spliced_cons (ldCellK (c := c.L + 1) (v := .ref X) List.lookup_cons_self ⟨cell, (N1 _ (.tail _ (.tail _ (.tail _ (.head _))))).1, hcell⟩ ?_ (show (relabel csc c.env).kind = _ from hck) e3 (by decide +kernel))
    refine spliced_nil ⟨pre0.kin, ?_⟩
    refine wpAny_call (spec t htm n' c Wj _ { s0 with heap := hh, toks := tk } m1 v [] _ hn' pre0 (rt.mono hle) (.tail _ (.tail _ (.tail _ (.tail _ hX)))) fun W' h' tk' u hw' ru fin' => ?_)
    have p9 := fin' [] fun x v e => (by exact nos e)
    have nd9 : (((I, oI) :: (C, oC) :: (D, LCg.lst ys) :: (((c.L + 1, cell) :: kp) ++ W'.ims)).map (·.1)).Nodup := p9.st.lg.nd
    have nd' : ((((c.L + 1, cell) :: kp) ++ W'.ims).map (·.1)).Nodup := by
      simp only [List.map_cons, List.nodup_cons] at nd9
      exact nd9.2.2.2
    refine LCg.CompEnd.intro p9.st.fr p9.st.lg.nw (((c.L + 1, cell) :: kp) ++ W'.ims) (fun p hp => hp) (off_of nd9) (src_of ok.kin (him.imp (fun z => (hle.trans hw').ims _ z) id)) ?_
    refine comp_parts spec hn' ok hcs hcell hcn hck hX rl him rb1 fin k (i + 1) (ys ++ [u]) W' (by omega) (hle.trans hw') p9.st.rb ?_ nd'
    rw [List.take_add_one, ht]
    show Rl (Kw w) ε W' ((ts.take i ++ [t]).map fun t => (num ns t).av) (ys ++ [u])
    rw [List.map_append]
    have app : ∀ {a b : List AV} {x y : List Value}, Rl (Kw w) ε W' a x → Rl (Kw w) ε W' b y → Rl (Kw w) ε W' (a ++ b) (x ++ y) := by
      intro a b x y h
      induction h with
      | nil => exact fun h => h
      | cons r _ ih => exact fun h => .cons r (ih h)
    exact app (rls.mono hw') (.cons ru .nil)
theorem clos_ok {csc : Scope} (hcl : c.cl = [(nmN, c.L + 1)]) (hcn : csc.names = [(Str.ofString ".0", .local), (ptS, .local), (lnS, .globalImplicit), (nmN, .free)]) : closureFor csc c.env = pure [(nmN, c.L + 1)] := by
  unfold closureFor
  rw [hcn]
  have hcell : cellOf c.env nmN = pure (c.L + 1) := by
    unfold cellOf
    show (match c.cl.lookup nmN with | some a => pure a | none => _) = _
    rw [hcl, List.lookup_cons_self]
  simp only [List.forIn_cons, List.forIn_nil, hcell]
  rfl
theorem avMap_items (ts : List Tm) : AV.cloL (ts.map Tm.av) = true ∧ AV.labsL (fun _ => false) (ts.map Tm.av) = true := by
  induction ts with
  | nil => exact ⟨rfl, rfl⟩
  | cons t r ih =>
    refine ⟨?_, ?_⟩
    · show (AV.cloL t.items && AV.cloL (r.map Tm.av)) = true
      rw [t.clo, ih.1]; rfl
    · show (AV.labsL _ t.items && AV.labsL _ (r.map Tm.av)) = true
      rw [t.lf, ih.2]; rfl
theorem num_struct {X : Addr} {us : List Value} {kk : Nat} {ns : List Nat} {d : Nat} {f : Int} {ts : List Tm} (hts : ts.length ≤ 2) (spec : ∀ t ∈ ts, NumSpec prog w ε X us kk t.av (num ns t).av d) :
    NumSpec prog w ε X us kk (.tup [.str (Str.ofString "s"), .int (.lit f), .tup (ts.map Tm.av)]) (.tup [.str (Str.ofString "s"), .int (.lit f), .tup (ts.map fun t => (num ns t).av)]) (d + 1) := by
  intro n c W kp s m ut loc Rr hn p rt hX kont
  obtain ⟨n', rfl⟩ : ∃ n', n = n' + 1 := ⟨n - 1, by omega⟩
  obtain ⟨t1, e1, a1, a2, a3, a4, k5, a5, r1, i1, t2, e2, f2, g2, h1, h2, h3, h4', h5, it, csc, h6, h7, k8, h8, r2, i2, x3, eb, q1, q2, q3, q4, q5, _, _, q8, q9, _, q11, q12, q13, q14, q15, q16, q17, q18⟩ := num_body
  refine num_enter p rt fun c' h₁ tk₁ m₁ cell hcs hcl hcell p1 => ?_
  rw [eb]
  have S := snd_run prog w ε {} 59
  have p1' := p1.le (k := 60) (by omega)
  refine wpAny_execs_cons (wpAny_If (S.rT (s := { s with heap := h₁, toks := tk₁ }) (q11 f _ [] 40) hcs p1' fun W1 hl1 m1 h1' tk1 hw1 p2 => ?_))
  dsimp only
  rw [if_neg (by simp)]
  refine wpAny_execs_nil ?_
  refine wpAny_execs_cons (wpAny_If (S.rT (s := { s with heap := h1', toks := tk1 }) (q12 f _ [] 40) hcs p2 fun W2 hl2 m2 h2' tk2 hw2 p3 => ?_))
  dsimp only
  rw [if_pos rfl]
  refine wpAny_execs_cons (eval_ret (Tuple_ ?_))
  rw [starEach_cons q4]
  show wpAny (model prog w) c'.A (spliced ((false, eval e2 c'.env) :: backTo h8 (starEach _ c'.env))) _ _ _
  refine spliced_cons (S.rE (s := { s with heap := h2', toks := tk2 }) (q13 f _ [] 40) hcs p3 fun W3 hl3 m3 h3' tk3 hw3 p4 u1 ru1 => ?_)
  rw [starEach_cons q5]
  show wpAny (model prog w) c'.A (spliced ((false, eval f2 c'.env) :: backTo h8 (starEach _ c'.env))) _ _ _
  refine spliced_cons (S.rE (s := { s with heap := h3', toks := tk3 }) (q14 f _ [] 40) hcs p4 fun W4 hl4 m4 h4 tk4 hw4 p5 u2 ru2 => ?_)
  rw [starEach_cons rfl]
  show wpAny (model prog w) c'.A (spliced ((false, eval _ c'.env) :: backTo h8 (starEach [] c'.env))) _ _ _
  refine spliced_cons ?_
  show wpAny (model prog w) c'.A (do callWith h7 (← eval (.Name (Str.ofString "tuple") g2) c'.env) [] (backTo h7 (starEach _ c'.env)) (backToKw h7 (keywordEach [] c'.env))) _ _ _
  refine wpAny_bind (name_snd (v := .stat (.type "tuple")) (s := { s with heap := h4, toks := tk4 }) hcs (by kernel_rfl) p5 fun W5 hl5 m5 h5' tk5 hw5 p6 u0 r0 => ?_)
  cases r0
  refine callWith_list (s := { s with heap := h5', toks := tk5 }) (P := fun _ => True) rfl keeps_ty ?_
  rw [starEach_cons rfl]
  show wpAny (model prog w) c'.A (spliced ((false, eval (.ListComp _ _ csc h6) c'.env) :: backTo h7 (starEach [] c'.env))) _ _ _
  refine spliced_cons (comp_tuple (h₀ := c'.h₀) (L := c'.L) (clos_ok hcl q16) ?_ q17 ?_ ?_ (q18 _) ?_)
  · rw [q16]; simp
  · rw [q16]; intro y hy hl
    simp only [List.mem_cons, List.not_mem_nil, or_false] at hy
    rcases hy with rfl | rfl | rfl | rfl <;> first | (decide +kernel) | injection hl
  · rw [q16]; decide +kernel
  refine S.rE (s := { s with heap := h5', toks := tk5 }) (q15 f _ [] 40) hcs p6 fun W6 hl6 m6 h6' tk6 hw6 p7 u3 ru3 => ?_
  have e6 := HpR.nil_inv p7.st.hr
  subst e6
  cases ru3 with
  | @tup _ vals ax im3 rs3 =>
    have rl3 : Rl (Kw w) ε W6 (ts.map Tm.av) vals := rs3.rl (AV.cloL_plain (avMap_items ts).1)
    have hvl : vals.length = ts.length := by rw [rl3.len, List.length_map]
    refine mk4_7 m6 ax vals.toArray (((c'.L + 1, cell) :: kp) ++ W6.ims) rfl p7.ok.hand p7.st.fr p7.st.lg.nw (src_of p7.ok.kin im3) (line_of (by show vals.length ≤ 1200000; omega)) (fun g => ?_)
    have hsz : vals.toArray.size = ts.length := by rw [List.size_toArray, hvl]
    rw [hsz]
    refine comp_parts (W1 := W6) spec (by omega) p1.ok hcs hcell q16 q17 hX rl3 im3 p7.st.rb ?_ ts.length 0 [] W6 (by omega) (.refl _) p7.st.rb .nil p7.st.lg.nd
    intro ys Wj hle rb rls nd D hh tk Fr1 N1 off1
    refine spliced_nil ⟨True.intro, ?_⟩
    have hwk := Wj.add_le D (LCg.lst ys)
    have hD : D ∉ ((((c'.L + 1, cell) :: kp) ++ Wj.ims).map (·.1)) := fun hm => by
      (refine ex1_2 (List.mem_map.mp hm) ?_; rintro q hq e)
      have : ∀ {l : Led}, LCg.Off1 D l → q ∈ l → q.1 ≠ D := by
        intro l
        induction l with
        | nil => intro _ h; cases h
        | cons a r ih =>
          intro h1 h2
          rcases List.mem_cons.mp h2 with rfl | h2
          · exact h1.1
          · exact ih h1.2 h2
      exact this off1 hq e
    have p8 : Pre prog w ε {} 60 c' (Wj.add D (LCg.lst ys)) ⟨[g1 "term" (.tup [.str (Str.ofString "s"), .int (.lit f), .tup (ts.map Tm.av)])], [], 40⟩ [] ((c'.L + 1, cell) :: kp) hh m6 := by
      refine ⟨p7.ok, ⟨Fr1, ?_, .nil, rb⟩, fun x v e => ?_, fok0⟩
      · have L1 : Lg c'.h₀ c'.L hh ((D, LCg.lst ys) :: (((c'.L + 1, cell) :: kp) ++ Wj.ims)) := ⟨N1, by rw [List.map_cons, List.nodup_cons]; exact ⟨hD, nd⟩⟩
        exact L1.perm (List.perm_middle : ((((c'.L + 1, cell) :: kp)) ++ (D, LCg.lst ys) :: Wj.ims).Perm ((D, LCg.lst ys) :: (((c'.L + 1, cell) :: kp) ++ Wj.ims))).symm
      · (refine ex1_2 (p7.loc x v e) ?_; rintro u z1 z2)
        exact mk1_2 u z1 ((z2.mono hle).mono hwk)
    have rfl9 : R (Kw w) ε (Wj.add D (LCg.lst ys)) (.fl (ts.map fun t => (num ns t).av)) (.ref D) := .fl (.inl (.head _)) (rls.rs.mono hwk)
    have hsm : small (ts.map fun t => (num ns t).av) = true := by
      unfold small
      rw [Nat.ble_eq, List.length_map]
      omega
    refine tuple_snd (s := { s with heap := hh, toks := tk }) (xs := ts.map fun t => (num ns t).av) rfl hsm rfl9 p8 fun W9 hl9 m9 h9 tk9 hw9 p9 u ru => ?_
    refine spliced_nil ?_
    have hA : W6.Le W9 := (hle.trans hwk).trans hw9
    have r1' : R (Kw w) ε W9 (.str (Str.ofString "s")) u1 := ((((ru1.mono hw4).mono hw5).mono hw6).mono hA)
    have r2' : R (Kw w) ε W9 (.int (.lit f)) u2 := (((ru2.mono hw5).mono hw6).mono hA)
    refine tup_snd (s := { s with heap := h9, toks := tk9 }) (vs := [.str (Str.ofString "s"), .int (.lit f), .tup (ts.map fun t => (num ns t).av)]) (.cons r1' (.cons r2' (.cons ru .nil))) (by show 3 ≤ 1000; omega) p9 fun W10 hl10 m10 h10 tk10 hw10 p10 u' ru' => ?_
    have hwAll : W.Le W10 := ((((((hw1.trans hw2).trans hw3).trans hw4).trans hw5).trans hw6).trans hA).trans hw10
    (refine ex0_2 (p10.bare hwAll p1.st.rb) ?_; rintro p11 hw11)
    have hlf : (AV.tup [.str (Str.ofString "s"), .int (.lit f), .tup (ts.map fun t => (num ns t).av)]).labs (fun _ => false) = true := by
      have := (avMap_items (ts.map (num ns))).2
      rw [List.map_map] at this
      have e : (Tm.av ∘ num ns) = fun t => (num ns t).av := rfl
      rw [e] at this
      simp only [AV.labs, AV.labsL, this]; rfl
    exact ⟨u', _, [], _, m10, h10, tk10, rfl, rfl, p11.up p1.ok, fun fin => kont _ h10 tk10 u' hw11 (R.lf (W := W10) (W' := ⟨W.ρ, W10.ims⟩) hlf (fun _ z => z) ru') fun loc' hl => fin loc' hl⟩
/-- _law_numbered -/
theorem num_call {X : Addr} {us : List Value} {kk : Nat} {ns : List Nat} (hus : StrsAre us (ns.map fun k => Str.ofString (vnS k))) (h4 : ∀ j ∈ ns, j < 4) (hlen : ns.length ≤ 4) : ∀ (t : Tm), varsIn ns t → NumSpec prog w ε X us kk t.av (num ns t).av (dpt t)
  | .i i, _ => by
    obtain ⟨t1, e1, a1, a2, a3, a4, k5, a5, r1, i1, t2, e2, f2, g2, h1, h2, h3, h4', h5, it, csc, h6, h7, k8, h8, r2, i2, x3, eb, q1, q2, q3, q4, q5, q6, _⟩ := num_body
    exact num_self (Tm.i i).lf (fun hp nx => q6 i hp nx)
  | .a i, _ => by
    obtain ⟨t1, e1, a1, a2, a3, a4, k5, a5, r1, i1, t2, e2, f2, g2, h1, h2, h3, h4', h5, it, csc, h6, h7, k8, h8, r2, i2, x3, eb, q1, q2, q3, q4, q5, _, q6, _⟩ := num_body
    exact num_self (Tm.a i).lf (fun hp nx => q6 i hp nx)
  | .v k, hv => num_var hus h4 hv hlen
  | .s1 f t, hv => by
    have hm : NumSpec prog w ε X us kk t.av (num ns t).av (dpt t) := num_call hus h4 hlen t hv
    refine num_struct (ts := [t]) (by simp) fun t' ht' => ?_
    rw [List.mem_singleton.mp ht']
    exact hm
  | .s2 f t r, hv => by
    have hm1 : NumSpec prog w ε X us kk t.av (num ns t).av (dpt t) := num_call hus h4 hlen t hv.1
    have hm2 : NumSpec prog w ε X us kk r.av (num ns r).av (dpt r) := num_call hus h4 hlen r hv.2
    refine num_struct (d := max (dpt t) (dpt r)) (ts := [t, r]) (by simp) fun t' ht' => ?_
    have weak : ∀ {a b : AV} {d d' : Nat}, d ≤ d' → NumSpec prog w ε X us kk a b d → NumSpec prog w ε X us kk a b d' := fun hd sp n c W kp s m ut loc Rr hn => sp n c W kp s m ut loc Rr (by omega)
    simp only [List.mem_cons, List.not_mem_nil, or_false] at ht'
    rcases ht' with rfl | rfl
    · exact weak (by omega) hm1
    · exact weak (by omega) hm2
end
end
section
open PySem PySem.W PySem.Calls PyProof.Rows
noncomputable def dueS : Str := Str.ofString "due"
noncomputable def rowS : Str := Str.ofString "row"
noncomputable def rowsS : Str := Str.ofString "rows"
inductive Law_dueI : Prop
  | mk (d1 d2 d3 d4 d5 d6 : _)
    (h0 : lwB 9 1 = [.Assign [.Name dueS d1] (.Call (.Name lnS d2) [.Name trS d3, .Name nmN d4] [] d5) d6])
theorem law_due : Law_dueI := ⟨_, _, _, _, _, _, rfl⟩
noncomputable def loc7 (r : List Tk) (d : Tm) : List (Str × AV) := [g1 "book" (.obj 1), g1 "operators" (.obj 4), g1 "row" (.fl (rwL r ++ [])), g1 "due" d.av]
section
variable {prog : Program} {w : World} {ε : Eps} {F : Facts} {n : Nat} {c : Cx} {W : Wd} {σ : AS} {hl kp : Led} {h : Heap} {m : Str → Option Value} {E : Value → Shared → Prop} {s : Shared}
theorem law_due_snd {O : Ops} {r : List Tk} {t : Tm} {ns : List Nat} {cell : Obj} {X dX : Addr} {d1 d2 d3 d4 d5 d6 : Pos} {rest : List Stmt} {Q : Flow → Shared → Prop} (ok100 : c.Ok w 100) (hc : c.cs = lSc) (hcl : c.cl = [(nmN, c.L + 1)]) (hd : cell.data = .cell (some (.ref X))) (hm : (c.L + 1, cell) ∈ kp) (hX : W.ρ 16 = some (X, dX))
    (hdp : dpt t ≤ 20) (h4 : ∀ j ∈ ns, j < 4) (hlen : ns.length ≤ 4) (hv : varsIn ns t) (p : Pre prog w ε {} 60 c W (nmS2 O (locRc r t) ns) hl kp s.heap m)
    (k : ∀ W' hl' m' h' tk', W.Le W' → Pre prog w ε {} 60 c W' (nmS2 O (loc7 r (num ns t)) ns) hl' kp h' m' → wpAny (model prog w) c.A (execs rest c.env) Q E { s with heap := h', toks := tk' }) :
    wpAny (model prog w) c.A (execs (.Assign [.Name dueS d1] (.Call (.Name lnS d2) [.Name trS d3, .Name nmN d4] [] d5) d6 :: rest) c.env) Q E s := by
  refine wpAny_execs_cons (wpAny_Assign_Name ?_ (notComp rfl _ _ _))
  show wpAny (model prog w) c.A (do callWith d5 (← eval (.Name lnS d2) c.env) [] (backTo d5 (starEach [.Name trS d3, .Name nmN d4] c.env)) (backToKw d5 (keywordEach [] c.env))) _ _ _
  refine wpAny_bind (name_snd (v := .stat (.ref 554)) hc (by kernel_rfl) p fun W1 hl1 m1 h1 tk1 hw1 p1 u0 r0 => ?_)
  cases r0
  refine callWith_list (s := { s with heap := h1, toks := tk1 }) (P := fun h => (Kw w).In h) rfl (keeps_K (fnN w.params).2.2.1) ?_
  rw [starEach_cons rfl]
  show wpAny (model prog w) c.A (spliced ((false, eval (.Name trS d3) c.env) :: backTo d5 (starEach [.Name nmN d4] c.env))) _ _ _
  refine spliced_cons (name_snd (v := t.av) (s := { s with heap := h1, toks := tk1 }) hc (by kernel_rfl) p1 fun W2 hl2 m2 h2 tk2 hw2 p2 ut rt => ?_)
  rw [starEach_cons rfl]
  show wpAny (model prog w) c.A (spliced ((false, eval (.Name nmN d4) c.env) :: backTo d5 (starEach [] c.env))) _ _ _
  refine spliced_cons (name_cell (s := { s with heap := h2, toks := tk2 }) hc hcl p2 hm hd ?_)
  refine spliced_nil ⟨p2.kin, ?_⟩
  have hX2 := (hw1.trans hw2).ρ _ _ hX
  have e : lookN (nmS2 O (locRc r t) ns).hp 16 = some (.list none (nsV ns)) := by rfl
  (refine ex3_4 (p2.list e (.obj hX2)) ?_; rintro y us kk ey hmem _ rs)
  cases ey
  obtain ⟨y0, z0, ey0, hHz, pA⟩ := Pre.aside (a := []) (b := (nmS2 O (locRc r t) ns).hp) p2 rfl
  have hy0 : y0 = [] := HpR.nil_inv pA.st.hr
  subst hy0
  rw [List.nil_append] at ey0
  subst ey0
  refine wpAny_call (num_call (nsV_strs rs) h4 hlen t hv 100 c W2 (hl2 ++ kp) { s with heap := h2, toks := tk2 } m2 ut _ _ (by omega) (pA.up ok100) rt (List.mem_append_left _ hmem) fun W3 h3 tk3 u hw3 ru fin => ?_)
  have l3 : LocR w ε W3 m2 (locRc r t) := fun x v hx => by (refine ex1_2 (p2.loc x v hx) ?_; rintro u' z1 z2); exact mk1_2 u' z1 (z2.mono hw3)
  have p4 := (fin _ l3).le (k := 60) (by omega)
  have p5 := Pre.takeBack p4 (hHz.mono hw3)
  refine store_snd (s := { s with heap := h3, toks := tk3 }) (x := dueS) (v := (num ns t).av) (by rw [hc]; kernel_rfl) ru p5 fun W6 hl6 m6 h6 tk6 hw6 p6 => ?_
  refine k W6 hl6 m6 h6 tk6 (((hw1.trans hw2).trans hw3).trans hw6) ?_
  refine p6.locs (loc' := loc7 r (num ns t)) fun x v hx => ?_
  have e7 : (put (locRc r t) dueS (num ns t).av) = [g1 "book" (.obj 1), g1 "operators" (.obj 4), g1 "row" (.fl (rwL r ++ [])), g1 "term" t.av, g1 "due" (num ns t).av] := by rfl
  show look (put (locRc r t) dueS (num ns t).av) x = some v
  rw [e7]
  have h1 : sB (Str.ofString "term") (Str.ofString "due") = false := by decide +kernel
  unfold loc7 g1 at hx
  unfold g1
  simp only [look] at hx ⊢
  split
  · rename_i q; simpa [q] using hx
  · rename_i q1
    simp only [q1, if_false] at hx
    split
    · rename_i q; simpa [q] using hx
    · rename_i q2
      simp only [q2, if_false] at hx
      split
      · rename_i q; simpa [q] using hx
      · rename_i q3
        simp only [q3, if_false] at hx
        split
        · rename_i q
          have := sB_eq q
          subst this
          have h2 : ¬ sB (Str.ofString "due") (Str.ofString "term") = true := by decide +kernel
          simp [h2] at hx
        · exact hx
end
end
section
open PySem PySem.W PySem.Calls PyProof.Rows
noncomputable def selT : List (Nat × Nat) := [(1, 1), (2, 2), (3, 3), (4, 4), (5, 5), (6, 6), (7, 7), (16, 16), (17, 40)]
noncomputable def xsT : List Str := [Str.ofString "book", Str.ofString "operators", rowS, dueS, rowsS]
noncomputable def loc7o : List (Str × AV) := [g1 "book" (.obj 1), g1 "operators" (.obj 4), g1 "row" (.fl [.sq 62]), g1 "due" (.opq 0)]
noncomputable def loc8o : List (Str × AV) := [g1 "book" (.obj 1), g1 "operators" (.obj 4), g1 "row" (.fl [.sq 62]), g1 "due" (.opq 0), g1 "rows" (.obj 17)]
noncomputable def loc8 (r : List Tk) (d : Tm) : List (Str × AV) := [g1 "book" (.obj 1), g1 "operators" (.obj 4), g1 "row" (.fl (rwL r ++ [])), g1 "due" d.av, g1 "rows" (.obj 17)]
theorem z_rows (O : Ops) : blkS {} 60 lSc (lwB 10 1) selT [] xsT ⟨loc7o, comC O ++ [(16, .list none [.sq 66])], 40⟩ = some (loc8o, comC O ++ [(16, .list none [.sq 66]), (17, .list none [.fl [.sq 62]])]) := by kernel_rfl
noncomputable abbrev rwsH (O : Ops) (ns : List Nat) (rows : List AV) : List (Nat × AO) := comC O ++ [(16, .list none (nsV ns)), (17, .list none rows)]
inductive Law_cutI : Prop
  | mk (p1 p2 p3 x2 a1 a2 a3 a4 a5 l1 l2 l3 l4 l5 lo hi : _)
    (h0 : lwB 11 1 = [.If (.Compare (.Subscript (.Name rowS p1) p2 p3) [.Eq] [x2] a1) [.Expr (.Call (.Attribute (.Name rowsS a2) (Str.ofString "append") a3) [.Subscript (.Name rowS l1) (.Slice (some lo) (some hi) none l2) l3] [] a4) a5] [] l4])
    (h1 : a3.endLine = a4.line)
    (h2 : behindInMarks .Eq x2 = false)
    (h3 : l5 = l4)
    (h4 : (∀ (q : Tk) hp, runE (xRun { at_ := [(62, .lit 0, rwT q)] } 59) lSc (.Subscript (.Name rowS p1) p2 p3) ⟨loc8o, hp, 40⟩ = some (rwT q, ⟨loc8o, hp, 40⟩)))
    (h5 : (∀ F σ, runE (xRun F 59) lSc x2 σ = some (rwT .op, σ)))
    (h6 : (∀ σ, runE (xRun {} 59) lSc lo σ = some (.int (.lit 1), σ)))
    (h7 : (∀ σ, runE (xRun {} 59) lSc hi σ = some (.int (.lit (-1)), σ)))
theorem law_cut : Law_cutI := by
  refine ⟨_, _, _, _, _, _, _, _, _, _, _, _, _, _, _, _, rfl, rfl, rfl, rfl, fun q hp => ?_, fun F σ => by kernel_rfl, fun σ => by kernel_rfl, fun σ => by kernel_rfl⟩
  cases q <;> kernel_rfl
/-! reading values -/
noncomputable def tkD : Tk → PyData
  | .int i => .tuple [.str (Str.ofString "int"), .int i]
  | .name s => .tuple [.str (Str.ofString "name"), .str (Str.ofString (nmS s))]
  | .qname s => .tuple [.str (Str.ofString "qname"), .str (Str.ofString (nmS s))]
  | .var k => .tuple [.str (Str.ofString "var"), .str (Str.ofString (vnS k))]
  | .op => .tuple [.str (Str.ofString "open"), .str (Str.ofString "(")]
  | .oct => .tuple [.str (Str.ofString "open_ct"), .str (Str.ofString "(")]
  | .pu p => .tuple [.str (Str.ofString "punct"), .str (Str.ofString (puS p))]
  | .fin => .tuple [.str (Str.ofString "end"), .str (Str.ofString ".")]
noncomputable def tmD : Tm → PyData
  | .i n => .tuple [.str (Str.ofString "i"), .int n]
  | .a n => .tuple [.str (Str.ofString "a"), .int n]
  | .v k => .tuple [.str (Str.ofString "v"), .int k]
  | .s1 f t => .tuple [.str (Str.ofString "s"), .int f, .tuple [tmD t]]
  | .s2 f t r => .tuple [.str (Str.ofString "s"), .int f, .tuple [tmD t, tmD r]]
theorem tmD_lay : ∀ t : Tm, (tmD t).canLay0 = true ∧ (tmD t).depth ≤ 2 * dpt t
  | .i n => ⟨by simp only [tmD, PyData.canLay0, PyData.canLayAll0]; decide +kernel, by simp [tmD, PyData.depth, PyData.depthAll, dpt]⟩
  | .a n => ⟨by simp only [tmD, PyData.canLay0, PyData.canLayAll0]; decide +kernel, by simp [tmD, PyData.depth, PyData.depthAll, dpt]⟩
  | .v k => ⟨by simp only [tmD, PyData.canLay0, PyData.canLayAll0]; decide +kernel, by simp [tmD, PyData.depth, PyData.depthAll, dpt]⟩
  | .s1 f t => by
    (refine ex0_2 (tmD_lay t) ?_; rintro h1 h2)
    refine ⟨?_, ?_⟩
    · simp only [tmD, PyData.canLay0, PyData.canLayAll0, h1]; decide +kernel
    · simp only [tmD, PyData.depth, PyData.depthAll, dpt]; omega
  | .s2 f t r => by
    (refine ex0_2 (tmD_lay t) ?_; rintro h1 h2)
    (refine ex0_2 (tmD_lay r) ?_; rintro h3 h4)
    refine ⟨?_, ?_⟩
    · simp only [tmD, PyData.canLay0, PyData.canLayAll0, h1, h3]; decide +kernel
    · simp only [tmD, PyData.depth, PyData.depthAll, dpt]; omega
theorem tkD_shaped (q : Tk) (h4 : ∀ k, q = .var k → k < 4) : SeqAt.shaped (tkD q) = true := by
  cases q with
  | var k =>
    have := h4 k rfl
    match k, this with
    | 0, _ => decide +kernel
    | 1, _ => decide +kernel
    | 2, _ => decide +kernel
    | 3, _ => decide +kernel
  | int i => simp only [SeqAt.shaped, tkD, PyData.canLay0, PyData.canLayAll0, PyData.depth, PyData.depthAll]; decide +kernel
  | name s => cases s <;> decide +kernel
  | qname s => cases s <;> decide +kernel
  | op => decide +kernel
  | oct => decide +kernel
  | pu p => cases p <;> decide +kernel
  | fin => decide +kernel
theorem tkD_eqv (q : Tk) : PyData.eqv (tkD q) (tkD .op) = decide (q = .op) := by
  cases q with
  | op => decide +kernel
  | int i => simp [tkD, PyData.eqv, PyData.eqvAll]
  | name s => simp [tkD, PyData.eqv, PyData.eqvAll]; intro h; exact absurd h (by decide +kernel)
  | qname s => simp [tkD, PyData.eqv, PyData.eqvAll]; intro h; exact absurd h (by decide +kernel)
  | var k => simp [tkD, PyData.eqv, PyData.eqvAll]; intro h; exact absurd h (by decide +kernel)
  | oct => simp [tkD, PyData.eqv, PyData.eqvAll]; decide +kernel
  | pu p => simp [tkD, PyData.eqv, PyData.eqvAll]; intro h; exact absurd h (by decide +kernel)
  | fin => simp [tkD, PyData.eqv, PyData.eqvAll]; decide +kernel
end
section
open PySem PySem.W PySem.Calls PyProof.Rows
theorem Rl.tail {K : Frag} {ε : Eps} {W : Wd} {a : List AV} {u : List Value} (h : Rl K ε W a u) : Rl K ε W a.tail u.tail := by
  cases h with
  | nil => exact .nil
  | cons _ b => exact b
theorem Rl.dropLast {K : Frag} {ε : Eps} {W : Wd} {a : List AV} {u : List Value} (h : Rl K ε W a u) : Rl K ε W a.dropLast u.dropLast := by
  induction h with
  | nil => exact .nil
  | cons r b ih =>
    cases b with
    | nil => exact .nil
    | cons r' b' => exact .cons r ih
theorem rwL_tail (r : List Tk) : rwL r.tail = (rwL r).tail := by cases r <;> rfl
theorem rwL_dropLast : ∀ (r : List Tk), rwL r.dropLast = (rwL r).dropLast
  | [] => rfl
  | [_] => rfl
  | a :: b :: r => by
    have := rwL_dropLast (b :: r)
    show rwT a :: rwL (b :: r).dropLast = rwT a :: (rwL (b :: r)).dropLast
    rw [this]
theorem pick_cut (us : List Value) : kms_pick us (some 1) (some (-1)) = us.tail.dropLast := by
  unfold kms_pick
  have h1 : kms_lo (some 1) us.length = min 1 us.length := by simp [kms_lo]
  have h2 : kms_hi (some (-1)) us.length = us.length - 1 := by simp [kms_hi]
  rw [h1, h2]
  cases us with
  | nil => rfl
  | cons a r =>
    have e : min 1 (a :: r).length = 1 := by simp
    rw [e]
    show r.take ((a :: r).length - 1 - 1) = r.dropLast
    rw [List.dropLast_eq_take]
    simp
noncomputable def cutR (r : List Tk) : List (List Tk) := if r.head? = some .op then [r, r.tail.dropLast] else [r]
noncomputable def rwsV : List (List Tk) → List AV
  | [] => []
  | r :: t => .fl (rwL r ++ []) :: rwsV t
section
variable {prog : Program} {w : World} {ε : Eps} {F : Facts} {n : Nat} {c : Cx} {W : Wd} {σ : AS} {hl kp : Led} {h : Heap} {m : Str → Option Value} {s : Shared} {E : Value → Shared → Prop}
theorem reads_s {a : Str} {u : Value} (r : R (Kw w) ε W (.str a) u) : Reads h u (.str a) [] := R.strE r fun t => .str a t
theorem reads_i {i : Int} {u : Value} (r : R (Kw w) ε W (.int (.lit i)) u) : Reads h u (.int i) [] := R.intE r fun t => .int i t
theorem reads_2 (p : Pre prog w ε F n c W σ hl kp h m) {a b : AV} {x y : PyData} (ha : isSq a = false) (hb : isSq b = false) (h1 : ∀ u, R (Kw w) ε W a u → Reads h u x []) (h2 : ∀ u, R (Kw w) ε W b u → Reads h u y []) {u : Value} (r : R (Kw w) ε W (.tup [a, b]) u) : Reads h u (.tuple [x, y]) [] :=
  R.tup2E r ha hb fun _ _ _ i r1 r2 => .tuple (p.im i) rfl rfl (.cons (h1 _ r1) (.cons (h2 _ r2) .nil))
theorem reads_3 (p : Pre prog w ε F n c W σ hl kp h m) {a b d : AV} {x y z : PyData} (ha : isSq a = false) (hb : isSq b = false) (hd : isSq d = false) (h1 : ∀ u, R (Kw w) ε W a u → Reads h u x []) (h2 : ∀ u, R (Kw w) ε W b u → Reads h u y []) (h3 : ∀ u, R (Kw w) ε W d u → Reads h u z []) {u : Value} (r : R (Kw w) ε W (.tup [a, b, d]) u) : Reads h u (.tuple [x, y, z]) [] :=
  R.tup3E r ha hb hd fun _ _ _ _ i r1 r2 r3 => .tuple (p.im i) rfl rfl (.cons (h1 _ r1) (.cons (h2 _ r2) (.cons (h3 _ r3) .nil)))
theorem reads_1 (p : Pre prog w ε F n c W σ hl kp h m) {a : AV} {x : PyData} (ha : isSq a = false) (h1 : ∀ u, R (Kw w) ε W a u → Reads h u x []) {u : Value} (r : R (Kw w) ε W (.tup [a]) u) : Reads h u (.tuple [x]) [] :=
  R.tup1E r ha fun _ _ i r1 => .tuple (p.im i) rfl rfl (.cons (h1 _ r1) .nil)
theorem reads_tk (p : Pre prog w ε F n c W σ hl kp h m) {q : Tk} {u : Value} (r : R (Kw w) ε W (rwT q) u) : ∃ as, Reads h u (tkD q) as :=
  ⟨[], Tk.casesOn (motive := fun q => R (Kw w) ε W (rwT q) u → Reads h u (tkD q) []) q (fun _ r => reads_2 p rfl rfl (fun _ => reads_s) (fun _ => reads_i) r) (fun _ r => reads_2 p rfl rfl (fun _ => reads_s) (fun _ => reads_s) r) (fun _ r => reads_2 p rfl rfl (fun _ => reads_s) (fun _ => reads_s) r) (fun _ r => reads_2 p rfl rfl (fun _ => reads_s) (fun _ => reads_s) r)
    (fun r => reads_2 p rfl rfl (fun _ => reads_s) (fun _ => reads_s) r) (fun r => reads_2 p rfl rfl (fun _ => reads_s) (fun _ => reads_s) r) (fun _ r => reads_2 p rfl rfl (fun _ => reads_s) (fun _ => reads_s) r) (fun r => reads_2 p rfl rfl (fun _ => reads_s) (fun _ => reads_s) r) r⟩
theorem reads_tm0 (p : Pre prog w ε F n c W σ hl kp h m) (t : Tm) : ∀ u, R (Kw w) ε W t.av u → Reads h u (tmD t) [] := by
  induction t with
  | i k => exact fun _ r => reads_2 p rfl rfl (fun _ => reads_s) (fun _ => reads_i) r
  | a k => exact fun _ r => reads_2 p rfl rfl (fun _ => reads_s) (fun _ => reads_i) r
  | v k => exact fun _ r => reads_2 p rfl rfl (fun _ => reads_s) (fun _ => reads_i) r
  | s1 f t ih => exact fun _ r => reads_3 p rfl rfl rfl (fun _ => reads_s) (fun _ => reads_i) (fun _ r => reads_1 p rfl ih r) r
  | s2 f t t' ih ih' => exact fun _ r => reads_3 p rfl rfl rfl (fun _ => reads_s) (fun _ => reads_i) (fun _ r => reads_2 p rfl rfl ih ih' r) r
theorem reads_tm (p : Pre prog w ε F n c W σ hl kp h m) (t : Tm) {u : Value} (r : R (Kw w) ε W t.av u) : ∃ as, Reads h u (tmD t) as := ⟨[], reads_tm0 p t u r⟩
end
end
section
open PySem PySem.W PySem.Calls PyProof.Rows
theorem nsV_clo : ∀ ns, AV.cloL (nsV ns) = true
  | [] => rfl
  | k :: r => by simp only [nsV, AV.cloL, nsV_clo r]; rfl
theorem nsV_lf : ∀ ns, AV.labsL (fun _ => false) (nsV ns) = true
  | [] => rfl
  | k :: r => by simp only [nsV, AV.labsL, nsV_lf r]; rfl
noncomputable def loc9 (d : Tm) : List (Str × AV) := [g1 "book" (.obj 1), g1 "operators" (.obj 4), g1 "due" d.av, g1 "rows" (.obj 17)]
section
variable {prog : Program} {w : World} {ε : Eps} {F : Facts} {n : Nat} {c : Cx} {W : Wd} {σ : AS} {hl kp : Led} {h : Heap} {m : Str → Option Value} {s : Shared} {E : Value → Shared → Prop}
theorem loc8_9 {r : List Tk} {d : Tm} : ∀ x v, look (loc9 d) x = some v → look (loc8 r d) x = some v := by
  intro x v hx
  unfold loc9 g1 at hx
  unfold loc8 g1
  simp only [look] at hx ⊢
  split
  · rename_i q; simpa [q] using hx
  · rename_i q1
    simp only [q1, if_false] at hx
    split
    · rename_i q; simpa [q] using hx
    · rename_i q2
      simp only [q2, if_false] at hx
      split
      · rename_i q
        have := sB_eq q
        subst this
        have h2 : ¬ sB (Str.ofString "due") (Str.ofString "row") = true := by decide +kernel
        have h3 : ¬ sB (Str.ofString "rows") (Str.ofString "row") = true := by decide +kernel
        simp [h2, h3] at hx
      · exact hx
theorem Tm.items_le (d : Tm) : d.items.length ≤ 1000 := by cases d <;> simp [Tm.items]
noncomputable def CutQ (prog : Program) (w : World) (O : Ops) (c : Cx) (kp : Led) (d : Tm) (ns : List Nat) (r : List Tk) (X dX : Addr) (ε : Eps) (rest : List Stmt) (Q : Flow → Shared → Prop) (E : Value → Shared → Prop) (s : Shared) : Prop := ∀ W' hl' m' h' tk', W'.ρ 16 = some (X, dX) →
  Pre prog w ε {} 60 c W' ⟨loc9 d, rwsH O ns (rwsV (cutR r)), 40⟩ hl' kp h' m' → wpAny (model prog w) c.A (execs rest c.env) Q E { s with heap := h', toks := tk' }
theorem rows_cut0 {O : Ops} {q0 : Tk} {r1 : List Tk} {d : Tm} {ns : List Nat} {X dX : Addr} {s10 s11 : Stmt} {rest : List Stmt} {Q : Flow → Shared → Prop} (hc : c.cs = lSc) (h10 : lwB 10 1 = [s10]) (h11 : lwB 11 1 = [s11]) (hX : W.ρ 16 = some (X, dX)) (hr : (q0 :: r1).length ≤ 100) (hns : ns.length ≤ 4) (h4 : ∀ k, Tk.var k ∈ q0 :: r1 → k < 4)
    (p : Pre prog w ε {} 60 c W (nmS2 O (loc7 (q0 :: r1) d) ns) hl kp s.heap m) (k : CutQ prog w O c kp d ns (q0 :: r1) X dX ε rest Q E s) : wpAny (model prog w) c.A (execs (s10 :: s11 :: rest) c.env) Q E s := by
  obtain ⟨p1, p2', p3, x2, a1, a2, a3, a4, a5, l1, l2, l3, l4, l5, lo, hi, e11, q1, q2, _, ev1, ev2, ev3, ev4⟩ := law_cut
  have e12 : s11 = _ := (List.cons.inj (h11.symm.trans e11)).1
  rw [e12]
  have hsq : SqOk [(62, rwL (q0 :: r1)), (66, nsV ns)] := .cons (rwL_clo _) (rwL_lf _ _) (by rw [rwL_len]; omega) (.cons (nsV_clo ns) (nsV_lf ns) (by rw [nsV_len]; omega) .nil)
  have ez := z_rows O
  rw [h10] at ez
  have es : (nmS2 O (loc7 (q0 :: r1) d) ns) = AS.sub (ε.put [] [(62, rwL (q0 :: r1)), (66, nsV ns)] [(0, d.items)] hsq (.cons d.clo d.lf d.items_le .nil)) ⟨loc7o, comC O ++ [(16, .list none [.sq 66])], 40⟩ := by
    show AS.mk _ (comC O ++ [(16, .list none (nsV ns))]) 40 = AS.mk _ (comC O ++ [(16, .list none (nsV ns ++ []))]) 40
    rw [List.append_nil]
    rfl
  refine blk_sim (body := [s10]) ez rfl hc put_eq fok0 es p fun W1 hl1 m1 h1 tk1 hw1 p1' => ?_
  have hX1 : (W1.selW selT).ρ 16 = some (X, dX) := by
    show (lookN selT 16).bind W1.ρ = _
    exact hw1.ρ _ _ hX
  have p2 : Pre prog w ε {} 60 c (W1.selW selT) ⟨loc8 (q0 :: r1) d, comC O ++ [(16, .list none (nsV ns ++ [])), (17, .list none [.fl (rwL (q0 :: r1) ++ [])])], 40⟩ hl1 kp h1 m1 := p1'
  generalize (W1.selW selT) = W2 at hX1 p2
  clear p1'
  -- the test
  have fk : FOk w (ε.put [] [(62, rwL (q0 :: r1)), (66, nsV ns)] [(0, d.items)] hsq (.cons d.clo d.lf d.items_le .nil)) { at_ := [(62, .lit 0, rwT q0)] } W2 := by
    refine ⟨fun _ _ _ h => (nomatch h), fun _ _ h => (nomatch h), fun _ _ _ h => (nomatch h), fun k' e' v' hm => ?_⟩
    rw [List.mem_singleton] at hm
    cases hm
    exact ⟨0, rfl, by omega, rwT q0, rfl, fun W u r => r⟩
  have S := snd_run prog w (ε.put [] [(62, rwL (q0 :: r1)), (66, nsV ns)] [(0, d.items)] hsq (.cons d.clo d.lf d.items_le .nil)) { at_ := [(62, .lit 0, rwT q0)] } 59
  have p2o := Pre.opn (σ := ⟨loc8o, comC O ++ [(16, .list none [.sq 66]), (17, .list none [.fl [.sq 62]])], 40⟩) put_eq fk rfl p2
  refine wpAny_execs_cons (wpAny_If (wpAny_isTrue_Compare1 (S.rE (s := { s with heap := h1, toks := tk1 }) (ev1 q0 _) hc p2o fun W3 hl3 m3 h3 tk3 hw3 p3 u1 ru1 => ?_) q2))
  refine S.rE (s := { s with heap := h3, toks := tk3 }) (ev2 _ _) hc p3 fun W4 hl4 m4 h4' tk4 hw4 p4 u2 ru2 => ?_
  have hcl1 : (rwT q0).clo = true := rwT_clo q0
  have p5 : Pre prog w ε {} 60 c W4 ⟨loc8 (q0 :: r1) d, comC O ++ [(16, .list none (nsV ns ++ [])), (17, .list none [.fl (rwL (q0 :: r1) ++ [])])], 40⟩ hl4 kp h4' m4 := p4.close put_eq fok0
  obtain ⟨as, ra⟩ := reads_tk p5 ((ru1.mono hw4).eps ε hcl1)
  obtain ⟨bs, rb⟩ := reads_tk (q := .op) p5 (ru2.eps ε (rwT_clo .op))
  have hu : c.A.units + 64 < cLine := by have := p5.ok.units; unfold cLine; omega
  refine eq_dataH (s := { s with heap := h4', toks := tk4 }) ra rb (tkD_shaped q0 fun k e => h4 k (by rw [e]; exact .head _)) (tkD_shaped .op fun k e => by cases e) hu (wpAny_truthy_bool ?_)
  rw [tkD_eqv]
  have hX4 : W4.ρ 16 = some (X, dX) := hw4.ρ _ _ (hw3.ρ _ _ hX1)
  by_cases hq : q0 = .op
  · subst hq
    have hdec : decide (Tk.op = Tk.op) = true := by decide
    rw [hdec]
    rw [if_pos rfl]
    have e17 : lookN (comC O ++ [(16, .list none (nsV ns ++ [])), (17, .list none [.fl (rwL (.op :: r1) ++ [])])]) 17 = some (.list none [.fl (rwL (.op :: r1) ++ [])]) := by rfl
    refine wpAny_execs_cons (wpAny_Expr_any (call_meth (s := { s with heap := h4', toks := tk4 }) rfl rfl (by show 1 < 30; omega) q1 (name_snd (v := .obj 17) (s := { s with heap := h4', toks := tk4 }) hc (by kernel_rfl) p5 fun W6 hl6 m6 h6 tk6 hw6 p6 uR rR pl => ?_)) (notInter p5) rfl)
    refine gm_list (s := { s with heap := h6, toks := tk6 }) e17 rR p6 PySem.F.slot_list_append PySem.F.type_list_append ?_
    refine callWith_list (s := { s with heap := h6, toks := tk6 }) (P := fun _ => True) rfl keeps_bi ?_
    rw [starEach_cons rfl]
    show wpAny (model prog w) c.A (spliced ((false, eval (.Subscript (.Name rowS l1) (.Slice (some lo) (some hi) none l2) l3) c.env) :: backTo a4 (starEach [] c.env))) _ _ _
    refine spliced_cons (Subscript_ (name_snd (v := .fl (rwL (.op :: r1) ++ [])) (s := { s with heap := h6, toks := tk6 }) hc (by kernel_rfl) p6 fun W7 hl7 m7 h7 tk7 hw7 p7 uA rA => ?_))
    have S0 := snd_run prog w ε {} 59
    refine wpAny_Slice ?_
    show wpAny (model prog w) c.A (eval lo c.env) _ _ _
    refine S0.rE (s := { s with heap := h7, toks := tk7 }) (ev3 _) hc p7 fun W8 hl8 m8 h8 tk8 hw8 p8 ul rl8 => ?_
    show wpAny (model prog w) c.A (eval hi c.env) _ _ _
    refine S0.rE (s := { s with heap := h8, toks := tk8 }) (ev4 _) hc p8 fun W9 hl9 m9 h9 tk9 hw9 p9 uh rh9 => ?_
    refine wpAny_pure ?_
    cases rA with
    | @fl _ us tA kk iA rsA =>
      have rlA : Rl (Kw w) ε W7 (rwL (.op :: r1)) us := by rw [List.append_nil] at rsA; exact rsA.rl (AV.cloL_plain (rwL_clo _))
      have iA' : W9.im (Kw w) tA (listOf us.toArray kk) := iA.imp (fun z => (hw8.trans hw9).ims _ z) id
      obtain ⟨t8, rfl⟩ : ∃ t, ul = .int 1 t := by cases rl8; exact ⟨_, rfl⟩
      obtain ⟨t9, rfl⟩ : ∃ t, uh = .int (-1) t := by cases rh9; exact ⟨_, rfl⟩
      have hul : us.length ≤ 100 := by rw [rlA.len, rwL_len]; exact hr
      refine kms_slice_lit (s := { s with heap := h9, toks := tk9 }) (zs := us.tail.dropLast) p9.st.fr p9.st.lg.nw ⟨_, p9.im iA', rfl, _, rfl⟩ (.int 1 t8) (.int (-1) t9) (pick_cut us) (fun D hh F' N' lt => ?_) (by with_unfolding_all rfl) (fun _ => by with_unfolding_all rfl) (line_of (by show us.length ≤ 1200000; omega))
      have p10 := p9.freeze F' N' lt
      have hwD := W9.add_le D (listOf us.tail.dropLast.toArray 0)
      have rl2 : Rl (Kw w) ε (W9.add D (listOf us.tail.dropLast.toArray 0)) (rwL (Tk.op :: r1).tail.dropLast ++ []) us.tail.dropLast := by
        rw [List.append_nil, rwL_dropLast, rwL_tail]
        exact (((rlA.mono hw8).mono hw9).mono hwD).tail.dropLast
      have rD : R (Kw w) ε (W9.add D (listOf us.tail.dropLast.toArray 0)) (.fl (rwL (Tk.op :: r1).tail.dropLast ++ [])) (.ref D) := .fl (.inl (.head _)) rl2.rs
      refine spliced_nil ⟨True.intro, ?_⟩
      refine append_snd (s := { s with heap := hh, toks := tk9 }) e17 (by rfl) ((((rR.mono hw7).mono hw8).mono hw9).mono hwD) rD p10 fun W11 hl11 m11 h11' tk11 hw11 p11 => ?_
      refine wpAny_execs_nil (k W11 hl11 m11 h11' tk11 (hw11.ρ _ _ (hwD.ρ _ _ (hw9.ρ _ _ (hw8.ρ _ _ (hw7.ρ _ _ (hw6.ρ _ _ hX4)))))) ?_)
      have e : cutR (.op :: r1) = [.op :: r1, (Tk.op :: r1).tail.dropLast] := by
        exact if_pos rfl
      rw [e]
      have p12 : Pre prog w ε {} 60 c W11 ⟨loc8 (.op :: r1) d, comC O ++ [(16, .list none (nsV ns ++ [])), (17, .list none ([.fl (rwL (.op :: r1) ++ [])] ++ [.fl (rwL (Tk.op :: r1).tail.dropLast ++ [])]))], 40⟩ hl11 kp h11' m11 := p11
      have p13 := p12.locs (loc' := loc9 d) loc8_9
      rw [List.append_nil (nsV ns)] at p13
      exact p13
  · have hdec : decide (q0 = Tk.op) = false := decide_eq_false hq
    rw [hdec]
    rw [if_neg (by simp)]
    refine wpAny_execs_nil (k W4 hl4 m4 h4' tk4 hX4 ?_)
    have e : cutR (q0 :: r1) = [q0 :: r1] := by
      unfold cutR
      rw [if_neg (by simpa using hq)]
    rw [e]
    have p6 := p5.locs (loc' := loc9 d) loc8_9
    rw [List.append_nil] at p6
    exact p6
theorem rows_cut {O : Ops} {r : List Tk} {d : Tm} {ns : List Nat} {X dX : Addr} {s10 s11 : Stmt} {rest : List Stmt} {Q : Flow → Shared → Prop} (hc : c.cs = lSc) (h10 : lwB 10 1 = [s10]) (h11 : lwB 11 1 = [s11]) (hX : W.ρ 16 = some (X, dX)) (hne : r ≠ []) (hr : r.length ≤ 100) (hns : ns.length ≤ 4) (h4 : ∀ k, Tk.var k ∈ r → k < 4)
    (p : Pre prog w ε {} 60 c W (nmS2 O (loc7 r d) ns) hl kp s.heap m) (k : CutQ prog w O c kp d ns r X dX ε rest Q E s) : wpAny (model prog w) c.A (execs (s10 :: s11 :: rest) c.env) Q E s := by
  cases r with
  | nil => exact absurd rfl hne
  | cons a b => exact rows_cut0 hc h10 h11 hX hr hns h4 p k
end
end
section
open PySem PySem.W PySem.Calls PyProof.Rows
noncomputable def sgS : Str := Str.ofString "signs"
noncomputable def tkS : Str := Str.ofString "tokens"
noncomputable def psS : Str := Str.ofString "parser"
noncomputable def txS : Str := Str.ofString "text"
noncomputable def kdS : Str := Str.ofString "kind"
noncomputable def vlS : Str := Str.ofString "value"
noncomputable def bkS : Str := Str.ofString "book"
noncomputable def opS : Str := Str.ofString "operators"
noncomputable def selU : List (Nat × Nat) := [(1, 1), (2, 2), (3, 3), (4, 4), (5, 5), (6, 6), (7, 7), (17, 40)]
noncomputable def selV : List (Nat × Nat) := [(1, 1), (2, 2), (3, 3), (4, 4), (5, 5), (6, 6), (7, 7), (17, 17)]
noncomputable def selP : List (Nat × Nat) := [(0, 40), (1, 1), (2, 2), (3, 3), (4, 4), (5, 5), (6, 6), (7, 7), (10, 42), (11, 43), (12, 44), (9, 41)]
noncomputable def locG : List (Str × AV) := [g1 "book" (.obj 1), g1 "operators" (.obj 4), g1 "due" (.opq 0), g1 "signs" (.fl [.sq 62])]
noncomputable def locH : List (Str × AV) := [g1 "book" (.obj 1), g1 "operators" (.obj 4), g1 "due" (.opq 0), g1 "signs" (.fl [.sq 62]), g1 "tokens" (.obj 17)]
noncomputable def locJ (k v : AV) : List (Str × AV) := [g1 "book" (.obj 1), g1 "operators" (.obj 4), g1 "due" (.opq 0), g1 "signs" (.fl [.sq 62]), g1 "tokens" (.obj 17), g1 "kind" k, g1 "value" v]
noncomputable def locK : List (Str × AV) := [g1 "book" (.obj 1), g1 "operators" (.obj 4), g1 "due" (.opq 0), g1 "parser" (.obj 0)]
noncomputable def xsU : List Str := [bkS, opS, dueS, sgS, tkS]
noncomputable def parN : AO := .inst 517 [g1 "symbols" (.obj 1), g1 "operators" (.obj 4), g1 "mode" (.str (Str.ofString "codes")), g1 "tokens" (.fl [.sq 65]), g1 "place" (.int (.lit 0)), g1 "frames" (.obj 9), g1 "limit" (.int (.lit 1200)), g1 "term" .none, g1 "priority" (.int (.lit 0)), g1 "numbers" (.obj 10), g1 "names" (.obj 11), g1 "counts" (.obj 12), g1 "next_number" (.int (.lit 0))]
inductive Law_signsI : Prop
  | mk (p1 p2 p3 t0 k1 k2 tk tp it u0 fp ps b1 b2 b3 b4 b5 c1 c2 c3 e1 e2 e3 e4 e5 e6 e7 ek g1' g2 csc g3 b6 rf b7 h0 hs tp2 : _)
    (h0 : lwB 12 1 = [.For (.Name sgS p1) (.Name rowsS p2) [t0, .For (.Tuple [.Name kdS k1, .Name vlS k2] tk tp) it [u0] [] fp, ps,
      .Try [.If (.BoolOp .Or [.Compare (.Call (.Attribute (.Name psS b1) (Str.ofString "clause") b2) [] [] b3) [.NotEq] [.Name dueS b4] b5, .Compare (.Attribute (.Name psS c1) (Str.ofString "names") c2) [.NotEq]
        [.ListComp (.Tuple [.Name txS e1, .Call (.Attribute (.Name nmN e2) (Str.ofString "index") e3) [.Name txS e4] [] e5] ek e6) [⟨.Name txS e7, .Name nmN g1', [], 0⟩] csc g2] c3] b6) [rf] [] b7] (h0 :: hs) [] [] tp2] [] p3])
    (h1 : b2.endLine = b3.line)
    (h2 : e3.endLine = e5.line)
    (h3 : g3 = g2)
    (h4 : (∀ O, blkS {} 60 lSc [t0] selU [] xsU ⟨locG, comC O, 40⟩ = some (locH, comC O ++ [(17, .list none [])])))
    (h5 : (∀ O, runE (xRun {} 59) lSc it ⟨locH, comC O ++ [(17, .list none [])], 40⟩ = some (.fl [.sq 62, rwT .fin], ⟨locH, (40, .list none [rwT .fin]) :: (comC O ++ [(17, .list none [])]), 41⟩)))
    (h6 : (∀ O (q : Tk), blkS {} 60 lSc [u0] selV [] xsU ⟨locJ (kdA q) (vlA q), comC O ++ [(17, .list none [.sq 65])], 40⟩ = some (locH, comC O ++ [(17, .list none [.sq 65, .tup [kdA q, vlA q, .int (.mul (.lit 3) (.slen 65 0))]])])))
    (h7 : (∀ O, blkZ {} 60 lSc [ps] selP 17 [bkS, opS, dueS, psS] ⟨locH, comC O ++ [(17, .list none [.sq 65])], 40⟩ = some (locK, (0, parN) :: (comC O ++ [(10, .dict 0 none []), (11, .list none []), (12, .dict 0 none []), (9, .list none [])]))))
    (h8 : (∀ env x, foldedSetIterable it env x = pure x))
    (h9 : csc.names = [(Str.ofString ".0", .local), (txS, .local), (nmN, .free)])
    (h10 : csc.kind = .function)
theorem law_signs : Law_signsI := by
  refine ⟨_, _, _, _, _, _, _, _, _, _, _, _, _, _, _, _, _, _, _, _, _, _, _, _, _, _, _, _, _, _, _, _, _, _, _, _, _, _, rfl, rfl, rfl, rfl, fun O => by kernel_rfl, fun O => by kernel_rfl, fun O q => ?_, fun O => by kernel_rfl, fun _ _ => rfl, rfl, rfl⟩
  cases q <;> kernel_rfl
theorem tkV_pair (j : Nat) (q : Tk) : tkV j q = .tup [kdA q, vlA q, .int (.lit (3 * (j : Int)))] := by cases q <;> rfl
theorem tkVs_snoc : ∀ (j : Nat) (l : List Tk) (t : Tk), tkVs j (l ++ [t]) = tkVs j l ++ [tkV (j + l.length) t]
  | j, [], t => by simp [tkVs]
  | j, a :: r, t => by simp only [List.cons_append, tkVs, tkVs_snoc (j + 1) r t, List.length_cons]; congr 4; omega
end
section
open PySem PySem.W PySem.Calls PyProof.Rows
noncomputable def locGc (r : List Tk) (d : Tm) : List (Str × AV) := [g1 "book" (.obj 1), g1 "operators" (.obj 4), g1 "due" d.av, g1 "signs" (.fl (rwL r ++ []))]
noncomputable def locHc (r : List Tk) (d : Tm) : List (Str × AV) := [g1 "book" (.obj 1), g1 "operators" (.obj 4), g1 "due" d.av, g1 "signs" (.fl (rwL r ++ [])), g1 "tokens" (.obj 17)]
noncomputable def lt40 (l : Nat) : Bool := Nat.blt l 40
section
variable {prog : Program} {w : World} {ε : Eps} {F : Facts} {n : Nat} {c : Cx} {W : Wd} {σ : AS} {hl kp : Led} {h : Heap} {m : Str → Option Value} {s : Shared} {E : Value → Shared → Prop}
theorem Pre.relab {p : Nat → Bool} {ρ' : Rho} {nx' : Nat} {loc : List (Str × AV)} {hp : List (Nat × AO)} {nx : Nat} (hρ : ∀ l q, p l = true → W.ρ l = some q → ρ' l = some q) (rb : ∀ l q, ρ' l = some q → l < nx') (h3 : labH p hp = true) (h4 : labA p loc = true) (pr : Pre prog w ε F n c W ⟨loc, hp, nx⟩ hl kp h m) :
    Pre prog w ε {} n c ⟨ρ', W.ims⟩ ⟨loc, hp, nx'⟩ hl kp h m := by
  refine ⟨pr.ok, ⟨pr.st.fr, pr.st.lg, HpR.relab (W := W) (W' := ⟨ρ', W.ims⟩) (p := p) (fun _ _ q => q) hρ pr.st.hr h3, rb⟩, ?_, fok0⟩
  intro xx v e
  (refine ex1_2 (pr.loc xx v e) ?_; rintro u g1' g2')
  have hv : v.labs p = true := by
    have e2 : look loc xx = some v := e
    clear e g1' g2' pr h3
    induction loc with
    | nil => exact nos e2
    | cons q t ih =>
      obtain ⟨yy, a⟩ := q
      simp only [labA, Bool.and_eq_true] at h4
      unfold look at e2
      split at e2
      · (refine som1 e2 ?_; rintro rfl); exact h4.1
      · exact ih h4.2 e2
  have g3 := R.rel (W := W) (W' := ⟨ρ', W.ims⟩) (g := AV.obj) (p := p) (fun _ _ q => q) (fun l u hp r => by cases r with | obj e => exact .obj (hρ _ _ hp e)) g2' hv
  rw [AV.rel_id] at g3
  exact mk1_2 u g1' g3
theorem Pre.head {l : Nat} {o : AO} {r : List (Nat × AO)} {loc : List (Str × AV)} {nx : Nat} (pr : Pre prog w ε F n c W ⟨loc, (l, o) :: r, nx⟩ hl kp h m) : ∃ hl', Pre prog w ε F n c W ⟨loc, r, nx⟩ hl' kp h m := by
  have H := pr.st.hr
  cases H with
  | @cons _ _ x dx os _ hl2 a b H2 =>
    have L1 : Lg c.h₀ c.L h ((os ++ hl2) ++ (kp ++ W.ims)) := pr.st.lg
    rw [List.append_assoc] at L1
    refine ⟨hl2, pr.ok, ⟨pr.st.fr, ⟨fun q hq => L1.nw q (List.mem_append_right _ hq), ?_⟩, H2, pr.st.rb⟩, pr.loc, pr.fk⟩
    have := L1.nd
    rw [List.map_append] at this
    exact (List.nodup_append.mp this).2.1
theorem Pre.dropK {z : Led} (pr : Pre prog w ε F n c W σ hl (z ++ kp) h m) : Pre prog w ε F n c W σ hl kp h m := by
  refine ⟨pr.ok, ⟨pr.st.fr, ⟨fun q hq => pr.st.lg.nw q ?_, ?_⟩, pr.st.hr, pr.st.rb⟩, pr.loc, pr.fk⟩
  · rcases List.mem_append.mp hq with hq | hq
    · exact List.mem_append_left _ hq
    · rcases List.mem_append.mp hq with hq | hq
      · exact List.mem_append_right _ (List.mem_append_left _ (List.mem_append_right _ hq))
      · exact List.mem_append_right _ (List.mem_append_right _ hq)
  · have nd := pr.st.lg.nd
    have sub : (hl ++ (kp ++ W.ims)).Sublist (hl ++ ((z ++ kp) ++ W.ims)) := List.Sublist.append_left (List.Sublist.append_right (List.sublist_append_right z kp) _) _
    exact (sub.map (·.1)).nodup nd
noncomputable def TokQ (prog : Program) (w : World) (O : Ops) (c : Cx) (kp : Led) (ε : Eps) (W : Wd) (r : List Tk) (d : Tm) (rest : List Stmt) (Q : Flow → Shared → Prop) (s : Shared) : Prop := ∀ W' hl' m' h' tk', ImLe W W' →
  Pre prog w ε {} 60 c W' ⟨locHc r d, comC O ++ [(17, .list none (tkVs 0 (r ++ [Tk.fin]) ++ []))], 40⟩ hl' kp h' m' → wpAny (model prog w) c.A (execs rest c.env) Q (fun _ _ => False) { s with heap := h', toks := tk' }
noncomputable abbrev epsU (ε : Eps) (r : List Tk) (d : Tm) (l : List Tk) (h : SqOk [(62, rwL r), (65, tkVs 0 l)]) : Eps := ε.put [] [(62, rwL r), (65, tkVs 0 l)] [(0, d.items)] h (.cons d.clo d.lf (by cases d <;> simp [Tm.items]) .nil)
theorem sqU {r l : List Tk} (hr : r.length ≤ 100) (hl : l.length ≤ 200) : SqOk [(62, rwL r), (65, tkVs 0 l)] := .cons (rwL_clo _) (rwL_lf _ _) (by rw [rwL_len]; omega) (.cons (tkVs_clo _ _) (tkVs_lf _ _) (by rw [tkVs_len]; omega) .nil)
theorem tok_build {O : Ops} {r : List Tk} {d : Tm} {t0 u0 : Stmt} {k1 k2 tp fp : Pos} {tk : Nat} {it : Expr} {rest : List Stmt} {Q : Flow → Shared → Prop} (hc : c.cs = lSc) (hr : r.length ≤ 100)
    (z0 : ∀ O, blkS {} 60 lSc [t0] selU [] xsU ⟨locG, comC O, 40⟩ = some (locH, comC O ++ [(17, .list none [])]))
    (z1 : ∀ O, runE (xRun {} 59) lSc it ⟨locH, comC O ++ [(17, .list none [])], 40⟩ = some (.fl [.sq 62, rwT .fin], ⟨locH, (40, .list none [rwT .fin]) :: (comC O ++ [(17, .list none [])]), 41⟩))
    (z2 : ∀ O (q : Tk), blkS {} 60 lSc [u0] selV [] xsU ⟨locJ (kdA q) (vlA q), comC O ++ [(17, .list none [.sq 65])], 40⟩ = some (locH, comC O ++ [(17, .list none [.sq 65, .tup [kdA q, vlA q, .int (.mul (.lit 3) (.slen 65 0))]])]))
    (zf : ∀ env x, foldedSetIterable it env x = pure x)
    (p : Pre prog w ε {} 60 c W ⟨locGc r d, comC O, 40⟩ hl kp s.heap m) (k : TokQ prog w O c kp ε W r d rest Q s) :
    wpAny (model prog w) c.A (execs (t0 :: .For (.Tuple [.Name kdS k1, .Name vlS k2] tk tp) it [u0] [] fp :: rest) c.env) Q (fun _ _ => False) s := by
  refine blk_sim (body := [t0]) (ε := epsU ε r d [] (sqU hr (by simp))) (z0 O) rfl hc put_eq fok0 rfl p fun W1 hl1 m1 h1 tk1 hw1 p1 => ?_
  have p1' : Pre prog w ε {} 60 c (W1.selW selU) ⟨locHc r d, comC O ++ [(17, .list none [])], 40⟩ hl1 kp h1 m1 := p1
  have i1 : ImLe W (W1.selW selU) := hw1.ims
  generalize W1.selW selU = W2 at p1' i1
  clear p1
  refine wpAny_execs_cons ?_
  have S := snd_run prog w (epsU ε r d [] (sqU hr (by simp))) {} 59
  have p1o := Pre.opn (ε := epsU ε r d [] (sqU hr (by simp))) (F := {}) (σ := ⟨locH, comC O ++ [(17, .list none [])], 40⟩) put_eq fok0 rfl p1'
  refine For_turns p1o.st.fr (S.rE (s := { s with heap := h1, toks := tk1 }) (z1 O) hc p1o fun W3 hl3 m3 h3 tk3 hw3 p3 u ru => ?_) (zf _) PassesOwn.never
  have ru' : R (Kw w) ε W3 (.fl (rwL r ++ [rwT .fin])) u := ru.close
  have p3' : Pre prog w ε {} 60 c W3 ⟨locHc r d, (40, .list none [rwT .fin]) :: (comC O ++ [(17, .list none [])]), 41⟩ hl3 kp h3 m3 := p3.close put_eq fok0
  (refine ex1_1 (p3'.head) ?_; rintro hl4 p4)
  have hlabH : labA lt40 (locHc r d) = true := by
    have e1 : AV.labsL lt40 (rwL r ++ []) = true := by rw [List.append_nil]; exact rwL_lf _ _
    have e2 : AV.labsL lt40 d.items = true := AV.labsL_mono d.lf
    simp only [locHc, labA, g1, AV.labs, Tm.av, e1, e2]; rfl
  have p5 := Pre.relab (p := lt40) (ρ' := fun l => if lt40 l = true then W3.ρ l else none) (nx' := 40) (fun l q h1 h2 => by rw [if_pos h1]; exact h2) (fun l q e => by
    split at e
    · rename_i z; unfold lt40 at z; simpa using z
    · exact nos e) (by rfl) hlabH p4
  have i5 : ImLe W3 ⟨fun l => if lt40 l = true then W3.ρ l else none, W3.ims⟩ := fun _ z => z
  generalize hW5 : (⟨fun l => if lt40 l = true then W3.ρ l else none, W3.ims⟩ : Wd) = W5 at p5 i5
  cases ru' with
  | @fl _ us tt kk i rs =>
    have e0 : rwL r ++ [rwT .fin] = rwL (r ++ [Tk.fin]) := by rw [rwL_app]; rfl
    rw [e0] at rs
    have rl : Rl (Kw w) ε W3 (rwL (r ++ [Tk.fin])) us := rs.rl (AV.cloL_plain (rwL_clo _))
    have hlen : us.length = (r ++ [Tk.fin]).length := by rw [rl.len, rwL_len]
    have i' : W5.im (Kw w) tt (listOf us.toArray kk) := i.imp (i5 _) id
    refine loop_list (s := { s with heap := h3, toks := tk3 }) (im_kept p5 i') p5 (fun j ε' F' W' σ' => ε' = ε ∧ F' = {} ∧ ImLe W5 W' ∧ σ' = ⟨locHc r d, comC O ++ [(17, .list none (tkVs 0 ((r ++ [Tk.fin]).take j)))], 40⟩) ⟨rfl, rfl, .refl _, rfl⟩ ?_ ?_
    · rintro j v I ε' F' W' hl' σ' itO m₁ h₁ tk₁ hv hw p' ⟨rfl, rfl, hle, rfl⟩
      (refine ex1_2 (rwL_get rl hv) ?_; rintro q hq rq)
      have rq' : R (Kw w) ε' W' (.tup [kdA q, vlA q]) v := by
        rw [← rwT_pair]
        exact R.lf (W := W3) (W' := W') (rwT_lf _ q) (fun z hz => hle _ (i5 _ hz)) rq
      have hjl : j < (r ++ [Tk.fin]).length := (List.getElem?_eq_some_iff.mp hq).1
      refine unp_snd (s := { s with heap := h₁, toks := tk₁ }) (vs := [kdA q, vlA q]) (σ' := ⟨[g1 "book" (.obj 1), g1 "operators" (.obj 4), g1 "due" d.av, g1 "signs" (.fl (rwL r ++ [])), g1 "tokens" (.obj 17), g1 "kind" (kdA q), g1 "value" (vlA q)], comC O ++ [(17, .list none (tkVs 0 ((r ++ [Tk.fin]).take j)))], 40⟩) hc (by rfl) (by cases q <;> rfl) rq' p' fun W6 hl6 m6 h6 tk6 hw6 p6 => ?_
      have hsq : SqOk [(62, rwL r), (65, tkVs 0 ((r ++ [Tk.fin]).take j))] := sqU hr (by rw [List.length_take]; simp; omega)
      have hks : (kdA q).sub (epsU ε' r d _ hsq) = kdA q ∧ (vlA q).sub (epsU ε' r d _ hsq) = vlA q := by cases q <;> exact ⟨rfl, rfl⟩
      have es : (⟨[g1 "book" (.obj 1), g1 "operators" (.obj 4), g1 "due" d.av, g1 "signs" (.fl (rwL r ++ [])), g1 "tokens" (.obj 17), g1 "kind" (kdA q), g1 "value" (vlA q)], comC O ++ [(17, .list none (tkVs 0 ((r ++ [Tk.fin]).take j)))], 40⟩ : AS) = AS.sub (epsU ε' r d _ hsq) ⟨locJ (kdA q) (vlA q), comC O ++ [(17, .list none [.sq 65])], 40⟩ := by
        show _ = AS.mk [g1 "book" (.obj 1), g1 "operators" (.obj 4), g1 "due" d.av, g1 "signs" (.fl (rwL r ++ [])), g1 "tokens" (.obj 17), g1 "kind" ((kdA q).sub (epsU ε' r d _ hsq)), g1 "value" ((vlA q).sub (epsU ε' r d _ hsq))] (comC O ++ [(17, .list none (tkVs 0 ((r ++ [Tk.fin]).take j) ++ []))]) 40
        rw [hks.1, hks.2, List.append_nil (tkVs 0 _)]
      refine blk_sim (body := [u0]) (rest := []) (s := { s with heap := h6, toks := tk6 }) (z2 O q) rfl hc put_eq fok0 es p6 fun W7 hl7 m7 h7 tk7 hw7 p7 => ?_
      refine wpAny_execs_nil ?_
      have i7 : ImLe W' (W7.selW selV) := fun z hz => hw7.ims _ (hw6.ims _ hz)
      refine ⟨ε', {}, W7.selW selV, hl7, _, m7, h7, tk7, rfl, i7, p7, rfl, rfl, hle.trans i7, ?_⟩
      have et : (r ++ [Tk.fin]).take (j + 1) = (r ++ [Tk.fin]).take j ++ [q] := by rw [List.take_add_one, hq]; rfl
      rw [et, tkVs_snoc, tkV_pair]
      have hj : ((r ++ [Tk.fin]).take j).length = j := by rw [List.length_take]; omega
      have hev : (epsU ε' r d _ hsq).ev (.mul (.lit 3) (.slen 65 0)) = 3 * ((0 + ((r ++ [Tk.fin]).take j).length : Nat) : Int) := by
        show (3 : Int) * (((tkVs 0 ((r ++ [Tk.fin]).take j)).length + 0 : Nat) : Int) = _
        rw [tkVs_len]
        congr 1
        omega
      show AS.mk (locHc r d) (comC O ++ [(17, .list none (tkVs 0 ((r ++ [Tk.fin]).take j) ++ AV.subs (epsU ε' r d _ hsq) [.tup [kdA q, vlA q, .int (.mul (.lit 3) (.slen 65 0))]]))]) 40 = _
      have e3 : AV.subs (epsU ε' r d _ hsq) [.tup [kdA q, vlA q, .int (.mul (.lit 3) (.slen 65 0))]] = [.tup [kdA q, vlA q, .int (.lit (3 * ((0 + ((r ++ [Tk.fin]).take j).length : Nat) : Int)))]] := by
        rw [← hev]
        cases q <;> rfl
      rw [e3]
    · rintro ε' F' W' hl' σ' m' h' tk' hw p' ⟨rfl, rfl, hle, rfl⟩
      rw [hlen, List.take_length] at p'
      refine k W' hl' m' h' tk' (fun z hz => hle _ (i5 _ (hw3.ims _ (i1 _ hz)))) ?_
      rw [List.append_nil]
      exact p'
end
end
section
open PySem PySem.W PySem.Calls PyProof.Rows
noncomputable def locKc (d : Tm) : List (Str × AV) := [g1 "book" (.obj 1), g1 "operators" (.obj 4), g1 "due" d.av, g1 "parser" (.obj 0)]
section
variable {prog : Program} {w : World} {ε : Eps} {F : Facts} {n : Nat} {c : Cx} {W : Wd} {σ : AS} {hl kp : Led} {h : Heap} {m : Str → Option Value} {s : Shared} {E : Value → Shared → Prop}
theorem OR.base0 {kd kd' b' : Nat} {x dx : Addr} {os : Led} (hk : kd' < 3) (h : OR prog w ε W (.dict kd none []) x dx os) (ε' : Eps) (he : ∀ k, ε'.dct b' k = none) : OR prog w ε' W (.dict kd' (some b') []) x dx os := by
  (refine ex1_4 (h) ?_; rintro od h1 h2 h3 h4)
  have d := h4 kd' hk (.inr rfl)
  match kd', hk, d with
  | 0, _, ⟨kvs, d1, d2, d3⟩ =>
    refine mk1_4 od h1 h2 h3 (fun kd'' a b => ?_)
    rcases b with rfl | b
    · exact ⟨kvs, d1, Nat.le_trans d2 (Nat.zero_le _), fun k => by
        have z := d3 k
        unfold Agree at z ⊢
        simp only [lookK] at z ⊢
        rw [z, he]⟩
    · injection b
  | 1, _, ⟨kvs, d1, d2, d3⟩ =>
    refine mk1_4 od h1 h2 h3 (fun kd'' a b => ?_)
    rcases b with rfl | b
    · exact ⟨kvs, d1, Nat.le_trans d2 (Nat.zero_le _), fun k => by
        have z := d3 k
        unfold Agree at z ⊢
        simp only [lookK] at z ⊢
        rw [z, he]⟩
    · injection b
  | 2, _, ⟨es, ep, xs, d1, d2, d3, d4, d5, d6, d7⟩ =>
    refine mk1_4 od h1 h2 h3 (fun kd'' a b => ?_)
    rcases b with rfl | b
    · exact ⟨es, ep, xs, d1, d2, d3, d4, d5, Nat.le_trans d6 (Nat.zero_le _), fun k => by
        have z := d7 k
        unfold Agree at z ⊢
        simp only [lookK] at z ⊢
        rw [z, he]⟩
    · injection b
noncomputable def Eps.par (ε : Eps) : Eps := (ε.raw0 [] (Nat.zero_le _)).dct23 (fun _ => none) (fun _ => none) 0 0 (Nat.zero_le _) (Nat.zero_le _)
theorem par_dict {D : Sy} (h : DictOk ε D) : DictOk ε.par D := h.raw.d23
theorem par_var : VarOk ε.par [] := ⟨List.nodup_nil, fun _ h => (nomatch h), fun _ h => (nomatch h), fun _ _ _ => rfl, fun _ h => by simp at h, fun _ _ => rfl⟩
theorem com_same (O : Ops) : sameH ε ε.par (comC O) := ⟨trivial, fun b hb => by cases hb; exact ⟨fun _ => rfl, rfl⟩, fun b hb => (by cases hb; exact ⟨fun _ => rfl, rfl⟩), trivial, fun b hb => (nomatch hb), fun b hb => (nomatch hb), fun b hb => (nomatch hb), trivial⟩
theorem tl_clo (tl : List Tk) : AV.cloL (tkVs 0 tl ++ []) = true := by rw [List.append_nil]; exact tkVs_clo 0 tl
theorem par_base {O : Ops} {tl : List Tk} {d : Tm} (p : Pre prog w ε F 60 c W ⟨locKc d, (0, parC tl 1200 0 0 0 .none) :: (comC O ++ [(10, .dict 0 none []), (11, .list none []), (12, .dict 0 none []), (9, .list none [])]), 40⟩ hl kp h m) :
    Pre prog w ε.par {} 60 c W ⟨locKc d, baseC tl O 1200 0 [] 0 .none ++ [(9, frE)], 40⟩ hl kp h m := by
  have H := p.st.hr
  have hl2 : cloA (locKc d) = true := by
    simp only [locKc, cloA, g1, AV.clo, Tm.av, d.clo]; rfl
  cases H with
  | @cons _ _ x0 dx0 os0 _ hl0 a0 b0 H =>
    (refine ex2_3 (H.split) ?_; rintro y z e1 hy hz)
    cases hz with
    | @cons _ _ x10 dx10 os10 _ hl10 a10 b10 H =>
      cases H with
      | @cons _ _ x11 dx11 os11 _ hl11 a11 b11 H =>
        cases H with
        | @cons _ _ x12 dx12 os12 _ hl12 a12 b12 H =>
          cases H with
          | @cons _ _ x9 dx9 os9 _ hl9 a9 b9 H9 =>
            refine ⟨p.ok, ⟨p.st.fr, p.st.lg, ?_, p.st.rb⟩, p.loc.chg hl2, fok0⟩
            subst e1
            have hb0 : OR prog w ε.par W (parC tl 1200 0 0 0 .none) x0 dx0 os0 := b0.chg (by simp only [AO.clo, parC, cloA, g1, AV.clo, tl_clo]; rfl) trivial
            have e2 : baseC tl O 1200 0 [] 0 .none ++ [(9, frE)] = (0, parC tl 1200 0 0 0 .none) :: (comC O ++ [(10, .dict 0 (some 2) []), (11, .list none []), (12, .dict 1 (some 3) []), (9, .list none [])]) := rfl
            show HpR prog w ε.par W (baseC tl O 1200 0 [] 0 .none ++ [(9, frE)]) _
            rw [e2]
            exact .cons a0 hb0 (HpR.append (hy.chg rfl (com_same O)) (.cons a10 (OR.base0 (by decide) b10 _ fun _ => rfl) (.cons a11 (OR.chg (ε := ε) (ε' := ε.par) rfl (show preL ε none = preL ε.par none from rfl) b11) (.cons a12 (OR.base0 (by decide) b12 _ fun _ => rfl) (.cons a9 (OR.chg (ε := ε) (ε' := ε.par) rfl (show preL ε none = preL ε.par none from rfl) b9) (H9.chg rfl trivial))))))
noncomputable def ParQ (prog : Program) (w : World) (O : Ops) (c : Cx) (kp : Led) (ε : Eps) (W : Wd) (tl : List Tk) (d : Tm) (rest : List Stmt) (Q : Flow → Shared → Prop) (s : Shared) : Prop := ∀ W' hl' m' h' tk', ImLe W W' →
  Pre prog w ε.par {} 60 c W' ⟨locKc d, baseC tl O 1200 0 [] 0 .none ++ [(9, frE)], 40⟩ hl' kp h' m' → wpAny (model prog w) c.A (execs rest c.env) Q (fun _ _ => False) { s with heap := h', toks := tk' }
noncomputable def parAt (tl : List Tk) : List (Str × AV) := [g1 "symbols" (.obj 1), g1 "operators" (.obj 4), g1 "mode" (.str (Str.ofString "codes")), g1 "tokens" (.fl (tkVs 0 tl ++ [])), g1 "place" (.int (.lit 0)), g1 "frames" (.obj 9), g1 "limit" (.int (.lit 1200)), g1 "term" .none, g1 "priority" (.int (.lit 0)), g1 "numbers" (.obj 10), g1 "names" (.obj 11), g1 "counts" (.obj 12), g1 "next_number" (.int (.lit 0))]
theorem par_new {O : Ops} {r tl : List Tk} {d : Tm} {ps : Stmt} {rest : List Stmt} {Q : Flow → Shared → Prop} (hc : c.cs = lSc) (hr : r.length ≤ 100) (htl : tl.length ≤ 200)
    (z3 : ∀ O, blkZ {} 60 lSc [ps] selP 17 [bkS, opS, dueS, psS] ⟨locH, comC O ++ [(17, .list none [.sq 65])], 40⟩ = some (locK, (0, parN) :: (comC O ++ [(10, .dict 0 none []), (11, .list none []), (12, .dict 0 none []), (9, .list none [])])))
    (p : Pre prog w ε {} 60 c W ⟨locHc r d, comC O ++ [(17, .list none (tkVs 0 tl ++ []))], 40⟩ hl kp s.heap m) (k : ParQ prog w O c kp ε W tl d rest Q s) :
    wpAny (model prog w) c.A (execs (ps :: rest) c.env) Q (fun _ _ => False) s := by
  refine blkz_sim (body := [ps]) (ε := epsU ε r d tl (sqU hr htl)) (z3 O) rfl hc put_eq fok0 rfl p fun W1 hl1 m1 h1 tk1 hw1 p1 => ?_
  have p1' : Pre prog w ε {} 60 c (W1.selW selP) ⟨locKc d, (0, .inst 517 (parAt tl)) :: (comC O ++ [(10, .dict 0 none []), (11, .list none []), (12, .dict 0 none []), (9, .list none [])]), 40⟩ hl1 kp h1 m1 := p1
  have p2 := p1'.anyAttr (Str.ofString "mode") (l := 0) (C := 517) (attrs := parAt tl) (by rfl)
  have e : putNL ((0, .inst 517 (parAt tl)) :: (comC O ++ [(10, .dict 0 none []), (11, .list none []), (12, .dict 0 none []), (9, .list none [])])) 0 (.inst 517 (anyAt (Str.ofString "mode") (parAt tl))) = (0, parC tl 1200 0 0 0 .none) :: (comC O ++ [(10, .dict 0 none []), (11, .list none []), (12, .dict 0 none []), (9, .list none [])]) := by kernel_rfl
  have p3 : Pre prog w ε {} 60 c (W1.selW selP) ⟨locKc d, (0, parC tl 1200 0 0 0 .none) :: (comC O ++ [(10, .dict 0 none []), (11, .list none []), (12, .dict 0 none []), (9, .list none [])]), 40⟩ hl1 kp h1 m1 := by
    rw [← e]
    exact p2
  exact k (W1.selW selP) hl1 m1 h1 tk1 (fun z hz => hw1.ims _ hz) (par_base p3)
end
end
section
open PySem PySem.W PySem.Calls PyProof.Rows
theorem idx_at : ∀ (ns : List Nat) (j k : Nat), ns.Nodup → ns[j]? = some k → ns.idxOf k = j
  | [], j, k, _, h => by simp at h
  | a :: r, 0, k, _, h => by simp at h; subst h; simp
  | a :: r, j + 1, k, hn, h => by
    have h' : r[j]? = some k := by simpa using h
    have hk : k ∈ r := List.mem_of_getElem? h'
    rw [List.nodup_cons] at hn
    have ne : a ≠ k := fun e => hn.1 (e ▸ hk)
    rw [List.idxOf_cons]
    have : (a == k) = false := by simpa using ne
    rw [this, cond_false, idx_at r j k hn.2 h']
section
variable {prog : Program} {w : World} {ε : Eps} {F : Facts} {n : Nat} {c : Cx} {W : Wd} {σ : AS} {hl kp : Led} {h : Heap} {m : Str → Option Value} {s : Shared} {E : Value → Shared → Prop}
noncomputable abbrev lEnv (csc : Scope) (C : Addr) (c : Cx) : Env := compEnvC csc [(nmN, c.L + 1)] C c.env
theorem le_kinds {csc : Scope} {C : Addr} (hc : c.cs = lSc) (hn : csc.names = [(Str.ofString ".0", .local), (txS, .local), (nmN, .free)]) :
    (lEnv csc C c).kindOf txS = some .local ∧ (lEnv csc C c).kindOf nmN = some .cell := by
  have key : ∀ x, (lEnv csc C c).kindOf x = ((csc.names.map fun (n, k) => if (k == .free && (envX c.cn c.cs c.L c.a c.ccd c.cl).scope.kind == .function && (envX c.cn c.cs c.L c.a c.ccd c.cl).kindOf n == some .cell) then (n, .cell) else (n, k)).lookup x) := fun x => rfl
  refine ⟨?_, ?_⟩
  · rw [key, hn, hc]; kernel_rfl
  · rw [key, hn, hc]; kernel_rfl
theorem clos_law {csc : Scope} (hcl : c.cl = [(nmN, c.L + 1)]) (hcn : csc.names = [(Str.ofString ".0", .local), (txS, .local), (nmN, .free)]) : closureFor csc c.env = pure [(nmN, c.L + 1)] := by
  unfold closureFor
  rw [hcn]
  have hcell : cellOf c.env nmN = pure (c.L + 1) := by
    unfold cellOf
    show (match c.cl.lookup nmN with | some a => pure a | none => _) = _
    rw [hcl, List.lookup_cons_self]
  simp only [List.forIn_cons, List.forIn_nil, hcell]
  rfl
theorem src_list {X : Addr} {us : List Value} {kk : Nat} (hX : (X, listOf us.toArray kk) ∈ kp) : LCg.SrcAt c.h₀ X us.toArray (kp ++ W.ims) := .inr ⟨_, List.mem_append_left _ hX, rfl, _, rfl⟩
/-- the names with their places -/
theorem comp_names {X : Addr} {us : List Value} {kk : Nat} {ns : List Nat} {csc : Scope} {cell : Obj} {e1 e2 e3 e4 e5 e6 : Pos} {ek : Nat} {m1 : Str → Option Value} {Fin : List Value → Led → Prop} {s0 : Shared}
    (ok : c.Ok w 60) (hcs : c.cs = lSc) (hcell : cell.data = .cell (some (.ref X))) (he : e3.endLine = e5.line) (hcn : csc.names = [(Str.ofString ".0", .local), (txS, .local), (nmN, .free)]) (hck : csc.kind = .function)
    (hcm : (c.L + 1, cell) ∈ kp) (hX : (X, listOf us.toArray kk) ∈ kp) (hus : StrsAre us (ns.map fun k => Str.ofString (vnS k))) (h4 : ∀ j ∈ ns, j < 4) (hnd : ns.Nodup) (hlen : ns.length ≤ 4)
    (fin : ∀ ys Wj, Rl (Kw w) ε Wj (nmVs 0 ns) ys → (∀ l q, Wj.ρ l = some q → l < 40) → ((kp ++ Wj.ims).map (·.1)).Nodup → W.Le Wj → Fin ys (kp ++ Wj.ims)) :
    ∀ (k i : Nat) (ys : List Value) (Wj : Wd), i + k = ns.length → W.Le Wj → (∀ l q, Wj.ρ l = some q → l < 40) → Rl (Kw w) ε Wj (nmVs 0 (ns.take i)) ys → ((kp ++ Wj.ims).map (·.1)).Nodup →
      LCg.CompRest prog w c.A c.h₀ c.L m1 c.env (.Tuple [.Name txS e1, .Call (.Attribute (.Name nmN e2) (Str.ofString "index") e3) [.Name txS e4] [] e5] ek e6) txS csc [(nmN, c.L + 1)] s0 (LCg.SrcAt c.h₀ X us.toArray) (fun i v => us.toArray[i]? = some v) Fin k i ys (kp ++ Wj.ims)
  | 0, i, ys, Wj, hi, hle, rb, rls, nd => LCg.CompRest.zero (fin ys Wj (by
      have : ns.take i = ns := List.take_of_length_le (by omega)
      rw [this] at rls; exact rls) rb nd hle)
  | k + 1, i, ys, Wj, hi, hle, rb, rls, nd => by
    refine LCg.CompRest.succ fun v I oI C oC D m₂ hh tk E' hP hNs hm2 Fr1 N1 off ne => ?_
    (refine ex0_2 (le_kinds (C := C) hcs hcn) ?_; rintro e1' e3')
    have hv : us[i]? = some v := by simpa using hP
    (refine ex2_2 (strs_get hus hv) ?_; rintro t y rfl hy)
    obtain ⟨kx, hkx, rfl⟩ : ∃ kx, ns[i]? = some kx ∧ Str.ofString (vnS kx) = y := by
      rw [List.getElem?_map] at hy
      (refine ex1_2 (Option.map_eq_some_iff.mp hy) ?_; rintro kx z1 z2)
      exact mk1_2 kx z1 z2
    have hkm : kx ∈ ns := List.mem_of_getElem? hkx
    have pre0 : Pre prog w ε {} 60 c Wj ⟨[], [], 40⟩ [] ((I, oI) :: (C, oC) :: (D, LCg.lst ys) :: kp) hh m1 :=
      ⟨ok, ⟨Fr1, ⟨N1, nd_of off ne.1 ne.2.1 ne.2.2 nd⟩, .nil, rb⟩, fun x v e => (by exact nos e), fok0⟩
    have text : ∀ {pos : Pos} {Q : Value → Shared → Prop} {E'' : Value → Shared → Prop} {tk' : Nat}, Q (.str (Str.ofString (vnS kx)) t) { s0 with heap := hh, toks := tk' } → wpAny (model prog w) c.A (eval (.Name txS pos) (lEnv csc C c)) Q E'' { s0 with heap := hh, toks := tk' } := fun q =>
      ldVarK (m := m₂) (hNs.ns (N1 _ (.tail _ (.head _))).1) hm2 q (show (relabel csc c.env).kind = _ from hck) e1' (by decide +kernel)
    refine Tuple_ ?_
    rw [starEach_cons rfl]
    show wpAny (model prog w) c.A (spliced ((false, eval (.Name txS e1) (lEnv csc C c)) :: backTo e6 (starEach _ (lEnv csc C c)))) _ _ _
    refine spliced_cons (text ?_)
    rw [starEach_cons rfl]
    show wpAny (model prog w) c.A (spliced ((false, eval _ (lEnv csc C c)) :: backTo e6 (starEach [] (lEnv csc C c)))) _ _ _
    refine spliced_cons ?_
    refine call_meth rfl rfl (by show 1 < 30; omega) he (ldCellK (c := c.L + 1) (v := .ref X) List.lookup_cons_self ⟨cell, (N1 _ (.tail _ (.tail _ (.tail _ (List.mem_append_left _ hcm))))).1, hcell⟩ ?_ (show (relabel csc c.env).kind = _ from hck) e3' (by decide +kernel))
    intro pl
    have hXm : (X, listOf us.toArray kk) ∈ (I, oI) :: (C, oC) :: (D, LCg.lst ys) :: (kp ++ Wj.ims) := .tail _ (.tail _ (.tail _ (List.mem_append_left _ hX)))
    refine getMethod_builtin ⟨_, (N1 _ hXm).1, rfl⟩ PySem.F.plainAttrs_list PySem.F.slot_list_index PySem.F.type_list_index (fun a e => by cases e; exact mk1_2 _ ((N1 _ hXm).1) rfl) ?_
    refine callWith_list (P := fun _ => True) rfl keeps_bi ?_
    rw [starEach_cons rfl]
    show wpAny (model prog w) c.A (spliced ((false, eval (.Name txS e4) (lEnv csc C c)) :: backTo e5 (starEach [] (lEnv csc C c)))) _ _ _
    refine spliced_cons (text ?_)
    refine spliced_nil ⟨True.intro, ?_⟩
    refine idx_call (s := { s0 with heap := hh, toks := tk }) N1 hXm hus h4 hkm hlen ?_
    refine spliced_nil ?_
    have hidx : ns.idxOf kx = i := idx_at ns i kx hnd hkx
    have r1 : R (Kw w) ε Wj (.str (Str.ofString (vnS kx))) (.str (Str.ofString (vnS kx)) t) := .str _ _
    have r2 : R (Kw w) ε Wj (.int (.lit (i : Int))) (.int (ns.idxOf kx : Int) tk) := by rw [hidx]; exact .int (.lit _) _
    have lt : ∀ q ∈ ([] : Led) ++ (((I, oI) :: (C, oC) :: (D, LCg.lst ys) :: kp) ++ Wj.ims), q.1 < hh.objs.size := fun q hq => Heap.lt_size (pre0.st.lg.nw q hq).1
    refine newTuple_N (s := { s0 with heap := hh, toks := tk + 1 }) pre0.st.fr pre0.st.lg.nw (fun h' F' N' => ?_) (line_of (by show 2 ≤ 1200000; omega))
    have p9 := pre0.freeze F' N' lt
    have hw' := Wj.add_le hh.objs.size (tupO [.str (Str.ofString (vnS kx)) t, .int (ns.idxOf kx : Int) tk])
    have ru : R (Kw w) ε (Wj.add hh.objs.size (tupO [.str (Str.ofString (vnS kx)) t, .int (ns.idxOf kx : Int) tk])) (.tup [.str (Str.ofString (vnS kx)), .int (.lit (i : Int))]) (.ref hh.objs.size) := .tup (.inl (.head _)) (.cons (r1.mono hw') (.cons (r2.mono hw') .nil))
    have nd9 : (((I, oI) :: (C, oC) :: (D, LCg.lst ys) :: (kp ++ (Wj.add hh.objs.size (tupO [.str (Str.ofString (vnS kx)) t, .int (ns.idxOf kx : Int) tk])).ims)).map (·.1)).Nodup := p9.st.lg.nd
    have nd' : ((kp ++ (Wj.add hh.objs.size (tupO [.str (Str.ofString (vnS kx)) t, .int (ns.idxOf kx : Int) tk])).ims).map (·.1)).Nodup := by
      simp only [List.map_cons, List.nodup_cons] at nd9
      exact nd9.2.2.2
    refine LCg.CompEnd.intro p9.st.fr p9.st.lg.nw (kp ++ (Wj.add hh.objs.size (tupO [.str (Str.ofString (vnS kx)) t, .int (ns.idxOf kx : Int) tk])).ims) (fun p hp => hp) (off_of nd9) (src_list hX) ?_
    refine comp_names ok hcs hcell he hcn hck hcm hX hus h4 hnd hlen fin k (i + 1) (ys ++ [.ref hh.objs.size]) (Wj.add hh.objs.size (tupO [.str (Str.ofString (vnS kx)) t, .int (ns.idxOf kx : Int) tk])) (by omega) (hle.trans hw') p9.st.rb ?_ nd'
    rw [List.take_add_one, hkx]
    show Rl (Kw w) ε (Wj.add hh.objs.size (tupO [.str (Str.ofString (vnS kx)) t, .int (ns.idxOf kx : Int) tk])) (nmVs 0 (ns.take i ++ [kx])) (ys ++ [.ref hh.objs.size])
    rw [nmVs_snoc]
    have hl0 : 0 + (ns.take i).length = i := by rw [List.length_take]; omega
    rw [hl0]
    have app : ∀ {a b : List AV} {x y : List Value}, Rl (Kw w) ε (Wj.add hh.objs.size (tupO [.str (Str.ofString (vnS kx)) t, .int (ns.idxOf kx : Int) tk])) a x → Rl (Kw w) ε (Wj.add hh.objs.size (tupO [.str (Str.ofString (vnS kx)) t, .int (ns.idxOf kx : Int) tk])) b y → Rl (Kw w) ε (Wj.add hh.objs.size (tupO [.str (Str.ofString (vnS kx)) t, .int (ns.idxOf kx : Int) tk])) (a ++ b) (x ++ y) := by
      intro a b x y h
      induction h with
      | nil => exact fun h => h
      | cons r _ ih => exact fun h => .cons r (ih h)
    exact app (rls.mono hw') (.cons ru .nil)
noncomputable def nmD : Nat → List Nat → List PyData
  | _, [] => []
  | j, k :: r => .tuple [.str (Str.ofString (vnS k)), .int j] :: nmD (j + 1) r
theorem reads_nm (p : Pre prog w ε F n c W σ hl kp h m) : ∀ (j : Nat) (ns : List Nat) {us : List Value}, Rl (Kw w) ε W (nmVs j ns) us → ∃ as, ReadsAll h us (nmD j ns) as
  | _, [], _, r => by cases r; exact ⟨_, .nil⟩
  | j, k :: r, _, q => by
    cases q with
    | cons a b =>
      (refine ex1_1 (reads_nm p (j + 1) r b) ?_; rintro bs rb)
      cases a with
      | tup i rs => cases rs with | cons x y => cases y with | cons x' y' =>
        cases y'; cases x; cases x'
        exact ⟨_, .cons (.tuple (p.im i) rfl rfl (.cons (.str _ _) (.cons (.int _ _) .nil))) rb⟩
theorem nmD_lay : ∀ (j : Nat) (ns : List Nat), (∀ k ∈ ns, k < 4) → PyData.canLayAll0 (nmD j ns) = true ∧ PyData.depthAll (nmD j ns) ≤ 1
  | _, [], _ => ⟨rfl, Nat.zero_le _⟩
  | j, k :: r, h4 => by
    (refine ex0_2 (nmD_lay (j + 1) r fun k hk => h4 k (.tail _ hk)) ?_; rintro h1 h2)
    have hk := h4 k (.head _)
    refine ⟨?_, ?_⟩
    · simp only [nmD, PyData.canLayAll0, PyData.canLay0, h1]
      match k, hk with
      | 0, _ => decide +kernel
      | 1, _ => decide +kernel
      | 2, _ => decide +kernel
      | 3, _ => decide +kernel
    · simp only [nmD, PyData.depthAll, PyData.depth]; omega
theorem dpt_num (ns : List Nat) : ∀ t, dpt (num ns t) = dpt t
  | .i _ => rfl
  | .a _ => rfl
  | .v _ => rfl
  | .s1 _ t => by simp only [num, dpt, dpt_num ns t]
  | .s2 _ t r => by simp only [num, dpt, dpt_num ns t, dpt_num ns r]
end
end
section
open PySem PySem.W PySem.Calls PyProof.Rows
noncomputable def loc10 (d : Tm) : List (Str × AV) := [g1 "book" (.obj 1), g1 "operators" (.obj 4), g1 "due" d.av]
section
variable {prog : Program} {w : World} {ε : Eps} {F : Facts} {n : Nat} {c : Cx} {W : Wd} {σ : AS} {hl kp : Led} {h : Heap} {m : Str → Option Value} {s : Shared}
theorem locK_of {d : Tm} {ε' : Eps} {W' : Wd} (hk : KpLe W W') (l : LocR w ε W m (locKc d)) : LocR w ε' W' m (locKc d) := fun x v hx => by
  (refine ex1_2 (l x v hx) ?_; rintro u z1 z2)
  refine mk1_2 u z1 ?_
  have ob : ∀ {l0 : Nat}, lookN idSel l0 = some l0 → v = .obj l0 → R (Kw w) ε' W' v u := fun hl e => by
    subst e
    cases z2 with
    | obj q => exact .obj (hk.rho _ _ hl q)
  have e : (v = .obj 1 ∨ v = .obj 4 ∨ v = d.av ∨ v = .obj 0) := by
    have hx' := hx
    unfold locKc g1 at hx'
    simp only [look] at hx'
    split at hx'
    · (refine som1 hx' ?_; rintro rfl); simp
    · split at hx'
      · (refine som1 hx' ?_; rintro rfl); simp
      · split at hx'
        · (refine som1 hx' ?_; rintro rfl); simp
        · split at hx'
          · (refine som1 hx' ?_; rintro rfl); simp
          · exact nos hx'
  rcases e with e | e | e | e
  · exact ob rfl e
  · exact ob rfl e
  · subst e
    exact R.lf (W := W) (W' := W') (AV.labsL_mono d.lf) hk.ims (z2.eps ε' d.clo)
  · exact ob rfl e
theorem locK_10 {d : Tm} : ∀ x v, look (loc10 d) x = some v → look (locKc d) x = some v := by
  intro x v hx
  unfold loc10 g1 at hx
  unfold locKc g1
  simp only [look] at hx ⊢
  split
  · rename_i q; simpa [q] using hx
  · rename_i q1
    simp only [q1, if_false] at hx
    split
    · rename_i q; simpa [q] using hx
    · rename_i q2
      simp only [q2, if_false] at hx
      split
      · rename_i q; simpa [q] using hx
      · rename_i q3
        simp [q3] at hx
noncomputable def TryQ (prog : Program) (w : World) (O : Ops) (D : Sy) (c : Cx) (kp : Led) (W : Wd) (d : Tm) (Q : Flow → Shared → Prop) (s : Shared) : Prop := ∀ ε' W' hl' m' h' tk', ImLe W W' → DictOk ε' D → Pre prog w ε' {} 60 c W' ⟨loc10 d, comC O, 40⟩ hl' kp h' m' → Q .next { s with heap := h', toks := tk' }
theorem try_snd {O : Ops} {D : Sy} {tl : List Tk} {d : Tm} {ns : List Nat} {X : Addr} {us : List Value} {kk : Nat} {cell : Obj} {lim pr : Int} {k0 : Nat} {b1 b2 b3 b4 b5 c1 c2 c3 e1 e2 e3 e4 e5 e6 e7 g1' g2 b6 b7 tp2 : Pos} {ek : Nat} {csc : Scope} {rf : Stmt} {h0 : ExceptHandler} {hs : List ExceptHandler} {Q : Flow → Shared → Prop}
    (ok100 : c.Ok w 100) (hc : c.cs = lSc) (hcl : c.cl = [(nmN, c.L + 1)]) (hO : O.Ok) (hlen : tl.length < 900) (hb : b2.endLine = b3.line) (he : e3.endLine = e5.line) (hcn : csc.names = [(Str.ofString ".0", .local), (txS, .local), (nmN, .free)]) (hck : csc.kind = .function)
    (hcell : cell.data = .cell (some (.ref X))) (hcm : (c.L + 1, cell) ∈ kp) (hX : (X, listOf us.toArray kk) ∈ kp) (hus : StrsAre us (ns.map fun k => Str.ofString (vnS k))) (h4 : ∀ j ∈ ns, j < 4) (hnd : ns.Nodup) (hns : ns.length ≤ 4) (hdp : dpt d ≤ 20)
    (run : Run D O k0 ⟨tl, [], 1200, none, 0, [], false⟩ ⟨[.fin], [], lim, some d, pr, ns, true⟩) (hD : DictOk ε D) (hV : VarOk ε []) (hraw : ε.raw 0 = []) (h2 : ε.dlen 2 = 0) (h3 : ε.dlen 3 = 0)
    (p : Pre prog w ε {} 60 c W ⟨locKc d, baseC tl O 1200 0 [] 0 .none ++ [(9, frE)], 40⟩ hl kp s.heap m) (k : TryQ prog w O D c kp W d Q s) :
    wpAny (model prog w) c.A (exec (.Try [.If (.BoolOp .Or [.Compare (.Call (.Attribute (.Name psS b1) (Str.ofString "clause") b2) [] [] b3) [.NotEq] [.Name dueS b4] b5, .Compare (.Attribute (.Name psS c1) (Str.ofString "names") c2) [.NotEq]
        [.ListComp (.Tuple [.Name txS e1, .Call (.Attribute (.Name nmN e2) (Str.ofString "index") e3) [.Name txS e4] [] e5] ek e6) [⟨.Name txS e7, .Name nmN g1', [], 0⟩] csc g2] c3] b6) [rf] [] b7] (h0 :: hs) [] [] tp2) c.env) Q (fun _ _ => False) s := by
  refine wpAny_Try_except (wpAny_mono (E := fun _ _ => False) (Q := fun f s' => f = .next ∧ Q .next s') ?_ (fun f s' z => by
    (refine ex0_2 (z) ?_; rintro rfl z)
    exact wpAny_execs_nil z) (fun _ _ z => z.elim))
  refine wpAny_execs_cons (wpAny_If (wpAny_gen fun Q1 hQ1 => ?_))
  have hu : c.A.units + 64 < cLine := by have := p.ok.units; unfold cLine; omega
  refine isTrue_or (wpAny_gen fun Q2 hQ2 => wpAny_isTrue_Compare1 (call_meth (s := s) rfl rfl (by show 0 < 30; omega) hb (name_snd (v := .obj 0) hc (by kernel_rfl) p fun W2 hl2 m2 h2' tk2 hw2 p2 u ru pl => ?_)) rfl)
  (refine ex6_6 (p2.inst (l := 0) (by rfl) ru) ?_; rintro y dx es kq a b rfl rfl I ha hcl5 _)
  have mf := methOf_ok (P := w.params) (C := 517) (n := Str.ofString "clause") (f := 355) (by kernel_rfl)
  refine method_inst p2.st.fr p2.ok.kin I ((clsF_of hcl5).get _) mf.find mf.fn (ha.none (by kernel_rfl)) ?_
  refine callWith_list (s := { s with heap := h2', toks := tk2 }) (P := fun h => (Kw w).In h) rfl (keeps_K mf.keep) (spliced_nil ⟨p2.kin, ?_⟩)
  refine wpAny_call (clause_call (s := { s with heap := h2', toks := tk2 }) hO hlen run hD hV hns hraw h2 h3 (p2.up (ok100.le (by omega))) (.cons ru .nil) fun ε4 W4 hl4 lim4 pl4 h4' tk4 u4 hw4 hD4 ru4 fin4 => ?_)
  have p4 := (fin4 _ (locK_of hw4 p2.loc)).le (k := 60) (by omega)
  refine name_snd (v := d.av) (s := { s with heap := h4', toks := tk4 }) hc (by kernel_rfl) p4 fun W5 hl5 m5 h5' tk5 hw5 p5 u5 ru5 => ?_
  (refine ex1_1 (reads_tm p5 d (ru4.mono hw5)) ?_; rintro as ra)
  (refine ex1_1 (reads_tm p5 d ru5) ?_; rintro bs rb)
  have hsh : SeqAt.shaped (tmD d) = true := by
    unfold SeqAt.shaped
    (refine ex0_2 (tmD_lay d) ?_; rintro z1 z2)
    rw [z1, Bool.true_and]
    exact decide_eq_true (by omega)
  refine ne_dataH (s := { s with heap := h5', toks := tk5 }) ra rb hsh hsh hu (wpAny_truthy_bool (hQ2 _ _ ?_))
  rw [SeqAt.eqv_refl _ (tmD_lay d).1]
  rw [show (!true) = false from rfl]
  rw [if_neg (by simp)]
  refine isTrue_or (wpAny_gen fun Q3 hQ3 => ?_)
  have S := snd_run prog w ε4 {} 59
  have ea : runE (xRun {} 59) lSc (.Attribute (.Name psS c1) (Str.ofString "names") c2) ⟨locKc d, baseC tl O lim4 pr ns pl4 d.av ++ [(9, frE)], 40⟩ = some (.obj 11, ⟨locKc d, baseC tl O lim4 pr ns pl4 d.av ++ [(9, frE)], 40⟩) := by kernel_rfl
  refine wpAny_isTrue_Compare1 (S.rE (s := { s with heap := h5', toks := tk5 }) ea hc p5 fun W6 hl6 m6 h6' tk6 hw6 p6 u6 ru6 => ?_) rfl
  (refine ex3_4 (p6.list (l := 11) (by rfl) ru6) ?_; rintro Y usY kY rfl hYm _ rsY)
  have rlY : Rl (Kw w) ε4 W6 (nmVs 0 ns) usY := by rw [List.append_nil] at rsY; exact rsY.rl (AV.cloL_plain (nmVs_clo 0 ns))
  (refine ex2_3 (Pre.aside (a := []) (b := baseC tl O lim4 pr ns pl4 d.av ++ [(9, frE)]) p6 rfl) ?_; rintro y0 z0 ey0 hHz pA)
  have hy0 : y0 = [] := HpR.nil_inv pA.st.hr
  subst hy0
  rw [List.nil_append] at ey0
  subst ey0
  have hXu : us.length = ns.length := by rw [strs_len hus, List.length_map]
  refine LCg.ListComp_U (h₀ := c.h₀) (L := c.L) (m := m6) pA.st.fr (clos_law hcl hcn) (by rw [hcn]; simp) hck (by
    rw [hcn]; intro y hy hl
    simp only [List.mem_cons, List.not_mem_nil, or_false] at hy
    rcases hy with rfl | rfl | rfl <;> first | (decide +kernel) | injection hl) (by rw [hcn]; decide +kernel) (name_cell (s := { s with heap := h6', toks := tk6 }) hc hcl pA (List.mem_append_right _ hcm) hcell ?_) (fun _ => rfl)
  refine LCg.CompSrc.ledger (k := kk) pA.ok.hand pA.st.fr (show News c.h₀ c.L h6' ((hl6 ++ kp) ++ W6.ims) from pA.st.lg.nw) (List.mem_append_left _ (List.mem_append_right _ hX)) (line_of (by show us.length ≤ 1200000; omega)) fun g => ?_
  have hsz : us.toArray.size = ns.length := by rw [List.size_toArray, hXu]
  rw [hsz]
  refine comp_names (W := W6) (ε := ε4) pA.ok hc hcell he hcn hck (List.mem_append_right _ hcm) (List.mem_append_right _ hX) hus h4 hnd hns ?_ ns.length 0 [] W6 (by omega) (.refl _) pA.st.rb .nil pA.st.lg.nd
  intro ys Wj rls rb' nd hle Dd hh tk Fr1 N1 off1
  have hDn : Dd ∉ (((([] : Led) ++ (hl6 ++ kp)) ++ Wj.ims).map (·.1)) := fun hm => by
    (refine ex1_2 (List.mem_map.mp hm) ?_; rintro q hq e)
    have : ∀ {l : Led}, LCg.Off1 Dd l → q ∈ l → q.1 ≠ Dd := by
      intro l
      induction l with
      | nil => intro _ h; cases h
      | cons a r ih =>
        intro h1 h2
        rcases List.mem_cons.mp h2 with rfl | h2
        · exact h1.1
        · exact ih h1.2 h2
    exact this off1 hq e
  have p8 : Pre prog w ε4 {} 60 c Wj ⟨locKc d, [], 40⟩ [] ((Dd, LCg.lst ys) :: (hl6 ++ kp)) hh m6 :=
    ⟨pA.ok, ⟨Fr1, ⟨N1, by show (((Dd, LCg.lst ys) :: (([] ++ (hl6 ++ kp)) ++ Wj.ims)).map (·.1)).Nodup; rw [List.map_cons, List.nodup_cons]; exact ⟨hDn, nd⟩⟩, .nil, rb'⟩, fun x v e => by (refine ex1_2 (pA.loc x v e) ?_; rintro u z1 z2); exact ⟨u, z1, z2.mono hle⟩, fok0⟩
  (refine ex1_1 (reads_nm p8 0 ns (rlY.mono hle)) ?_; rintro as1 rA1)
  (refine ex1_1 (reads_nm p8 0 ns rls) ?_; rintro as2 rA2)
  have gY : hh.get? Y = some (listOf usY.toArray kY) := (N1 _ (.tail _ (List.mem_append_left _ (List.mem_append_left _ hYm)))).1
  have gD : hh.get? Dd = some (LCg.lst ys) := (N1 _ (.head _)).1
  have rdY : ∃ as, Reads hh (.ref Y) (.list (nmD 0 ns)) as := ⟨_, .list gY rfl rfl (by simpa using rA1)⟩
  have rdD : ∃ as, Reads hh (.ref Dd) (.list (nmD 0 ns)) as := ⟨_, .list gD rfl rfl (by simpa using rA2)⟩
  (refine ex1_1 (rdY) ?_; rintro asY rY)
  (refine ex1_1 (rdD) ?_; rintro asD rD)
  have lay := nmD_lay 0 ns h4
  have hsh2 : SeqAt.shaped (.list (nmD 0 ns)) = true := by
    unfold SeqAt.shaped
    simp only [PyData.canLay0, lay.1, Bool.true_and, PyData.depth]
    exact decide_eq_true (by omega)
  refine ne_dataH (s := { s with heap := hh, toks := tk }) rY rD hsh2 hsh2 hu (wpAny_truthy_bool (hQ3 _ _ ?_))
  rw [SeqAt.eqv_refl _ (by simp only [PyData.canLay0]; exact lay.1)]
  rw [show (!true) = false from rfl]
  rw [if_neg (by simp)]
  refine isTrue_or_nil ?_
  refine hQ1 _ _ ?_
  rw [if_neg (by simp)]
  refine wpAny_execs_nil (wpAny_execs_nil ?_)
  have p9 : Pre prog w ε4 {} 60 c Wj ⟨locKc d, [], 40⟩ [] (hl6 ++ kp) hh m6 := Pre.dropK (z := [(Dd, LCg.lst ys)]) p8
  have p10 := Pre.takeBack p9 (hHz.mono hle)
  (refine ex1_1 (Pre.head (r := comC O ++ (varC ns ++ [(9, frE)])) p10) ?_; rintro hl11 p11)
  (refine ex2_3 (Pre.aside (a := comC O) (b := varC ns ++ [(9, frE)]) p11 rfl) ?_; rintro y12 z12 e12 hH12 p12)
  have p13 := (Pre.dropK p12).locs (loc' := loc10 d) locK_10
  exact ⟨rfl, k ε4 Wj y12 m6 hh tk (fun z hz => hle.ims _ (hw6.ims _ (hw5.ims _ (hw4.ims _ (hw2.ims _ hz))))) hD4 p13⟩
end
end
section
open PySem PySem.W PySem.Calls PyProof.Rows
theorem z_true (σ : AS) : exs (xRun {} 60) lSc (lwB 13 1) σ = some (.ret (.bool true), σ) := by kernel_rfl
theorem rws_clo : ∀ rows, AV.cloL (rwsV rows) = true
  | [] => rfl
  | r :: t => by
    have e : AV.cloL (rwL r ++ []) = true := by rw [List.append_nil]; exact rwL_clo _
    simp only [rwsV, AV.cloL, AV.clo, e, rws_clo t]; rfl
section
variable {prog : Program} {w : World} {ε : Eps} {F : Facts} {n : Nat} {c : Cx} {W : Wd} {σ : AS} {hl kp : Led} {h : Heap} {m : Str → Option Value} {s : Shared}
theorem rws_get {K : Frag} : ∀ {rows : List (List Tk)} {us : List Value} {i : Nat} {v : Value}, Rl K ε W (rwsV rows) us → us[i]? = some v → ∃ r, r ∈ rows ∧ R K ε W (.fl (rwL r ++ [])) v
  | [], us, i, v, h, e => by cases h; simp at e
  | q :: r, us, 0, v, h, e => by
    cases h with
    | cons a b => simp at e; subst e; exact mk1_2 q (.head _) a
  | q :: r, us, i + 1, v, h, e => by
    cases h with
    | cons a b =>
      (refine ex1_2 (rws_get b (by simpa using e)) ?_; rintro q' h1 h2)
      exact mk1_2 q' (.tail _ h1) h2
theorem loc9_10 {d : Tm} : ∀ x v, look (loc10 d) x = some v → look (loc9 d) x = some v := by
  intro x v hx
  unfold loc10 g1 at hx
  unfold loc9 g1
  simp only [look] at hx ⊢
  split
  · rename_i q; simpa [q] using hx
  · rename_i q1
    simp only [q1, if_false] at hx
    split
    · rename_i q; simpa [q] using hx
    · rename_i q2
      simp only [q2, if_false] at hx
      split
      · rename_i q; simpa [q] using hx
      · rename_i q3
        simp [q3] at hx
theorem goes_rows {D : Sy} {O : Ops} {r rj : List Tk} {t : Tm} (hpt : Pt D r t) (hm : rj ∈ cutR r) : ∃ k pr, Run D O k ⟨rj ++ [.fin], [], 1200, none, 0, [], false⟩ ⟨[.fin], [], 1200, some (num (extL [] r) t), pr, extL [] r, true⟩ := by
  have h1 : ∃ k pr, Run D O k ⟨r ++ [.fin], [], 1200, none, 0, [], false⟩ ⟨[.fin], [], 1200, some (num (extL [] r) t), pr, extL [] r, true⟩ := by
    (refine ex1_1 (parse (O := O) hpt .fin [] [] 1200 none 0 [] (by simp)) ?_; rintro k q)
    exact mk2_1 k 0 q
  unfold cutR at hm
  split at hm
  · rename_i h0
    simp only [List.mem_cons, List.not_mem_nil, or_false] at hm
    rcases hm with rfl | rfl
    · exact h1
    · (refine ex2_1 (parse0 (O := O) hpt h0 none 0) ?_; rintro pr k q)
      exact mk2_1 k pr q
  · rw [List.mem_singleton.mp hm]; exact h1
theorem cut_len {r rj : List Tk} (hm : rj ∈ cutR r) : rj.length ≤ r.length := by
  unfold cutR at hm
  split at hm
  · simp only [List.mem_cons, List.not_mem_nil, or_false] at hm
    rcases hm with rfl | rfl
    · exact Nat.le_refl _
    · simp; omega
  · rw [List.mem_singleton.mp hm]; exact Nat.le_refl _
theorem law_rows {O : Ops} {D : Sy} {r : List Tk} {t : Tm} {X dX : Addr} {cell : Obj} {s12 s13 : Stmt} (ok100 : c.Ok w 100) (hc : c.cs = lSc) (hcl : c.cl = [(nmN, c.L + 1)]) (hO : O.Ok) (h12 : lwB 12 1 = [s12]) (h13 : lwB 13 1 = [s13]) (hcell : cell.data = .cell (some (.ref X))) (hX : W.ρ 16 = some (X, dX))
    (hD : DictOk ε D) (hpt : Pt D r t) (hr : r.length ≤ 60) (hdp : dpt t ≤ 20) {s0 : Shared} (hs0 : ∃ h tk, s = { s0 with heap := h, toks := tk })
    (p : Pre prog w ε {} 60 c W ⟨loc9 (num (extL [] r) t), rwsH O (extL [] r) (rwsV (cutR r)), 40⟩ hl [(c.L + 1, cell)] s.heap m) :
    wpAny (model prog w) c.A (execs [s12, s13] c.env) (LawEnd c s0) (fun _ _ => False) s := by
  (refine ex2_1 (hs0) ?_; rintro h00 tk00 rfl)
  obtain ⟨p1, p2, p3, t0, k1, k2, tk, tp, it, u0, fp, ps, b1, b2, b3, b4, b5, c1, c2, c3, e1, e2, e3, e4, e5, e6, e7, ek, g1', g2, csc, g3, b6, rf, b7, h0, hs, tp2, e12, q1, q2, _, z0, z1, z2, z3, zf, hcn, hck⟩ := law_signs
  rw [h12] at e12
  injection e12 with e12 _
  subst e12
  have h4 : ∀ j ∈ extL [] r, j < 4 := extL_lt (fun _ h => (nomatch h)) hpt.var4
  have hnd : (extL [] r).Nodup := extL_nd List.nodup_nil
  have hns : (extL [] r).length ≤ 4 := nodup_lt 4 _ hnd h4
  refine wpAny_execs_cons ?_
  refine For_turns p.st.fr (name_snd (v := .obj 17) hc (by kernel_rfl) p fun W1 hl1 m1 h1 tk1 hw1 p1' u ru => ?_) (fun _ => rfl) PassesOwn.never
  (refine ex3_2 (p1'.freezeL (l := 17) (vs := rwsV (cutR r)) (by rfl)) ?_; rintro tF lo hl2 p2' hz)
  have hwF := W1.add_le tF lo
  have ruF := hz (W1.add tF lo) (.refl _) u ru
  have p3' : Pre prog w ε {} 60 c (W1.add tF lo) ⟨loc9 (num (extL [] r) t), comC O ++ [(16, .list none (nsV (extL [] r)))], 40⟩ hl2 [(c.L + 1, cell)] h1 m1 := p2'
  generalize W1.add tF lo = W2 at hwF ruF p3'
  clear p2' hz
  (refine ex2_3 (Pre.aside (a := comC O) (b := [(16, .list none (nsV (extL [] r)))]) p3' rfl) ?_; rintro y4 z4 e4' hz4 p4)
  obtain ⟨x4, dx4, hx4, us, kk, hz5, rs⟩ := hz4.one_inv
  have hX2 : W2.ρ 16 = some (X, dX) := hwF.ρ _ _ (hw1.ρ _ _ hX)
  rw [hX2] at hx4
  (refine som2 hx4 ?_; rintro rfl rfl)
  have hz6 : z4 = [(X, listOf us.toArray kk)] := hz5
  subst hz6
  have hus := nsV_strs rs
  have p5 := p4.locs (loc' := loc10 (num (extL [] r) t)) loc9_10
  cases ruF with
  | @fl _ vals tt kv i rsv =>
    have rlv : Rl (Kw w) ε W2 (rwsV (cutR r)) vals := rsv.rl (AV.cloL_plain (rws_clo _))
    refine loop_list (s := { s0 with heap := h1, toks := tk1 }) (im_kept p5 i) p5 (fun j ε' F' W' σ' => F' = {} ∧ DictOk ε' D ∧ ImLe W2 W' ∧ σ' = ⟨loc10 (num (extL [] r) t), comC O, 40⟩) ⟨rfl, hD, .refl _, rfl⟩ ?_ ?_
    · rintro j v I ε' F' W' hl' σ' itO m₁ h₁ tk₁ hv hw p' ⟨rfl, hD', hle, rfl⟩
      (refine ex1_2 (rws_get rlv hv) ?_; rintro rj hm rj')
      (refine ex2_1 (goes_rows (O := O) hpt hm) ?_; rintro k0 pr run)
      have hlj := cut_len hm
      have hcloj : (AV.fl (rwL rj ++ [])).clo = true := by
        have e : AV.cloL (rwL rj ++ []) = true := by rw [List.append_nil]; exact rwL_clo _
        simp only [AV.clo, e]
      have hlfj : (AV.fl (rwL rj ++ [])).labs (fun _ => false) = true := by
        have e : AV.labsL (fun _ => false) (rwL rj ++ []) = true := by rw [List.append_nil]; exact rwL_lf _ _
        simp only [AV.labs, e]
      have rv : R (Kw w) ε' W' (.fl (rwL rj ++ [])) v := R.lf (W := W2) (W' := W') hlfj hle (rj'.eps ε' hcloj)
      refine assign_Name (store_snd (s := { s0 with heap := h₁, toks := tk₁ }) (x := sgS) (v := .fl (rwL rj ++ [])) (by rw [hc]; kernel_rfl) rv p' fun W3 hl3 m3 h3 tk3 hw3 p6 => ?_)
      have p6' : Pre prog w ε' {} 60 c W3 ⟨locGc rj (num (extL [] r) t), comC O, 40⟩ hl3 ((I, itO) :: ([(X, listOf us.toArray kk)] ++ [(c.L + 1, cell)])) h3 m3 := p6
      refine tok_build (s := { s0 with heap := h3, toks := tk3 }) hc (by omega) z0 z1 z2 zf p6' fun W7 hl7 m7 h7 tk7 hw7 p7 => ?_
      refine par_new (s := { s0 with heap := h7, toks := tk7 }) hc (by omega) (by rw [List.length_append]; simp; omega) z3 p7 fun W8 hl8 m8 h8 tk8 hw8 p8 => ?_
      refine wpAny_execs_cons (try_snd (s := { s0 with heap := h8, toks := tk8 }) (us := us) (kk := kk) (D := D) ok100 hc hcl hO (by rw [List.length_append]; simp; omega) q1 q2 hcn hck hcell (.tail _ (.tail _ (.head _))) (.tail _ (.head _)) hus h4 hnd hns (by rw [dpt_num]; exact hdp) run (par_dict hD') par_var rfl rfl rfl p8 fun ε9 W9 hl9 m9 h9 tk9 hw9 hD9 p9 => ?_)
      refine wpAny_execs_nil ?_
      have iAll : ImLe W' W9 := fun z hz => hw9 _ (hw8 _ (hw7 _ (hw3.ims _ hz)))
      exact ⟨ε9, {}, W9, hl9, _, m9, h9, tk9, rfl, iAll, p9, rfl, hD9, hle.trans iAll, rfl⟩
    · rintro ε' F' W' hl' σ' m' h' tk' hw p' ⟨rfl, hD', hle, rfl⟩
      have ez := z_true ⟨loc10 (num (extL [] r) t), comC O, 40⟩
      rw [h13] at ez
      refine (snd_run prog w ε' {} 60).exs (s := { s0 with heap := h', toks := tk' }) hc ez p' fun W'' hl'' m'' h'' tk'' hw'' p'' f rf' => ?_
      (refine ex1_2 (rf') ?_; rintro uu rfl ruu)
      cases ruu
      exact ⟨rfl, h'', tk'', m'', rfl, p''.st.fr⟩
end
end
section
open PySem PySem.W PySem.Calls PyProof.Rows
section
variable {prog : Program} {w : World} {c : Cx} {figs : List Int}
theorem law_after (ok100 : c.Ok w 100) (hc : c.cs = lSc) (hcl : c.cl = [(nmN, c.L + 1)]) (hl5 : figs.length = 15) {cell : Obj} (hd : cell.data = .cell none) (s0 : Shared) : ∃ b0 bM, lwB 0 1 = b0 ∧ lawDef.body = b0 ++ bM ∧ ∀ (W : Wd) (hl : Led) (h0 : Heap) (tk0 : Nat) (m : Str → Option Value) (ε : Eps),
    Pre prog w ε {} 60 c W ⟨[g1 "figures" (.fl (fgV figs ++ []))], [], 40⟩ hl [(c.L + 1, cell)] h0 m → wpAny (model prog w) c.A (execs bM c.env) (LawEnd c s0) (fun _ _ => False) { s0 with heap := h0, toks := tk0 } := by
  (refine ex3_4 (law_made (prog := prog) (w := w) (c := c) (kp := [(c.L + 1, cell)]) hl5 hc (Q := LawEnd c s0)) ?_; rintro b0 b6 bM q0 q6 qb law)
  refine mk2_3 b0 bM q0 qb (fun W hl h0 tk0 m ε p => ?_)
  refine law W hl { s0 with heap := h0, toks := tk0 } m ε p fun ε1 W1 hl1 m1 h1 tk1 D n i made hi hok p1 => ?_
  (refine ex5_6 (law_names (s := { s0 with heap := h1, toks := tk1 }) (Q := LawEnd c s0) hl5 hc hcl hd hi hok p1) ?_; rintro s9 s10 s11 s12 s13 r9 r10 r11 r12 r13 names)
  refine names b6 q6 fun ε2 W2 hl2 m2 h2 tk2 r t D2 cell' X dX hD hpt hr hdp hcell hX p2 => ?_
  have h4 : ∀ j ∈ extL [] r, j < 4 := extL_lt (fun _ h => (nomatch h)) hpt.var4
  have hnd : (extL [] r).Nodup := extL_nd List.nodup_nil
  have hns : (extL [] r).length ≤ 4 := nodup_lt 4 _ hnd h4
  obtain ⟨d1, d2, d3, d4, d5, d6, e9⟩ := law_due
  rw [r9] at e9
  injection e9 with e9 _
  subst e9
  refine law_due_snd (s := { s0 with heap := h2, toks := tk2 }) ok100 hc hcl hcell (.head _) hX hdp h4 hns (hpt.vars []) p2 fun W3 hl3 m3 h3 tk3 hw3 p3 => ?_
  have hne : r ≠ [] := by (refine ex2_2 (hpt.start) ?_; rintro x r' rfl _); simp
  refine rows_cut (s := { s0 with heap := h3, toks := tk3 }) hc r10 r11 (hw3.ρ _ _ hX) hne (by omega) hns hpt.var4 p3 fun W5 hl5' m5 h5 tk5 hX5 p5 => ?_
  exact law_rows (s := { s0 with heap := h5, toks := tk5 }) ok100 hc hcl (opsOf_ok figs) r12 r13 hcell hX5 hD hpt hr hdp ⟨h5, tk5, rfl⟩ p5
end
end
section
open PySem PySem.W PySem.Calls PyProof.Rows
noncomputable def fBody : List Stmt := match sAt 44 with
  | some (.FunctionDef _ _ b _ _ _ _ _ _ _) => b
  | _ => []
noncomputable def fSc : Scope := match sAt 44 with
  | some (.FunctionDef _ _ _ _ _ _ sc _ _ _) => sc
  | _ => default
noncomputable def fAr : Arguments := match sAt 44 with
  | some (.FunctionDef _ a _ _ _ _ _ _ _ _) => a
  | _ => default
noncomputable def scS : Str := Str.ofString "script"
noncomputable def waS : Str := Str.ofString "wanted"
noncomputable def cellS : Str := Str.ofString "cell"
noncomputable def restS : Str := Str.ofString "rest"
noncomputable def fgS : Str := Str.ofString "_law_figures"
theorem fnF (P : Params) : (K0 P).lookup 528 = some (fO (sAt 44) "_law_figures" nPm (.ref 527) .none) ∧ codeIn (K0 P) (.ref 527) (Str.ofString "_law_figures") = true ∧ keepIn (K0 P) (.ref 528) = true ∧
    (∀ a b, bindArgs (fD (sAt 44) "_law_figures" nPm (.ref 527) .none) ⟨[a, b], []⟩ = pure [(scS, a), (waS, b)]) := ⟨by kernel_rfl, by kernel_rfl, by kernel_rfl, fun a b => by kernel_rfl⟩
noncomputable def locF0 (v : Value) : List (Str × AV) := [g1 "script" (.stat v), g1 "wanted" (.int (.lit 15))]
noncomputable def locF (v : Value) : List (Str × AV) := [g1 "script" (.stat v), g1 "wanted" (.int (.lit 15)), g1 "row" (.obj 17)]
noncomputable def locR' (v : Value) (r : AI) : List (Str × AV) := [g1 "script" (.stat v), g1 "wanted" (.int (.lit 15)), g1 "row" (.obj 17), g1 "rest" (.int r)]
noncomputable def selF : List (Nat × Nat) := [(17, 17)]
noncomputable def selF0 : List (Nat × Nat) := [(17, 40)]
noncomputable def xsF : List Str := [scS, waS, rowS]
noncomputable def xsR' : List Str := [scS, waS, rowS, restS]
inductive Fig_bodyI : Prop
  | mk (s1 p1 p2 p3 p4 p5 p6 p7 p8 p9 q1 q2 q3 q4 q5 q6 a2 d1 d2 d3 d4 wt w2 wd1 wd2 wd3 wd4 wp bt bp bip fp r1 r2 r3 r4 r5 r6 r7 r8 r9 : _)
    (h0 : fBody = [s1, .For (.Name cellS p1) (.Subscript (.Name scS p2) (.Slice none (some (.Name waS p3)) none p4) p5)
      [.Assign [.Name restS p6] (.BinOp (.Call (.Name (Str.ofString "int") p7) [.Name cellS p8] [] p9) .Mod (.BinOp (.Constant (.int 96) 0 q1) .Pow (.Constant (.int 24) 0 q2) q3) q4) q5, a2, .AugAssign (.Name restS d1) .FloorDiv (.Constant (.int 96) 0 d2) d3,
        .While wt [w2, .AugAssign (.Name restS wd1) .FloorDiv (.Constant (.int 96) 0 wd2) wd3] [] wp, .If bt [.Break bp] [] bip] [] fp,
      .Return (some (.Subscript (.BinOp (.Name rowS r1) .Add (.BinOp (.List [.Constant (.int 0) 0 r2] r3) .Mult (.Name waS r4) r5) r6) (.Slice none (some (.Name waS r7)) none r8) r9)) q6])
    (h1 : d4 = d3)
    (h2 : wd4 = wd3)
    (h3 : (∀ v, blkS {} 60 fSc [s1] selF0 [] xsF ⟨locF0 v, [], 40⟩ = some (locF v, [(17, .list none [])])))
    (h4 : (∀ v, blkS {} 60 fSc [a2] selF [] xsR' ⟨locR' v (.sym 2), [(17, .list none [.sq 61])], 40⟩ = some (locR' v (.sym 2), [(17, .list none [.sq 61, .int (.mod (.sym 2) (.lit 96))])])))
    (h5 : (∀ v, blkS {} 60 fSc [w2] selF [] xsR' ⟨locR' v (.sym 2), [(17, .list none [.sq 61])], 40⟩ = some (locR' v (.sym 2), [(17, .list none [.sq 61, .int (.mod (.sym 2) (.lit 96))])])))
    (h6 : (∀ v b, runT (xRun { less := [(.lit 0, .sym 2, b)] } 59) fSc wt ⟨locR' v (.sym 2), [(17, .list none [.sq 61])], 40⟩ = some (b, ⟨locR' v (.sym 2), [(17, .list none [.sq 61])], 40⟩)))
    (h7 : (∀ v b, runT (xRun { less := [(.slen 61 0, .lit 15, b)] } 59) fSc bt ⟨locR' v (.sym 2), [(17, .list none [.sq 61])], 40⟩ = some (!b, ⟨locR' v (.sym 2), [(17, .list none [.sq 61])], 40⟩)))
theorem fig_body : Fig_bodyI :=
  ⟨_, _, _, _, _, _, _, _, _, _, _, _, _, _, _, _, _, _, _, _, _, _, _, _, _, _, _, _, _, _, _, _, _, _, _, _, _, _, _, _, _, rfl, rfl, rfl, fun v => by kernel_rfl, fun v => by kernel_rfl, fun v => by kernel_rfl, fun v b => by kernel_rfl, fun v b => by kernel_rfl⟩
section
variable {prog : Program} {w : World} {ε : Eps} {F : Facts} {n : Nat} {c : Cx} {W : Wd} {σ : AS} {hl kp : Led} {m : Str → Option Value} {s : Shared}
theorem fig_enter {u1 u2 : Value} {Rr : Result → Shared → Prop} (p : Pre prog w ε F (n + 1) c W σ hl kp s.heap m) (r2 : R (Kw w) ε W (.int (.lit 15)) u2)
    (k : ∀ (c' : Cx) (h₁ : Heap) (tk₁ : Nat) (m₁ : Str → Option Value), c'.cs = fSc → (∀ b o, c.h₀.get? b = some o → c'.h₀.get? b = some o) → Pre prog w ε F n c' W { σ with loc := locF0 u1 } hl kp h₁ m₁ →
      wpAny (model prog w) c'.A (execs fBody c'.env) (FnEnd prog w ε F n c c' kp kp m Rr s) (fun _ _ => False) { s with heap := h₁, toks := tk₁ }) :
    codeAny (model prog w) c.A (.call (.ref 528) ⟨[u1, u2], []⟩) Rr s := by
  (refine ex0_4 (fnF w.params) ?_; rintro hlook hcd hkeep hbind)
  have o1 := p.ok
  have dep := o1.depth
  have uni := o1.units
  have hB : BindsTo s (fD (sAt 44) "_law_figures" nPm (.ref 527) .none) ⟨[u1, u2], []⟩ [(scS, u1), (waS, u2)] := .of_eq (hbind u1 u2)
  refine code_def (mg := c.mg) (mb := c.mb) (mean := c.mean) (qual := Str.ofString "_law_figures") (params := fAr) (body := fBody) (scope := fSc) (dV := .none) (kV := .none) (doc := .none) (pm := nPm) (an := none) (cdv := .ref 527) (ct := .none) (oc := .type "function") (od := none) (osl := #[])
    o1.below p.st.fr o1.kin p.st.news o1.top o1.frames rfl o1.kind hlook hcd (by show c.A.depth < 1000; omega) hB (fun y hy => by
      simp only [List.mem_cons, List.not_mem_nil, or_false] at hy
      rcases hy with rfl | rfl <;> kernel_rfl) (fun g L' h₁ FG F' N' B' Kg Tg => ?_) (by kernel_rfl) (by kernel_rfl) (by kernel_rfl) (by decide +kernel)
  have hlocR : LocR w ε W (fun y => [(scS, u1), (waS, u2)].reverse.lookup y) (locF0 u1) := fun x v hx => by
    unfold locF0 g1 at hx
    simp only [look] at hx
    split at hx
    · rename_i q
      (refine som1 hx ?_; rintro rfl)
      have := sB_eq q
      subst this
      refine mk1_2 u1 ?_ (.stat u1)
      have h1 : (Str.ofString "script" == waS) = false := by decide +kernel
      show List.lookup (Str.ofString "script") [(waS, u2), (scS, u1)] = some u1
      rw [List.lookup_cons, h1]
      exact List.lookup_cons_self
    · split at hx
      · rename_i q
        (refine som1 hx ?_; rintro rfl)
        have := sB_eq q
        subst this
        exact mk1_2 u2 List.lookup_cons_self r2
      · exact nos hx
  let c' : Cx := { A₀ := c.A, A := c.A.deeper (envOf (Str.ofString "_law_figures") fSc L' 528 (.ref 527)), base := c.base, h₀ := g, outer := c.env :: c.outer, cn := Str.ofString "_law_figures", cs := fSc, L := L', a := 528, ccd := .ref 527, cl := [], mean := c.mean, mg := c.mg, mb := c.mb }
  have ok' : c'.Ok w n := ⟨B', by show c.A.frames.map _ = _; rw [o1.frames]; rfl, o1.hand, Kg, Tg, by kernel_rfl, by kernel_rfl, by show c.A.depth + 1 + n < 1000; omega, by show c.A.units + 3 + 16 * n + 64 < 9900; omega⟩
  have p' : Pre prog w ε F n c' W { σ with loc := locF0 u1 } hl kp h₁ (fun y => [(scS, u1), (waS, u2)].reverse.lookup y) := ⟨ok', ⟨F', ⟨N', p.st.lg.nd⟩, p.st.hr, p.st.rb⟩, hlocR, p.fk⟩
  refine wpAny_mono (k c' h₁ (s.toks + 2) _ rfl FG.keep p') (fun fl s' z => ?_) (fun _ _ z => z.elim)
  obtain ⟨u, W', hl', σ₂, m', h', tk', rfl, rfl, p₂, fin⟩ := z
  exact leaveK_ p₂.st.fr p₂.st.lg.nw fun F₂ N₂ => fin fun loc hl2 => ⟨o1, ⟨F₂, ⟨N₂, p₂.st.lg.nd⟩, p₂.st.hr, p₂.st.rb⟩, hl2, p₂.fk⟩
end
end
section
open PySem PySem.W PySem.Calls PyProof.Rows
theorem fgV_app : ∀ a b, fgV (a ++ b) = fgV a ++ fgV b
  | [], b => rfl
  | i :: r, b => by simp [fgV, fgV_app r b]
section
variable {prog : Program} {w : World} {ε : Eps} {F : Facts} {n : Nat} {c : Cx} {W : Wd} {σ : AS} {hl kp : Led} {m : Str → Option Value} {s : Shared}
noncomputable abbrev fgSt (v : Value) (r : Int) (is : List Int) : AS := ⟨locR' v (.lit r), [(17, .list none (fgV is))], 40⟩
theorem sqF {is : List Int} (h : is.length ≤ 900) : SqOk [(61, fgV is)] := .cons (fgV_clo _) (fgV_lf _) (by rw [fgV_len]; omega) .nil
theorem fg_app {v : Value} {r : Int} {is : List Int} {x : Stmt} {rest : List Stmt} {Q : Flow → Shared → Prop} (hc : c.cs = fSc) (hi : is.length ≤ 900)
    (z : ∀ v, blkS {} 60 fSc [x] selF [] xsR' ⟨locR' v (.sym 2), [(17, .list none [.sq 61])], 40⟩ = some (locR' v (.sym 2), [(17, .list none [.sq 61, .int (.mod (.sym 2) (.lit 96))])]))
    (p : Pre prog w ε {} 60 c W (fgSt v r is) hl kp s.heap m) (k : ∀ W' hl' m' h' tk', ImLe W W' → Pre prog w ε {} 60 c W' (fgSt v r (is ++ [r.fmod 96])) hl' kp h' m' → wpAny (model prog w) c.A (execs rest c.env) Q (fun _ _ => False) { s with heap := h', toks := tk' }) :
    wpAny (model prog w) c.A (execs (x :: rest) c.env) Q (fun _ _ => False) s := by
  have es : fgSt v r is = AS.sub (ε.put [(2, r)] [(61, fgV is)] [] (sqF hi) .nil) ⟨locR' v (.sym 2), [(17, .list none [.sq 61])], 40⟩ := by
    show AS.mk (locR' v (.lit r)) [(17, .list none (fgV is))] 40 = AS.mk (locR' v (.lit r)) [(17, .list none (fgV is ++ []))] 40
    rw [List.append_nil]
  refine blk_sim (body := [x]) (z v) rfl hc put_eq fok0 es p fun W' hl' m' h' tk' hw p' => ?_
  refine k (W'.selW selF) hl' m' h' tk' (fun q hq => hw.ims q hq) ?_
  show Pre prog w ε {} 60 c (W'.selW selF) ⟨locR' v (.lit r), [(17, .list none (fgV (is ++ [r.fmod 96])))], 40⟩ hl' kp h' m'
  rw [fgV_app]
  exact p'
theorem fg_div {v : Value} {r : Int} {is : List Int} {d1 d2 d3 : Pos} {Q : Flow → Shared → Prop} {E : Value → Shared → Prop} (hc : c.cs = fSc) (p : Pre prog w ε {} 60 c W (fgSt v r is) hl kp s.heap m)
    (k : ∀ W' hl' m' h' tk', ImLe W W' → Pre prog w ε {} 60 c W' (fgSt v (r.fdiv 96) is) hl' kp h' m' → Q .next { s with heap := h', toks := tk' }) :
    wpAny (model prog w) c.A (exec (.AugAssign (.Name restS d1) .FloorDiv (.Constant (.int 96) 0 d2) d3) c.env) Q E s := by
  obtain ⟨u, hu, ru⟩ := p.loc restS (.int (.lit r)) (by rfl)
  obtain ⟨t, rfl⟩ : ∃ t, u = .int r t := by cases ru; exact ⟨_, rfl⟩
  have hk : c.env.kindOf restS = some .local := by
    show (envX c.cn c.cs c.L c.a c.ccd c.cl).kindOf restS = some .local
    rw [hc]; kernel_rfl
  refine wpAny_AugAssign_Name (wpAny_loadName_local p.ok.kind hk p.st.fr.ns hu ?_)
  have S := snd_run prog w ε {} 59
  refine S.rE (v := .int (.lit 96)) (σ' := fgSt v r is) (by kernel_rfl) hc p fun W1 hl1 m1 h1 tk1 hw1 p1 u2 ru2 => ?_
  obtain ⟨t2, rfl⟩ : ∃ t, u2 = .int 96 t := by cases ru2; exact ⟨_, rfl⟩
  refine ifloordiv_int (s := { s with heap := h1, toks := tk1 }) (by decide) ?_ (Or.inl (PyProof.noPylong_small (by omega)))
  refine store_snd (s := { s with heap := h1, toks := tk1 + 1 }) (x := restS) (v := .int (.lit (r.fdiv 96))) (by rw [hc]; kernel_rfl) (.int (.lit (r.fdiv 96)) _) p1 fun W2 hl2 m2 h2 tk2 hw2 p2 => ?_
  exact k W2 hl2 m2 h2 tk2 (hw1.trans hw2).i p2
theorem fdiv_lt {r : Int} {k : Nat} (h0 : 0 < r) (h : r < 96 ^ k) : ∃ j, k = j + 1 ∧ 0 ≤ r.fdiv 96 ∧ r.fdiv 96 < 96 ^ j := by
  cases k with
  | zero => simp at h; omega
  | succ j =>
    refine mk1_3 j rfl ?_ ?_
    · rw [Int.fdiv_eq_ediv_of_nonneg _ (by decide)]; omega
    · rw [Int.fdiv_eq_ediv_of_nonneg _ (by decide)]
      rw [Int.pow_succ] at h
      omega
/-- the inner loop -/
theorem fg_while {v : Value} {r0 : Int} {is0 : List Int} {k0 B : Nat} {wt : Expr} {w2 : Stmt} {wd1 wd2 wd3 wp : Pos} {Q : Flow → Shared → Prop} (hc : c.cs = fSc)
    (z4 : ∀ v, blkS {} 60 fSc [w2] selF [] xsR' ⟨locR' v (.sym 2), [(17, .list none [.sq 61])], 40⟩ = some (locR' v (.sym 2), [(17, .list none [.sq 61, .int (.mod (.sym 2) (.lit 96))])]))
    (z5 : ∀ v b, runT (xRun { less := [(.lit 0, .sym 2, b)] } 59) fSc wt ⟨locR' v (.sym 2), [(17, .list none [.sq 61])], 40⟩ = some (b, ⟨locR' v (.sym 2), [(17, .list none [.sq 61])], 40⟩))
    (hB : B ≤ 900) (h0 : 0 ≤ r0) (hk : r0 < 96 ^ k0) (hb : is0.length + k0 ≤ B) (p : Pre prog w ε {} 60 c W (fgSt v r0 is0) hl kp s.heap m)
    (fin : ∀ W' hl' m' h' tk' r is, ImLe W W' → is.length ≤ B → Pre prog w ε {} 60 c W' (fgSt v r is) hl' kp h' m' → Q .next { s with heap := h', toks := tk' }) :
    wpAny (model prog w) c.A (exec (.While wt [w2, .AugAssign (.Name restS wd1) .FloorDiv (.Constant (.int 96) 0 wd2) wd3] [] wp) c.env) Q (fun _ _ => False) s := by
  refine while_rule (fun k s' => ∃ h' tk' m' W' hl' r is, s' = { s with heap := h', toks := tk' } ∧ ImLe W W' ∧ 0 ≤ r ∧ r < 96 ^ k ∧ is.length + k ≤ B ∧ Pre prog w ε {} 60 c W' (fgSt v r is) hl' kp h' m') ?_ k0 ⟨s.heap, s.toks, m, W, hl, r0, is0, rfl, .refl _, h0, hk, hb, p⟩
  rintro k _ ⟨h1, tk1, m1, W1, hl1, r, is, rfl, hle, hr0, hrk, hbk, p1⟩
  have hi : is.length ≤ 900 := by omega
  have es : fgSt v r is = AS.sub (ε.put [(2, r)] [(61, fgV is)] [] (sqF hi) .nil) ⟨locR' v (.sym 2), [(17, .list none [.sq 61])], 40⟩ := by
    show AS.mk (locR' v (.lit r)) [(17, .list none (fgV is))] 40 = AS.mk (locR' v (.lit r)) [(17, .list none (fgV is ++ []))] 40
    rw [List.append_nil]
  have fk : FOk w (ε.put [(2, r)] [(61, fgV is)] [] (sqF hi) .nil) { less := [(.lit 0, .sym 2, decide (0 < r))] } W1 := by
    refine ⟨fun x y b hm => ?_, fun _ _ h => (nomatch h), fun _ _ _ h => (nomatch h), fun _ _ _ h => (nomatch h)⟩
    rw [List.mem_singleton] at hm
    cases hm
    rfl
  have S := snd_run prog w (ε.put [(2, r)] [(61, fgV is)] [] (sqF hi) .nil) { less := [(.lit 0, .sym 2, decide (0 < r))] } 59
  refine S.rT (s := { s with heap := h1, toks := tk1 }) (z5 v _) hc (Pre.opn put_eq fk es p1) fun W2 hl2 m2 h2 tk2 hw2 p2 => ?_
  have p2' : Pre prog w ε {} 60 c W2 (fgSt v r is) hl2 kp h2 m2 := by rw [es]; exact p2.close put_eq fok0
  by_cases hr : 0 < r
  · dsimp only
    rw [if_pos (decide_eq_true hr)]
    (refine ex1_3 (fdiv_lt hr hrk) ?_; rintro j rfl hj0 hj1)
    refine fg_app (s := { s with heap := h2, toks := tk2 }) hc hi z4 p2' fun W3 hl3 m3 h3 tk3 hw3 p3 => ?_
    refine wpAny_execs_cons (fg_div (s := { s with heap := h3, toks := tk3 }) hc p3 fun W4 hl4 m4 h4 tk4 hw4 p4 => ?_)
    refine wpAny_execs_nil ⟨j, by omega, h4, tk4, m4, W4, hl4, r.fdiv 96, is ++ [r.fmod 96], rfl, fun z hz => hw4 _ (hw3 _ (hw2.ims _ (hle _ hz))), hj0, hj1, ?_, p4⟩
    rw [List.length_append]
    simp
    omega
  · dsimp only
    rw [if_neg (by rw [decide_eq_false hr]; simp)]
    exact fin W2 hl2 m2 h2 tk2 r is (fun z hz => hw2.ims _ (hle _ hz)) (by omega) p2'
end
end
section
open PySem PySem.W PySem.Calls PyProof.Rows
theorem ints_mem {vs : List Value} {ns : List Int} (h : IntsAre vs ns) : ∀ v ∈ vs, ∃ n t, v = .int n t := by
  induction h with
  | nil => intro v h; cases h
  | cons n t _ ih =>
    intro v hv
    rcases List.mem_cons.mp hv with rfl | hv
    · exact mk2_1 _ _ rfl
    · exact ih v hv
noncomputable def locC (v : Value) (n r : Int) : List (Str × AV) := [g1 "script" (.stat v), g1 "wanted" (.int (.lit 15)), g1 "row" (.obj 17), g1 "cell" (.int (.lit n)), g1 "rest" (.int (.lit r))]
theorem locC_R {v : Value} {n r : Int} : ∀ x a, look (locR' v (.lit r)) x = some a → look (locC v n r) x = some a := by
  intro x a hx
  unfold locR' g1 at hx
  unfold locC g1
  simp only [look] at hx ⊢
  split
  · rename_i q; simpa [q] using hx
  · rename_i q1
    simp only [q1, if_false] at hx
    split
    · rename_i q; simpa [q] using hx
    · rename_i q2
      simp only [q2, if_false] at hx
      split
      · rename_i q; simpa [q] using hx
      · rename_i q3
        simp only [q3, if_false] at hx
        split
        · rename_i q
          have := sB_eq q
          subst this
          have h2 : ¬ sB (Str.ofString "rest") (Str.ofString "cell") = true := by decide +kernel
          simp [h2] at hx
        · exact hx
theorem locR_F {v : Value} {r : AI} : ∀ x a, look (locF v) x = some a → look (locR' v r) x = some a := by
  intro x a hx
  unfold locF g1 at hx
  unfold locR' g1
  simp only [look] at hx ⊢
  split
  · rename_i q; simpa [q] using hx
  · rename_i q1
    simp only [q1, if_false] at hx
    split
    · rename_i q; simpa [q] using hx
    · rename_i q2
      simp only [q2, if_false] at hx
      split
      · rename_i q; simpa [q] using hx
      · rename_i q3
        simp [q3] at hx
section
variable {prog : Program} {w : World} {ε : Eps} {F : Facts} {n : Nat} {c : Cx} {W : Wd} {σ : AS} {hl kp : Led} {m : Str → Option Value} {s : Shared} {E : Value → Shared → Prop}
/-- rest = int(cell) % 96 ** 24 -/
theorem fg_rest {v : Value} {k : Int} {is : List Int} {p6 p7 p8 p9 q1 q2 q3 q4 q5 : Pos} {rest : List Stmt} {Q : Flow → Shared → Prop} (hc : c.cs = fSc)
    (p : Pre prog w ε {} 60 c W ⟨locF v ++ [g1 "cell" (.int (.lit k))], [(17, .list none (fgV is))], 40⟩ hl kp s.heap m)
    (kont : ∀ W' hl' m' h' tk', ImLe W W' → Pre prog w ε {} 60 c W' (fgSt v (k.fmod (96 ^ 24)) is) hl' kp h' m' → wpAny (model prog w) c.A (execs rest c.env) Q E { s with heap := h', toks := tk' }) :
    wpAny (model prog w) c.A (execs (.Assign [.Name restS p6] (.BinOp (.Call (.Name (Str.ofString "int") p7) [.Name cellS p8] [] p9) .Mod (.BinOp (.Constant (.int 96) 0 q1) .Pow (.Constant (.int 24) 0 q2) q3) q4) q5 :: rest) c.env) Q E s := by
  have S := snd_run prog w ε {} 59
  refine wpAny_execs_cons (wpAny_Assign_Name (wpAny_BinOp ?_) (notComp rfl _ _ _))
  show wpAny (model prog w) c.A (do callWith p9 (← eval (.Name (Str.ofString "int") p7) c.env) [] (backTo p9 (starEach [.Name cellS p8] c.env)) (backToKw p9 (keywordEach [] c.env))) _ _ _
  refine wpAny_bind (name_snd (v := .stat (.type "int")) hc (by kernel_rfl) p fun W1 hl1 m1 h1 tk1 hw1 p1 u0 r0 => ?_)
  cases r0
  refine callWith_list (s := { s with heap := h1, toks := tk1 }) (P := fun _ => True) rfl keeps_ty ?_
  rw [starEach_cons rfl]
  show wpAny (model prog w) c.A (spliced ((false, eval (.Name cellS p8) c.env) :: backTo p9 (starEach [] c.env))) _ _ _
  refine spliced_cons (name_snd (v := .int (.lit k)) (s := { s with heap := h1, toks := tk1 }) hc (by kernel_rfl) p1 fun W2 hl2 m2 h2 tk2 hw2 p2 u2 r2 => ?_)
  obtain ⟨t2, rfl⟩ : ∃ t, u2 = .int k t := by cases r2; exact ⟨_, rfl⟩
  refine spliced_nil ⟨True.intro, call_int_int ?_⟩
  refine wpAny_BinOp ?_
  refine S.rE (s := { s with heap := h2, toks := tk2 }) (v := .int (.lit 96)) (σ' := ⟨locF v ++ [g1 "cell" (.int (.lit k))], [(17, .list none (fgV is))], 40⟩) (by kernel_rfl) hc p2 fun W3 hl3 m3 h3 tk3 hw3 p3 u3 r3 => ?_
  obtain ⟨t3, rfl⟩ : ∃ t, u3 = .int 96 t := by cases r3; exact ⟨_, rfl⟩
  refine S.rE (s := { s with heap := h3, toks := tk3 }) (v := .int (.lit 24)) (σ' := ⟨locF v ++ [g1 "cell" (.int (.lit k))], [(17, .list none (fgV is))], 40⟩) (by kernel_rfl) hc p3 fun W4 hl4 m4 h4 tk4 hw4 p4 u4 r4 => ?_
  obtain ⟨t4, rfl⟩ : ∃ t, u4 = .int 24 t := by cases r4; exact ⟨_, rfl⟩
  refine PySem.AutoIntOps.pow_4 (s := { s with heap := h4, toks := tk4 }) (by decide) (by decide) (by decide) (by decide) (by decide +kernel) ?_
  show wpAny (model prog w) c.A (binaryOp Operator.Mod (Value.int k t2) (.int (96 ^ 24) tk4)) _ _ { s with heap := h4, toks := tk4 + 1 }
  refine mod_int' (s := { s with heap := h4, toks := tk4 + 1 }) (by decide +kernel) ?_
  refine store_snd (s := { s with heap := h4, toks := tk4 + 1 + 1 }) (x := restS) (v := .int (.lit (k.fmod (96 ^ 24)))) (by rw [hc]; kernel_rfl) (.int (.lit (k.fmod (96 ^ 24))) _) p4 fun W5 hl5 m5 h5 tk5 hw5 p5 => ?_
  refine kont W5 hl5 m5 h5 tk5 (hw1.trans (hw2.trans (hw3.trans (hw4.trans hw5)))).i ?_
  exact p5.locs locC_R
end
end
section
open PySem PySem.W PySem.Calls PyProof.Rows
theorem fmod_lt24 (k : Int) : 0 ≤ k.fmod (96 ^ 24) ∧ k.fmod (96 ^ 24) < 96 ^ 24 := ⟨Int.fmod_nonneg_of_pos _ (by decide +kernel), Int.fmod_lt_of_pos _ (by decide +kernel)⟩
theorem fdiv_lt24 {r : Int} (h0 : 0 ≤ r) (h : r < 96 ^ 24) : 0 ≤ r.fdiv 96 ∧ r.fdiv 96 < 96 ^ 24 := by
  rw [Int.fdiv_eq_ediv_of_nonneg _ (by decide)]
  generalize (96 : Int) ^ 24 = B at h
  omega
section
variable {prog : Program} {w : World} {ε : Eps} {F : Facts} {n : Nat} {c : Cx} {W : Wd} {σ : AS} {hl kp : Led} {m : Str → Option Value} {s : Shared}
/-- one turn of the figures -/
theorem fg_turn {v : Value} {k : Int} {is : List Int} {i : Nat} {p6 p7 p8 p9 q1 q2 q3 q4 q5 d1 d2 d3 wd1 wd2 wd3 wp bp bip : Pos} {a2 w2 : Stmt} {wt bt : Expr} {Q : Flow → Shared → Prop} (hc : c.cs = fSc)
    (z3 : ∀ v, blkS {} 60 fSc [a2] selF [] xsR' ⟨locR' v (.sym 2), [(17, .list none [.sq 61])], 40⟩ = some (locR' v (.sym 2), [(17, .list none [.sq 61, .int (.mod (.sym 2) (.lit 96))])]))
    (z4 : ∀ v, blkS {} 60 fSc [w2] selF [] xsR' ⟨locR' v (.sym 2), [(17, .list none [.sq 61])], 40⟩ = some (locR' v (.sym 2), [(17, .list none [.sq 61, .int (.mod (.sym 2) (.lit 96))])]))
    (z5 : ∀ v b, runT (xRun { less := [(.lit 0, .sym 2, b)] } 59) fSc wt ⟨locR' v (.sym 2), [(17, .list none [.sq 61])], 40⟩ = some (b, ⟨locR' v (.sym 2), [(17, .list none [.sq 61])], 40⟩))
    (z6 : ∀ v b, runT (xRun { less := [(.slen 61 0, .lit 15, b)] } 59) fSc bt ⟨locR' v (.sym 2), [(17, .list none [.sq 61])], 40⟩ = some (!b, ⟨locR' v (.sym 2), [(17, .list none [.sq 61])], 40⟩))
    (hi : i < 15) (hlen : is.length ≤ 25 * i)
    (p : Pre prog w ε {} 60 c W ⟨locF v ++ [g1 "cell" (.int (.lit k))], [(17, .list none (fgV is))], 40⟩ hl kp s.heap m)
    (nxt : ∀ W' hl' m' h' tk' is', ImLe W W' → is'.length ≤ 25 * (i + 1) → Pre prog w ε {} 60 c W' ⟨locF v, [(17, .list none (fgV is'))], 40⟩ hl' kp h' m' → Q .next { s with heap := h', toks := tk' } ∧ Q .brk { s with heap := h', toks := tk' }) :
    wpAny (model prog w) c.A (execs [.Assign [.Name restS p6] (.BinOp (.Call (.Name (Str.ofString "int") p7) [.Name cellS p8] [] p9) .Mod (.BinOp (.Constant (.int 96) 0 q1) .Pow (.Constant (.int 24) 0 q2) q3) q4) q5, a2, .AugAssign (.Name restS d1) .FloorDiv (.Constant (.int 96) 0 d2) d3,
        .While wt [w2, .AugAssign (.Name restS wd1) .FloorDiv (.Constant (.int 96) 0 wd2) wd3] [] wp, .If bt [.Break bp] [] bip] c.env) Q (fun _ _ => False) s := by
  (refine ex0_2 (fmod_lt24 k) ?_; rintro r0 r1)
  generalize hr : k.fmod (96 ^ 24) = r at r0 r1
  refine fg_rest hc p fun W1 hl1 m1 h1 tk1 hw1 p1 => ?_
  rw [hr] at p1
  refine fg_app (s := { s with heap := h1, toks := tk1 }) hc (by omega) z3 p1 fun W2 hl2 m2 h2 tk2 hw2 p2 => ?_
  refine wpAny_execs_cons (fg_div (s := { s with heap := h2, toks := tk2 }) hc p2 fun W3 hl3 m3 h3 tk3 hw3 p3 => ?_)
  (refine ex0_2 (fdiv_lt24 r0 r1) ?_; rintro e0 e1)
  have hl1' : (is ++ [r.fmod 96]).length = is.length + 1 := by simp
  refine wpAny_execs_cons (fg_while (s := { s with heap := h3, toks := tk3 }) (k0 := 24) (B := 25 * (i + 1)) hc z4 z5 (by omega) e0 e1 (by rw [hl1']; omega) p3 fun W4 hl4 m4 h4 tk4 r' is' hw4 hB p4 => ?_)
  have hi' : is'.length ≤ 900 := by omega
  have es : fgSt v r' is' = AS.sub (ε.put [(2, r')] [(61, fgV is')] [] (sqF hi') .nil) ⟨locR' v (.sym 2), [(17, .list none [.sq 61])], 40⟩ := by
    show AS.mk (locR' v (.lit r')) [(17, .list none (fgV is'))] 40 = AS.mk (locR' v (.lit r')) [(17, .list none (fgV is' ++ []))] 40
    rw [List.append_nil]
  have fk : FOk w (ε.put [(2, r')] [(61, fgV is')] [] (sqF hi') .nil) { less := [(.slen 61 0, .lit 15, decide ((((fgV is').length + 0 : Nat) : Int) < 15))] } W4 := by
    refine ⟨fun x y b hm => ?_, fun _ _ h => (nomatch h), fun _ _ _ h => (nomatch h), fun _ _ _ h => (nomatch h)⟩
    rw [List.mem_singleton] at hm
    cases hm
    rfl
  have S := snd_run prog w (ε.put [(2, r')] [(61, fgV is')] [] (sqF hi') .nil) { less := [(.slen 61 0, .lit 15, decide ((((fgV is').length + 0 : Nat) : Int) < 15))] } 59
  have hle : ImLe W W4 := fun z hz => hw4 _ (hw3 _ (hw2 _ (hw1 _ hz)))
  refine wpAny_execs_cons (wpAny_If (S.rT (s := { s with heap := h4, toks := tk4 }) (z6 v _) hc (Pre.opn put_eq fk es p4) fun W5 hl5 m5 h5 tk5 hw5 p5 => ?_))
  have p5' : Pre prog w ε {} 60 c W5 (fgSt v r' is') hl5 kp h5 m5 := by rw [es]; exact p5.close put_eq fok0
  (refine ex0_2 (nxt W5 hl5 m5 h5 tk5 is' (fun z hz => hw5.ims _ (hle _ hz)) hB (p5'.locs locR_F)) ?_; rintro k1 k2)
  generalize decide ((((fgV is').length + 0 : Nat) : Int) < 15) = b
  cases b
  · exact wpAny_execs_cons (wpAny_Break k2)
  · exact wpAny_execs_nil (wpAny_execs_nil k1)
end
end
section
open PySem PySem.W PySem.Calls PyProof.Rows
theorem pick_len (vs : List Value) : (kms_pick vs none (some 15)).length ≤ 15 := by
  unfold kms_pick
  have h2 : kms_hi (some 15) vs.length = min 15 vs.length := by simp [kms_hi]
  rw [h2]
  simp
  omega
theorem pick_sub {vs : List Value} {x : Value} (h : x ∈ kms_pick vs none (some 15)) : x ∈ vs := List.mem_of_mem_drop (List.mem_of_mem_take h)
section
variable {prog : Program} {w : World} {ε : Eps} {F : Facts} {n : Nat} {c : Cx} {W : Wd} {σ : AS} {hl kp : Led} {m : Str → Option Value} {s : Shared}
/-- the loop of the figures -/
theorem fg_for {l : Addr} {vs : List Value} {ns : List Int} {p1 p2 p3 p4 p5 p6 p7 p8 p9 q1 q2 q3 q4 q5 d1 d2 d3 wd1 wd2 wd3 wp bp bip fp : Pos} {a2 w2 : Stmt} {wt bt : Expr} {Q : Flow → Shared → Prop} (hc : c.cs = fSc)
    (z3 : ∀ v, blkS {} 60 fSc [a2] selF [] xsR' ⟨locR' v (.sym 2), [(17, .list none [.sq 61])], 40⟩ = some (locR' v (.sym 2), [(17, .list none [.sq 61, .int (.mod (.sym 2) (.lit 96))])]))
    (z4 : ∀ v, blkS {} 60 fSc [w2] selF [] xsR' ⟨locR' v (.sym 2), [(17, .list none [.sq 61])], 40⟩ = some (locR' v (.sym 2), [(17, .list none [.sq 61, .int (.mod (.sym 2) (.lit 96))])]))
    (z5 : ∀ v b, runT (xRun { less := [(.lit 0, .sym 2, b)] } 59) fSc wt ⟨locR' v (.sym 2), [(17, .list none [.sq 61])], 40⟩ = some (b, ⟨locR' v (.sym 2), [(17, .list none [.sq 61])], 40⟩))
    (z6 : ∀ v b, runT (xRun { less := [(.slen 61 0, .lit 15, b)] } 59) fSc bt ⟨locR' v (.sym 2), [(17, .list none [.sq 61])], 40⟩ = some (!b, ⟨locR' v (.sym 2), [(17, .list none [.sq 61])], 40⟩))
    (hL : c.h₀.IsList l vs.toArray) (hI : IntsAre vs ns) (hn : ns.length ≤ 63)
    (p : Pre prog w ε {} 60 c W ⟨locF (.ref l), [(17, .list none (fgV []))], 40⟩ hl kp s.heap m)
    (fin : ∀ W' hl' m' h' tk' is, ImLe W W' → is.length ≤ 375 → Pre prog w ε {} 60 c W' ⟨locF (.ref l), [(17, .list none (fgV is))], 40⟩ hl' kp h' m' → Q .next { s with heap := h', toks := tk' }) :
    wpAny (model prog w) c.A (exec (.For (.Name cellS p1) (.Subscript (.Name scS p2) (.Slice none (some (.Name waS p3)) none p4) p5)
      [.Assign [.Name restS p6] (.BinOp (.Call (.Name (Str.ofString "int") p7) [.Name cellS p8] [] p9) .Mod (.BinOp (.Constant (.int 96) 0 q1) .Pow (.Constant (.int 24) 0 q2) q3) q4) q5, a2, .AugAssign (.Name restS d1) .FloorDiv (.Constant (.int 96) 0 d2) d3,
        .While wt [w2, .AugAssign (.Name restS wd1) .FloorDiv (.Constant (.int 96) 0 wd2) wd3] [] wp, .If bt [.Break bp] [] bip] [] fp) c.env) Q (fun _ _ => False) s := by
  refine For_turns p.st.fr (Subscript_ (name_snd (v := .stat (.ref l)) hc (by kernel_rfl) p fun W1 hl1 m1 h1 tk1 hw1 p1 u ru => ?_)) (fun _ => rfl) PassesOwn.never
  cases ru
  refine wpAny_Slice (wpAny_pure ?_)
  show wpAny (model prog w) c.A (eval (.Name waS p3) c.env) _ _ _
  refine name_snd (v := .int (.lit 15)) (s := { s with heap := h1, toks := tk1 }) hc (by kernel_rfl) p1 fun W2 hl2 m2 h2 tk2 hw2 p2 uh rh => ?_
  obtain ⟨th, rfl⟩ : ∃ t, uh = .int 15 t := by cases rh; exact ⟨_, rfl⟩
  refine wpAny_pure ?_
  have hvl : vs.length ≤ 63 := by rw [hI.length]; exact hn
  (refine ex1_3 (hL) ?_; rintro oL gL aL bL)
  refine kms_slice_lit (s := { s with heap := h2, toks := tk2 }) (zs := kms_pick vs none (some 15)) p2.st.fr p2.st.lg.nw ⟨oL, p2.st.fr.keep _ _ gL, aL, bL⟩ .none (.int 15 th) rfl (fun D hh F' N' lt => ?_) (by with_unfolding_all rfl) (fun _ => by with_unfolding_all rfl) (line_of (by show vs.length ≤ 1200000; omega))
  have p3 := p2.freeze F' N' lt
  have hle3 : ImLe W (W2.add D (listOf (kms_pick vs none (some 15)).toArray 0)) := ((hw1.trans hw2).trans (W2.add_le _ _)).i
  have hlen := pick_len vs
  refine loop_list (s := { s with heap := hh, toks := tk2 }) (im_kept (b := D) (o := listOf (kms_pick vs none (some 15)).toArray 0) p3 (.inl (.head _))) p3 (fun j ε' F' W' σ' => ε' = ε ∧ F' = {} ∧ ImLe W W' ∧ ∃ is, is.length ≤ 25 * j ∧ σ' = ⟨locF (.ref l), [(17, .list none (fgV is))], 40⟩) ⟨rfl, rfl, hle3, [], by simp, rfl⟩ ?_ ?_
  · rintro j v I ε' F' W' hl' σ' it m₁ h₁ tk₁ hv hw p' ⟨rfl, rfl, hle, is, hj, rfl⟩
    (refine ex2_1 (ints_mem hI v (pick_sub (List.mem_of_getElem? hv))) ?_; rintro k t rfl)
    have hj15 : j < 15 := by
      have := (List.getElem?_eq_some_iff.mp hv).1
      omega
    refine assign_Name (store_snd (s := { s with heap := h₁, toks := tk₁ }) (x := cellS) (v := .int (.lit k)) (by rw [hc]; kernel_rfl) (.int (.lit k) t) p' fun W3 hl3 m3 h3 tk3 hw3 p4 => ?_)
    refine fg_turn (s := { s with heap := h3, toks := tk3 }) (v := .ref l) (k := k) (is := is) (i := j) hc z3 z4 z5 z6 hj15 hj p4 fun W5 hl5 m5 h5 tk5 is' hw5 hl' p5 => ?_
    have i5 : ImLe W' W5 := fun z hz => hw5 _ (hw3.ims _ hz)
    exact ⟨⟨ε', {}, W5, hl5, _, m5, h5, tk5, rfl, i5, p5, rfl, rfl, hle.trans i5, is', hl', rfl⟩, fin W5 hl5 m5 h5 tk5 is' (hle.trans i5) (by omega) p5.drop⟩
  · rintro ε' F' W' hl' σ' m' h' tk' hw p' ⟨rfl, rfl, hle, is, hj, rfl⟩
    exact fin W' hl' m' h' tk' is hle (by omega) p'
end
end
section
open PySem PySem.W PySem.Calls PyProof.Rows
theorem pick_15 (vs : List Value) : kms_pick vs none (some 15) = vs.take 15 := by
  unfold kms_pick
  have h1 : kms_lo none vs.length = 0 := rfl
  have h2 : kms_hi (some 15) vs.length = min 15 vs.length := by simp [kms_hi]
  rw [h1, h2, List.drop_zero, Nat.sub_zero]
  rcases Nat.le_total 15 vs.length with h | h
  · rw [Nat.min_eq_left h]
  · rw [Nat.min_eq_right h, List.take_length, List.take_of_length_le h]
theorem Rl.append {K : Frag} {ε : Eps} {W : Wd} {a b : List AV} {u v : List Value} (h : Rl K ε W a u) (h2 : Rl K ε W b v) : Rl K ε W (a ++ b) (u ++ v) := by
  induction h with
  | nil => exact h2
  | cons r _ ih => exact .cons r ih
theorem Rl.take {K : Frag} {ε : Eps} {W : Wd} {a : List AV} {u : List Value} (h : Rl K ε W a u) : ∀ n, Rl K ε W (a.take n) (u.take n) := by
  induction h with
  | nil => intro n; rw [List.take_nil, List.take_nil]; exact .nil
  | cons r _ ih =>
    intro n
    cases n with
    | zero => exact .nil
    | succ n => exact .cons r (ih n)
theorem fgV_take : ∀ l n, (fgV l).take n = fgV (l.take n)
  | [], n => by simp [fgV]
  | i :: r, 0 => rfl
  | i :: r, n + 1 => by
    show AV.int (.lit i) :: (fgV r).take n = AV.int (.lit i) :: fgV (r.take n)
    rw [fgV_take r n]
theorem zeros_rl {K : Frag} {ε : Eps} {W : Wd} (t : Tok) : Rl K ε W (fgV (List.replicate 15 0)) (List.replicate 15 (Value.int 0 t)) := by
  have : ∀ n, Rl K ε W (fgV (List.replicate n 0)) (List.replicate n (Value.int 0 t)) := fun n => by
    induction n with
    | zero => exact .nil
    | succ n ih => exact .cons (.int (.lit 0) t) ih
  exact this 15
theorem fold_rep (x : Value) : ∀ (n : Nat) (a : List Value), List.foldl (fun x1 x2 => x1 ++ x2) a.toArray (List.replicate n #[x]) = (a ++ List.replicate n x).toArray
  | 0, a => by simp
  | n + 1, a => by
    have h := fold_rep x n (a ++ [x])
    have e : a.toArray ++ #[x] = (a ++ [x]).toArray := by simp
    rw [List.replicate_succ, List.foldl_cons, e, h, List.replicate_succ, List.append_assoc]
    rfl
theorem zeros_arr (x : Value) : List.foldl (fun x1 x2 => x1 ++ x2) #[] (List.replicate (if ([x].toArray).isEmpty = true then 0 else (15 : Int).toNat) [x].toArray) = (List.replicate 15 x).toArray := fold_rep x 15 []
section
variable {prog : Program} {w : World} {ε : Eps} {F : Facts} {n : Nat} {c : Cx} {W : Wd} {σ : AS} {hl kp : Led} {m : Str → Option Value} {s : Shared} {E : Value → Shared → Prop}
/-- the row that is handed back -/
theorem fg_ret {v : Value} {is : List Int} {q6 r1 r2 r3 r4 r5 r6 r7 r8 r9 : Pos} {Q : Flow → Shared → Prop} (hc : c.cs = fSc) (hi : is.length ≤ 375)
    (p : Pre prog w ε {} 60 c W ⟨locF v, [(17, .list none (fgV is))], 40⟩ hl kp s.heap m)
    (kont : ∀ W' σ' hl' m' h' tk' u figs, figs.length = 15 → ImLe W W' → R (Kw w) ε W' (.fl (fgV figs ++ [])) u → Pre prog w ε {} 60 c W' σ' hl' kp h' m' → Q (.ret u) { s with heap := h', toks := tk' }) :
    wpAny (model prog w) c.A (exec (.Return (some (.Subscript (.BinOp (.Name rowS r1) .Add (.BinOp (.List [.Constant (.int 0) 0 r2] r3) .Mult (.Name waS r4) r5) r6) (.Slice none (some (.Name waS r7)) none r8) r9)) q6) c.env) Q E s := by
  refine eval_ret (Subscript_ (wpAny_BinOp ?_))
  refine name_snd (v := .obj 17) hc (by kernel_rfl) p fun W1 hl1 m1 h1 tk1 hw1 p1 u ru => ?_
  (refine ex3_2 (p1.freezeL (l := 17) (vs := fgV is) (by rfl)) ?_; rintro tF lo hl2 p2 hz)
  have ruF := hz (W1.add tF lo) (.refl _) u ru
  have hle2 : W.Le (W1.add tF lo) := hw1.trans (W1.add_le tF lo)
  have p2' : Pre prog w ε {} 60 c (W1.add tF lo) ⟨locF v, [], 40⟩ hl2 kp h1 m1 := p2
  generalize W1.add tF lo = W2 at ruF p2' hle2
  clear p2 hz
  refine wpAny_BinOp ?_
  have S := snd_run prog w ε {} 59
  refine S.rE (s := { s with heap := h1, toks := tk1 }) (v := .obj 40) (σ' := ⟨locF v, [(40, .list none [.int (.lit 0)])], 41⟩) (by kernel_rfl) hc p2' fun W3 hl3 m3 h3 tk3 hw3 p3 u3 ru3 => ?_
  (refine ex3_2 (p3.freezeL (l := 40) (vs := [.int (.lit 0)]) (by rfl)) ?_; rintro tG lo4 hl4 p4 hz4)
  have ru4 := hz4 (W3.add tG lo4) (.refl _) u3 ru3
  have hle4 : W2.Le (W3.add tG lo4) := hw3.trans (W3.add_le tG lo4)
  generalize W3.add tG lo4 = W4 at ru4 p4 hle4
  clear hz4
  refine name_snd (v := .int (.lit 15)) (s := { s with heap := h3, toks := tk3 }) hc (by kernel_rfl) p4 fun W5 hl5 m5 h5 tk5 hw5 p5 uh rh => ?_
  obtain ⟨th, rfl⟩ : ∃ t, uh = .int 15 t := by cases rh; exact ⟨_, rfl⟩
  cases ru4 with
  | @fl _ us4 t4 kk4 i4 rs4 =>
    (refine ex1_2 ((rs4.rl rfl).one) ?_; rintro x4 rfl rx4)
    obtain ⟨tx, rfl⟩ : ∃ t, x4 = .int 0 t := by cases rx4; exact ⟨_, rfl⟩
    refine mul_list (s := { s with heap := h5, toks := tk5 }) p5.st.fr p5.st.lg.nw (p5.im (i4.imp (fun z => hw5.ims _ z) id)) (by decide) (by decide) (by show 1 * 15 ≤ 2 ^ 24; decide) (fun h6 F6 N6 => ?_)
    rw [zeros_arr] at N6
    have p6 := p5.freeze (o := listOf (List.replicate 15 (Value.int 0 tx)).toArray 0) F6 N6 fun q hq => Heap.lt_size (p5.st.lg.nw q hq).1
    have hle6 : W5.Le (W5.add h5.objs.size (listOf (List.replicate 15 (Value.int 0 tx)).toArray 0)) := W5.add_le _ _
    have i6 : (W5.add h5.objs.size (listOf (List.replicate 15 (Value.int 0 tx)).toArray 0)).im (Kw w) h5.objs.size (listOf (List.replicate 15 (Value.int 0 tx)).toArray 0) := .inl (.head _)
    generalize W5.add h5.objs.size (listOf (List.replicate 15 (Value.int 0 tx)).toArray 0) = W6 at p6 hle6 i6
    cases ruF with
    | @fl _ us tA kk iA rsA =>
      have rlA : Rl (Kw w) ε W2 (fgV is) us := rsA.rl (AV.cloL_plain (fgV_clo _))
      have hul : us.length ≤ 375 := by rw [rlA.len, fgV_len]; exact hi
      have hle26 : W2.Le W6 := (hle4.trans hw5).trans hle6
      have iA6 : W6.im (Kw w) tA (listOf us.toArray kk) := iA.imp (fun z => hle26.ims _ z) id
      refine add_arrays (s := { s with heap := h6, toks := tk5 }) (its := us.toArray) (its2 := (List.replicate 15 (Value.int 0 tx)).toArray) p6.st.fr p6.st.lg.nw ⟨_, p6.im iA6, rfl, _, rfl⟩ ⟨_, p6.im i6, rfl, _, rfl⟩ (fun h7 F7 N7 => ?_) (by rw [sizeLine_eq, List.size_toArray, List.size_toArray, List.length_replicate]; omega)
      have p7 := p6.freeze (o := listOf (us ++ List.replicate 15 (Value.int 0 tx)).toArray 0) F7 N7 fun q hq => Heap.lt_size (p6.st.lg.nw q hq).1
      have hle7 : W6.Le (W6.add h6.objs.size (listOf (us ++ List.replicate 15 (Value.int 0 tx)).toArray 0)) := W6.add_le _ _
      have i7 : (W6.add h6.objs.size (listOf (us ++ List.replicate 15 (Value.int 0 tx)).toArray 0)).im (Kw w) h6.objs.size (listOf (us ++ List.replicate 15 (Value.int 0 tx)).toArray 0) := .inl (.head _)
      have rl7 : Rl (Kw w) ε (W6.add h6.objs.size (listOf (us ++ List.replicate 15 (Value.int 0 tx)).toArray 0)) (fgV (is ++ List.replicate 15 0)) (us ++ List.replicate 15 (Value.int 0 tx)) := by
        rw [fgV_app]
        exact ((rlA.mono hle26).mono hle7).append (zeros_rl tx)
      generalize W6.add h6.objs.size (listOf (us ++ List.replicate 15 (Value.int 0 tx)).toArray 0) = W7 at p7 hle7 i7 rl7
      refine wpAny_Slice (wpAny_pure ?_)
      show wpAny (model prog w) c.A (eval (.Name waS r7) c.env) _ _ _
      refine name_snd (v := .int (.lit 15)) (s := { s with heap := h7, toks := tk5 }) hc (by kernel_rfl) p7 fun W8 hl8 m8 h8 tk8 hw8 p8 ue re => ?_
      obtain ⟨te, rfl⟩ : ∃ t, ue = .int 15 t := by cases re; exact ⟨_, rfl⟩
      refine wpAny_pure (kba_turn (value' := .Name rowS r1) (fun _ => rfl) ?_)
      refine kms_slice_lit (s := { s with heap := h8, toks := tk8 }) (its := (us ++ List.replicate 15 (Value.int 0 tx)).toArray) (zs := (us ++ List.replicate 15 (Value.int 0 tx)).take 15) p8.st.fr p8.st.lg.nw ⟨_, p8.im (i7.imp (fun z => hw8.ims _ z) id), rfl, _, rfl⟩ .none (.int 15 te) (pick_15 _) (fun D hh F' N' lt => ?_) (by with_unfolding_all rfl) (fun _ => by with_unfolding_all rfl) (line_of (by show (us ++ List.replicate 15 (Value.int 0 tx)).length ≤ 1200000; simp; omega))
      have p9 := p8.freeze F' N' lt
      have hw9 := W8.add_le D (listOf ((us ++ List.replicate 15 (Value.int 0 tx)).take 15).toArray 0)
      refine kont _ _ _ _ hh tk8 (.ref D) ((is ++ List.replicate 15 0).take 15) (by simp) ?_ ?_ p9
      · exact ((((hle2.trans hle26).trans hle7).trans hw8).trans hw9).i
      · refine .fl (n := 0) (.inl (.head _)) ?_
        rw [List.append_nil, ← fgV_take]
        exact (((rl7.mono hw8).mono hw9).take 15).rs
end
end
section
open PySem PySem.W PySem.Calls PyProof.Rows
theorem law_zero : ∃ pa pb pc pd pe pf, lwB 0 1 = [.Assign [.Name (Str.ofString "figures") pa] (.Call (.Name fgS pb) [.Name scS pc, .Constant (.int 15) 0 pd] [] pe) pf] := mk6_1 _ _ _ _ _ _ rfl
section
variable {prog : Program} {w : World} {ε : Eps} {F : Facts} {n : Nat} {c : Cx} {W : Wd} {σ : AS} {hl kp : Led} {m : Str → Option Value} {s : Shared} {E : Value → Shared → Prop}
/-- the function of the figures -/
theorem fig_call {l : Addr} {vs : List Value} {ns : List Int} {u2 : Value} {Rr : Result → Shared → Prop} (hn : 60 ≤ n) (hL : c.h₀.IsList l vs.toArray) (hI : IntsAre vs ns) (hlen : ns.length ≤ 63)
    (p : Pre prog w ε {} (n + 1) c W ⟨σ.loc, [], 40⟩ hl kp s.heap m) (r2 : R (Kw w) ε W (.int (.lit 15)) u2)
    (k : ∀ W' h' tk' u figs, figs.length = 15 → R (Kw w) ε W' (.fl (fgV figs ++ [])) u → Pre prog w ε {} (n + 1) c W' ⟨[], [], 40⟩ [] kp h' m → Rr (.ok (.ret u)) { s with heap := h', toks := tk' }) :
    codeAny (model prog w) c.A (.call (.ref 528) ⟨[.ref l, u2], []⟩) Rr s := by
  refine fig_enter p r2 fun c' h₁ tk₁ m₁ hcs hkeep p' => ?_
  obtain ⟨s1, p1, p2, p3, p4, p5, p6, p7, p8, p9, q1, q2, q3, q4, q5, q6, a2, d1, d2, d3, d4, wt, w2, wd1, wd2, wd3, wd4, wp, bt, bp, bip, fp, r1, r2', r3, r4, r5, r6, r7, r8, r9, eb, _, _, z1, z3, z4, z5, z6⟩ := fig_body
  rw [eb]
  have hL' : c'.h₀.IsList l vs.toArray := by
    (refine ex1_3 (hL) ?_; rintro o g a b)
    exact mk1_3 o (hkeep _ _ g) a b
  refine blk_sim (s := { s with heap := h₁, toks := tk₁ }) (body := [s1]) (z1 (.ref l)) rfl hcs (put_eq (ε := ε) (is := []) (sq := []) (pv := []) (hs := .nil) (hp := .nil)) fok0 rfl (p'.le hn) fun W2 hl2 m2 h2 tk2 hw2 p2 => ?_
  refine wpAny_execs_cons (fg_for (s := { s with heap := h2, toks := tk2 }) hcs z3 z4 z5 z6 hL' hI hlen p2 fun W3 hl3 m3 h3 tk3 is hw3 hi p3 => ?_)
  refine wpAny_execs_cons (fg_ret (s := { s with heap := h3, toks := tk3 }) hcs hi p3 fun W4 σ4 hl4 m4 h4 tk4 u figs hf hw4 ru p4 => ?_)
  refine ⟨u, W4, hl4, σ4, m4, h4, tk4, rfl, rfl, p4.up p'.ok, fun fin => ?_⟩
  have p5 := fin [] fun x v e => by exact nos e
  (refine ex0_2 (p5.bare (W := wd0) ⟨fun _ _ e => (nomatch e), fun _ z => (nomatch z)⟩ (fun _ _ e => by cases e)) ?_; rintro p6 _)
  exact k _ h4 tk4 u figs hf (R.lf (W := W4) (W' := ⟨wd0.ρ, W4.ims⟩) (by
    have e : AV.labsL (fun _ => false) (fgV figs ++ []) = true := by rw [List.append_nil]; exact fgV_lf _
    simp only [AV.labs, e]) (fun _ z => z) ru) p6
end
theorem law_says : LawSays := by
  intro prog w s c l vs ns cell hc hcl _ p hL hI hlen hd
  (refine ex2_3 (law_after (prog := prog) (figs := List.replicate 15 0) p.ok hc hcl (by simp) hd s) ?_; rintro b0 bM q0 qb _)
  (refine ex6_1 (law_zero) ?_; rintro pa pb pc pd pe pf e0)
  have hb : b0 = [.Assign [.Name (Str.ofString "figures") pa] (.Call (.Name fgS pb) [.Name scS pc, .Constant (.int 15) 0 pd] [] pe) pf] := q0.symm.trans e0
  have ok := p.ok
  have K : ∀ (figs : List Int), figs.length = 15 → ∀ (W : Wd) (hl : Led) (h0 : Heap) (tk0 : Nat) (m : Str → Option Value) (ε : Eps), Pre prog w ε {} 60 c W ⟨[g1 "figures" (.fl (fgV figs ++ []))], [], 40⟩ hl [(c.L + 1, cell)] h0 m → wpAny (model prog w) c.A (execs bM c.env) (LawEnd c s) (fun _ _ => False) { s with heap := h0, toks := tk0 } := by
    intro figs hf
    (refine ex2_3 (law_after (prog := prog) (figs := figs) ok hc hcl hf hd s) ?_; rintro b0' bM' q0' qb' k)
    have e1 : b0' = b0 := q0'.symm.trans q0
    rw [e1, qb] at qb'
    have e2 := List.append_cancel_left qb'
    rw [e2]
    exact k
  rw [qb, hb]
  have pb0 := (p.bare (W := wd0) ⟨fun _ _ e => (nomatch e), fun _ z => (nomatch z)⟩ (fun _ _ e => by exact nos e)).1
  have p1 := pb0.reloc (loc := [g1 "script" (.stat (.ref l))]) fun x v e => by
    have hx : x = Str.ofString "script" ∧ v = .stat (.ref l) := by
      unfold look g1 at e
      split at e
      · rename_i q; (refine som1 e ?_; rintro rfl); exact ⟨(sB_eq q).symm, rfl⟩
      · exact nos e
    (refine ex0_2 (hx) ?_; rintro rfl rfl)
    exact mk1_2 (.ref l) (if_pos rfl) (.stat _)
  refine wpAny_execs_cons (wpAny_Assign_Name ?_ (notComp rfl _ _ _))
  show wpAny (model prog w) c.A (do callWith pe (← eval (.Name fgS pb) c.env) [] (backTo pe (starEach [.Name scS pc, .Constant (.int 15) 0 pd] c.env)) (backToKw pe (keywordEach [] c.env))) _ _ _
  have S := snd_run prog w eps0 {} 99
  refine wpAny_bind (S.rE (v := .stat (.ref 528)) (σ' := ⟨[g1 "script" (.stat (.ref l))], [], 40⟩) (by kernel_rfl) hc p1 fun W1 hl1 m1 h1 tk1 hw1 p2 u0 r0 => ?_)
  cases r0
  refine callWith_list (s := { s with heap := h1, toks := tk1 }) (P := fun h => (Kw w).In h) rfl (keeps_K (fnF w.params).2.2.1) ?_
  rw [starEach_cons rfl]
  show wpAny (model prog w) c.A (spliced ((false, eval (.Name scS pc) c.env) :: backTo pe (starEach _ c.env))) _ _ _
  refine spliced_cons (S.rE (s := { s with heap := h1, toks := tk1 }) (v := .stat (.ref l)) (σ' := ⟨[g1 "script" (.stat (.ref l))], [], 40⟩) (by kernel_rfl) hc p2 fun W2 hl2 m2 h2 tk2 hw2 p3 u1 r1 => ?_)
  cases r1
  rw [starEach_cons rfl]
  show wpAny (model prog w) c.A (spliced ((false, eval (.Constant (.int 15) 0 pd) c.env) :: backTo pe (starEach [] c.env))) _ _ _
  refine spliced_cons (S.rE (s := { s with heap := h2, toks := tk2 }) (v := .int (.lit 15)) (σ' := ⟨[g1 "script" (.stat (.ref l))], [], 40⟩) (by kernel_rfl) hc p3 fun W3 hl3 m3 h3 tk3 hw3 p4 u2 r2 => ?_)
  refine spliced_nil ⟨p4.kin, ?_⟩
  refine wpAny_call (fig_call (s := { s with heap := h3, toks := tk3 }) (σ := ⟨[g1 "script" (.stat (.ref l))], [], 40⟩) (by omega) hL hI hlen p4 r2 fun W4 h4 tk4 u figs hf ru p5 => ?_)
  refine store_snd (s := { s with heap := h4, toks := tk4 }) (x := Str.ofString "figures") (v := .fl (fgV figs ++ [])) (by rw [hc]; kernel_rfl) ru p5 fun W5 hl5 m5 h5 tk5 hw5 p6 => ?_
  exact K figs hf W5 hl5 h5 tk5 m5 eps0 (p6.le (by omega))
theorem law_holds : PySem.Challenge.rw_sa0156_01.Holds := hold law_says
end
end Mine
theorem PySem.Challenge.cw_sa0156_01_holds : PySem.Challenge.rw_sa0156_01.Holds :=
  Mine.law_holds
