import PyProof.Rows.All
import Wide.All
import OpenK.AllK
import Wide.FinOn
import PySem.Challenge.RW_xm0178_01
set_option Elab.async false
set_option bootstrap.genMatcherCode false
set_option genSizeOfSpec false
set_option genInjectivity false
namespace Mini
local macro_rules
  | `(tactic| k_qdec) => `(tactic| decide +kernel)
section
section
variable {α β γ δ : Type} {P : Prop}
theorem ea_0_2 {C0 C1 : Prop} {P : Prop} (h : C0 ∧ C1) (k : C0 → C1 → P) : P := k h.1 h.2
theorem ea_1_1 {A0 : Sort _} {C0 : A0 → Prop} {P : Prop} (h : ∃ a0, C0 a0) (k : ∀ a0, C0 a0 → P) : P := h.elim fun a0 h => k a0 h
theorem ea_0_3 {C0 C1 C2 : Prop} {P : Prop} (h : C0 ∧ C1 ∧ C2) (k : C0 → C1 → C2 → P) : P := k h.1 h.2.1 h.2.2
theorem ea_1_2 {A0 : Sort _} {C0 C1 : A0 → Prop} {P : Prop} (h : ∃ a0, C0 a0 ∧ C1 a0) (k : ∀ a0, C0 a0 → C1 a0 → P) : P := h.elim fun a0 h => k a0 h.1 h.2
theorem ea_2_1 {A0 : Sort _} {A1 : Sort _} {C0 : A0 → A1 → Prop} {P : Prop} (h : ∃ a0, ∃ a1, C0 a0 a1) (k : ∀ a0, ∀ a1, C0 a0 a1 → P) : P := h.elim fun a0 h => h.elim fun a1 h => k a0 a1 h
theorem ea_0_4 {C0 C1 C2 C3 : Prop} {P : Prop} (h : C0 ∧ C1 ∧ C2 ∧ C3) (k : C0 → C1 → C2 → C3 → P) : P := k h.1 h.2.1 h.2.2.1 h.2.2.2
theorem ea_1_3 {A0 : Sort _} {C0 C1 C2 : A0 → Prop} {P : Prop} (h : ∃ a0, C0 a0 ∧ C1 a0 ∧ C2 a0) (k : ∀ a0, C0 a0 → C1 a0 → C2 a0 → P) : P := h.elim fun a0 h => k a0 h.1 h.2.1 h.2.2
theorem ea_2_2 {A0 : Sort _} {A1 : Sort _} {C0 C1 : A0 → A1 → Prop} {P : Prop} (h : ∃ a0, ∃ a1, C0 a0 a1 ∧ C1 a0 a1) (k : ∀ a0, ∀ a1, C0 a0 a1 → C1 a0 a1 → P) : P := h.elim fun a0 h => h.elim fun a1 h => k a0 a1 h.1 h.2
theorem ea_3_1 {A0 : Sort _} {A1 : Sort _} {A2 : Sort _} {C0 : A0 → A1 → A2 → Prop} {P : Prop} (h : ∃ a0, ∃ a1, ∃ a2, C0 a0 a1 a2) (k : ∀ a0, ∀ a1, ∀ a2, C0 a0 a1 a2 → P) : P := h.elim fun a0 h => h.elim fun a1 h => h.elim fun a2 h => k a0 a1 a2 h
theorem ea_0_5 {C0 C1 C2 C3 C4 : Prop} {P : Prop} (h : C0 ∧ C1 ∧ C2 ∧ C3 ∧ C4) (k : C0 → C1 → C2 → C3 → C4 → P) : P := k h.1 h.2.1 h.2.2.1 h.2.2.2.1 h.2.2.2.2
theorem ea_1_4 {A0 : Sort _} {C0 C1 C2 C3 : A0 → Prop} {P : Prop} (h : ∃ a0, C0 a0 ∧ C1 a0 ∧ C2 a0 ∧ C3 a0) (k : ∀ a0, C0 a0 → C1 a0 → C2 a0 → C3 a0 → P) : P := h.elim fun a0 h => k a0 h.1 h.2.1 h.2.2.1 h.2.2.2
theorem ea_2_3 {A0 : Sort _} {A1 : Sort _} {C0 C1 C2 : A0 → A1 → Prop} {P : Prop} (h : ∃ a0, ∃ a1, C0 a0 a1 ∧ C1 a0 a1 ∧ C2 a0 a1) (k : ∀ a0, ∀ a1, C0 a0 a1 → C1 a0 a1 → C2 a0 a1 → P) : P := h.elim fun a0 h => h.elim fun a1 h => k a0 a1 h.1 h.2.1 h.2.2
theorem ea_3_2 {A0 : Sort _} {A1 : Sort _} {A2 : Sort _} {C0 C1 : A0 → A1 → A2 → Prop} {P : Prop} (h : ∃ a0, ∃ a1, ∃ a2, C0 a0 a1 a2 ∧ C1 a0 a1 a2) (k : ∀ a0, ∀ a1, ∀ a2, C0 a0 a1 a2 → C1 a0 a1 a2 → P) : P := h.elim fun a0 h => h.elim fun a1 h => h.elim fun a2 h => k a0 a1 a2 h.1 h.2
theorem ea_4_1 {A0 : Sort _} {A1 : Sort _} {A2 : Sort _} {A3 : Sort _} {C0 : A0 → A1 → A2 → A3 → Prop} {P : Prop} (h : ∃ a0, ∃ a1, ∃ a2, ∃ a3, C0 a0 a1 a2 a3) (k : ∀ a0, ∀ a1, ∀ a2, ∀ a3, C0 a0 a1 a2 a3 → P) : P := h.elim fun a0 h => h.elim fun a1 h => h.elim fun a2 h => h.elim fun a3 h => k a0 a1 a2 a3 h
theorem ea_0_6 {C0 C1 C2 C3 C4 C5 : Prop} {P : Prop} (h : C0 ∧ C1 ∧ C2 ∧ C3 ∧ C4 ∧ C5) (k : C0 → C1 → C2 → C3 → C4 → C5 → P) : P := k h.1 h.2.1 h.2.2.1 h.2.2.2.1 h.2.2.2.2.1 h.2.2.2.2.2
theorem ea_1_5 {A0 : Sort _} {C0 C1 C2 C3 C4 : A0 → Prop} {P : Prop} (h : ∃ a0, C0 a0 ∧ C1 a0 ∧ C2 a0 ∧ C3 a0 ∧ C4 a0) (k : ∀ a0, C0 a0 → C1 a0 → C2 a0 → C3 a0 → C4 a0 → P) : P := h.elim fun a0 h => k a0 h.1 h.2.1 h.2.2.1 h.2.2.2.1 h.2.2.2.2
theorem ea_2_4 {A0 : Sort _} {A1 : Sort _} {C0 C1 C2 C3 : A0 → A1 → Prop} {P : Prop} (h : ∃ a0, ∃ a1, C0 a0 a1 ∧ C1 a0 a1 ∧ C2 a0 a1 ∧ C3 a0 a1) (k : ∀ a0, ∀ a1, C0 a0 a1 → C1 a0 a1 → C2 a0 a1 → C3 a0 a1 → P) : P := h.elim fun a0 h => h.elim fun a1 h => k a0 a1 h.1 h.2.1 h.2.2.1 h.2.2.2
theorem ea_3_3 {A0 : Sort _} {A1 : Sort _} {A2 : Sort _} {C0 C1 C2 : A0 → A1 → A2 → Prop} {P : Prop} (h : ∃ a0, ∃ a1, ∃ a2, C0 a0 a1 a2 ∧ C1 a0 a1 a2 ∧ C2 a0 a1 a2) (k : ∀ a0, ∀ a1, ∀ a2, C0 a0 a1 a2 → C1 a0 a1 a2 → C2 a0 a1 a2 → P) : P := h.elim fun a0 h => h.elim fun a1 h => h.elim fun a2 h => k a0 a1 a2 h.1 h.2.1 h.2.2
theorem ea_4_2 {A0 : Sort _} {A1 : Sort _} {A2 : Sort _} {A3 : Sort _} {C0 C1 : A0 → A1 → A2 → A3 → Prop} {P : Prop} (h : ∃ a0, ∃ a1, ∃ a2, ∃ a3, C0 a0 a1 a2 a3 ∧ C1 a0 a1 a2 a3) (k : ∀ a0, ∀ a1, ∀ a2, ∀ a3, C0 a0 a1 a2 a3 → C1 a0 a1 a2 a3 → P) : P := h.elim fun a0 h => h.elim fun a1 h => h.elim fun a2 h => h.elim fun a3 h => k a0 a1 a2 a3 h.1 h.2
theorem ea_5_1 {A0 : Sort _} {A1 : Sort _} {A2 : Sort _} {A3 : Sort _} {A4 : Sort _} {C0 : A0 → A1 → A2 → A3 → A4 → Prop} {P : Prop} (h : ∃ a0, ∃ a1, ∃ a2, ∃ a3, ∃ a4, C0 a0 a1 a2 a3 a4) (k : ∀ a0, ∀ a1, ∀ a2, ∀ a3, ∀ a4, C0 a0 a1 a2 a3 a4 → P) : P := h.elim fun a0 h => h.elim fun a1 h => h.elim fun a2 h => h.elim fun a3 h => h.elim fun a4 h => k a0 a1 a2 a3 a4 h
theorem ea_0_7 {C0 C1 C2 C3 C4 C5 C6 : Prop} {P : Prop} (h : C0 ∧ C1 ∧ C2 ∧ C3 ∧ C4 ∧ C5 ∧ C6) (k : C0 → C1 → C2 → C3 → C4 → C5 → C6 → P) : P := k h.1 h.2.1 h.2.2.1 h.2.2.2.1 h.2.2.2.2.1 h.2.2.2.2.2.1 h.2.2.2.2.2.2
theorem ea_1_6 {A0 : Sort _} {C0 C1 C2 C3 C4 C5 : A0 → Prop} {P : Prop} (h : ∃ a0, C0 a0 ∧ C1 a0 ∧ C2 a0 ∧ C3 a0 ∧ C4 a0 ∧ C5 a0) (k : ∀ a0, C0 a0 → C1 a0 → C2 a0 → C3 a0 → C4 a0 → C5 a0 → P) : P := h.elim fun a0 h => k a0 h.1 h.2.1 h.2.2.1 h.2.2.2.1 h.2.2.2.2.1 h.2.2.2.2.2
theorem ea_2_5 {A0 : Sort _} {A1 : Sort _} {C0 C1 C2 C3 C4 : A0 → A1 → Prop} {P : Prop} (h : ∃ a0, ∃ a1, C0 a0 a1 ∧ C1 a0 a1 ∧ C2 a0 a1 ∧ C3 a0 a1 ∧ C4 a0 a1) (k : ∀ a0, ∀ a1, C0 a0 a1 → C1 a0 a1 → C2 a0 a1 → C3 a0 a1 → C4 a0 a1 → P) : P := h.elim fun a0 h => h.elim fun a1 h => k a0 a1 h.1 h.2.1 h.2.2.1 h.2.2.2.1 h.2.2.2.2
theorem ea_3_4 {A0 : Sort _} {A1 : Sort _} {A2 : Sort _} {C0 C1 C2 C3 : A0 → A1 → A2 → Prop} {P : Prop} (h : ∃ a0, ∃ a1, ∃ a2, C0 a0 a1 a2 ∧ C1 a0 a1 a2 ∧ C2 a0 a1 a2 ∧ C3 a0 a1 a2) (k : ∀ a0, ∀ a1, ∀ a2, C0 a0 a1 a2 → C1 a0 a1 a2 → C2 a0 a1 a2 → C3 a0 a1 a2 → P) : P := h.elim fun a0 h => h.elim fun a1 h => h.elim fun a2 h => k a0 a1 a2 h.1 h.2.1 h.2.2.1 h.2.2.2
theorem ea_4_3 {A0 : Sort _} {A1 : Sort _} {A2 : Sort _} {A3 : Sort _} {C0 C1 C2 : A0 → A1 → A2 → A3 → Prop} {P : Prop} (h : ∃ a0, ∃ a1, ∃ a2, ∃ a3, C0 a0 a1 a2 a3 ∧ C1 a0 a1 a2 a3 ∧ C2 a0 a1 a2 a3) (k : ∀ a0, ∀ a1, ∀ a2, ∀ a3, C0 a0 a1 a2 a3 → C1 a0 a1 a2 a3 → C2 a0 a1 a2 a3 → P) : P := h.elim fun a0 h => h.elim fun a1 h => h.elim fun a2 h => h.elim fun a3 h => k a0 a1 a2 a3 h.1 h.2.1 h.2.2
theorem ea_5_2 {A0 : Sort _} {A1 : Sort _} {A2 : Sort _} {A3 : Sort _} {A4 : Sort _} {C0 C1 : A0 → A1 → A2 → A3 → A4 → Prop} {P : Prop} (h : ∃ a0, ∃ a1, ∃ a2, ∃ a3, ∃ a4, C0 a0 a1 a2 a3 a4 ∧ C1 a0 a1 a2 a3 a4) (k : ∀ a0, ∀ a1, ∀ a2, ∀ a3, ∀ a4, C0 a0 a1 a2 a3 a4 → C1 a0 a1 a2 a3 a4 → P) : P := h.elim fun a0 h => h.elim fun a1 h => h.elim fun a2 h => h.elim fun a3 h => h.elim fun a4 h => k a0 a1 a2 a3 a4 h.1 h.2
theorem ea_6_1 {A0 : Sort _} {A1 : Sort _} {A2 : Sort _} {A3 : Sort _} {A4 : Sort _} {A5 : Sort _} {C0 : A0 → A1 → A2 → A3 → A4 → A5 → Prop} {P : Prop} (h : ∃ a0, ∃ a1, ∃ a2, ∃ a3, ∃ a4, ∃ a5, C0 a0 a1 a2 a3 a4 a5) (k : ∀ a0, ∀ a1, ∀ a2, ∀ a3, ∀ a4, ∀ a5, C0 a0 a1 a2 a3 a4 a5 → P) : P := h.elim fun a0 h => h.elim fun a1 h => h.elim fun a2 h => h.elim fun a3 h => h.elim fun a4 h => h.elim fun a5 h => k a0 a1 a2 a3 a4 a5 h
theorem ea_0_8 {C0 C1 C2 C3 C4 C5 C6 C7 : Prop} {P : Prop} (h : C0 ∧ C1 ∧ C2 ∧ C3 ∧ C4 ∧ C5 ∧ C6 ∧ C7) (k : C0 → C1 → C2 → C3 → C4 → C5 → C6 → C7 → P) : P := k h.1 h.2.1 h.2.2.1 h.2.2.2.1 h.2.2.2.2.1 h.2.2.2.2.2.1 h.2.2.2.2.2.2.1 h.2.2.2.2.2.2.2
theorem ea_1_7 {A0 : Sort _} {C0 C1 C2 C3 C4 C5 C6 : A0 → Prop} {P : Prop} (h : ∃ a0, C0 a0 ∧ C1 a0 ∧ C2 a0 ∧ C3 a0 ∧ C4 a0 ∧ C5 a0 ∧ C6 a0) (k : ∀ a0, C0 a0 → C1 a0 → C2 a0 → C3 a0 → C4 a0 → C5 a0 → C6 a0 → P) : P := h.elim fun a0 h => k a0 h.1 h.2.1 h.2.2.1 h.2.2.2.1 h.2.2.2.2.1 h.2.2.2.2.2.1 h.2.2.2.2.2.2
theorem ea_2_6 {A0 : Sort _} {A1 : Sort _} {C0 C1 C2 C3 C4 C5 : A0 → A1 → Prop} {P : Prop} (h : ∃ a0, ∃ a1, C0 a0 a1 ∧ C1 a0 a1 ∧ C2 a0 a1 ∧ C3 a0 a1 ∧ C4 a0 a1 ∧ C5 a0 a1) (k : ∀ a0, ∀ a1, C0 a0 a1 → C1 a0 a1 → C2 a0 a1 → C3 a0 a1 → C4 a0 a1 → C5 a0 a1 → P) : P := h.elim fun a0 h => h.elim fun a1 h => k a0 a1 h.1 h.2.1 h.2.2.1 h.2.2.2.1 h.2.2.2.2.1 h.2.2.2.2.2
theorem ea_3_5 {A0 : Sort _} {A1 : Sort _} {A2 : Sort _} {C0 C1 C2 C3 C4 : A0 → A1 → A2 → Prop} {P : Prop} (h : ∃ a0, ∃ a1, ∃ a2, C0 a0 a1 a2 ∧ C1 a0 a1 a2 ∧ C2 a0 a1 a2 ∧ C3 a0 a1 a2 ∧ C4 a0 a1 a2) (k : ∀ a0, ∀ a1, ∀ a2, C0 a0 a1 a2 → C1 a0 a1 a2 → C2 a0 a1 a2 → C3 a0 a1 a2 → C4 a0 a1 a2 → P) : P := h.elim fun a0 h => h.elim fun a1 h => h.elim fun a2 h => k a0 a1 a2 h.1 h.2.1 h.2.2.1 h.2.2.2.1 h.2.2.2.2
theorem ea_4_4 {A0 : Sort _} {A1 : Sort _} {A2 : Sort _} {A3 : Sort _} {C0 C1 C2 C3 : A0 → A1 → A2 → A3 → Prop} {P : Prop} (h : ∃ a0, ∃ a1, ∃ a2, ∃ a3, C0 a0 a1 a2 a3 ∧ C1 a0 a1 a2 a3 ∧ C2 a0 a1 a2 a3 ∧ C3 a0 a1 a2 a3) (k : ∀ a0, ∀ a1, ∀ a2, ∀ a3, C0 a0 a1 a2 a3 → C1 a0 a1 a2 a3 → C2 a0 a1 a2 a3 → C3 a0 a1 a2 a3 → P) : P := h.elim fun a0 h => h.elim fun a1 h => h.elim fun a2 h => h.elim fun a3 h => k a0 a1 a2 a3 h.1 h.2.1 h.2.2.1 h.2.2.2
theorem ea_5_3 {A0 : Sort _} {A1 : Sort _} {A2 : Sort _} {A3 : Sort _} {A4 : Sort _} {C0 C1 C2 : A0 → A1 → A2 → A3 → A4 → Prop} {P : Prop} (h : ∃ a0, ∃ a1, ∃ a2, ∃ a3, ∃ a4, C0 a0 a1 a2 a3 a4 ∧ C1 a0 a1 a2 a3 a4 ∧ C2 a0 a1 a2 a3 a4) (k : ∀ a0, ∀ a1, ∀ a2, ∀ a3, ∀ a4, C0 a0 a1 a2 a3 a4 → C1 a0 a1 a2 a3 a4 → C2 a0 a1 a2 a3 a4 → P) : P := h.elim fun a0 h => h.elim fun a1 h => h.elim fun a2 h => h.elim fun a3 h => h.elim fun a4 h => k a0 a1 a2 a3 a4 h.1 h.2.1 h.2.2
theorem ea_6_2 {A0 : Sort _} {A1 : Sort _} {A2 : Sort _} {A3 : Sort _} {A4 : Sort _} {A5 : Sort _} {C0 C1 : A0 → A1 → A2 → A3 → A4 → A5 → Prop} {P : Prop} (h : ∃ a0, ∃ a1, ∃ a2, ∃ a3, ∃ a4, ∃ a5, C0 a0 a1 a2 a3 a4 a5 ∧ C1 a0 a1 a2 a3 a4 a5) (k : ∀ a0, ∀ a1, ∀ a2, ∀ a3, ∀ a4, ∀ a5, C0 a0 a1 a2 a3 a4 a5 → C1 a0 a1 a2 a3 a4 a5 → P) : P := h.elim fun a0 h => h.elim fun a1 h => h.elim fun a2 h => h.elim fun a3 h => h.elim fun a4 h => h.elim fun a5 h => k a0 a1 a2 a3 a4 a5 h.1 h.2
theorem ea_7_1 {A0 : Sort _} {A1 : Sort _} {A2 : Sort _} {A3 : Sort _} {A4 : Sort _} {A5 : Sort _} {A6 : Sort _} {C0 : A0 → A1 → A2 → A3 → A4 → A5 → A6 → Prop} {P : Prop} (h : ∃ a0, ∃ a1, ∃ a2, ∃ a3, ∃ a4, ∃ a5, ∃ a6, C0 a0 a1 a2 a3 a4 a5 a6) (k : ∀ a0, ∀ a1, ∀ a2, ∀ a3, ∀ a4, ∀ a5, ∀ a6, C0 a0 a1 a2 a3 a4 a5 a6 → P) : P := h.elim fun a0 h => h.elim fun a1 h => h.elim fun a2 h => h.elim fun a3 h => h.elim fun a4 h => h.elim fun a5 h => h.elim fun a6 h => k a0 a1 a2 a3 a4 a5 a6 h
theorem nnO {a : α} (e : none = some a) : P := nomatch e
theorem nnP {a : α} (e : some a = none) : P := nomatch e
theorem nnT (e : true = false) : P := nomatch e
theorem nnF (e : false = true) : P := nomatch e
@[elab_as_elim] theorem c1 {a b : α} {Q : α → Prop} (e : some a = some b) (h : Q a) : Q b := Option.some.inj e ▸ h
@[elab_as_elim] theorem c2 {a b : α} {c d : β} {Q : α → β → Prop} (e : some (a, c) = some (b, d)) (h : Q a c) : Q b d := c1 (Q := fun p => Q p.1 p.2) e h
@[elab_as_elim] theorem c3 {a b : α} {c d : β} {x y : γ} {Q : α → β → γ → Prop} (e : some (a, c, x) = some (b, d, y)) (h : Q a c x) : Q b d y := c1 (Q := fun p => Q p.1 p.2.1 p.2.2) e h
end
end
section
open PySem

section
variable {α β γ δ : Type}
noncomputable def bnd (o : Option α) (f : α → Option δ) : Option δ := match o with
  | some a => f a
  | none => none
noncomputable def bnd2 (o : Option (α × β)) (f : α → β → Option δ) : Option δ := match o with
  | some p => f p.1 p.2
  | none => none
noncomputable def bnd3 (o : Option (α × β × γ)) (f : α → β → γ → Option δ) : Option δ := match o with
  | some p => f p.1 p.2.1 p.2.2
  | none => none
noncomputable def obr (o : Option α) (f : α → δ) (d : δ) : δ := match o with
  | some a => f a
  | none => d
noncomputable def oneOf : List α → Option α
  | [] => none
  | a :: r => match r with
    | [] => some a
    | _ :: _ => none
noncomputable def unc : List α → Option (α × List α)
  | [] => none
  | a :: r => some (a, r)

variable {P : Prop} {d : δ}
theorem b1 {o : Option α} {f : α → Option δ} (e : bnd o f = some d) (k : ∀ a, o = some a → f a = some d → P) : P :=
  match o, e, k with
  | some a, e, k => k a rfl e
theorem b2 {o : Option (α × β)} {f : α → β → Option δ} (e : bnd2 o f = some d) (k : ∀ a b, o = some (a, b) → f a b = some d → P) : P :=
  match o, e, k with
  | some a, e, k => k a.1 a.2 rfl e
theorem b3 {o : Option (α × β × γ)} {f : α → β → γ → Option δ} (e : bnd3 o f = some d) (k : ∀ a b c, o = some (a, b, c) → f a b c = some d → P) : P :=
  match o, e, k with
  | some a, e, k => k a.1 a.2.1 a.2.2 rfl e
theorem bT {b : Bool} {x : Option δ} (e : cond b x none = some d) (k : b = true → x = some d → P) : P :=
  match b, e, k with
  | true, e, k => k rfl e
theorem bF {b : Bool} {x : Option δ} (e : cond b none x = some d) (k : b = false → x = some d → P) : P :=
  match b, e, k with
  | false, e, k => k rfl e
theorem bC {b : Bool} {x y z : δ} (e : cond b x y = z) (k1 : b = true → x = z → P) (k2 : b = false → y = z → P) : P :=
  match b, e, k1, k2 with
  | true, e, k, _ => k rfl e
  | false, e, _, k => k rfl e
theorem bO {o : Option α} {f : α → δ} {y z : δ} (e : obr o f y = z) (k1 : ∀ a, o = some a → f a = z → P) (k2 : o = none → y = z → P) : P :=
  match o, e, k1, k2 with
  | some a, e, k, _ => k a rfl e
  | none, e, _, k => k rfl e
theorem bT2 {b x : Bool} (e : cond b x false = true) (k : b = true → x = true → P) : P :=
  match b, e, k with
  | true, e, k => k rfl e
theorem bA {a b : Bool} (e : (a && b) = true) (k : a = true → b = true → P) : P :=
  match a, b, e, k with
  | true, true, _, k => k rfl rfl
theorem s1 {Q : δ → Prop} {a b : δ} (e : some a = some b) (h : Q a) : Q b := Option.some.inj e ▸ h
theorem s2 {Q : α → β → Prop} {a b : α} {c d : β} (e : some (a, c) = some (b, d)) (h : Q a c) : Q b d := s1 (Q := fun p => Q p.1 p.2) e h
theorem s3 {Q : α → β → γ → Prop} {a b : α} {c d : β} {x y : γ} (e : some (a, c, x) = some (b, d, y)) (h : Q a c x) : Q b d y := s1 (Q := fun p => Q p.1 p.2.1 p.2.2) e h
theorem oneOf_eq {l : List α} {a : α} (e : oneOf l = some a) : l = [a] :=
  match l, e with
  | [_], e => congrArg (fun x => [x]) (Option.some.inj e)
theorem unc_eq {l r : List α} {a : α} (e : unc l = some (a, r)) : l = a :: r :=
  match l, e with
  | _ :: _, e => congrArg (fun p => p.1 :: p.2) (Option.some.inj e)
end

inductive V where
  | none
  | bool (b : Bool)
  | int (i : Int)
  | str (s : Str)
  | tup (l : List V)
  | lst (l : List V)
  | cell (i : Nat)
  | glob (v : Value)

inductive Cell where
  | list (l : List V)
  | dict (l : List (V × V))
  | inst (C : Addr) (l : List (Str × V))

noncomputable def asNone : V → Option Unit
  | .none => some ()
  | _ => none
noncomputable def asBool : V → Option Bool
  | .bool b => some b
  | _ => none
noncomputable def asInt : V → Option Int
  | .int b => some b
  | _ => none
noncomputable def asStr : V → Option Str
  | .str b => some b
  | _ => none
noncomputable def asTup : V → Option (List V)
  | .tup b => some b
  | _ => none
noncomputable def asCell : V → Option Nat
  | .cell b => some b
  | _ => none
noncomputable def asGlob : V → Option Value
  | .glob b => some b
  | _ => none

structure St where
  next : Nat
  cells : List (Nat × Cell)

noncomputable def lookN (i : Nat) : List (Nat × Cell) → Option Cell
  | [] => none
  | p :: r => cond (Nat.beq p.1 i) (some p.2) (lookN i r)
noncomputable def St.get (σ : St) (i : Nat) : Option Cell := lookN i σ.cells
noncomputable def setC (i : Nat) (c : Cell) : List (Nat × Cell) → List (Nat × Cell)
  | [] => [(i, c)]
  | p :: r => cond (Nat.beq p.1 i) ((i, c) :: r) (p :: setC i c r)
noncomputable def St.set (σ : St) (i : Nat) (c : Cell) : St := ⟨σ.next, setC i c σ.cells⟩
noncomputable def St.new (σ : St) (c : Cell) : St := ⟨σ.next + 1, (σ.next, c) :: σ.cells⟩
noncomputable def cList : Cell → Option (List V)
  | .list l => some l
  | _ => none
noncomputable def cDict : Cell → Option (List (V × V))
  | .dict l => some l
  | _ => none
noncomputable def cInst : Cell → Option (Addr × List (Str × V))
  | .inst C l => some (C, l)
  | _ => none
noncomputable def listAt (σ : St) (i : Nat) : Option (List V) := bnd (σ.get i) cList
noncomputable def dictAt (σ : St) (i : Nat) : Option (List (V × V)) := bnd (σ.get i) cDict
noncomputable def instAt (σ : St) (i : Nat) : Option (Addr × List (Str × V)) := bnd (σ.get i) cInst

noncomputable def natsEq : List Nat → List Nat → Bool
  | [], b => b.isEmpty
  | a :: as, b => match b with
    | [] => false
    | b :: bs => cond (Nat.beq a b) (natsEq as bs) false
noncomputable def sEq (a b : Str) : Bool := natsEq a.cps.toList b.cps.toList
noncomputable def natsOk : List Nat → Bool
  | [] => true
  | a :: as => cond (Nat.blt a 1114112) (natsOk as) false
noncomputable def okS (a : Str) : Bool := natsOk a.cps.toList
noncomputable def lookS {α : Type} (x : Str) : List (Str × α) → Option α
  | [] => none
  | p :: r => cond (sEq x p.1) (some p.2) (lookS x r)

noncomputable abbrev Loc := List (Str × V)
noncomputable def setL {α : Type} (x : Str) (v : α) : List (Str × α) → List (Str × α)
  | [] => [(x, v)]
  | p :: r => cond (sEq x p.1) ((x, v) :: r) (p :: setL x v r)

inductive Fl where
  | next
  | ret (v : V)

structure FnI where
  params : List Str
  dflts : List V
  body : List Stmt
  scope : Scope

structure Globals where
  name : Str → Option V
  fn : Addr → Option FnI
  cls : Addr → Option Addr
  meth : Addr → Str → Option Addr
  mutAt : Pos → Bool
  attrOk : Addr → Str → Bool

structure Rec where
  ev : Scope → Expr → Loc → St → Option (V × St)
  isT : Scope → Expr → Loc → St → Option (Bool × St)
  asg : Scope → Expr → V → Loc → St → Option (Loc × St)
  exs : Scope → List Stmt → Loc → St → Option (Fl × Loc × St)
  call : Addr → List V → St → Option (V × St)

noncomputable def eqVsBy (f : V → V → Option Bool) : List V → List V → Option Bool
  | [], b => some b.isEmpty
  | a :: as, b => match b with
    | [] => some false
    | b :: bs => bnd (f a b) fun c => cond c (eqVsBy f as bs) (some false)
noncomputable def eqP (t : List V → List V → Option Bool) (a b : V) : Option Bool := match a with
  | .none => bnd (asNone b) fun _ => some true
  | .bool x => bnd (asBool b) fun y => some (x == y)
  | .int x => bnd (asInt b) fun y => some (decide (x = y))
  | .str x => bnd (asStr b) fun y => some (sEq x y)
  | .tup x => bnd (asTup b) fun y => t x y
  | _ => none
noncomputable def eqN : Nat → V → V → Option Bool
  | 0 => eqP fun _ _ => none
  | n + 1 => eqP (eqVsBy (eqN n))
noncomputable def allBy (f : V → Bool) : List V → Bool
  | [] => true
  | v :: r => cond (f v) (allBy f r) false
noncomputable def pureP (t : List V → Bool) : V → Bool
  | .none => true
  | .bool _ => true
  | .int _ => true
  | .str s => okS s
  | .tup l => t l
  | _ => false
noncomputable def pureN : Nat → V → Bool
  | 0 => pureP fun _ => false
  | n + 1 => pureP (allBy (pureN n))
noncomputable def eqV (a b : V) : Option Bool := eqN 8 a b
noncomputable def pureV (a : V) : Bool := pureN 8 a

noncomputable def listOf (σ : St) : V → Option (List V)
  | .lst l => some l
  | .cell i => listAt σ i
  | _ => none

noncomputable def sameLen {α β : Type} : List α → List β → Bool
  | [], b => b.isEmpty
  | _ :: a, b => match b with
    | [] => false
    | _ :: b => sameLen a b

noncomputable def eqLists (a b : List V) : Option Bool := cond (sameLen a b) (cond (allBy pureV a && allBy pureV b) (eqVsBy eqV a b) none) (some false)
noncomputable def eqCells (σ : St) (i j : Nat) : Option Bool := cond (Nat.beq i j) none (bnd (dictAt σ i) fun d => bnd (dictAt σ j) fun d' => cond (d.isEmpty && d'.isEmpty) (some true) none)
noncomputable def eqRest (σ : St) (a b : V) : Option Bool := obr (asCell a) (fun i => bnd (asCell b) fun j => eqCells σ i j) (cond (pureV a && pureV b) (eqV a b) none)
noncomputable def eqTop (σ : St) (a b : V) : Option Bool := obr (listOf σ a) (fun x => bnd (listOf σ b) fun y => eqLists x y) (cond (listOf σ b).isSome none (eqRest σ a b))

noncomputable def ltNats : List Nat → List Nat → Bool
  | [], b => !b.isEmpty
  | a :: as, b => match b with
    | [] => false
    | b :: bs => cond (Nat.blt a b) true (cond (Nat.beq a b) (ltNats as bs) false)
noncomputable def ltVsBy (f : V → V → Option Bool) (g : V → V → Option Bool) : List V → List V → Option Bool
  | [], b => some (!b.isEmpty)
  | a :: as, b => match b with
    | [] => some false
    | b :: bs => bnd (f a b) fun c => cond c (ltVsBy f g as bs) (g a b)
noncomputable def ltP (t : List V → List V → Option Bool) (a b : V) : Option Bool := match a with
  | .int x => bnd (asInt b) fun y => some (decide (x < y))
  | .str x => bnd (asStr b) fun y => some (ltNats x.cps.toList y.cps.toList)
  | .tup x => bnd (asTup b) fun y => t x y
  | _ => none
noncomputable def ltN : Nat → V → V → Option Bool
  | 0 => ltP fun _ _ => none
  | n + 1 => ltP (ltVsBy (eqN n) (ltN n))
noncomputable def ltV (a b : V) : Option Bool := ltN 8 a b

noncomputable def runT {α : Type} (f : Nat → Nat → Option Bool) : PySem.W.KasT α → Option α
  | .ret a => some a
  | .ask i j k => bnd (f i j) fun b => runT f (k b)
noncomputable def isStrV (v : V) : Bool := (asStr v).isSome
noncomputable def isTT (v : V) : Bool := obr (asTup v) (fun l => obr (unc l) (fun p => (asTup p.1).isSome) false) false
noncomputable def sortL (l : List V) : Option (List V) := cond (Nat.blt l.length 2) (some l) (cond (Nat.blt l.length 64) (bnd (runT (fun i j => ltV (l.getD i .none) (l.getD j .none)) (PySem.W.kas_sort l.length)) fun p => some (p.toList.map fun i => l.getD i .none)) none)
noncomputable def sortV (l : List V) : Option (List V) := cond (allBy pureV l && (allBy isStrV l || allBy isTT l)) (sortL l) none

noncomputable def minGo (b : V) : List V → Option V
  | [] => some b
  | v :: r => bnd (ltV v b) fun c => cond c (minGo v r) (minGo b r)
noncomputable def minV (l : List V) : Option V := cond (allBy pureV l) (bnd2 (unc l) minGo) none
noncomputable def intsV : List V → Option (List Int)
  | [] => some []
  | v :: r => bnd (asInt v) fun i => bnd (intsV r) fun l => some (i :: l)
noncomputable def maxGo (b : Int) : List Int → Int
  | [] => b
  | i :: r => maxGo (if b < i then i else b) r

noncomputable def keyTup (v : V) : Bool := obr (asTup v) (allBy isStrV) false
noncomputable def keyEq (a b : V) : Bool := (eqV a b).getD false
noncomputable def keysAll (p : V → Bool) : List (V × V) → Bool
  | [] => true
  | e :: r => cond (p e.1) (keysAll p r) false
noncomputable def keyOk (k : V) (l : List (V × V)) : Bool := pureV k && cond (isStrV k) (keysAll isStrV l) (keyTup k && (keysAll keyTup l && keysAll pureV l))
noncomputable def dictFindV (k : V) : List (V × V) → Option V
  | [] => none
  | e :: r => cond (keyEq e.1 k) (some e.2) (dictFindV k r)
noncomputable def dictPutV (k v : V) : List (V × V) → List (V × V)
  | [] => [(k, v)]
  | e :: r => cond (keyEq e.1 k) ((e.1, v) :: r) (e :: dictPutV k v r)

noncomputable def isLoc : NameKind → Bool
  | .local => true
  | _ => false
noncomputable def isLC : NameKind → Bool
  | .local => true
  | .cell => true
  | _ => false
noncomputable def nameK (G : Globals) (loc : Loc) (x : Str) : NameKind → Option V
  | .local => lookS x loc
  | .cell => lookS x loc
  | .free => lookS x loc
  | .globalImplicit => G.name x
  | .globalExplicit => none
noncomputable def nameV (G : Globals) (sc : Scope) (loc : Loc) (x : Str) : Option V := bnd (lookS x sc.names) (nameK G loc x)
noncomputable def dbg (x : Str) : Bool := sEq x "__debug__" || sEq x "__classdict__"

noncomputable def constV : Const → Option V
  | .none => some .none
  | .bool b => some (.bool b)
  | .int i => some (.int i)
  | .str s => some (.str s)
  | _ => none

noncomputable def fits64 (a : Int) : Bool := Nat.blt a.natAbs 4611686018427387904

noncomputable def int2 (a b : V) (f : Int → Int → Option V) : Option V := bnd (asInt a) fun x => bnd (asInt b) fun y => f x y
noncomputable def addL (σ : St) (a b : V) : Option V := bnd (listOf σ a) fun x => bnd (listOf σ b) fun y => cond (Nat.blt (x.length + y.length) 1000) (some (.lst (x ++ y))) none
noncomputable def addV (σ : St) (a b : V) : Option V := match a with
  | .int x => bnd (asInt b) fun y => some (.int (x + y))
  | .str x => bnd (asStr b) fun y => cond (Nat.blt (x.length + y.length) 1000) (some (.str (x ++ y))) none
  | .tup x => bnd (asTup b) fun y => cond (Nat.blt (x.length + y.length) 1000) (some (.tup (x ++ y))) none
  | a => addL σ a b
noncomputable def mulV (a b : V) : Option V := match a with
  | .int x => bnd (asInt b) fun y => cond (fits64 x && fits64 y) (some (.int (x * y))) none
  | .lst x => bnd (asInt b) fun y => cond ((decide (0 ≤ y) && decide (y ≤ 8)) && Nat.blt x.length 100) (some (.lst (List.replicate y.toNat x).flatten)) none
  | _ => none
noncomputable def binV (σ : St) (op : Operator) (a b : V) : Option V := match op with
  | .Add => addV σ a b
  | .Sub => int2 a b fun x y => some (.int (x - y))
  | .Mult => mulV a b
  | .FloorDiv => int2 a b fun x y => cond (!Nat.beq y.natAbs 0 && fits64 y) (some (.int (x.fdiv y))) none
  | .Mod => int2 a b fun x y => cond (!Nat.beq y.natAbs 0 && fits64 y) (some (.int (x.fmod y))) none
  | .Pow => int2 a b fun x y => cond (fits64 x && (decide (0 ≤ y) && decide (y ≤ 1000))) (some (.int (x ^ y.toNat))) none
  | _ => none

noncomputable def anyEq (x : V) : List V → Option Bool
  | [] => some false
  | v :: r => bnd (eqV v x) fun c => cond c (some true) (anyEq x r)
noncomputable def inL (x : V) (l : List V) : Option Bool := cond (pureV x && allBy pureV l) (anyEq x l) none
noncomputable def inV (σ : St) (x c : V) : Option Bool := match c with
  | .tup l => inL x l
  | .lst l => inL x l
  | .str t => bnd (asStr x) fun s => some (!(PySem.Builtin.Str.occurrences t s 0 t.length 1).isEmpty)
  | .cell i => bnd (dictAt σ i) fun l => cond (keyOk x l) (some (dictFindV x l).isSome) none
  | _ => none
noncomputable def isN : V → Option Bool
  | .none => some true
  | .tup _ => some false
  | .str _ => some false
  | .cell _ => some false
  | _ => none
noncomputable def cmpI (a b : V) (f : Int → Int → Bool) : Option Bool := bnd (asInt a) fun x => bnd (asInt b) fun y => some (f x y)
noncomputable def cmpV (σ : St) (op : CmpOp) (a b : V) : Option Bool := match op with
  | .Eq => eqTop σ a b
  | .NotEq => bnd (eqTop σ a b) fun r => some (!r)
  | .Gt => cmpI a b fun x y => decide (x > y)
  | .GtE => cmpI a b fun x y => decide (x ≥ y)
  | .In => inV σ a b
  | .NotIn => cond (keyTup a) none (bnd (inV σ a b) fun r => some (!r))
  | .Is => bnd (asNone b) fun _ => isN a
  | _ => none

noncomputable def atInt (l : List V) (i : Int) : Option V := cond (decide (0 ≤ i) && Nat.blt i.toNat 1000000) l[i.toNat]? none
noncomputable def itemV (σ : St) (o i : V) : Option V := match o with
  | .tup l => bnd (asInt i) (atInt l)
  | .lst l => bnd (asInt i) (atInt l)
  | .cell c => obr (listAt σ c) (fun l => bnd (asInt i) (atInt l)) (bnd (dictAt σ c) fun l => cond (keyOk i l) (dictFindV i l) none)
  | _ => none

noncomputable def storeV (σ : St) (o i v : V) : Option St := bnd (asCell o) fun c =>
  obr (listAt σ c) (fun l => bnd (asInt i) fun k => cond (decide (0 ≤ k) && (Nat.blt k.toNat l.length && Nat.blt k.toNat 1000000)) (some (σ.set c (.list (l.set k.toNat v)))) none)
    (bnd (dictAt σ c) fun l => cond (keyOk i l && Nat.blt l.length 1000) (some (σ.set c (.dict (dictPutV i v l)))) none)

noncomputable def attrV (G : Globals) (σ : St) (o : V) (a : Str) : Option V := bnd (asCell o) fun c => bnd2 (instAt σ c) fun C l => cond (G.attrOk C a) (lookS a l) none
noncomputable def setAttrV (G : Globals) (σ : St) (o : V) (a : Str) (v : V) : Option St := bnd (asCell o) fun c => bnd2 (instAt σ c) fun C l => cond (Nat.blt l.length 500 && G.attrOk C a) (some (σ.set c (.inst C (setL a v l)))) none

inductive It where
  | seq (v : V) (i : Nat)
  | dict (c : Nat) (i n : Nat)
  | enum (v : V) (i : Nat)
  | range (i n : Int)

noncomputable def seqOf (σ : St) : V → Option (List V)
  | .tup l => some l
  | .lst l => some l
  | .cell i => listAt σ i
  | _ => none
noncomputable def nextIt (σ : St) : It → Option (Option (V × It))
  | .seq v i => bnd (seqOf σ v) fun l => obr l[i]? (fun x => some (some (x, .seq v (i + 1)))) (some none)
  | .dict c i n => bnd (dictAt σ c) fun l => cond (Nat.beq l.length n && keysAll isStrV l) (obr l[i]? (fun e => some (some (e.1, .dict c (i + 1) n))) (some none)) none
  | .enum v i => bnd (seqOf σ v) fun l => obr l[i]? (fun x => some (some (.tup [.int i, x], .enum v (i + 1)))) (some none)
  | .range i n => cond (decide (i < n)) (some (some (.int i, .range (i + 1) n))) (some none)
noncomputable def iterV (σ : St) (v : V) : Option It := match v with
  | .tup _ => some (.seq v 0)
  | .lst _ => some (.seq v 0)
  | .cell c => obr (listAt σ c) (fun _ => some (.seq v 0)) (bnd (dictAt σ c) fun l => cond (Nat.blt 0 l.length && keysAll isStrV l) (some (.dict c 0 l.length)) none)
  | _ => none

noncomputable def nameOf : Expr → Option Str
  | .Name x _ => some x
  | _ => none
noncomputable def tupleE : Expr → Option (List Expr)
  | .Tuple ts _ _ => some ts
  | _ => none
noncomputable def attrE : Expr → Option (Expr × Str × Pos)
  | .Attribute o a p => some (o, a, p)
  | _ => none
noncomputable def callE : Expr → Option (Expr × List Expr × List Keyword × Pos)
  | .Call f as kw p => some (f, as, kw, p)
  | _ => none
noncomputable def notStar (e : Expr) : Bool := !Nat.beq e.ctorIdx 22
noncomputable def isTupE (e : Expr) : Bool := (tupleE e).isSome
noncomputable def isSetE (e : Expr) : Bool := Nat.beq e.ctorIdx 7
noncomputable def isSlice (e : Expr) : Bool := Nat.beq e.ctorIdx 26
noncomputable def notCall (e : Expr) : Bool := (callE e).isNone
noncomputable def stops : BoolOp → Bool → Bool
  | .And, b => !b
  | .Or, b => b
noncomputable def allEnd : BoolOp → Bool
  | .And => true
  | .Or => false

section
variable (G : Globals) (r : Rec)

noncomputable def evs (sc : Scope) : List Expr → Loc → St → Option (List V × St)
  | [], _, σ => some ([], σ)
  | e :: es, loc, σ => cond (notStar e) (bnd2 (r.ev sc e loc σ) fun v σ => bnd2 (evs sc es loc σ) fun vs σ => some (v :: vs, σ)) none

noncomputable def evPairs (sc : Scope) : List (Option Expr) → List Expr → Loc → St → Option (List (V × V) × St)
  | [], vs, _, σ => cond vs.isEmpty (some ([], σ)) none
  | k :: ks, vs, loc, σ => bnd k fun k => bnd2 (unc vs) fun v vs => bnd2 (r.ev sc k loc σ) fun kv σ => bnd2 (r.ev sc v loc σ) fun vv σ => bnd2 (evPairs sc ks vs loc σ) fun l σ => some ((kv, vv) :: l, σ)
noncomputable def putAll : List (V × V) → List (V × V) → Option (List (V × V))
  | [], l => some l
  | e :: r, l => cond (isStrV e.1 && keyOk e.1 l) (putAll r (dictPutV e.1 e.2 l)) none

noncomputable def boolV (sc : Scope) (op : BoolOp) : List Expr → Loc → St → Option (V × St)
  | [], _, _ => none
  | e :: es, loc, σ => cond es.isEmpty (r.ev sc e loc σ) (bnd2 (r.ev sc e loc σ) fun v σ => bnd (asBool v) fun b => cond (stops op b) (some (v, σ)) (boolV sc op es loc σ))

noncomputable def allT (sc : Scope) (op : BoolOp) : List Expr → Loc → St → Option (Bool × St)
  | [], _, σ => some (allEnd op, σ)
  | e :: es, loc, σ => bnd2 (r.isT sc e loc σ) fun b σ => cond (stops op b) (some (b, σ)) (allT sc op es loc σ)

noncomputable def cmpE (sc : Scope) (l : Expr) (op : CmpOp) (x : Expr) (loc : Loc) (σ : St) : Option (Bool × St) :=
  cond (behindInMarks op x) none (bnd2 (r.ev sc l loc σ) fun a σ => bnd2 (r.ev sc x loc σ) fun b σ => bnd (cmpV σ op a b) fun c => some (c, σ))

noncomputable def callC (C f : Addr) (args : List V) (σ : St) : Option (V × St) := bnd2 (r.call f (.cell σ.next :: args) (σ.new (.inst C []))) fun v σ' => bnd (asNone v) fun _ => some (.cell σ.next, σ')

noncomputable def itemsOf (σ : St) (v : V) : Option (List V) := match v with
  | .lst l => some l
  | .cell c => obr (listAt σ c) some (bnd (dictAt σ c) fun l => some (l.map (·.1)))
  | _ => none
inductive BI where
  | len
  | max
  | min
  | sorted
  | int
  | tuple
noncomputable def biOf : Value → Option BI
  | .builtin s => if s = "len" then some .len else if s = "max" then some .max else if s = "min" then some .min else if s = "sorted" then some .sorted else none
  | .type s => if s = "int" then some .int else if s = "tuple" then some .tuple else none
  | _ => none
noncomputable def lenL (l : List V) : Option V := cond (Nat.blt l.length 1000000) (some (.int l.length)) none
noncomputable def two (args : List V) : Option (Int × Int) := bnd2 (unc args) fun a r => bnd (asInt a) fun x => bnd (oneOf r) fun b => bnd (asInt b) fun y => some (x, y)
noncomputable def maxL : List Int → Option V
  | [] => none
  | i :: r => some (.int (maxGo i r))
noncomputable def callBI (σ : St) (args : List V) : BI → Option V
  | .len => bnd (oneOf args) fun v => obr (asTup v) lenL (bnd (listOf σ v) lenL)
  | .max => obr (two args) (fun p => some (.int (maxGo p.1 [p.2]))) (bnd (oneOf args) fun v => bnd (listOf σ v) fun l => bnd (intsV l) maxL)
  | .min => obr (two args) (fun p => some (.int (if p.2 < p.1 then p.2 else p.1))) (bnd (oneOf args) fun v => bnd (listOf σ v) minV)
  | .sorted => bnd (oneOf args) fun v => bnd (itemsOf σ v) fun l => bnd (sortV l) fun l => some (.lst l)
  | .int => bnd (oneOf args) fun v => bnd (asBool v) fun b => some (.int (if b then 1 else 0))
  | .tuple => bnd (oneOf args) fun v => bnd (listOf σ v) fun l => cond (Nat.blt l.length 1000) (some (.tup l)) none
noncomputable def callB (σ : St) (f : Value) (args : List V) : Option V := bnd (biOf f) (callBI σ args)

noncomputable def refOf : Value → Option Addr
  | .ref a => some a
  | _ => none
noncomputable def callV (f : V) (args : List V) (σ : St) : Option (V × St) := bnd (asGlob f) fun u =>
  obr (refOf u) (fun a => obr (G.fn a) (fun _ => r.call a args σ) (bnd (G.cls a) fun i => callC r a i args σ)) (bnd (callB σ u args) fun v => some (v, σ))

inductive Mth where
  | fn (f : Addr)
  | append
  | get
  | upper
  | split
noncomputable def methC (name : Str) : Cell → Option Mth
  | .inst C l => obr (lookS name l) (fun _ => none) (bnd (G.meth C name) fun f => some (.fn f))
  | .list _ => cond (sEq name "append") (some .append) none
  | .dict _ => cond (sEq name "get") (some .get) none
noncomputable def methOf (σ : St) (o : V) (name : Str) : Option Mth := match o with
  | .cell c => bnd (σ.get c) (methC G name)
  | .str _ => cond (sEq name "isupper") (some .upper) (cond (sEq name "split") (some .split) none)
  | _ => none
noncomputable def callM (o : V) (m : Mth) (args : List V) (σ : St) : Option (V × St) := match m with
  | .fn f => r.call f (o :: args) σ
  | .append => bnd (asCell o) fun c => bnd (oneOf args) fun v => bnd (listAt σ c) fun l => cond (Nat.blt l.length 1000) (some (.none, σ.set c (.list (l ++ [v])))) none
  | .get => bnd (asCell o) fun c => bnd2 (unc args) fun k r => bnd (asStr k) fun k => bnd (oneOf r) fun d => bnd (dictAt σ c) fun l => cond (keyOk (.str k) l) (some ((dictFindV (.str k) l).getD d, σ)) none
  | .upper => bnd (asStr o) fun s => cond args.isEmpty (some (.bool (Txt.isupper s), σ)) none
  | .split => bnd (asStr o) fun s => bnd (oneOf args) fun y => bnd (asStr y) fun y => cond (Nat.blt s.length 1000 && Nat.blt 0 y.length) (some (.lst ((Txt.split s y).map .str), σ)) none

noncomputable def valuesA (l : Str) (pos : Pos) (g : Expr) : Option (Str × Expr) := bnd3 (attrE g) fun o a apos => cond ((sEq a "values" && Nat.beq apos.endLine pos.line) && notCall o) (some (l, o)) none
noncomputable def valuesC (l : Str) (x : Expr) : Option (Str × Expr) := bnd3 (callE x) fun g as p => cond (as.isEmpty && p.1.isEmpty) (valuesA l p.2 g) none
noncomputable def valuesOf (f : Expr) (args : List Expr) : Option (Str × Expr) := bnd (nameOf f) fun l => bnd (oneOf args) (valuesC l)

noncomputable def asgLocs (f : Expr → V → Loc → Option Loc) : List Expr → List V → Loc → Option Loc
  | [], vs, loc => cond vs.isEmpty (some loc) none
  | t :: ts, vs, loc => cond (notStar t) (bnd2 (unc vs) fun v vs => bnd (f t v loc) fun loc => asgLocs f ts vs loc) none
noncomputable def asgL (sc : Scope) (v : V) (loc : Loc) (k : List Expr → Option Loc) (t : Expr) : Option Loc := obr (nameOf t) (fun x => bnd (lookS x sc.names) fun q => cond (isLoc q) (some (setL x v loc)) none) (bnd (tupleE t) k)
noncomputable def asgLocN (sc : Scope) (σ : St) : Nat → Expr → V → Loc → Option Loc
  | 0, t, v, loc => asgL sc v loc (fun _ => none) t
  | n + 1, t, v, loc => asgL sc v loc (fun ts => bnd (seqOf σ v) fun l => cond (sameLen ts l) (asgLocs (asgLocN sc σ n) ts l loc) none) t

noncomputable def compE (sc : Scope) (tgt : Expr) (ifs : List Expr) (emit : Loc → St → Option St) : Nat → It → Loc → St → Option St
  | 0, _, _, _ => none
  | k + 1, it, loc, σ => bnd (nextIt σ it) fun q => obr q (fun p => bnd (asgLocN sc σ 3 tgt p.1 loc) fun loc => bnd2 (allT r sc .And ifs loc σ) fun b σ =>
      cond b (bnd (emit loc σ) fun σ => compE sc tgt ifs emit k p.2 loc σ) (compE sc tgt ifs emit k p.2 loc σ)) (some σ)

noncomputable def loopT : Value → Option Bool
  | .type s => if s = "enumerate" then some true else if s = "range" then some false else none
  | _ => none
noncomputable def enumC (sc : Scope) (loc : Loc) (x : Expr) (f : Str) : Option (Bool × Expr) := cond (dbg f) none (bnd (nameV G sc loc f) fun v => bnd (asGlob v) fun u => bnd (loopT u) fun b => some (b, x))
noncomputable def enumOf (sc : Scope) (loc : Loc) (e : Expr) : Option (Bool × Expr) := bnd3 (callE e) fun g as p => cond p.1.isEmpty (bnd (nameOf g) fun f => bnd (oneOf as) fun x => enumC G sc loc x f) none
noncomputable def startE (sc : Scope) (tgt : Expr) (x : Expr) (loc : Loc) (σ : St) : Option (It × St) := bnd2 (evs r sc [x] loc σ) fun vs σ => bnd (oneOf vs) fun v => cond (isTupE tgt) (bnd (seqOf σ v) fun _ => some (.enum v 0, σ)) none
noncomputable def startR (sc : Scope) (x : Expr) (loc : Loc) (σ : St) : Option (It × St) := bnd2 (evs r sc [x] loc σ) fun vs σ => bnd (oneOf vs) fun v => bnd (asInt v) fun n => cond (decide (0 ≤ n) && decide (n < 1000)) (some (.range 0 n, σ)) none
noncomputable def startP (sc : Scope) (e : Expr) (loc : Loc) (σ : St) : Option (It × St) := cond (isSetE e) none (bnd2 (r.ev sc e loc σ) fun v σ => bnd (iterV σ v) fun it => some (it, σ))
noncomputable def startIt (sc : Scope) (tgt : Expr) (e : Expr) (loc : Loc) (σ : St) : Option (It × St) :=
  obr (enumOf G sc loc e) (fun p => cond p.1 (startE r sc tgt p.2 loc σ) (startR r sc p.2 loc σ)) (startP r sc e loc σ)

noncomputable def isCellO : Option NameKind → Bool
  | some .cell => true
  | _ => false
noncomputable def isFreeO : Option NameKind → Bool
  | some .free => true
  | _ => false
noncomputable def compNames (sc : Scope) : List (Str × NameKind) → List (Str × NameKind)
  | [] => []
  | p :: r => cond (isFreeO (some p.2) && isCellO (lookS p.1 sc.names)) (p.1, .cell) p :: compNames sc r
noncomputable def compSc (sc sc' : Scope) : Scope := { sc' with names := compNames sc sc'.names }
noncomputable def compOk1 (sc : Scope) (x : Str) : NameKind → Bool
  | .local => true
  | .globalImplicit => true
  | .free => isCellO (lookS x sc.names) || isFreeO (lookS x sc.names)
  | _ => false
noncomputable def compOkN (sc : Scope) (all : List (Str × NameKind)) : List (Str × NameKind) → Bool
  | [] => true
  | p :: r => obr (lookS p.1 all) (fun k => decide (k = p.2)) false && (compOk1 sc p.1 p.2 && compOkN sc all r)
noncomputable def isFnK : ScopeKind → Bool
  | .function => true
  | _ => false
noncomputable def compOk (sc sc' : Scope) : Bool := isFnK sc'.kind && compOkN sc sc'.names sc'.names
noncomputable def freeLoc (sc : Scope) : Loc → Loc
  | [] => []
  | p :: r => cond (isFreeO (lookS p.1 sc.names)) (p :: freeLoc sc r) (freeLoc sc r)
end

section
variable (G : Globals) (r : Rec)
noncomputable def appendC (c : Nat) (v : V) (σ : St) : Option St := bnd (listAt σ c) fun l => cond (Nat.blt l.length 1000) (some (σ.set c (.list (l ++ [v])))) none
noncomputable def putC (c : Nat) (k v : V) (σ : St) : Option St := bnd (dictAt σ c) fun l => cond ((isStrV k && keyOk k l) && Nat.blt l.length 1000) (some (σ.set c (.dict (dictPutV k v l)))) none
noncomputable def emitL (sc : Scope) (c : Nat) (elt : Expr) (loc : Loc) (σ : St) : Option St := bnd2 (r.ev sc elt loc σ) fun v σ => appendC c v σ
noncomputable def emitD (sc : Scope) (c : Nat) (k v : Expr) (loc : Loc) (σ : St) : Option St := bnd2 (r.ev sc k loc σ) fun kv σ => bnd2 (r.ev sc v loc σ) fun vv σ => putC c kv vv σ

noncomputable def short (l : List Expr) : Bool := Nat.blt l.length 30

noncomputable def isListT : V → Bool
  | .glob (.type s) => decide (s = "list")
  | _ => false
noncomputable def valuesE (sc : Scope) (l : Str) (o : Expr) (loc : Loc) (σ : St) : Option (V × St) := bnd (nameV G sc loc l) fun f => cond (isListT f) (bnd2 (r.ev sc o loc σ) fun v σ => bnd (asCell v) fun c => bnd (dictAt σ c) fun l => cond (Nat.blt l.length 1000) (some (.lst (l.map (·.2)), σ)) none) none
noncomputable def methE (sc : Scope) (o : Expr) (a : Str) (args : List Expr) (loc : Loc) (σ : St) : Option (V × St) := bnd2 (r.ev sc o loc σ) fun v σ => bnd (methOf G σ v a) fun m => bnd2 (evs r sc args loc σ) fun vs σ => callM r v m vs σ
noncomputable def nameE (sc : Scope) (x : Str) (args : List Expr) (loc : Loc) (σ : St) : Option (V × St) := cond (dbg x) none (bnd (nameV G sc loc x) fun fv => bnd2 (evs r sc args loc σ) fun vs σ => callV G r fv vs σ)
noncomputable def evFn (sc : Scope) (args : List Expr) (pos : Pos) (loc : Loc) (σ : St) (f : Expr) : Option (V × St) :=
  obr (nameOf f) (fun x => nameE G r sc x args loc σ) (bnd3 (attrE f) fun o a apos => cond (notCall o && Nat.beq apos.endLine pos.line) (methE G r sc o a args loc σ) none)
noncomputable def evCall (sc : Scope) (f : Expr) (args : List Expr) (pos : Pos) (loc : Loc) (σ : St) : Option (V × St) :=
  cond (short args) (obr (valuesOf f args) (fun p => cond (dbg p.1) none (valuesE G r sc p.1 p.2 loc σ)) (evFn G r sc args pos loc σ f)) none

noncomputable def isOne : Option Expr → Bool
  | some (.Constant (.int n) _ _) => decide (n = 1)
  | _ => false
noncomputable def slice1 : Expr → Bool
  | .Slice a b c _ => (a.isNone && c.isNone) && isOne b
  | _ => false
noncomputable def evSlice (sc : Scope) (o : Expr) (loc : Loc) (σ : St) : Option (V × St) := bnd2 (r.ev sc o loc σ) fun v σ => bnd (asStr v) fun s => cond (Nat.blt s.length 1000) (some (.str (Txt.slice s none (some 1)), σ)) none
noncomputable def evItem (sc : Scope) (o i : Expr) (loc : Loc) (σ : St) : Option (V × St) := bnd2 (r.ev sc o loc σ) fun ov σ => bnd2 (r.ev sc i loc σ) fun iv σ => bnd (itemV σ ov iv) fun v => some (v, σ)
noncomputable def gen1 (gs : List Comprehension) : Option Comprehension := bnd (oneOf gs) fun g => cond (decide (g.is_async = 0)) (some g) none
noncomputable def listV (sc : Scope) (elt tgt iter : Expr) (ifs : List Expr) (sc' : Scope) (loc : Loc) (σ : St) : Option (V × St) :=
  cond (compOk sc sc') (bnd2 (startIt G r sc tgt iter loc σ) fun it σ => bnd (compE r (compSc sc sc') tgt ifs (emitL r (compSc sc sc') σ.next elt) 200 it (freeLoc sc' loc) (σ.new (.list []))) fun σ' => some (.cell σ.next, σ')) none
noncomputable def dictV (sc : Scope) (kx vx tgt iter : Expr) (ifs : List Expr) (sc' : Scope) (loc : Loc) (σ : St) : Option (V × St) :=
  cond (compOk sc sc') (bnd2 (startIt G r sc tgt iter loc σ) fun it σ => bnd (compE r (compSc sc sc') tgt ifs (emitD r (compSc sc sc') σ.next kx vx) 200 it (freeLoc sc' loc) (σ.new (.dict []))) fun σ' => some (.cell σ.next, σ')) none
noncomputable def isUSub : UnaryOp → Bool
  | .USub => true
  | _ => false
noncomputable def isNot : UnaryOp → Bool
  | .Not => true
  | _ => false

noncomputable def evStep (sc : Scope) (e : Expr) (loc : Loc) (σ : St) : Option (V × St) := match e with
  | .Constant c _ _ => bnd (constV c) fun v => some (v, σ)
  | .Name x _ => cond (dbg x) none (bnd (nameV G sc loc x) fun v => some (v, σ))
  | .Tuple es _ _ => cond (short es) (bnd2 (evs r sc es loc σ) fun vs σ => some (.tup vs, σ)) none
  | .List es pos => cond (short es) (bnd2 (evs r sc es loc σ) fun vs σ => some (cond (G.mutAt pos) (.cell σ.next, σ.new (.list vs)) (.lst vs, σ))) none
  | .Dict ks vs _ => cond (Nat.blt vs.length 15) (bnd2 (evPairs r sc ks vs loc σ) fun l σ => bnd (putAll l []) fun d => some (.cell σ.next, σ.new (.dict d))) none
  | .BoolOp op es _ => boolV r sc op es loc σ
  | .IfExp t a b _ => bnd2 (r.isT sc t loc σ) fun c σ => cond c (r.ev sc a loc σ) (r.ev sc b loc σ)
  | .UnaryOp op x _ => cond (isUSub op) (bnd2 (r.ev sc x loc σ) fun v σ => bnd (asInt v) fun i => some (.int (-i), σ)) none
  | .Compare l ops xs _ => bnd (oneOf ops) fun op => bnd (oneOf xs) fun x => bnd2 (cmpE r sc l op x loc σ) fun b σ => some (.bool b, σ)
  | .BinOp a op b _ => bnd2 (r.ev sc a loc σ) fun av σ => bnd2 (r.ev sc b loc σ) fun bv σ => bnd (binV σ op av bv) fun v => some (v, σ)
  | .Attribute o a _ => cond (notCall o) (bnd2 (r.ev sc o loc σ) fun v σ => bnd (attrV G σ v a) fun v => some (v, σ)) none
  | .Subscript o i _ => cond (slice1 i) (evSlice r sc o loc σ) (cond (isSlice i) none (evItem r sc o i loc σ))
  | .Call f args kw pos => cond kw.isEmpty (evCall G r sc f args pos loc σ) none
  | .ListComp elt gs sc' _ => bnd (gen1 gs) fun g => listV G r sc elt g.target g.iter g.ifs sc' loc σ
  | .DictComp k v gs sc' _ => bnd (gen1 gs) fun g => dictV G r sc k v g.target g.iter g.ifs sc' loc σ
  | _ => none

noncomputable def isTV (sc : Scope) (e : Expr) (loc : Loc) (σ : St) : Option (Bool × St) := bnd2 (r.ev sc e loc σ) fun v σ => bnd (asBool v) fun b => some (b, σ)
noncomputable def isTStep (sc : Scope) (e : Expr) (loc : Loc) (σ : St) : Option (Bool × St) := match e with
  | .UnaryOp op x p => cond (isNot op) (bnd2 (r.isT sc x loc σ) fun b σ => some (!b, σ)) (isTV r sc (.UnaryOp op x p) loc σ)
  | .BoolOp op es _ => allT r sc op es loc σ
  | .IfExp _ _ _ _ => none
  | .Compare l ops xs _ => bnd (oneOf ops) fun op => bnd (oneOf xs) fun x => cmpE r sc l op x loc σ
  | e => isTV r sc e loc σ

noncomputable def asgSeq (g : Expr → V → Loc → St → Option (Loc × St)) : List Expr → List V → Loc → St → Option (Loc × St)
  | [], vs, loc, σ => cond vs.isEmpty (some (loc, σ)) none
  | t :: ts, vs, loc, σ => cond (notStar t) (bnd2 (unc vs) fun v vs => bnd2 (g t v loc σ) fun loc σ => asgSeq g ts vs loc σ) none

noncomputable def asgStep (sc : Scope) (t : Expr) (v : V) (loc : Loc) (σ : St) : Option (Loc × St) := match t with
  | .Name x _ => bnd (lookS x sc.names) fun q => cond (isLC q) (some (setL x v loc, σ)) none
  | .Tuple ts _ _ => bnd (seqOf σ v) fun l => cond (sameLen ts l) (asgSeq (r.asg sc) ts l loc σ) none
  | .Attribute o a _ => bnd2 (r.ev sc o loc σ) fun ov σ => bnd (setAttrV G σ ov a v) fun σ => some (loc, σ)
  | .Subscript o i _ => cond (isSlice i) none (bnd2 (r.ev sc o loc σ) fun ov σ => bnd2 (r.ev sc i loc σ) fun iv σ => bnd (storeV σ ov iv v) fun σ => some (loc, σ))
  | _ => none

noncomputable def flw (loc : Loc) (σ : St) (x : Option (Fl × Loc × St)) : Fl → Option (Fl × Loc × St)
  | .next => x
  | .ret v => some (.ret v, loc, σ)
noncomputable def forE (sc : Scope) (tgt : Expr) (body : List Stmt) : Nat → It → Loc → St → Option (Fl × Loc × St)
  | 0, _, _, _ => none
  | k + 1, it, loc, σ => bnd (nextIt σ it) fun q => obr q (fun p => bnd2 (r.asg sc tgt p.1 loc σ) fun loc σ => bnd3 (r.exs sc body loc σ) fun f loc σ => flw loc σ (forE sc tgt body k p.2 loc σ) f) (some (.next, loc, σ))

noncomputable def whileE (sc : Scope) (test : Expr) (body : List Stmt) : Nat → Loc → St → Option (Fl × Loc × St)
  | 0, _, _ => none
  | k + 1, loc, σ => bnd2 (r.isT sc test loc σ) fun b σ => cond b (bnd3 (r.exs sc body loc σ) fun f loc σ => flw loc σ (whileE sc test body k loc σ) f) (some (.next, loc, σ))

noncomputable def isLocO : Option NameKind → Bool
  | some .local => true
  | _ => false
noncomputable def allLocal (sc : Scope) : List Expr → Bool
  | [] => true
  | t :: r => cond (isLocO (bnd (nameOf t) fun x => lookS x sc.names)) (allLocal sc r) false
noncomputable def swapT (sc : Scope) (ts vs : List Expr) : Bool := cond (allLocal sc ts) (!(vs.all (constantsAlone 8)) || vs.all (foldedForSure 8)) true
noncomputable def swapOk (sc : Scope) (t e : Expr) : Bool := (notStar t && !Nat.beq t.ctorIdx 24) && obr (tupleE t) (fun ts => obr (tupleE e) (swapT sc ts) true) true
noncomputable def bothTup (sc : Scope) (t e : Expr) : Bool := obr (tupleE t) (fun ts => isTupE e && allLocal sc ts) false
noncomputable def asgS (sc : Scope) (t e : Expr) (v : V) (loc : Loc) (σ : St) : Option (Loc × St) := cond (bothTup sc t e) (bnd (asgLocN sc σ 1 t v loc) fun loc => some (loc, σ)) (r.asg sc t v loc σ)

noncomputable def exS (sc : Scope) (s : Stmt) (loc : Loc) (σ : St) : Option (Fl × Loc × St) := match s with
  | .Expr e _ => cond (notCall e) none (bnd2 (r.ev sc e loc σ) fun v σ => bnd (asNone v) fun _ => some (.next, loc, σ))
  | .Assign ts e _ => bnd (oneOf ts) fun t => cond (swapOk sc t e) (bnd2 (r.ev sc e loc σ) fun v σ => bnd2 (asgS r sc t e v loc σ) fun loc σ => some (.next, loc, σ)) none
  | .If t a b _ => bnd2 (r.isT sc t loc σ) fun c σ => cond c (r.exs sc a loc σ) (r.exs sc b loc σ)
  | .While t body els _ => cond els.isEmpty (whileE r sc t body 200 loc σ) none
  | .For t it body els _ => cond els.isEmpty (bnd2 (startIt G r sc t it loc σ) fun it σ => forE r sc t body 200 it loc σ) none
  | .Return e _ => bnd e fun e => bnd2 (r.ev sc e loc σ) fun v σ => some (.ret v, loc, σ)
  | _ => none

noncomputable def exsStep (sc : Scope) : List Stmt → Loc → St → Option (Fl × Loc × St)
  | [], loc, σ => some (.next, loc, σ)
  | s :: rest, loc, σ => bnd3 (exS G r sc s loc σ) fun f loc σ => flw loc σ (exsStep sc rest loc σ) f

noncomputable def bindP (params : List Str) (dflts args : List V) : Option Loc := cond (Nat.ble args.length params.length && Nat.ble params.length (args.length + dflts.length)) (some (params.zip (args ++ dflts.drop (args.length + dflts.length - params.length)))) none
noncomputable def retV : Fl → V
  | .ret v => v
  | .next => .none
noncomputable def callStep (f : Addr) (args : List V) (σ : St) : Option (V × St) := bnd (G.fn f) fun fi => bnd (bindP fi.params fi.dflts args) fun loc => bnd3 (r.exs fi.scope fi.body loc σ) fun f _ σ => some (retV f, σ)

noncomputable def step : Rec := { ev := evStep G r, isT := isTStep r, asg := asgStep G r, exs := exsStep G r, call := callStep G r }
end

noncomputable def noRec : Rec := { ev := fun _ _ _ _ => none, isT := fun _ _ _ _ => none, asg := fun _ _ _ _ _ => none, exs := fun _ _ _ _ => none, call := fun _ _ _ => none }
noncomputable def recN (G : Globals) : Nat → Rec
  | 0 => noRec
  | n + 1 => step G (recN G n)
end
section
open PySem PySem.Calls PyProof.Rows PySem.W

theorem natsEq_of : ∀ (a b : List Nat), natsEq a b = true → a = b
  | [], [], _ => rfl
  | a :: as, b :: bs, h => bC (x := natsEq as bs) h (fun h1 h2 => by rw [Nat.eq_of_beq_eq_true h1, natsEq_of as bs h2]) fun _ => nnF
theorem natsEq_self : ∀ a : List Nat, natsEq a a = true
  | [] => rfl
  | a :: as => by show cond (Nat.beq a a) _ _ = true; rw [Nat.beq_refl]; exact natsEq_self as
theorem sEq_eq {a b : Str} (h : sEq a b = true) : a = b := by
  have := natsEq_of _ _ h
  cases a; cases b; exact congrArg Str.mk (Array.toList_inj.mp this)
theorem sEq_self (a : Str) : sEq a a = true := natsEq_self _
theorem sEq_iff (a b : Str) : sEq a b = true ↔ a = b := ⟨sEq_eq, fun h => h ▸ sEq_self a⟩
theorem sEq_false {a b : Str} : sEq a b = false ↔ a ≠ b := by
  rw [← Bool.not_eq_true, sEq_iff]
theorem beq_sEq (x y : Str) : (x == y) = sEq x y := by
  rw [Bool.eq_iff_iff, sEq_iff, beq_iff_eq]
theorem lookS_eq {α : Type} (x : Str) : ∀ l : List (Str × α), lookS x l = l.lookup x
  | [] => rfl
  | p :: r => by
    show cond (sEq x p.1) (some p.2) (lookS x r) = List.lookup x ((p.1, p.2) :: r)
    rw [lookS_eq x r, ← beq_sEq, List.lookup_cons]
    cases x == p.1 <;> rfl
theorem lookS_hit {α : Type} {x : Str} {v : α} {l : List (Str × α)} : lookS x ((x, v) :: l) = some v := by
  show cond (sEq x x) _ _ = _; rw [sEq_self]; rfl
theorem lookS_miss {α : Type} {x y : Str} {v : α} {l : List (Str × α)} (h : x ≠ y) : lookS x ((y, v) :: l) = lookS x l := by
  show cond (sEq x y) _ _ = _; rw [sEq_false.mpr h]; rfl
theorem lookS_setL {α : Type} (x y : Str) (v : α) : ∀ l : List (Str × α), lookS y (setL x v l) = if y = x then some v else lookS y l
  | [] => by
    by_cases h : y = x
    · rw [if_pos h, h]; exact lookS_hit
    · rw [if_neg h]; exact lookS_miss h
  | p :: r => by
    show lookS y (cond (sEq x p.1) ((x, v) :: r) (p :: setL x v r)) = _
    cases q : sEq x p.1 with
    | true =>
      show lookS y ((x, v) :: r) = _
      by_cases h : y = x
      · rw [if_pos h, h]; exact lookS_hit
      · rw [if_neg h, lookS_miss h]; exact (lookS_miss (sEq_eq q ▸ h)).symm
    | false =>
      show cond (sEq y p.1) (some p.2) (lookS y (setL x v r)) = if y = x then some v else cond (sEq y p.1) (some p.2) (lookS y r)
      rw [lookS_setL x y v r]
      cases h : sEq y p.1 with
      | false => rfl
      | true => exact (if_neg fun z : y = x => sEq_false.mp q (z ▸ sEq_eq h)).symm
theorem natsOk_all : ∀ l : List Nat, natsOk l = true → ∀ x ∈ l, x < 1114112
  | a :: as, h, x, hx => bC (x := natsOk as) h (fun q h => by
      rcases List.mem_cons.mp hx with e | hx
      · rw [e]; exact Nat.le_of_ble_eq_true q
      · exact natsOk_all as h x hx) fun _ => nnF
theorem okS_strOk {s : Str} (h : okS s = true) : PyData.strOk s = true := by
  unfold PyData.strOk
  rw [← Array.all_toList, List.all_eq_true]
  exact fun x hx => decide_eq_true (natsOk_all _ h x hx)

theorem lookN_hit {i : Nat} {c : Cell} {l : List (Nat × Cell)} : lookN i ((i, c) :: l) = some c := by
  show cond (Nat.beq i i) _ _ = _; rw [Nat.beq_refl]; rfl
theorem beq_f {i j : Nat} (h : i ≠ j) : Nat.beq i j = false := by
  rw [← Bool.not_eq_true]; exact fun q => h (Nat.eq_of_beq_eq_true q)
theorem lookN_miss {i j : Nat} {c : Cell} {l : List (Nat × Cell)} (h : j ≠ i) : lookN j ((i, c) :: l) = lookN j l := by
  show cond (Nat.beq i j) _ _ = _; rw [beq_f h.symm]; rfl
theorem lookN_setC (i j : Nat) (c : Cell) : ∀ l, lookN j (setC i c l) = if j = i then some c else lookN j l
  | [] => by
    by_cases h : j = i
    · rw [if_pos h, h]; exact lookN_hit
    · rw [if_neg h]; exact lookN_miss h
  | p :: r => by
    show lookN j (cond (Nat.beq p.1 i) ((i, c) :: r) (p :: setC i c r)) = _
    cases q : Nat.beq p.1 i with
    | true =>
      show lookN j ((i, c) :: r) = _
      by_cases h : j = i
      · rw [if_pos h, h]; exact lookN_hit
      · rw [if_neg h, lookN_miss h]; exact (lookN_miss (Nat.eq_of_beq_eq_true q ▸ h)).symm
    | false =>
      show cond (Nat.beq p.1 j) (some p.2) (lookN j (setC i c r)) = if j = i then some c else cond (Nat.beq p.1 j) (some p.2) (lookN j r)
      rw [lookN_setC i j c r]
      cases h : Nat.beq p.1 j with
      | false => rfl
      | true => exact (if_neg fun z : j = i => Nat.ne_of_beq_eq_false q (z ▸ Nat.eq_of_beq_eq_true h)).symm
theorem St.get_set (σ : St) (i j : Nat) (c : Cell) : (σ.set i c).get j = if j = i then some c else σ.get j := lookN_setC i j c σ.cells
theorem St.get_new (σ : St) (j : Nat) (c : Cell) : (σ.new c).get j = if j = σ.next then some c else σ.get j := by
  show lookN j ((σ.next, c) :: σ.cells) = _
  by_cases h : j = σ.next
  · rw [if_pos h, h]; exact lookN_hit
  · rw [if_neg h]; exact lookN_miss h
@[simp] theorem St.next_set (σ : St) (i : Nat) (c : Cell) : (σ.set i c).next = σ.next := rfl
@[simp] theorem St.next_new (σ : St) (c : Cell) : (σ.new c).next = σ.next + 1 := rfl
section
variable {σ : St} {i : Nat} {P : Prop}
theorem listAt_get {l : List V} (e : listAt σ i = some l) : σ.get i = some (.list l) := b1 e fun c q e => by
  cases c with
  | list l' => rw [q, show l' = l from Option.some.inj e]
  | _ => exact nnO e
theorem dictAt_get {l : List (V × V)} (e : dictAt σ i = some l) : σ.get i = some (.dict l) := b1 e fun c q e => by
  cases c with
  | dict l' => rw [q, show l' = l from Option.some.inj e]
  | _ => exact nnO e
theorem instAt_get {C : Addr} {l : List (Str × V)} (e : instAt σ i = some (C, l)) : σ.get i = some (.inst C l) := b1 e fun c q e => by
  cases c with
  | inst C' l' => rw [q]; exact c2 (Q := fun a b => some (Cell.inst C' l') = some (.inst a b)) e rfl
  | _ => exact nnO e
end
theorem asNone_eq {v : V} {x : Unit} (e : asNone v = some x) : v = .none := by
  cases v <;> first | rfl | exact nnO e
theorem asBool_eq {v : V} {x : Bool} (e : asBool v = some x) : v = .bool x := by
  cases v <;> first | exact nnO e | exact congrArg V.bool (Option.some.inj e)
theorem asInt_eq {v : V} {x : Int} (e : asInt v = some x) : v = .int x := by
  cases v <;> first | exact nnO e | exact congrArg V.int (Option.some.inj e)
theorem asStr_eq {v : V} {x : Str} (e : asStr v = some x) : v = .str x := by
  cases v <;> first | exact nnO e | exact congrArg V.str (Option.some.inj e)
theorem asTup_eq {v : V} {x : List V} (e : asTup v = some x) : v = .tup x := by
  cases v <;> first | exact nnO e | exact congrArg V.tup (Option.some.inj e)
theorem asCell_eq {v : V} {x : Nat} (e : asCell v = some x) : v = .cell x := by
  cases v <;> first | exact nnO e | exact congrArg V.cell (Option.some.inj e)
theorem asGlob_eq {v : V} {x : Value} (e : asGlob v = some x) : v = .glob x := by
  cases v <;> first | exact nnO e | exact congrArg V.glob (Option.some.inj e)

theorem get_ne {h : Heap} {a b : Addr} {o : Obj} (e : h.get? b = some o) (n : h.get? a = none) : b ≠ a := fun q => nnP (e.symm.trans ((congrArg h.get? q).trans n))
theorem keep_none {h₀ h : Heap} {a : Addr} (k : ∀ b o, h₀.get? b = some o → h.get? b = some o) (n : h.get? a = none) : h₀.get? a = none := by
  cases e : h₀.get? a with
  | none => rfl
  | some o => exact (get_ne (k _ _ e) n rfl).elim
noncomputable abbrev Pl := Nat → Addr × Addr
noncomputable def Own (ρ : Pl) (n : Nat) (a : Addr) : Prop := ∃ i, i < n ∧ (a = (ρ i).1 ∨ a = (ρ i).2)
noncomputable def seqCls (o : Obj) : Prop := ∃ items k, o.data = .seq items k

mutual
inductive Val (h : Heap) (ρ : Pl) (n : Nat) : Value → V → Prop
  | none : Val h ρ n .none .none
  | bool (b : Bool) : Val h ρ n (.bool b) (.bool b)
  | int (i : Int) (t : Tok) : Val h ρ n (.int i t) (.int i)
  | str (s : Str) (t : Tok) : Val h ρ n (.str s t) (.str s)
  | tup {a : Addr} {items : Array Value} {k : Nat} {l : List V} : h.get? a = some { cls := .type "tuple", data := .seq items k } → ¬ Own ρ n a → Vals h ρ n items.toList l → Val h ρ n (.ref a) (.tup l)
  | lst {a : Addr} {items : Array Value} {k : Nat} {l : List V} : h.get? a = some { cls := .type "list", data := .seq items k } → ¬ Own ρ n a → Vals h ρ n items.toList l → Val h ρ n (.ref a) (.lst l)
  | cell {i : Nat} : i < n → Val h ρ n (.ref (ρ i).1) (.cell i)
  | glob {v : Value} : handedIn v = true → Val h ρ n v (.glob v)
inductive Vals (h : Heap) (ρ : Pl) (n : Nat) : List Value → List V → Prop
  | nil : Vals h ρ n [] []
  | cons {u : Value} {us : List Value} {v : V} {vs : List V} : Val h ρ n u v → Vals h ρ n us vs → Vals h ρ n (u :: us) (v :: vs)
end

section
variable {h h' : Heap} {ρ ρ' : Pl} {n n' : Nat}
noncomputable def Froz (h : Heap) (ρ : Pl) (n : Nat) (h' : Heap) (ρ' : Pl) (n' : Nat) : Prop :=
  ∀ a o, h.get? a = some o → ¬ Own ρ n a → seqCls o → h'.get? a = some o ∧ ¬ Own ρ' n' a
theorem Val.mono (hF : Froz h ρ n h' ρ' n') (hρ : ∀ i, i < n → ρ' i = ρ i) (hn : n ≤ n') {u : Value} {v : V} (x : Val h ρ n u v) : Val h' ρ' n' u v :=
  Val.rec (motive_1 := fun u v _ => Val h' ρ' n' u v) (motive_2 := fun us vs _ => Vals h' ρ' n' us vs) .none .bool .int .str
    (fun h1 h2 _ ih => have q := hF _ _ h1 h2 ⟨_, _, rfl⟩; .tup q.1 q.2 ih) (fun h1 h2 _ ih => have q := hF _ _ h1 h2 ⟨_, _, rfl⟩; .lst q.1 q.2 ih)
    (fun {i} hi => hρ i hi ▸ .cell (Nat.lt_of_lt_of_le hi hn)) .glob .nil (fun _ _ => .cons) x
section
variable {u : Value} {P : Value → Prop}
@[elab_as_elim] theorem Val.e_none (x : Val h ρ n u .none) (k : P .none) : P u := by cases x; exact k
@[elab_as_elim] theorem Val.e_bool {b : Bool} (x : Val h ρ n u (.bool b)) (k : P (.bool b)) : P u := by cases x; exact k
@[elab_as_elim] theorem Val.e_int {i : Int} (x : Val h ρ n u (.int i)) (k : ∀ t, P (.int i t)) : P u := by cases x; exact k _
@[elab_as_elim] theorem Val.e_str {i : Str} (x : Val h ρ n u (.str i)) (k : ∀ t, P (.str i t)) : P u := by cases x; exact k _
@[elab_as_elim] theorem Val.e_cell {i : Nat} (x : Val h ρ n u (.cell i)) (k : i < n → P (.ref (ρ i).1)) : P u := by cases x; exact k ‹_›
@[elab_as_elim] theorem Val.e_glob {i : Value} (x : Val h ρ n u (.glob i)) (k : handedIn i = true → P i) : P u := by cases x; exact k ‹_›
theorem Val.q_none {v : V} {i : Unit} (e : asNone v = some i) (x : Val h ρ n u v) (k : P .none) : P u := by obtain rfl := asNone_eq e; exact x.e_none k
theorem Val.q_bool {v : V} {i : Bool} (e : asBool v = some i) (x : Val h ρ n u v) (k : P (.bool i)) : P u := by obtain rfl := asBool_eq e; exact x.e_bool k
theorem Val.q_int {v : V} {i : Int} (e : asInt v = some i) (x : Val h ρ n u v) (k : ∀ t, P (.int i t)) : P u := by obtain rfl := asInt_eq e; exact x.e_int k
theorem Val.q_str {v : V} {i : Str} (e : asStr v = some i) (x : Val h ρ n u v) (k : ∀ t, P (.str i t)) : P u := by obtain rfl := asStr_eq e; exact x.e_str k
theorem Val.q_cell {v : V} {i : Nat} (e : asCell v = some i) (x : Val h ρ n u v) (k : i < n → P (.ref (ρ i).1)) : P u := by obtain rfl := asCell_eq e; exact x.e_cell k
theorem Val.q_glob {v : V} {i : Value} (e : asGlob v = some i) (x : Val h ρ n u v) (k : handedIn i = true → P i) : P u := by obtain rfl := asGlob_eq e; exact x.e_glob k
@[elab_as_elim] theorem Val.e_tup {l : List V} (x : Val h ρ n u (.tup l)) (k : ∀ (a : Addr) (items : Array Value) (c : Nat), h.get? a = some { cls := .type "tuple", data := .seq items c } → ¬ Own ρ n a → Vals h ρ n items.toList l → P (.ref a)) : P u := by cases x; exact k _ _ _ ‹_› ‹_› ‹_›
@[elab_as_elim] theorem Val.e_lst {l : List V} (x : Val h ρ n u (.lst l)) (k : ∀ (a : Addr) (items : Array Value) (c : Nat), h.get? a = some { cls := .type "list", data := .seq items c } → ¬ Own ρ n a → Vals h ρ n items.toList l → P (.ref a)) : P u := by cases x; exact k _ _ _ ‹_› ‹_› ‹_›
theorem Val.r_tup {a : Addr} {l : List V} (x : Val h ρ n (.ref a) (.tup l)) : ∃ items c, h.get? a = some { cls := .type "tuple", data := .seq items c } ∧ Vals h ρ n items.toList l := by cases x; exact ⟨_, _, ‹_›, ‹_›⟩
theorem Val.r_lst {a : Addr} {l : List V} (x : Val h ρ n (.ref a) (.lst l)) : ∃ items c, h.get? a = some { cls := .type "list", data := .seq items c } ∧ Vals h ρ n items.toList l := by cases x; exact ⟨_, _, ‹_›, ‹_›⟩
theorem Val.r_cell {a : Addr} {i : Nat} (x : Val h ρ n (.ref a) (.cell i)) : a = (ρ i).1 := by cases x; rfl
end
section
variable {us : List Value} {P : List Value → Prop}
@[elab_as_elim] theorem Vals.e_nil (x : Vals h ρ n us []) (k : P []) : P us := by cases x; exact k
@[elab_as_elim] theorem Vals.e_cons {v : V} {vs : List V} (x : Vals h ρ n us (v :: vs)) (k : ∀ u us, Val h ρ n u v → Vals h ρ n us vs → P (u :: us)) : P us := by cases x; exact k _ _ ‹_› ‹_›
theorem Vals.e_cons2 {P : Prop} {u : Value} {v : V} {vs : List V} (x : Vals h ρ n (u :: us) (v :: vs)) (k : Val h ρ n u v → Vals h ρ n us vs → P) : P := by cases x; exact k ‹_› ‹_›
theorem Vals.ind {P : List Value → List V → Prop} {vs : List V} (x : Vals h ρ n us vs) (k0 : P [] []) (k1 : ∀ {u us v vs}, Val h ρ n u v → Vals h ρ n us vs → P us vs → P (u :: us) (v :: vs)) : P us vs :=
  Vals.rec (motive_1 := fun _ _ _ => True) (motive_2 := fun us vs _ => P us vs) trivial (fun _ => trivial) (fun _ _ => trivial) (fun _ _ => trivial) (fun _ _ _ _ => trivial) (fun _ _ _ _ => trivial) (fun _ => trivial) (fun _ => trivial) k0 (fun a b _ ih => k1 a b ih) x
end
theorem Vals.mono (hF : Froz h ρ n h' ρ' n') (hρ : ∀ i, i < n → ρ' i = ρ i) (hn : n ≤ n') {u : List Value} {v : List V} (x : Vals h ρ n u v) : Vals h' ρ' n' u v := x.ind .nil fun a _ ih => .cons (a.mono hF hρ hn) ih
theorem Vals.length {us : List Value} {vs : List V} (x : Vals h ρ n us vs) : us.length = vs.length := x.ind (P := fun us vs => us.length = vs.length) rfl fun _ _ ih => congrArg (· + 1) ih
theorem Vals.append {us us' : List Value} {vs vs' : List V} (x : Vals h ρ n us vs) (y : Vals h ρ n us' vs') : Vals h ρ n (us ++ us') (vs ++ vs') := x.ind (P := fun us vs => Vals h ρ n (us ++ us') (vs ++ vs')) y fun a _ ih => .cons a ih
theorem Vals.get {us : List Value} {vs : List V} (x : Vals h ρ n us vs) : ∀ {i : Nat} {v : V}, vs[i]? = some v → ∃ u, us[i]? = some u ∧ Val h ρ n u v := x.ind (P := fun us vs => ∀ {i : Nat} {v : V}, vs[i]? = some v → ∃ u, us[i]? = some u ∧ Val h ρ n u v) (fun {_ _} e => nnO e) fun {u us v vs} a b ih {i w} e =>
  match i, e with
  | 0, e => ⟨u, rfl, Option.some.inj e ▸ a⟩
  | _ + 1, e => ih e
theorem Vals.get_none {us : List Value} {vs : List V} (x : Vals h ρ n us vs) {i : Nat} (e : vs[i]? = none) : us[i]? = none := List.getElem?_eq_none (x.length ▸ List.getElem?_eq_none_iff.mp e)
theorem Vals.set {us : List Value} {vs : List V} (x : Vals h ρ n us vs) {w : Value} {z : V} (y : Val h ρ n w z) : ∀ i : Nat, Vals h ρ n (us.set i w) (vs.set i z) := x.ind (P := fun us vs => ∀ i : Nat, Vals h ρ n (us.set i w) (vs.set i z)) (fun _ => .nil) fun a b ih i =>
  match i with
  | 0 => .cons y b
  | i + 1 => .cons a (ih i)
theorem Val.handed {u : Value} {v : V} (x : Val h ρ n u v) : handedIn u = true := by cases x <;> first | rfl | assumption
end

structure Ext (X : Addr → Prop) (ρ : Pl) (n : Nat) (h : Heap) (ρ' : Pl) (n' : Nat) (h' : Heap) : Prop where
  le : n ≤ n'
  ext : ∀ i, i < n → ρ' i = ρ i
  pres : ∀ a o, h.get? a = some o → ¬ Own ρ n a → ¬ X a → h'.get? a = some o
  alive : ∀ a o, h.get? a = some o → ∃ o', h'.get? a = some o'
  fresh : ∀ a, Own ρ' n' a → Own ρ n a ∨ h.get? a = none
noncomputable def NoX : Addr → Prop := fun _ => False

section
variable {X : Addr → Prop} {h h' h'' : Heap} {ρ ρ' ρ'' : Pl} {n n' n'' : Nat}
theorem Ext.refl : Ext X ρ n h ρ n h := ⟨Nat.le_refl _, fun _ _ => rfl, fun _ _ e _ _ => e, fun _ o e => ⟨o, e⟩, fun _ h => .inl h⟩
theorem Own.up (le : n ≤ n') (ext : ∀ i, i < n → ρ' i = ρ i) {a : Addr} (x : Own ρ n a) : Own ρ' n' a := by
  refine ea_1_2 (x) (fun i hi e => ?_)
  exact ⟨i, Nat.lt_of_lt_of_le hi le, by rw [ext i hi]; exact e⟩
theorem Ext.notOwn (x : Ext X ρ n h ρ' n' h') {a : Addr} {o : Obj} (e : h.get? a = some o) (hn : ¬ Own ρ n a) : ¬ Own ρ' n' a := fun q => by
  rcases x.fresh a q with q | q
  · exact hn q
  · rw [e] at q; (first | exact nnP q | cases q)
theorem Ext.trans (x : Ext X ρ n h ρ' n' h') (y : Ext X ρ' n' h' ρ'' n'' h'') : Ext X ρ n h ρ'' n'' h'' := by
  refine ⟨Nat.le_trans x.le y.le, fun i hi => (y.ext i (Nat.lt_of_lt_of_le hi x.le)).trans (x.ext i hi), fun a o e hn hx => ?_, fun a o e => ?_, fun a q => ?_⟩
  · exact y.pres a o (x.pres a o e hn hx) (x.notOwn e hn) hx
  · refine ea_1_1 (x.alive a o e) (fun o' e' => ?_); exact y.alive a o' e'
  · rcases y.fresh a q with q | q
    · exact x.fresh a q
    · right
      cases e : h.get? a with
      | none => rfl
      | some o => obtain ⟨o', e'⟩ := x.alive a o e; rw [q] at e'; exact nnO e'
theorem Ext.weaken {Y : Addr → Prop} (hx : ∀ a, X a → Y a) (x : Ext X ρ n h ρ' n' h') : Ext Y ρ n h ρ' n' h' :=
  ⟨x.le, x.ext, fun a o e hn hy => x.pres a o e hn fun q => hy (hx a q), x.alive, x.fresh⟩
theorem Ext.of_noX (x : Ext NoX ρ n h ρ' n' h') : Ext X ρ n h ρ' n' h' := x.weaken fun _ q => q.elim
noncomputable def NoSeq (X : Addr → Prop) (h : Heap) : Prop := ∀ a o, X a → h.get? a = some o → ¬ seqCls o
theorem noSeq_noX : NoSeq NoX h := fun _ _ q => q.elim
theorem Ext.froz (x : Ext X ρ n h ρ' n' h') (hX : NoSeq X h) : Froz h ρ n h' ρ' n' := fun a o e hn hc => ⟨x.pres a o e hn fun q => hX a o q e hc, x.notOwn e hn⟩
theorem Ext.val (x : Ext X ρ n h ρ' n' h') (hX : NoSeq X h) {u : Value} {v : V} (y : Val h ρ n u v) : Val h' ρ' n' u v := y.mono (x.froz hX) x.ext x.le
theorem Ext.vals (x : Ext X ρ n h ρ' n' h') (hX : NoSeq X h) {u : List Value} {v : List V} (y : Vals h ρ n u v) : Vals h' ρ' n' u v := y.mono (x.froz hX) x.ext x.le
theorem Ext.of_grow (k : ∀ b o, h.get? b = some o → h'.get? b = some o) : Ext X ρ n h ρ n h' := ⟨Nat.le_refl _, fun _ _ => rfl, fun a o e _ _ => k a o e, fun a o e => ⟨o, k a o e⟩, fun _ q => .inl q⟩
theorem Ext.push (o : Obj) : Ext X ρ n h ρ n (h.push o) := .of_grow fun _ _ e => Heap.get?_push_of_some _ e
end
end
section
open PySem PySem.Calls PyProof.Rows PySem.W

section
variable (h : Heap) (ρ : Pl) (n : Nat)
inductive Flds : List DictEntry → List (Str × V) → Prop
  | nil : Flds [] []
  | cons {e : DictEntry} {es : List DictEntry} {x : Str} {t : Tok} {v : V} {l : List (Str × V)} : e.key = .str x t → Val h ρ n e.val v → Flds es l → Flds (e :: es) ((x, v) :: l)
inductive PStr : List (Str × Value) → List (V × V) → Prop
  | nil : PStr [] []
  | cons {x : Str} {u : Value} {kvs : List (Str × Value)} {v : V} {l : List (V × V)} : Val h ρ n u v → PStr kvs l → PStr ((x, u) :: kvs) ((.str x, v) :: l)
inductive PTup : List (List Str × Addr × Value) → List (V × V) → Prop
  | nil : PTup [] []
  | cons {ks : List Str} {a : Addr} {u : Value} {xs : List (List Str × Addr × Value)} {v : V} {l : List (V × V)} : Val h ρ n (.ref a) (.tup (ks.map .str)) → Val h ρ n u v → PTup xs l → PTup ((ks, a, u) :: xs) ((.tup (ks.map .str), v) :: l)

noncomputable def DictRaw (prog : Program) (w : World) (a : Addr) (xs : List (List Str × Addr × Value)) : Prop :=
  ∃ o es ep, h.get? a = some o ∧ o.ExactDict ∧ o.data = .dict es ep ∧ es.toList = xs.map (entryOfKey (tupleKind (strKind prog w))) ∧ (xs.map (·.1)).Nodup

noncomputable def StrAt (prog : Program) (w : World) (a : Addr) (kvs : List (Str × Value)) : Prop := h.DictAt (strKind prog w) a kvs kvs.length
noncomputable def CellAt (prog : Program) (w : World) (p : Addr × Addr) : Cell → Prop
  | .list l => p.2 = p.1 ∧ ∃ items k, h.get? p.1 = some { cls := .type "list", data := .seq items k } ∧ Vals h ρ n items.toList l
  | .dict l => p.2 = p.1 ∧ ((∃ kvs, StrAt h prog w p.1 kvs ∧ PStr h ρ n kvs l) ∨ (∃ xs, xs ≠ [] ∧ DictRaw h prog w p.1 xs ∧ PTup h ρ n xs l))
  | .inst C l => p.1 ≠ p.2 ∧ h.get? p.1 = some (instObj C p.2) ∧ ∃ es k, h.get? p.2 = some (dictOf es k) ∧ Flds h ρ n es l
end

section
variable {h h' : Heap} {ρ ρ' : Pl} {n n' : Nat} {prog : Program} {w : World}
theorem Flds.mono (hF : Froz h ρ n h' ρ' n') (hρ : ∀ i, i < n → ρ' i = ρ i) (hn : n ≤ n') {es : List DictEntry} {l : List (Str × V)} (x : Flds h ρ n es l) : Flds h' ρ' n' es l := by
  induction x with
  | nil => exact .nil
  | cons a b _ ih => exact .cons a (b.mono hF hρ hn) ih
theorem PStr.mono (hF : Froz h ρ n h' ρ' n') (hρ : ∀ i, i < n → ρ' i = ρ i) (hn : n ≤ n') {es : List (Str × Value)} {l : List (V × V)} (x : PStr h ρ n es l) : PStr h' ρ' n' es l := by
  induction x with
  | nil => exact .nil
  | cons a _ ih => exact .cons (a.mono hF hρ hn) ih
theorem PTup.mono (hF : Froz h ρ n h' ρ' n') (hρ : ∀ i, i < n → ρ' i = ρ i) (hn : n ≤ n') {es : List (List Str × Addr × Value)} {l : List (V × V)} (x : PTup h ρ n es l) : PTup h' ρ' n' es l := by
  induction x with
  | nil => exact .nil
  | cons a b _ ih => exact .cons (a.mono hF hρ hn) (b.mono hF hρ hn) ih
theorem DictRaw.at {a : Addr} {xs : List (List Str × Addr × Value)} (x : DictRaw h prog w a xs) (k : ∀ o, h.get? a = some o → h'.get? a = some o) : DictRaw h' prog w a xs :=
  x.elim fun o x => ⟨o, x.elim fun es x => ⟨es, x.elim fun ep x => ⟨ep, k o x.1, x.2⟩⟩⟩
theorem strAt_at {a : Addr} {kvs : List (Str × Value)} (x : StrAt h prog w a kvs) (k : ∀ o, h.get? a = some o → h'.get? a = some o) : StrAt h' prog w a kvs :=
  x.elim fun o x => ⟨o, x.elim fun es x => ⟨es, k o x.1, x.2⟩⟩
theorem dictOf_at {K : Type} [DecidableEq K] {knd : KeyKind prog w K} {a : Addr} {kvs : List (K × Value)} (x : h.DictOf knd a kvs) (k : ∀ o, h.get? a = some o → h'.get? a = some o) : h'.DictOf knd a kvs :=
  x.elim fun o x => ⟨o, x.elim fun es x => ⟨es, x.elim fun ep x => ⟨ep, k o x.1, x.2⟩⟩⟩
theorem CellAt.mono (hF : Froz h ρ n h' ρ' n') (hρ : ∀ i, i < n → ρ' i = ρ i) (hn : n ≤ n') {p : Addr × Addr} (h1 : ∀ o, h.get? p.1 = some o → h'.get? p.1 = some o) (h2 : ∀ o, h.get? p.2 = some o → h'.get? p.2 = some o)
    {c : Cell} (x : CellAt h ρ n prog w p c) : CellAt h' ρ' n' prog w p c := by
  cases c with
  | list l => exact ⟨x.1, x.2.elim fun items y => ⟨items, y.elim fun k y => ⟨k, h1 _ y.1, y.2.mono hF hρ hn⟩⟩⟩
  | dict l => exact ⟨x.1, x.2.imp (fun y => y.elim fun kvs y => ⟨kvs, strAt_at y.1 h1, y.2.mono hF hρ hn⟩) fun y => y.elim fun xs y => ⟨xs, y.1, y.2.1.at h1, y.2.2.mono hF hρ hn⟩⟩
  | inst C l => exact ⟨x.1, h1 _ x.2.1, x.2.2.elim fun es y => ⟨es, y.elim fun k y => ⟨k, h2 _ y.1, y.2.mono hF hρ hn⟩⟩⟩
theorem two_here {p : Addr × Addr} {o : Obj} (e : p.2 = p.1) (q : h.get? p.1 = some o) : (∃ o, h.get? p.1 = some o) ∧ ∃ o, h.get? p.2 = some o := ⟨⟨o, q⟩, o, by rw [e]; exact q⟩
theorem CellAt.here {p : Addr × Addr} {c : Cell} (x : CellAt h ρ n prog w p c) : (∃ o, h.get? p.1 = some o) ∧ ∃ o, h.get? p.2 = some o := by
  cases c with
  | list l => exact x.2.elim fun _ y => y.elim fun _ y => two_here x.1 y.1
  | dict l => exact x.2.elim (fun y => y.elim fun _ y => y.1.elim fun _ z => z.elim fun _ z => two_here x.1 z.1) fun y => y.elim fun _ y => y.2.1.elim fun _ z => z.elim fun _ z => z.elim fun _ z => two_here x.1 z.1
  | inst C l => exact ⟨⟨_, x.2.1⟩, x.2.2.elim fun _ y => y.elim fun _ y => ⟨_, y.1⟩⟩
end

structure Rel (prog : Program) (w : World) (h₀ : Heap) (ρ : Pl) (σ : St) (h : Heap) : Prop where
  keep : ∀ b o, h₀.get? b = some o → h.get? b = some o
  base : ∃ o, h₀.get? mainGlobals = some o
  hi : ∀ i, i < σ.next → 1 < (ρ i).1 ∧ 1 < (ρ i).2
  out : ∀ i, i < σ.next → h₀.get? (ρ i).1 = none ∧ h₀.get? (ρ i).2 = none
  live : ∀ i, i < σ.next → (∃ o, h.get? (ρ i).1 = some o) ∧ ∃ o, h.get? (ρ i).2 = some o
  apart : ∀ i j, i < σ.next → j < σ.next → i ≠ j → (ρ i).1 ≠ (ρ j).1 ∧ (ρ i).1 ≠ (ρ j).2 ∧ (ρ i).2 ≠ (ρ j).1 ∧ (ρ i).2 ≠ (ρ j).2
  cells : ∀ i c, σ.get i = some c → i < σ.next ∧ CellAt h ρ σ.next prog w (ρ i) c

section
variable {prog : Program} {w : World} {h₀ h h' : Heap} {ρ : Pl} {σ : St} {X : Addr → Prop}
theorem Rel.own_out (R : Rel prog w h₀ ρ σ h) {a : Addr} (x : Own ρ σ.next a) : h₀.get? a = none := by
  obtain ⟨i, hi, rfl | rfl⟩ := x
  · exact (R.out i hi).1
  · exact (R.out i hi).2
theorem Rel.own_live (R : Rel prog w h₀ ρ σ h) {a : Addr} (x : Own ρ σ.next a) : ∃ o, h.get? a = some o := by
  obtain ⟨i, hi, rfl | rfl⟩ := x
  · exact (R.live i hi).1
  · exact (R.live i hi).2
theorem Rel.notOwn₀ (R : Rel prog w h₀ ρ σ h) {a : Addr} {o : Obj} (e : h₀.get? a = some o) : ¬ Own ρ σ.next a := fun x => by rw [R.own_out x] at e; (first | exact nnO e | (refine c2 e ?_; clear e) | (refine c1 e ?_; clear e) | cases e)
theorem Rel.notOwn_new (R : Rel prog w h₀ ρ σ h) {a : Addr} (e : h.get? a = none) : ¬ Own ρ σ.next a := fun x => by obtain ⟨o, e'⟩ := R.own_live x; rw [e] at e'; exact nnO e'
theorem Rel.notOwn_size (R : Rel prog w h₀ ρ σ h) : ¬ Own ρ σ.next h.objs.size := R.notOwn_new (Heap.get?_none_of_le (Nat.le_refl _))

theorem Rel.big (R : Rel prog w h₀ ρ σ h) : 1 < h.objs.size := by
  refine ea_1_1 (R.base) (fun o e => ?_)
  have q : (3 : Nat) < h.objs.size := Heap.lt_size (R.keep _ _ e)
  exact Nat.lt_of_le_of_lt (by decide) q
theorem Rel.notSys (R : Rel prog w h₀ ρ σ h) {i : Nat} (hi : i < σ.next) : ((ρ i).1 == sysModules) = false := by
  have := (R.hi i hi).1
  exact beq_eq_false_iff_ne.mpr (fun q => by rw [q] at this; exact absurd this (by decide))
theorem Rel.stay (R : Rel prog w h₀ ρ σ h) (k0 : ∀ b o, h₀.get? b = some o → h'.get? b = some o) (kO : ∀ a o, Own ρ σ.next a → h.get? a = some o → h'.get? a = some o) (kF : ∀ a o, h.get? a = some o → ¬ Own ρ σ.next a → seqCls o → h'.get? a = some o) :
    Rel prog w h₀ ρ σ h' := by
  have own1 : ∀ i, i < σ.next → Own ρ σ.next (ρ i).1 := fun i hi => ⟨i, hi, .inl rfl⟩
  have own2 : ∀ i, i < σ.next → Own ρ σ.next (ρ i).2 := fun i hi => ⟨i, hi, .inr rfl⟩
  refine ⟨k0, R.base, R.hi, R.out, fun i hi => ?_, R.apart, fun i c e => ?_⟩
  · obtain ⟨⟨o, e⟩, o', e'⟩ := R.live i hi
    exact ⟨⟨o, kO _ _ (own1 i hi) e⟩, o', kO _ _ (own2 i hi) e'⟩
  · refine ea_0_2 (R.cells i c e) (fun hi C => ?_)
    exact ⟨hi, C.mono (fun a o e hn hc => ⟨kF a o e hn hc, hn⟩) (fun _ _ => rfl) (Nat.le_refl _) (fun o => kO _ o (own1 i hi)) fun o => kO _ o (own2 i hi)⟩
theorem Rel.off (R : Rel prog w h₀ ρ σ h) {a : Addr} (hs : Heap.ExtBut a h h') (hn : ¬ Own ρ σ.next a) (h0 : h₀.get? a = none) (hc : ∀ o, h.get? a = some o → ¬ seqCls o) : Rel prog w h₀ ρ σ h' := by
  refine R.stay (fun b o e => hs b o (fun q => by subst q; rw [h0] at e; (first | exact nnO e | (refine c2 e ?_; clear e) | (refine c1 e ?_; clear e) | cases e)) (R.keep b o e)) (fun b o x e => hs b o (fun q => by subst q; exact hn x) e) fun b o e _ hq => hs b o (fun q => by subst q; exact hc o e hq) e
theorem Rel.grow (R : Rel prog w h₀ ρ σ h) (k : ∀ b o, h.get? b = some o → h'.get? b = some o) : Rel prog w h₀ ρ σ h' :=
  R.stay (fun b o e => k b o (R.keep b o e)) (fun a o _ => k a o) fun a o e _ _ => k a o e
theorem Rel.push (R : Rel prog w h₀ ρ σ h) (o : Obj) : Rel prog w h₀ ρ σ (h.push o) := R.grow fun _ _ e => Heap.get?_push_of_some _ e

noncomputable def putP (ρ : Pl) (n : Nat) (p : Addr × Addr) : Pl := fun i => if i = n then p else ρ i
theorem putP_self (ρ : Pl) (n : Nat) (p : Addr × Addr) : putP ρ n p n = p := if_pos rfl
theorem putP_lt (ρ : Pl) {n i : Nat} (p : Addr × Addr) (hi : i < n) : putP ρ n p i = ρ i := if_neg (Nat.ne_of_lt hi)
theorem putP_all {T : Addr × Addr → Prop} {n : Nat} {p : Addr × Addr} (h0 : T p) (h1 : ∀ i, i < n → T (ρ i)) (i : Nat) (hi : i < n + 1) : T (putP ρ n p i) := by
  unfold putP
  split
  · exact h0
  · exact h1 i (by omega)
theorem own_put {n : Nat} {p : Addr × Addr} {a : Addr} (x : Own (putP ρ n p) (n + 1) a) : Own ρ n a ∨ a = p.1 ∨ a = p.2 :=
  x.elim fun i x => putP_all (T := fun q => (a = q.1 ∨ a = q.2) → Own ρ n a ∨ a = p.1 ∨ a = p.2) .inr (fun i hi e => .inl ⟨i, hi, e⟩) i x.1 x.2
theorem ext_put {n : Nat} {p : Addr × Addr} (k : ∀ b o, h.get? b = some o → h'.get? b = some o) (n1 : h.get? p.1 = none) (n2 : h.get? p.2 = none) : Ext X ρ n h (putP ρ n p) (n + 1) h' :=
  ⟨Nat.le_succ _, fun i hi => putP_lt ρ p hi, fun a o e _ _ => k a o e, fun a o e => ⟨o, k a o e⟩, fun a q => (own_put q).imp id fun q => q.elim (fun q => q ▸ n1) fun q => q ▸ n2⟩
noncomputable def Off (p q : Addr × Addr) : Prop := p.1 ≠ q.1 ∧ p.1 ≠ q.2 ∧ p.2 ≠ q.1 ∧ p.2 ≠ q.2
theorem Off.symm {p q : Addr × Addr} (x : Off p q) : Off q p := ⟨x.1.symm, x.2.2.1.symm, x.2.1.symm, x.2.2.2.symm⟩
theorem Rel.more (R : Rel prog w h₀ ρ σ h) {p : Addr × Addr} {c : Cell} (hp : 1 < p.1 ∧ 1 < p.2) (z : h₀.get? p.1 = none ∧ h₀.get? p.2 = none) (off : ∀ i, i < σ.next → Off (ρ i) p) (k0 : ∀ b o, h₀.get? b = some o → h'.get? b = some o)
    (F : Froz h ρ σ.next h' (putP ρ σ.next p) (σ.next + 1)) (kO : ∀ a o, Own ρ σ.next a → h.get? a = some o → h'.get? a = some o) (C : CellAt h' (putP ρ σ.next p) (σ.next + 1) prog w p c) : Rel prog w h₀ (putP ρ σ.next p) (σ.new c) h' where
  keep := k0
  base := R.base
  hi := putP_all (T := fun q => 1 < q.1 ∧ 1 < q.2) hp R.hi
  out := putP_all (T := fun q => h₀.get? q.1 = none ∧ h₀.get? q.2 = none) z R.out
  live := putP_all (T := fun q => (∃ o, h'.get? q.1 = some o) ∧ ∃ o, h'.get? q.2 = some o) C.here fun i hi => (R.live i hi).imp (fun x => x.imp fun _ => kO _ _ ⟨i, hi, .inl rfl⟩) fun x => x.imp fun _ => kO _ _ ⟨i, hi, .inr rfl⟩
  apart := fun i j hi hj hij => by
    unfold putP
    split
    · split
      · exact absurd (Eq.trans ‹i = _› (Eq.symm ‹j = _›)) hij
      · exact (off j (Nat.lt_of_le_of_ne (Nat.le_of_lt_succ hj) ‹_›)).symm
    · split
      · exact off i (Nat.lt_of_le_of_ne (Nat.le_of_lt_succ hi) ‹_›)
      · exact R.apart i j (Nat.lt_of_le_of_ne (Nat.le_of_lt_succ hi) ‹_›) (Nat.lt_of_le_of_ne (Nat.le_of_lt_succ hj) ‹_›) hij
  cells := fun i d e => by
    rw [St.get_new] at e
    by_cases q : i = σ.next
    · rw [if_pos q] at e
      rw [q, putP_self]
      exact ⟨Nat.lt_succ_self _, Option.some.inj e ▸ C⟩
    · rw [if_neg q] at e
      have y := R.cells i d e
      rw [putP_lt ρ p y.1]
      exact ⟨Nat.lt_succ_of_lt y.1, y.2.mono F (fun i hi => putP_lt ρ p hi) (Nat.le_succ _) (fun o => kO _ o ⟨i, y.1, .inl rfl⟩) fun o => kO _ o ⟨i, y.1, .inr rfl⟩⟩
theorem Rel.new (R : Rel prog w h₀ ρ σ h) {p : Addr × Addr} {c : Cell} (hp : 1 < p.1 ∧ 1 < p.2) (k : ∀ b o, h.get? b = some o → h'.get? b = some o) (n1 : h.get? p.1 = none) (n2 : h.get? p.2 = none)
    (C : CellAt h' (putP ρ σ.next p) (σ.next + 1) prog w p c) : Rel prog w h₀ (putP ρ σ.next p) (σ.new c) h' :=
  R.more hp ⟨keep_none R.keep n1, keep_none R.keep n2⟩ (fun i hi => (R.live i hi).1.elim fun _ e => (R.live i hi).2.elim fun _ e' => ⟨get_ne e n1, get_ne e n2, get_ne e' n1, get_ne e' n2⟩) (fun b o e => k b o (R.keep b o e))
    ((ext_put (X := NoX) k n1 n2).froz noSeq_noX) (fun a o _ e => k a o e) C
theorem Rel.own_ne (R : Rel prog w h₀ ρ σ h) {a b : Addr} {o : Obj} (x : Own ρ σ.next a) (e : h₀.get? b = some o) : b ≠ a := get_ne e (R.own_out x)
theorem Rel.set (R : Rel prog w h₀ ρ σ h) {i : Nat} {c : Cell} (hi : i < σ.next) {a : Addr} (ha : a = (ρ i).1 ∨ a = (ρ i).2) (hs : Heap.ExtBut a h h') (C : CellAt h' ρ σ.next prog w (ρ i) c) : Rel prog w h₀ ρ (σ.set i c) h' := by
  have oa : Own ρ σ.next a := ⟨i, hi, ha⟩
  have F : Froz h ρ σ.next h' ρ σ.next := fun b o e hn _ => ⟨hs b o (fun q => hn (q ▸ oa)) e, hn⟩
  have off : ∀ j, j < σ.next → j ≠ i → (ρ j).1 ≠ a ∧ (ρ j).2 ≠ a := fun j hj hji =>
    have y := R.apart j i hj hi hji
    ha.elim (fun e => e ▸ ⟨y.1, y.2.2.1⟩) fun e => e ▸ ⟨y.2.1, y.2.2.2⟩
  refine ⟨fun b o e => hs b o (R.own_ne oa e) (R.keep b o e), R.base, R.hi, R.out, fun j hj => ?_, R.apart, fun j d e => ?_⟩
  · by_cases q : j = i
    · exact q ▸ C.here
    · have y := off j hj q
      exact (R.live j hj).imp (fun x => x.imp fun o => hs _ o y.1) fun x => x.imp fun o => hs _ o y.2
  · rw [St.get_set] at e
    by_cases q : j = i
    · rw [if_pos q] at e
      rw [q]
      exact ⟨hi, Option.some.inj e ▸ C⟩
    · rw [if_neg q] at e
      have D := R.cells j d e
      have y := off j D.1 q
      exact ⟨D.1, D.2.mono F (fun _ _ => rfl) (Nat.le_refl _) (fun o => hs _ o y.1) fun o => hs _ o y.2⟩
theorem Rel.ext_set (R : Rel prog w h₀ ρ σ h) {i : Nat} {c : Cell} (hi : i < σ.next) {a : Addr} (ha : a = (ρ i).1 ∨ a = (ρ i).2) (hs : Heap.ExtBut a h h') (C : CellAt h' ρ σ.next prog w (ρ i) c) : Ext X ρ σ.next h ρ σ.next h' := by
  refine ⟨Nat.le_refl _, fun _ _ => rfl, fun b o e hn _ => hs b o (fun q => hn (q ▸ ⟨i, hi, ha⟩)) e, fun b o e => ?_, fun _ q => .inl q⟩
  by_cases q : b = a
  · exact q ▸ ha.elim (fun e => e ▸ C.here.1) fun e => e ▸ C.here.2
  · exact ⟨o, hs b o q e⟩
end
end
section
open PySem PySem.Calls PyProof.Rows PySem.W

structure Cx where
  K : Frag
  prog : Program
  w : World
  h₀ : Heap
  G : Globals
  mg : Str → Option Value
  mb : Str → Option Value
noncomputable abbrev Cx.M (C : Cx) : Model := model C.prog C.w
noncomputable abbrev Cx.R (C : Cx) (ρ : Pl) (σ : St) (h : Heap) : Prop := Rel C.prog C.w C.h₀ ρ σ h

noncomputable def GVal (h₀ : Heap) (u : Value) (v : V) : Prop := ∀ h ρ n, (∀ b o, h₀.get? b = some o → h.get? b = some o) → (∀ a, Own ρ n a → h₀.get? a = none) → Val h ρ n u v

structure Room (A : Around) (n : Nat) : Prop where
  handled : A.handled = none
  depth : A.depth + 4 * n ≤ 900
  units : A.units + 60 * n ≤ 9000

structure Frm (h₀ : Heap) (env : Env) (sc : Scope) (loc : Loc) (ρ : Pl) (n : Nat) (h : Heap) : Prop where
  scope : env.scope = sc
  fn : sc.kind = .function
  glob : env.globals = mainGlobals
  blt : env.builtins = builtinsNs
  ns : ∃ m, h.Ns env.locals m ∧ ∀ x v, lookS x sc.names = some .local → lookS x loc = some v → ∃ u, m x = some u ∧ Val h ρ n u v
  off : ¬ Own ρ n env.locals
  out : h₀.get? env.locals = none
  cell : ∀ x k, lookS x sc.names = some k → (k = .cell ∨ k = .free) → ∃ c o ct, env.cells.lookup x = some c ∧ h.get? c = some o ∧ o.data = .cell ct ∧ ¬ Own ρ n c ∧ h₀.get? c = none ∧ ∀ v, lookS x loc = some v → ∃ u, ct = some u ∧ Val h ρ n u v
  cdist : ∀ x y c, env.cells.lookup x = some c → env.cells.lookup y = some c → x = y
  clo : ∀ x c, env.cells.lookup x = some c → ∃ k, lookS x sc.names = some k ∧ (k = .cell ∨ k = .free)
noncomputable def Xof (env : Env) : Addr → Prop := fun a => a = env.locals ∨ ∃ x, env.cells.lookup x = some a

section
variable {h₀ h h' : Heap} {env : Env} {sc : Scope} {loc : Loc} {ρ ρ' : Pl} {n n' : Nat}
theorem ns_notSeq {a : Addr} {m : Str → Option Value} (x : h.Ns a m) : ∀ o, h.get? a = some o → ¬ seqCls o := by
  intro o e q
  refine ea_2_1 (q) (fun items k hd => ?_)
  obtain ⟨o', es, ep, ho, hd', _⟩ := x
  have : Data.seq items k = .dict es ep := hd.symm.trans ((congrArg Obj.data (Option.some.inj (e.symm.trans ho))).trans hd')
  exact nomatch this
theorem ns_obj {a : Addr} {m : Str → Option Value} (x : h.Ns a m) : ∃ o, h.get? a = some o := x.elim fun o x => x.elim fun _ x => x.elim fun _ x => ⟨o, x.1⟩
theorem ns_at {a : Addr} {m : Str → Option Value} (x : h.Ns a m) (k : ∀ o, h.get? a = some o → h'.get? a = some o) : h'.Ns a m := x.elim fun o x => ⟨o, x.elim fun es x => ⟨es, x.elim fun ep x => ⟨ep, k o x.1, x.2⟩⟩⟩
theorem cell_notSeq {o : Obj} {ct : Option Value} (hd : o.data = .cell ct) : ¬ seqCls o := fun q => q.elim fun _ q => q.elim fun _ q => nomatch hd.symm.trans q
theorem Frm.noSeq (F : Frm h₀ env sc loc ρ n h) : NoSeq (Xof env) h := by
  intro a o x e
  rcases x with x | ⟨x, hx⟩
  · exact F.ns.elim fun m y => ns_notSeq y.1 o (x ▸ e)
  · refine ea_1_2 (F.clo x a hx) (fun k hk hk' => ?_)
    obtain ⟨c, o', ct, hc, ho, hd, _⟩ := F.cell x k hk hk'
    exact cell_notSeq (Option.some.inj (e.symm.trans ((congrArg h.get? (Option.some.inj (hx.symm.trans hc))).trans ho)) ▸ hd)
theorem Frm.to (F : Frm h₀ env sc loc ρ n h) (kL : ∀ o, h.get? env.locals = some o → h'.get? env.locals = some o) (kC : ∀ x c o, env.cells.lookup x = some c → h.get? c = some o → h'.get? c = some o)
    (nO : ∀ a o, h.get? a = some o → ¬ Own ρ n a → ¬ Own ρ' n' a) (up : ∀ {u v}, Val h ρ n u v → Val h' ρ' n' u v) : Frm h₀ env sc loc ρ' n' h' where
  scope := F.scope
  fn := F.fn
  glob := F.glob
  blt := F.blt
  ns := F.ns.elim fun m y => ⟨m, ns_at y.1 kL, fun x v hx hl => (y.2 x v hx hl).imp fun u q => ⟨q.1, up q.2⟩⟩
  off := F.ns.elim fun m y => (ns_obj y.1).elim fun o e => nO _ o e F.off
  out := F.out
  cell := fun x k hk hk' => by
    refine ea_3_5 (F.cell x k hk hk') (fun c o ct hc ho hd hn r => ?_)
    exact ⟨c, o, ct, hc, kC x c o hc ho, hd, nO c o ho hn, r.1, fun v hl => (r.2 v hl).imp fun u q => ⟨q.1, up q.2⟩⟩
  cdist := F.cdist
  clo := F.clo
theorem Frm.ext (F : Frm h₀ env sc loc ρ n h) (E : Ext NoX ρ n h ρ' n' h') : Frm h₀ env sc loc ρ' n' h' :=
  F.to (fun o e => E.pres _ _ e F.off fun q => q) (fun x c o hx e => (F.clo x c hx).elim fun k hk => (F.cell x k hk.1 hk.2).elim fun c' q => q.elim fun _ q => q.elim fun _ q => E.pres _ _ e (Option.some.inj (q.1.symm.trans hx) ▸ q.2.2.2.1) fun q => q)
    (fun a o e hn => E.notOwn e hn) fun q => E.val noSeq_noX q
end

noncomputable def Same (s s' : Shared) : Prop := s'.gens = s.gens ∧ s'.os = s.os ∧ s'.drawn = s.drawn
theorem Same.refl (s : Shared) : Same s s := ⟨rfl, rfl, rfl⟩
theorem Same.trans {s s' s'' : Shared} (x : Same s s') (y : Same s' s'') : Same s s'' := ⟨y.1.trans x.1, y.2.1.trans x.2.1, y.2.2.trans x.2.2⟩
theorem Same.mk' {s : Shared} {h : Heap} {t : Nat} : Same s { s with heap := h, toks := t } := ⟨rfl, rfl, rfl⟩

inductive Post (C : Cx) (X : Addr → Prop) (ρ : Pl) (σ : St) (s : Shared) (σ' : St) (P : Pl → Heap → Prop) (s' : Shared) : Prop
  | mk (ρ' : Pl) (E : Ext X ρ σ.next s.heap ρ' σ'.next s'.heap) (R : C.R ρ' σ' s'.heap) (S : Same s s') (p : P ρ' s'.heap)
noncomputable abbrev noE : Value → Shared → Prop := fun _ _ => False
noncomputable abbrev PV (C : Cx) (ρ : Pl) (σ : St) (s : Shared) (σ' : St) (v : V) : Value → Shared → Prop := fun u => Post C NoX ρ σ s σ' fun ρ' h => Val h ρ' σ'.next u v
noncomputable abbrev PE {α : Type} (C : Cx) (ρ : Pl) (σ : St) (s : Shared) (σ' : St) (b : α) : α → Shared → Prop := fun u => Post C NoX ρ σ s σ' fun _ _ => u = b
noncomputable abbrev PF {α : Type} (C : Cx) (X : Addr → Prop) (env : Env) (sc : Scope) (ρ : Pl) (σ : St) (s : Shared) (σ' : St) (loc' : Loc) : α → Shared → Prop := fun _ => Post C X ρ σ s σ' fun ρ' h => Frm C.h₀ env sc loc' ρ' σ'.next h

section
variable {C : Cx} {X : Addr → Prop} {ρ ρ₁ : Pl} {σ σ₁ σ₂ : St} {s s₁ s₂ : Shared} {P Q : Pl → Heap → Prop}
theorem postK {α : Type} {A : Around} {m : Sem α} {P : α → Pl → Heap → Prop} {Q : α → Shared → Prop} {E : Value → Shared → Prop} (h : wpAny C.M A m (fun u => Post C X ρ σ s σ₁ (P u)) noE s)
    (k : ∀ ρ' u s', Ext X ρ σ.next s.heap ρ' σ₁.next s'.heap → C.R ρ' σ₁ s'.heap → Same s s' → P u ρ' s'.heap → Q u s') : wpAny C.M A m Q E s :=
  wpAny_mono h (fun u s' x => match x with | ⟨ρ', E', R', S', p⟩ => k ρ' u s' E' R' S' p) fun _ _ q => q.elim
theorem Post.trans (E : Ext X ρ σ.next s.heap ρ₁ σ₁.next s₁.heap) (S : Same s s₁) (x : Post C X ρ₁ σ₁ s₁ σ₂ P s₂) : Post C X ρ σ s σ₂ P s₂ :=
  let ⟨ρ', E', R', S', p⟩ := x; ⟨ρ', E.trans E', R', S.trans S', p⟩
theorem Post.mono (x : Post C X ρ σ s σ₂ P s₂) (f : ∀ ρ' h, P ρ' h → Q ρ' h) : Post C X ρ σ s σ₂ Q s₂ := let ⟨ρ', E', R', S', p⟩ := x; ⟨ρ', E', R', S', f _ _ p⟩
theorem Post.weaken {Y : Addr → Prop} (hx : ∀ a, X a → Y a) (x : Post C X ρ σ s σ₂ P s₂) : Post C Y ρ σ s σ₂ P s₂ := let ⟨ρ', E', R', S', p⟩ := x; ⟨ρ', E'.weaken hx, R', S', p⟩
theorem Post.here (R : C.R ρ σ s.heap) {t : Nat} (p : P ρ s.heap) : Post C X ρ σ s σ P { s with toks := t } := ⟨ρ, Ext.refl, R, ⟨rfl, rfl, rfl⟩, p⟩
theorem Post.here' (R : C.R ρ σ s.heap) (p : P ρ s.heap) : Post C X ρ σ s σ P s := ⟨ρ, Ext.refl, R, ⟨rfl, rfl, rfl⟩, p⟩
end

inductive FlOk (h : Heap) (ρ : Pl) (n : Nat) : Flow → Fl → Prop
  | next : FlOk h ρ n .next .next
  | ret {u : Value} {v : V} : Val h ρ n u v → FlOk h ρ n (.ret u) (.ret v)

noncomputable def isComp (e : Expr) : Bool := Nat.ble 8 e.ctorIdx && Nat.ble e.ctorIdx 10
structure Sound (C : Cx) (r : Rec) (n : Nat) : Prop where
  ev : ∀ {sc e loc σ v σ'}, r.ev sc e loc σ = some (v, σ') → ∀ {A env ρ s}, Room A n → Frm C.h₀ env sc loc ρ σ.next s.heap → C.R ρ σ s.heap →
    wpAny C.M A (eval e env) (PV C ρ σ s σ' v) noE s
  use : ∀ {sc e loc σ v σ'}, r.ev sc e loc σ = some (v, σ') → isComp e = true → ∀ {A env ρ s}, Room A n → Frm C.h₀ env sc loc ρ σ.next s.heap → C.R ρ σ s.heap →
    ∀ {u : Value → Sem Unit} {Q : Shared → Prop}, (∀ (cenv : Env) (uv : Value) (s' : Shared), s.heap.get? cenv.locals = none → (∃ ρ', Ext NoX ρ σ.next s.heap ρ' σ'.next s'.heap ∧ C.R ρ' σ' s'.heap ∧ Same s s' ∧ Val s'.heap ρ' σ'.next uv v ∧ (∃ m, s'.heap.Ns cenv.locals m) ∧ ¬ Own ρ' σ'.next cenv.locals) →
        wpAny C.M A (u uv) (fun _ s'' => (∃ m, s''.heap.Ns cenv.locals m) ∧ ∀ h', Heap.SameBut cenv.locals s''.heap h' → Q { s'' with heap := h' }) noE s') →
      wpAny C.M A (evalThenUse e env u) (fun _ => Q) noE s
  isT : ∀ {sc e loc σ b σ'}, r.isT sc e loc σ = some (b, σ') → ∀ {A env ρ s}, Room A n → Frm C.h₀ env sc loc ρ σ.next s.heap → C.R ρ σ s.heap →
    wpAny C.M A (isTrue e env (eval e env)) (PE C ρ σ s σ' b) noE s
  asg : ∀ {sc t v loc σ loc' σ'}, r.asg sc t v loc σ = some (loc', σ') → ∀ {A env ρ s u}, Room A n → Frm C.h₀ env sc loc ρ σ.next s.heap → C.R ρ σ s.heap → Val s.heap ρ σ.next u v →
    wpAny C.M A (assign t env u) (PF C (Xof env) env sc ρ σ s σ' loc') noE s
  exs : ∀ {sc ss loc σ f loc' σ'}, r.exs sc ss loc σ = some (f, loc', σ') → ∀ {A env ρ s}, Room A n → Frm C.h₀ env sc loc ρ σ.next s.heap → C.R ρ σ s.heap →
    wpAny C.M A (execs ss env) (fun fl => Post C (Xof env) ρ σ s σ' fun ρ' h => Frm C.h₀ env sc loc' ρ' σ'.next h ∧ FlOk h ρ' σ'.next fl f) noE s
  call : ∀ {f args σ v σ'}, r.call f args σ = some (v, σ') → ∀ {A ρ s us}, Room A n → C.R ρ σ s.heap → Vals s.heap ρ σ.next us args →
    codeAny C.M A (.call (.ref f) ⟨us, []⟩) (fun q s' => ∃ u, q = .ok (.ret u) ∧ Post C NoX ρ σ s σ' (fun ρ' h => Val h ρ' σ'.next u v) s') s

structure AttrOk (K : Frag) (C : Addr) (a : Str) : Prop where
  get : plainGet K C a = true
  dict : hasDictIn K C = true
  find : ∃ attr, findIn K (.ref C) a = some attr ∧ noGet K attr = true
  set : findIn K (.ref C) "__setattr__" = some (some (.builtin "object.__setattr__"))
  over : plainOver K C = true
  taker : takerIn K C a = some none
structure MethOk (K : Frag) (D : Addr) (a : Str) (f : Addr) : Prop where
  get : plainGet K D a = true
  find : findIn K (.ref D) a = some (some (.ref f))
  fn : isFn K (.ref f) = true
  keep : keepIn K (.ref f) = true
structure ClsOk (K : Frag) (D : Addr) (f : Addr) : Prop where
  make : makesIn K D = true
  find : findIn K (.ref D) "__init__" = some (some (.ref f))
  fn : typeIn K (.ref f) = some (.type "function")
  keep : keepIn K (.ref D) = true
structure GOk (C : Cx) : Prop where
  X : C.K.In C.h₀
  keep : ∀ a fi, C.G.fn a = some fi → keepIn C.K (.ref a) = true
  meth : ∀ D a f, C.G.meth D a = some f → MethOk C.K D a f
  cls : ∀ D f, C.G.cls D = some f → ClsOk C.K D f
  attr : ∀ D a, C.G.attrOk D a = true → AttrOk C.K D a
  g : C.h₀.Ns mainGlobals C.mg
  b : C.h₀.Ns builtinsNs C.mb
  nolimit : C.h₀.NoLimit
  name : ∀ x v, C.G.name x = some v → (∃ u, C.mg x = some u ∧ GVal C.h₀ u v) ∨ (C.mg x = none ∧ ∃ u, C.mb x = some u ∧ GVal C.h₀ u v)

theorem Sound.no (C : Cx) (n : Nat) : Sound C noRec n := ⟨fun h => (nomatch h), fun h => (nomatch h), fun h => (nomatch h), fun h => (nomatch h), fun h => (nomatch h), fun h => (nomatch h)⟩

section
variable {C : Cx} {r : Rec} {n : Nat} (S : Sound C r n) {sc : Scope} {loc : Loc} {σ σ' : St} {A : Around} {env : Env} {ρ : Pl} {s : Shared}

theorem kindOf_eq (F : Frm C.h₀ env sc loc ρ σ.next s.heap) (x : Str) : env.kindOf x = lookS x sc.names := by
  unfold Env.kindOf; rw [F.scope, lookS_eq]
theorem blockKind_eq (F : Frm C.h₀ env sc loc ρ σ.next s.heap) : env.blockKind = .function := by
  unfold Env.blockKind; rw [F.scope, F.fn]; rfl

theorem Name_sound (O : GOk C) {x : Str} {pos : Pos} {v : V} (h1 : dbg x = false) (e : nameV C.G sc loc x = some v) (F : Frm C.h₀ env sc loc ρ σ.next s.heap) (R : C.R ρ σ s.heap) :
    wpAny C.M A (eval (.Name x pos) env) (fun u s' => s' = s ∧ Val s.heap ρ σ.next u v) noE s := by
  have d := Bool.or_eq_false_iff.mp h1
  have hk : env.scope.kind = .function := (congrArg Scope.kind F.scope).trans F.fn
  refine wpAny_Name (b1 e fun k q e => ?_) ((beq_sEq _ _).trans d.1)
  have kx := (kindOf_eq F x).trans q
  have cel : (k = .cell ∨ k = .free) → lookS x loc = some v → ∃ c u, env.cells.lookup x = some c ∧ s.heap.IsCell c (some u) ∧ Val s.heap ρ σ.next u v := fun hk' e => by
    obtain ⟨c, o, ct, hc', ho, hd', _, hv⟩ := F.cell x k q hk'
    refine ea_1_2 (hv.2 v e) (fun u hu val => ?_)
    exact ⟨c, u, hc', ⟨o, ho, hu ▸ hd'⟩, val⟩
  cases k with
  | «local» => exact F.ns.elim fun m y => (y.2 x v q e).elim fun u z => wpAny_loadName_local hk kx y.1 z.1 ⟨rfl, z.2⟩
  | cell => exact (cel (.inl rfl) e).elim fun c z => z.elim fun u z => wpAny_loadName_cell hk kx z.1 z.2.1 ⟨rfl, z.2.2⟩
  | free => exact (cel (.inr rfl) e).elim fun c z => z.elim fun u z => wpAny_loadName_free hk kx z.1 z.2.1 ⟨rfl, z.2.2⟩ ((beq_sEq _ _).trans d.2)
  | globalImplicit =>
    have ow : ∀ a, Own ρ σ.next a → C.h₀.get? a = none := fun a x => R.own_out x
    have ng : s.heap.Ns env.globals C.mg := F.glob ▸ O.g.keeps R.keep
    rw [PyProof.Rows.loadName_read hk kx]
    refine wpAny_bind (wpAny_nsGet ng ?_)
    rcases O.name x v e with y | ⟨hu, y⟩
    · exact y.elim fun u y => y.1 ▸ wpAny_pure ⟨rfl, y.2 _ _ _ R.keep ow⟩
    · have nb : s.heap.Ns env.builtins C.mb := F.blt ▸ O.b.keeps R.keep
      exact hu ▸ wpAny_bind (wpAny_nsGet nb (y.elim fun u y => y.1 ▸ wpAny_pure ⟨rfl, y.2 _ _ _ R.keep ow⟩))
  | globalExplicit => exact nnO e
end
end
section
open PySem PySem.Calls PyProof.Rows PySem.W

theorem starEach_cons {e : Expr} (rest : List Expr) (env : Env) (h : notStar e = true) : starEach (e :: rest) env = (false, eval e env) :: starEach rest env := by
  cases e <;> first | rfl | exact nnF h

theorem cell_put {h : Heap} {ρ : Pl} {n : Nat} {D d : Addr} : Val h (putP ρ n (D, d)) (n + 1) (.ref D) (.cell n) := by
  have := Val.cell (h := h) (ρ := putP ρ n (D, d)) (Nat.lt_succ_self n)
  rw [putP_self] at this
  exact this
section
variable {C : Cx} {r : Rec} {n : Nat} (S : Sound C r n) {sc : Scope} {loc : Loc} {A : Around} {env : Env}
include S

theorem evs_sound (room : Room A n) (pos : Pos) : ∀ (es : List Expr) {σ σ' : St} {vs : List V} {ρ : Pl} {s : Shared}, evs r sc es loc σ = some (vs, σ') → Frm C.h₀ env sc loc ρ σ.next s.heap → C.R ρ σ s.heap →
    wpAny C.M A (spliced (backTo pos (starEach es env))) (fun us => Post C NoX ρ σ s σ' fun ρ' h => Vals h ρ' σ'.next us vs) noE s := by
  intro es
  induction es with
  | nil => exact fun e F R => c2 e (wpAny_pure (Post.here' R .nil))
  | cons x es ih =>
    refine fun e F R => bT e fun hs e => b2 e fun v σ₁ e1 e => b2 e fun vs σ₂ e2 e => ?_
    rw [starEach_cons es env hs]
    show wpAny C.M A (do let v ← eval x env; let here ← (pure [v] : Sem (List Value)); return here ++ (← holding here (spliced (backTo pos (starEach es env))))) _ _ _
    refine c2 e (wpAny_bind (postK (S.ev e1 room F R) fun ρ₁ u s₁ E1 R1 S1 V1 => ?_))
    refine wpAny_bind (wpAny_pure (wpAny_bind (wpAny_holding (postK (ih e2 (F.ext E1) R1) fun ρ₂ us s₂ E2 R2 S2 V2 => ?_))))
    exact wpAny_pure ⟨ρ₂, E1.trans E2, R2, S1.trans S2, .cons (E2.val noSeq_noX V1) V2⟩

omit S in
theorem evs_length (r : Rec) (es : List Expr) : ∀ (σ σ' : St) (vs : List V), evs r sc es loc σ = some (vs, σ') → vs.length = es.length := by
  induction es with
  | nil => exact fun σ σ' vs e => c2 e rfl
  | cons x es ih => exact fun σ σ' vs e => bT e fun hs e => b2 e fun v σ₁ e1 e => b2 e fun vs σ₂ e2 e => c2 e (congrArg (· + 1) (ih _ _ _ e2))
omit S in
theorem evs_small {es : List Expr} {σ σ' : St} {vs : List V} {us : List Value} {ρ : Pl} {k : Nat} {h : Heap} (hl : short es = true) (e : evs r sc es loc σ = some (vs, σ')) (X : Vals h ρ k us vs) : us.length ≤ sizeLine := by
  rw [X.length, evs_length r es σ σ' vs e, sizeLine_eq]
  exact Nat.le_trans (Nat.le_of_ble_eq_true hl) (by decide)

theorem Tuple_sound (room : Room A n) {es : List Expr} {k : Nat} {pos : Pos} {σ σ' : St} {vs : List V} {ρ : Pl} {s : Shared} (hl : short es = true) (e : evs r sc es loc σ = some (vs, σ')) (F : Frm C.h₀ env sc loc ρ σ.next s.heap) (R : C.R ρ σ s.heap) :
    wpAny C.M A (eval (.Tuple es k pos) env) (PV C ρ σ s σ' (.tup vs)) noE s := by
  rw [arm_eval_Tuple]
  refine wpAny_bind (wpAny_standAt (wpAny_bind (postK (evs_sound S room pos es e F R) fun ρ₁ us s₁ E1 R1 S1 V1 => wpAny_newTuple ?_ (evs_small hl e V1))))
  exact ⟨ρ₁, E1.trans (Ext.push _), R1.push _, S1.trans ⟨rfl, rfl, rfl⟩, .tup (k := 0) (Heap.get?_push_size _ rfl) R1.notOwn_size ((Ext.push (X := NoX) _).vals noSeq_noX V1)⟩
omit S in
theorem short_le {es : List Expr} (h : short es = true) : es.length < 30 := Nat.le_of_ble_eq_true h

theorem List_sound (room : Room A n) {es : List Expr} {pos : Pos} {σ σ' : St} {vs : List V} {ρ : Pl} {s : Shared} (hl : short es = true) (e : evs r sc es loc σ = some (vs, σ')) (F : Frm C.h₀ env sc loc ρ σ.next s.heap) (R : C.R ρ σ s.heap) :
    wpAny C.M A (eval (.List es pos) env) (fun u s' => Post C NoX ρ σ s σ' (fun ρ' h => Val h ρ' σ'.next u (.lst vs)) s' ∧ Post C NoX ρ σ s (σ'.new (.list vs)) (fun ρ' h => Val h ρ' (σ'.next + 1) u (.cell σ'.next)) s') noE s := by
  rw [arm_eval_List]
  refine wpAny_bind (wpAny_standAt (wpAny_bind (postK (evs_sound S room pos es e F R) fun ρ₁ us s₁ E1 R1 S1 V1 => wpAny_newList ?_ (evs_small hl e V1))))
  have nn : s₁.heap.get? s₁.heap.objs.size = none := Heap.get?_none_of_le (Nat.le_refl _)
  have kp : ∀ b o, s₁.heap.get? b = some o → (s₁.heap.push { cls := .type "list", data := .seq us.toArray }).get? b = some o := fun _ _ q => Heap.get?_push_of_some _ q
  have E2 : Ext NoX ρ₁ σ'.next s₁.heap (putP ρ₁ σ'.next (s₁.heap.objs.size, s₁.heap.objs.size)) (σ'.next + 1) (s₁.heap.push { cls := .type "list", data := .seq us.toArray }) := ext_put kp nn nn
  exact ⟨⟨ρ₁, E1.trans (Ext.push _), R1.push _, S1.trans ⟨rfl, rfl, rfl⟩, .lst (k := 0) (Heap.get?_push_size _ rfl) R1.notOwn_size ((Ext.push (X := NoX) _).vals noSeq_noX V1)⟩,
    _, E1.trans E2, R1.new ⟨R1.big, R1.big⟩ kp nn nn ⟨rfl, us.toArray, 0, Heap.get?_push_size _ rfl, E2.vals noSeq_noX V1⟩, S1.trans ⟨rfl, rfl, rfl⟩, cell_put⟩

omit S in
theorem Const_sound {c : Const} {k : Nat} {pos : Pos} {σ : St} {v : V} {ρ : Pl} {s : Shared} (e : constV c = some v) (R : C.R ρ σ s.heap) :
    wpAny C.M A (eval (.Constant c k pos) env) (PV C ρ σ s σ v) noE s := by
  cases c with
  | none => exact c1 e (wpAny_Constant_none (Post.here' R .none))
  | bool b => exact c1 e (wpAny_Constant_bool (Post.here' R (.bool b)))
  | int i => exact c1 e (wpAny_Constant_int (Post.here R (.int i _)))
  | str x => exact c1 e (wpAny_Constant_str (Post.here R (.str x _)))
  | _ => exact nnO e

theorem IfExp_sound (room : Room A n) {t a b : Expr} {pos : Pos} {σ σ' : St} {v : V} {ρ : Pl} {s : Shared}
    (e : (bnd2 (r.isT sc t loc σ) fun c σ => cond c (r.ev sc a loc σ) (r.ev sc b loc σ)) = some (v, σ')) (F : Frm C.h₀ env sc loc ρ σ.next s.heap) (R : C.R ρ σ s.heap) :
    wpAny C.M A (eval (.IfExp t a b pos) env) (PV C ρ σ s σ' v) noE s := by
  refine wpAny_IfExp (b2 e fun c σ₁ e1 e => postK (S.isT e1 room F R) fun ρ₁ c' s₁ E1 R1 S1 qZ => ?_)
  rw [qZ]
  cases c with
  | true => exact wpAny_mono (S.ev e room (F.ext E1) R1) (fun u s₂ q => q.trans E1 S1) fun _ _ q => q
  | false => exact wpAny_mono (S.ev e room (F.ext E1) R1) (fun u s₂ q => q.trans E1 S1) fun _ _ q => q

omit S in
theorem truthy_sound {M : Model} {v : V} {b : Bool} {u : Value} {h : Heap} {ρ : Pl} {k : Nat} {s : Shared} {Q : Bool → Shared → Prop} (e : asBool v = some b) (x : Val h ρ k u v) (q : Q b s) : wpAny M A (truthy u) Q noE s :=
  x.q_bool (P := fun u => wpAny M A (truthy u) Q noE s) e (wpAny_truthy_bool q)

theorem boolV_sound (room : Room A n) (pos : Pos) (op : BoolOp) : ∀ (es : List Expr) {σ σ' : St} {v : V} {ρ : Pl} {s : Shared}, boolV r sc op es loc σ = some (v, σ') → Frm C.h₀ env sc loc ρ σ.next s.heap → C.R ρ σ s.heap →
    wpAny C.M A (boolOp pos op (evalEach es env)) (PV C ρ σ s σ' v) noE s := by
  intro es
  induction es with
  | nil => exact fun e => nnO e
  | cons x es ih =>
    intro σ σ' v ρ s e F R
    cases es with
    | nil => exact S.ev e room F R
    | cons y es =>
      show wpAny C.M A (do let v ← eval x env; standAt pos; let t ← holding [v] (truthy v); match op, t with | .And, false | .Or, true => pure v | _, _ => boolOp pos op (evalEach (y :: es) env)) _ _ s
      refine b2 (show (bnd2 (r.ev sc x loc σ) fun v σ => bnd (asBool v) fun b => cond (stops op b) (some (v, σ)) (boolV r sc op (y :: es) loc σ)) = some (v, σ') from e) fun v₁ σ₁ e1 e => b1 e fun b q e => wpAny_bind (postK (S.ev e1 room F R) fun ρ₁ u s₁ E1 R1 S1 V1 => ?_)
      refine wpAny_bind (wpAny_standAt (wpAny_bind (wpAny_holding (truthy_sound q V1 ?_))))
      have go : boolV r sc op (y :: es) loc σ₁ = some (v, σ') → wpAny C.M A (boolOp pos op (evalEach (y :: es) env)) (PV C ρ σ s σ' v) noE s₁ := fun e => wpAny_mono (ih e (F.ext E1) R1) (fun u s₂ q => q.trans E1 S1) fun _ _ q => q
      cases op with
      | And =>
        cases b with
        | false => exact c2 e (wpAny_pure ⟨ρ₁, E1, R1, S1, V1⟩)
        | true => exact go e
      | Or =>
        cases b with
        | true => exact c2 e (wpAny_pure ⟨ρ₁, E1, R1, S1, V1⟩)
        | false => exact go e

theorem allT_sound (room : Room A n) (op : BoolOp) : ∀ (es : List Expr) {σ σ' : St} {b : Bool} {ρ : Pl} {s : Shared}, allT r sc op es loc σ = some (b, σ') → Frm C.h₀ env sc loc ρ σ.next s.heap → C.R ρ σ s.heap →
    wpAny C.M A (allTrue op es env) (PE C ρ σ s σ' b) noE s := by
  intro es
  induction es with
  | nil =>
    intro σ σ' b ρ s e F R
    cases op <;> exact c2 e (wpAny_pure (Post.here' R rfl))
  | cons x es ih =>
    intro σ σ' b ρ s e F R
    rw [arm_allTrue_cons]
    refine b2 e fun b₁ σ₁ e1 e => wpAny_bind (postK (S.isT e1 room F R) fun ρ₁ c s₁ E1 R1 S1 qZ => ?_)
    rw [qZ]
    have go : allT r sc op es loc σ₁ = some (b, σ') → wpAny C.M A (allTrue op es env) (PE C ρ σ s σ' b) noE s₁ := fun e => wpAny_mono (ih e (F.ext E1) R1) (fun u s₂ q => q.trans E1 S1) fun _ _ q => q
    cases op with
    | And =>
      cases b₁ with
      | false => exact c2 e (wpAny_pure ⟨ρ₁, E1, R1, S1, rfl⟩)
      | true => exact go e
    | Or =>
      cases b₁ with
      | true => exact c2 e (wpAny_pure ⟨ρ₁, E1, R1, S1, rfl⟩)
      | false => exact go e
end
end
section
open PySem PySem.Calls PyProof.Rows PySem.W
set_option maxRecDepth 100000

section
variable {prog : Program} {w : World} {A : Around} {E : Value → Shared → Prop} {s : Shared}
theorem mulListM {l : Addr} {items : Array Value} {k : Nat} {x : Int} {u : Tok} {Q : Value → Shared → Prop}
    (hl : s.heap.get? l = some { cls := .type "list", data := .seq items k }) (hlo : -(2 ^ 63 : Int) ≤ x) (hhi : x < 2 ^ 63) (hsz : items.size * x.toNat ≤ 2 ^ 24)
    (h : Q (.ref s.heap.objs.size) { s with heap := s.heap.push { cls := .type "list", data := .seq (List.foldl (fun x1 x2 => x1 ++ x2) #[] (List.replicate (if items.isEmpty = true then 0 else x.toNat) items)) } }) :
    wpAny (model prog w) A (binaryOp .Mult (.ref l) (.int x u)) Q E s := by
  refine wpAny_binaryOp_repeat_ref (T := "list") (U := "int") (by decide) ⟨_, hl, rfl⟩ (fun s' => typeIs_int s' x u) noFill_list_mul PySem.F.fills_int_mul PySem.F.slot_int_rmul repeat_list PySem.F.slot_int_index.lookup ?_
  refine call_meets PySem.F.slot_int_rmul (typeIs_int s x u) PySem.F.entry_int_rmul (PySem.F.args_int_rmul_2 _ _) (int___rmul___int_list x u l items k) ⟨hl, rfl, ⟨_, hl, rfl⟩, ?_⟩
  refine call_meets PySem.F.slot_list_mul ⟨_, hl, rfl⟩ PySem.F.entry_list_mul (PySem.F.args_list_mul_2 _ _) (AutoListH.list___mul___list_int_3 l items k x u ?_ ?_ ?_) ⟨hl, h⟩
  · simp [Builtin.List.listFitsIndex]; omega
  · omega
  · simp [Builtin.List.listTooLong, sizeLine]; omega
theorem addTupM {t b : Addr} {xs ys : Array Value} {n m : Nat} {Q : Value → Shared → Prop} (ht : s.heap.get? t = some { cls := .type "tuple", data := .seq xs n }) (hb : s.heap.get? b = some { cls := .type "tuple", data := .seq ys m })
    (h0 : xs.isEmpty = true → Q (.ref b) s) (h1 : xs.isEmpty = false → ys.isEmpty = true → Q (.ref t) s)
    (h2 : xs.isEmpty = false → ys.isEmpty = false → Q (.ref s.heap.objs.size) { s with heap := s.heap.push { cls := .type "tuple", data := .seq (xs ++ ys) } }) (hsz : xs.size + ys.size ≤ sizeLine) :
    wpAny (model prog w) A (binaryOp .Add (.ref t) (.ref b)) Q E s := by
  cases hv : xs.isEmpty with
  | true =>
    exact concat_meets ⟨_, ht, rfl⟩ ⟨_, hb, rfl⟩ noFill_tuple_add seq_tuple_add PySem.F.slot_tuple_add PySem.F.entry_tuple_add (PySem.F.args_tuple_add_2 _ _)
      (tuple_addW0 t b xs ys n m none none #[] #[] (by first | exact hv | simpa using hv)) ⟨ht, hb, h0 hv⟩
  | false =>
    cases hw : ys.isEmpty with
    | true =>
      exact concat_meets ⟨_, ht, rfl⟩ ⟨_, hb, rfl⟩ noFill_tuple_add seq_tuple_add PySem.F.slot_tuple_add PySem.F.entry_tuple_add (PySem.F.args_tuple_add_2 _ _)
        (tuple_addW1 t b xs ys n m none none #[] #[] (by first | exact hv | simpa using hv) (by first | exact hw | simpa using hw)) ⟨ht, hb, h1 hv hw⟩
    | false =>
      exact concat_meets ⟨_, ht, rfl⟩ ⟨_, hb, rfl⟩ noFill_tuple_add seq_tuple_add PySem.F.slot_tuple_add PySem.F.entry_tuple_add (PySem.F.args_tuple_add_2 _ _)
        (tuple_addW2 t b xs ys n m none none #[] #[] (by first | exact hv | simpa using hv) (by first | exact hw | simpa using hw) hsz) ⟨ht, hb, h2 hv hw⟩
end

theorem fits64_bits {a : Int} (h : fits64 a = true) : Builtin.Int.intBits a ≤ 64 := by
  have h1 : a.natAbs < 4611686018427387904 := Nat.le_of_ble_eq_true h
  exact intBits_le_64 (by omega) (by omega)

theorem noPy {a b : Int} (h : fits64 b = true) : Builtin.divisionGoesByPylong a b = false := by
  have h1 : b.natAbs < 4611686018427387904 := Nat.le_of_ble_eq_true h
  refine PyProof.noPylong_of_log2 ?_
  by_cases z : b.natAbs = 0
  · rw [z]; decide
  · exact Nat.lt_of_lt_of_le ((Nat.log2_lt z (k := 62)).mpr h1) (by decide)
theorem foldl_append_flatten {α : Type} : ∀ (l : List (Array α)) (a : Array α), (List.foldl (fun x y => x ++ y) a l).toList = a.toList ++ (l.map Array.toList).flatten
  | [], a => by simp
  | x :: l, a => by rw [List.foldl_cons, foldl_append_flatten l (a ++ x)]; simp
theorem Vals.flatten {h : Heap} {ρ : Pl} {n : Nat} {us : List Value} {vs : List V} (x : Vals h ρ n us vs) : ∀ k : Nat, Vals h ρ n (List.replicate k us).flatten (List.replicate k vs).flatten
  | 0 => .nil
  | k + 1 => by rw [List.replicate_succ, List.replicate_succ, List.flatten_cons, List.flatten_cons]; exact x.append (Vals.flatten x k)

section
variable {C : Cx} {A : Around} {σ : St} {ρ : Pl} {s : Shared}
theorem listOf_at (R : C.R ρ σ s.heap) {u : Value} {v : V} {l : List V} (x : Val s.heap ρ σ.next u v) (e : listOf σ v = some l) :
    ∃ p items k, u = .ref p ∧ s.heap.get? p = some { cls := .type "list", data := .seq items k } ∧ Vals s.heap ρ σ.next items.toList l := by
  cases v with
  | lst l' => exact x.e_lst fun a items k ho _ vs => ⟨a, items, k, rfl, ho, Option.some.inj e ▸ vs⟩
  | cell i => exact x.e_cell fun _ => (R.cells _ _ (listAt_get e)).2.2.elim fun items y => y.elim fun k y => ⟨_, items, k, rfl, y.1, y.2⟩
  | _ => exact nnO e
theorem push_val (R : C.R ρ σ s.heap) {items : Array Value} {l : List V} (hv : Vals s.heap ρ σ.next items.toList l) :
    Post C NoX ρ σ s σ (fun ρ' h => Val h ρ' σ.next (.ref s.heap.objs.size) (.lst l)) { s with heap := s.heap.push { cls := .type "list", data := .seq items } } :=
  ⟨ρ, Ext.push _, R.push _, ⟨rfl, rfl, rfl⟩, .lst (k := 0) (Heap.get?_push_size _ rfl) R.notOwn_size ((Ext.push (X := NoX) _).vals noSeq_noX hv)⟩
theorem push_tup (R : C.R ρ σ s.heap) {items : Array Value} {l : List V} (hv : Vals s.heap ρ σ.next items.toList l) :
    Post C NoX ρ σ s σ (fun ρ' h => Val h ρ' σ.next (.ref s.heap.objs.size) (.tup l)) { s with heap := s.heap.push { cls := .type "tuple", data := .seq items } } :=
  ⟨ρ, Ext.push _, R.push _, ⟨rfl, rfl, rfl⟩, .tup (k := 0) (Heap.get?_push_size _ rfl) R.notOwn_size ((Ext.push (X := NoX) _).vals noSeq_noX hv)⟩
theorem vals_nil_left {h : Heap} {n : Nat} {items : Array Value} {l : List V} (x : Vals h ρ n items.toList l) (e : items.isEmpty = true) : l = [] :=
  List.eq_nil_of_length_eq_zero (x.length.symm.trans (by rw [Array.isEmpty_iff.mp e]; rfl))
theorem vals_size {h : Heap} {n : Nat} {items : Array Value} {l : List V} (x : Vals h ρ n items.toList l) : items.size = l.length := x.length

theorem addList_sound (R : C.R ρ σ s.heap) {ua ub : Value} {a b : V} {x y : List V} (Va : Val s.heap ρ σ.next ua a) (Vb : Val s.heap ρ σ.next ub b) (ea : listOf σ a = some x) (eb : listOf σ b = some y) (hl : Nat.blt (x.length + y.length) 1000 = true) :
    wpAny C.M A (binaryOp .Add ua ub) (PV C ρ σ s σ (.lst (x ++ y))) noE s := by
  refine ea_3_3 (listOf_at R Va ea) (fun p ip kp qp hp vp => ?_)
  refine ea_3_3 (listOf_at R Vb eb) (fun q iq kq qq hq vq => ?_)
  rw [qp, qq]
  refine PySem.P.add_list hp hq (push_val R ?_) ?_
  · rw [Array.toList_append]; exact vp.append vq
  · rw [vals_size vp, vals_size vq, sizeLine_eq]
    exact Nat.le_trans (Nat.le_of_ble_eq_true hl) (by decide)

theorem mulL_sound (R : C.R ρ σ s.heap) {ua ub : Value} {l : List V} {b : Int} (Va : Val s.heap ρ σ.next ua (.lst l)) (Vb : Val s.heap ρ σ.next ub (.int b)) (q1 : 0 ≤ b) (q2 : b ≤ 8) (q3 : l.length < 100) :
    wpAny C.M A (binaryOp .Mult ua ub) (PV C ρ σ s σ (.lst (List.replicate b.toNat l).flatten)) noE s := by
  refine Vb.e_int fun t => Va.e_lst fun a items k h1 n1 v1 => ?_
  have e1 := vals_size v1
  refine mulListM h1 (Int.le_trans (by decide) q1) (Int.lt_of_le_of_lt q2 (by decide)) ?_ (push_val R ?_)
  · refine Nat.le_trans (Nat.mul_le_mul (Nat.le_of_lt (e1 ▸ q3)) (Int.toNat_le_toNat q2)) (by decide)
  · rw [foldl_append_flatten]
    cases hz : items.isEmpty with
    | true =>
      rw [vals_nil_left v1 hz]
      simp
      exact .nil
    | false =>
      have := v1.flatten b.toNat
      rwa [← List.map_replicate] at this
theorem int2_sound {op : Operator} {a b v : V} {ua ub : Value} {f : Int → Int → Option V} {Q : Value → Shared → Prop} (Va : Val s.heap ρ σ.next ua a) (Vb : Val s.heap ρ σ.next ub b) (e : int2 a b f = some v) (k : ∀ x y t t', f x y = some v → wpAny C.M A (binaryOp op (.int x t) (.int y t')) Q noE s) : wpAny C.M A (binaryOp op ua ub) Q noE s :=
  b1 e fun _ q e => b1 e fun _ q' e => Va.q_int (P := fun u => wpAny C.M A (binaryOp op u ub) Q noE s) q fun t => Vb.q_int (P := fun u => wpAny C.M A (binaryOp op _ u) Q noE s) q' fun t' => k _ _ t t' e
theorem add_sound (R : C.R ρ σ s.heap) {ua ub : Value} {a b v : V} (Va : Val s.heap ρ σ.next ua a) (Vb : Val s.heap ρ σ.next ub b) (e : addV σ a b = some v) :
    wpAny C.M A (binaryOp .Add ua ub) (PV C ρ σ s σ v) noE s := by
  have lists : addL σ a b = some v → wpAny C.M A (binaryOp .Add ua ub) (PV C ρ σ s σ v) noE s := fun e =>
    b1 e fun x ea e => b1 e fun y eb e => bT e fun hl e => c1 e (addList_sound R Va Vb ea eb hl)
  cases a with
  | int x => exact b1 e fun y q e => c1 e (Va.e_int fun t => Vb.q_int (P := fun u => wpAny C.M A (binaryOp .Add _ u) _ noE s) q fun t' => PyProof.Rows.add_int (Post.here R (.int _ _)))
  | str x =>
    exact b1 e fun y q e => bT e fun hl e => c1 e (Va.e_str fun t => Vb.q_str (P := fun u => wpAny C.M A (binaryOp .Add _ u) _ noE s) q fun t' => PyProof.Rows.add_str (fun t' tk => Post.here R (.str _ _)) (by
      rw [sizeLine_eq]; exact Nat.le_trans (Nat.le_of_ble_eq_true hl) (by decide)))
  | tup x =>
    refine b1 e fun y q e => bT e fun hl e => c1 e ?_
    obtain rfl := asTup_eq q
    refine Va.e_tup fun p xs k h1 n1 v1 => Vb.e_tup fun p' ys k' h2 n2 v2 => addTupM h1 h2 (fun z => ?_) (fun _ z => ?_) (fun _ _ => ?_) ?_
    · rw [vals_nil_left v1 z]
      exact Post.here' R (.tup h2 n2 v2)
    · rw [vals_nil_left v2 z, List.append_nil]
      exact Post.here' R (.tup h1 n1 v1)
    · refine push_tup R ?_
      rw [Array.toList_append]; exact v1.append v2
    · rw [vals_size v1, vals_size v2, sizeLine_eq]
      exact Nat.le_trans (Nat.le_of_ble_eq_true hl) (by decide)
  | _ => exact lists e
theorem mul_sound (R : C.R ρ σ s.heap) {ua ub : Value} {a b v : V} (Va : Val s.heap ρ σ.next ua a) (Vb : Val s.heap ρ σ.next ub b) (e : mulV a b = some v) :
    wpAny C.M A (binaryOp .Mult ua ub) (PV C ρ σ s σ v) noE s := by
  cases a with
  | int x => exact b1 e fun y q e => bT e fun hl e => c1 e (Va.e_int fun t => Vb.q_int (P := fun u => wpAny C.M A (binaryOp .Mult _ u) _ noE s) q fun t' => PyProof.Rows.mul_int (Post.here R (.int _ _)) (.of_left (fits64_bits (Bool.and_eq_true_iff.mp hl).1)))
  | lst x =>
    refine b1 e fun y q e => bT e fun hl e => c1 e ?_
    obtain rfl := asInt_eq q
    refine bA hl fun h1 h3 => bA h1 fun h1 h2 => mulL_sound R Va Vb (of_decide_eq_true h1) (of_decide_eq_true h2) (Nat.le_of_ble_eq_true h3)
  | _ => exact nnO e
theorem nz {b : Int} (h : (!Nat.beq b.natAbs 0) = true) : b ≠ 0 := fun z => by rw [z] at h; exact nnF h
theorem bin_sound (R : C.R ρ σ s.heap) {op : Operator} {ua ub : Value} {a b v : V} (Va : Val s.heap ρ σ.next ua a) (Vb : Val s.heap ρ σ.next ub b) (e : binV σ op a b = some v) :
    wpAny C.M A (binaryOp op ua ub) (PV C ρ σ s σ v) noE s := by
  cases op with
  | Add => exact add_sound R Va Vb e
  | Sub => exact int2_sound Va Vb e fun x y t t' e => c1 e (PyProof.Rows.sub_int (Post.here R (.int _ _)))
  | Mult => exact mul_sound R Va Vb e
  | FloorDiv => exact int2_sound Va Vb e fun x y t t' e => bT e fun hl e => bA hl fun h1 h2 => c1 e (PyProof.Rows.floordiv_int (nz h1) (Post.here R (.int _ _)) (.inl (noPy h2)))
  | Mod => exact int2_sound Va Vb e fun x y t t' e => bT e fun hl e => bA hl fun h1 h2 => c1 e (PyProof.Rows.mod_int' (nz h1) (Post.here R (.int _ _)))
  | Pow =>
    refine int2_sound Va Vb e fun x y t t' e => bT e fun hl e => bA hl fun h1 h2 => bA h2 fun h2 h3 => c1 e (PyProof.Rows.pow_int (of_decide_eq_true h2) ?_ (Post.here R (.int _ _)))
    have : ((Builtin.Int.intBits x : Nat) : Int) * y ≤ 64 * 1000 := Int.mul_le_mul (by exact_mod_cast fits64_bits h1) (of_decide_eq_true h3) (of_decide_eq_true h2) (by decide)
    exact Int.le_trans this (by decide)
  | _ => exact nnO e
end
end
section
open PySem PySem.Calls PyProof.Rows PySem.W PySem.SeqAt
set_option maxRecDepth 100000

noncomputable def toPP (t : List V → PyData) : V → PyData
  | .bool b => .bool b
  | .int i => .int i
  | .str s => .str s
  | .tup l => t l
  | _ => .none
noncomputable def toP : Nat → V → PyData
  | 0 => toPP fun _ => .none
  | n + 1 => toPP fun l => .tuple (l.map (toP n))
noncomputable abbrev toPs (n : Nat) (l : List V) : List PyData := l.map (toP n)

theorem allBy_iff {f : V → Bool} : ∀ {l : List V}, allBy f l = true ↔ ∀ v ∈ l, f v = true
  | [] => ⟨(fun _ v h => nomatch h), fun _ => rfl⟩
  | v :: r => by
    show (cond (f v) (allBy f r) false) = true ↔ _
    rw [List.forall_mem_cons, ← allBy_iff (l := r)]
    cases f v with
    | true => exact ⟨(fun h => ⟨rfl, h⟩), fun h => h.2⟩
    | false => exact ⟨(fun h => nnF h), fun h => h.1⟩

section
variable {h : Heap} {ρ : Pl} {k : Nat}
theorem reads_all (n : Nat) (ih : ∀ {u : Value} {v : V}, Val h ρ k u v → pureN n v = true → ∃ as, Reads h u (toP n v) as) {us : List Value} {vs : List V} (X : Vals h ρ k us vs) : (∀ v ∈ vs, pureN n v = true) → ∃ as, ReadsAll h us (toPs n vs) as :=
  X.ind (P := fun us vs => (∀ v ∈ vs, pureN n v = true) → ∃ as, ReadsAll h us (toPs n vs) as) (fun _ => ⟨_, .nil⟩) fun a _ r hp => (ih a (hp _ (.head _))).elim fun as q => (r fun v hv => hp v (.tail _ hv)).elim fun bs z => ⟨_, .cons q z⟩
theorem reads_P {t : List V → Bool} {T : List V → PyData} (tup : ∀ {a items c l}, h.get? a = some { cls := .type "tuple", data := .seq items c } → Vals h ρ k items.toList l → t l = true → ∃ as, Reads h (.ref a) (T l) as)
    {u : Value} {v : V} (x : Val h ρ k u v) (hp : pureP t v = true) : ∃ as, Reads h u (toPP T v) as := by
  cases v with
  | none => exact x.e_none ⟨[], .none⟩
  | bool b => exact x.e_bool ⟨[], .bool b⟩
  | int i => exact x.e_int fun t => ⟨[], .int i t⟩
  | str s => exact x.e_str fun t => ⟨[], .str s t⟩
  | tup l => exact x.e_tup fun a items c h1 _ r => tup h1 r hp
  | _ => exact nnF hp
theorem reads_of : ∀ (n : Nat) {u : Value} {v : V}, Val h ρ k u v → pureN n v = true → ∃ as, Reads h u (toP n v) as
  | 0 => reads_P fun _ _ q => nnF q
  | n + 1 => reads_P fun h1 r q => (reads_all n (fun x y => reads_of n x y) r (allBy_iff.mp q)).elim fun as z => ⟨as, .tuple h1 rfl rfl z⟩
end

noncomputable def Lays (n : Nat) (d : PyData) : Prop := d.canLay0 = true ∧ d.depth ≤ n
theorem lay_all (n : Nat) (ih : ∀ v, pureN n v = true → Lays n (toP n v)) : ∀ vs : List V, (∀ v ∈ vs, pureN n v = true) → PyData.canLayAll0 (toPs n vs) = true ∧ PyData.depthAll (toPs n vs) ≤ n
  | [], _ => ⟨rfl, Nat.zero_le _⟩
  | v :: r, hp => by
    have h1 := ih v (hp v (.head _))
    have h2 := lay_all n ih r fun w hw => hp w (.tail _ hw)
    simp only [toPs, List.map_cons, PyData.canLayAll0, PyData.depthAll, h1.1, h2.1, Bool.and_self, true_and]
    exact Nat.max_le.mpr ⟨h1.2, h2.2⟩
theorem lay_P {n : Nat} {t : List V → Bool} {T : List V → PyData} (tup : ∀ l, t l = true → Lays n (T l)) (v : V) (hp : pureP t v = true) : Lays n (toPP T v) := by
  cases v with
  | str s => exact ⟨okS_strOk hp, Nat.zero_le _⟩
  | tup l => exact tup l hp
  | lst l => exact nnF hp
  | cell l => exact nnF hp
  | glob l => exact nnF hp
  | _ => exact ⟨rfl, Nat.zero_le _⟩
theorem lay_of : ∀ (n : Nat) (v : V), pureN n v = true → Lays n (toP n v)
  | 0 => lay_P fun _ q => nnF q
  | n + 1 => lay_P fun l q => by
    have z := lay_all n (lay_of n) l (allBy_iff.mp q)
    unfold Lays
    simp only [PyData.canLay0, PyData.depth]
    exact ⟨z.1, Nat.succ_le_succ z.2⟩

theorem eqv_all (n : Nat) (ih : ∀ a b r, eqN n a b = some r → PyData.eqv (toP n a) (toP n b) = r) : ∀ (as bs : List V) (r : Bool), eqVsBy (eqN n) as bs = some r → PyData.eqvAll (toPs n as) (toPs n bs) = r
  | [], [], r, e => Option.some.inj e
  | [], _ :: _, r, e => Option.some.inj e
  | _ :: _, [], r, e => Option.some.inj e
  | a :: as, b :: bs, r, e => b1 (show (bnd (eqN n a b) fun c => cond c (eqVsBy (eqN n) as bs) (some false)) = some r from e) fun c q e => by
    show (PyData.eqv (toP n a) (toP n b) && PyData.eqvAll (toPs n as) (toPs n bs)) = r
    rw [ih a b c q]
    cases c with
    | true => exact eqv_all n ih as bs r e
    | false => exact Option.some.inj e
theorem beq_dec (x y : Int) : (x == y) = decide (x = y) := by
  by_cases q : x = y <;> simp [q]
theorem eqv_P {t : List V → List V → Option Bool} {T : List V → PyData} (tup : ∀ x y r, t x y = some r → PyData.eqv (T x) (T y) = r) (a b : V) (r : Bool) (e : eqP t a b = some r) : PyData.eqv (toPP T a) (toPP T b) = r := by
  cases a with
  | none => exact b1 e fun y q e => by obtain rfl := asNone_eq q; exact Option.some.inj e
  | bool x => exact b1 e fun y q e => by obtain rfl := asBool_eq q; exact Option.some.inj e
  | int x => exact b1 e fun y q e => by obtain rfl := asInt_eq q; exact (beq_dec x y).trans (Option.some.inj e)
  | str x => exact b1 e fun y q e => by obtain rfl := asStr_eq q; exact (beq_sEq x y).trans (Option.some.inj e)
  | tup x => exact b1 e fun y q e => by obtain rfl := asTup_eq q; exact tup x y r e
  | _ => exact nnO e
theorem eqv_of : ∀ (n : Nat) (a b : V) (r : Bool), eqN n a b = some r → PyData.eqv (toP n a) (toP n b) = r
  | 0 => eqv_P fun _ _ _ e => nnO e
  | n + 1 => eqv_P (eqv_all n (eqv_of n))
theorem sameLen_iff {α β : Type} : ∀ {a : List α} {b : List β}, sameLen a b = true ↔ a.length = b.length
  | [], [] => ⟨(fun _ => rfl), fun _ => rfl⟩
  | [], _ :: _ => ⟨(fun h => nnF h), fun h => nomatch h⟩
  | _ :: _, [] => ⟨(fun h => nnF h), fun h => nomatch h⟩
  | _ :: a, _ :: b => ⟨(fun h => congrArg (· + 1) ((sameLen_iff (a := a) (b := b)).mp h)), fun h => (sameLen_iff (a := a) (b := b)).mpr (Nat.succ.inj h)⟩

section
variable {C : Cx} {A : Around} {σ : St} {ρ : Pl} {s : Shared}
theorem room_units {n : Nat} (r : Room A n) : A.units + 64 < cLine := by
  have := r.units
  have : cLine = 9900 := rfl
  omega

theorem pure_reads {u : Value} {v : V} (x : Val s.heap ρ σ.next u v) (p : pureV v = true) : ∃ as, Reads s.heap u (toP 8 v) as := reads_of 8 x p
theorem shaped_of {v : V} (p : pureV v = true) : shaped (toP 8 v) = true := Bool.and_eq_true_iff.mpr ⟨(lay_of 8 v p).1, decide_eq_true (Nat.le_trans (lay_of 8 v p).2 (by decide))⟩
theorem shaped_list {l : List V} (p : ∀ v ∈ l, pureN 8 v = true) : shaped (.list (toPs 8 l)) = true := by
  have q := lay_all 8 (lay_of 8) l p
  unfold shaped
  simp only [PyData.canLay0, PyData.depth, q.1, Bool.true_and]
  exact decide_eq_true (Nat.le_trans (Nat.succ_le_succ q.2) (by decide))

noncomputable abbrev NegTo (C : Cx) (A : Around) (op nop : CmpOp) (neg : Bool) (ua ub : Value) (ρ : Pl) (σ : St) (s : Shared) (r : Bool) : Prop := wpAny C.M A (compareOp (if neg then nop else op) ua ub) (PE C ρ σ s σ (.bool (if neg then !r else r))) noE s
theorem shaped_eq {n : Nat} (room : Room A n) (R : C.R ρ σ s.heap) (neg : Bool) {ua ub : Value} {x y : PyData} {as bs : List Addr} {r : Bool} (ra : Reads s.heap ua x as) (rb : Reads s.heap ub y bs) (sx : shaped x = true) (sy : shaped y = true) (hr : PyData.eqv x y = r) : NegTo C A .Eq .NotEq neg ua ub ρ σ s r := by
  cases neg with
  | false => exact compareEq_shaped ra rb sx sy (room_units room) (hr ▸ Post.here' R rfl)
  | true => exact compareNe_shaped ra rb sx sy (room_units room) (hr ▸ Post.here' R rfl)
theorem eqLists_sound {n : Nat} (room : Room A n) (R : C.R ρ σ s.heap) (neg : Bool) {p q : Addr} {ip iq : Array Value} {kp kq : Nat} {x y : List V} {r : Bool} (hp : s.heap.get? p = some { cls := .type "list", data := .seq ip kp }) (vp : Vals s.heap ρ σ.next ip.toList x)
    (hq : s.heap.get? q = some { cls := .type "list", data := .seq iq kq }) (vq : Vals s.heap ρ σ.next iq.toList y) (e : eqLists x y = some r) : NegTo C A .Eq .NotEq neg (.ref p) (.ref q) ρ σ s r := by
  refine bC e (fun hl e => bT e fun pp e => bA pp fun p1 p2 => ?_) fun hl e => ?_
  · have p1 := allBy_iff.mp p1
    have p2 := allBy_iff.mp p2
    refine ea_1_1 (reads_all 8 (fun x y => reads_of 8 x y) vp p1) (fun as ra => ?_)
    refine ea_1_1 (reads_all 8 (fun x y => reads_of 8 x y) vq p2) (fun bs rb => ?_)
    exact shaped_eq room R neg (.list hp rfl rfl ra) (.list hq rfl rfl rb) (shaped_list p1) (shaped_list p2) (eqv_all 8 (eqv_of 8) x y r e)
  · have ne : (ip.size != iq.size) = true := by
      rw [vals_size vp, vals_size vq]
      exact bne_iff_ne.mpr fun z => nnT ((sameLen_iff.mpr z).symm.trans hl)
    have hu := Nat.lt_of_le_of_lt (Nat.le_add_right _ _) (room_units room)
    refine c1 e ?_
    cases neg with
    | false => exact RcAt.lists_lengths ⟨_, hp, rfl, _, rfl⟩ ⟨_, hq, rfl, _, rfl⟩ ne hu _ _ _ _ (Post.here' R rfl)
    | true => exact RcNeAt.lists_lengths ⟨_, hp, rfl, _, rfl⟩ ⟨_, hq, rfl, _, rfl⟩ ne hu _ _ _ _ (Post.here' R rfl)
theorem nil_dict {p : Addr × Addr} (x : CellAt s.heap ρ σ.next C.prog C.w p (.dict [])) : s.heap.DictOf (strKind C.prog C.w) p.1 [] := by
  rcases x.2 with ⟨kvs, hd, q⟩ | ⟨xs, hx, hd, q⟩
  · (first | exact nnP q | cases q); exact hd.dictOf
  · (first | exact nnP q | cases q); exact absurd rfl hx
theorem eqTop_sound {n : Nat} (room : Room A n) (R : C.R ρ σ s.heap) (neg : Bool) {ua ub : Value} {a b : V} {r : Bool} (Va : Val s.heap ρ σ.next ua a) (Vb : Val s.heap ρ σ.next ub b) (e : eqTop σ a b = some r) : NegTo C A .Eq .NotEq neg ua ub ρ σ s r := by
  refine bO e (fun x ex e => b1 e fun y ey e => ?_) fun _ e => bF e fun _ e => bO e (fun i qa e => b1 e fun j qb e => ?_) fun _ e => bT e fun pp e => bA pp fun p1 p2 => ?_
  · refine ea_3_3 (listOf_at R Va ex) (fun p ip kp qp hp vp => ?_)
    refine ea_3_3 (listOf_at R Vb ey) (fun q iq kq qq hq vq => ?_)
    rw [qp, qq]
    exact eqLists_sound room R neg hp vp hq vq e
  · refine bF e fun _ e => b1 e fun d q1 e => b1 e fun d' q2 e => bT e fun hd e => bA hd fun n1 n2 => c1 e ?_
    obtain rfl := List.isEmpty_iff.mp n1
    obtain rfl := List.isEmpty_iff.mp n2
    have C1 := R.cells _ _ (dictAt_get q1)
    have C2 := R.cells _ _ (dictAt_get q2)
    have hu := Nat.lt_of_le_of_lt (Nat.le_add_right _ _) (room_units room)
    refine Va.q_cell (P := fun u => NegTo C A .Eq .NotEq neg u ub ρ σ s true) qa fun _ => Vb.q_cell (P := fun u => NegTo C A .Eq .NotEq neg _ u ρ σ s true) qb fun _ => ?_
    cases neg with
    | false => exact keq_eq (R.notSys C1.1) (R.notSys C2.1) (nil_dict C1.2) (nil_dict C2.2) hu (r := true) (fun _ => .nil) (Post.here' R rfl)
    | true => exact keq_ne (R.notSys C1.1) (R.notSys C2.1) (nil_dict C1.2) (nil_dict C2.2) hu (r := true) (fun _ => .nil) (Post.here' R rfl)
  · refine ea_1_1 (pure_reads Va p1) (fun as ra => ?_)
    refine ea_1_1 (pure_reads Vb p2) (fun bs rb => ?_)
    exact shaped_eq room R neg ra rb (shaped_of p1) (shaped_of p2) (eqv_of 8 a b r e)
end
end
section
open PySem PySem.Calls PyProof.Rows PySem.W PySem.SeqAt
set_option maxRecDepth 100000

theorem keysAll_iff {p : V → Bool} : ∀ {l : List (V × V)}, keysAll p l = true ↔ ∀ e ∈ l, p e.1 = true
  | [] => ⟨(fun _ v h => nomatch h), fun _ => rfl⟩
  | v :: r => by
    show (cond (p v.1) (keysAll p r) false) = true ↔ _
    rw [List.forall_mem_cons, ← keysAll_iff (l := r)]
    cases p v.1 with
    | true => exact ⟨(fun h => ⟨rfl, h⟩), fun h => h.2⟩
    | false => exact ⟨(fun h => nnF h), fun h => h.1⟩
theorem sEq_dec (a b : Str) : sEq a b = decide (a = b) := by
  rw [Bool.eq_iff_iff, sEq_iff, decide_eq_true_iff]
theorem keyEq_str (a b : Str) : keyEq (.str a) (.str b) = decide (a = b) := sEq_dec a b
theorem eqVs_str (n : Nat) : ∀ (a b : List Str), eqVsBy (eqN n) (a.map .str) (b.map .str) = some (decide (a = b))
  | [], [] => rfl
  | [], _ :: _ => rfl
  | _ :: _, [] => rfl
  | a :: as, b :: bs => by
    show (bnd (eqN n (.str a) (.str b)) fun c => cond c (eqVsBy (eqN n) (as.map .str) (bs.map .str)) (some false)) = _
    rw [eqVs_str n as bs, show eqN n (.str a) (.str b) = some (sEq a b) by cases n <;> rfl, sEq_dec]
    by_cases q : a = b
    · by_cases q' : as = bs <;> simp [q, q', bnd]
    · simp [q, bnd]
theorem keyEq_tup (a b : List Str) : keyEq (.tup (a.map .str)) (.tup (b.map .str)) = decide (a = b) := by
  show (eqVsBy (eqN 7) (a.map .str) (b.map .str)).getD false = _
  rw [eqVs_str]; rfl
theorem isStr_of {v : V} (h : isStrV v = true) : ∃ s, v = .str s := (Option.isSome_iff_exists.mp h).imp fun _ e => asStr_eq e
theorem strs_of : ∀ {l : List V}, (∀ v ∈ l, isStrV v = true) → ∃ ks : List Str, l = ks.map .str
  | [], _ => ⟨[], rfl⟩
  | v :: r, h => (isStr_of (h v (.head _))).elim fun s e => (strs_of fun w hw => h w (.tail _ hw)).elim fun ks e' => ⟨s :: ks, by rw [e, e']; rfl⟩
theorem keyTup_of {v : V} (h : keyTup v = true) : ∃ ks : List Str, v = .tup (ks.map .str) := bO h (fun l q h => (strs_of (allBy_iff.mp h)).imp fun ks e => by rw [asTup_eq q, e]) fun _ => nnF
theorem keyOk_of {P : Prop} {k : V} {l : List (V × V)} (e : keyOk k l = true) (k1 : ∀ x, k = .str x → keysAll isStrV l = true → P) (k2 : ∀ ks : List Str, k = .tup (ks.map .str) → keyTup k = true → keysAll keyTup l = true → P) : P :=
  bA e fun _ e => bC e (fun q e => (isStr_of q).elim fun x q => k1 x q e) fun _ e => bA e fun q e => bA e fun e _ => (keyTup_of q).elim fun ks z => k2 ks z q e

section
variable {h : Heap} {ρ : Pl} {n : Nat} {prog : Program} {w : World}
theorem PStr.find {kvs : List (Str × Value)} {l : List (V × V)} (x : PStr h ρ n kvs l) (k : Str) :
    (∀ v, dictFindV (.str k) l = some v → ∃ u, valueAt kvs k = some u ∧ Val h ρ n u v) ∧ (dictFindV (.str k) l = none → valueAt kvs k = none) := by
  induction x with
  | nil => exact ⟨(fun v e => nnO e), fun _ => rfl⟩
  | @cons x u kvs v l a r ih =>
    show (∀ v', cond (keyEq (.str x) (.str k)) (some v) (dictFindV (.str k) l) = some v' → _) ∧ (cond (keyEq (.str x) (.str k)) (some v) (dictFindV (.str k) l) = none → _)
    unfold valueAt
    rw [keyEq_str, List.find?_cons]
    dsimp only
    cases decide (x = k) with
    | true => exact ⟨(fun v' e => ⟨u, rfl, Option.some.inj e ▸ a⟩), fun e => nnP e⟩
    | false => exact ih
theorem PTup.find {xs : List (List Str × Addr × Value)} {l : List (V × V)} (x : PTup h ρ n xs l) (k : List Str) :
    (∀ v, dictFindV (.tup (k.map .str)) l = some v → ∃ p, atKey xs k = some p ∧ Val h ρ n p.2 v) ∧ (dictFindV (.tup (k.map .str)) l = none → atKey xs k = none) := by
  induction x with
  | nil => exact ⟨(fun v e => nnO e), fun _ => rfl⟩
  | @cons ks a u xs v l b c r ih =>
    show (∀ v', cond (keyEq (.tup (ks.map .str)) (.tup (k.map .str))) (some v) (dictFindV (.tup (k.map .str)) l) = some v' → _) ∧ (cond (keyEq (.tup (ks.map .str)) (.tup (k.map .str))) (some v) (dictFindV (.tup (k.map .str)) l) = none → _)
    unfold atKey
    rw [keyEq_tup, List.find?_cons]
    dsimp only
    cases decide (ks = k) with
    | true => exact ⟨(fun v' e => ⟨_, rfl, Option.some.inj e ▸ c⟩), fun e => nnP e⟩
    | false => exact ih

theorem items_are {us : List Value} {ks : List Str} (x : Vals h ρ n us (ks.map .str)) : ItemsAre (strKind prog w) ks us := by
  induction ks generalizing us with
  | nil => exact x.e_nil .nil
  | cons k ks ih => exact x.e_cons fun u us a r => a.e_str fun t => .cons (strKind_is prog w _ _) (ih r)
theorem tupleKey {u : Value} {ks : List Str} (x : Val h ρ n u (.tup (ks.map .str))) : ∃ a, u = .ref a ∧ IsTupleKey (strKind prog w) h ks a :=
  x.e_tup fun a items c h1 _ r => ⟨a, rfl, _, _, _, h1, rfl, rfl, items_are r⟩

theorem keys_tuple {xs : List (List Str × Addr × Value)} {l : List (V × V)} (x : PTup h ρ n xs l) : ∀ y ∈ xs, IsTupleKey (strKind prog w) h y.1 y.2.1 := by
  induction x with
  | nil => exact fun y hy => nomatch hy
  | cons b c r ih => exact List.forall_mem_cons.mpr ⟨(tupleKey b).elim fun a' q => Value.ref.inj q.1 ▸ q.2, ih⟩
theorem dictOfH_of {a : Addr} {xs : List (List Str × Addr × Value)} {l : List (V × V)} (d : DictRaw h prog w a xs) (x : PTup h ρ n xs l) : h.DictOfH (tupleKind (strKind prog w)) a xs :=
  d.elim fun o d => d.elim fun es d => d.elim fun ep d => ⟨o, es, ep, d.1, d.2.1, d.2.2.1, d.2.2.2.1, keys_tuple x, d.2.2.2.2⟩
theorem PStr.length {kvs : List (Str × Value)} {l : List (V × V)} (x : PStr h ρ n kvs l) : kvs.length = l.length := by
  induction x with
  | nil => rfl
  | cons _ _ ih => exact congrArg (· + 1) ih
theorem PTup.length {kvs : List (List Str × Addr × Value)} {l : List (V × V)} (x : PTup h ρ n kvs l) : kvs.length = l.length := by
  induction x with
  | nil => rfl
  | cons _ _ _ ih => exact congrArg (· + 1) ih
theorem PStr.strs {kvs : List (Str × Value)} {l : List (V × V)} (x : PStr h ρ n kvs l) : keysAll isStrV l = true := by
  induction x with
  | nil => rfl
  | cons _ _ ih => exact ih
theorem PTup.tups {kvs : List (List Str × Addr × Value)} {l : List (V × V)} (x : PTup h ρ n kvs l) : ∀ e ∈ l, isStrV e.1 = false := by
  induction x with
  | nil => exact fun y hy => nomatch hy
  | cons b c r ih => exact List.forall_mem_cons.mpr ⟨rfl, ih⟩
theorem dict_str {p : Addr × Addr} {l : List (V × V)} (x : CellAt h ρ n prog w p (.dict l)) (hk : keysAll isStrV l = true) : ∃ kvs, StrAt h prog w p.1 kvs ∧ PStr h ρ n kvs l :=
  x.2.elim id fun y => y.elim fun xs y => by
    cases l with
    | nil => exact absurd (List.eq_nil_of_length_eq_zero y.2.2.length) y.1
    | cons e l => exact nnT ((keysAll_iff.mp hk e (.head _)).symm.trans (y.2.2.tups e (.head _)))
theorem dict_tup {p : Addr × Addr} {l : List (V × V)} (x : CellAt h ρ n prog w p (.dict l)) (hk : keysAll keyTup l = true) : ∃ xs, DictRaw h prog w p.1 xs ∧ PTup h ρ n xs l := by
  rcases x.2 with ⟨kvs, hd, q⟩ | y
  · cases q with
    | nil =>
      obtain ⟨o, es, ep, ho, hx, hd, hk', hp, hn⟩ := hd.dictOf
      have : es.toList = [] := by cases hp' : es.toList with | nil => rfl | cons a b => rw [hp'] at hp; exact nomatch hp
      exact ⟨[], ⟨o, es, ep, ho, hx, hd, this, List.nodup_nil⟩, .nil⟩
    | cons a r => exact nnF (keysAll_iff.mp hk _ (.head _))
  · exact y.imp fun xs y => y.2
end

theorem any_eqv : ∀ (l : List V) (x : V) (r : Bool), anyEq x l = some r → (toPs 8 l).any (fun y => PyData.eqv y (toP 8 x)) = r
  | [], x, r, e => Option.some.inj e
  | v :: l, x, r, e => b1 (show (bnd (eqV v x) fun c => cond c (some true) (anyEq x l)) = some r from e) fun c q e => by
    rw [toPs, List.map_cons, List.any_cons, eqv_of 8 v x _ q]
    cases c with
    | true => exact Option.some.inj e
    | false => exact any_eqv l x r e

section
variable {C : Cx} {A : Around} {σ : St} {ρ : Pl} {s : Shared}
theorem inL_room {n : Nat} (room : Room A n) {a : V} {l : List V} (p2 : ∀ v ∈ l, pureN 8 v = true) : A.units + 1 + min (PyData.depthAll (toPs 8 l)) (toP 8 a).depth < cLine :=
  Nat.lt_of_le_of_lt (Nat.le_trans (Nat.add_le_add_left (Nat.le_trans (Nat.min_le_left _ _) (lay_all 8 (lay_of 8) l p2).2) _) (Nat.add_le_add_left (by decide : 9 ≤ 64) A.units)) (room_units room)
theorem in_sound {n : Nat} (room : Room A n) (R : C.R ρ σ s.heap) (neg : Bool) {ua ub : Value} {a b : V} {r : Bool} (Va : Val s.heap ρ σ.next ua a) (Vb : Val s.heap ρ σ.next ub b) (e : inV σ a b = some r) (hneg : neg = true → keyTup a = false) : NegTo C A .In .NotIn neg ua ub ρ σ s r := by
  cases b with
  | tup l =>
    refine bT e fun pp e => bA pp fun p1 p2 => (pure_reads Va p1).elim fun as ra => Vb.e_tup fun a' items c h1 _ vs => ?_
    have p2 := allBy_iff.mp p2
    refine ea_1_1 (reads_all 8 (fun x y => reads_of 8 x y) vs p2) (fun bs rb => ?_)
    have q := lay_all 8 (lay_of 8) l p2
    have ee := any_eqv l a r e
    cases neg with
    | false => exact in_tuple_reads (.tuple h1 rfl rfl rb) ra q.1 (lay_of 8 a p1).1 (inL_room room p2) (ee ▸ Post.here' R rfl)
    | true => exact notIn_tuple_reads (.tuple h1 rfl rfl rb) ra q.1 (lay_of 8 a p1).1 (inL_room room p2) (ee ▸ Post.here' R rfl)
  | lst l =>
    refine bT e fun pp e => bA pp fun p1 p2 => (pure_reads Va p1).elim fun as ra => Vb.e_lst fun a' items c h1 _ vs => ?_
    have p2 := allBy_iff.mp p2
    refine ea_1_1 (reads_all 8 (fun x y => reads_of 8 x y) vs p2) (fun bs rb => ?_)
    have q := lay_all 8 (lay_of 8) l p2
    have ee := any_eqv l a r e
    cases neg with
    | false => exact in_list_reads (.list h1 rfl rfl rb) ra q.1 (lay_of 8 a p1).1 (inL_room room p2) (ee ▸ Post.here' R rfl)
    | true => exact notIn_list_reads (.list h1 rfl rfl rb) ra q.1 (lay_of 8 a p1).1 (inL_room room p2) (ee ▸ Post.here' R rfl)
  | str t =>
    refine b1 e fun x q e => c1 e (Va.q_str (P := fun u => NegTo C A .In .NotIn neg u ub ρ σ s _) q fun t => Vb.e_str fun t' => ?_)
    cases neg with
    | false => exact PySem.P.in_str (Post.here' R rfl)
    | true => exact PySem.P.notIn_str (Post.here' R rfl)
  | cell i =>
    refine b1 e fun l q e => bT e fun hk e => c1 e (Vb.e_cell fun hi => ?_)
    have D := (R.cells _ _ (dictAt_get q)).2
    refine keyOk_of hk (fun k qk hk' => ?_) fun ks qk ht hk' => ?_
    · obtain rfl := qk
      refine ea_1_2 (dict_str D hk') (fun kvs hd pk => ?_)
      have hf := pk.find k
      have hv : (valueAt kvs k).isSome = (dictFindV (.str k) l).isSome := by
        cases z : dictFindV (.str k) l with
        | none => rw [hf.2 z]; rfl
        | some v => exact (hf.1 v z).elim fun u y => by rw [y.1]; rfl
      rw [← hv]
      refine Va.e_str fun t => ?_
      cases neg with
      | false => exact wpAny_in_of (strKind_is _ _ _ _) (R.notSys hi) hd.dictOf.mapOf (Post.here R rfl)
      | true => exact wpAny_notIn_of (strKind_is _ _ _ _) (R.notSys hi) hd.dictOf.mapOf (Post.here R rfl)
    · cases neg with
      | true => exact nnF ((hneg rfl).symm.trans ht)
      | false =>
        obtain rfl := qk
        refine ea_1_2 (dict_tup D hk') (fun xs hd pk => ?_)
        obtain ⟨a', q', hkey⟩ := tupleKey (prog := C.prog) (w := C.w) Va
        have hf := pk.find ks
        have hv : (atKey xs ks).isSome = (dictFindV (.tup (ks.map .str)) l).isSome := by
          cases z : dictFindV (.tup (ks.map .str)) l with
          | none => rw [hf.2 z]; rfl
          | some v => exact (hf.1 v z).elim fun u y => by rw [y.1]; rfl
        rw [← hv, q']
        exact wpAny_in_heap (knd := tupleKind (strKind C.prog C.w)) (Nat.lt_of_le_of_lt (Nat.add_le_add_left (by decide : 1 ≤ 64) A.units) (room_units room)) hkey (R.notSys hi) (dictOfH_of hd pk) (Post.here R rfl)
  | _ => exact nnO e

theorem cmpI_sound {op : CmpOp} {a b : V} {ua ub : Value} {r : Bool} {f : Int → Int → Bool} {Q : Bool → Value → Shared → Prop} (Va : Val s.heap ρ σ.next ua a) (Vb : Val s.heap ρ σ.next ub b) (e : cmpI a b f = some r) (k : ∀ x y t t', wpAny C.M A (compareOp op (.int x t) (.int y t')) (Q (f x y)) noE s) : wpAny C.M A (compareOp op ua ub) (Q r) noE s :=
  b1 e fun _ q e => b1 e fun _ q' e => Va.q_int (P := fun u => wpAny C.M A (compareOp op u ub) (Q r) noE s) q fun t => Vb.q_int (P := fun u => wpAny C.M A (compareOp op _ u) (Q r) noE s) q' fun t' => Option.some.inj e ▸ k _ _ t t'
theorem cmp_sound {n : Nat} (room : Room A n) (R : C.R ρ σ s.heap) {op : CmpOp} {ua ub : Value} {a b : V} {r : Bool} (Va : Val s.heap ρ σ.next ua a) (Vb : Val s.heap ρ σ.next ub b) (e : cmpV σ op a b = some r) :
    wpAny C.M A (compareOp op ua ub) (PE C ρ σ s σ (.bool r)) noE s := by
  cases op with
  | Eq => exact eqTop_sound room R false Va Vb e
  | NotEq => exact b1 e fun r' q e => c1 e (eqTop_sound room R true Va Vb q)
  | Gt => exact cmpI_sound (Q := fun r => PE C ρ σ s σ (.bool r)) Va Vb e fun x y t t' => PyProof.Rows.gt_int (Post.here' R rfl)
  | GtE => exact cmpI_sound (Q := fun r => PE C ρ σ s σ (.bool r)) Va Vb e fun x y t t' => PyProof.Rows.ge_int (Post.here' R rfl)
  | In => exact in_sound room R false Va Vb e fun q => nnF q
  | NotIn => exact bF e fun hk e => b1 e fun r' q e => c1 e (in_sound room R true Va Vb q fun _ => hk)
  | Is =>
    refine b1 e fun _ q e => Vb.q_none (P := fun u => wpAny C.M A (compareOp .Is ua u) (PE C ρ σ s σ (.bool r)) noE s) q ?_
    cases a with
    | none => exact c1 e (Va.e_none (is_none (Post.here' R rfl)))
    | tup l => exact c1 e (Va.e_tup fun _ _ _ _ _ _ => is_none (Post.here' R rfl))
    | str l => exact c1 e (Va.e_str fun _ => is_none (Post.here' R rfl))
    | cell l => exact c1 e (Va.e_cell fun _ => is_none (Post.here' R rfl))
    | _ => exact nnO e
  | _ => exact nnO e
end
end
section
open PySem PySem.Calls PyProof.Rows PySem.W PySem.SeqAt
set_option maxRecDepth 100000

section
variable {prog : Program} {w : World} {A : Around} {E : Value → Shared → Prop} {s : Shared} {K : Frag} {x C dx : Addr}
theorem setM {es : List DictEntry} {k : Nat} {name : Str} {v : Value} {Q : Unit → Shared → Prop} (X : K.In s.heap) (I : InstAt s.heap x (instObj C dx) C (some (dictOf es k))) (O : AttrOk K C name)
    (hl : (getL name es).isSome = true) (hz : (putL name (PyData.keyHash w.params name) (.str name (s.toks + 1)) v es).length ≤ 1000)
    (h : ∀ h', Heap.SameBut dx s.heap h' → h'.get? dx = some (dictOf (putL name (PyData.keyHash w.params name) (.str name (s.toks + 1)) v es) (putN name es k)) → Q () { s with heap := h', toks := s.toks + 2 }) :
    wpAny (model prog w) A (setAttr (.ref x) name v) Q E s := by
  refine set_plain X I O.set ?_
  refine osa_open (s := { s with toks := s.toks + 1 }) X I O.over O.taker fun b => ?_
  refine ea_1_2 (any_some O.dict) (fun cd hc hd' => ?_)
  have D : s.heap.get? dx = some (dictOf es k) := I.dict
  obtain ⟨hx, -, -, -⟩ := I
  refine wpAny_bind (wpAny_pure (wpAny_bind (wpAny_bind (wpAny_loadPart hx (wpAny_bind ((looks_clsIn X hc).at ?_))))))
  rw [hd']
  refine wpAny_pure (a := some dx) (wpAny_bind (wpAny_pure (wpAny_bind ?_)))
  unfold nsSet
  refine wpAny_bind (wpAny_bind (wpAny_askSetting (wpAny_pure (wpAny_bind (wpAny_mkText (wpAny_bind (wpAny_loadPart D ?_)))))))
  dsimp only
  have c : (!es.toArray.any (·.key.isStr name) && es.toArray.any (·.refKey)) = false := by
    unfold getL at hl
    rw [← Array.any_toList, ← Array.any_toList]
    cases z : es.any (·.refKey) with
    | false => exact Bool.and_false _
    | true =>
      cases he : es.find? (fun e => e.key.isStr name) with
      | some en => rw [List.any_eq_true.mpr ⟨en, List.mem_of_find?_eq_some he, List.find?_some he⟩]; rfl
      | none => rw [he] at hl; simp only [z, if_true] at hl; exact nnF hl
  rw [aRefKeyMayBeTheName_at, c]
  refine wpAny_updatePart D ?_
  have D' : (s.heap.update dx (Obj.putName name (PyData.keyHash w.params name) (.str name (s.toks + 1)) v)).get? dx = some (dictOf (putL name (PyData.keyHash w.params name) (.str name (s.toks + 1)) v es) (putN name es k)) := by
    have q := Heap.get?_update_self (Obj.putName name (PyData.keyHash w.params name) (.str name (s.toks + 1)) v) D (by rw [putName_dict]; rfl)
    rw [q, putName_dict]
  refine wpAny_bind (wpAny_lookBehind D' (pastItsLine_dict (by rw [List.size_toArray, sizeLine_eq]; omega)) ?_)
  exact wpAny_pure (h _ (Heap.SameBut.update ..) D')
end

section
variable {h : Heap} {ρ : Pl} {n : Nat}
theorem Flds.noref {es : List DictEntry} {l : List (Str × V)} (x : Flds h ρ n es l) : es.any (·.refKey) = false := by
  induction x with
  | nil => rfl
  | @cons e es y t v l k _ _ ih =>
    rw [List.any_cons, ih, Bool.or_false]
    unfold DictEntry.refKey
    rw [k]
theorem Flds.get {es : List DictEntry} {l : List (Str × V)} (x : Flds h ρ n es l) (a : Str) : (∀ v, lookS a l = some v → ∃ u, getL a es = some (some u) ∧ Val h ρ n u v) ∧ (lookS a l = none → getL a es = some none) := by
  unfold getL
  rw [x.noref]
  induction x with
  | nil => exact ⟨(fun v e => nnO e), fun _ => rfl⟩
  | @cons e es y t v l k c r ih =>
    show (∀ v', cond (sEq a y) (some v) (lookS a l) = some v' → _) ∧ (cond (sEq a y) (some v) (lookS a l) = none → _)
    rw [List.find?_cons, k, show Value.isStr (.str y t) a = sEq a y from (Bool.beq_comm (a := y) (b := a)).trans (beq_sEq a y)]
    cases sEq a y with
    | true => exact ⟨(fun v' e => ⟨_, rfl, Option.some.inj e ▸ c⟩), fun e => nnP e⟩
    | false => exact ih
theorem Flds.put {es : List DictEntry} {l : List (Str × V)} (x : Flds h ρ n es l) (a : Str) (hsh : Int) (t : Tok) {u : Value} {v : V} (y : Val h ρ n u v) : Flds h ρ n (putL a hsh (.str a t) u es) (setL a v l) := by
  induction x with
  | nil => exact .cons rfl y .nil
  | @cons e es z t' v' l k c r ih =>
    show Flds h ρ n _ (cond (sEq a z) ((a, v) :: l) ((z, v') :: setL a v l))
    unfold putL
    rw [k, show Value.isStr (.str z t') a = sEq a z from (Bool.beq_comm (a := z) (b := a)).trans (beq_sEq a z)]
    cases q : sEq a z with
    | true => obtain rfl := sEq_eq q; exact .cons (t := t') rfl y r
    | false => exact .cons k c ih
theorem Flds.length {es : List DictEntry} {l : List (Str × V)} (x : Flds h ρ n es l) : es.length = l.length := by
  induction x with
  | nil => rfl
  | cons _ _ _ ih => exact congrArg (· + 1) ih
theorem setL_length {α : Type} (a : Str) (v : α) : ∀ l : List (Str × α), (setL a v l).length ≤ l.length + 1
  | [] => Nat.le_refl _
  | p :: r => by
    show (cond (sEq a p.1) ((a, v) :: r) (p :: setL a v r)).length ≤ _
    cases sEq a p.1 with
    | true => exact Nat.le_succ _
    | false => exact Nat.succ_le_succ (setL_length a v r)
end

section
variable {C : Cx} {A : Around} {σ : St} {ρ : Pl} {s : Shared}
theorem inst_at (R : C.R ρ σ s.heap) {i : Nat} {D : Addr} {l : List (Str × V)} (q : instAt σ i = some (D, l)) :
    i < σ.next ∧ (ρ i).1 ≠ (ρ i).2 ∧ ∃ es k, InstAt s.heap (ρ i).1 (instObj D (ρ i).2) D (some (dictOf es k)) ∧ Flds s.heap ρ σ.next es l :=
  have y := R.cells _ _ (instAt_get q)
  ⟨y.1, y.2.1, y.2.2.2.elim fun es z => z.elim fun k z => ⟨es, k, ⟨y.2.2.1, rfl, rfl, z.1⟩, z.2⟩⟩

theorem attr_sound (O : GOk C) (R : C.R ρ σ s.heap) {u : Value} {o : V} {a : Str} {v : V} {expr : Bool} (Vo : Val s.heap ρ σ.next u o) (e : attrV C.G σ o a = some v) :
    wpAny C.M A (getAttr u a expr) (PV C ρ σ s σ v) noE s := by
  refine b1 e fun c qc e => b2 e fun D l q e => bT e fun ho e => Vo.q_cell (P := fun u => wpAny C.M A (getAttr u a expr) (PV C ρ σ s σ v) noE s) qc fun _ => ?_
  refine ea_2_2 ((inst_at R q).2.2) (fun es k I hf => ?_)
  have AO := O.attr _ _ ho
  refine ea_1_2 (AO.find) (fun attr ha hn => ?_)
  refine ea_1_2 ((hf.get a).1 v e) (fun w' hg vv => ?_)
  exact get_value (O.X.keeps R.keep) I (plainGet_of AO.get).1 (findObj_own AO.dict ha hn hg) vv.handed (Post.here R vv)

theorem post_set {X : Addr → Prop} (R : C.R ρ σ s.heap) {i : Nat} {c : Cell} (hi : i < σ.next) {a : Addr} (ha : a = (ρ i).1 ∨ a = (ρ i).2) {h' : Heap} {tk : Nat} (hs : Heap.SameBut a s.heap h') (CC : Froz s.heap ρ σ.next h' ρ σ.next → CellAt h' ρ σ.next C.prog C.w (ρ i) c) :
    Post C X ρ σ s (σ.set i c) (fun _ _ => True) { s with heap := h', toks := tk } :=
  have CC := CC fun b o e hn _ => ⟨(hs.2 b fun q => hn ⟨i, hi, q ▸ ha⟩).trans e, hn⟩
  ⟨ρ, R.ext_set hi ha hs.extBut CC, R.set hi ha hs.extBut CC, ⟨rfl, rfl, rfl⟩, trivial⟩
theorem setAttr_sound (O : GOk C) (R : C.R ρ σ s.heap) {u uv : Value} {o : V} {a : Str} {v : V} {σ' : St} (Vo : Val s.heap ρ σ.next u o) (Vv : Val s.heap ρ σ.next uv v) (e : setAttrV C.G σ o a v = some σ') :
    wpAny C.M A (setAttr u a uv) (fun _ => Post C NoX ρ σ s σ' fun _ _ => True) noE s := by
  refine b1 e fun c qc e => b2 e fun D l q e => bT e fun hb e => bA hb fun hz ho => c1 e (Vo.q_cell (P := fun u => wpAny C.M A (setAttr u a uv) _ noE s) qc fun hi => ?_)
  have y := inst_at R q
  refine ea_2_2 (y.2.2) (fun es k I hf => ?_)
  have AO := O.attr _ _ ho
  have hl : (getL a es).isSome = true := by
    cases z : lookS a l with
    | none => rw [(hf.get a).2 z]; rfl
    | some v' => exact ((hf.get a).1 v' z).elim fun w' g => by rw [g.1]; rfl
  have P := hf.put a (PyData.keyHash C.w.params a) (s.toks + 1) Vv
  refine setM (O.X.keeps R.keep) I AO hl ?_ fun h' hs hd => post_set R hi (.inr rfl) hs fun F => ⟨y.2.1, (hs.2 _ y.2.1).trans I.at_, _, _, hd, P.mono F (fun _ _ => rfl) (Nat.le_refl _)⟩
  rw [P.length]
  exact Nat.le_trans (setL_length a v l) (Nat.le_trans (Nat.le_of_ble_eq_true hz) (by decide))
end
end
section
open PySem PySem.Calls PyProof.Rows PySem.W PySem.SeqAt
set_option maxRecDepth 100000

section
variable {prog : Program} {w : World} {A : Around} {E : Value → Shared → Prop} {s : Shared}
theorem setItemM {l : Addr} {items : Array Value} {n : Nat} {k : Int} {t : Tok} {v : Value} {Q : Unit → Shared → Prop} (hl : s.heap.get? l = some { cls := .type "list", data := .seq items n })
    (h0 : 0 ≤ k) (hfit : k < 2 ^ 63) (hn : k < items.size)
    (hQ : ∀ h' n', h'.get? l = some { cls := .type "list", data := .seq (items.setIfInBounds k.toNat v) n' } → Heap.SameBut l s.heap h' → Q () { s with heap := h' }) :
    wpAny (model prog w) A (setItem (.ref l) (.int k t) v) Q E s := by
  have hL : s.heap.IsList l items := ⟨_, hl, rfl, _, rfl⟩
  unfold setItem
  refine wpAny_holding ?_
  refine wpAny_bind (wpAny_sequenceKey hL.typeIs (by decide) ?_)
  refine wpAny_bind (wpAny_callSpecial?_slot (name := Str.ofString "__setitem__") hL.typeIs slot_list_setitem
    (wpAny_call_entry slot_list_setitem hL.typeIs entry_list_setitem ?_ (args_list_setitem _ _ _)))
  show wpAny _ _ (Builtin.List.listSubscript? (.int k t) >>= _) _ _ s
  refine wpAny_bind (wpAny_listSubscript_int (fitsIndex_of h0 hfit) ?_)
  clear hfit
  obtain ⟨j, rfl⟩ := Int.eq_ofNat_of_zero_le h0
  have hj : j < items.size := by omega
  have hx' : items[j]? = some items[j] := Array.getElem?_eq_getElem hj
  show wpAny _ _ ((seqItemAt l j >>= fun r => pure (r.map (j, ·))) >>= _) _ _ s
  refine wpAny_bind (wpAny_bind (wpAny_seqItemAt hl rfl (wpAny_pure ?_)))
  rw [hx']
  show wpAny _ _ (setSeqItemAt l j v >>= _) _ _ s
  refine wpAny_bind (wpAny_setSeqItemAt hl rfl ?_)
  have hfin : (s.heap.update l (Obj.mapSeq (·.setIfInBounds j v))).get? l = some { cls := .type "list", data := .seq (items.setIfInBounds j v) n } := by
    have := Heap.get?_update_self (Obj.mapSeq (·.setIfInBounds j v)) hl (by rfl)
    rw [this]
    simp [Obj.mapSeq]
  exact wpAny_pure ⟨.none, rfl, wpAny_pure (hQ _ _ hfin (Heap.SameBut.update ..))⟩
end

section
variable {C : Cx} {A : Around} {σ : St} {ρ : Pl} {s : Shared}
theorem subscripted_plain {i : Expr} {o k : Value} (h : isSlice i = false) : subscripted i false o k = operate [o, k] (getItem o k) := by
  cases i <;> first | rfl | exact nnT h

theorem atInt_of {l : List V} {i : Int} {v : V} (e : atInt l i = some v) : 0 ≤ i ∧ i < 1000000 ∧ l[i.toNat]? = some v :=
  bT e fun q e => bA q fun q1 q2 => ⟨of_decide_eq_true q1, (Int.toNat_lt (of_decide_eq_true q1)).mp (Nat.le_of_ble_eq_true q2), e⟩

theorem DictRaw.typeIs {h : Heap} {a : Addr} {xs : List (List Str × Addr × Value)} (x : DictRaw h C.prog C.w a xs) {s : Shared} (e : s.heap = h) : s.TypeIs (.ref a) "dict" := by
  refine ea_3_3 (x) (fun o es ep ho hx z0 => ?_); exact ⟨o, e ▸ ho, hx.1⟩
noncomputable def ItemAt (C : Cx) (A : Around) (o i : Value) (Q : Value → Shared → Prop) (s : Shared) : Prop :=
  ∃ T id, s.TypeIs o T ∧ typeLookup (.type T) "__getitem__" = pure (some (.builtin id)) ∧ wpAny C.M A (getItem o i) Q noE s

theorem item_sound {n : Nat} (room : Room A n) (R : C.R ρ σ s.heap) {uo ui : Value} {o i v : V} (Vo : Val s.heap ρ σ.next uo o) (Vi : Val s.heap ρ σ.next ui i) (e : itemV σ o i = some v) :
    ItemAt C A uo ui (PV C ρ σ s σ v) s := by
  have lists : ∀ {a : Addr} {items : Array Value} {k : Nat} {l : List V}, s.heap.get? a = some { cls := .type "list", data := .seq items k } → Vals s.heap ρ σ.next items.toList l → bnd (asInt i) (atInt l) = some v → ItemAt C A (.ref a) ui (PV C ρ σ s σ v) s := fun ho vs e =>
    b1 e fun k q e => Vi.q_int (P := fun u => ItemAt C A _ u (PV C ρ σ s σ v) s) q fun t => by
      have y := atInt_of e
      refine ea_1_2 (vs.get y.2.2) (fun u hu' vu => ?_)
      have ht : s.heap.IsList _ _ := ⟨_, ho, rfl, _, rfl⟩
      exact ⟨"list", _, ht.typeIs, slot_list_getitem.lookup, wpAny_getItem_list ht y.1 (Int.lt_trans y.2.1 (by decide)) ((Array.getElem?_toList ..).symm.trans hu') (Post.here' R vu)⟩
  cases o with
  | tup l =>
    refine b1 e fun k q e => Vi.q_int (P := fun u => ItemAt C A _ u (PV C ρ σ s σ v) s) q fun t => Vo.e_tup fun a items c ho _ vs => ?_
    have y := atInt_of e
    refine ea_1_2 (vs.get y.2.2) (fun u hu' vu => ?_)
    have ht : IsTup s.heap a items := ⟨_, ho, rfl, _, rfl⟩
    have hx := (Array.getElem?_toList ..).symm.trans hu'
    have hlt : k < items.size := (Int.toNat_lt y.1).mp (Array.getElem?_eq_some_iff.mp hx).1
    refine ⟨"tuple", _, ht.typeIs, slot_tuple_getitem.lookup, getItem_tuple ht (Int.le_trans (by decide) y.1) (Int.lt_trans y.2.1 (by decide)) ?_ hx (Post.here' R vu)⟩
    unfold seqIndex?
    simp [Int.not_lt.mpr y.1, hlt, y.1]
  | lst l => exact Vo.e_lst fun a items c ho _ vs => lists ho vs e
  | cell c =>
    refine Vo.e_cell fun hi => bO e (fun l q e => ?_) fun _ e => b1 e fun l q e => bT e fun hk e => ?_
    · exact (R.cells _ _ (listAt_get q)).2.2.elim fun items y => y.elim fun k y => lists y.1 y.2 e
    · have D := (R.cells _ _ (dictAt_get q)).2
      refine keyOk_of hk (fun k qk hk' => ?_) fun ks qk ht hk' => ?_
      · obtain rfl := qk
        refine ea_1_2 (dict_str D hk') (fun kvs hd pk => ?_)
        refine ea_1_2 ((pk.find k).1 v e) (fun u hu' vu => ?_)
        exact Vi.e_str fun t => ⟨"dict", _, hd.dictOf.typeIs, slot_dict_getitem.lookup, wpAny_getItem_of (strKind_is _ _ _ _) hd.dictOf.mapOf hu' (Post.here R vu)⟩
      · obtain rfl := qk
        refine ea_1_2 (dict_tup D hk') (fun xs hd pk => ?_)
        obtain ⟨a', q', hkey⟩ := tupleKey (prog := C.prog) (w := C.w) Vi
        refine ea_1_2 ((pk.find ks).1 v e) (fun p hp vp => ?_)
        rw [q']
        exact ⟨"dict", _, hd.typeIs rfl, slot_dict_getitem.lookup, wpAny_getItem_heap (knd := tupleKind (strKind C.prog C.w)) (Nat.lt_of_le_of_lt (Nat.add_le_add_left (by decide : 1 ≤ 64) A.units) (room_units room)) hkey (dictOfH_of hd pk) hp (Post.here R vp)⟩
  | _ => exact nnO e

theorem nodup_not {α β : Type} {k : α} {p : α × β} {l : List (α × β)} (hn : ((p :: l).map (·.1)).Nodup) (q : p.1 = k) : ∀ x ∈ l, x.1 ≠ k := fun x hx e =>
  (List.nodup_cons.mp hn).1 (List.mem_map.mpr ⟨x, hx, e.trans q.symm⟩)
theorem map_same {α : Type} {f : α → α} {l : List α} (h : ∀ x ∈ l, f x = x) : l.map f = l := (List.map_congr_left h).trans (List.map_id l)
theorem PStr.app {h : Heap} {n : Nat} {kvs : List (Str × Value)} {l : List (V × V)} (x : PStr h ρ n kvs l) {k : Str} {u : Value} {v : V} (y : Val h ρ n u v) (hn : ∀ p ∈ kvs, p.1 ≠ k) : PStr h ρ n (kvs ++ [(k, u)]) (dictPutV (.str k) v l) := by
  induction x with
  | nil => exact .cons y .nil
  | @cons z w' kvs v' l a r ih =>
    have hn := List.forall_mem_cons.mp hn
    show PStr h ρ n _ (cond (keyEq (.str z) (.str k)) ((.str z, v) :: l) ((.str z, v') :: dictPutV (.str k) v l))
    rw [keyEq_str, decide_eq_false hn.1]
    exact .cons a (ih hn.2)
theorem PStr.rep {h : Heap} {n : Nat} {kvs : List (Str × Value)} {l : List (V × V)} (x : PStr h ρ n kvs l) {k : Str} {u : Value} {v : V} (y : Val h ρ n u v) (hn : (kvs.map (·.1)).Nodup) (hx : ∃ p ∈ kvs, p.1 = k) : PStr h ρ n (kvs.map fun kv => if kv.1 = k then (kv.1, u) else kv) (dictPutV (.str k) v l) := by
  induction x with
  | nil => exact hx.elim fun p q => nomatch q.1
  | @cons z w' kvs v' l a r ih =>
    show PStr h ρ n ((if z = k then (z, u) else (z, w')) :: _) (cond (keyEq (.str z) (.str k)) ((.str z, v) :: l) ((.str z, v') :: dictPutV (.str k) v l))
    rw [keyEq_str]
    by_cases q : z = k
    · rw [decide_eq_true q, if_pos q, map_same fun x hx => if_neg (nodup_not hn q x hx)]
      exact .cons y r
    · rw [decide_eq_false q, if_neg q]
      refine .cons a (ih (List.nodup_cons.mp hn).2 (hx.imp fun p hp => ⟨(List.mem_cons.mp hp.1).resolve_left fun z => q ?_, hp.2⟩))
      rw [z] at hp; exact hp.2
theorem PStr.stored {h : Heap} {n : Nat} {kvs : List (Str × Value)} {l : List (V × V)} (x : PStr h ρ n kvs l) (k : Str) {u : Value} {v : V} (y : Val h ρ n u v) (hn : (kvs.map (·.1)).Nodup) : PStr h ρ n (PySem.stored kvs k u) (dictPutV (.str k) v l) := by
  have iff : (kvs.any fun kv => decide (kv.1 = k)) = true ↔ ∃ p ∈ kvs, p.1 = k := List.any_eq_true.trans (exists_congr fun p => and_congr_right fun _ => decide_eq_true_iff)
  unfold PySem.stored
  split
  · exact x.rep y hn (iff.mp ‹_›)
  · exact x.app y fun p hp e => ‹¬ _› (iff.mpr ⟨p, hp, e⟩)

theorem PTup.app {h : Heap} {n : Nat} {xs : List (List Str × Addr × Value)} {l : List (V × V)} (x : PTup h ρ n xs l) {k : List Str} {a : Addr} {u : Value} {v : V} (z : Val h ρ n (.ref a) (.tup (k.map .str))) (y : Val h ρ n u v) (hn : ∀ p ∈ xs, p.1 ≠ k) : PTup h ρ n (xs ++ [(k, a, u)]) (dictPutV (.tup (k.map .str)) v l) := by
  induction x with
  | nil => exact .cons z y .nil
  | @cons ks a' w' xs v' l b c r ih =>
    have hn := List.forall_mem_cons.mp hn
    show PTup h ρ n _ (cond (keyEq (.tup (ks.map .str)) (.tup (k.map .str))) ((.tup (ks.map .str), v) :: l) ((.tup (ks.map .str), v') :: dictPutV (.tup (k.map .str)) v l))
    rw [keyEq_tup, decide_eq_false hn.1]
    exact .cons b c (ih hn.2)
theorem PTup.rep {h : Heap} {n : Nat} {xs : List (List Str × Addr × Value)} {l : List (V × V)} (x : PTup h ρ n xs l) {k : List Str} {u : Value} {v : V} (y : Val h ρ n u v) (hn : (xs.map (·.1)).Nodup) (hx : ∃ p ∈ xs, p.1 = k) : PTup h ρ n (xs.map (putAt k u)) (dictPutV (.tup (k.map .str)) v l) := by
  induction x with
  | nil => exact hx.elim fun p q => nomatch q.1
  | @cons ks a' w' xs v' l b c r ih =>
    show PTup h ρ n ((if ks = k then (ks, a', u) else (ks, a', w')) :: _) (cond (keyEq (.tup (ks.map .str)) (.tup (k.map .str))) ((.tup (ks.map .str), v) :: l) ((.tup (ks.map .str), v') :: dictPutV (.tup (k.map .str)) v l))
    rw [keyEq_tup]
    by_cases q : ks = k
    · rw [decide_eq_true q, if_pos q, map_same fun x hx => by unfold putAt; exact if_neg (nodup_not hn q x hx)]
      exact .cons b y r
    · rw [decide_eq_false q, if_neg q]
      refine .cons b c (ih (List.nodup_cons.mp hn).2 (hx.imp fun p hp => ⟨(List.mem_cons.mp hp.1).resolve_left fun z => q ?_, hp.2⟩))
      rw [z] at hp; exact hp.2
theorem PTup.stored {h : Heap} {n : Nat} {xs : List (List Str × Addr × Value)} {l : List (V × V)} (x : PTup h ρ n xs l) (k : List Str) {a : Addr} {u : Value} {v : V} (z : Val h ρ n (.ref a) (.tup (k.map .str))) (y : Val h ρ n u v) (hn : (xs.map (·.1)).Nodup) :
    PTup h ρ n (storedH xs k a u) (dictPutV (.tup (k.map .str)) v l) := by
  have at_iff : (atKey xs k).isSome = true ↔ ∃ p ∈ xs, p.1 = k := by
    unfold atKey
    rw [Option.isSome_map, List.find?_isSome]
    exact exists_congr fun p => and_congr_right fun _ => decide_eq_true_iff
  unfold storedH
  split
  · exact x.rep y hn (at_iff.mp ‹_›)
  · exact x.app z y fun p hp e => ‹¬ _› (at_iff.mpr ⟨p, hp, e⟩)

theorem storedH_ne (xs : List (List Str × Addr × Value)) (k : List Str) (a : Addr) (u : Value) : storedH xs k a u ≠ [] := by
  unfold storedH
  split
  · rename_i q
    cases xs with
    | nil => exact nnF q
    | cons x xs => exact List.cons_ne_nil _ _
  · exact List.append_ne_nil_of_right_ne_nil _ (List.cons_ne_nil _ _)
theorem dictSetStr {A : Around} {E : Value → Shared → Prop} {d : Addr} {kvs : List (Str × Value)} {k : Str} {t : Tok} {v : Value} {Q : Unit → Shared → Prop} (hm : StrAt s.heap C.prog C.w d kvs)
    (hQ : ∀ h', StrAt h' C.prog C.w d (PySem.stored kvs k v) → Heap.SameBut d s.heap h' → Q () { s with heap := h', toks := s.toks + 1 }) (hsz : kvs.length ≤ sizeLine) :
    wpAny C.M A (dictSet d (.str k t) v) Q E s := by
  have hkey := strKind_is C.prog C.w k t
  refine ea_2_6 (hm) (fun o es ho hc hd hk hp hn => ?_)
  have hes : es.size = kvs.length := by have e1 := hp.length; simpa using e1
  have hidx : (es.findIdx? fun e => (strKind C.prog C.w).is k e.key) = kvs.findIdx? fun kv => decide (kv.1 = k) := by
    rw [← hp.findIdx k]; obtain ⟨l⟩ := es; simp
  unfold dictSet
  try with_reducible refine wpAny_holding ?_
  refine wpAny_bind ((strKind C.prog C.w).pyHash hkey ?_)
  unfold dictSetHashed
  try with_reducible refine wpAny_holding ?_
  refine wpAny_bind (wpAny_dictFind_of (s := { s with toks := s.toks + 1 }) hkey ho hd hk ?_)
  by_cases hany : (kvs.any fun kv => decide (kv.1 = k)) = true
  · obtain ⟨i, hi⟩ : ∃ i, (es.findIdx? fun e => (strKind C.prog C.w).is k e.key) = some i := by
      cases q : es.findIdx? fun e => (strKind C.prog C.w).is k e.key with
      | some i => exact ⟨i, rfl⟩
      | none =>
        rw [hidx] at q
        refine ea_1_2 (List.any_eq_true.mp hany) (fun kv hkv he => ?_)
        exact absurd (List.mem_map.mpr ⟨kv, hkv, of_decide_eq_true he⟩) (not_mem_of_findIdx_none q)
    rw [hi]
    have hl : (es.toList.findIdx? fun e => (strKind C.prog C.w).is k e.key) = some i := by rw [← hi]; obtain ⟨l⟩ := es; simp
    have hm' := hp.modify hn hl v
    have hlen : (PySem.stored kvs k v).length = kvs.length := by unfold PySem.stored; rw [if_pos hany, List.length_map]
    refine wpAny_bind (wpAny_rule (wpAny_bind (wpAny_updateDict (s := { s with toks := s.toks + 1 }) ho hd (wpAny_point (hQ _ ⟨_, _, Heap.get?_update_self _ ho (Obj.isFreed_of_dict (Obj.data_mapDict hd _)), hc.mapDict _, (Obj.data_mapDict hd _).trans (by rw [hlen]), hk.modify _ _, ?_, ?_⟩ (Heap.SameBut.update ..))))))
    · rw [PySem.stored, if_pos hany]
      obtain ⟨l⟩ := es
      simpa using hm'
    · rw [PySem.stored, if_pos hany, keys_map_store]; exact hn
  · have hi : (es.findIdx? fun e => (strKind C.prog C.w).is k e.key) = none := by
      cases q : es.findIdx? fun e => (strKind C.prog C.w).is k e.key with
      | none => rfl
      | some i => rw [hidx] at q; exact absurd (any_of_findIdx_some q) hany
    rw [hi]
    have hlen : (PySem.stored kvs k v).length = kvs.length + 1 := by unfold PySem.stored; rw [if_neg hany, List.length_append]; rfl
    have hnot : k ∉ kvs.map (·.1) := fun hm => hany (by
      refine ea_1_2 (List.mem_map.mp hm) (fun kv hkv he => ?_)
      exact List.any_eq_true.mpr ⟨kv, hkv, decide_eq_true he⟩)
    refine wpAny_bind (wpAny_rule (wpAny_updateDictKeys (hz := by omega) (s := { s with toks := s.toks + 1 }) ho hd (hQ _ ⟨_, _, Heap.get?_update_self _ ho (Obj.isFreed_of_dict (Obj.data_mapDictKeys hd _)), hc.mapDictKeys _, (Obj.data_mapDictKeys hd _).trans (by rw [hlen]), hk.push hkey _, ?_, ?_⟩ (Heap.SameBut.update ..))))
    · rw [PySem.stored, if_neg hany]
      have := hp.append hkey ((strKind C.prog C.w).hash k) v
      obtain ⟨l⟩ := es
      simpa using this
    · rw [PySem.stored, if_neg hany, List.map_append, List.nodup_append]
      refine ⟨hn, by simp, fun a ha b hb => ?_⟩
      simp only [List.map_cons, List.map_nil, List.mem_singleton] at hb
      subst hb
      exact fun e => hnot (e ▸ ha)
theorem setItemStr {A : Around} {E : Value → Shared → Prop} {d : Addr} {kvs : List (Str × Value)} {k : Str} {t : Tok} {v : Value} {Q : Unit → Shared → Prop} (hm : StrAt s.heap C.prog C.w d kvs)
    (hQ : ∀ h', StrAt h' C.prog C.w d (PySem.stored kvs k v) → Heap.SameBut d s.heap h' → Q () { s with heap := h', toks := s.toks + 1 }) (hsz : kvs.length ≤ sizeLine) :
    wpAny C.M A (setItem (.ref d) (.str k t) v) Q E s := by
  unfold setItem
  try with_reducible refine wpAny_holding ?_
  refine wpAny_bind (wpAny_sequenceKey hm.dictOf.typeIs (by decide) ?_)
  refine wpAny_bind (wpAny_callSpecial?_slot (name := Str.ofString "__setitem__") hm.dictOf.typeIs slot_dict_setitem
    (wpAny_call_entry slot_dict_setitem hm.dictOf.typeIs entry_dict_setitem ?_ (args_dict_setitem _ _ _)))
  show wpAny _ _ (Builtin.Dict.notOrdered "__setitem__" ⟨[.ref d, .str k t, v], []⟩ >>= _) _ _ s
  refine wpAny_bind (wpAny_notOrdered_dict hm.dictOf.typeIs ?_)
  show wpAny _ _ (dictSet d (.str k t) v >>= _) _ _ s
  exact wpAny_bind (dictSetStr hm (fun h' hm' hs' => wpAny_pure ⟨.none, rfl, wpAny_pure (hQ h' hm' hs')⟩) hsz)

theorem dictStore_sound {n : Nat} (room : Room A n) (R : C.R ρ σ s.heap) {c : Nat} {l : List (V × V)} {ui uv : Value} {i v : V} (q : dictAt σ c = some l) (hk : (keyOk i l && Nat.blt l.length 1000) = true) (Vi : Val s.heap ρ σ.next ui i) (Vv : Val s.heap ρ σ.next uv v) :
    wpAny C.M A (setItem (.ref (ρ c).1) ui uv) (fun _ => Post C NoX ρ σ s (σ.set c (.dict (dictPutV i v l))) fun _ _ => True) noE s := by
  refine bA hk fun hk hl => ?_
  have D := R.cells _ _ (dictAt_get q)
  have hl : l.length ≤ sizeLine := sizeLine_eq ▸ Nat.le_trans (Nat.le_of_ble_eq_true hl) (by decide)
  refine keyOk_of hk (fun k qk hk' => ?_) fun ks qk ht hk' => ?_
  · obtain rfl := qk
    refine ea_1_2 (dict_str D.2 hk') (fun kvs hd pk => ?_)
    exact Vi.e_str fun t => setItemStr hd (fun h' hd' hs => post_set R D.1 (.inl rfl) hs fun F => ⟨D.2.1, .inl ⟨_, hd', (pk.stored k Vv hd.nodup).mono F (fun _ _ => rfl) (Nat.le_refl _)⟩⟩) (pk.length ▸ hl)
  · obtain rfl := qk
    refine ea_1_2 (dict_tup D.2 hk') (fun xs hd pk => ?_)
    obtain ⟨a', q', hkey⟩ := tupleKey (prog := C.prog) (w := C.w) Vi
    rw [q'] at Vi ⊢
    have hnd : (xs.map (·.1)).Nodup := hd.elim fun _ y => y.elim fun _ y => y.elim fun _ y => y.2.2.2.2
    refine wpAny_setItem_heap (knd := tupleKind (strKind C.prog C.w)) (Nat.lt_of_le_of_lt (Nat.add_le_add_left (by decide : 1 ≤ 64) A.units) (room_units room)) hkey (dictOfH_of hd pk)
      (fun h' hd' hs => post_set R D.1 (.inl rfl) hs fun F => ⟨D.2.1, .inr ⟨_, storedH_ne _ _ _ _, ?_, (pk.stored ks Vi Vv hnd).mono F (fun _ _ => rfl) (Nat.le_refl _)⟩⟩) (pk.length ▸ hl)
    exact hd'.elim fun o y => y.elim fun es y => y.elim fun ep y => ⟨o, es, ep, y.1, y.2.1, y.2.2.1, y.2.2.2.1, y.2.2.2.2.2⟩

theorem store_sound {n : Nat} (room : Room A n) (R : C.R ρ σ s.heap) {uo ui uv : Value} {o i v : V} {σ' : St} (Vo : Val s.heap ρ σ.next uo o) (Vi : Val s.heap ρ σ.next ui i) (Vv : Val s.heap ρ σ.next uv v) (e : storeV σ o i v = some σ') :
    wpAny C.M A (setItem uo ui uv) (fun _ => Post C NoX ρ σ s σ' fun _ _ => True) noE s := by
  refine b1 e fun c qc e => Vo.q_cell (P := fun u => wpAny C.M A (setItem u ui uv) _ noE s) qc fun hi => bO e (fun l q e => b1 e fun k qk e => bT e fun hb e => bA hb fun h0 h2 => bA h2 fun h1 h2 => c1 e ?_) fun _ e => b1 e fun l q e => bT e fun hk e => c1 e (dictStore_sound room R q hk Vi Vv)
  refine Vi.q_int (P := fun u => wpAny C.M A (setItem _ u uv) _ noE s) qk fun t => ?_
  have h0 := of_decide_eq_true h0
  obtain ⟨e2, items, k', ho, vs⟩ := (R.cells _ _ (listAt_get q)).2
  refine setItemM ho h0 (Int.lt_trans ((Int.toNat_lt h0).mp (Nat.le_of_ble_eq_true h2)) (by decide)) ((Int.toNat_lt h0).mp (vals_size vs ▸ Nat.le_of_ble_eq_true h1)) fun h' n' ho' hs => post_set R hi (.inl rfl) hs fun F => ⟨e2, _, _, ho', ?_⟩
  rw [Array.toList_setIfInBounds]
  exact (vs.set Vv k.toNat).mono F (fun _ _ => rfl) (Nat.le_refl _)
end
end
section
open PySem PySem.Calls PyProof.Rows PySem.W PySem.SeqAt
set_option maxRecDepth 100000

theorem ltNats_iff : ∀ (a b : List Nat), ltNats a b = decide (a < b)
  | [], [] => by simp [ltNats]
  | [], _ :: _ => by simp [ltNats]
  | _ :: _, [] => by simp [ltNats]
  | a :: as, b :: bs => by
    show (cond (Nat.blt a b) true (cond (Nat.beq a b) (ltNats as bs) false)) = _
    rw [ltNats_iff as bs, Bool.eq_iff_iff, decide_eq_true_iff, List.cons_lt_cons_iff]
    cases h : Nat.blt a b with
    | true => exact ⟨(fun _ => .inl (Nat.le_of_ble_eq_true h)), fun _ => rfl⟩
    | false =>
      have hn : ¬ a < b := fun q => nnT ((Nat.ble_eq_true_of_le q).symm.trans h)
      cases h2 : Nat.beq a b with
      | true => exact ⟨(fun z => .inr ⟨Nat.eq_of_beq_eq_true h2, of_decide_eq_true z⟩), fun z => decide_eq_true (z.resolve_left hn).2⟩
      | false => exact ⟨(fun z => nnF z), fun z => absurd (z.resolve_left hn).1 (Nat.ne_of_beq_eq_false h2)⟩

section
variable {prog : Program} {w : World}
theorem eq_word {A : Around} {s : Shared} {ρ : Pl} {k n : Nat} (hu : A.units + 10 + n < cLine) {u v : Value} {x y : V} (X : Val s.heap ρ k u x) (Y : Val s.heap ρ k v y) (px : pureN n x = true) (py : pureN n y = true) {r : Bool} {Q : Bool → Shared → Prop} {E : Value → Shared → Prop} (e : eqN n x y = some r) (h : Q r s) : wpAny (model prog w) A (eqBool u v) Q E s := by
  refine ea_1_1 (reads_of n X px) (fun as ra => ?_)
  refine ea_1_1 (reads_of n Y py) (fun bs rb => ?_)
  refine eqAt_reads (toP n x) (toP n y) A s u v _ _ ra rb (lay_of n x px).1 (lay_of n y py).1 (Nat.lt_of_le_of_lt ?_ hu) prog w E Q (by rw [eqv_of n x y _ e]; exact h)
  exact Nat.le_trans (Nat.add_le_add_left (Nat.le_trans (Nat.min_le_left _ _) (lay_of n x px).2) _) (Nat.add_le_add_right (Nat.le_add_right _ _) _)
theorem lt_P {t : List V → List V → Option Bool} {tp : List V → Bool} {A : Around} {E : Value → Shared → Prop} {s : Shared} {ρ : Pl} {k : Nat} {ua ub : Value} {Q : Value → Shared → Prop} {r : Bool} {a b : V} (e : ltP t a b = some r) (pa : pureP tp a = true) (pb : pureP tp b = true) (Va : Val s.heap ρ k ua a) (Vb : Val s.heap ρ k ub b) (h : Q (.bool r) s)
    (tup : ∀ {la lb}, t la lb = some r → tp la = true → tp lb = true → ∀ {a b : Addr} {xs ys : Array Value} {ka kb : Nat}, s.heap.get? a = some { cls := .type "tuple", data := .seq xs ka } → s.heap.get? b = some { cls := .type "tuple", data := .seq ys kb } → Vals s.heap ρ k xs.toList la → Vals s.heap ρ k ys.toList lb → wpAny (model prog w) A (richCompare .Lt (.ref a) (.ref b)) Q E s) :
    wpAny (model prog w) A (richCompare .Lt ua ub) Q E s := by
  cases a with
  | int x => exact b1 e fun y q e => Va.e_int fun t => Vb.q_int (P := fun u => wpAny (model prog w) A (richCompare .Lt _ u) Q E s) q fun t' => PyProof.Rows.lt_int (Option.some.inj e ▸ h)
  | str x => exact b1 e fun y q e => Va.e_str fun t => Vb.q_str (P := fun u => wpAny (model prog w) A (richCompare .Lt _ u) Q E s) q fun t' => PyProof.Rows.lt_str ((ltNats_iff _ _).symm.trans (Option.some.inj e) ▸ h)
  | tup x =>
    refine b1 e fun y q e => ?_
    obtain rfl := asTup_eq q
    exact Va.e_tup fun _ _ _ ho _ vx => Vb.e_tup fun _ _ _ ho' _ vy => tup e pa pb ho ho' vx vy
  | _ => exact nnO e
structure LtAt (s : Shared) (ρ : Pl) (k n zx zy : Nat) (r : Bool) (rest : List (Value × Value)) : Prop where
  ok : ∃ us vs us' vs', rest = List.zip us us' ∧ Vals s.heap ρ k us vs ∧ Vals s.heap ρ k us' vs' ∧ (∀ v ∈ vs, pureN n v = true) ∧ (∀ v ∈ vs', pureN n v = true) ∧ ltVsBy (eqN n) (ltN n) vs vs' = some r ∧ zx + vs'.length = zy + vs.length
theorem LtAt.step {s : Shared} {ρ : Pl} {k n zx zy : Nat} {r : Bool} {p : Value × Value} {rest : List (Value × Value)} {P : Prop} (x : LtAt s ρ k n zx zy r (p :: rest))
    (K : ∀ v1 v2 c, Val s.heap ρ k p.1 v1 → Val s.heap ρ k p.2 v2 → pureN n v1 = true → pureN n v2 = true → eqN n v1 v2 = some c → (c = true → LtAt s ρ k n zx zy r rest) → (c = false → ltN n v1 v2 = some r) → P) : P := by
  obtain ⟨us, vs, us', vs', hz, X, Y, px, py, hlt, hlen⟩ := x.ok
  cases us with
  | nil => exact nomatch hz
  | cons u us =>
    cases us' with
    | nil => exact nomatch hz
    | cons u' us' =>
      have h1 := (List.cons.inj hz).1
      have h2 := (List.cons.inj hz).2
      cases vs with
      | nil => exact nomatch X.length
      | cons v1 vs =>
        cases vs' with
        | nil => exact nomatch Y.length
        | cons v2 vs' =>
          have px := List.forall_mem_cons.mp px
          have py := List.forall_mem_cons.mp py
          refine X.e_cons2 fun x1 X1 => Y.e_cons2 fun y1 Y1 => b1 hlt fun c he hlt => K v1 v2 c (by rw [h1]; exact x1) (by rw [h1]; exact y1) px.1 py.1 he (fun q => ?_) fun q => ?_
          · rw [q] at hlt
            exact ⟨us, vs, us', vs', h2, X1, Y1, px.2, py.2, hlt, Nat.succ.inj hlen⟩
          · rw [q] at hlt
            exact hlt
theorem LtAt.fin {s : Shared} {ρ : Pl} {k n zx zy : Nat} {r : Bool} (x : LtAt s ρ k n zx zy r []) : decide (zx < zy) = r := by
  obtain ⟨us, vs, us', vs', hz, X, Y, _, _, hlt, hlen⟩ := x.ok
  have l1 := X.length
  have l2 := Y.length
  cases vs with
  | nil => cases vs' with
    | nil => exact (decide_eq_false (Nat.not_lt.mpr (Nat.le_of_eq hlen.symm))).trans (Option.some.inj hlt)
    | cons _ _ => exact (decide_eq_true (Nat.lt_of_lt_of_le (Nat.lt_add_of_pos_right (Nat.succ_pos _)) (Nat.le_of_eq hlen))).trans (Option.some.inj hlt)
  | cons _ _ => cases vs' with
    | nil => exact (decide_eq_false (Nat.not_lt.mpr (Nat.le_trans (Nat.le_add_right _ _) (Nat.le_of_eq hlen.symm)))).trans (Option.some.inj hlt)
    | cons _ _ =>
      cases us with
      | nil => exact nomatch l1
      | cons _ _ => cases us' with
        | nil => exact nomatch l2
        | cons _ _ => exact nomatch hz
theorem lt_sound : ∀ (n : Nat) {a b : V} {r : Bool}, ltN n a b = some r → pureN n a = true → pureN n b = true → n ≤ 8 → ∀ {A : Around} {E : Value → Shared → Prop} {s : Shared} {ρ : Pl} {k : Nat} {ua ub : Value} {Q : Value → Shared → Prop},
    Val s.heap ρ k ua a → Val s.heap ρ k ub b → A.units + 20 + n < cLine → Q (.bool r) s → wpAny (model prog w) A (richCompare .Lt ua ub) Q E s := by
  intro n
  induction n with
  | zero => exact fun e pa pb hn A E s ρ k ua ub Q Va Vb hu h => lt_P e pa pb Va Vb h fun e => nnO e
  | succ n ih =>
    intro a b r e pa pb hn A E s ρ k ua ub Q Va Vb hu h
    refine lt_P e pa pb Va Vb h fun {la lb} e pa pb {a b xs ys ka kb} ho ho' vx vy => ?_
    have Ta : s.TypeIs (.ref a) "tuple" := ⟨_, ho, rfl⟩
    have Tb : s.TypeIs (.ref b) "tuple" := ⟨_, ho', rfl⟩
    have hu1 : A.in1.units + 20 + n < cLine := by show A.units + 1 + 20 + n < cLine; omega
    refine wpAny_richCompare_same_room (op := .Lt) Ta Tb PySem.F.slot_tuple_lt ?_ (Nat.lt_of_le_of_lt (Nat.le_trans (Nat.le_add_right _ 20) (Nat.le_add_right _ _)) hu)
    refine wpAny_call_entry PySem.F.slot_tuple_lt Ta PySem.F.entry_tuple_lt ?_ (PySem.F.args_tuple_lt_2 _ _)
    show wpAny _ _ (isInstance (.ref b) (.type "tuple") >>= _) _ _ s
    refine wpAny_bind (wpAny_isInstance Tb isSubtype_tuple_tuple ?_)
    simp only [Bool.not_true, Bool.false_eq_true, if_false]
    refine wpAny_bind (wpAny_tupleItemsOf ho rfl (wpAny_bind (wpAny_tupleItemsOf ho' rfl (wpAny_bind ?_))))
    refine wpAny_forIn_list _ (fun rest q s' => q.1 = none ∧ s' = s ∧ LtAt s ρ k n xs.size ys.size r rest) _ ?_ ?_ _ _
      ⟨rfl, rfl, ⟨xs.toList, la, ys.toList, lb, rfl, vx, vy, allBy_iff.mp pa, allBy_iff.mp pb, e, by rw [vals_size vx, vals_size vy]; exact Nat.add_comm _ _⟩⟩
    · intro p rest q s' y
      rw [y.2.1]
      refine y.2.2.step fun v1 v2 c x1 y1 p1 p2 he h1 h2 => wpAny_bind (eq_word (Nat.lt_of_le_of_lt (Nat.add_le_add_right (Nat.add_le_add_left (by decide) _) _) hu1) x1 y1 p1 p2 he ?_)
      cases c with
      | true =>
        simp only [Bool.not_true, Bool.false_eq_true, if_false]
        exact wpAny_pure ⟨rfl, rfl, h1 rfl⟩
      | false =>
        simp only [Bool.not_false, if_true]
        refine wpAny_bind (wpAny_rule (wpAny_bind (ih (h2 rfl) p1 p2 (Nat.le_of_succ_le hn) x1 y1 hu1 ?_)))
        exact wpAny_bind (wpAny_pure (wpAny_pure (wpAny_pure ⟨_, rfl, by simp, h⟩)))
    · intro q s' y
      obtain ⟨r1, r2⟩ := q
      have hr : r1 = none := y.1
      rw [y.2.1, hr]
      refine wpAny_pure ⟨_, rfl, (fun q => nomatch (show Value.bool _ = Value.notImplemented from q)), ?_⟩
      show Q (.bool (decide (xs.size < ys.size))) s
      exact y.2.2.fin ▸ h
end
end
section
open PySem PySem.Calls PyProof.Rows PySem.W PySem.SeqAt
set_option maxRecDepth 100000

theorem runT_wp {α : Type} {f : Nat → Nat → Option Bool} {cmp : Nat → Nat → (Bool → Shared → Prop) → Shared → Prop} {Q : α → Shared → Prop} {s : Shared} (hc : ∀ i j b C, f i j = some b → C b s → cmp i j C s) :
    ∀ (t : KasT α) (a : α), runT f t = some a → Q a s → t.kasWp cmp Q s
  | .ret a, b, e, h => Option.some.inj e ▸ h
  | .ask i j k, a, e, h => b1 (show (bnd (f i j) fun b => runT f (k b)) = some a from e) fun b q e => hc i j b _ q (runT_wp hc (k b) a e h)

section
variable {prog : Program} {w : World} {A : Around} {E : Value → Shared → Prop} {s : Shared} {vs out : List Value}
noncomputable abbrev Keeps (a : Addr) (h h' : Heap) : Prop := ∀ b o, b ≠ a → h.get? b = some o → h'.get? b = some o
noncomputable abbrev KeepsAll (h h' : Heap) : Prop := ∀ b o, h.get? b = some o → h'.get? b = some o
noncomputable def Order (prog : Program) (w : World) (A : Around) (vs out : List Value) (s : Shared) : Prop :=
  ∃ κ p, (∀ (Q : SortKind → Shared → Prop), Q κ s → wpAny (model prog w) A (keyKind' vs.toArray) Q (fun _ _ => False) s) ∧ (∀ (G : Array Nat → Shared → Prop), G p s → (kas_sort vs.length).kasWp (kas_ask prog w A κ vs) G s) ∧ p.toList.map (fun i => vs.getD i Value.none) = out

theorem sortM {a : Addr} {n : Nat} {P : PySem.Fin → Shared → Prop} (ho : s.heap.get? a = some (seqObj "list" vs.toArray n)) (h64 : vs.length < 64)
    (hk : 2 ≤ vs.length → ∀ h', Keeps a s.heap h' → Order prog w A vs out { s with heap := h' }) (h0 : vs.length < 2 → out = vs)
    (h : ∀ h' c, h'.get? a = some (seqObj "list" out.toArray c) → Keeps a s.heap h' → P (.done (.ret .none)) { s with heap := h' }) :
    wpAny (model prog w) A (Builtin.«list.sort» ⟨[.ref a], []⟩) P E s := by
  have ha : a < s.heap.objs.size := Heap.lt_size ho
  have s1 := Heap.SameBut.update s.heap a (Obj.mapSeq fun _ => (#[] : Array Value))
  obtain ⟨e1, ho1⟩ : ∃ e1, (s.heap.update a (Obj.mapSeq fun _ => (#[] : Array Value))).get? a = some (seqObj "list" #[] e1) := ⟨_, get?_update_seq ho fun _ => #[]⟩
  have ho3 : (((s.heap.update a (Obj.mapSeq fun _ => (#[] : Array Value))).push (seqObj "tuple" vs.toArray 0)).push (seqObj "list" #[] 0)).get? a = some (seqObj "list" #[] e1) := Heap.get?_push_of_some _ (Heap.get?_push_of_some _ ho1)
  have k3 : Keeps a s.heap (((s.heap.update a (Obj.mapSeq fun _ => (#[] : Array Value))).push (seqObj "tuple" vs.toArray 0)).push (seqObj "list" #[] 0)) := fun b o hb e => Heap.get?_push_of_some _ (Heap.get?_push_of_some _ ((s1.2 b hb).trans e))
  rw [list_sort_plain]
  refine wpAny_bind (listItems_at ho rfl ?_)
  refine wpAny_bind (listUpdate_at ho rfl ?_ (by rw [List.size_toArray, sizeLine_eq]; omega) (Nat.zero_le _))
  refine wpAny_bind (seqEpoch_at ho1 rfl ?_)
  refine wpAny_bind (wpAny_newTuple ?_ (by show vs.length ≤ _; rw [sizeLine_eq]; omega))
  refine wpAny_bind (wpAny_newList ?_ (Nat.zero_le _))
  refine wpAny_holding ?_
  show wpAny (model prog w) A _ P E { s with heap := ((s.heap.update a (Obj.mapSeq fun _ => (#[] : Array Value))).push (seqObj "tuple" vs.toArray 0)).push (seqObj "list" #[] 0) }
  dsimp only
  have last : ∀ (o : Array Value), o = out.toArray → out.length = vs.length → wpAny (model prog w) A (do
        let touched := (← seqEpoch a) != e1
        Builtin.List.listUpdate (.ref a) fun _ => o
        if touched then rule "list.sort.modified"; raiseError "ValueError" "list modified during sort"
        ret .none) P E { s with heap := ((s.heap.update a (Obj.mapSeq fun _ => (#[] : Array Value))).push (seqObj "tuple" vs.toArray 0)).push (seqObj "list" #[] 0) } := fun o eo hl => by
    subst eo
    refine wpAny_bind (seqEpoch_at ho3 rfl ?_)
    refine wpAny_bind (listUpdate_at ho3 rfl ?_ (Nat.zero_le _) (by rw [List.size_toArray, sizeLine_eq]; omega))
    simp only [bne_self_eq_false, Bool.false_eq_true, if_false]
    have s2 := Heap.SameBut.update (((s.heap.update a (Obj.mapSeq fun _ => (#[] : Array Value))).push (seqObj "tuple" vs.toArray 0)).push (seqObj "list" #[] 0)) a (Obj.mapSeq fun _ => out.toArray)
    exact wpAny_pure (h _ _ (get?_update_seq ho3 fun _ => out.toArray) fun b x hb e => (s2.2 b hb).trans (k3 b x hb e))
  by_cases h2 : vs.toArray.size < 2
  · rw [if_pos h2, if_pos h2]
    rw [List.size_toArray] at h2
    have e := h0 h2
    refine wpAny_bind (wpAny_pure ?_)
    rw [StateT.run_pure]
    refine wpAny_bind (wpAny_pure ?_)
    dsimp only
    refine last _ ?_ (by rw [e])
    apply Array.toList_inj.mp
    rw [e]
    show ((vs.toArray.zip vs.toArray).map (·.2)).toList = vs
    match vs, h2 with
    | [], _ => simp
    | [v], _ => simp
    | _ :: _ :: _, h2 => simp only [List.length_cons] at h2; omega
  · have h2' : 2 ≤ vs.length := by rw [List.size_toArray] at h2; omega
    rw [if_neg h2, if_neg h2]
    refine ea_2_3 (hk h2' _ k3) (fun κ p hκ hp ho => ?_)
    refine wpAny_bind (wpAny_mono (hκ (fun k s' => k = κ ∧ s' = { s with heap := ((s.heap.update a (Obj.mapSeq fun _ => (#[] : Array Value))).push (seqObj "tuple" vs.toArray 0)).push (seqObj "list" #[] 0) }) ⟨rfl, rfl⟩) ?_ fun _ _ x => x.elim)
    rintro κ' s' ⟨rfl, rfl⟩
    refine wpAny_bind (wpAny_mono (kat_run (κ := κ') (ks := vs) (vs := vs) (Q := fun st' s' => s' = { s with heap := ((s.heap.update a (Obj.mapSeq fun _ => (#[] : Array Value))).push (seqObj "tuple" vs.toArray 0)).push (seqObj "list" #[] 0) } ∧
        p.size = vs.length ∧ arrOf st' = p.map (kas_item (vs.toArray.zip vs.toArray)) ∧ failedOf st' = none)
      rfl h2' h64 (G := fun p' s' => p' = p ∧ s' = { s with heap := ((s.heap.update a (Obj.mapSeq fun _ => (#[] : Array Value))).push (seqObj "tuple" vs.toArray 0)).push (seqObj "list" #[] 0) })
      (fun p' st' s' a1 a2 a3 a4 => by obtain ⟨rfl, rfl⟩ := a4; exact ⟨rfl, a1, a2, a3⟩) (hp _ ⟨rfl, rfl⟩)) ?_ fun _ _ e => e)
    rintro ⟨⟨⟩, st'⟩ s' ⟨rfl, hsz, har, hf⟩
    dsimp only
    have hout := kat_snds (ks := vs) rfl har
    rw [hf]
    dsimp only
    refine last _ (by rw [hout, ho]) ?_
    rw [← ho, List.length_map, Array.length_toList, hsz]

theorem sortedM {x : Value} {Q : Value → Shared → Prop} {P : List Value → Prop} (out : List Value → List Value) (h64 : ∀ vs, P vs → vs.length < 64)
    (hc : ∀ (Q' : List Value → Shared → Prop), (∀ vs h' tk, P vs → KeepsAll s.heap h' → Q' vs { s with heap := h', toks := tk }) → wpAny (model prog w) A.in1 (collect x) Q' E s)
    (hk : ∀ vs, P vs → 2 ≤ vs.length → ∀ h' tk, KeepsAll s.heap h' → Order prog w A.in1.in1 vs (out vs) { s with heap := h', toks := tk }) (h0 : ∀ vs, P vs → vs.length < 2 → out vs = vs)
    (h : ∀ vs D h' c tk, P vs → s.heap.get? D = none → h'.get? D = some (seqObj "list" (out vs).toArray c) → KeepsAll s.heap h' → Q (.ref D) { s with heap := h', toks := tk }) :
    wpAny (model prog w) A (call (.builtin "sorted") [x]) Q E s := by
  refine Calls.call_function_entry kind_sorted plain_sorted entry_sorted (args_sorted1 _) ?_
  unfold Builtin.«sorted»
  refine wpAny_bind (m := checkCount "sorted" 1 1 _) (wpAny_pure ?_)
  refine wpAny_bind (hc _ fun vs h' tk hP kp => ?_)
  have h64 := h64 vs hP
  refine wpAny_bind (wpAny_newList ?_ (by rw [sizeLine_eq]; omega))
  have hD : s.heap.get? h'.objs.size = none := by
    cases e : s.heap.get? h'.objs.size with
    | none => rfl
    | some o => exact absurd (Heap.lt_size (kp _ _ e)) (Nat.lt_irrefl _)
  have hoL : (h'.push (seqObj "list" vs.toArray 0)).get? h'.objs.size = some (seqObj "list" vs.toArray 0) := Heap.get?_push_size _ rfl
  have ne : ∀ {b o}, s.heap.get? b = some o → b ≠ h'.objs.size := fun e q => by rw [q, hD] at e; (first | exact nnO e | (refine c2 e ?_; clear e) | (refine c1 e ?_; clear e) | cases e)
  have kp2 : KeepsAll s.heap (h'.push (seqObj "list" vs.toArray 0)) := fun b o e => Heap.get?_push_of_some _ (kp b o e)
  refine wpAny_bind (wpAny_holding (wpAny_call_entry slot_list_sort ⟨_, hoL, rfl⟩ entry_list_sort ?body (args_list_sort _)))
  case body =>
    refine sortM (s := { s with heap := h'.push (seqObj "list" vs.toArray 0), toks := tk }) (out := out vs) hoL h64 (fun h2 h'' k => hk vs hP h2 _ _ fun b o e => k b o (ne e) (kp2 b o e)) (h0 vs hP) fun h'' c hc k => ?_
    exact ⟨_, rfl, wpAny_pure ⟨_, rfl, h vs _ _ _ _ hP hD hc fun b o e => k b o (ne e) (kp2 b o e)⟩⟩
end
end
section
open PySem PySem.Calls PyProof.Rows PySem.W PySem.SeqAt
set_option maxRecDepth 100000

section
variable {h h' : Heap} {ρ : Pl} {k : Nat}
theorem froz_keep (q : KeepsAll h h') : Froz h ρ k h' ρ k := fun a o e hn _ => ⟨q a o e, hn⟩
theorem Val.keep (q : KeepsAll h h') {u : Value} {v : V} (x : Val h ρ k u v) : Val h' ρ k u v := x.mono (froz_keep q) (fun _ _ => rfl) (Nat.le_refl _)
theorem Vals.keep (q : KeepsAll h h') {u : List Value} {v : List V} (x : Vals h ρ k u v) : Vals h' ρ k u v := x.mono (froz_keep q) (fun _ _ => rfl) (Nat.le_refl _)
theorem Vals.getD {us : List Value} {vs : List V} (x : Vals h ρ k us vs) (i : Nat) : Val h ρ k (us.getD i .none) (vs.getD i .none) := by
  rw [List.getD_eq_getElem?_getD, List.getD_eq_getElem?_getD]
  cases e : vs[i]? with
  | none => rw [x.get_none e]; exact .none
  | some v => obtain ⟨u, hu, y⟩ := x.get e; rw [hu]; exact y
theorem Vals.mapD {us : List Value} {vs : List V} (x : Vals h ρ k us vs) : ∀ p : List Nat, Vals h ρ k (p.map fun i => us.getD i .none) (p.map fun i => vs.getD i .none)
  | [] => .nil
  | i :: p => .cons (x.getD i) (x.mapD p)
end
theorem pure_getD {l : List V} (hp : ∀ v ∈ l, pureV v = true) (i : Nat) : pureV (l.getD i .none) = true := by
  rw [List.getD_eq_getElem?_getD]
  cases e : l[i]? with
  | none => rfl
  | some v => exact hp v (List.mem_of_getElem? e)

section
variable {prog : Program} {w : World} {A : Around} {E : Value → Shared → Prop} {s : Shared} {ρ : Pl} {k : Nat}
theorem lex_sound {r fin : Bool} {Q : Bool → Shared → Prop} (hu : A.units + 40 < cLine) (h : Q r s) {us : List Value} {vs : List V} (X : Vals s.heap ρ k us vs) : ∀ {us' : List Value} {vs' : List V} (i : Nat), Vals s.heap ρ k us' vs' → (∀ v ∈ vs, pureN 7 v = true) → (∀ v ∈ vs', pureN 7 v = true) →
    ltVsBy (eqN 7) (ltN 7) vs vs' = some r → fin = decide (us.length < us'.length) → KatLex prog w A false fin Q (us.zip us') i s := by
  refine X.ind (P := fun us vs => ∀ {us' : List Value} {vs' : List V} (i : Nat), Vals s.heap ρ k us' vs' → (∀ v ∈ vs, pureN 7 v = true) → (∀ v ∈ vs', pureN 7 v = true) → ltVsBy (eqN 7) (ltN 7) vs vs' = some r → fin = decide (us.length < us'.length) → KatLex prog w A false fin Q (us.zip us') i s) ?_ ?_
  · intro us' vs' i Y _ _ e hf
    have l := Y.length
    cases us' with
    | nil => cases vs' with
      | nil => exact kat_nil (hf.trans (Option.some.inj e) ▸ h)
      | cons _ _ => exact nomatch l
    | cons _ _ => cases vs' with
      | nil => exact nomatch l
      | cons _ _ => exact kat_nil (hf.trans (Option.some.inj e) ▸ h)
  · intro u us v vs x X ih us' vs' i Y px py e hf
    have l := Y.length
    cases vs' with
    | nil => cases us' with
      | nil => exact kat_nil (hf.trans (Option.some.inj e) ▸ h)
      | cons _ _ => exact nomatch l
    | cons v2 vs2 => cases us' with
      | nil => exact nomatch l
      | cons u' us2 =>
        have px := List.forall_mem_cons.mp px
        have py := List.forall_mem_cons.mp py
        refine Y.e_cons2 fun y Y => b1 e fun c he e => kat_cons (eq_word (Nat.lt_of_le_of_lt (Nat.add_le_add_left (by decide : 17 ≤ 40) A.units) hu) x y px.1 py.1 he ?_)
        cases c with
        | true => exact kat_yes (ih (i + 1) Y px.2 py.2 e (hf.trans (by rw [List.length_cons, List.length_cons, Bool.eq_iff_iff, decide_eq_true_iff, decide_eq_true_iff]; exact Nat.succ_lt_succ_iff)))
        | false => exact kat_no (kat_one _ _ (lt_sound 7 e px.1 py.1 (by decide) x y (Nat.lt_of_le_of_lt (Nat.add_le_add_left (by decide : 27 ≤ 40) A.units) hu) h))

theorem isTT_of {v : V} (h : isTT v = true) : ∃ l l1 r, v = .tup l ∧ l = .tup l1 :: r :=
  bO h (fun l q h => bO h (fun p q' h => (Option.isSome_iff_exists.mp h).elim fun l1 z => ⟨l, l1, p.2, asTup_eq q, by rw [unc_eq q', asTup_eq z]⟩) fun _ => nnF) fun _ => nnF
theorem ask_sound (hu : A.units + 40 < cLine) {us : List Value} {vs : List V} (X : Vals s.heap ρ k us vs) (hp : ∀ v ∈ vs, pureV v = true) (κ : SortKind)
    (hκ : (κ = oneType' ∧ ∀ v ∈ vs, isStrV v = true) ∨ (κ = tuples' false ∧ ∀ v ∈ vs, isTT v = true)) {i j : Nat} {b : Bool} {C : Bool → Shared → Prop} (e : ltV (vs.getD i .none) (vs.getD j .none) = some b) (h : C b s) :
    kas_ask prog w A κ us i j C s := by
  have x := X.getD i
  have y := X.getD j
  have px := pure_getD hp i
  have py := pure_getD hp j
  have mem : ∀ i, vs.getD i .none = .none ∨ vs.getD i .none ∈ vs := fun i => by
    rw [List.getD_eq_getElem?_getD]
    cases q : vs[i]? with
    | none => exact .inl rfl
    | some v => exact .inr (List.mem_of_getElem? q)
  have mi := (mem i).resolve_left fun z => by rw [z] at e; exact nnO e
  have mj := (mem j).resolve_left fun z => by
    rw [z] at e
    generalize vs.getD i .none = a at e
    cases a <;> exact nnO e
  unfold kas_ask
  generalize us.getD i .none = ua at *
  generalize us.getD j .none = ub at *
  generalize vs.getD i .none = a at *
  generalize vs.getD j .none = b' at *
  rcases hκ with ⟨rfl, hs⟩ | ⟨rfl, ht⟩
  · obtain ⟨ka, rfl⟩ := isStr_of (hs _ mi)
    obtain ⟨kb, rfl⟩ := isStr_of (hs _ mj)
    exact x.e_str fun t => y.e_str fun t' => kas_lt_str ((ltNats_iff _ _).symm.trans (Option.some.inj e) ▸ h)
  · obtain ⟨la, _, _, rfl, _⟩ := isTT_of (ht _ mi)
    obtain ⟨lb, _, _, rfl, _⟩ := isTT_of (ht _ mj)
    exact x.e_tup fun a xs ka ho _ vx => y.e_tup fun b1 ys kb ho' _ vy => kat_lt ho rfl ho' rfl (lex_sound hu h vx 0 vy (allBy_iff.mp px) (allBy_iff.mp py) e rfl)

theorem tt_first {us : List Value} {vs : List V} (X : Vals s.heap ρ k us vs) : (∀ v ∈ vs, isTT v = true) → ∃ fs, KatTups s.heap us fs ∧ fs.length = us.length ∧ ∀ f ∈ fs, ∀ M : Model, Looks M s.heap (typeOf f) (.type "tuple") := by
  refine X.ind (P := fun us vs => (∀ v ∈ vs, isTT v = true) → ∃ fs, KatTups s.heap us fs ∧ fs.length = us.length ∧ ∀ f ∈ fs, ∀ M : Model, Looks M s.heap (typeOf f) (.type "tuple")) (fun _ => ⟨[], KatTups.nil, rfl, fun _ q => nomatch q⟩) ?_
  intro u us v vs x X ih ht
  have ht := List.forall_mem_cons.mp ht
  refine ea_1_3 (ih ht.2) (fun fs t hl hf => ?_)
  obtain ⟨l, l1, r, rfl, rfl⟩ := isTT_of ht.1
  refine x.e_tup fun a xs ka ho _ vx => ?_
  generalize hx : xs.toList = xl at vx
  obtain ⟨f, fr, rfl, y⟩ : ∃ f fr, xl = f :: fr ∧ Val s.heap ρ k f (.tup l1) := vx.e_cons fun f fr y _ => ⟨f, fr, rfl, y⟩
  obtain ⟨b, ys, kb, rfl, ho'⟩ : ∃ b ys kb, f = .ref b ∧ s.heap.get? b = some { cls := .type "tuple", data := .seq ys kb } := y.e_tup fun b ys kb ho' _ _ => ⟨b, ys, kb, rfl, ho'⟩
  have h0 : xs[0]? = some (.ref b) := by rw [← Array.getElem?_toList, hx]; rfl
  exact ⟨.ref b :: fs, KatTups.cons ho rfl rfl h0 t, congrArg (· + 1) hl, List.forall_mem_cons.mpr ⟨fun M => (Looks.ld ho').andThen .now, hf⟩⟩

theorem strs_look {us : List Value} {vs : List V} (X : Vals s.heap ρ k us vs) : (∀ v ∈ vs, isStrV v = true) → ∀ u ∈ us, Looks (model prog w) s.heap (typeOf u) (.type "str") :=
  X.ind (P := fun us vs => (∀ v ∈ vs, isStrV v = true) → ∀ u ∈ us, Looks (model prog w) s.heap (typeOf u) (.type "str")) (fun _ u hu => nomatch hu) fun {u us v vs} x _ ih hs => by
    have hs := List.forall_mem_cons.mp hs
    obtain ⟨t, rfl⟩ := isStr_of hs.1
    exact List.forall_mem_cons.mpr ⟨x.e_str fun t => Looks.of_pure rfl, ih hs.2⟩
theorem order_sound (hu : A.units + 40 < cLine) {us : List Value} {vs : List V} (X : Vals s.heap ρ k us vs) (hp : allBy pureV vs = true) (hs : (allBy isStrV vs || allBy isTT vs) = true) (h2 : 2 ≤ us.length) {p : Array Nat}
    (e : runT (fun i j => ltV (vs.getD i .none) (vs.getD j .none)) (kas_sort vs.length) = some p) : Order prog w A us (p.toList.map fun i => us.getD i .none) s := by
  have hp := allBy_iff.mp hp
  have hlen := X.length
  have go : ∀ κ : SortKind, ((κ = oneType' ∧ ∀ v ∈ vs, isStrV v = true) ∨ (κ = tuples' false ∧ ∀ v ∈ vs, isTT v = true)) → ∀ (G : Array Nat → Shared → Prop), G p s → (kas_sort us.length).kasWp (kas_ask prog w A κ us) G s := fun κ hκ G hG => by
    rw [hlen]
    exact runT_wp (f := fun i j => ltV (vs.getD i .none) (vs.getD j .none)) (fun i j b C e h => ask_sound hu X hp κ hκ e h) _ _ e hG
  rcases Bool.or_eq_true_iff.mp hs with q | q
  · have hs' := allBy_iff.mp q
    exact ⟨oneType', p, fun Q hq => kas_kind (T := .type "str") h2 (strs_look X hs') (by decide) (by decide) hq, go _ (.inl ⟨rfl, hs'⟩), rfl⟩
  · have hs' := allBy_iff.mp q
    refine ea_1_3 (tt_first X hs') (fun fs t hl hf => ?_)
    exact ⟨tuples' false, p, fun Q hq => kat_kind t (Nat.lt_of_lt_of_le Nat.zero_lt_two (hl.symm ▸ h2)) (fun f hq => hf f hq _) (by decide) (by exact hq), go _ (.inr ⟨rfl, hs'⟩), rfl⟩
end
end
section
open PySem PySem.Calls PyProof.Rows PySem.W PySem.SeqAt
set_option maxRecDepth 100000

section
variable {prog : Program} {w : World} {A : Around} {E : Value → Shared → Prop} {s : Shared} {ρ : Pl} {k : Nat}
theorem minGo_mem : ∀ {l : List V} {b r : V}, minGo b l = some r → r = b ∨ r ∈ l
  | [], b, r, e => .inl (Option.some.inj e).symm
  | v :: l, b, r, e => b1 (show (bnd (ltV v b) fun c => cond c (minGo v l) (minGo b l)) = some r from e) fun c _ e => by
    cases c with
    | true => exact .inr ((minGo_mem e).elim (fun q => q ▸ .head _) fun q => .tail _ q)
    | false => exact (minGo_mem e).imp id fun q => .tail _ q

structure MinBase (h₁ : Heap) (I l S : Addr) (items : Array Value) : Prop where
  ne : I ≠ S
  hI : h₁.get? I = none
  hS : h₁.get? S = none
  hl : h₁.IsList l items
theorem drop_head {items : Array Value} {i : Nat} {u : Value} {us : List Value} (hd : items.toList.drop i = u :: us) : items[i]? = some u ∧ items.toList.drop (i + 1) = us := by
  constructor
  · rw [← Array.getElem?_toList]
    have := congrArg (·[0]?) hd
    simpa using this
  · rw [← List.drop_drop, hd]; rfl
theorem min_loop {h₁ : Heap} {I l S : Addr} {items : Array Value} {R : Result → Shared → Prop} (hu : A.units + 40 < cLine) (hh : A.handled = none) (B : MinBase h₁ I l S items) {r : V}
    (hR : ∀ u h' tk, KeepsAll h₁ h' → Val h₁ ρ k u r → R (.ok (.ret u)) { s with heap := h', toks := tk }) :
    ∀ (us : List Value) (vs : List V) (i : Nat) (ub : Value) (b : V) (c : Nat) (h : Heap) (tk : Nat), items.toList.drop i = us → Vals h₁ ρ k us vs → (∀ v ∈ vs, pureV v = true) → pureV b = true → minGo b vs = some r → Val h₁ ρ k ub b →
      KeepsAll h₁ h → h.IsListIter I l i → h.get? S = some { cls := .type "list", dict := none, data := .seq #[ub, ub] c, slots := #[] } →
      codeAny (model prog w) A (.builtin "min.loop" ⟨[.ref I, .none, .ref S], []⟩) R { s with heap := h, toks := tk } := by
  have hname : (toString "min" ++ toString ".loop" : String) = "min.loop" := by decide
  have hlk : ∀ {h : Heap}, KeepsAll h₁ h → h.IsList l items := fun q => B.hl.elim fun o x => ⟨o, q _ _ x.1, x.2⟩
  have neI : ∀ {b o}, h₁.get? b = some o → b ≠ I := fun e => get_ne e B.hI
  have up : ∀ {h : Heap} {f : Obj → Obj}, KeepsAll h₁ h → KeepsAll h₁ (h.update S f) := fun kp b o e => (Heap.get?_update_other _ _ (get_ne e B.hS).symm).trans (kp b o e)
  intro us
  induction us with
  | nil =>
    intro vs i ub b c h tk hd X px pb e Vb kp hit hS
    refine codeAny_builtin PySem.F.entry_min_loop ?_
    rw [Around.under_plainId PySem.F.plain_min_loop _]
    show wpAny _ A.in1 (seqItems? (.ref S) >>= _) _ _ _
    refine wpAny_bind (wpAny_seqItems hS rfl ?_)
    show wpAny _ A.in1 (tryCatch (pyNext (.ref I)) _ >>= _) _ _ _
    have hn : items[i]? = none := Array.getElem?_eq_none (List.drop_eq_nil_iff.mp hd)
    refine wpAny_bind (wpAny_tryCatch (wpAny_pyNext_list_end hh hit (hlk kp) hn fun h' hb => ?_))
    show wpAny _ A.in1 (updateSeq S (fun _ => #[]) >>= _) _ _ _
    refine wpAny_bind (wpAny_updateSeq (hb S _ B.ne.symm hS) rfl (wpAny_bind (wpAny_letGo (wpAny_pure ?_))))
    refine hR ub _ _ (up fun b o e => hb b o (neI e) (kp b o e)) ?_
    cases vs with
    | nil => exact Option.some.inj e ▸ Vb
    | cons _ _ => exact nomatch X.length
  | cons u us ih =>
    intro vs i ub b c h tk hd X px pb e Vb kp hit hS
    refine ea_0_2 (drop_head hd) (fun hn hd' => ?_)
    cases vs with
    | nil => exact nomatch X.length
    | cons v vs =>
    refine X.e_cons2 fun x X => b1 e fun b' q e => ?_
    have px := List.forall_mem_cons.mp px
    refine codeAny_builtin PySem.F.entry_min_loop ?_
    rw [Around.under_plainId PySem.F.plain_min_loop _]
    show wpAny _ A.in1 (seqItems? (.ref S) >>= _) _ _ _
    refine wpAny_bind (wpAny_seqItems hS rfl ?_)
    show wpAny _ A.in1 (tryCatch (pyNext (.ref I)) _ >>= _) _ _ _
    refine wpAny_bind (wpAny_tryCatch (wpAny_pyNext_list_item hit (hlk kp) hn fun h' hit' hb => ?_))
    have hS' := (hb.2 S B.ne.symm).trans hS
    have kp' : KeepsAll h₁ h' := fun b o e => (hb.2 b (neI e)).trans (kp b o e)
    show wpAny _ A.in1 (tryCatch (holding [u, u] (richCompare .Lt u ub >>= _)) _ >>= _) _ _ _
    refine wpAny_bind (wpAny_tryCatch (wpAny_holding (wpAny_bind (lt_sound 8 q px.1 pb (by decide) (x.keep kp') (Vb.keep kp') (Nat.lt_of_le_of_lt (Nat.add_le_add_left (by decide : 29 ≤ 40) A.units) hu) ?_))))
    refine wpAny_bind (wpAny_holding (wpAny_truthy_bool (wpAny_bind (wpAny_letGo (wpAny_pure ?_)))))
    cases b' with
    | true =>
      simp only [if_true]
      refine wpAny_bind (wpAny_updateSeq hS' rfl (wpAny_bind (wpAny_letGo ?_)))
      rw [hname]
      exact wpAny_pure ⟨plainId_quiet PySem.F.plain_min_loop _, ih vs (i + 1) u v _ _ _ hd' X px.2 px.1 e x (up kp') (hit'.elim fun o z => ⟨o, (Heap.get?_update_other _ _ B.ne.symm).trans z.1, z.2⟩) (Heap.get?_update_self _ hS' rfl)⟩
    | false =>
      simp only [Bool.false_eq_true, if_false]
      refine wpAny_bind (wpAny_letGo ?_)
      rw [hname]
      exact wpAny_pure ⟨plainId_quiet PySem.F.plain_min_loop _, ih vs (i + 1) ub b _ _ _ hd' X px.2 pb e Vb kp' hit' hS'⟩

theorem min_list {l : Addr} {items : Array Value} {vs : List V} {r : V} {Q : Value → Shared → Prop} (hu : A.units + 50 < cLine) (hh : A.handled = none) (hl : s.heap.IsList l items) (X : Vals s.heap ρ k items.toList vs) (e : minV vs = some r)
    (hQ : ∀ u h' tk, KeepsAll s.heap h' → Val s.heap ρ k u r → Q u { s with heap := h', toks := tk }) : wpAny (model prog w) A (call (.builtin "min") [.ref l]) Q E s := by
  refine bT e fun hp e => b2 e fun v vs' q e => ?_
  obtain rfl := unc_eq q
  have hp := List.forall_mem_cons.mp (allBy_iff.mp hp)
  have hname : (toString "min" ++ toString ".loop" : String) = "min.loop" := by decide
  generalize hx : items.toList = us at X
  cases us with
  | nil => exact nomatch X.length
  | cons u us =>
  refine X.e_cons2 fun x X => call_function_tree PySem.F.kind_min PySem.F.plain_min PySem.F.entry_min (PySem.F.args_min1 _) ?_
  show wpAny _ A.in1 (Builtin.Builtins.bindParams "min" ["key", "default"] 0 ⟨[], []⟩ >>= _) _ _ s
  refine wpAny_bind (wpAny_of_eq (show Builtin.Builtins.bindParams "min" ["key", "default"] 0 ⟨[], []⟩ = pure [none, none] from rfl) ?_)
  refine wpAny_bind (wpAny_pure (wpAny_bind (wpAny_pyIter_list hl (wpAny_bind (wpAny_newObj_type ?_)))))
  rw [hname]
  refine wpAny_pure ⟨plainId_quiet PySem.F.plain_min_loop _, codeAny_builtin PySem.F.entry_min_loop ?_⟩
  rw [Around.under_plainId PySem.F.plain_min_loop _]
  have hsz : (s.heap.push { cls := .type "list_iterator", data := .fields #[.ref l, .int 0 0] }).objs.size = s.heap.objs.size + 1 := Heap.size_push ..
  have kp : KeepsAll s.heap ((s.heap.push { cls := .type "list_iterator", data := .fields #[.ref l, .int 0 0] }).push { cls := .type "list", data := .seq ([] : List Value).toArray }) := fun b o e => Heap.get?_push_of_some _ (Heap.get?_push_of_some _ e)
  have hS : ((s.heap.push { cls := .type "list_iterator", data := .fields #[.ref l, .int 0 0] }).push { cls := .type "list", data := .seq ([] : List Value).toArray }).get? (s.heap.objs.size + 1) = some { cls := .type "list", dict := none, data := .seq #[] 0, slots := #[] } := by
    rw [← hsz]; exact Heap.get?_push_size _ rfl
  have hit : ((s.heap.push { cls := .type "list_iterator", data := .fields #[.ref l, .int 0 0] }).push { cls := .type "list", data := .seq ([] : List Value).toArray }).IsListIter s.heap.objs.size l 0 := ⟨_, Heap.get?_push_of_some _ (Heap.get?_push_size _ rfl), rfl, rfl⟩
  rw [hsz]
  generalize (s.heap.push { cls := .type "list_iterator", data := .fields #[.ref l, .int 0 0] }).push { cls := .type "list", data := .seq ([] : List Value).toArray } = h0 at *
  have B : MinBase s.heap s.heap.objs.size l (s.heap.objs.size + 1) items := ⟨(Nat.succ_ne_self _).symm, Heap.get?_none_of_le (Nat.le_refl _), Heap.get?_none_of_le (Nat.le_succ _), hl⟩
  have d := drop_head (i := 0) hx
  show wpAny _ A.in1 (seqItems? (.ref (s.heap.objs.size + 1)) >>= _) _ _ _
  refine wpAny_bind (wpAny_seqItems hS rfl ?_)
  show wpAny _ A.in1 (tryCatch (pyNext (.ref s.heap.objs.size)) _ >>= _) _ _ _
  refine wpAny_bind (wpAny_tryCatch (wpAny_pyNext_list_item hit (hl.elim fun o z => ⟨o, kp _ _ z.1, z.2⟩) d.1 fun h' hit' hb => ?_))
  have hS' := (hb.2 (s.heap.objs.size + 1) (Nat.succ_ne_self _)).trans hS
  show wpAny _ A.in1 (updateSeq (s.heap.objs.size + 1) (fun _ => #[u, u]) >>= _) _ _ _
  refine wpAny_bind (wpAny_updateSeq hS' rfl ?_)
  rw [hname]
  exact wpAny_pure ⟨plainId_quiet PySem.F.plain_min_loop _, min_loop (A := A) (s := s) (Nat.lt_trans (Nat.add_lt_add_left (by decide : 40 < 50) A.units) hu) hh B hQ us vs' 1 u v _ _ _ d.2 X hp.2 hp.1 e x
    (fun b o e => (Heap.get?_update_other _ _ (get_ne e B.hS).symm).trans ((hb.2 b (get_ne e B.hI)).trans (kp b o e))) (hit'.elim fun o z => ⟨o, (Heap.get?_update_other _ _ (Nat.succ_ne_self _)).trans z.1, z.2⟩) (Heap.get?_update_self _ hS' rfl)⟩
end
end
section
open PySem PySem.Calls PyProof.Rows PySem.W PySem.SeqAt
set_option maxRecDepth 100000

section
variable {C : Cx} {X : Addr → Prop} {A : Around} {σ : St} {ρ : Pl} {s : Shared}
theorem Post.keeps {P : Pl → Heap → Prop} (R : C.R ρ σ s.heap) {h' : Heap} {tk : Nat} (kp : KeepsAll s.heap h') (p : P ρ h') : Post C X ρ σ s σ P { s with heap := h', toks := tk } :=
  ⟨ρ, Ext.of_grow kp, R.grow kp, ⟨rfl, rfl, rfl⟩, p⟩

theorem ints_are {h : Heap} {k : Nat} {us : List Value} {l : List V} (X : Vals h ρ k us l) : ∀ {ns : List Int}, intsV l = some ns → IntsAre us ns :=
  X.ind (P := fun us l => ∀ {ns : List Int}, intsV l = some ns → IntsAre us ns) (fun {_} e => c1 (Q := fun ns => IntsAre [] ns) e .nil) fun {u us v l} x _ ih {ns} e => b1 e fun i q e => b1 e fun r q' e => c1 (Q := fun ns => IntsAre (u :: us) ns) e (x.q_int (P := fun u => IntsAre (u :: us) (i :: r)) q fun t => .cons _ _ (ih q'))
theorem maxGo_max : ∀ (l : List Int) (b : Int), maxGo b l ∈ b :: l ∧ ∀ a ∈ b :: l, a ≤ maxGo b l
  | [], b => ⟨.head _, List.forall_mem_cons.mpr ⟨Int.le_refl _, fun _ h => nomatch h⟩⟩
  | i :: r, b => by
    have y := maxGo_max r (if b < i then i else b)
    have h2 := List.forall_mem_cons.mp y.2
    show maxGo (if b < i then i else b) r ∈ _ ∧ ∀ a ∈ b :: i :: r, a ≤ maxGo (if b < i then i else b) r
    by_cases q : b < i
    · rw [if_pos q] at y h2 ⊢
      exact ⟨.tail _ y.1, List.forall_mem_cons.mpr ⟨Int.le_trans (Int.le_of_lt q) h2.1, y.2⟩⟩
    · rw [if_neg q] at y h2 ⊢
      exact ⟨(List.mem_cons.mp y.1).elim (fun e => List.mem_cons.mpr (.inl e)) fun e => .tail _ (.tail _ e), List.forall_mem_cons.mpr ⟨h2.1, List.forall_mem_cons.mpr ⟨Int.le_trans (Int.not_lt.mp q) h2.1, h2.2⟩⟩⟩

theorem PStr.keys {h : Heap} {k : Nat} {kvs : List (Str × Value)} {l : List (V × V)} (x : PStr h ρ k kvs l) : ∀ {us : List Value}, us.length = kvs.length → (∀ (j : Nat) (u : Value), us[j]? = some u → ∃ y t, (kvs.map Prod.fst)[j]? = some y ∧ u = Value.str y t) → Vals h ρ k us (l.map (·.1)) := by
  induction x with
  | nil => exact fun hl _ => List.eq_nil_of_length_eq_zero hl ▸ .nil
  | @cons y u kvs v l _ _ ih =>
    intro us hl hj
    cases us with
    | nil => exact nomatch hl
    | cons u' us =>
      refine ea_2_2 (hj 0 u' rfl) (fun y' t e1 e2 => ?_)
      have e1 : y = y' := Option.some.inj e1
      rw [e2, ← e1]
      exact .cons (.str y t) (ih (Nat.succ.inj hl) fun j u e => hj (j + 1) u e)

theorem sort_cases {P : Prop} {l out : List V} (e : sortL l = some out) (k : l.length < 64 → (l.length < 2 → out = l) → (2 ≤ l.length → ∃ p, runT (fun i j => ltV (l.getD i .none) (l.getD j .none)) (kas_sort l.length) = some p ∧ out = p.toList.map fun i => l.getD i .none) → P) : P :=
  bC e (fun h e => k (Nat.lt_of_lt_of_le (Nat.le_of_ble_eq_true h) (by decide)) (fun _ => (Option.some.inj e).symm) fun q => absurd (Nat.le_of_ble_eq_true h) (Nat.not_lt.mpr q))
    fun h e => bT e fun h64 e => b1 e fun p q e => k (Nat.le_of_ble_eq_true h64) (fun q => nnT ((Nat.ble_eq_true_of_le q).symm.trans h)) fun _ => ⟨p, q, (Option.some.inj e).symm⟩
theorem sorted_main {n : Nat} (room : Room A n) (R : C.R ρ σ s.heap) {u : Value} {l out : List V} (e2 : sortV l = some out) {P : List Value → Prop} (hV : ∀ us, P us → Vals s.heap ρ σ.next us l) (hc : ∀ (Q' : List Value → Shared → Prop), (∀ us h' tk, P us → KeepsAll s.heap h' → Q' us { s with heap := h', toks := tk }) → wpAny C.M A.in1 (collect u) Q' noE s) :
    wpAny C.M A (call (.builtin "sorted") [u]) (PV C ρ σ s σ (.lst out)) noE s := by
  refine bT e2 fun hp e2 => bA hp fun hp1 hp2 => sort_cases e2 fun h64 h0 h2 => ?_
  have hl : ∀ us, P us → us.length = l.length := fun us hP => (hV us hP).length
  by_cases q : l.length < 2
  · refine sortedM (P := P) (fun us => us) (fun us hP => hl us hP ▸ h64) hc (fun us hP z => absurd (hl us hP ▸ q) (Nat.not_lt.mpr z)) (fun us hP _ => rfl) fun us D h' c tk hP hD ho' kp => ?_
    exact Post.keeps R kp (.lst ho' (R.notOwn_new hD) (h0 q ▸ (hV us hP).keep kp))
  · refine ea_1_2 (h2 (Nat.not_lt.mp q)) (fun p hp ho => ?_)
    refine sortedM (P := P) (fun us => p.toList.map fun i => us.getD i .none) (fun us hP => hl us hP ▸ h64) hc (fun us hP z h' tk kp => ?_) (fun us hP z => absurd (hl us hP ▸ z) q) fun us D h' c tk hP hD ho' kp => ?_
    · exact order_sound (k := σ.next) (ρ := ρ) (Nat.lt_of_le_of_lt (Nat.add_le_add_left (by decide : 42 ≤ 64) A.units) (room_units room)) ((hV us hP).keep kp) hp1 hp2 z hp
    · exact Post.keeps R kp (.lst ho' (R.notOwn_new hD) (ho ▸ ((hV us hP).mapD p.toList).keep kp))
theorem sort_strs {d : List (V × V)} {n : Nat} {h : Heap} {p : Addr × Addr} (D : CellAt h ρ n C.prog C.w p (.dict d)) {out : List V} (e2 : sortV (d.map (·.1)) = some out) : keysAll isStrV d = true :=
  D.2.elim (fun y => y.elim fun kvs y => y.2.strs) fun y => y.elim fun xs y => by
    have hp := bT (P := (allBy pureV (d.map (·.1)) && (allBy isStrV (d.map (·.1)) || allBy isTT (d.map (·.1)))) = true) e2 fun hp _ => hp
    cases y.2.2 with
    | nil => rfl
    | @cons ks a' u' xs v' l' _ _ _ =>
      have h1 : isTT (.tup (ks.map V.str)) = false := by cases ks <;> rfl
      have h2 := (Bool.and_eq_true_iff.mp hp).2
      have h3 : (cond false (allBy isStrV (l'.map (·.1))) false || cond (isTT (.tup (ks.map V.str))) (allBy isTT (l'.map (·.1))) false) = true := h2
      rw [h1] at h3
      exact nnF h3
theorem sorted_sound {n : Nat} (room : Room A n) (R : C.R ρ σ s.heap) {u : Value} {v : V} {l out : List V} (Vv : Val s.heap ρ σ.next u v) (e1 : itemsOf σ v = some l) (e2 : sortV l = some out) :
    wpAny C.M A (call (.builtin "sorted") [u]) (PV C ρ σ s σ (.lst out)) noE s := by
  have h64 : l.length < 64 := bT e2 fun _ e2 => sort_cases e2 fun h _ _ => h
  have lsts : ∀ {a : Addr} {items : Array Value} {k : Nat}, s.heap.get? a = some { cls := .type "list", data := .seq items k } → Vals s.heap ρ σ.next items.toList l →
      wpAny C.M A (call (.builtin "sorted") [.ref a]) (PV C ρ σ s σ (.lst out)) noE s := fun {a items k} ho vs =>
    sorted_main room R e2 (P := fun us => us = items.toList) (fun us e => e ▸ vs) fun Q' hq => wpAny_collect_seq a (.inl rfl) ho rfl rfl (fun h' kp => hq _ h' s.toks rfl kp) (by rw [vals_size vs, sizeLine_eq]; exact Nat.le_trans (Nat.le_of_lt h64) (by decide))
  cases v with
  | lst l' => exact Vv.e_lst fun a items c ho _ vs => lsts ho (Option.some.inj e1 ▸ vs)
  | cell c =>
    refine Vv.e_cell fun hi => bO e1 (fun l' q e => ?_) fun _ e => b1 e fun d q e => ?_
    · exact (R.cells _ _ (listAt_get q)).2.2.elim fun items y => y.elim fun k y => lsts y.1 (Option.some.inj e ▸ y.2)
    · have D := (R.cells _ _ (dictAt_get q)).2
      obtain rfl : d.map (·.1) = l := Option.some.inj e
      refine ea_1_2 (dict_str D (sort_strs D e2)) (fun kvs hd pk => ?_)
      have hk : kvs.length < 64 := by rw [List.length_map] at h64; exact pk.length ▸ h64
      refine sorted_main room R e2 (P := fun us => us.length = kvs.length ∧ ∀ (j : Nat) (u : Value), us[j]? = some u → ∃ y t, (kvs.map Prod.fst)[j]? = some y ∧ u = Value.str y t) (fun us e => pk.keys e.1 e.2) fun Q' hq => ?_
      refine kdu_collect (kdl_dict (knd := strKind C.prog C.w) (kvs := kvs) (ep := kvs.length) (R.notSys hi)) room.handled hd (by rw [sizeLine_eq]; exact Nat.le_trans (Nat.le_of_lt hk) (by decide)) fun h' tk acc kp hacc => ?_
      refine hq _ h' tk ⟨hacc.1, fun j u hj => ?_⟩ kp
      refine ea_2_2 (hacc.2 j u ((Array.getElem?_toList ..).symm.trans hj)) (fun y x e hy => ?_)
      refine ea_1_1 (Value.isStrOf_shape hy) (fun t ht => ?_)
      exact ⟨y, t, by rw [List.getElem?_map, e]; rfl, ht⟩
  | _ => exact nnO e1
end
end
section
open PySem PySem.Calls PyProof.Rows PySem.W PySem.SeqAt
set_option maxRecDepth 100000

section
variable {C : Cx} {A : Around} {σ : St} {ρ : Pl} {s : Shared}
theorem vals_one {h : Heap} {k : Nat} {us : List Value} {args : List V} {v : V} {P : List Value → Prop} (X : Vals h ρ k us args) (e : oneOf args = some v) (K : ∀ u, Val h ρ k u v → P [u]) : P us := by
  obtain rfl := oneOf_eq e
  exact X.e_cons fun u us x X => X.e_nil (K u x)
theorem vals_unc {h : Heap} {k : Nat} {us : List Value} {args r : List V} {v : V} {P : List Value → Prop} (X : Vals h ρ k us args) (e : unc args = some (v, r)) (K : ∀ u us, Val h ρ k u v → Vals h ρ k us r → P (u :: us)) : P us := by
  obtain rfl := unc_eq e
  exact X.e_cons K
theorem vals_two {h : Heap} {k : Nat} {us : List Value} {args : List V} {p : Int × Int} {P : List Value → Prop} (X : Vals h ρ k us args) (e : two args = some p) (K : ∀ t t', P [.int p.1 t, .int p.2 t']) : P us :=
  b2 e fun a r q e => b1 e fun x qx e => b1 e fun b qb e => b1 e fun y qy e => vals_unc X q fun u us a' X => vals_one (P := fun us => P (u :: us)) X qb fun u' b' => a'.q_int (P := fun u => P [u, u']) qx fun t => b'.q_int (P := fun u' => P [_, u']) qy fun t' => s1 (Q := fun p => (∀ t t', P [.int p.1 t, .int p.2 t']) → P [.int x t, .int y t']) e (fun K => K t t') K
theorem call_one {us : List Value} {args : List V} {f : Value} {v : V} {Q : Value → Shared → Prop} (X : Vals s.heap ρ σ.next us args) (e : oneOf args = some v) (K : ∀ u, Val s.heap ρ σ.next u v → wpAny C.M A (call f [u]) Q noE s) : wpAny C.M A (call f us) Q noE s := vals_one (P := fun us => wpAny C.M A (call f us) Q noE s) X e K
theorem call_two {us : List Value} {args : List V} {f : Value} {p : Int × Int} {Q : Value → Shared → Prop} (X : Vals s.heap ρ σ.next us args) (e : two args = some p) (K : ∀ t t', wpAny C.M A (call f [.int p.1 t, .int p.2 t']) Q noE s) : wpAny C.M A (call f us) Q noE s := vals_two (P := fun us => wpAny C.M A (call f us) Q noE s) X e K
noncomputable def biV : BI → Value
  | .len => .builtin "len"
  | .max => .builtin "max"
  | .min => .builtin "min"
  | .sorted => .builtin "sorted"
  | .int => .type "int"
  | .tuple => .type "tuple"
theorem biOf_eq {f : Value} {b : BI} (e : biOf f = some b) : f = biV b := by
  cases f with
  | builtin s =>
    unfold biOf at e
    dsimp only at e
    by_cases h1 : s = "len"
    · rw [if_pos h1] at e; rw [h1]; exact Option.some.inj e ▸ rfl
    rw [if_neg h1] at e
    by_cases h2 : s = "max"
    · rw [if_pos h2] at e; rw [h2]; exact Option.some.inj e ▸ rfl
    rw [if_neg h2] at e
    by_cases h3 : s = "min"
    · rw [if_pos h3] at e; rw [h3]; exact Option.some.inj e ▸ rfl
    rw [if_neg h3] at e
    by_cases h4 : s = "sorted"
    · rw [if_pos h4] at e; rw [h4]; exact Option.some.inj e ▸ rfl
    rw [if_neg h4] at e
    exact nnO e
  | type s =>
    unfold biOf at e
    dsimp only at e
    by_cases h1 : s = "int"
    · rw [if_pos h1] at e; rw [h1]; exact Option.some.inj e ▸ rfl
    rw [if_neg h1] at e
    by_cases h2 : s = "tuple"
    · rw [if_pos h2] at e; rw [h2]; exact Option.some.inj e ▸ rfl
    rw [if_neg h2] at e
    exact nnO e
  | _ => exact nnO e
theorem max_sound {n : Nat} (room : Room A n) (R : C.R ρ σ s.heap) {u : Value} {v w : V} {l : List V} {ns : List Int} (x : Val s.heap ρ σ.next u v) (q : listOf σ v = some l) (q2 : intsV l = some ns) (e : maxL ns = some w) :
    wpAny C.M A (call (.builtin "max") [u]) (PV C ρ σ s σ w) noE s := by
  cases ns with
  | nil => exact nnO e
  | cons i r =>
    refine ea_3_3 (listOf_at R x q) (fun p ip kp qp hp vp => ?_)
    have hi := ints_are vp q2
    refine ea_1_1 (hi.allInts.items) (fun xs exs => ?_)
    have hns := hi.numsOf
    simp only [Array.toArray_toList] at exs
    rw [exs, nums_intItems] at hns
    have hl : s.heap.IsList p (intItems xs) := ⟨_, hp, rfl, _, by rw [← exs]⟩
    have hsz : 0 < xs.size := by
      have := congrArg List.length hns
      rw [List.length_map, Array.length_toList] at this
      exact this ▸ Nat.succ_pos _
    rw [qp]
    refine c1 e (max_intList room.handled hl hsz fun v h' tk hv kp => ?_)
    obtain ⟨t, rfl⟩ := intItems_at hv
    have hb := argBest_gt (numAt xs) (xs.size - 1)
    have hm := maxGo_max r i
    have em : numAt xs (argBest (fun i j => decide (numAt xs i > numAt xs j)) (xs.size - 1)) = maxGo i r := by
      rw [← hns] at hm
      refine Int.le_antisymm (hm.2 _ ?_) ?_
      · rw [numAt_eq]; exact getD_mem (by rw [List.length_map, Array.length_toList]; omega)
      · refine ea_1_2 (mem_getD hm.1) (fun j hj e2 => ?_)
        rw [List.length_map, Array.length_toList] at hj
        rw [← e2, ← numAt_eq]; exact hb.2 j (by omega)
    rw [em]
    exact Post.keeps R kp (.int _ _)
theorem callBI_sound {n : Nat} (room : Room A n) (R : C.R ρ σ s.heap) {b : BI} {us : List Value} {args : List V} {v : V} (Va : Vals s.heap ρ σ.next us args) (e : callBI σ args b = some v) :
    wpAny C.M A (call (biV b) us) (PV C ρ σ s σ v) noE s := by
  have hu := Nat.lt_of_le_of_lt (Nat.add_le_add_left (by decide : 50 ≤ 64) A.units) (room_units room)
  have hh := room.handled
  cases b with
  | len =>
    refine b1 e fun w q e => call_one Va q fun u x => ?_
    refine bO e (fun l q e' => bT e' fun hl e' => ?_) fun _ e => b1 e fun l q e => bT e fun hl e => ?_
    · have hl := Nat.le_of_ble_eq_true hl
      obtain rfl := asTup_eq q
      refine c1 e' (x.e_tup fun a items c ho _ vs => PyProof.Rows.len_tuple ⟨_, ho, rfl, _, rfl⟩ ?_ ?_)
      · rw [vals_size vs]; exact Int.lt_trans (Int.ofNat_lt.mpr hl) (by decide)
      · rw [vals_size vs]; exact Post.here R (.int _ _)
    · have hl := Nat.le_of_ble_eq_true hl
      refine ea_3_3 (listOf_at R x q) (fun p ip kp qp hp vp => ?_)
      rw [qp]
      refine c1 e (PyProof.Rows.len_list ⟨_, hp, rfl, _, rfl⟩ ?_ ?_)
      · rw [vals_size vp]; exact Int.lt_trans (Int.ofNat_lt.mpr hl) (by decide)
      · rw [vals_size vp]; exact Post.here R (.int _ _)
  | max =>
    refine bO e (fun p q e => c1 e (call_two Va q fun t t' => max_two_ints hh fun h' tk kp => ?_)) fun _ e => b1 e fun w q e => call_one Va q fun u x => b1 e fun l q e => b1 e fun ns q2 e => max_sound room R x q q2 e
    show Post C NoX ρ σ s σ (fun ρ' h => Val h ρ' σ.next _ (.int (if p.1 < p.2 then p.2 else p.1))) _
    split
    · exact Post.keeps R kp (.int _ _)
    · exact Post.keeps R kp (.int _ _)
  | min =>
    refine bO e (fun p q e => ?_) fun _ e => b1 e fun w q e => call_one Va q fun u x => b1 e fun l q e => ?_
    · refine c1 e (call_two Va q fun t t' => min_two_ints hh fun h' tk kp => ?_)
      split
      · exact Post.keeps R kp (.int _ _)
      · exact Post.keeps R kp (.int _ _)
    · refine ea_3_3 (listOf_at R x q) (fun p ip kp qp hp vp => ?_)
      rw [qp]
      exact Mini.min_list hu hh ⟨_, hp, rfl, _, rfl⟩ vp e fun u h' tk kp x => Post.keeps R kp (x.keep kp)
  | sorted => exact b1 e fun w q e => call_one Va q fun u x => b1 e fun l q e => b1 e fun l' q2 e => c1 e (sorted_sound room R x q q2)
  | int => exact b1 e fun w q e => call_one Va q fun u x => b1 e fun b q e => c1 e (x.q_bool (P := fun u => wpAny C.M A (call (.type "int") [u]) _ noE s) q (call_int_bool (Post.here R (.int _ _))))
  | tuple =>
    refine b1 e fun w q e => call_one Va q fun u x => b1 e fun l q e => bT e fun hl e => c1 e ?_
    refine ea_3_3 (listOf_at R x q) (fun p ip kp qp hp vp => ?_)
    rw [qp]
    refine call_tuple_list ⟨_, hp, rfl, _, rfl⟩ (fun h' kp => ?_) (by rw [vals_size vp, sizeLine_eq]; exact Nat.le_trans (Nat.le_of_ble_eq_true hl) (by decide))
    have R' : C.R ρ σ h' := R.grow kp
    exact ⟨ρ, Ext.of_grow fun b o e => Heap.get?_push_of_some _ (kp b o e), R'.push _, ⟨rfl, rfl, rfl⟩, .tup (k := 0) (Heap.get?_push_size _ rfl) R'.notOwn_size ((vp.keep kp).keep fun b o e => Heap.get?_push_of_some _ e)⟩
theorem callB_sound {n : Nat} (room : Room A n) (R : C.R ρ σ s.heap) {f : Value} {us : List Value} {args : List V} {v : V} (Va : Vals s.heap ρ σ.next us args) (e : callB σ f args = some v) :
    wpAny C.M A (call f us) (PV C ρ σ s σ v) noE s :=
  b1 e fun b q e => biOf_eq q ▸ callBI_sound room R Va e
end
end
section
open PySem PySem.Calls PyProof.Rows PySem.W PySem.SeqAt
set_option maxRecDepth 100000

theorem room_down {A : Around} {n : Nat} (r : Room A (n + 1)) : Room A n := ⟨r.handled, Nat.le_trans (Nat.add_le_add_left (Nat.mul_le_mul_left 4 (Nat.le_succ n)) _) r.depth, Nat.le_trans (Nat.add_le_add_left (Nat.mul_le_mul_left 60 (Nat.le_succ n)) _) r.units⟩
theorem room_pay {d k n m : Nat} (h : d + k * (n + 1) ≤ m) {w : Nat} (hw : w ≤ k) : d + w + k * n ≤ m :=
  Nat.le_trans (by rw [Nat.add_assoc, Nat.mul_succ, Nat.add_comm w]; exact Nat.add_le_add_left (Nat.add_le_add_left hw _) _) h
theorem room_in1 {A : Around} {n : Nat} (r : Room A (n + 1)) : Room A.in1 n := ⟨r.handled, room_pay (w := 0) r.depth (by decide), room_pay (w := 1) r.units (by decide)⟩
theorem room_under {A : Around} {n : Nat} {D : Addr} {us : List Value} {kw : List (Str × Value)} (r : Room A (n + 1)) : Room (A.under (.builtin "type.__call__" ⟨.ref D :: us, kw⟩)) n :=
  ⟨r.handled, room_pay (w := (Code.builtin "type.__call__" ⟨.ref D :: us, kw⟩).weight) r.depth (Nat.le_of_ble_eq_true (by kernel_rfl)), room_pay (w := (Code.builtin "type.__call__" ⟨.ref D :: us, kw⟩).cUnits) r.units (Nat.le_of_ble_eq_true (by kernel_rfl))⟩

theorem any_backTo (pos : Pos) (l : List (Bool × Sem Value)) : (backTo pos l).any (·.1) = l.any (·.1) := by
  unfold backTo
  rw [List.any_map]
  rfl
theorem star_plain (r : Rec) (sc : Scope) (env : Env) : ∀ (es : List Expr) (loc : Loc) (σ : St) {vs : List V} {σ' : St}, evs r sc es loc σ = some (vs, σ') → (starEach es env).any (·.1) = false
  | [], _, _, _, _, _ => rfl
  | x :: es, loc, σ, vs, σ', e => bT (show cond (notStar x) _ none = some _ from e) fun hs e => b2 e fun v σ₁ e1 e => b2 e fun vs σ₂ e2 e => by
    rw [starEach_cons es env hs, List.any_cons, star_plain r sc env es _ _ e2]; rfl

noncomputable def FnKept (C : Cx) (f : Value) : Prop := (∀ a, f ≠ .ref a) ∨ keepIn C.K f = true
theorem looks_kept {C : Cx} {f : Value} (hk : FnKept C f) (O : GOk C) (h : Heap) (X : C.K.In h) : ∃ k, (k = Keeper.frame ∨ k = Keeper.machine ∨ k = Keeper.boundFrame) ∧ Looks C.M h (keeperOf f) k := by
  rcases hk with hk | hk
  · refine ⟨.machine, .inr (.inl rfl), ?_⟩
    cases f <;> first | exact absurd rfl (hk _) | exact Looks.of_pure rfl
  · exact keeps_K hk h X

section
variable {C : Cx} {r : Rec} {n : Nat} (S : Sound C r n) {sc : Scope} {loc : Loc} {A : Around} {env : Env} {σ σ' : St} {ρ : Pl} {s : Shared}
include S
theorem callWith_sound (O : GOk C) (room : Room A n) {f : Value} {first : List Value} {args : List Expr} {pos cpos : Pos} {vs : List V} {Q : Value → Shared → Prop} (hk : FnKept C f) (e : evs r sc args loc σ = some (vs, σ')) (F : Frm C.h₀ env sc loc ρ σ.next s.heap) (R : C.R ρ σ s.heap)
    (hq : ∀ us s₁ ρ₁, Ext NoX ρ σ.next s.heap ρ₁ σ'.next s₁.heap → C.R ρ₁ σ' s₁.heap → Same s s₁ → Vals s₁.heap ρ₁ σ'.next us vs → wpAny C.M A (call f (first ++ us)) Q noE s₁) :
    wpAny C.M A (callWith cpos f first (backTo pos (starEach args env)) (backToKw pos (keywordEach [] env))) Q noE s := by
  have ev := evs_sound S room pos args e F R
  have hp := star_plain r sc env args loc σ e
  have X : ∀ {s₁ : Shared} {ρ₁ : Pl}, C.R ρ₁ σ' s₁.heap → C.K.In s₁.heap := fun R₁ => O.X.keeps R₁.keep
  refine callWith_of (P := fun h => C.K.In h) (by rw [any_backTo, hp]; rfl) (fun h X => looks_kept hk O h X) ?_
  have fin : wpAny C.M A (spliced (backTo pos (starEach args env))) (fun us s₁ => C.K.In s₁.heap ∧ wpAny C.M A (call f (first ++ us)) Q noE s₁) noE s := by
    refine postK ev fun ρ₁ us s₁ E1 R1 S1 V1 => ?_
    exact ⟨X R1, hq us s₁ ρ₁ E1 R1 S1 V1⟩
  cases args with
  | nil => exact c2 (Q := fun vs σ' => (∀ us s₁ ρ₁, Ext NoX ρ σ.next s.heap ρ₁ σ'.next s₁.heap → C.R ρ₁ σ' s₁.heap → Same s s₁ → Vals s₁.heap ρ₁ σ'.next us vs → wpAny C.M A (call f (first ++ us)) Q noE s₁) → _) e (fun hq => evalArgs_nil3 ⟨O.X.keeps R.keep, hq [] s ρ Ext.refl R (Same.refl s) .nil⟩) hq
  | cons x args =>
    refine bT e fun hs _ => ?_
    rw [starEach_cons args env hs] at fin ⊢
    exact evalArgs_plain fin
end
end
section
open PySem PySem.Calls PyProof.Rows PySem.W PySem.SeqAt
set_option maxRecDepth 100000

noncomputable def MthIs : Mth → Value → Prop
  | .fn g, f => f = .ref g
  | .append, f => f = .builtin "list.append"
  | .get, f => f = .builtin "dict.get"
  | .upper, f => f = .builtin "str.isupper"
  | .split, f => f = .builtin "str.split"

section
variable {C : Cx} {A : Around} {σ : St} {ρ : Pl} {s : Shared}
theorem kept_builtin {id : String} : FnKept C (.builtin id) := .inl fun a q => by cases q

theorem dict_obj {prog : Program} {w : World} {h : Heap} {n : Nat} {p : Addr × Addr} {l : List (V × V)} (x : CellAt h ρ n prog w p (.dict l)) : ∃ o, h.get? p.1 = some o ∧ o.ExactDict :=
  x.2.elim (fun y => y.elim fun _ y => y.1.elim fun o y => y.elim fun _ y => ⟨o, y.1, y.2.1⟩) fun y => y.elim fun _ y => y.2.1.elim fun o y => y.elim fun _ y => y.elim fun _ y => ⟨o, y.1, y.2.1⟩

noncomputable def Got (C : Cx) (A : Around) (s : Shared) (a : Str) (m : Mth) (u : Value) : Prop := ∃ f, FnKept C f ∧ MthIs m f ∧ ∀ (pl : Sem Bool) (Q : Value × List Value → Shared → Prop), Q (f, [u]) s → wpAny C.M A (getMethod u a pl) Q noE s
theorem getM_sound (O : GOk C) (R : C.R ρ σ s.heap) {u : Value} {o : V} {a : Str} {m : Mth} (Vo : Val s.heap ρ σ.next u o) (e : methOf C.G σ o a = some m) : Got C A s a m u := by
  cases o with
  | cell c =>
    refine Vo.e_cell fun hi => b1 e fun cl q e => ?_
    cases cl with
    | inst D l =>
      refine bO e (fun _ _ => nnO) fun hl e => b1 e fun f hm e => c1 e ?_
      have y := inst_at R (show instAt σ c = some (D, l) by unfold instAt; rw [q]; rfl)
      refine ea_2_2 (y.2.2) (fun es k I hf => ?_)
      have MO := O.meth _ _ _ hm
      exact ⟨.ref f, .inr MO.keep, rfl, fun pl Q hq => method_fn (O.X.keeps R.keep) I (plainGet_of MO.get).1 (plainGet_of MO.get).2 MO.find (beq_iff_eq.mp MO.fn) (by show (lookIn a (dictOf es k)).map _ = _; rw [lookIn_dict, (hf.get a).2 hl]; rfl) hq⟩
    | list l =>
      refine bT e fun ha e => c1 e ?_
      obtain ⟨_, items, k, ho, _⟩ := (R.cells _ _ q).2
      exact sEq_eq ha ▸ ⟨_, kept_builtin, rfl, fun pl Q hq => getMethod_builtin ⟨_, ho, rfl⟩ PySem.F.plainAttrs_list slot_list_append type_list_append (fun b e => Value.ref.inj e ▸ ⟨_, ho, rfl⟩) hq⟩
    | dict l =>
      refine bT e fun ha e => c1 e ?_
      refine ea_1_2 (dict_obj (R.cells _ _ q).2) (fun o ho hx => ?_)
      exact sEq_eq ha ▸ ⟨_, kept_builtin, rfl, fun pl Q hq => getMethod_builtin ⟨_, ho, hx.1⟩ PySem.F.plainAttrs_dict PySem.F.slot_dict_get PySem.F.type_dict_get (fun b e => Value.ref.inj e ▸ ⟨_, ho, hx.2.1⟩) hq⟩
  | str t =>
    refine Vo.e_str fun t => bC e (fun ha e => c1 e ?_) fun _ e => bT e fun ha e => c1 e ?_
    · exact sEq_eq ha ▸ ⟨_, kept_builtin, rfl, fun pl Q hq => GM.isupper hq⟩
    · exact sEq_eq ha ▸ ⟨_, kept_builtin, rfl, fun pl Q hq => GM.split hq⟩
  | _ => exact nnO e

theorem vals_strs (h : Heap) (k : Nat) : ∀ l : List (Str × Tok), Vals h ρ k (strValues l) ((l.map (·.1)).map V.str)
  | [] => .nil
  | p :: l => .cons (.str p.1 p.2) (vals_strs h k l)

theorem split_sound (R : C.R ρ σ s.heap) {x y : Str} {t u : Tok} (hx : x.length < 1000) (hy : 0 < y.length) :
    wpAny C.M A (call (.builtin "str.split") [.str x t, .str y u]) (PV C ρ σ s σ (.lst ((Txt.split x y).map .str))) noE s := by
  have hy' : (y.length == 0) = false := by simp; omega
  have hn : (Builtin.Str.partsBetween x (Builtin.Str.occurrences x y 0 x.length (x.length + 1)) y.length).length ≤ sizeLine := by
    have e1 := StrLaws.occ_length_le x y 0 x.length (x.length + 1)
    rw [length_partsBetween, sizeLine_eq]; omega
  have fin : ∀ {l : List (Str × Tok)} {tk : Nat}, l.map (·.1) = Txt.split x y →
      Post C NoX ρ σ s σ (fun ρ' h => Val h ρ' σ.next (.ref s.heap.objs.size) (.lst ((Txt.split x y).map .str))) { s with heap := s.heap.push { cls := .type "list", data := .seq (strValues l).toArray }, toks := tk } := fun {l} {tk} e =>
    ⟨ρ, Ext.push _, R.push _, ⟨rfl, rfl, rfl⟩, .lst (k := 0) (Heap.get?_push_size _ rfl) R.notOwn_size (by
      rw [← e]
      exact vals_strs _ _ _)⟩
  cases h1 : (decide (x.length < y.length) || decide (Builtin.Str.strKind x < Builtin.Str.strKind y))
  · cases hf : (Builtin.Str.occurrences x y 0 x.length (x.length + 1)).isEmpty
    · refine call_meets PySem.F.slot_str_split (typeIs_str _ _ _) PySem.F.entry_str_split (PySem.F.args_str_split_2 _ _) (meets_str_split_sep x y t u h1 hy' hf (by rw [sizeLine_eq]; omega) hn) ?_
      show wants _ _ _ { s with toks := _, heap := s.heap.push { cls := .type "list", data := .seq (strsFrom s.toks (Builtin.Str.partsBetween x (Builtin.Str.occurrences x y 0 x.length (x.length + 1)) y.length)).toArray } }
      rw [strsFrom_eq]
      exact fin ((numbered_texts _ _).trans ((if_neg (ne_true_of_eq_false h1)).trans (if_neg (ne_true_of_eq_false hf))).symm)
    · exact call_meets PySem.F.slot_str_split (typeIs_str _ _ _) PySem.F.entry_str_split (PySem.F.args_str_split_2 _ _) (meets_str_split_not_found x y t u h1 hy' hf)
        (fin (l := [(x, t)]) ((if_neg (ne_true_of_eq_false h1)).trans (if_pos hf)).symm)
  · exact call_meets PySem.F.slot_str_split (typeIs_str _ _ _) PySem.F.entry_str_split (PySem.F.args_str_split_2 _ _) (meets_str_split_cannot_occur x y t u h1)
      (fin (l := [(x, t)]) (if_pos h1).symm)

theorem list_append_sound (R : C.R ρ σ s.heap) {c : Nat} {l : List V} {u : Value} {v : V} (q : listAt σ c = some l) (hl : Nat.blt l.length 1000 = true) (Vv : Val s.heap ρ σ.next u v) :
    wpAny C.M A (call (.builtin "list.append") [.ref (ρ c).1, u]) (fun r s' => r = .none ∧ Post C NoX ρ σ s (σ.set c (.list (l ++ [v]))) (fun _ _ => True) s') noE s := by
  have D := R.cells _ _ (listAt_get q)
  obtain ⟨e2, items, k, ho, vs⟩ := D.2
  refine call_meets slot_list_append ⟨_, ho, rfl⟩ entry_list_append (args_list_append _ _) (PySem.list_append (ρ c).1 items k u (by rw [vals_size vs, sizeLine_eq]; exact Nat.le_trans (Nat.le_of_ble_eq_true hl) (by decide))) ⟨ho, rfl, ?_⟩
  exact post_set R D.1 (.inl rfl) (Heap.SameBut.update ..) fun F => ⟨e2, _, _, get?_update_seq ho fun x_1 => x_1.push u, by rw [Array.toList_push]; exact (vs.append (.cons Vv .nil)).mono F (fun _ _ => rfl) (Nat.le_refl _)⟩

theorem get_sound (R : C.R ρ σ s.heap) {c : Nat} {l : List (V × V)} {k : Str} {t : Tok} {u : Value} {d : V} (q : dictAt σ c = some l) (hk : keyOk (.str k) l = true) (Vd : Val s.heap ρ σ.next u d) :
    wpAny C.M A (call (.builtin "dict.get") [.ref (ρ c).1, .str k t, u]) (PV C ρ σ s σ ((dictFindV (.str k) l).getD d)) noE s := by
  have D := R.cells _ _ (dictAt_get q)
  refine ea_1_2 (dict_str D.2 (Bool.and_eq_true_iff.mp hk).2) (fun kvs hd pk => ?_)
  have hf := pk.find k
  refine call_meetsIn PySem.F.slot_dict_get hd.dictOf.typeIs PySem.F.entry_dict_get (PySem.F.args_dict_get_3 _ _ _) (meets_dict_get_default (knd := strKind C.prog C.w) (d := (ρ c).1) (hkey := strKind_is _ _ k t) (hd := R.notSys D.1) (dflt := u)) ⟨_, hd.dictOf.mapOf, Post.here R ?_⟩
  cases z : dictFindV (.str k) l with
  | none => rw [hf.2 z]; exact Vd
  | some v => exact (hf.1 v z).elim fun u' y => by rw [y.1]; exact y.2
end

section
variable {C : Cx} {r : Rec} {n : Nat} (S : Sound C r n) {A : Around} {σ : St} {ρ : Pl} {s : Shared}
include S
theorem call_sound (room : Room A n) {f : Addr} {args : List V} {v : V} {σ' : St} {us : List Value} (e : r.call f args σ = some (v, σ')) (R : C.R ρ σ s.heap) (Va : Vals s.heap ρ σ.next us args) :
    wpAny C.M A (call (.ref f) us) (PV C ρ σ s σ' v) noE s :=
  wpAny_call (codeAny_mono (S.call e room R Va) fun q s' x => x.elim fun u y => by rw [y.1]; exact y.2)

theorem callM_sound (room : Room A n) {m : Mth} {f : Value} {uo : Value} {o : V} {us : List Value} {args : List V} {v : V} {σ' : St} (hm : MthIs m f) (e : callM r o m args σ = some (v, σ')) (R : C.R ρ σ s.heap) (Vo : Val s.heap ρ σ.next uo o) (Va : Vals s.heap ρ σ.next us args) :
    wpAny C.M A (call f ([uo] ++ us)) (PV C ρ σ s σ' v) noE s := by
  show wpAny C.M A (call f (uo :: us)) (PV C ρ σ s σ' v) noE s
  cases m with
  | fn g =>
    rw [show f = .ref g from hm]
    exact call_sound S room e R (.cons Vo Va)
  | append =>
    rw [show f = .builtin "list.append" from hm]
    refine b1 e fun c qc e => b1 e fun w qw e => b1 e fun l q e => bT e fun hl e => c2 e ?_
    refine Vo.q_cell (P := fun u => wpAny C.M A (call _ (u :: us)) _ noE s) qc fun _ => vals_one (P := fun us => wpAny C.M A (call _ (_ :: us)) _ noE s) Va qw fun u x => wpAny_mono (list_append_sound R q hl x) (fun r' s' y => ?_) fun _ _ z => z
    rw [y.1]
    exact y.2.mono fun _ _ _ => .none
  | get =>
    rw [show f = .builtin "dict.get" from hm]
    refine b1 e fun c qc e => b2 e fun k r qk e => b1 e fun k qs e => b1 e fun d qd e => b1 e fun l q e => bT e fun hk e => c2 e ?_
    exact Vo.q_cell (P := fun u => wpAny C.M A (call _ (u :: us)) _ noE s) qc fun _ => vals_unc (P := fun us => wpAny C.M A (call _ (_ :: us)) _ noE s) Va qk fun u us x X => x.q_str (P := fun u => wpAny C.M A (call _ (_ :: u :: us)) _ noE s) qs fun t => vals_one (P := fun us => wpAny C.M A (call _ (_ :: _ :: us)) _ noE s) X qd fun u' y => get_sound R q hk y
  | upper =>
    rw [show f = .builtin "str.isupper" from hm]
    refine b1 e fun x qx e => bT e fun hn e => c2 e ?_
    obtain rfl := List.isEmpty_iff.mp hn
    exact Vo.q_str (P := fun u => wpAny C.M A (call _ (u :: us)) _ noE s) qx fun t => Va.e_nil (SC.isupper (Post.here' R (.bool _)))
  | split =>
    rw [show f = .builtin "str.split" from hm]
    refine b1 e fun x qx e => b1 e fun w qw e => b1 e fun y qy e => bT e fun hb e => bA hb fun b1 b2 => c2 e ?_
    exact Vo.q_str (P := fun u => wpAny C.M A (call _ (u :: us)) _ noE s) qx fun t => vals_one (P := fun us => wpAny C.M A (call _ (_ :: us)) _ noE s) Va qw fun u z => z.q_str (P := fun u => wpAny C.M A (call _ (_ :: [u])) _ noE s) qy fun t' => split_sound R (Nat.le_of_ble_eq_true b1) (Nat.le_of_ble_eq_true b2)
end
end
section
open PySem PySem.Calls PyProof.Rows PySem.W PySem.SeqAt
set_option maxRecDepth 100000

noncomputable def RawAt (h : Heap) (d : Addr) (es : Array DictEntry) (ep : Nat) : Prop := ∃ o, h.get? d = some o ∧ o.ExactDict ∧ o.data = .dict es ep
theorem RawAt.typeIs {s : Shared} {d : Addr} {es : Array DictEntry} {ep : Nat} (x : RawAt s.heap d es ep) : s.TypeIs (.ref d) "dict" := let ⟨o, ho, hx, _⟩ := x; ⟨o, ho, hx.1⟩
theorem RawAt.keep {h h' : Heap} {d : Addr} {es : Array DictEntry} {ep : Nat} (x : RawAt h d es ep) (k : ∀ o, h.get? d = some o → h'.get? d = some o) : RawAt h' d es ep := let ⟨o, ho, r⟩ := x; ⟨o, k o ho, r⟩

section
variable {prog : Program} {w : World} {A : Around} {E : Value → Shared → Prop} {s : Shared} {d v it : Addr} {es : Array DictEntry} {ep i : Nat}
theorem raw_values {Q : Value → Shared → Prop} (lo : (d == sysModules) = false) (hm : RawAt s.heap d es ep) (h : Q (.ref s.heap.objs.size) { s with heap := s.heap.push { cls := .type "dict_values", data := .fields #[.ref d] } }) :
    wpAny (model prog w) A (call (.builtin "dict.values") [.ref d]) Q E s := by
  refine wpAny_call_entry PySem.F.slot_dict_values hm.typeIs PySem.F.entry_dict_values ?_ (PySem.F.args_dict_values_1 _)
  refine wpAny_bind ?_
  unfold Builtin.Dict.noArgs
  refine wpAny_bind (wpAny_notOrdered_dict hm.typeIs ?_)
  show wpAny _ _ (pure d) _ _ s
  refine wpAny_pure ?_
  show wpAny _ _ (Builtin.Dict.showsAll d >>= _) _ _ s
  unfold Builtin.Dict.showsAll
  rw [if_neg (by rw [lo]; exact Bool.false_ne_true)]
  refine wpAny_bind (wpAny_pure ?_)
  exact wpAny_bind (wpAny_newObj_type (wpAny_pure ⟨_, rfl, h⟩))

theorem raw_iter {Q : Value → Shared → Prop} (hv : s.heap.IsValuesView v d) (hm : RawAt s.heap d es ep)
    (hQ : Q (.ref s.heap.objs.size) { s with heap := s.heap.push { cls := .type "dict_valueiterator", data := .fields #[.ref d, .int 0 0, .int es.size 0, .int ep 0] } }) :
    wpAny (model prog w) A (pyIter (.ref v)) Q E s := by
  refine ea_1_3 (id hv) (fun ov hov hcv hdv => ?_)
  refine ea_1_3 (id hm) (fun o ho hx hdat => ?_)
  refine wpAny_pyIter_slot hv.typeIs PySem.F.slot_dict_values_iter (wpAny_call_entry PySem.F.slot_dict_values_iter hv.typeIs PySem.F.entry_dict_values_iter ?_ (PySem.F.args_dict_values_iter_1 _))
  unfold Builtin.«dict_values.__iter__»
  refine wpAny_bind (wpAny_pure (wpAny_bind ?_))
  unfold Builtin.Dict_items.dictOf
  refine wpAny_bind (wpAny_field hov hdv (x := .ref d) rfl (wpAny_pure (wpAny_bind ?_)))
  unfold Builtin.Dict_items.newIterator
  refine wpAny_bind (wpAny_dictEntries ho hdat (wpAny_bind (wpAny_dictEpoch ho hdat ?_)))
  have hown : Builtin.Dict_items.ownsTuple "dict_valueiterator" = false := by decide
  simp only [hown, Bool.false_eq_true, if_false]
  refine wpAny_newObj_type (wpAny_pure ⟨_, rfl, "dict_valueiterator", _, ⟨_, Heap.get?_push_size _ rfl, rfl⟩, PySem.F.slot_dict_valueiterator_next.lookup, ?_⟩)
  simpa [rawInt] using hQ

theorem raw_next {Q : Option Value → Shared → Prop} (hit : s.heap.IsValIter it d i es.size ep) (hm : RawAt s.heap d es ep) {e : DictEntry} (hx : es[i]? = some e)
    (hQ : ∀ h', h'.IsValIter it d (i + 1) es.size ep → Heap.SameBut it s.heap h' → Q (some e.val) { s with heap := h' }) :
    wpAny (model prog w) A (pyNext (.ref it)) Q E s := by
  refine ea_1_3 (id hit) (fun o ho hc hd => ?_)
  refine ea_1_3 (id hm) (fun od hod hxd hdd => ?_)
  unfold pyNext
  refine wpAny_bind (wpAny_attempt (wpAny_callSpecial?_slot (name := Str.ofString "__next__") hit.typeIs PySem.F.slot_dict_valueiterator_next
    (wpAny_call_entry PySem.F.slot_dict_valueiterator_next hit.typeIs PySem.F.entry_dict_valueiterator_next ?_ (PySem.F.args_dict_valueiterator_next_1 _))))
  refine wpAny_bind (wpAny_pure (wpAny_bind (wpAny_bind ?_)))
  first | refine wpAny_bind (wpAny_typeNameOfWhole_valiter hit.typeIs (wpAny_pure ?_)) | refine wpAny_bind (wpAny_typeNameOf_valiter hit.typeIs (wpAny_pure ?_))
  refine wpAny_bind (wpAny_fieldsOf ho hd ?_)
  show wpAny _ _ (if (Value.ref d == Value.none) = true then _ else _) _ _ s
  rw [if_neg (show ¬ ((Value.ref d == Value.none) = true) from Bool.false_ne_true)]
  refine wpAny_bind (wpAny_pure (wpAny_bind (wpAny_dictEntries hod hdd ?_)))
  rw [if_neg (by simp)]
  refine wpAny_bind (wpAny_pure (wpAny_bind (wpAny_dictEpoch hod hdd ?_)))
  rw [if_neg (by simp)]
  refine wpAny_pure ?_
  refine ea_1_1 (Array.getElem?_eq_some_iff.mp hx) (fun hlt' he => ?_)
  simp only [show ¬ ((i : Int) < 0) from by omega, if_false, Int.toNat_natCast, hx]
  refine wpAny_bind ?_
  first | refine wpAny_bind (wpAny_typeNameOfWhole_valiter hit.typeIs (wpAny_pure ?_)) | refine wpAny_bind (wpAny_typeNameOf_valiter hit.typeIs (wpAny_pure ?_))
  refine wpAny_bind (wpAny_isOneOf_valiter hit.typeIs ?_)
  show wpAny _ _ (setField (.ref it) 1 (rawInt ((i : Int) + 1)) >>= _) _ _ s
  refine wpAny_bind (wpAny_setField ho hd (by simp) ?_)
  have hit' : (s.heap.update it (Obj.mapFields (·.setIfInBounds 1 (rawInt ((i : Int) + 1))))).IsValIter it d (i + 1) es.size ep :=
    ⟨_, Heap.get?_update_self _ ho (Obj.isFreed_of_fields (Obj.data_mapFields hd _)), (Obj.cls_mapFields ..).trans hc, by rw [Obj.data_mapFields hd]; simp [rawInt]⟩
  refine wpAny_bind (wpAny_holding ?_)
  refine wpAny_bind (wpAny_isOneOf_valiter (s := { s with heap := s.heap.update it (Obj.mapFields (·.setIfInBounds 1 (rawInt ((i : Int) + 1)))) }) hit'.typeIs ?_)
  refine wpAny_bind (wpAny_isOneOf_valiter (s := { s with heap := s.heap.update it (Obj.mapFields (·.setIfInBounds 1 (rawInt ((i : Int) + 1)))) }) hit'.typeIs ?_)
  show wpAny _ _ (pure e.val) _ _ _
  exact wpAny_pure (wpAny_pure ⟨_, rfl, wpAny_pure (hQ _ hit' (Heap.SameBut.update ..))⟩)

theorem raw_end {Q : Option Value → Shared → Prop} (hh : A.handled = none) (hit : s.heap.IsValIter it d i es.size ep) (hm : RawAt s.heap d es ep) (hx : es[i]? = none)
    (hQ : ∀ h', Heap.ExtBut it s.heap h' → Q none { s with heap := h' }) : wpAny (model prog w) A (pyNext (.ref it)) Q E s := by
  refine ea_1_3 (id hit) (fun o ho hc hd => ?_)
  refine ea_1_3 (id hm) (fun od hod hxd hdd => ?_)
  unfold pyNext
  refine wpAny_bind (wpAny_attempt (wpAny_callSpecial?_slot (name := Str.ofString "__next__") hit.typeIs PySem.F.slot_dict_valueiterator_next
    (wpAny_call_entry PySem.F.slot_dict_valueiterator_next hit.typeIs PySem.F.entry_dict_valueiterator_next ?_ (PySem.F.args_dict_valueiterator_next_1 _))))
  refine wpAny_bind (wpAny_pure (wpAny_bind (wpAny_bind ?_)))
  first | refine wpAny_bind (wpAny_typeNameOfWhole_valiter hit.typeIs (wpAny_pure ?_)) | refine wpAny_bind (wpAny_typeNameOf_valiter hit.typeIs (wpAny_pure ?_))
  refine wpAny_bind (wpAny_fieldsOf ho hd ?_)
  show wpAny _ _ (if (Value.ref d == Value.none) = true then _ else _) _ _ s
  rw [if_neg (show ¬ ((Value.ref d == Value.none) = true) from Bool.false_ne_true)]
  refine wpAny_bind (wpAny_pure (wpAny_bind (wpAny_dictEntries hod hdd ?_)))
  rw [if_neg (by simp)]
  refine wpAny_bind (wpAny_pure (wpAny_bind (wpAny_dictEpoch hod hdd ?_)))
  rw [if_neg (by simp)]
  refine wpAny_pure ?_
  simp only [show ¬ ((i : Int) < 0) from by omega, if_false, Int.toNat_natCast, hx]
  refine wpAny_bind ?_
  first | refine wpAny_bind (wpAny_typeNameOfWhole_valiter hit.typeIs (wpAny_pure ?_)) | refine wpAny_bind (wpAny_typeNameOf_valiter hit.typeIs (wpAny_pure ?_))
  show wpAny _ _ (setField (.ref it) 0 .none >>= _) _ _ s
  refine wpAny_bind (wpAny_setField ho hd (by simp) ?_)
  show wpAny _ _ (newExc (.type "StopIteration") [] >>= _) _ _ _
  refine wpAny_bind ?_
  simp only [newExc, newTuple]
  refine wpAny_bind (wpAny_newObj_type ?_ (by size_fits))
  refine wpAny_bind (m := firstArgMember _ _) (wpAny_of_eq (a := Value.none) (by first | rfl | (simp only [firstArgMember]; rfl)) ?_)
  refine wpAny_newObj_type ?_ (by size_fits)
  simp only [raiseNew]
  refine wpAny_bind (wpAny_handled ?_)
  rw [show A.in1.handled = none from hh]
  refine wpAny_bind (wpAny_pure (wpAny_throw ?_))
  refine wpAny_bind (wpAny_isInstance (T := "StopIteration") (b := true) ⟨_, Heap.get?_push_size _ rfl, rfl⟩ isSubtype_stop ?_)
  exact wpAny_pure (hQ _ (((Heap.SameBut.update ..).extBut.push _).push _))
end

section
variable {prog : Program} {w : World} {d r : Addr} {es : Array DictEntry} {ep : Nat}
theorem raw_walks {A : Around} (hh : A.handled = none) (I : Addr) (hne : d ≠ I) :
    Walks prog w A I [I, d] [I] es.size (fun i v => ∃ e, es[i]? = some e ∧ v = e.val) (fun i h => h.IsValIter I d i es.size ep ∧ RawAt h d es ep) where
  sub := fun b hb => by simp at hb; simp [hb]
  frame := fun _ _ _ st hk => ⟨let ⟨o, ho, q⟩ := st.1; ⟨o, hk I (by simp) o ho, q⟩, st.2.keep fun o e => hk d (by simp) o e⟩
  item := fun i s Q E hi st hQ => by
    refine raw_next st.1 st.2 (Array.getElem?_eq_getElem hi) fun h' hit' hs' => ?_
    exact hQ _ h' s.toks ⟨_, Array.getElem?_eq_getElem hi, rfl⟩ ⟨hit', st.2.keep fun o e => hs'.extBut d o hne e⟩ fun b o hb e => hs'.extBut b o (fun h => hb (by simp [h])) e
  done := fun s Q E st hQ => raw_end hh st.1 st.2 (by simp) fun h' he' => hQ h' s.toks fun b o hb e => he' b o (fun h => hb (by simp [h])) e
  self := fun _ _ _ _ st hQ => wpAny_pyIter_valiter st.1 hQ
theorem raw_src : KdlSrc prog w "dict_values" r d es.size (fun i v => ∃ e, es[i]? = some e ∧ v = e.val) (fun h => h.IsValuesView r d ∧ RawAt h d es ep) where
  type := fun _ hm => hm.1.typeIs
  there := fun _ hm => ⟨let ⟨_, ho, _⟩ := hm.1; Heap.lt_size ho, let ⟨_, ho, _⟩ := hm.2; Heap.lt_size ho⟩
  keep := fun _ _ hm hk => ⟨let ⟨o, ho, x⟩ := hm.1; ⟨o, hk r (.inl rfl) o ho, x⟩, hm.2.keep fun o e => hk d (.inr rfl) o e⟩
  notList := by decide
  notTuple := by decide
  hint := fun _ _ _ _ hm hq => kdl_hint_values hm.1.typeIs hq
  iter := fun _ _ hh hm => ⟨_, _, (fun _ _ hq => raw_iter hm.1 hm.2 hq), raw_walks hh _ (Nat.ne_of_lt (let ⟨_, ho, _⟩ := hm.2; Heap.lt_size ho)), ⟨⟨_, Heap.get?_push_size _ rfl, rfl, rfl⟩, hm.2.keep fun o e => Heap.get?_push_of_some _ e⟩⟩
end

section
variable {C : Cx} {σ : St} {ρ : Pl} {s : Shared}
theorem PStr.raw {h : Heap} {n : Nat} {kvs : List (Str × Value)} {l : List (V × V)} (q : PStr h ρ n kvs l) : ∀ {el : List DictEntry}, Pairs (strKind C.prog C.w) el kvs → Vals h ρ n (el.map (·.val)) (l.map (·.2)) := by
  induction q with
  | nil => intro el hp; cases hp; exact .nil
  | cons a r ih => intro el hp; cases hp with | cons h1 h2 hp => exact .cons (by dsimp only; rw [h2]; exact a) (ih hp)
theorem PTup.raw {h : Heap} {n : Nat} {xs : List (List Str × Addr × Value)} {l : List (V × V)} (q : PTup h ρ n xs l) : Vals h ρ n ((xs.map (entryOfKey (tupleKind (strKind C.prog C.w)))).map (·.val)) (l.map (·.2)) := by
  induction q with
  | nil => exact .nil
  | cons a b r ih => exact .cons b ih
theorem cell_raw {h : Heap} {n : Nat} {p : Addr × Addr} {l : List (V × V)} (x : CellAt h ρ n C.prog C.w p (.dict l)) : ∃ es ep, RawAt h p.1 es ep ∧ Vals h ρ n (es.toList.map (·.val)) (l.map (·.2)) := by
  exact x.2.elim (fun y => y.elim fun kvs y => y.1.elim fun o z => z.elim fun es z => ⟨es, _, ⟨o, z.1, z.2.1, z.2.2.1⟩, y.2.raw z.2.2.2.2.1⟩) fun y => y.elim fun xs y => y.2.1.elim fun o z => z.elim fun es z => z.elim fun ep z => ⟨es, ep, ⟨o, z.1, z.2.1, z.2.2.1⟩, z.2.2.2.1 ▸ y.2.2.raw⟩
end
end
section
open PySem PySem.Calls PyProof.Rows PySem.W PySem.SeqAt
set_option maxRecDepth 100000

theorem attributeBase_plain {o : Expr} {a : Str} {env : Env} {m : Sem Value} (h : notCall o = true) : attributeBase o a env m = m := by
  cases o <;> first | rfl | exact nnF h
theorem Val.cell_at {h : Heap} {ρ : Pl} {n i : Nat} {D d : Addr} (hi : i < n) (e : ρ i = (D, d)) : Val h ρ n (.ref D) (.cell i) := by
  have := Val.cell (h := h) (ρ := ρ) hi
  rw [e] at this
  exact this
theorem natBeq_line {p q : Pos} (h : Nat.beq p.endLine q.line = true) : (p.endLine == q.line) = true := by
  have := Nat.eq_of_beq_eq_true h
  simp [this]

section
variable {C : Cx} {r : Rec} {n : Nat} (S : Sound C r n) {sc : Scope} {loc : Loc} {A : Around} {env : Env} {σ σ' : St} {ρ : Pl} {s : Shared}
include S

theorem methE_sound (O : GOk C) (room : Room A n) {o : Expr} {a : Str} {apos pos : Pos} {args : List Expr} {v : V} (ho : notCall o = true) (hs : short args = true) (hl : Nat.beq apos.endLine pos.line = true)
    (e : methE C.G r sc o a args loc σ = some (v, σ')) (F : Frm C.h₀ env sc loc ρ σ.next s.heap) (R : C.R ρ σ s.heap) :
    wpAny C.M A (eval (.Call (.Attribute o a apos) args [] pos) env) (PV C ρ σ s σ' v) noE s := by
  refine b2 e fun ov σ₁ e1 e => b1 e fun m e2 e => b2 e fun vs σ₂ e3 e => ?_
  rw [arm_eval_Call, attributeBase_plain ho]
  refine wpAny_bind (postK (S.ev e1 room F R) fun ρ₁ u s₁ E1 R1 S1 V1 => wpAny_bind (wpAny_standAt ?_))
  obtain ⟨f, hk, hm, hg⟩ := getM_sound O R1 V1 e2
  have hp := star_plain r sc env args loc σ₁ e3
  have hform : methodCallForm (args.length + ([] : List Keyword).length) (backTo pos (starEach args env)) (backToKw pos (keywordEach [] env)) = true := by
    unfold methodCallForm
    have h1 : (backTo pos (starEach args env)).all (fun x => !x.1) = true := by
      rw [List.all_eq_not_any_not]
      simp only [Bool.not_not]
      rw [any_backTo, hp]; rfl
    rw [h1]
    have := short_le hs
    rw [show backToKw pos (keywordEach [] env) = [] from rfl]
    simp [this]
  have hpos : methodCallPos true o env apos pos = pure pos := by unfold methodCallPos; simp [natBeq_line hl]
  unfold methodCall
  rw [hform]
  refine wpAny_bind (wpAny_holding (hg _ _ (wpAny_bind (wpAny_of_eq hpos (callWith_sound S O room hk e3 (F.ext E1) R1 fun us s₂ ρ₂ E2 R2 S2 V2 => ?_)))))
  exact wpAny_mono (callM_sound S room hm e R2 (E2.val noSeq_noX V1) V2) (fun u s₃ q => q.trans (E1.trans E2) (S1.trans S2)) fun _ _ q => q

theorem callC_sound {A : Around} (O : GOk C) (room : Room A (n + 1)) {D i : Addr} {args : List V} {us : List Value} {v : V} (hc : C.G.cls D = some i) (e : callC r D i args σ = some (v, σ')) (R : C.R ρ σ s.heap) (Va : Vals s.heap ρ σ.next us args) :
    wpAny C.M A (call (.ref D) us) (PV C ρ σ s σ' v) noE s := by
  have CO := O.cls _ _ hc
  refine b2 e fun w σ'' e1 e => b1 e fun _ qn e => c2 e ?_
  obtain ⟨hp, g, d, t, os⟩ := s
  refine wpAny_call (make_core (makes_of (O.X.keeps R.keep) CO.make) (looks_findIn (O.X.keeps R.keep) CO.find) (fun self => bind_fn (O.X.keeps R.keep) self CO.fn) (.inl rfl) ?_)
  have kp : ∀ b o, hp.get? b = some o → ((hp.push emptyDict).push (instObj D hp.objs.size)).get? b = some o := fun b o e => Heap.get?_push_of_some _ (Heap.get?_push_of_some _ e)
  have n1 : hp.get? (hp.objs.size + 1) = none := Heap.get?_none_of_le (Nat.le_succ _)
  have n2 : hp.get? hp.objs.size = none := Heap.get?_none_of_le (Nat.le_refl _)
  have ho : ((hp.push emptyDict).push (instObj D hp.objs.size)).get? (hp.objs.size + 1) = some (instObj D hp.objs.size) := by rw [← Heap.size_push hp emptyDict]; exact Heap.get?_push_size _ rfl
  have hd : ((hp.push emptyDict).push (instObj D hp.objs.size)).get? hp.objs.size = some emptyDict := Heap.get?_push_of_some _ (Heap.get?_push_size _ rfl)
  show codeAny C.M _ _ _ ⟨(hp.push emptyDict).push (instObj D hp.objs.size), g, d, t, os⟩
  generalize (hp.push emptyDict).push (instObj D hp.objs.size) = hh at *
  have E1 : Ext NoX ρ σ.next hp (putP ρ σ.next (hp.objs.size + 1, hp.objs.size)) (σ.next + 1) hh := ext_put kp n1 n2
  have R1 : C.R (putP ρ σ.next (hp.objs.size + 1, hp.objs.size)) (σ.new (.inst D [])) hh := R.new ⟨Nat.lt_succ_of_lt R.big, R.big⟩ kp n1 n2 ⟨Nat.succ_ne_self _, ho, [], 0, hd, .nil⟩
  have c := S.call (us := .ref (hp.objs.size + 1) :: us) (s := ⟨hh, g, d, t, os⟩) e1 (room_under (D := D) (us := us) (kw := []) room) R1 (.cons cell_put (E1.vals noSeq_noX Va))
  refine codeAny_mono c fun q s' x => x.elim fun u' x => ?_
  obtain ⟨ρ', E2, R2, S2, V2⟩ := x.2
  rw [x.1]
  obtain rfl := asNone_eq qn
  exact V2.e_none ⟨rfl, ρ', E1.trans E2, R2, Same.trans ⟨rfl, rfl, rfl⟩ S2, .cell_at (Nat.lt_of_lt_of_le (Nat.lt_succ_self _) E2.le) ((E2.ext σ.next (Nat.lt_succ_self _)).trans (putP_self ..))⟩
omit S in
theorem refOf_eq {u : Value} {a : Addr} (e : refOf u = some a) : u = .ref a := by
  cases u <;> first | exact nnO e | exact congrArg Value.ref (Option.some.inj e)
theorem callV_sound {A : Around} (O : GOk C) (room : Room A (n + 1)) {f : V} {u : Value} {args : List V} {us : List Value} {v : V} (Vf : Val s.heap ρ σ.next u f) (e : callV C.G r f args σ = some (v, σ')) (R : C.R ρ σ s.heap) (Va : Vals s.heap ρ σ.next us args) :
    wpAny C.M A (call u ([] ++ us)) (PV C ρ σ s σ' v) noE s :=
  b1 e fun w q e => Vf.q_glob (P := fun u => wpAny C.M A (call u us) (PV C ρ σ s σ' v) noE s) q fun _ => bO e
    (fun a qa e => refOf_eq qa ▸ bO e (fun _ _ e => call_sound S (room_down room) e R Va) fun _ e => b1 e fun i hc e => callC_sound S O room hc e R Va)
    fun _ e => b1 e fun v' q e => c2 (Q := fun v σ' => wpAny C.M A (call w us) (PV C ρ σ s σ' v) noE s) e (callB_sound (room_down room) R Va q)

omit S in
theorem kept_of {f : V} {u : Value} {args : List V} {v : V} (O : GOk C) (Vf : Val s.heap ρ σ.next u f) {σ₂ : St} (e : callV C.G r f args σ₂ = some (v, σ')) : FnKept C u :=
  b1 e fun w q e => Vf.q_glob (P := FnKept C) q fun _ => bO e
    (fun a qa e => .inr (refOf_eq qa ▸ bO e (fun fi hf _ => O.keep _ _ hf) fun _ e => b1 e fun i hc _ => (O.cls _ _ hc).keep))
    fun qn _ => .inl fun a z => by rw [z] at qn; exact nnP qn

theorem nameE_sound {A : Around} (O : GOk C) (room : Room A (n + 1)) {x : Str} {p pos : Pos} {args : List Expr} {v : V} (hs : short args = true)
    (e : nameE C.G r sc x args loc σ = some (v, σ')) (F : Frm C.h₀ env sc loc ρ σ.next s.heap) (R : C.R ρ σ s.heap) :
    wpAny C.M A (eval (.Call (.Name x p) args [] pos) env) (PV C ρ σ s σ' v) noE s := by
  refine bF e fun hx e => b1 e fun fv e1 e => b2 e fun vs σ₁ e2 e => wpAny_Call_Name_kw (wpAny_mono (Name_sound O hx e1 F R) (fun u s' y => ?_) fun _ _ q => q)
  rw [y.1]
  refine callWith_sound S O (room_down room) (kept_of O y.2 e) e2 F R fun us s₁ ρ₁ E1 R1 S1 V1 => ?_
  exact wpAny_mono (callV_sound S O room (E1.val noSeq_noX y.2) e R1 V1) (fun u s₃ q => q.trans E1 S1) fun _ _ q => q

omit S in
theorem arr_map {acc : Array Value} {es : Array DictEntry} (h : acc.size = es.size ∧ ∀ (j : Nat) (v : Value), acc[j]? = some v → ∃ e : DictEntry, es[j]? = some e ∧ v = e.val) : acc.toList = es.toList.map (·.val) := List.ext_getElem? fun j => by
  rw [List.getElem?_map, Array.getElem?_toList, Array.getElem?_toList]
  cases q : acc[j]? with
  | none => rw [show es[j]? = none from Array.getElem?_eq_none (h.1 ▸ Array.getElem?_eq_none_iff.mp q)]; rfl
  | some v => exact (h.2 j v q).elim fun e z => by rw [z.1, z.2]; rfl
omit S in
theorem isListT_of {h : Heap} {k : Nat} {u : Value} {f : V} {P : Value → Prop} (e : isListT f = true) (Vf : Val h ρ k u f) (K : P (.type "list")) : P u := by
  cases f with
  | glob g =>
    refine Vf.e_glob fun _ => ?_
    cases g with
    | type s => rw [show s = "list" from of_decide_eq_true e]; exact K
    | _ => exact nnF e
  | _ => exact nnF e
theorem valuesE_sound {A : Around} (O : GOk C) (room : Room A (n + 1)) {x a : Str} {o : Expr} {p apos pos pos' : Pos} {v : V} (hx : (sEq x "__debug__" || sEq x "__classdict__") = false) (ha : sEq a "values" = true) (hl : Nat.beq apos.endLine pos'.line = true) (hc : notCall o = true)
    (e : valuesE C.G r sc x o loc σ = some (v, σ')) (F : Frm C.h₀ env sc loc ρ σ.next s.heap) (R : C.R ρ σ s.heap) :
    wpAny C.M A (eval (.Call (.Name x p) [.Call (.Attribute o a apos) [] [] pos'] [] pos) env) (PV C ρ σ s σ' v) noE s := by
  have ea := sEq_eq ha
  refine b1 e fun fv e1 e => bT e fun hf e => b2 e fun cv σ₁ e2 e => b1 e fun c qc e => b1 e fun l q e => bT e fun hlen e => c2 e ?_
  obtain rfl := asCell_eq qc
  have hlen := Nat.le_of_ble_eq_true hlen
  refine wpAny_Call_Name_kw (wpAny_mono (Name_sound O hx e1 F R) (fun u s' y => ?_) fun _ _ q => q)
  rw [y.1]
  refine isListT_of (P := fun u => wpAny _ _ (callWith _ u _ _ _) _ _ _) hf y.2 (PyProof.Rows.callWith_type (by rfl) (Calls.evalArgs_plain (Calls.spliced_cons ?_)))
  rw [arm_eval_Call, attributeBase_plain hc]
  refine wpAny_bind (postK (S.ev e2 (room_down room) F R) fun ρ₁ u s₁ E1 R1 S1 V1 => wpAny_bind (wpAny_standAt ?_))
  obtain ⟨es, ep, hr, hv⟩ := cell_raw (C := C) (R1.cells _ _ (dictAt_get q)).2
  have hpos : methodCallPos true o env apos pos' = pure pos' := by unfold methodCallPos; simp [natBeq_line hl]
  refine V1.e_cell fun hi => ?_
  unfold methodCall
  show wpAny _ _ (holding _ (calleeOf true o env _ a) >>= _) _ _ _
  rw [ea]
  refine wpAny_bind (wpAny_holding (getMethod_builtin hr.typeIs PySem.F.plainAttrs_dict PySem.F.slot_dict_values PySem.F.type_dict_values (fun b e => Value.ref.inj e ▸ hr.elim fun o' z => ⟨o', z.1, z.2.1.2.1⟩) ?_))
  show wpAny _ _ (methodCallPos true o env apos pos' >>= _) _ _ _
  refine wpAny_bind (wpAny_of_eq hpos (callWith_builtin (by rfl) (evalArgs_nil3 ?_)))
  show wpAny _ _ (call (.builtin "dict.values") [.ref (ρ₁ c).1]) _ _ _
  refine raw_values (R1.notSys hi) hr (Calls.spliced_nil ?_)
  show wpAny _ _ (call (.type "list") [.ref s₁.heap.objs.size]) _ _ _
  have hn : es.size = l.length := by have := hv.length; rwa [List.length_map, List.length_map] at this
  refine kdl_call (n := es.size) (raw_src (d := (ρ₁ c).1) (r := s₁.heap.objs.size) (es := es) (ep := ep)) room.handled ⟨⟨_, Heap.get?_push_size _ rfl, rfl, rfl⟩, hr.keep fun o e => Heap.get?_push_of_some _ e⟩ (by rw [hn, sizeLine_eq]; exact Nat.le_trans (Nat.le_of_lt hlen) (by decide)) fun h' tk acc c' kp hD hacc => ?_
  have kp2 : KeepsAll s₁.heap h' := fun b o e => kp b o (Heap.get?_push_of_some _ e)
  refine Post.trans E1 S1 ⟨ρ₁, Ext.of_grow kp2, R1.grow kp2, ⟨rfl, rfl, rfl⟩, .lst hD (R1.notOwn_new (Heap.get?_none_of_le ?_)) (arr_map hacc ▸ hv.keep kp2)⟩
  rw [Heap.size_push]; exact Nat.le_succ _
end
end
section
open PySem PySem.Calls PyProof.Rows PySem.W PySem.SeqAt
set_option maxRecDepth 100000

section
variable {prog : Program} {w : World} {h₀ h h' : Heap} {ρ : Pl} {σ : St}
theorem Rel.adopt (R : Rel prog w h₀ ρ σ h) {D : Addr} {c : Cell} (hD : ∃ o, h.get? D = some o ∧ ¬ seqCls o) (hn : ¬ Own ρ σ.next D) (h0 : h₀.get? D = none) (big : 1 < D) (hs : Heap.ExtBut D h h') (C : CellAt h' (putP ρ σ.next (D, D)) (σ.next + 1) prog w (D, D) c) :
    Rel prog w h₀ (putP ρ σ.next (D, D)) (σ.new c) h' := by
  refine ea_1_2 (hD) (fun oD eD nD => ?_)
  refine R.more ⟨big, big⟩ ⟨h0, h0⟩ (fun i hi => ?_) (fun b o e => hs b o (get_ne e h0) (R.keep b o e)) (fun a o e ha hc => ?_) (fun a o x e => hs a o (fun q => hn (q ▸ x)) e) C
  · have n1 : (ρ i).1 ≠ D := fun q => hn ⟨i, hi, .inl q.symm⟩
    have n2 : (ρ i).2 ≠ D := fun q => hn ⟨i, hi, .inr q.symm⟩
    exact ⟨n1, n1, n2, n2⟩
  · have hne : a ≠ D := fun q => nD (Option.some.inj (eD.symm.trans (q ▸ e)) ▸ hc)
    exact ⟨hs a o hne e, fun q => (own_put q).elim ha fun q => q.elim hne hne⟩
end

section
variable {C : Cx} {r : Rec} {n : Nat} (S : Sound C r n) {sc : Scope} {loc : Loc} {A : Around} {env : Env} {σ σ' : St} {ρ : Pl} {s : Shared}
include S

theorem USub_sound (room : Room A n) {x : Expr} {pos : Pos} {i : Int} (e : r.ev sc x loc σ = some (.int i, σ')) (F : Frm C.h₀ env sc loc ρ σ.next s.heap) (R : C.R ρ σ s.heap) :
    wpAny C.M A (eval (.UnaryOp .USub x pos) env) (PV C ρ σ s σ' (.int (-i))) noE s :=
  wpAny_UnaryOp (postK (S.ev e room F R) fun ρ₁ u s₁ E1 R1 S1 V1 => V1.e_int (P := fun u => wpAny C.M A _ _ noE s₁) fun t => PySem.P.neg_int (Post.trans E1 S1 (Post.here R1 (.int _ _))))

theorem cmpE_sound (room : Room A n) {l x : Expr} {op : CmpOp} {pos : Pos} {b : Bool} (e : cmpE r sc l op x loc σ = some (b, σ')) (F : Frm C.h₀ env sc loc ρ σ.next s.heap) (R : C.R ρ σ s.heap) :
    wpAny C.M A (eval (.Compare l [op] [x] pos) env) (PE C ρ σ s σ' (.bool b)) noE s ∧
    ∀ whole, wpAny C.M A (isTrue (.Compare l [op] [x] pos) env whole) (PE C ρ σ s σ' b) noE s := by
  refine bF e fun hm e => b2 e fun a σ₁ e1 e => b2 e fun b' σ₂ e2 e => b1 e fun c e3 e => c2 e ?_
  have two : ∀ {Q : Value → Shared → Prop}, (∀ s₂, Post C NoX ρ σ s σ₂ (fun _ _ => Value.bool c = .bool c) s₂ → Q (.bool c) s₂) →
      wpAny C.M A (eval l env) (fun ua s₁ => wpAny C.M A (eval x env) (fun ub s₂ => wpAny C.M A (compareOp op ua ub) Q noE s₂) noE s₁) noE s := fun hQ =>
    postK (S.ev e1 room F R) fun ρ₁ ua s₁ E1 R1 S1 V1 => postK (S.ev e2 room (F.ext E1) R1) fun ρ₂ ub s₂ E2 R2 S2 V2 => postK (cmp_sound room R2 (E2.val noSeq_noX V1) V2 e3) fun ρ₃ u s₃ E3 R3 S3 qZ => by
      rw [qZ]; exact hQ _ ⟨ρ₃, (E1.trans E2).trans E3, R3, (S1.trans S2).trans S3, rfl⟩
  exact ⟨wpAny_Compare1 (two fun s₂ q => q) hm, fun whole => wpAny_isTrue_Compare1 (two fun s₂ q => wpAny_truthy_bool (q.mono fun _ _ _ => rfl)) hm⟩

theorem BinOp_sound (room : Room A n) {a b : Expr} {op : Operator} {pos : Pos} {av bv v : V} {σ₁ : St} (e1 : r.ev sc a loc σ = some (av, σ₁)) (e2 : r.ev sc b loc σ₁ = some (bv, σ')) (e3 : binV σ' op av bv = some v) (F : Frm C.h₀ env sc loc ρ σ.next s.heap) (R : C.R ρ σ s.heap) :
    wpAny C.M A (eval (.BinOp a op b pos) env) (PV C ρ σ s σ' v) noE s := by
  refine wpAny_BinOp (postK (S.ev e1 room F R) fun ρ₁ ua s₁ E1 R1 S1 V1 => ?_)
  refine postK (S.ev e2 room (F.ext E1) R1) fun ρ₂ ub s₂ E2 R2 S2 V2 => ?_
  exact wpAny_mono (bin_sound R2 (E2.val noSeq_noX V1) V2 e3) (fun u s₃ q => q.trans (E1.trans E2) (S1.trans S2)) fun _ _ q => q

theorem Attribute_sound (O : GOk C) (room : Room A n) {o : Expr} {a : Str} {pos : Pos} {ov v : V} (hc : notCall o = true) (e1 : r.ev sc o loc σ = some (ov, σ')) (e2 : attrV C.G σ' ov a = some v) (F : Frm C.h₀ env sc loc ρ σ.next s.heap) (R : C.R ρ σ s.heap) :
    wpAny C.M A (eval (.Attribute o a pos) env) (PV C ρ σ s σ' v) noE s := by
  refine Attribute_any_ (postK (S.ev e1 room F R) fun ρ₁ u s₁ E1 R1 S1 V1 => ?_) (by rw [arm_eval_Attribute, attributeBase_plain hc])
  exact wpAny_mono (attr_sound O R1 V1 e2) (fun u s₃ q => q.trans E1 S1) fun _ _ q => q

theorem Subscript_sound (room : Room A n) {o i : Expr} {pos : Pos} {ov iv v : V} {σ₁ : St} (hs : isSlice i = false) (e1 : r.ev sc o loc σ = some (ov, σ₁)) (e2 : r.ev sc i loc σ₁ = some (iv, σ')) (e3 : itemV σ' ov iv = some v) (F : Frm C.h₀ env sc loc ρ σ.next s.heap) (R : C.R ρ σ s.heap) :
    wpAny C.M A (eval (.Subscript o i pos) env) (PV C ρ σ s σ' v) noE s := by
  refine PyProof.Rows.Subscript_ (postK (S.ev e1 room F R) fun ρ₁ uo s₁ E1 R1 S1 V1 => ?_)
  refine postK (S.ev e2 room (F.ext E1) R1) fun ρ₂ ui s₂ E2 R2 S2 V2 => ?_
  refine ea_2_3 (item_sound room R2 (E2.val noSeq_noX V1) V2 e3) (fun T id hT hl hg => ?_)
  exact tail_any hT hl (wpAny_mono hg (fun u s₃ q => q.trans (E1.trans E2) (S1.trans S2)) fun _ _ q => q) (subscripted_plain hs)

theorem Slice_sound (room : Room A n) {o : Expr} {k : Nat} {p p' pos : Pos} {x : Str} (e1 : r.ev sc o loc σ = some (.str x, σ')) (hx : Nat.blt x.length 1000 = true) (F : Frm C.h₀ env sc loc ρ σ.next s.heap) (R : C.R ρ σ s.heap) :
    wpAny C.M A (eval (.Subscript o (.Slice none (some (.Constant (.int 1) k p)) none p') pos) env) (PV C ρ σ s σ' (.str (Txt.slice x none (some 1)))) noE s := by
  have hx := Nat.le_of_ble_eq_true hx
  refine PyProof.Rows.Subscript_ (postK (S.ev e1 room F R) fun ρ₁ uo s₁ E1 R1 S1 V1 => ?_)
  cases V1 with | str _ tx => ?_
  rw [arm_eval_Slice]
  refine wpAny_bind (wpAny_pure (wpAny_bind (wpAny_holding ?_)))
  show wpAny _ _ (eval (.Constant (.int 1) k p) env) _ _ _
  refine wpAny_Constant_int ?_
  refine wpAny_bind (wpAny_holding (wpAny_pure ?_))
  refine wpAny_newObj_type ?_
  have it := SBH.sliceItem_ns (prog := C.prog) (w := C.w) (A := A) (E := noE) (P := fun h' => KeepsAll s₁.heap h') (s := { s₁ with toks := s₁.toks + 1 }) (x := x) (t := tx) (j := 1) (uj := s₁.toks)
    (Q := fun u => Post C NoX ρ σ s σ' fun ρ' h => Val h ρ' σ'.next u (.str (Txt.slice x none (some 1))))
    (fun h ob q b o e => Heap.get?_push_of_some _ (q b o e)) (fun b o e => e) (fun h' t' k kp => Post.trans E1 S1 (Post.keeps R1 kp (.str _ _))) (by rw [sizeLine_eq]; omega)
  refine ea_2_3 (it) (fun T id hl hT hg => ?_)
  exact tail_any (ops := [_, _]) hT hl hg rfl

omit S in
theorem evPairs_len : ∀ (ks : List (Option Expr)) (vs : List Expr) (loc : Loc) (σ σ' : St) {l : List (V × V)}, evPairs r sc ks vs loc σ = some (l, σ') → ks.all (·.isSome) = true ∧ ks.length = vs.length ∧ l.length = vs.length := by
  intro ks
  induction ks with
  | nil =>
    intro vs loc σ σ' l e
    refine bT e fun h e => c2 e ?_
    rw [List.isEmpty_iff.mp h]
    exact ⟨rfl, rfl, rfl⟩
  | cons k ks ih =>
    intro vs loc σ σ' l e
    refine b1 e fun k' q e => b2 e fun v vs' qv e => b2 e fun kv σ₁ _ e => b2 e fun vv σ₂ _ e => b2 e fun l' σ₃ e3 e => c2 e ?_
    have y := ih _ _ _ _ e3
    rw [unc_eq qv, q]
    exact ⟨y.1, congrArg (· + 1) y.2.1, congrArg (· + 1) y.2.2⟩

theorem evPairs_sound (room : Room A n) (pos : Pos) : ∀ (ks : List (Option Expr)) (vs : List Expr) {σ σ' : St} {l : List (V × V)} {ρ : Pl} {s : Shared}, evPairs r sc ks vs loc σ = some (l, σ') → Frm C.h₀ env sc loc ρ σ.next s.heap → C.R ρ σ s.heap →
    wpAny C.M A (evalPairs (pairTrees ks vs env pos)) (fun us => Post C NoX ρ σ s σ' fun ρ' h => Vals h ρ' σ'.next (us.map (·.1)) (l.map (·.1)) ∧ Vals h ρ' σ'.next (us.map (·.2)) (l.map (·.2))) noE s := by
  intro ks
  induction ks with
  | nil =>
    intro vs σ σ' l ρ s e F R
    exact bT e fun h e => c2 e (evalPairs_nil (Post.here' R ⟨.nil, .nil⟩))
  | cons k ks ih =>
    intro vs σ σ' l ρ s e F R
    refine b1 e fun k' q e => b2 e fun v vs' qv e => b2 e fun kv σ₁ e1 e => b2 e fun vv σ₂ e2 e => b2 e fun l' σ₃ e3 e => c2 e ?_
    rw [unc_eq qv, q, pairTrees]
    refine evalPairs_cons (postK (S.ev e1 room F R) fun ρ₁ uk s₁ E1 R1 S1 V1 => wpAny_bind (postK (S.ev e2 room (F.ext E1) R1) fun ρ₂ uv s₂ E2 R2 S2 V2 => wpAny_bind (wpAny_standAt (wpAny_pure ?_))))
    refine postK (ih vs' e3 (F.ext (E1.trans E2)) R2) fun ρ₃ us s₃ E3 R3 S3 qZ => ?_
    exact ⟨ρ₃, (E1.trans E2).trans E3, R3, (S1.trans S2).trans S3, .cons ((E2.trans E3).val noSeq_noX V1) qZ.1, .cons (E3.val noSeq_noX V2) qZ.2⟩
end
end
section
open PySem PySem.Calls PyProof.Rows PySem.W PySem.SeqAt
set_option maxRecDepth 100000

noncomputable def But (I J : Addr) (h h' : Heap) : Prop := ∀ b o, b ≠ I → b ≠ J → h.get? b = some o → h'.get? b = some o
noncomputable def ownTypes : List String := ["enumerate", "zip", "dict_itemiterator", "dict_reverseitemiterator", "odict_iterator", "itertools.zip_longest", "itertools.pairwise"]

section
variable {prog : Program} {w : World} {A : Around} {E : Value → Shared → Prop} {s : Shared}
theorem letGo_other {target : Expr} {I : Addr} {u : Value} {o : Obj} {T : String} {Q : Unit → Shared → Prop} (ho : s.heap.get? I = some o) (hc : o.cls = .type T) (hT : ownTypes.contains T = false) (h : Q () s) :
    wpAny (model prog w) A (letOwnedTupleGo target (.ref I) u) Q E s := by
  have main : wpAny (model prog w) A (do
      let (.ref r, .ref a) := (Value.ref I, u) | return
      let o ← load r
      match o.cls, o.data with
      | .type n, .fields vs =>
        if ownTypes.contains n && vs[0]? == some (rawInt a) then
          rule "for.unpacks-the-owned-tuple"
          updateField r 0 .none
      | _, _ => pure ()) Q E s := by
    cases u with
    | ref a =>
      refine wpAny_bind (wpAny_load ho ?_)
      rw [hc]
      cases hd : o.data with
      | fields vs =>
        dsimp only
        rw [hT, Bool.false_and]
        exact wpAny_pure h
      | _ => exact wpAny_pure h
    | _ => exact wpAny_pure h
  unfold letOwnedTupleGo
  cases target <;> first | exact wpAny_pure h | exact main

theorem nextOf_tuple_item {it l : Addr} {i : Nat} {items : Array Value} {x : Value} {Q : Value → Shared → Prop} (hit : s.heap.IsTupleIter it l i)
    (hl : s.heap.IsTuple l items) (hx : items[i]? = some x)
    (hQ : ∀ h', h'.IsTupleIter it l (i + 1) → Heap.SameBut it s.heap h' → Q x { s with heap := h' }) :
    wpAny (model prog w) A (Builtin.SmallTypes.nextOf (.ref it)) Q E s := by
  refine ea_1_3 (id hit) (fun o ho hc hd => ?_)
  obtain ⟨ol, hol, z0, nl, hdl⟩ := hl
  unfold Builtin.SmallTypes.nextOf
  refine wpAny_bind (wpAny_callSpecial?_slot (name := Str.ofString "__next__") hit.typeIs PySem.F.slot_tuple_iterator_next
    (wpAny_call_entry PySem.F.slot_tuple_iterator_next hit.typeIs PySem.F.entry_tuple_iterator_next ?_ (PySem.F.args_tuple_iterator_next_1 _)))
  show wpAny _ _ (field (.ref it) 0 >>= _) _ _ s
  refine wpAny_bind (wpAny_field ho hd (x := .ref l) rfl ?_)
  show wpAny _ _ (if (Value.ref l == Value.none) = true then _ else _) _ _ s
  rw [if_neg (show ¬ ((Value.ref l == Value.none) = true) from Bool.false_ne_true)]
  show wpAny _ _ (field (.ref it) 1 >>= _) _ _ s
  refine wpAny_bind (wpAny_field ho hd (x := .int i 0) rfl ?_)
  show wpAny _ _ (seqItems? (.ref l) >>= _) _ _ s
  refine wpAny_bind (wpAny_seqItems hol hdl ?_)
  simp only [Int.toNat_natCast, hx]
  refine wpAny_bind (wpAny_setField ho hd (by simp) (wpAny_pure ⟨x, rfl, wpAny_pure (hQ _ ?_ (Heap.SameBut.update ..))⟩))
  exact ⟨_, Heap.get?_update_self _ ho (Obj.isFreed_of_fields (Obj.data_mapFields hd _)), (Obj.cls_mapFields ..).trans hc, by
    rw [Obj.data_mapFields hd]; simp [rawInt]⟩

theorem nextOf_tuple_end {it l : Addr} {i : Nat} {items : Array Value} {Q : Value → Shared → Prop} (hh : A.handled = none)
    (hit : s.heap.IsTupleIter it l i) (hl : s.heap.IsTuple l items) (hx : items[i]? = none)
    (hE : ∀ h' e, Heap.ExtBut it s.heap h' → (∃ o, h'.get? e = some o ∧ o.cls = .type "StopIteration") → E (.ref e) { s with heap := h' }) :
    wpAny (model prog w) A (Builtin.SmallTypes.nextOf (.ref it)) Q E s := by
  refine ea_1_3 (id hit) (fun o ho hc hd => ?_)
  obtain ⟨ol, hol, z0, nl, hdl⟩ := hl
  unfold Builtin.SmallTypes.nextOf
  refine wpAny_bind (wpAny_callSpecial?_slot (name := Str.ofString "__next__") hit.typeIs PySem.F.slot_tuple_iterator_next
    (wpAny_call_entry PySem.F.slot_tuple_iterator_next hit.typeIs PySem.F.entry_tuple_iterator_next ?_ (PySem.F.args_tuple_iterator_next_1 _)))
  show wpAny _ _ (field (.ref it) 0 >>= _) _ _ s
  refine wpAny_bind (wpAny_field ho hd (x := .ref l) rfl ?_)
  show wpAny _ _ (if (Value.ref l == Value.none) = true then _ else _) _ _ s
  rw [if_neg (show ¬ ((Value.ref l == Value.none) = true) from Bool.false_ne_true)]
  show wpAny _ _ (field (.ref it) 1 >>= _) _ _ s
  refine wpAny_bind (wpAny_field ho hd (x := .int i 0) rfl ?_)
  show wpAny _ _ (seqItems? (.ref l) >>= _) _ _ s
  refine wpAny_bind (wpAny_seqItems hol hdl ?_)
  simp only [Int.toNat_natCast, hx]
  refine wpAny_bind (wpAny_rule (wpAny_bind (wpAny_setField ho hd (by simp) ?_)))
  show wpAny _ _ (newExc (.type "StopIteration") [] >>= _) _ _ _
  refine wpAny_bind ?_
  simp only [newExc, newTuple]
  refine wpAny_bind (wpAny_newObj_type ?_ (by size_fits))
  refine wpAny_bind (m := firstArgMember _ _) (wpAny_of_eq (a := Value.none) (by first | rfl | (simp only [firstArgMember]; rfl)) ?_)
  refine wpAny_newObj_type ?_ (by size_fits)
  simp only [raiseNew]
  refine wpAny_bind (wpAny_handled ?_)
  first | rw [show A.in1.handled = none from hh] | rw [hh]
  refine wpAny_bind (wpAny_pure (wpAny_throw ?_))
  exact hE _ _ (((Heap.SameBut.update ..).extBut.push _).push _) ⟨_, Heap.get?_push_size _ rfl, rfl⟩
theorem enum_end_tuple {e it l : Addr} {i : Nat} {items : Array Value} {old : Value} {Q : Option Value → Shared → Prop} (hh : A.handled = none)
    (he : IsEnum s.heap e it i old) (hit : s.heap.IsTupleIter it l i) (hl : s.heap.IsTuple l items) (hx : items[i]? = none)
    (hQ : ∀ h', Heap.ExtBut it s.heap h' → Q none { s with heap := h' }) : wpAny (model prog w) A (pyNext (.ref e)) Q E s := by
  have hT : s.TypeIs (.ref e) "enumerate" := ⟨_, he, rfl⟩
  unfold pyNext
  refine wpAny_bind (wpAny_attempt (wpAny_callSpecial?_slot (name := Str.ofString "__next__") hT PySem.F.slot_enumerate_next
    (wpAny_call_entry PySem.F.slot_enumerate_next hT PySem.F.entry_enumerate_next ?_ (PySem.F.args_enumerate_next_1 _))))
  show wpAny _ _ (field (.ref e) 2 >>= _) _ _ _
  refine wpAny_bind (wpAny_field he rfl (x := .ref it) rfl (wpAny_bind (nextOf_tuple_end hh hit hl hx fun h' x he' hx' => ?_)))
  exact wpAny_bind (wpAny_isInstance (T := "StopIteration") (b := true) hx' isSubtype_stop (wpAny_pure (hQ _ he')))
end
theorem drawsTuple {prog : Program} {w : World} {A : Around} (hh : A.handled = none) (it l : Addr) (hne : l ≠ it) (items : Array Value) :
    Draws prog w A it [it, l] items.size (fun i v => items[i]? = some v) (fun i h => h.IsTupleIter it l i ∧ h.IsTuple l items) where
  live := fun _ _ st => let ⟨o, ho, _⟩ := st.1; ⟨o, ho⟩
  frame := fun _ _ _ st hk => ⟨let ⟨o, ho, q⟩ := st.1; ⟨o, hk it (by simp) o ho, q⟩, let ⟨o, ho, q⟩ := st.2; ⟨o, hk l (by simp) o ho, q⟩⟩
  item := fun i s Q E hi st hQ => by
    refine nextOf_tuple_item st.1 st.2 (x := items[i]) (by simp [hi]) fun h' hit' hs' => ?_
    exact hQ _ h' s.toks (by simp [hi]) ⟨hit', st.2.extBut hs'.extBut hne⟩ hs'
  done := fun s Q E st hE => nextOf_tuple_end hh st.1 st.2 (by simp) hE

noncomputable def SeqIt (h : Heap) (ρ : Pl) (n : Nat) (v : V) (J : Addr) (i : Nat) : Prop := ∃ a, Val h ρ n (.ref a) v ∧ (((asTup v).isSome = true ∧ h.IsTupleIter J a i) ∨ ((asTup v).isSome = false ∧ h.IsListIter J a i))
noncomputable def ItAt (h : Heap) (ρ : Pl) (n : Nat) (I J : Addr) : It → Prop
  | .seq v i => J = I ∧ SeqIt h ρ n v I i
  | .dict c i m => J = I ∧ c < n ∧ 0 < m ∧ h.IsKeyIter I (ρ c).1 i m m
  | .enum v i => I ≠ J ∧ (∃ old, IsEnum h I J i old) ∧ SeqIt h ρ n v J i
  | .range i m => J = I ∧ i ≤ m ∧ IsRangeIter h I i (m - i) 1

noncomputable def Dull (h : Heap) (I : Addr) : Prop := ∃ o, h.get? I = some o ∧ ¬ seqCls o
section
variable {h h' : Heap} {ρ ρ' : Pl} {n n' : Nat} {I J : Addr}
theorem fields_dull {o : Obj} {l : Array Value} (ho : h.get? I = some o) (hd : o.data = .fields l) : Dull h I := ⟨o, ho, fun q => q.elim fun _ q => q.elim fun _ q => nomatch hd.symm.trans q⟩
theorem SeqIt.live {v : V} {i : Nat} (x : SeqIt h ρ n v J i) : Dull h J := x.elim fun a x => x.2.elim (fun y => y.2.elim fun o y => fields_dull y.1 y.2.2) fun y => y.2.elim fun o y => fields_dull y.1 y.2.2
theorem ItAt.live {it : It} (x : ItAt h ρ n I J it) : Dull h I ∧ Dull h J := by
  cases it with
  | seq v i => rw [x.1]; exact ⟨x.2.live, x.2.live⟩
  | dict c i m =>
    have y : Dull h I := x.2.2.2.elim fun o y => fields_dull y.1 y.2.2
    rw [x.1]; exact ⟨y, y⟩
  | enum v i => exact ⟨x.2.1.elim fun old y => fields_dull y rfl, x.2.2.live⟩
  | range i m =>
    have y : Dull h I := fields_dull x.2.2 rfl
    rw [x.1]; exact ⟨y, y⟩
theorem SeqIt.mono {v : V} {i : Nat} (x : SeqIt h ρ n v J i) (hF : Froz h ρ n h' ρ' n') (hρ : ∀ i, i < n → ρ' i = ρ i) (hn : n ≤ n') (k : ∀ o, h.get? J = some o → h'.get? J = some o) : SeqIt h' ρ' n' v J i :=
  x.imp fun a x => ⟨x.1.mono hF hρ hn, x.2.imp (fun y => ⟨y.1, y.2.imp fun o y => ⟨k o y.1, y.2⟩⟩) fun y => ⟨y.1, y.2.imp fun o y => ⟨k o y.1, y.2⟩⟩⟩
theorem ItAt.mono {it : It} (x : ItAt h ρ n I J it) (hF : Froz h ρ n h' ρ' n') (hρ : ∀ i, i < n → ρ' i = ρ i) (hn : n ≤ n') (kI : ∀ o, h.get? I = some o → h'.get? I = some o) (kJ : ∀ o, h.get? J = some o → h'.get? J = some o) : ItAt h' ρ' n' I J it := by
  cases it with
  | seq v i => exact ⟨x.1, x.2.mono hF hρ hn kI⟩
  | dict c i m => exact ⟨x.1, Nat.lt_of_lt_of_le x.2.1 hn, x.2.2.1, x.2.2.2.imp fun o y => ⟨kI o y.1, by rw [hρ c x.2.1]; exact y.2⟩⟩
  | enum v i => exact ⟨x.1, x.2.1.imp fun old y => kI _ y, x.2.2.mono hF hρ hn kJ⟩
  | range i m => exact ⟨x.1, x.2.1, kI _ x.2.2⟩
theorem dull_ne {a : Addr} {o : Obj} (x : Dull h I) (e : h.get? a = some o) (hc : seqCls o) : a ≠ I := fun q => x.elim fun oi y => y.2 (Option.some.inj (e.symm.trans ((congrArg h.get? q).trans y.1)) ▸ hc)
theorem but_froz (k : But I J h h') (hI : Dull h I) (hJ : Dull h J) : Froz h ρ n h' ρ n := fun a o e hn hc => ⟨k a o (dull_ne hI e hc) (dull_ne hJ e hc) e, hn⟩
end

noncomputable def tupFor : It → Expr → Bool
  | .enum _ _, t => isTupE t
  | _, _ => true

section
variable {C : Cx} {A : Around} {σ : St} {ρ : Pl} {s : Shared}
theorem seq_at {v : V} {l : List V} (R : C.R ρ σ s.heap) {a : Addr} (x : Val s.heap ρ σ.next (.ref a) v) (e : seqOf σ v = some l) :
    ((asTup v).isSome = true ∧ ∃ items k, s.heap.get? a = some { cls := .type "tuple", data := .seq items k } ∧ Vals s.heap ρ σ.next items.toList l) ∨
    ((asTup v).isSome = false ∧ ∃ items k, s.heap.get? a = some { cls := .type "list", data := .seq items k } ∧ Vals s.heap ρ σ.next items.toList l) := by
  cases v with
  | tup l' => exact .inl ⟨rfl, Option.some.inj e ▸ x.r_tup⟩
  | lst l' => exact .inr ⟨rfl, Option.some.inj e ▸ x.r_lst⟩
  | cell i => exact .inr ⟨rfl, x.r_cell ▸ (R.cells _ _ (listAt_get e)).2.2⟩
  | _ => exact nnO e
theorem seq_it {v : V} {l : List V} {J : Addr} {i : Nat} {P : Prop} (R : C.R ρ σ s.heap) (x : SeqIt s.heap ρ σ.next v J i) (e : seqOf σ v = some l)
    (k1 : ∀ a items k, (∀ h' i, h'.IsTupleIter J a i → Val h' ρ σ.next (.ref a) v → SeqIt h' ρ σ.next v J i) → Val s.heap ρ σ.next (.ref a) v → s.heap.IsTupleIter J a i → s.heap.get? a = some { cls := .type "tuple", data := .seq items k } → Vals s.heap ρ σ.next items.toList l → P)
    (k2 : ∀ a items k, (∀ h' i, h'.IsListIter J a i → Val h' ρ σ.next (.ref a) v → SeqIt h' ρ σ.next v J i) → Val s.heap ρ σ.next (.ref a) v → s.heap.IsListIter J a i → s.heap.get? a = some { cls := .type "list", data := .seq items k } → Vals s.heap ρ σ.next items.toList l → P) : P :=
  x.elim fun a x => (seq_at R x.1 e).elim
    (fun y => x.2.elim (fun z => y.2.elim fun items q => q.elim fun k q => k1 a items k (fun h' i w v => ⟨a, v, .inl ⟨y.1, w⟩⟩) x.1 z.2 q.1 q.2) fun z => nnT (y.1.symm.trans z.1))
    fun y => x.2.elim (fun z => nnT (z.1.symm.trans y.1)) fun z => y.2.elim fun items q => q.elim fun k q => k2 a items k (fun h' i w v => ⟨a, v, .inr ⟨y.1, w⟩⟩) x.1 z.2 q.1 q.2

theorem PStr.key {h : Heap} {n : Nat} {kvs : List (Str × Value)} {l : List (V × V)} (x : PStr h ρ n kvs l) : ∀ {i : Nat} {en : V × V}, l[i]? = some en → ∃ y z, kvs[i]? = some (y, z) ∧ en.1 = .str y := by
  induction x with
  | nil => exact fun e => nnO e
  | @cons y z kvs v l a r ih =>
    intro i en e
    cases i with
    | zero => exact ⟨y, z, rfl, congrArg Prod.fst (Option.some.inj e).symm⟩
    | succ i => exact ih e
theorem vals_at {h : Heap} {n : Nat} {items : Array Value} {l : List V} (x : Vals h ρ n items.toList l) {i : Nat} {y : V} (e : l[i]? = some y) : ∃ u, items[i]? = some u ∧ Val h ρ n u y := (x.get e).imp fun u z => ⟨(Array.getElem?_toList ..).symm.trans z.1, z.2⟩
theorem vals_end {h : Heap} {n : Nat} {items : Array Value} {l : List V} (x : Vals h ρ n items.toList l) {i : Nat} (e : l[i]? = none) : items[i]? = none := (Array.getElem?_toList ..).symm.trans (x.get_none e)
theorem opt_end {α β : Type} {o : Option α} {f : α → β} (e : obr o (fun x => some (some (f x))) (some none) = some (none : Option β)) : o = none := by
  cases o with
  | none => rfl
  | some x => exact nnP (Option.some.inj e)
theorem opt_item {α β γ : Type} {o : Option α} {f : α → β} {g : α → γ} {b : β} {c : γ} {P : Prop} (e : obr o (fun x => some (some (f x, g x))) (some none) = some (some (b, c))) (k : ∀ a, o = some a → f a = b → g a = c → P) : P := by
  cases o with
  | none => exact nnO (Option.some.inj e)
  | some x =>
    have e := Option.some.inj (Option.some.inj e)
    exact k x rfl (congrArg Prod.fst e) (congrArg Prod.snd e)
theorem not_two {α : Type} {a b c : α} (h1 : a ≠ b) (h2 : a ≠ c) : a ∉ [b, c] := List.not_mem_cons_of_ne_of_not_mem h1 (List.not_mem_cons_of_ne_of_not_mem h2 List.not_mem_nil)
theorem isTup_of {t : Expr} (h : isTupE t = true) : ∃ ts k p, t = .Tuple ts k p := by
  cases t <;> first | exact ⟨_, _, _, rfl⟩ | exact nnF h

theorem next_end (R : C.R ρ σ s.heap) (hh : A.handled = none) {I J : Addr} {it : It} (x : ItAt s.heap ρ σ.next I J it) (e : nextIt σ it = some none) {Q : Option Value → Shared → Prop} (K : ∀ h', But I J s.heap h' → Q none { s with heap := h' }) :
    wpAny C.M A (pyNext (.ref I)) Q noE s := by
  have fin : ∀ h' : Heap, Heap.ExtBut I s.heap h' → Q none { s with heap := h' } := fun h' q => K h' fun b o hb _ e => q b o hb e
  have finJ : ∀ h' : Heap, Heap.ExtBut J s.heap h' → Q none { s with heap := h' } := fun h' q => K h' fun b o _ hb e => q b o hb e
  cases it with
  | seq v i =>
    exact b1 e fun l hs e => seq_it R x.2 hs (fun a items k _ _ hit ho vs => wpAny_pyNext_tuple_end hh hit ⟨_, ho, rfl, _, rfl⟩ (vals_end vs (opt_end e)) fin)
      fun a items k _ _ hit ho vs => wpAny_pyNext_list_end hh hit ⟨_, ho, rfl, _, rfl⟩ (vals_end vs (opt_end e)) fin
  | dict c i m =>
    refine b1 e fun l q e => bT e fun hb e => bA hb fun b1 b2 => ?_
    refine ea_1_2 (dict_str (R.cells _ _ (dictAt_get q)).2 b2) (fun kvs hd pk => ?_)
    have hm' : m = kvs.length := (pk.length.trans (Nat.eq_of_beq_eq_true b1)).symm
    have hit := x.2.2.2
    rw [hm'] at hit
    exact wpAny_pyNext_dict_end hh hit hd (List.getElem?_eq_none (pk.length ▸ List.getElem?_eq_none_iff.mp (opt_end e))) fin
  | enum v i =>
    exact b1 e fun l hs e => x.2.1.elim fun old he => seq_it R x.2.2 hs (fun a items k _ _ hit ho vs => enum_end_tuple hh he hit ⟨_, ho, rfl, _, rfl⟩ (vals_end vs (opt_end e)) finJ)
      fun a items k _ _ hit ho vs => wpAny_pyNext_enum_end hh he hit ⟨_, ho, rfl, _, rfl⟩ (vals_end vs (opt_end e)) finJ
  | range i m =>
    refine bC e (fun _ e => nnP (Option.some.inj e)) fun hlt _ => wpAny_pyNext_range_end hh x.2.2 ?_ fin
    exact Int.sub_nonpos_of_le (Int.not_lt.mp (of_decide_eq_false hlt))

noncomputable abbrev LetGo (C : Cx) (A : Around) (target : Expr) (ρ : Pl) (σ : St) (I J : Addr) (x : V) (it' : It) (s : Shared) (u : Value) (s₁ : Shared) : Prop :=
  ∀ {Q : Unit → Shared → Prop}, (∀ h' tk, But I J s.heap h' → ItAt h' ρ σ.next I J it' → Val h' ρ σ.next u x → Q () { s with heap := h', toks := tk }) → wpAny C.M A (letOwnedTupleGo target (.ref I) u) Q noE s₁

theorem enum_back (R : C.R ρ σ s.heap) {I J : Addr} {w y : V} {i : Nat} {ts : List Expr} {kk : Nat} {tp : Pos} (live : Dull s.heap I ∧ Dull s.heap J) (hne : I ≠ J) (szI : s.heap.objs.size ≠ I) {u : Value} {h' : Heap} {tk : Nat} (vu : Val s.heap ρ σ.next u y) (hout : IsEnumOut h' I J ((i : Int) + 1) u s.heap.objs.size)
    (htup : h'.get? s.heap.objs.size = some { cls := .type "tuple", data := .seq #[.int i tk, u] }) (hkeep : But I J s.heap h') (hsit : SeqIt h' ρ σ.next w J (i + 1)) :
    LetGo C A (.Tuple ts kk tp) ρ σ I J (.tup [.int i, y]) (.enum w (i + 1)) s (.ref s.heap.objs.size) { s with heap := h', toks := tk + 1 } := by
  intro Q K
  refine wpAny_letOwnedTupleGo_enum hout fun h'' hen hs'' => ?_
  have hb : But I J s.heap h'' := fun b o h1 h2 e => (hs''.2 b h1).trans (hkeep b o h1 h2 e)
  have hbs : But I I h' h'' := fun b o h1 _ e => (hs''.2 b h1).trans e
  have lv : Dull h' I := fields_dull hout rfl
  refine K h'' (tk + 1) hb ⟨hne, ⟨u, hen⟩, hsit.mono (but_froz hbs lv lv) (fun _ _ => rfl) (Nat.le_refl _) fun o e => (hs''.2 J hne.symm).trans e⟩ ?_
  exact .tup (k := 0) ((hs''.2 _ szI).trans htup) R.notOwn_size (.cons (.int _ _) (.cons (vu.mono (but_froz hb live.1 live.2) (fun _ _ => rfl) (Nat.le_refl _)) .nil))

theorem next_item (R : C.R ρ σ s.heap) (hh : A.handled = none) {I J : Addr} {it it' : It} {v : V} {target : Expr} (ht : tupFor it target = true) (x : ItAt s.heap ρ σ.next I J it) (e : nextIt σ it = some (some (v, it'))) {Q : Option Value → Shared → Prop}
    (K : tupFor it' target = true → ∀ u s₁, LetGo C A target ρ σ I J v it' s u s₁ → Q (some u) s₁) : wpAny C.M A (pyNext (.ref I)) Q noE s := by
  have live := x.live
  -- the plain ones: nothing is let go
  have fin : ∀ {u : Value} {h' : Heap} {tk : Nat} {T : String}, Heap.SameBut I s.heap h' → (∃ o, h'.get? I = some o ∧ o.cls = .type T) → ownTypes.contains T = false → tupFor it' target = true → ItAt h' ρ σ.next I J it' → Val s.heap ρ σ.next u v → Q (some u) { s with heap := h', toks := tk } := fun hs ho hT ht hi hv =>
    have hb : But I J s.heap _ := fun b o hb _ e => (hs.2 b hb).trans e
    K ht _ _ fun k => ho.elim fun o z => letGo_other z.1 z.2 hT (k _ _ hb hi (hv.mono (but_froz hb live.1 live.2) (fun _ _ => rfl) (Nat.le_refl _)))
  have up : ∀ {h' : Heap} {u : Value} {v : V}, Heap.SameBut I s.heap h' → Val s.heap ρ σ.next u v → Val h' ρ σ.next u v := fun hs hv => hv.mono (but_froz (fun b o hb _ e => (hs.2 b hb).trans e) live.1 live.2) (fun _ _ => rfl) (Nat.le_refl _)
  cases it with
  | seq w i =>
    refine b1 e fun l hs e => opt_item e fun y hl ev ei => ?_
    refine seq_it R x.2 hs (fun a items k mk va hit ho vs => ?_) fun a items k mk va hit ho vs => ?_
    · exact (vals_at vs hl).elim fun u z => wpAny_pyNext_tuple_item hit ⟨_, ho, rfl, _, rfl⟩ z.1 fun h' hit' hs' => fin hs' (hit'.imp fun o z => ⟨z.1, z.2.1⟩) (by decide) (ei ▸ rfl) (ei ▸ ⟨x.1, mk _ _ hit' (up hs' va)⟩) (ev ▸ z.2)
    · exact (vals_at vs hl).elim fun u z => wpAny_pyNext_list_item hit ⟨_, ho, rfl, _, rfl⟩ z.1 fun h' hit' hs' => fin hs' (hit'.imp fun o z => ⟨z.1, z.2.1⟩) (by decide) (ei ▸ rfl) (ei ▸ ⟨x.1, mk _ _ hit' (up hs' va)⟩) (ev ▸ z.2)
  | dict c i m =>
    refine b1 e fun l q e => bT e fun hb e => bA hb fun b1 b2 => opt_item e fun en hl ev ei => ?_
    refine ea_1_2 (dict_str (R.cells _ _ (dictAt_get q)).2 b2) (fun kvs hd pk => ?_)
    have hm : kvs.length = m := pk.length.trans (Nat.eq_of_beq_eq_true b1)
    refine ea_2_2 (pk.key hl) (fun y z hx hy => ?_)
    have hit := x.2.2.2
    rw [← hm] at hit
    refine wpAny_pyNext_dict_item hit hd hx fun key h' hkey hit' hs' => (Value.isStrOf_shape hkey).elim fun t q => q ▸ fin hs' (hit'.imp fun o z => ⟨z.1, z.2.1⟩) (by decide) (ei ▸ rfl) (ei ▸ ⟨x.1, x.2.1, x.2.2.1, hm ▸ hit'⟩) (ev ▸ hy ▸ .str y t)
  | enum w i =>
    refine b1 e fun l hs e => opt_item e fun y hl ev ei => (isTup_of ht).elim fun ts z => z.elim fun kk z => z.elim fun tp et => x.2.1.elim fun old he => ?_
    have szI : s.heap.objs.size ≠ I := Nat.ne_of_gt (Heap.lt_size he)
    have last : ∀ {u : Value} {h' : Heap} {tk : Nat}, Val s.heap ρ σ.next u y → IsEnumOut h' I J ((i : Int) + 1) u s.heap.objs.size → h'.get? s.heap.objs.size = some { cls := .type "tuple", data := .seq #[.int i tk, u] } → But I J s.heap h' → SeqIt h' ρ σ.next w J (i + 1) → Q (some (.ref s.heap.objs.size)) { s with heap := h', toks := tk + 1 } := fun vu hout htp hkeep hsit =>
      K (ei ▸ ht) _ _ (by rw [← ev, ← ei, et]; exact enum_back R live x.1 szI vu hout htp hkeep hsit)
    refine seq_it R x.2.2 hs (fun a items k mk va hit ho vs => ?_) fun a items k mk va hit ho vs => ?_
    · refine ea_1_2 (vals_at vs hl) (fun u hu vu => ?_)
      have haI := dull_ne live.1 ho ⟨_, _, rfl⟩
      refine wpAny_pyNext_enum_itemD (drawsTuple (A := A.in1) hh J a (dull_ne live.2 ho ⟨_, _, rfl⟩) items) he ⟨hit, ⟨_, ho, rfl, _, rfl⟩⟩ (Array.getElem?_eq_some_iff.mp hu).1 x.1 (not_two x.1 haI.symm) fun z h' tk hP hout hst htp hsz hkeep => ?_
      rw [Option.some.inj (hP.symm.trans hu)] at hout htp
      exact last vu hout htp hkeep (mk _ _ hst.1 (va.mono (but_froz hkeep live.1 live.2) (fun _ _ => rfl) (Nat.le_refl _)))
    · refine ea_1_2 (vals_at vs hl) (fun u hu vu => ?_)
      have haI := dull_ne live.1 ho ⟨_, _, rfl⟩
      refine wpAny_pyNext_enum_itemD (Draws.list (A := A.in1) hh J a (dull_ne live.2 ho ⟨_, _, rfl⟩) items) he ⟨hit, ⟨_, ho, rfl, _, rfl⟩⟩ (Array.getElem?_eq_some_iff.mp hu).1 x.1 (not_two x.1 haI.symm) fun z h' tk hP hout hst htp hsz hkeep => ?_
      rw [Option.some.inj (hP.symm.trans hu)] at hout htp
      exact last vu hout htp hkeep (mk _ _ hst.1 (va.mono (but_froz hkeep live.1 live.2) (fun _ _ => rfl) (Nat.le_refl _)))
  | range i m =>
    refine bC e (fun hlt e => ?_) fun _ e => nnO (Option.some.inj e)
    have e := Option.some.inj (Option.some.inj e)
    have ev : V.int i = v := congrArg Prod.fst e
    have ei : It.range (i + 1) m = it' := congrArg Prod.snd e
    have hlt := of_decide_eq_true hlt
    exact wpAny_pyNext_range_item x.2.2 (Int.sub_pos_of_lt hlt) fun h' hit' hs' => fin hs' ⟨_, hit', rfl⟩ (by decide) (ei ▸ rfl) (ei ▸ ⟨x.1, hlt, Int.sub_sub m i 1 ▸ hit'⟩) (ev ▸ .int _ _)
end
end
section
open PySem PySem.Calls PyProof.Rows PySem.W PySem.SeqAt
open AutoSeq1 (wpAny_loadPart')
set_option maxRecDepth 100000

theorem enum_new_tuple (l : Addr) (items : Array Value) (n : Nat) :
    Meets (Builtin.«enumerate.__new__» ⟨[.type "enumerate", .ref l], []⟩) (fun _ R s => s.heap.get? l = some { cls := .type "tuple", data := .seq items n } ∧
      R (.ok (.ret (.ref (s.heap.push { cls := .type "tuple_iterator", data := .fields #[.ref l, .int 0 0] }).objs.size)))
        { s with heap := (s.heap.push { cls := .type "tuple_iterator", data := .fields #[.ref l, .int 0 0] }).push { cls := .type "enumerate", data := .fields #[.none, .bool false, .ref s.heap.objs.size, rawInt 0, .none, .none] } }) :=
  .of_wp fun prog w A R s h => by
    obtain ⟨hp, g, d, tk, os⟩ := s; obtain ⟨hl, h⟩ := h
    have hsub := sub_enumerate
    have hL : Heap.IsTuple (Shared.heap ⟨hp, g, d, tk, os⟩) l items := ⟨_, hl, rfl, n, rfl⟩
    wp_walk using wpAny_loadPart' hl
    refine wpAny_stack_any fun st => wpAny_pure ?_
    split
    · rename_i c _ _ _ _ _
      cases (c == Value.type "enumerate")
      · wp_walk using wpAny_loadPart' hl, wpAny_pyIter_tuple hL
        exact ⟨_, rfl, h⟩
      · wp_walk using wpAny_loadPart' hl, wpAny_pyIter_tuple hL
        exact ⟨_, rfl, h⟩
    · wp_walk using wpAny_loadPart' hl, wpAny_pyIter_tuple hL
      exact ⟨_, rfl, h⟩

section
variable {prog : Program} {w : World} {A : Around} {E : Value → Shared → Prop} {s : Shared}
theorem call_enum_tuple {l : Addr} {items : Array Value} {n : Nat} {Q : Value → Shared → Prop} (hl : s.heap.get? l = some { cls := .type "tuple", data := .seq items n })
    (h : ∀ h', IsEnum h' (s.heap.objs.size + 1) s.heap.objs.size 0 .none → h'.IsTupleIter s.heap.objs.size l 0 → KeepsAll s.heap h' → Q (.ref (s.heap.objs.size + 1)) { s with heap := h' }) :
    wpAny (model prog w) A (call (.type "enumerate") [.ref l]) Q E s := by
  refine callType_new PySem.F.called_enumerate (by decide) (PySem.F.typeCall_enumerate_1 _) (PySem.F.newCall_enumerate_1 _) (fun obj => PySem.F.args_object_init_2 obj _) PySem.F.entry_enumerate_new
    (enum_new_tuple l items n) ⟨hl, ?_⟩
  have hz : (s.heap.push { cls := .type "tuple_iterator", data := .fields #[.ref l, .int 0 0] }).objs.size = s.heap.objs.size + 1 := Heap.size_push ..
  show _ ∧ _
  rw [hz]
  have he : IsEnum ((s.heap.push { cls := .type "tuple_iterator", data := .fields #[.ref l, .int 0 0] }).push
      { cls := .type "enumerate", data := .fields #[.none, .bool false, .ref s.heap.objs.size, rawInt 0, .none, .none] }) (s.heap.objs.size + 1) s.heap.objs.size 0 .none := by
    have := Heap.get?_push_size (s.heap.push { cls := .type "tuple_iterator", data := .fields #[.ref l, .int 0 0] })
      (o := { cls := .type "enumerate", data := .fields #[.none, .bool false, .ref s.heap.objs.size, rawInt 0, .none, .none] }) rfl
    rw [hz] at this; exact this
  exact ⟨⟨_, he, rfl⟩, h _ he ⟨_, Heap.get?_push_of_some _ (Heap.get?_push_size _ rfl), rfl, rfl⟩ fun b o x => Heap.get?_push_of_some _ (Heap.get?_push_of_some _ x)⟩
end

inductive Begun (C : Cx) (tgt : Expr) (ρ : Pl) (σ : St) (s : Shared) (σ' : St) (it : It) (u : Value) (s' : Shared) : Prop
  | mk (I J : Addr) (ρ' : Pl) (q : u = .ref I) (E : Ext NoX ρ σ.next s.heap ρ' σ'.next s'.heap) (R : C.R ρ' σ' s'.heap) (S : Same s s') (t : ItAt s'.heap ρ' σ'.next I J it) (hI : s.heap.get? I = none) (hJ : s.heap.get? J = none) (nI : ¬ Own ρ' σ'.next I) (nJ : ¬ Own ρ' σ'.next J) (ht : tupFor it tgt = true)

section
variable {C : Cx} {tgt : Expr} {ρ ρ₁ : Pl} {σ σ₁ : St} {s s₁ : Shared}
theorem none_back {X : Addr → Prop} (E : Ext X ρ σ.next s.heap ρ₁ σ₁.next s₁.heap) {a : Addr} (h : s₁.heap.get? a = none) : s.heap.get? a = none := by
  cases e : s.heap.get? a with
  | none => rfl
  | some o => obtain ⟨o', e'⟩ := E.alive a o e; rw [h] at e'; exact nnO e'

theorem begun_one {it : It} (E : Ext NoX ρ σ.next s.heap ρ₁ σ₁.next s₁.heap) (R : C.R ρ₁ σ₁ s₁.heap) (S : Same s s₁) {o : Obj} (hI : ItAt (s₁.heap.push o) ρ₁ σ₁.next s₁.heap.objs.size s₁.heap.objs.size it) (ht : tupFor it tgt = true) :
    Begun C tgt ρ σ s σ₁ it (.ref s₁.heap.objs.size) { s₁ with heap := s₁.heap.push o } :=
  have n0 : s₁.heap.get? s₁.heap.objs.size = none := Heap.get?_none_of_le (Nat.le_refl _)
  ⟨_, _, ρ₁, rfl, E.trans (Ext.push _), R.push _, S.trans ⟨rfl, rfl, rfl⟩, hI, none_back E n0, none_back E n0, R.notOwn_size, R.notOwn_size, ht⟩

theorem iter_sound {A : Around} {it : It} {u : Value} {v : V} (E : Ext NoX ρ σ.next s.heap ρ₁ σ₁.next s₁.heap) (R : C.R ρ₁ σ₁ s₁.heap) (S : Same s s₁) (V : Val s₁.heap ρ₁ σ₁.next u v) (e : iterV σ₁ v = some it) :
    wpAny C.M A (pyIter u) (Begun C tgt ρ σ s σ₁ it) noE s₁ := by
  have up : ∀ o : Obj, Val (s₁.heap.push o) ρ₁ σ₁.next u v := fun o => V.keep fun b x e => Heap.get?_push_of_some _ e
  cases v with
  | tup l => exact c1 e (V.e_tup (P := fun u => (∀ o : Obj, Val (s₁.heap.push o) ρ₁ σ₁.next u (.tup l)) → wpAny C.M A (pyIter u) _ noE s₁) (fun a items c ho hn vs up => wpAny_pyIter_tuple ⟨_, ho, rfl, _, rfl⟩ (begun_one E R S ⟨rfl, _, up _, .inl ⟨rfl, _, Heap.get?_push_size _ rfl, rfl, rfl⟩⟩ rfl)) up)
  | lst l => exact c1 e (V.e_lst (P := fun u => (∀ o : Obj, Val (s₁.heap.push o) ρ₁ σ₁.next u (.lst l)) → wpAny C.M A (pyIter u) _ noE s₁) (fun a items c ho hn vs up => wpAny_pyIter_list ⟨_, ho, rfl, _, rfl⟩ (begun_one E R S ⟨rfl, _, up _, .inr ⟨rfl, _, Heap.get?_push_size _ rfl, rfl, rfl⟩⟩ rfl)) up)
  | cell c =>
    refine V.e_cell (P := fun u => (∀ o : Obj, Val (s₁.heap.push o) ρ₁ σ₁.next u (.cell c)) → wpAny C.M A (pyIter u) _ noE s₁) (fun hi up => bO e (fun l q e => c1 e ?_) fun _ e => b1 e fun l q e => bT e fun hb e => c1 e (bA hb fun b1 b2 => ?_)) up
    · exact (R.cells _ _ (listAt_get q)).2.2.elim fun items y => y.elim fun k y => wpAny_pyIter_list ⟨_, y.1, rfl, _, rfl⟩ (begun_one E R S ⟨rfl, _, up _, .inr ⟨rfl, _, Heap.get?_push_size _ rfl, rfl, rfl⟩⟩ rfl)
    · refine ea_1_2 (dict_str (R.cells _ _ (dictAt_get q)).2 b2) (fun kvs hd pk => ?_)
      exact wpAny_pyIter_dict (R.notSys hi) hd (begun_one E R S ⟨rfl, hi, Nat.le_of_ble_eq_true b1, pk.length ▸ ⟨_, Heap.get?_push_size _ rfl, rfl, rfl⟩⟩ rfl)
  | _ => exact nnO e
end

section
variable {C : Cx} {r : Rec} {n : Nat} (S : Sound C r n) {sc : Scope} {loc : Loc} {A : Around} {env : Env} {σ σ' : St} {ρ : Pl} {s : Shared}
include S

omit S in
theorem nameOf_eq {e : Expr} {x : Str} (h : nameOf e = some x) : ∃ p, e = .Name x p := by
  cases e <;> first | exact nnO h | exact ⟨_, congrArg (fun x => Expr.Name x _) (Option.some.inj h)⟩
omit S in
theorem callE_eq {e g : Expr} {as : List Expr} {p : List Keyword × Pos} (h : callE e = some (g, as, p)) : e = .Call g as p.1 p.2 := by
  cases e <;> first | exact nnO h | exact congrArg (fun q : Expr × List Expr × List Keyword × Pos => Expr.Call q.1 q.2.1 q.2.2.1 q.2.2.2) (Option.some.inj h)
omit S in
theorem loopT_eq {u : Value} {b : Bool} (h : loopT u = some b) : u = .type (cond b "enumerate" "range") := by
  cases u with
  | type s =>
    unfold loopT at h
    dsimp only at h
    by_cases h1 : s = "enumerate"
    · rw [if_pos h1] at h; rw [h1, ← Option.some.inj h]; rfl
    rw [if_neg h1] at h
    by_cases h2 : s = "range"
    · rw [if_pos h2] at h; rw [h2, ← Option.some.inj h]; rfl
    rw [if_neg h2] at h
    exact nnO h
  | _ => exact nnO h
omit S in
theorem enumOf_eq {P : Prop} {e : Expr} {p : Bool × Expr} (h : enumOf C.G sc loc e = some p) (k : ∀ f pf pos v, e = .Call (.Name f pf) [p.2] [] pos → dbg f = false → nameV C.G sc loc f = some v → v = .glob (.type (cond p.1 "enumerate" "range")) → P) : P :=
  b3 h fun g as q hc h => bT h fun hk h => b1 h fun f hf h => b1 h fun x hx h => bF h fun hd h => b1 h fun v hv h => b1 h fun u hu h => b1 h fun b hb h => (nameOf_eq hf).elim fun pf eg => by
    refine k f pf q.2 v ?_ hd hv ?_
    · rw [callE_eq hc, eg, oneOf_eq hx, List.isEmpty_iff.mp hk, ← Option.some.inj h]
    · rw [asGlob_eq hu, loopT_eq hb, ← Option.some.inj h]
theorem startE_sound (O : GOk C) (room : Room A n) {tgt x : Expr} {f : Str} {pf pos : Pos} {it : It} {v0 : V} (hd : dbg f = false) (e1 : nameV C.G sc loc f = some v0) (ev : v0 = .glob (.type "enumerate")) (h : startE r sc tgt x loc σ = some (it, σ')) (F : Frm C.h₀ env sc loc ρ σ.next s.heap) (R : C.R ρ σ s.heap) :
    wpAny C.M A (eval (.Call (.Name f pf) [x] [] pos) env) (fun x s₁ => wpAny C.M A (pyIter x) (Begun C tgt ρ σ s σ' it) noE s₁) noE s := by
  refine b2 h fun vs σ₁ e2 h => b1 h fun v ho h => bT h fun ht h => b1 h fun l hs h => c2 h (wpAny_Call_Name_kw (wpAny_mono (Name_sound O hd e1 F R) (fun u s' y => ?_) fun _ _ q => q))
  rw [y.1]
  refine Val.e_glob (P := fun u => wpAny _ _ (callWith _ u _ _ _) _ _ _) (ev ▸ y.2) fun _ => callWith_sound S O room (.inl fun a q => by cases q) e2 F R fun us s₁ ρ₁ E1 R1 S1 V1 => vals_one (P := fun us => wpAny _ _ (call _ us) _ _ _) V1 ho fun u V => ?_
  have n0 : s₁.heap.get? s₁.heap.objs.size = none := Heap.get?_none_of_le (Nat.le_refl _)
  have n1 : s₁.heap.get? (s₁.heap.objs.size + 1) = none := Heap.get?_none_of_le (Nat.le_succ _)
  have done : ∀ {h' : Heap}, IsEnum h' (s₁.heap.objs.size + 1) s₁.heap.objs.size 0 .none → SeqIt h' ρ₁ σ₁.next v s₁.heap.objs.size 0 → KeepsAll s₁.heap h' →
      wpAny C.M A (pyIter (.ref (s₁.heap.objs.size + 1))) (Begun C tgt ρ σ s σ₁ (.enum v 0)) noE { s₁ with heap := h' } := fun he hs kp =>
    wpAny_pyIter_enum he ⟨_, _, ρ₁, rfl, E1.trans (Ext.of_grow kp), R1.grow kp, S1.trans ⟨rfl, rfl, rfl⟩, ⟨Nat.succ_ne_self _, ⟨_, he⟩, hs⟩, none_back E1 n1, none_back E1 n0, R1.notOwn_new n1, R1.notOwn_new n0, ht⟩
  obtain ⟨a, hu⟩ : ∃ a, u = .ref a := by
    cases v with
    | tup l => exact V.e_tup fun a _ _ _ _ _ => ⟨a, rfl⟩
    | lst l => exact V.e_lst fun a _ _ _ _ _ => ⟨a, rfl⟩
    | cell l => exact V.e_cell fun _ => ⟨_, rfl⟩
    | _ => exact nnO hs
  rw [hu] at V ⊢
  rcases seq_at R1 V hs with ⟨ht, y⟩ | ⟨ht, y⟩
  · exact y.elim fun items y => y.elim fun k y => call_enum_tuple y.1 fun h' he hi kp => done he ⟨a, V.keep kp, .inl ⟨ht, hi⟩⟩ kp
  · exact y.elim fun items y => y.elim fun k y => call_enumerate_list ⟨_, y.1, rfl, _, rfl⟩ fun h' he hi hz kp => done he ⟨a, V.keep kp, .inr ⟨ht, hi⟩⟩ kp
theorem startR_sound (O : GOk C) (room : Room A n) {tgt x : Expr} {f : Str} {pf pos : Pos} {it : It} {v0 : V} (hd : dbg f = false) (e1 : nameV C.G sc loc f = some v0) (ev : v0 = .glob (.type "range")) (h : startR r sc x loc σ = some (it, σ')) (F : Frm C.h₀ env sc loc ρ σ.next s.heap) (R : C.R ρ σ s.heap) :
    wpAny C.M A (eval (.Call (.Name f pf) [x] [] pos) env) (fun x s₁ => wpAny C.M A (pyIter x) (Begun C tgt ρ σ s σ' it) noE s₁) noE s := by
  refine b2 h fun vs σ₁ e2 h => b1 h fun v ho h => b1 h fun m hm h => bT h fun hb h => c2 h (bA hb fun b1 b2 => wpAny_Call_Name_kw (wpAny_mono (Name_sound O hd e1 F R) (fun u s' y => ?_) fun _ _ q => q))
  have b1 := of_decide_eq_true b1
  have b2 := of_decide_eq_true b2
  rw [y.1]
  refine Val.e_glob (P := fun u => wpAny _ _ (callWith _ u _ _ _) _ _ _) (ev ▸ y.2) fun _ => callWith_sound S O room (.inl fun a q => by cases q) e2 F R fun us s₁ ρ₁ E1 R1 S1 V1 => vals_one (P := fun us => wpAny _ _ (call _ us) _ _ _) V1 ho fun u V => V.q_int (P := fun u => wpAny _ _ (call _ [u]) _ _ _) hm fun t => call_range_1 ?_
  have hz : Builtin.Range.rangeSize 0 m 1 = m - 0 := by rw [rangeSize_nat]; omega
  refine wpAny_pyIter_range (a := 0) (b := m) (c := 1) (t := s₁.toks) (u := t) (v := s₁.toks + 1) (Heap.get?_push_size _ rfl) ?_ ?_
  · unfold Builtin.Range.small
    rw [hz]
    simp [Builtin.Range.rangeFitsLong]; omega
  · refine begun_one (s₁ := { s₁ with heap := s₁.heap.push { cls := .type "range", data := .fields #[.int 0 s₁.toks, .int m t, .int 1 (s₁.toks + 1)] }, toks := s₁.toks + 1 + 1 }) (E1.trans (Ext.push _)) (R1.push _) (S1.trans ⟨rfl, rfl, rfl⟩) ⟨rfl, b1, ?_⟩ rfl
    exact hz ▸ Heap.get?_push_size _ rfl

omit S in
theorem plain_folded {e : Expr} {env : Env} (h : isSetE e = false) (x : Value) : foldedSetIterable e env x = pure x := by
  cases e <;> first | rfl | exact nnT h
theorem startIt_sound (O : GOk C) (room : Room A n) {tgt e : Expr} {it : It} (h : startIt C.G r sc tgt e loc σ = some (it, σ')) (F : Frm C.h₀ env sc loc ρ σ.next s.heap) (R : C.R ρ σ s.heap) :
    wpAny C.M A (eval e env) (fun x s₁ => wpAny C.M A (pyIter x) (Begun C tgt ρ σ s σ' it) noE s₁) noE s ∧ ∀ x, foldedSetIterable e env x = pure x := by
  refine bO h (fun p q h => enumOf_eq q fun f pf pos v ee hd e1 ev => ?_) fun _ h => bF h fun hset h => b2 h fun v σ₁ e1 h => b1 h fun it' e2 h => c2 h ⟨?_, plain_folded hset⟩
  · rw [ee]
    refine ⟨bC h (fun hp h => ?_) fun hp h => ?_, fun _ => rfl⟩
    · rw [hp] at ev; exact startE_sound S O room hd e1 ev h F R
    · rw [hp] at ev; exact startR_sound S O room hd e1 ev h F R
  · exact postK (S.ev e1 room F R) fun ρ₁ u s₁ E1 R1 S1 V1 => iter_sound E1 R1 S1 V1 e2
end
end
section
open PySem PySem.Calls PyProof.Rows PySem.W PySem.SeqAt
set_option maxRecDepth 100000

section
variable {X Y : Addr → Prop} {h h' h'' h₀ : Heap} {ρ ρ' ρ'' : Pl} {n n' n'' : Nat} {I J : Addr}
theorem none_of (E : Ext X ρ n h ρ' n' h') {a : Addr} (z : h'.get? a = none) : h.get? a = none := by
  cases e : h.get? a with
  | none => rfl
  | some o => exact (E.alive a o e).elim fun o' e' => (get_ne e' z rfl).elim
theorem Ext.transX (x : Ext X ρ n h ρ' n' h') (y : Ext Y ρ' n' h' ρ'' n'' h'') (hY : ∀ a, Y a → X a ∨ h.get? a = none) : Ext X ρ n h ρ'' n'' h'' :=
  ⟨Nat.le_trans x.le y.le, fun i hi => (y.ext i (Nat.lt_of_lt_of_le hi x.le)).trans (x.ext i hi), fun a o e hn hx => y.pres a o (x.pres a o e hn hx) (x.notOwn e hn) fun q => (hY a q).elim hx fun q => get_ne e q rfl,
    fun a o e => (x.alive a o e).elim fun o' e' => y.alive a o' e', fun a q => (y.fresh a q).elim (x.fresh a) fun q => .inr (none_of x q)⟩
theorem Ext.but (E : Ext X ρ n h ρ' n' h') (hI : h.get? I = none) (hJ : h.get? J = none) (k : But I J h' h'') : Ext X ρ n h ρ' n' h'' :=
  ⟨E.le, E.ext, fun a o e hn hx => k a o (get_ne e hI) (get_ne e hJ) (E.pres a o e hn hx), fun a o e => (E.alive a o e).imp fun o' e' => k a o' (get_ne e hI) (get_ne e hJ) e', E.fresh⟩
theorem ext_one {a : Addr} (hs : Heap.ExtBut a h h') (ha : ∃ o, h'.get? a = some o) : Ext (fun b => b = a) ρ n h ρ n h' :=
  ⟨Nat.le_refl _, fun _ _ => rfl, fun b o e _ hx => hs b o hx e, fun b o e => by
    by_cases q : b = a
    · rw [q]; exact ha
    · exact ⟨o, hs b o q e⟩, fun _ q => .inl q⟩

variable {prog : Program} {w : World} {σ : St}
theorem Rel.but (R : Rel prog w h₀ ρ σ h) (k : But I J h h') (zI : h₀.get? I = none) (zJ : h₀.get? J = none) (nI : ¬ Own ρ σ.next I) (nJ : ¬ Own ρ σ.next J) (lI : Dull h I) (lJ : Dull h J) : Rel prog w h₀ ρ σ h' :=
  R.stay (fun b o e => k b o (get_ne e zI) (get_ne e zJ) (R.keep b o e)) (fun a o x e => k a o (fun q => nI (q ▸ x)) (fun q => nJ (q ▸ x)) e) fun a o e _ hc => k a o (dull_ne lI e hc) (dull_ne lJ e hc) e

variable {env : Env} {sc : Scope} {loc : Loc}
theorem Frm.but (F : Frm h₀ env sc loc ρ n h) (k : But I J h h') (xI : ¬ Xof env I) (xJ : ¬ Xof env J) (lI : Dull h I) (lJ : Dull h J) : Frm h₀ env sc loc ρ n h' :=
  F.to (fun o e => k _ _ (fun q => xI (.inl q.symm)) (fun q => xJ (.inl q.symm)) e) (fun x c o hc e => k _ _ (fun q => xI (.inr ⟨x, q ▸ hc⟩)) (fun q => xJ (.inr ⟨x, q ▸ hc⟩)) e) (fun _ _ _ hn => hn)
    fun q => q.mono (but_froz k lI lJ) (fun _ _ => rfl) (Nat.le_refl _)
end

section
variable {C : Cx} {A : Around} {env : Env} {sc : Scope} {loc : Loc} {ρ : Pl} {σ : St} {s : Shared}
theorem turn_val {a : Addr} {h' : Heap} (nseq : ∀ o, s.heap.get? a = some o → ¬ seqCls o) (hs : Heap.SameBut a s.heap h') {u : Value} {v : V} (q : Val s.heap ρ σ.next u v) : Val h' ρ σ.next u v :=
  q.mono (fun b o e hn hsq => ⟨(hs.2 b fun q => nseq o (q ▸ e) hsq).trans e, hn⟩) (fun _ _ => rfl) (Nat.le_refl _)
theorem ns_cell_ne {h : Heap} {a c : Addr} {m : Str → Option Value} {o : Obj} {ct : Option Value} (hm : h.Ns a m) (ho : h.get? c = some o) (hd : o.data = .cell ct) : c ≠ a := fun q => by
  obtain ⟨o', es, ep, ho', hd', _⟩ := hm
  rw [q] at ho
  have : Data.cell ct = .dict es ep := hd.symm.trans ((congrArg Obj.data (Option.some.inj (ho.symm.trans ho'))).trans hd')
  exact nomatch this
theorem store_local (F : Frm C.h₀ env sc loc ρ σ.next s.heap) (R : C.R ρ σ s.heap) {x : Str} (hx : lookS x sc.names = some .local) {u : Value} {v : V} (V : Val s.heap ρ σ.next u v) :
    wpAny C.M A (storeName env x u) (fun _ => Post C (fun a => a = env.locals) ρ σ s σ fun ρ' h => Frm C.h₀ env sc (setL x v loc) ρ' σ.next h) noE s := by
  refine ea_1_2 (F.ns) (fun m hm hv => ?_)
  have hk : env.scope.kind = .function := (congrArg Scope.kind F.scope).trans F.fn
  have nseq := ns_notSeq hm
  refine wpAny_storeName_local ((kindOf_eq (C := C) (σ := σ) (s := s) (ρ := ρ) F x).trans hx) hm (fun h' hns hs => ?_) (by rw [hk]; rfl)
  refine ⟨ρ, ext_one hs.extBut (ns_obj hns), R.off hs.extBut F.off F.out nseq, ⟨rfl, rfl, rfl⟩, ⟨F.scope, F.fn, F.glob, F.blt, ⟨_, hns, fun y w hy hw => ?_⟩, F.off, F.out, fun y kd hy hy' => ?_, F.cdist, F.clo⟩⟩
  · rw [lookS_setL] at hw
    by_cases q : y = x
    · rw [if_pos q] at hw
      exact ⟨u, if_pos q, Option.some.inj hw ▸ turn_val nseq hs V⟩
    · rw [if_neg q] at hw
      exact (hv y w hy hw).imp fun u' z => ⟨by rw [if_neg q]; exact z.1, turn_val nseq hs z.2⟩
  · refine ea_3_5 (F.cell y kd hy hy') (fun c o ct hc ho hd hn r => ?_)
    refine ⟨c, o, ct, hc, (hs.2 c (ns_cell_ne hm ho hd)).trans ho, hd, hn, r.1, fun w hw => ?_⟩
    have q : y ≠ x := fun q => by
      have : some NameKind.local = some kd := hx.symm.trans (q ▸ hy)
      exact hy'.elim (fun z => nomatch this.trans (congrArg some z)) fun z => nomatch this.trans (congrArg some z)
    rw [lookS_setL, if_neg q] at hw
    exact (r.2 w hw).imp fun u' z => ⟨z.1, turn_val nseq hs z.2⟩

theorem store_cell (F : Frm C.h₀ env sc loc ρ σ.next s.heap) (R : C.R ρ σ s.heap) {x : Str} (hx : lookS x sc.names = some .cell) {u : Value} {v : V} (V : Val s.heap ρ σ.next u v) :
    wpAny C.M A (storeName env x u) (fun _ => Post C (Xof env) ρ σ s σ fun ρ' h => Frm C.h₀ env sc (setL x v loc) ρ' σ.next h) noE s := by
  have hk : env.scope.kind = .function := (congrArg Scope.kind F.scope).trans F.fn
  refine ea_3_5 (F.cell x _ hx (.inl rfl)) (fun c o ct hc ho hd hn r => ?_)
  have nseq : ∀ o', s.heap.get? c = some o' → ¬ seqCls o' := fun o' e => Option.some.inj (ho.symm.trans e) ▸ cell_notSeq hd
  refine wpAny_storeName_cell hk ((kindOf_eq (C := C) (σ := σ) (s := s) (ρ := ρ) F x).trans hx) hc ⟨o, ho, hd⟩ fun h' hcell hs => ?_
  refine ea_1_2 (hcell) (fun o2 ho2 hd2 => ?_)
  refine ⟨ρ, (ext_one hs.extBut ⟨_, ho2⟩).weaken (fun a (q : a = c) => .inr ⟨x, q ▸ hc⟩), R.off hs.extBut hn r.1 nseq, ⟨rfl, rfl, rfl⟩, ⟨F.scope, F.fn, F.glob, F.blt, ?_, F.off, F.out, fun y kd hy hy' => ?_, F.cdist, F.clo⟩⟩
  · refine ea_1_2 (F.ns) (fun m hm hv => ?_)
    refine ⟨m, ns_at hm fun o' e => (hs.2 _ (ns_cell_ne hm ho hd).symm).trans e, fun y w hy hw => ?_⟩
    have q : y ≠ x := fun q => by
      have z := hx.symm.trans ((congrArg (lookS · sc.names) q).symm.trans hy)
      exact nomatch z
    rw [lookS_setL, if_neg q] at hw
    exact (hv y w hy hw).imp fun u' z => ⟨z.1, turn_val nseq hs z.2⟩
  · refine ea_3_5 (F.cell y kd hy hy') (fun c' o' ct' hc' ho' hd' hn' r' => ?_)
    by_cases q : y = x
    · refine ⟨c, o2, some u, q ▸ hc, ho2, hd2, hn, r.1, fun w hw => ?_⟩
      rw [lookS_setL, if_pos q] at hw
      exact ⟨u, rfl, Option.some.inj hw ▸ turn_val nseq hs V⟩
    · refine ⟨c', o', ct', hc', (hs.2 _ fun z => q (F.cdist y x c' hc' (by rw [z]; exact hc))).trans ho', hd', hn', r'.1, fun w hw => ?_⟩
      rw [lookS_setL, if_neg q] at hw
      exact (r'.2 w hw).imp fun u' z => ⟨z.1, turn_val nseq hs z.2⟩
end

section
variable {prog : Program} {w : World} {A : Around} {E : Value → Shared → Prop} {s : Shared}
theorem draw_list {it l : Addr} {items : Array Value} (hne : l ≠ it) : ∀ (n i : Nat) (s : Shared) (Q : List Value → Shared → Prop), s.heap.IsListIter it l i → s.heap.IsList l items → i + n ≤ items.size →
    (∀ h', h'.IsListIter it l (i + n) → Heap.SameBut it s.heap h' → Q ((items.toList.drop i).take n) { s with heap := h' }) → wpAny (model prog w) A (draw (.ref it) n) Q E s
  | 0, i, s, Q, hit, _, _, hQ => by
    show wpAny _ _ (pure []) Q E s
    exact wpAny_pure (by simpa using hQ s.heap hit (Heap.SameBut.refl ..))
  | n + 1, i, s, Q, hit, hl, hle, hQ => by
    have hlt : i < items.size := by omega
    show wpAny _ _ (pyNext (.ref it) >>= _) Q E s
    refine wpAny_bind (wpAny_pyNext_list_item hit hl (x := items[i]) (by simp [hlt]) fun h₁ hit₁ hs₁ => ?_)
    refine wpAny_bind (wpAny_holding (draw_list hne n (i + 1) _ _ hit₁ (hl.extBut hs₁.extBut hne) (by omega) fun h₂ hit₂ hs₂ => wpAny_pure ?_))
    have hd : items.toList.drop i = items[i] :: items.toList.drop (i + 1) := by simp [List.drop_eq_getElem_cons, hlt]
    have := hQ h₂ (by rw [show i + (n + 1) = i + 1 + n by omega]; exact hit₂) (hs₁.trans hs₂)
    rw [hd, List.take_succ_cons] at this
    exact this
theorem unpackItems_lst {t : Addr} {items : Array Value} {Q : List Value → Shared → Prop} (hh : A.handled = none) (ht : s.heap.IsList t items)
    (hQ : ∀ h', Heap.ExtBut s.heap.objs.size s.heap h' → Q items.toList { s with heap := h' }) : wpAny (model prog w) A (unpackItems (.ref t) items.size none) Q E s := by
  have hlt : t ≠ s.heap.objs.size := by obtain ⟨o, ho, z0⟩ := ht; exact Nat.ne_of_lt (Heap.lt_size ho)
  unfold unpackItems
  refine wpAny_bind ?_
  unfold notIterableAtAll
  refine wpAny_bind (wpAny_specialOf ht.typeIs slot_list_iter.lookup ?_)
  refine wpAny_pure ?_
  simp only [Bool.false_eq_true, if_false]
  refine wpAny_bind (wpAny_holding (wpAny_pyIter_list ht ?_))
  refine wpAny_bind (wpAny_holding (draw_list hlt items.size 0 _ _ ⟨_, Heap.get?_push_size _ rfl, rfl, rfl⟩ (ht.push _) (by omega) fun h₁ hit₁ hs₁ => ?_))
  have hall : List.take items.size (List.drop 0 items.toList) = items.toList := by
    rw [List.drop_zero]; exact List.take_of_length_le (by simp)
  rw [hall]
  rw [if_neg (by simp)]
  have ht₁ : h₁.IsList t items := (ht.push _).extBut hs₁.extBut hlt
  refine wpAny_bind (wpAny_holding (wpAny_pyNext_list_end hh hit₁ ht₁ (by simp) fun h₂ he₂ => ?_))
  simp only [Option.isSome_none, Bool.false_eq_true, if_false]
  refine wpAny_pure (hQ h₂ fun b o hb e => he₂ b o hb (hs₁.extBut b o hb (Heap.get?_push_of_some _ e)))
end

section
variable {C : Cx} {A : Around} {ρ : Pl} {σ : St} {s : Shared}
theorem seq_ref {u : Value} {v : V} {l : List V} (V : Val s.heap ρ σ.next u v) (e : seqOf σ v = some l) : ∃ a, u = .ref a := by
  cases v with
  | tup l => exact V.e_tup fun a _ _ _ _ _ => ⟨a, rfl⟩
  | lst l => exact V.e_lst fun a _ _ _ _ _ => ⟨a, rfl⟩
  | cell l => exact V.e_cell fun _ => ⟨_, rfl⟩
  | _ => exact nnO e
theorem unpack_sound (R : C.R ρ σ s.heap) (hh : A.handled = none) {u : Value} {v : V} {l : List V} (V : Val s.heap ρ σ.next u v) (e : seqOf σ v = some l) {n : Nat} (hn : n = l.length) {Q : List Value → Shared → Prop}
    (hQ : ∀ us h', KeepsAll s.heap h' → Vals h' ρ σ.next us l → Q us { s with heap := h' }) : wpAny C.M A (unpackItems u n none) Q noE s := by
  have kp : ∀ {h' : Heap}, Heap.ExtBut s.heap.objs.size s.heap h' → KeepsAll s.heap h' := fun q b o e => q b o (Nat.ne_of_lt (Heap.lt_size e)) e
  refine ea_1_1 (seq_ref V e) (fun a hu => ?_)
  rw [hu] at V ⊢
  refine (seq_at R V e).elim (fun y => y.2.elim fun items y => y.elim fun k y => ?_) fun y => y.2.elim fun items y => y.elim fun k y => ?_
  · rw [hn, ← vals_size y.2]
    exact wpAny_unpackItems_tuple hh ⟨_, y.1, rfl, _, rfl⟩ fun h' q => hQ _ _ (kp q) (y.2.keep (kp q))
  · rw [hn, ← vals_size y.2]
    exact unpackItems_lst hh ⟨_, y.1, rfl, _, rfl⟩ fun h' q => hQ _ _ (kp q) (y.2.keep (kp q))
end

noncomputable def AsgOk (C : Cx) (A : Around) (env : Env) (sc : Scope) (X : Addr → Prop) (g : Expr → V → Loc → St → Option (Loc × St)) : Prop :=
  ∀ {t v loc σ loc' σ'}, g t v loc σ = some (loc', σ') → ∀ {ρ s u}, Frm C.h₀ env sc loc ρ σ.next s.heap → C.R ρ σ s.heap → Val s.heap ρ σ.next u v →
    wpAny C.M A (assign t env u) (PF C X env sc ρ σ s σ' loc') noE s
theorem assignEach_cons {t : Expr} (ts : List Expr) (env : Env) (h : notStar t = true) : assignEach (t :: ts) env = (false, assign t env) :: assignEach ts env := by
  cases t <;> first | rfl | exact nnF h

section
variable {C : Cx} {A : Around} {env : Env} {sc : Scope} {X : Addr → Prop} {g : Expr → V → Loc → St → Option (Loc × St)}
theorem asgSeq_plain : ∀ (ts : List Expr) (vs : List V) (loc loc' : Loc) (σ σ' : St), asgSeq g ts vs loc σ = some (loc', σ') → (assignEach ts env).length = ts.length ∧ (assignEach ts env).findIdx? (·.1) = none ∧ ts.length = vs.length
  | [], vs, _, _, _, _, e => bT (show cond vs.isEmpty _ none = some _ from e) fun h _ => ⟨rfl, rfl, by rw [List.isEmpty_iff.mp h]; rfl⟩
  | t :: ts, vs, loc, loc', σ, σ', e => bT (show cond (notStar t) _ none = some _ from e) fun hs e => b2 e fun v vs' q e => b2 e fun loc₁ σ₁ _ e => by
    have y := asgSeq_plain ts vs' _ _ _ _ e
    rw [assignEach_cons ts env hs, unc_eq q]
    exact ⟨congrArg (· + 1) y.1, by rw [List.findIdx?_cons, y.2.1]; rfl, congrArg (· + 1) y.2.2⟩

theorem each_sound (H : AsgOk C A env sc X g) (hX : ∀ a, X a → Xof env a) : ∀ (ts : List Expr) (vs : List V) {loc loc' : Loc} {σ σ' : St} {ρ : Pl} {s : Shared} {us : List Value}, asgSeq g ts vs loc σ = some (loc', σ') → Frm C.h₀ env sc loc ρ σ.next s.heap → C.R ρ σ s.heap → Vals s.heap ρ σ.next us vs →
    wpAny C.M A (assignInOrder ((assignEach ts env).map (·.2)) us) (PF C X env sc ρ σ s σ' loc') noE s := by
  intro ts
  induction ts with
  | nil =>
    intro vs loc loc' σ σ' ρ s us e F R V
    refine bT e fun h e => c2 e ?_
    rw [List.isEmpty_iff.mp h] at V
    exact V.e_nil (wpAny_pure (Post.here' R F))
  | cons t ts ih =>
    intro vs loc loc' σ σ' ρ s us e F R V
    refine bT e fun hs e => b2 e fun v vs' q e => b2 e fun loc₁ σ₁ e1 e => ?_
    rw [assignEach_cons ts env hs]
    rw [unc_eq q] at V
    refine V.e_cons fun u us V1 V => ?_
    show wpAny _ _ (holding us (assign t env u) >>= fun _ => assignInOrder ((assignEach ts env).map (·.2)) us) _ _ _
    refine wpAny_bind (wpAny_holding (postK (H e1 F R V1) fun ρ₁ _ s₁ E1 R1 S1 F1 => ?_))
    have nX : NoSeq X s.heap := fun a o hx => F.noSeq a o (hX a hx)
    exact wpAny_mono (ih vs' e F1 R1 (E1.vals nX V)) (fun _ s₂ q => q.trans E1 S1) fun _ _ q => q

theorem tuple_sound (H : AsgOk C A env sc X g) (hX : ∀ a, X a → Xof env a) (hh : A.handled = none) {ts : List Expr} {k : Nat} {pos : Pos} {v : V} {l : List V} {loc loc' : Loc} {σ σ' : St} {ρ : Pl} {s : Shared} {u : Value} (hs : seqOf σ v = some l) (e : asgSeq g ts l loc σ = some (loc', σ'))
    (F : Frm C.h₀ env sc loc ρ σ.next s.heap) (R : C.R ρ σ s.heap) (V : Val s.heap ρ σ.next u v) :
    wpAny C.M A (assign (.Tuple ts k pos) env u) (PF C X env sc ρ σ s σ' loc') noE s := by
  obtain ⟨h1, h2, h3⟩ := asgSeq_plain (env := env) ts l _ _ _ _ e
  rw [arm_assign_Tuple]
  refine wpAny_bind (wpAny_standAt ?_)
  unfold unpack
  rw [h2]
  refine wpAny_bind (wpAny_holding (unpack_sound R hh V hs (h1.trans h3) fun us h' kp Vl => ?_))
  exact wpAny_mono (each_sound H hX ts l e (F.ext (Ext.of_grow kp)) (R.grow kp) Vl) (fun _ s₂ q => Post.trans (s := s) (s₁ := { s with heap := h' }) (Ext.of_grow kp) ⟨rfl, rfl, rfl⟩ q) fun _ _ q => q

noncomputable def locG (fs : St → Expr → V → Loc → Option Loc) (t : Expr) (v : V) (loc : Loc) (σ : St) : Option (Loc × St) := bnd (fs σ t v loc) fun loc => some (loc, σ)
omit C A env sc X g in
theorem asgLocs_seq (fs : St → Expr → V → Loc → Option Loc) (σ : St) : ∀ (ts : List Expr) (vs : List V) (loc loc' : Loc), asgLocs (fs σ) ts vs loc = some loc' → asgSeq (locG fs) ts vs loc σ = some (loc', σ)
  | [], vs, loc, loc', e => bT (show cond vs.isEmpty _ none = some _ from e) fun h e => by
    show cond vs.isEmpty _ none = _
    rw [h, Option.some.inj e]; rfl
  | t :: ts, vs, loc, loc', e => bT (show cond (notStar t) _ none = some _ from e) fun hs e => b2 e fun v vs' q e => b1 e fun loc₁ q' e => by
    show cond (notStar t) (bnd2 (unc vs) fun v vs => bnd2 (bnd (fs σ t v loc) fun loc => some (loc, σ)) fun loc σ => asgSeq (locG fs) ts vs loc σ) none = _
    rw [hs, q]
    show (bnd2 (bnd (fs σ t v loc) fun loc => some (loc, σ)) fun loc σ => asgSeq (locG fs) ts vs' loc σ) = _
    rw [q']
    exact asgLocs_seq fs σ ts vs' _ _ e

theorem asgLocN_sound (hh : A.handled = none) : ∀ (n : Nat) {t : Expr} {v : V} {loc loc' : Loc} {σ : St} {ρ : Pl} {s : Shared} {u : Value}, asgLocN sc σ n t v loc = some loc' → Frm C.h₀ env sc loc ρ σ.next s.heap → C.R ρ σ s.heap → Val s.heap ρ σ.next u v →
    wpAny C.M A (assign t env u) (fun _ => Post C (fun a => a = env.locals) ρ σ s σ fun ρ' h => Frm C.h₀ env sc loc' ρ' σ.next h) noE s := by
  have name : ∀ {k : List Expr → Option Loc} {t : Expr} {v : V} {loc loc' : Loc} {σ : St} {ρ : Pl} {s : Shared} {u : Value}, asgL sc v loc k t = some loc' → Frm C.h₀ env sc loc ρ σ.next s.heap → C.R ρ σ s.heap → Val s.heap ρ σ.next u v → (∀ ts c p, t = .Tuple ts c p → k ts = some loc' → wpAny C.M A (assign t env u) (fun _ => Post C (fun a => a = env.locals) ρ σ s σ fun ρ' h => Frm C.h₀ env sc loc' ρ' σ.next h) noE s) →
      wpAny C.M A (assign t env u) (fun _ => Post C (fun a => a = env.locals) ρ σ s σ fun ρ' h => Frm C.h₀ env sc loc' ρ' σ.next h) noE s := fun e F R V K =>
    bO e (fun x hx e => b1 e fun kd q e => bT e fun hl e => by
      obtain ⟨p, rfl⟩ := nameOf_eq hx
      cases kd with
      | «local» => exact c1 e (wpAny_assign_Name (store_local F R q V))
      | _ => exact nnF hl) fun _ e => b1 e fun ts hts e => (isTup_of (Option.isSome_iff_exists.mpr ⟨ts, hts⟩)).elim fun ts' y => y.elim fun c y => y.elim fun p y => K ts' c p y (by rw [y] at hts; exact Option.some.inj hts ▸ e)
  intro n
  induction n with
  | zero => exact fun e F R V => name e F R V fun ts c p _ e => nnO e
  | succ n ih =>
    intro t v loc loc' σ ρ s u e F R V
    refine name e F R V fun ts c p et e => b1 e fun l hl e => bT e fun _ e => ?_
    rw [et]
    refine tuple_sound (g := locG fun σ => asgLocN sc σ n) (X := fun a => a = env.locals) ?_ (fun a q => .inl q) hh hl (asgLocs_seq (fun σ => asgLocN sc σ n) σ ts l loc loc' e) F R V
    exact fun {t v loc σ1 loc1 σ2} e1 {ρ1 s1 u1} F1 R1 V1 => b1 e1 fun loc₂ q1 e1 => c2 e1 (ih q1 F1 R1 V1)
end
end
section
open PySem PySem.Calls PyProof.Rows PySem.W PySem.SeqAt
set_option maxRecDepth 100000

theorem cellO_eq {o : Option NameKind} (h : isCellO o = true) : o = some .cell := by
  cases o with
  | none => exact nnF h
  | some k => cases k <;> first | rfl | exact nnF h
theorem freeO_eq {o : Option NameKind} (h : isFreeO o = true) : o = some .free := by
  cases o with
  | none => exact nnF h
  | some k => cases k <;> first | rfl | exact nnF h
theorem compOkN_mem {sc : Scope} {all : List (Str × NameKind)} : ∀ {l : List (Str × NameKind)}, compOkN sc all l = true → ∀ p ∈ l, lookS p.1 all = some p.2 ∧ (p.2 = .local ∨ p.2 = .globalImplicit ∨ (p.2 = .free ∧ (lookS p.1 sc.names = some .cell ∨ lookS p.1 sc.names = some .free)))
  | [], _ => fun p hp => nomatch hp
  | q :: l, h => bA h fun h1 h => bA h fun h2 h => List.forall_mem_cons.mpr ⟨⟨bO h1 (fun k hk z => hk.trans (congrArg some (of_decide_eq_true z))) (fun _ => nnF), by
      obtain ⟨x, k⟩ := q
      dsimp only at h2 ⊢
      cases k with
      | «local» => exact .inl rfl
      | globalImplicit => exact .inr (.inl rfl)
      | free => exact .inr (.inr ⟨rfl, (Bool.or_eq_true_iff.mp h2).imp cellO_eq freeO_eq⟩)
      | _ => exact nnF h2⟩, compOkN_mem h⟩
theorem compNames_map (sc : Scope) (own : Str → NameKind → Bool) (ho : ∀ n, own n .free = true ↔ lookS n sc.names = some .cell) (ho' : ∀ n k, k ≠ .free → own n k = false) : ∀ l : List (Str × NameKind), l.map (fun p => if own p.1 p.2 then (p.1, .cell) else (p.1, p.2)) = compNames sc l
  | [] => rfl
  | p :: l => by
    obtain ⟨n, k⟩ := p
    rw [List.map_cons, compNames_map sc own ho ho' l]
    show _ = cond (isFreeO (some k) && isCellO (lookS n sc.names)) (n, .cell) (n, k) :: compNames sc l
    dsimp only
    by_cases hk : k = .free
    · rw [hk]
      by_cases q : lookS n sc.names = some .cell
      · rw [if_pos ((ho n).mpr q), q]; rfl
      · rw [if_neg fun z => q ((ho n).mp z), show isCellO (lookS n sc.names) = false from (Bool.eq_false_iff.mpr fun z => q (cellO_eq z))]; rfl
    · rw [ho' n k hk, if_neg Bool.false_ne_true, show isFreeO (some k) = false from (Bool.eq_false_iff.mpr fun z => hk (Option.some.inj (freeO_eq z)))]; rfl
theorem comp_look (sc : Scope) (x : Str) : ∀ l : List (Str × NameKind), lookS x (compNames sc l) = obr (lookS x l) (fun k => some (cond (isFreeO (some k) && isCellO (lookS x sc.names)) .cell k)) none
  | [] => rfl
  | p :: l => by
    show cond (sEq x (cond (isFreeO (some p.2) && isCellO (lookS p.1 sc.names)) (p.1, NameKind.cell) p).1) (some (cond (isFreeO (some p.2) && isCellO (lookS p.1 sc.names)) (p.1, NameKind.cell) p).2) (lookS x (compNames sc l)) = obr (cond (sEq x p.1) (some p.2) (lookS x l)) _ none
    rw [comp_look sc x l, show (cond (isFreeO (some p.2) && isCellO (lookS p.1 sc.names)) (p.1, NameKind.cell) p).1 = p.1 by cases isFreeO (some p.2) && isCellO (lookS p.1 sc.names) <;> rfl]
    cases q : sEq x p.1 with
    | false => rfl
    | true =>
      rw [← sEq_eq q]
      show some _ = some _
      cases isFreeO (some p.2) && isCellO (lookS x sc.names) <;> rfl
theorem look_mem {x : Str} {k : NameKind} : ∀ {l : List (Str × NameKind)}, lookS x l = some k → (x, k) ∈ l
  | p :: l, e => bC (show cond (sEq x p.1) (some p.2) (lookS x l) = some k from e) (fun q e => by rw [sEq_eq q, ← Option.some.inj e]; exact .head _) fun _ e => .tail _ (look_mem e)
theorem free_look {sc : Scope} {x : Str} {v : V} : ∀ {loc : Loc}, lookS x (freeLoc sc loc) = some v → lookS x sc.names = some .free ∧ lookS x loc = some v
  | p :: l, e => by
    have e : lookS x (cond (isFreeO (lookS p.1 sc.names)) (p :: freeLoc sc l) (freeLoc sc l)) = some v := e
    show _ ∧ cond (sEq x p.1) (some p.2) (lookS x l) = some v
    cases hf : isFreeO (lookS p.1 sc.names) with
    | true =>
      rw [hf] at e
      have e : cond (sEq x p.1) (some p.2) (lookS x (freeLoc sc l)) = some v := e
      cases q : sEq x p.1 with
      | true => rw [q] at e; exact ⟨sEq_eq q ▸ freeO_eq hf, e⟩
      | false => rw [q] at e; exact free_look e
    | false =>
      rw [hf] at e
      have y := free_look e
      rw [show sEq x p.1 = false from sEq_false.mpr fun q => by rw [← q, y.1] at hf; exact nnT hf]
      exact y

theorem closure_wp {M : Model} {A : Around} {E : Value → Shared → Prop} {s : Shared} {env : Env} {scope : Scope} {Q : List (Str × Addr) → Shared → Prop} (h : ∀ n, (n, NameKind.free) ∈ scope.names → ∃ c, env.cells.lookup n = some c)
    (hQ : ∀ cs : List (Str × Addr), (∀ x c, cs.lookup x = some c → env.cells.lookup x = some c ∧ (x, NameKind.free) ∈ scope.names) → (∀ x, (x, NameKind.free) ∈ scope.names → ∃ c, cs.lookup x = some c) → Q cs s) : wpAny M A (closureFor scope env) Q E s := by
  unfold closureFor
  refine wpAny_bind (wpAny_forIn_list _ (fun rest (cs : List (Str × Addr)) s' => s' = s ∧ (∀ p ∈ rest, p ∈ scope.names) ∧ (∀ x c, cs.lookup x = some c → env.cells.lookup x = some c ∧ (x, NameKind.free) ∈ scope.names) ∧
      (∀ x, (x, NameKind.free) ∈ scope.names → (x, NameKind.free) ∈ rest ∨ ∃ c, cs.lookup x = some c)) _ ?_ ?_ _ _ ⟨rfl, fun p hp => hp, fun x c e => (by cases e), fun x hx => .inl hx⟩)
  · rintro ⟨n, k⟩ rest cs s' ⟨rfl, h1, h2, h3⟩
    have r1 : ∀ p ∈ rest, p ∈ scope.names := fun p hp => h1 p (.tail _ hp)
    by_cases q : k = .free
    · subst q
      have hm := h1 _ (.head _)
      refine ea_1_1 (h n hm) (fun c hc => ?_)
      simp only [beq_self_eq_true, if_true]
      refine wpAny_bind (wpAny_cellOf hc (wpAny_pure ⟨rfl, r1, fun x d e => ?_, fun x hx => ?_⟩))
      · rw [List.lookup_cons] at e
        by_cases z : x = n
        · subst z
          simp only [beq_self_eq_true] at e
          (first | exact nnO e | (refine c2 e ?_; clear e) | (refine c1 e ?_; clear e) | cases e)
          exact ⟨hc, hm⟩
        · rw [beq_eq_false_iff_ne.mpr z] at e
          exact h2 x d e
      · by_cases z : x = n
        · subst z
          exact .inr ⟨c, by rw [List.lookup_cons]; simp⟩
        · rcases h3 x hx with h3 | ⟨d, h3⟩
          · rcases List.mem_cons.mp h3 with e | h3
            · (first | exact nnO e | (refine c2 e ?_; clear e) | (refine c1 e ?_; clear e) | cases e); exact absurd rfl z
            · exact .inl h3
          · exact .inr ⟨d, by rw [List.lookup_cons, beq_eq_false_iff_ne.mpr z]; exact h3⟩
    · have hb : (k == NameKind.free) = false := by simpa using q
      simp only [hb, Bool.false_eq_true, if_false]
      refine wpAny_pure ⟨rfl, r1, h2, fun x hx => ?_⟩
      rcases h3 x hx with h3 | h3
      · rcases List.mem_cons.mp h3 with e | h3
        · (first | exact nnO e | (refine c2 e ?_; clear e) | (refine c1 e ?_; clear e) | cases e); exact absurd rfl q
        · exact .inl h3
      · exact .inr h3
  · rintro cs s' ⟨rfl, _, h2, h3⟩
    refine wpAny_pure (hQ cs h2 fun x hx => ?_)
    rcases h3 x hx with h3 | h3
    · cases h3
    · exact h3

section
variable {C : Cx} {A : Around} {env : Env} {sc sc' : Scope} {loc : Loc} {ρ : Pl} {σ : St} {s : Shared}
theorem comp_frame (F : Frm C.h₀ env sc loc ρ σ.next s.heap) (R : C.R ρ σ s.heap) (hok : compOk sc sc' = true) {qual : Str} {Q : Env → Shared → Prop} {cs : List (Str × Addr)}
    (h2 : ∀ x c, cs.lookup x = some c → env.cells.lookup x = some c ∧ (x, NameKind.free) ∈ sc'.names) (h3 : ∀ x, (x, NameKind.free) ∈ sc'.names → ∃ c, cs.lookup x = some c)
    (hQ : ∀ h' cenv, cenv.locals = s.heap.objs.size → cenv.cells = cs → KeepsAll s.heap h' → (∃ m, h'.Ns cenv.locals m) → Frm C.h₀ { cenv with scope := compSc sc sc' } (compSc sc sc') (freeLoc sc' loc) ρ σ.next h' → cenv.scope = sc' → Q cenv { s with heap := h' }) :
    wpAny C.M A (newFunctionEnv sc' env.globals cs [] qual none .none (some env)) Q noE s := by
  refine bA hok fun hk hn => ?_
  have hk : sc'.kind = .function := by cases q : sc'.kind <;> first | rfl | (rw [q] at hk; exact nnF hk)
  have hm := compOkN_mem hn
  have nocell : ∀ p ∈ sc'.names, p.2 ≠ .cell := fun p hp q => (hm p hp).2.elim (fun z => nomatch z.symm.trans q) fun z => z.elim (fun z => nomatch z.symm.trans q) fun z => nomatch z.1.symm.trans q
  refine wpAny_newFunctionEnv nocell (fun x hx => nomatch hx) (fun h' hns hs => ?_) hk
  have kp : KeepsAll s.heap h' := fun b o e => (hs.2 b (Nat.ne_of_lt (Heap.lt_size e))).trans (Heap.get?_push_of_some _ e)
  have n0 : s.heap.get? s.heap.objs.size = none := Heap.get?_none_of_le (Nat.le_refl _)
  have lk : ∀ {x k}, lookS x (compNames sc sc'.names) = some k → ∃ k', lookS x sc'.names = some k' ∧ cond (isFreeO (some k') && isCellO (lookS x sc.names)) .cell k' = k := fun {x k} hx => by
    rw [comp_look] at hx
    exact bO hx (fun k' q e => ⟨k', q, Option.some.inj e⟩) fun _ => nnO
  refine hQ h' _ rfl rfl kp ⟨_, hns⟩ ⟨rfl, hk, F.glob, F.blt, ⟨_, hns, fun x v hx hl => ?_⟩, R.notOwn_size, keep_none R.keep n0, fun x k hx hkx => ?_, fun x y c hx hy => F.cdist x y c (h2 x c hx).1 (h2 y c hy).1, fun x c hx => ?_⟩ rfl
  · refine ea_1_2 (lk hx) (fun k' q e => ?_)
    have : k' = .free := Option.some.inj (q.symm.trans (free_look hl).1)
    rw [this] at e
    cases z : isCellO (lookS x sc.names) <;> (rw [z] at e; exact nomatch e)
  · -- what is free in the block
    refine ea_1_2 (lk hx) (fun k' q e => ?_)
    have hf : k' = .free := by
      cases z : isFreeO (some k') with
      | true => exact Option.some.inj (freeO_eq z)
      | false =>
        rw [z] at e
        have e : k' = k := e
        exact hkx.elim (fun w => absurd (e.trans w) (nocell (x, k') (look_mem q))) fun w => e.trans w
    rw [hf] at q
    have hmem := look_mem q
    refine ea_1_1 (h3 x hmem) (fun c hc => ?_)
    obtain ⟨k1, hk1, hk2⟩ : ∃ k1, lookS x sc.names = some k1 ∧ (k1 = .cell ∨ k1 = .free) := (hm _ hmem).2.elim (fun z => nomatch z) fun z => z.elim (fun z => nomatch z) fun z => z.2.elim (fun z => ⟨_, z, .inl rfl⟩) fun z => ⟨_, z, .inr rfl⟩
    refine ea_3_5 (F.cell x k1 hk1 hk2) (fun c' o ct hc' ho hd hn' r => ?_)
    have ec : c = c' := Option.some.inj ((h2 x c hc).1.symm.trans hc')
    exact ⟨c, o, ct, hc, kp _ _ (ec ▸ ho), hd, ec ▸ hn', ec ▸ r.1, fun v hl => (r.2 v (free_look hl).2).imp fun u z => ⟨z.1, z.2.keep kp⟩⟩
  · have hl := (hm _ (h2 x c hx).2).1
    show ∃ k, lookS x (compNames sc sc'.names) = some k ∧ _
    rw [comp_look, hl]
    cases isCellO (lookS x sc.names) with
    | true => exact ⟨_, rfl, .inl rfl⟩
    | false => exact ⟨_, rfl, .inr rfl⟩
end
end
section
open PySem PySem.Calls PyProof.Rows PySem.W PySem.SeqAt
set_option maxRecDepth 100000

theorem iter_self {C : Cx} {A : Around} {s : Shared} {ρ : Pl} {n : Nat} {I J : Addr} {it : It} {E : Value → Shared → Prop} (x : ItAt s.heap ρ n I J it) {Q : Value → Shared → Prop} (h : Q (.ref I) s) : wpAny C.M A (pyIter (.ref I)) Q E s := by
  cases it with
  | seq v i => exact x.2.elim fun a y => y.2.elim (fun z => wpAny_pyIter_tupleiter z.2 h) fun z => wpAny_pyIter_listiter z.2 h
  | dict c i m => exact wpAny_pyIter_keyiter x.2.2.2 h
  | enum v i => exact x.2.1.elim fun old he => wpAny_pyIter_enum he h
  | range i m => exact wpAny_pyIter_rangeiter x.2.2 h

section
variable {C : Cx} {r : Rec} {n : Nat} (S : Sound C r n) {A : Around} {env : Env} {sc : Scope} {loc : Loc}
include S
theorem ifs_sound (room : Room A n) : ∀ (ifs : List Expr) {σ σ' : St} {b : Bool} {ρ : Pl} {s : Shared}, allT r sc .And ifs loc σ = some (b, σ') → Frm C.h₀ env sc loc ρ σ.next s.heap → C.R ρ σ s.heap →
    wpAny C.M A (forIn ifs true fun c q => if q = true then do let ok ← isTrue c env (eval c env); pure (ForInStep.yield ok) else pure (ForInStep.yield q)) (PE C ρ σ s σ' b) noE s := by
  have off : ∀ (ifs : List Expr) {Q : Bool → Shared → Prop} {s : Shared}, Q false s → wpAny C.M A (forIn ifs false fun c q => if q = true then do let ok ← isTrue c env (eval c env); pure (ForInStep.yield ok) else pure (ForInStep.yield q)) Q noE s := by
    intro ifs
    induction ifs with
    | nil => intro Q s h; rw [List.forIn_nil]; exact wpAny_pure h
    | cons x ifs ih =>
      intro Q s h
      rw [List.forIn_cons]
      simp only [Bool.false_eq_true, if_false]
      exact wpAny_bind (wpAny_pure (ih h))
  intro ifs
  induction ifs with
  | nil =>
    intro σ σ' b ρ s e F R
    rw [List.forIn_nil]
    exact c2 e (wpAny_pure (Post.here' R rfl))
  | cons x ifs ih =>
    intro σ σ' b ρ s e F R
    rw [List.forIn_cons]
    simp only [if_true]
    refine b2 e fun b₁ σ₁ e1 e => wpAny_bind (wpAny_bind (postK (S.isT e1 room F R) fun ρ₁ c s₁ E1 R1 S1 qZ => wpAny_pure ?_))
    rw [qZ]
    cases b₁ with
    | false => exact c2 e (off ifs ⟨ρ₁, E1, R1, S1, rfl⟩)
    | true => exact wpAny_mono (ih e (F.ext E1) R1) (fun u s₂ q => q.trans E1 S1) fun _ _ q => q
end

structure TurnAt (C : Cx) (env : Env) (sc : Scope) (I J : Addr) (c : Nat) (D : Addr) (ρ₀ : Pl) (σ₀ : St) (s₀ : Shared) (it : It) (loc : Loc) (ρ : Pl) (σ : St) (s : Shared) : Prop where
  E : Ext NoX ρ₀ σ₀.next s₀.heap ρ σ.next s.heap
  R : C.R ρ σ s.heap
  S : Same s₀ s
  it : ItAt s.heap ρ σ.next I J it
  F : Frm C.h₀ env sc loc ρ σ.next s.heap
  nI : ¬ Own ρ σ.next I
  nJ : ¬ Own ρ σ.next J
  lt : c < σ.next
  acc : ρ c = (D, D)
structure TurnBase (C : Cx) (env : Env) (I J : Addr) (s₀ : Shared) : Prop where
  hI : s₀.heap.get? I = none
  hJ : s₀.heap.get? J = none
  hL : s₀.heap.get? env.locals = none
  keep : ∀ b o, C.h₀.get? b = some o → s₀.heap.get? b = some o
  xI : ¬ Xof env I
  xJ : ¬ Xof env J
theorem TurnBase.zI {C : Cx} {env : Env} {I J : Addr} {s₀ : Shared} (B : TurnBase C env I J s₀) : C.h₀.get? I = none := keep_none B.keep B.hI
theorem TurnBase.zJ {C : Cx} {env : Env} {I J : Addr} {s₀ : Shared} (B : TurnBase C env I J s₀) : C.h₀.get? J = none := keep_none B.keep B.hJ

noncomputable def TurnsEnd (C : Cx) (env : Env) (c : Nat) (D : Addr) (ρ₀ : Pl) (σ₀ : St) (s₀ : Shared) (σ : St) (s : Shared) : Prop :=
  ∃ ρ, Ext NoX ρ₀ σ₀.next s₀.heap ρ σ.next s.heap ∧ C.R ρ σ s.heap ∧ Same s₀ s ∧ c < σ.next ∧ ρ c = (D, D) ∧ (∃ m, s.heap.Ns env.locals m) ∧ ¬ Own ρ σ.next env.locals

noncomputable def EmitOk (C : Cx) (A : Around) (env : Env) (sc : Scope) (c : Nat) (D : Addr) (emit : Loc → St → Option St) (t : Sem Unit) : Prop :=
  ∀ {loc σ σ'}, emit loc σ = some σ' → ∀ {ρ s}, Frm C.h₀ env sc loc ρ σ.next s.heap → C.R ρ σ s.heap → c < σ.next → ρ c = (D, D) → wpAny C.M A t (fun _ => Post C NoX ρ σ s σ' fun _ _ => True) noE s

section
variable {C : Cx} {r : Rec} {n : Nat} (S : Sound C r n) {A : Around} {env : Env} {sc : Scope} {I J D : Addr} {c : Nat} {ρ₀ : Pl} {σ₀ : St} {s₀ : Shared}

theorem TurnAt.post {it : It} {loc loc' : Loc} {ρ : Pl} {σ σ' : St} {s s' : Shared} {X : Addr → Prop} (B : TurnBase C env I J s₀) (T : TurnAt C env sc I J c D ρ₀ σ₀ s₀ it loc ρ σ s) (hX : ∀ a, X a → a = env.locals) {ρ' : Pl} (E : Ext X ρ σ.next s.heap ρ' σ'.next s'.heap) (R : C.R ρ' σ' s'.heap) (S : Same s s') (F : Frm C.h₀ env sc loc' ρ' σ'.next s'.heap) :
    TurnAt C env sc I J c D ρ₀ σ₀ s₀ it loc' ρ' σ' s' :=
  have nX : NoSeq X s.heap := fun a o hx => T.F.noSeq a o (.inl (hX a hx))
  have lv := T.it.live
  ⟨T.E.transX E fun a q => .inr (by rw [hX a q]; exact B.hL), R, T.S.trans S, T.it.mono (E.froz nX) E.ext E.le (fun o e => E.pres _ _ e T.nI fun q => B.xI (.inl (hX _ q))) (fun o e => E.pres _ _ e T.nJ fun q => B.xJ (.inl (hX _ q))), F,
    lv.1.elim fun o e => E.notOwn e.1 T.nI, lv.2.elim fun o e => E.notOwn e.1 T.nJ, Nat.lt_of_lt_of_le T.lt E.le, (E.ext _ T.lt).trans T.acc⟩
theorem TurnAt.but {it it' : It} {loc : Loc} {ρ : Pl} {σ : St} {s : Shared} (B : TurnBase C env I J s₀) (T : TurnAt C env sc I J c D ρ₀ σ₀ s₀ it loc ρ σ s) {h' : Heap} {tk : Nat} (hb : But I J s.heap h') (hit : ItAt h' ρ σ.next I J it') :
    TurnAt C env sc I J c D ρ₀ σ₀ s₀ it' loc ρ σ { s with heap := h', toks := tk } :=
  have lv := T.it.live
  ⟨T.E.but B.hI B.hJ hb, T.R.but hb B.zI B.zJ T.nI T.nJ lv.1 lv.2, T.S.trans ⟨rfl, rfl, rfl⟩, hit, T.F.but hb B.xI B.xJ lv.1 lv.2, T.nI, T.nJ, T.lt, T.acc⟩
theorem TurnAt.fin {it : It} {loc : Loc} {ρ : Pl} {σ : St} {s : Shared} (B : TurnBase C env I J s₀) (T : TurnAt C env sc I J c D ρ₀ σ₀ s₀ it loc ρ σ s) {h' : Heap} (hb : But I J s.heap h') : TurnsEnd C env c D ρ₀ σ₀ s₀ σ { s with heap := h' } :=
  have lv := T.it.live
  ⟨ρ, T.E.but B.hI B.hJ hb, T.R.but hb B.zI B.zJ T.nI T.nJ lv.1 lv.2, T.S.trans ⟨rfl, rfl, rfl⟩, T.lt, T.acc, T.F.ns.imp fun m y => ns_at y.1 fun o e => hb _ _ (fun q => B.xI (.inl q.symm)) (fun q => B.xJ (.inl q.symm)) e, T.F.off⟩
noncomputable def TurnTo (C : Cx) (r : Rec) (env : Env) (sc : Scope) (I J : Addr) (c : Nat) (D : Addr) (ρ₀ : Pl) (σ₀ : St) (s₀ : Shared) (tgt : Expr) (ifs : List Expr) (emit : Loc → St → Option St) (k : Nat) (σf : St) (code : Code) : PySem.Fin → Shared → Prop
  | .done f, s' => f = .next ∧ TurnsEnd C env c D ρ₀ σ₀ s₀ σf s'
  | .again c', s' => c' = code ∧ ∃ it' loc' ρ' σ', tupFor it' tgt = true ∧ compE r sc tgt ifs emit k it' loc' σ' = some σf ∧ TurnAt C env sc I J c D ρ₀ σ₀ s₀ it' loc' ρ' σ' s'

include S
theorem turn_sound (room : Room A n) (B : TurnBase C env I J s₀) {tgt : Expr} {ifs : List Expr} {emit : Loc → St → Option St} {t : Sem Unit} {code : Code} (H : EmitOk C A env sc c D emit t) {k : Nat} {it : It} {loc : Loc} {ρ : Pl} {σ σf : St} {s : Shared}
    (ht : tupFor it tgt = true) (e : compE r sc tgt ifs emit (k + 1) it loc σ = some σf) (T : TurnAt C env sc I J c D ρ₀ σ₀ s₀ it loc ρ σ s) :
    wpAny C.M A (pyNext (.ref I) >>= fun q => match q with
      | none => pure (Fin.done .next)
      | some v => letOwnedTupleGo tgt (.ref I) v >>= fun _ => assign tgt env v >>= fun _ =>
        (forIn ifs true fun c q => if q = true then do let ok ← isTrue c env (eval c env); pure (ForInStep.yield ok) else pure (ForInStep.yield q)) >>= fun ok => if ok = true then t >>= fun _ => pure (Fin.again code) else pure (Fin.again code))
      (TurnTo C r env sc I J c D ρ₀ σ₀ s₀ tgt ifs emit k σf code) noE s := by
  refine b1 e fun q en e => bO e (fun p qp e => ?_) fun qn e => ?_
  · rw [qp] at en
    refine b1 e fun loc' ea e => b2 e fun b σ₂ ei e => wpAny_bind (next_item T.R room.handled ht T.it en fun ht' u s₁ go => wpAny_bind (go fun h' tk hb hit hv => ?_))
    have T1 := T.but B (tk := tk) hb hit
    refine wpAny_bind (postK (asgLocN_sound room.handled 3 ea T1.F T1.R hv) fun ρ₃ _ s₃ E3 R3 S3 F3 => ?_)
    have T2 := T1.post B (fun a q => q) E3 R3 S3 F3
    refine wpAny_bind (postK (ifs_sound S room ifs ei F3 R3) fun ρ₄ ok s₄ E4 R4 S4 qZ => ?_)
    have T3 := T2.post B (X := NoX) (fun a q => q.elim) E4 R4 S4 (F3.ext E4)
    rw [qZ]
    cases b with
    | false => exact wpAny_pure ⟨rfl, p.2, loc', ρ₄, σ₂, ht', e, T3⟩
    | true => exact b1 e fun σ₃ em e => wpAny_bind (postK (H em T3.F T3.R T3.lt T3.acc) fun ρ₅ _ s₅ E5 R5 S5 _ => wpAny_pure ⟨rfl, p.2, loc', ρ₅, σ₃, ht', e, T3.post B (X := NoX) (fun a q => q.elim) E5 R5 S5 (T3.F.ext E5)⟩)
  · rw [qn] at en
    exact c1 e (wpAny_bind (next_end T.R room.handled T.it en fun h' hb => wpAny_pure ⟨rfl, T.fin B hb⟩))

theorem emitL_ok (room : Room A n) {elt : Expr} : EmitOk C A env sc c D (emitL r sc c elt) (do let _ ← call (.builtin "list.append") [.ref D, ← eval elt env]) := by
  intro loc σ σ' e ρ s F R hlt hacc
  refine b2 e fun v σ₁ e1 e => b1 e fun l q e => bT e fun hl e => c1 e (wpAny_bind (postK (S.ev e1 room F R) fun ρ₁ u s₁ E1 R1 S1 V1 => ?_))
  have := list_append_sound (A := A) R1 q hl V1
  rw [E1.ext _ hlt, hacc] at this
  exact wpAny_bind (wpAny_mono this (fun r' s₂ y => wpAny_pure (y.2.trans E1 S1)) fun _ _ q => q)

theorem emitD_ok (room : Room A n) {kx vx : Expr} {p : Pos} : EmitOk C A env sc c D (emitD r sc c kx vx) (do
    let kv ← eval kx env
    let vv ← holding [kv] (eval vx env)
    standAt p
    holding [kv, vv] (dictSet D kv vv)) := by
  intro loc σ σ' e ρ s F R hlt hacc
  refine b2 e fun kv σ₁ e1 e => b2 e fun vv σ₂ e2 e => b1 e fun l q e => bT e fun hb e => bA hb fun b1 b2 => bA b1 fun b3 b4 => c1 e (wpAny_bind (postK (S.ev e1 room F R) fun ρ₁ uk s₁ E1 R1 S1 V1 => ?_))
  refine wpAny_bind (wpAny_holding (postK (S.ev e2 room (F.ext E1) R1) fun ρ₂ uv s₂ E2 R2 S2 V2 => wpAny_bind (wpAny_standAt (wpAny_holding ?_))))
  obtain ⟨k, rfl⟩ := isStr_of b3
  have CD := R2.cells _ _ (dictAt_get q)
  refine ea_1_2 (dict_str CD.2 (Bool.and_eq_true_iff.mp b4).2) (fun kvs hd pk => ?_)
  have hD : (ρ₂ c).1 = D := by rw [E2.ext _ (Nat.lt_of_lt_of_le hlt E1.le), E1.ext _ hlt, hacc]
  rw [← hD]
  refine (E2.val noSeq_noX V1).e_str fun t => dictSetStr hd (fun h' hd' hs => Post.trans (E1.trans E2) (S1.trans S2) (post_set R2 CD.1 (.inl rfl) hs fun fz => ⟨CD.2.1, .inl ⟨_, hd', (pk.stored k V2 hd.nodup).mono fz (fun _ _ => rfl) (Nat.le_refl _)⟩⟩)) ?_
  rw [pk.length, sizeLine_eq]
  exact Nat.le_trans (Nat.le_of_lt (Nat.le_of_ble_eq_true b2)) (by decide)

theorem loopL_sound (room : Room A n) (B : TurnBase C env I J s₀) {elt tgt iter : Expr} {ifs : List Expr} {scope : Scope} {pos : Pos} {σf : St} {R : Result → Shared → Prop} (hR : ∀ s', TurnsEnd C env c D ρ₀ σ₀ s₀ σf s' → R (.ok .next) s') {k : Nat} {it : It} {loc : Loc} {ρ : Pl} {σ : St} {s : Shared}
    (ht : tupFor it tgt = true) (e : compE r sc tgt ifs (emitL r sc c elt) k it loc σ = some σf) (T : TurnAt C env sc I J c D ρ₀ σ₀ s₀ it loc ρ σ s) :
    codeAny C.M A (.compLoop (.ListComp elt [⟨tgt, iter, ifs, 0⟩] scope pos) 0 (.ref I) (.ref D) env) R s := by
  refine codeAny_loop rfl (fun k s => ∃ it loc ρ σ, tupFor it tgt = true ∧ compE r sc tgt ifs (emitL r sc c elt) k it loc σ = some σf ∧ TurnAt C env sc I J c D ρ₀ σ₀ s₀ it loc ρ σ s) (fun k s hI => ?_) k ⟨it, loc, ρ, σ, ht, e, T⟩
  refine ea_4_3 (hI) (fun it loc ρ σ ht e T => ?_)
  show wpAny _ A ((compTurn (.ListComp elt [⟨tgt, iter, ifs, 0⟩] scope pos) 0 (.ref I) (.ref D) env).onRaise (fun x => do noteFrame x env; theTreesLotGoes x)) _ _ s
  refine wpAny_noted ?_
  rw [compTurn_list]
  cases k with
  | zero => exact nnO e
  | succ k =>
    refine wpAny_bind (wpAny_standAt ?_)
    refine wpAny_mono (turn_sound S room B (emitL_ok S room) ht e T) (fun fin s' q => ?_) fun _ _ q => q.elim
    cases fin with
    | done f => exact q.1 ▸ hR _ q.2
    | again c' => exact ⟨q.1, k, Nat.lt_succ_self _, q.2⟩

theorem loopD_sound (room : Room A n) (B : TurnBase C env I J s₀) {kx vx tgt iter : Expr} {ifs : List Expr} {scope : Scope} {pos : Pos} {σf : St} {R : Result → Shared → Prop} (hR : ∀ s', TurnsEnd C env c D ρ₀ σ₀ s₀ σf s' → R (.ok .next) s') {k : Nat} {it : It} {loc : Loc} {ρ : Pl} {σ : St} {s : Shared}
    (ht : tupFor it tgt = true) (e : compE r sc tgt ifs (emitD r sc c kx vx) k it loc σ = some σf) (T : TurnAt C env sc I J c D ρ₀ σ₀ s₀ it loc ρ σ s) :
    codeAny C.M A (.compLoop (.DictComp kx vx [⟨tgt, iter, ifs, 0⟩] scope pos) 0 (.ref I) (.ref D) env) R s := by
  refine codeAny_loop rfl (fun k s => ∃ it loc ρ σ, tupFor it tgt = true ∧ compE r sc tgt ifs (emitD r sc c kx vx) k it loc σ = some σf ∧ TurnAt C env sc I J c D ρ₀ σ₀ s₀ it loc ρ σ s) (fun k s hI => ?_) k ⟨it, loc, ρ, σ, ht, e, T⟩
  refine ea_4_3 (hI) (fun it loc ρ σ ht e T => ?_)
  show wpAny _ A ((compTurn (.DictComp kx vx [⟨tgt, iter, ifs, 0⟩] scope pos) 0 (.ref I) (.ref D) env).onRaise (fun x => do noteFrame x env; theTreesLotGoes x)) _ _ s
  refine wpAny_noted ?_
  rw [compTurn_dict]
  cases k with
  | zero => exact nnO e
  | succ k =>
    refine wpAny_bind (wpAny_standAt ?_)
    refine wpAny_mono (turn_sound S room B (emitD_ok S room) ht e T) (fun fin s' q => ?_) fun _ _ q => q.elim
    cases fin with
    | done f => exact q.1 ▸ hR _ q.2
    | again c' => exact ⟨q.1, k, Nat.lt_succ_self _, q.2⟩
end
end
section
open PySem PySem.Calls PyProof.Rows PySem.W PySem.SeqAt
set_option maxRecDepth 100000

section
variable {X : Addr → Prop} {h h' h'' : Heap} {ρ ρ' : Pl} {n n' : Nat}
theorem Ext.adopt (E : Ext X ρ n h ρ' n' h') {D : Addr} (hD : h.get? D = none) (hs : Heap.ExtBut D h' h'') : Ext X ρ n h (putP ρ' n' (D, D)) (n' + 1) h'' :=
  ⟨Nat.le_succ_of_le E.le, fun i hi => (putP_lt ρ' _ (Nat.lt_of_lt_of_le hi E.le)).trans (E.ext i hi), fun a o e hn hx => hs a o (get_ne e hD) (E.pres a o e hn hx), fun a o e => (E.alive a o e).imp fun o' e' => hs a o' (get_ne e hD) e',
    fun a q => (own_put q).elim (E.fresh a) fun q => .inr (q.elim (fun z => z ▸ hD) fun z => z ▸ hD)⟩
end

inductive Empty0 : Cell → Obj → Prop
  | list : Empty0 (.list []) { cls := .type "list", data := .seq #[] }
  | dict : Empty0 (.dict []) { cls := .type "dict", data := .dict #[] }
theorem Empty0.at {c : Cell} {o : Obj} (x : Empty0 c o) {prog : Program} {w : World} {h : Heap} {ρ : Pl} {n : Nat} {D : Addr} (e : h.get? D = some o) : CellAt h ρ n prog w (D, D) c := by
  cases x with
  | list => exact ⟨rfl, _, _, e, .nil⟩
  | dict => exact ⟨rfl, .inl ⟨[], ⟨_, #[], e, ⟨rfl, rfl, rfl⟩, rfl, fun _ z => by simp at z, .nil, List.nodup_nil⟩, .nil⟩⟩
theorem Empty0.live {c : Cell} {o : Obj} (x : Empty0 c o) : o.isFreed = false := by cases x <;> rfl

section
variable {C : Cx} {r : Rec} {n : Nat} (S : Sound C r n) {sc : Scope} {loc : Loc} {A : Around} {env : Env} {σ : St} {ρ : Pl} {s : Shared}
include S

theorem comp_run (O : GOk C) (room : Room A n) {e : Expr} {sc' : Scope} {pos : Pos} {newAcc : Sem Value} {tgt iter : Expr} {ifs : List Expr} {c0 : Cell} {o0 : Obj} {it : It} {σ₁ σf : St} {emit : Nat → Loc → St → Option St}
    (hcl : clausesOf e = [⟨tgt, iter, ifs, 0⟩]) (h0 : Empty0 c0 o0) (hacc : ∀ (s : Shared) (Q : Value → Shared → Prop), Q (.ref s.heap.objs.size) { s with heap := s.heap.push o0 } → wpAny C.M A newAcc Q noE s)
    (hok : compOk sc sc' = true) (e1 : startIt C.G r sc tgt iter loc σ = some (it, σ₁)) (e2 : compE r (compSc sc sc') tgt ifs (emit σ₁.next) 200 it (freeLoc sc' loc) (σ₁.new c0) = some σf)
    (hloop : ∀ {cenv : Env} {I J D : Addr} {c : Nat} {ρ₀ : Pl} {σ₀ : St} {s₀ : Shared} {ρ : Pl} {σ : St} {s : Shared} {loc : Loc} {it : It} {R : Result → Shared → Prop}, TurnBase C cenv I J s₀ → (∀ s', TurnsEnd C cenv c D ρ₀ σ₀ s₀ σf s' → R (.ok .next) s') → tupFor it tgt = true →
      compE r (compSc sc sc') tgt ifs (emit c) 200 it loc σ = some σf → TurnAt C cenv (compSc sc sc') I J c D ρ₀ σ₀ s₀ it loc ρ σ s → codeAny C.M A (.compStart e 0 (.ref I) (.ref D) cenv) R s)
    (F : Frm C.h₀ env sc loc ρ σ.next s.heap) (R : C.R ρ σ s.heap) {use : Option (Value → Sem Unit)} {Q : Value → Shared → Prop}
    (hQ : ∀ (cenv : Env) (D : Addr) (s' : Shared), s.heap.get? cenv.locals = none → TurnsEnd C cenv σ₁.next D ρ σ s σf s' →
      (use = none → ∀ h', Heap.SameBut cenv.locals s'.heap h' → Q (.ref D) { s' with heap := h' }) ∧
      (∀ u, use = some u → wpAny C.M A (u (.ref D)) (fun _ s'' => (∃ m, s''.heap.Ns cenv.locals m) ∧ ∀ h', Heap.SameBut cenv.locals s''.heap h' → Q .none { s'' with heap := h' }) noE s')) :
    wpAny C.M A (comprehension e sc' env pos newAcc false (eval iter env) use) Q noE s := by
  refine bA hok fun hkk hn => ?_
  have hk : sc'.kind = .function := by cases q : sc'.kind <;> first | rfl | (rw [q] at hkk; exact nnF hkk)
  have hm := compOkN_mem hn
  have hfree : ∀ x, (x, NameKind.free) ∈ sc'.names → ∃ c, env.cells.lookup x = some c ∧ ∃ o, s.heap.get? c = some o := fun x hx => by
    obtain ⟨k1, hk1, hk2⟩ : ∃ k1, lookS x sc.names = some k1 ∧ (k1 = .cell ∨ k1 = .free) := (hm _ hx).2.elim (fun z => nomatch z) fun z => z.elim (fun z => nomatch z) fun z => z.2.elim (fun z => ⟨_, z, .inl rfl⟩) fun z => ⟨_, z, .inr rfl⟩
    exact (F.cell x k1 hk1 hk2).imp fun c y => y.elim fun o y => y.elim fun ct y => ⟨y.1, o, y.2.1⟩
  have hst := startIt_sound S O room e1 F R
  unfold comprehension
  rw [hcl]
  refine wpAny_bind (wpAny_mono hst.1 (fun x s₁ h₁ => wpAny_bind (wpAny_standAt (wpAny_bind (wpAny_of_eq (hst.2 x) (wpAny_bind (wpAny_holding (wpAny_mono h₁ (fun u s₂ h₂ => ?_) fun _ _ q => q))))))) fun _ _ q => q)
  obtain ⟨I, J, ρ₂, qu, E2, R2, S2, T2, nI, nJ, oI, oJ, ht⟩ := h₂
  rw [qu]
  refine wpAny_standIf (wpAny_bind (hacc _ _ ?_))
  -- the accumulator
  have D0 : s₂.heap.get? s₂.heap.objs.size = none := Heap.get?_none_of_le (Nat.le_refl _)
  have kp3 : KeepsAll s₂.heap (s₂.heap.push o0) := fun b o e => Heap.get?_push_of_some _ e
  have R3 : C.R (putP ρ₂ σ₁.next (s₂.heap.objs.size, s₂.heap.objs.size)) (σ₁.new c0) (s₂.heap.push o0) := R2.new ⟨R2.big, R2.big⟩ kp3 D0 D0 (h0.at (Heap.get?_push_size _ h0.live))
  have E23 : Ext NoX ρ₂ σ₁.next s₂.heap (putP ρ₂ σ₁.next (s₂.heap.objs.size, s₂.heap.objs.size)) (σ₁.next + 1) (s₂.heap.push o0) := ext_put kp3 D0 D0
  have acc3 : putP ρ₂ σ₁.next (s₂.heap.objs.size, s₂.heap.objs.size) σ₁.next = (s₂.heap.objs.size, s₂.heap.objs.size) := putP_self ..
  generalize s₂.heap.objs.size = D at *
  generalize putP ρ₂ σ₁.next (D, D) = ρ₃ at *
  generalize s₂.heap.push o0 = h₃ at *
  have E3 : Ext NoX ρ σ.next s.heap ρ₃ (σ₁.next + 1) h₃ := E2.trans E23
  have lv := T2.live
  -- the block
  refine wpAny_bind (closure_wp (fun x hx => (hfree x hx).imp fun c y => y.1) fun cs h2 h3 => ?_)
  refine wpAny_bind (comp_frame (s := { s₂ with heap := h₃ }) (σ := σ₁.new c0) (F.ext E3) R3 hok h2 h3 fun h₄ cenv hloc hcells kp4 hns F4 hsc => ?_)
  dsimp only
  have hown : (sc'.names.map fun x => match x with | (n, k) => if (k == NameKind.free && env.scope.kind == ScopeKind.function && env.kindOf n == some NameKind.cell) = true then (n, NameKind.cell) else (n, k)) = compNames sc sc'.names := by
    refine compNames_map sc (fun n k => k == NameKind.free && env.scope.kind == ScopeKind.function && env.kindOf n == some NameKind.cell) (fun n => ?_) (fun n k hne => ?_) sc'.names
    · rw [kindOf_eq (C := C) (σ := σ) (s := s) (ρ := ρ) F n, F.scope, F.fn]
      exact beq_iff_eq
    · rw [beq_eq_false_iff_ne.mpr hne]; rfl
  rw [hown]
  generalize hce : ({ cenv with scope := { sc' with names := compNames sc sc'.names } } : Env) = cenv' at *
  have szL : h₃.get? cenv'.locals = none := by rw [← hce]; exact hloc ▸ Heap.get?_none_of_le (Nat.le_refl _)
  have hL : s.heap.get? cenv'.locals = none := none_of E3 szL
  have cellOld : ∀ {a}, Xof cenv' a → a = cenv'.locals ∨ ∃ o, s.heap.get? a = some o := fun {a} q => q.imp id fun q => q.elim fun x q => by
    rw [← hce] at q
    have q : cs.lookup x = some a := hcells ▸ q
    exact (hfree x (h2 x a q).2).elim fun c y => Option.some.inj (y.1.symm.trans (h2 x a q).1) ▸ y.2
  have B : TurnBase C cenv' I J s := ⟨nI, nJ, hL, R.keep, fun q => (cellOld q).elim (fun z => lv.1.elim fun o y => get_ne (kp3 _ _ y.1) szL z) (fun z => z.elim fun o y => get_ne y nI rfl), fun q => (cellOld q).elim (fun z => lv.2.elim fun o y => get_ne (kp3 _ _ y.1) szL z) (fun z => z.elim fun o y => get_ne y nJ rfl)⟩
  have T4 : TurnAt C cenv' (compSc sc sc') I J σ₁.next D ρ σ s it (freeLoc sc' loc) ρ₃ (σ₁.new c0) { s₂ with heap := h₄ } :=
    ⟨E3.trans (Ext.of_grow kp4), R3.grow kp4, S2.trans ⟨rfl, rfl, rfl⟩, (T2.mono (E23.froz noSeq_noX) E23.ext E23.le (fun o e => kp3 _ _ e) (fun o e => kp3 _ _ e)).mono (froz_keep kp4) (fun _ _ => rfl) (Nat.le_refl _) (fun o e => kp4 _ _ e) (fun o e => kp4 _ _ e), hce ▸ F4,
      lv.1.elim fun o y => E23.notOwn y.1 oI, lv.2.elim fun o y => E23.notOwn y.1 oJ, Nat.lt_succ_self _, acc3⟩
  have hv : ∀ x : Str × NameKind, x ∈ sc'.names.filter (fun x => match x with | (n, k) => (k == .local || k == .cell) && n != (".0" : Str)) → x.2 = .local → cenv'.kindOf x.1 = some .local := fun x hx hl => by
    have h1 := (hm x (List.mem_filter.mp hx).1).1
    rw [hl] at h1
    rw [← hce]
    show (compNames sc sc'.names).lookup x.1 = some .local
    rw [← lookS_eq, comp_look, h1]; rfl
  have hk' : cenv'.scope.kind = .function := by rw [← hce]; exact hk
  refine wpAny_holding (wpAny_bind (wpAny_attempt (wpAny_holding (wpAny_run (hloop B (fun s' he => ?_) ht e2 T4)))))
  have hfin := hQ cenv' D s' hL he
  refine ea_1_1 (he.elim fun ρ' y => y.2.2.2.2.2.1) (fun m hns' => ?_)
  cases use with
  | none =>
    dsimp only
    exact wpAny_bind (wpAny_holding (wpAny_comp_letGo (cenv := cenv') hk' _ s' m (fun x hx hl => hv x (List.mem_reverse.mp hx) hl) hns' fun h' m' _ hs' => wpAny_pure (hfin.1 rfl h' hs')))
  | some u =>
    dsimp only
    refine wpAny_bind (wpAny_rule (wpAny_bind (wpAny_holding (wpAny_mono (hfin.2 u rfl) (fun _ s'' y => y.1.elim fun m' hns'' => ?_) fun _ _ q => q))))
    exact wpAny_bind (wpAny_comp_letGo (cenv := cenv') hk' _ s'' m' (fun x hx hl => hv x ((List.mem_append.mp hx).elim (fun hx => List.mem_reverse.mp (List.mem_of_mem_drop hx)) fun hx => List.mem_reverse.mp (List.mem_of_mem_take hx)) hl) hns'' fun h' m' _ hs' => wpAny_pure (y.2 h' hs'))
end
end
section
open PySem PySem.Calls PyProof.Rows PySem.W PySem.SeqAt
set_option maxRecDepth 100000

section
variable {C : Cx} {r : Rec} {n : Nat} (S : Sound C r n) {sc : Scope} {loc : Loc} {A : Around} {env : Env} {σ : St} {ρ : Pl} {s : Shared}

theorem ends_post {cenv : Env} {c : Nat} {D : Addr} {σf : St} {s' : Shared} (R0 : C.R ρ σ s.heap) (hL : s.heap.get? cenv.locals = none) (x : TurnsEnd C cenv c D ρ σ s σf s') {h' : Heap} (hs : Heap.SameBut cenv.locals s'.heap h') :
    Post C NoX ρ σ s σf (fun ρ' h => Val h ρ' σf.next (.ref D) (.cell c)) { s' with heap := h' } :=
  x.elim fun ρ' y => y.2.2.2.2.2.1.elim fun m hns => ⟨ρ', y.1.but hL hL fun b o h1 _ e => (hs.2 b h1).trans e, y.2.1.off hs.extBut y.2.2.2.2.2.2 (keep_none R0.keep hL) (ns_notSeq hns), y.2.2.1.trans ⟨rfl, rfl, rfl⟩, .cell_at y.2.2.2.1 y.2.2.2.2.1⟩
include S

theorem runL (room : Room A n) {elt tgt iter : Expr} {ifs : List Expr} {sc' : Scope} {pos : Pos} {σf : St} {scc : Scope} {cenv : Env} {I J D : Addr} {c : Nat} {ρ₀ : Pl} {σ₀ : St} {s₀ : Shared} {ρ : Pl} {σ : St} {s : Shared} {loc : Loc} {it : It} {R : Result → Shared → Prop} (B : TurnBase C cenv I J s₀) (hR : ∀ s', TurnsEnd C cenv c D ρ₀ σ₀ s₀ σf s' → R (.ok .next) s') (ht : tupFor it tgt = true)
    (e : compE r scc tgt ifs (emitL r scc c elt) 200 it loc σ = some σf) (T : TurnAt C cenv scc I J c D ρ₀ σ₀ s₀ it loc ρ σ s) : codeAny C.M A (.compStart (.ListComp elt [⟨tgt, iter, ifs, 0⟩] sc' pos) 0 (.ref I) (.ref D) cenv) R s :=
  have main := loopL_sound S room B hR ht e T (iter := iter) (scope := sc') (pos := pos)
  codeAny_compStart_list main (iter_self T.it main)
theorem runD (room : Room A n) {kx vx tgt iter : Expr} {ifs : List Expr} {sc' : Scope} {pos : Pos} {σf : St} {scc : Scope} {cenv : Env} {I J D : Addr} {c : Nat} {ρ₀ : Pl} {σ₀ : St} {s₀ : Shared} {ρ : Pl} {σ : St} {s : Shared} {loc : Loc} {it : It} {R : Result → Shared → Prop} (B : TurnBase C cenv I J s₀) (hR : ∀ s', TurnsEnd C cenv c D ρ₀ σ₀ s₀ σf s' → R (.ok .next) s') (ht : tupFor it tgt = true)
    (e : compE r scc tgt ifs (emitD r scc c kx vx) 200 it loc σ = some σf) (T : TurnAt C cenv scc I J c D ρ₀ σ₀ s₀ it loc ρ σ s) : codeAny C.M A (.compStart (.DictComp kx vx [⟨tgt, iter, ifs, 0⟩] sc' pos) 0 (.ref I) (.ref D) cenv) R s :=
  have main := loopD_sound S room B hR ht e T (iter := iter) (scope := sc') (pos := pos)
  codeAny_compStart_dict main (iter_self T.it main)

omit S in
theorem new_list (room : Room A n) (s : Shared) (Q : Value → Shared → Prop) (h : Q (.ref s.heap.objs.size) { s with heap := s.heap.push { cls := .type "list", data := .seq #[] } }) : wpAny C.M A (newList []) Q noE s := wpAny_newList h (Nat.zero_le _)
omit S in
theorem new_dict (room : Room A n) (s : Shared) (Q : Value → Shared → Prop) (h : Q (.ref s.heap.objs.size) { s with heap := s.heap.push { cls := .type "dict", data := .dict #[] } }) : wpAny C.M A newDict Q noE s := wpAny_newObj_type h

noncomputable def UseOk (C : Cx) (A : Around) (e : Expr) (env : Env) (ρ : Pl) (σ : St) (s : Shared) (σ' : St) (v : V) : Prop :=
  ∀ {u : Value → Sem Unit} {Q : Shared → Prop}, (∀ (cenv : Env) (uv : Value) (s' : Shared), s.heap.get? cenv.locals = none → (∃ ρ', Ext NoX ρ σ.next s.heap ρ' σ'.next s'.heap ∧ C.R ρ' σ' s'.heap ∧ Same s s' ∧ Val s'.heap ρ' σ'.next uv v ∧ (∃ m, s'.heap.Ns cenv.locals m) ∧ ¬ Own ρ' σ'.next cenv.locals) →
      wpAny C.M A (u uv) (fun _ s'' => (∃ m, s''.heap.Ns cenv.locals m) ∧ ∀ h', Heap.SameBut cenv.locals s''.heap h' → Q { s'' with heap := h' }) noE s') →
    wpAny C.M A (evalThenUse e env u) (fun _ => Q) noE s
omit S in
theorem ends_use {cenv : Env} {c : Nat} {D : Addr} {s' : Shared} {σ' : St} (x : TurnsEnd C cenv c D ρ σ s σ' s') : ∃ ρ', Ext NoX ρ σ.next s.heap ρ' σ'.next s'.heap ∧ C.R ρ' σ' s'.heap ∧ Same s s' ∧ Val s'.heap ρ' σ'.next (.ref D) (.cell c) ∧ (∃ m, s'.heap.Ns cenv.locals m) ∧ ¬ Own ρ' σ'.next cenv.locals :=
  x.imp fun ρ' y => ⟨y.1, y.2.1, y.2.2.1, .cell_at y.2.2.2.1 y.2.2.2.2.1, y.2.2.2.2.2⟩
theorem listV_sound (O : GOk C) (room : Room A n) {elt tgt iter : Expr} {ifs : List Expr} {sc' : Scope} {pos : Pos} {v : V} {σ' : St} (h : listV C.G r sc elt tgt iter ifs sc' loc σ = some (v, σ')) (F : Frm C.h₀ env sc loc ρ σ.next s.heap) (R : C.R ρ σ s.heap) :
    wpAny C.M A (eval (.ListComp elt [⟨tgt, iter, ifs, 0⟩] sc' pos) env) (PV C ρ σ s σ' v) noE s ∧ UseOk C A (.ListComp elt [⟨tgt, iter, ifs, 0⟩] sc' pos) env ρ σ s σ' v := by
  refine bT h fun hok h => b2 h fun it σ₁ e1 h => b1 h fun σf e2 h => c2 h ?_
  have core := fun (use : Option (Value → Sem Unit)) (Q : Value → Shared → Prop) hQ => comp_run S O room (e := .ListComp elt [⟨tgt, iter, ifs, 0⟩] sc' pos) (pos := firstIterPos [⟨tgt, iter, ifs, 0⟩] pos) (newAcc := newList []) (emit := fun c => emitL r (compSc sc sc') c elt) (use := use) (Q := Q) rfl .list (new_list room) hok e1 e2
    (fun B hR ht e T => runL S room B hR ht e T) F R hQ
  refine ⟨?_, fun {u Q} hu => ?_⟩
  · rw [arm_eval_ListComp]
    exact core none _ fun cenv D s' hL he => ⟨(fun _ h' hs => ends_post R hL he hs), (fun u q => nnO q)⟩
  · exact wpAny_bind (wpAny_mono (core (some u) (fun _ => Q) fun cenv D s' hL he => ⟨(fun q => nnP q), (fun u' q => Option.some.inj q ▸ hu cenv _ s' hL (ends_use he))⟩) (fun _ _ q => wpAny_pure q) fun _ _ q => q)
theorem dictV_sound (O : GOk C) (room : Room A n) {kx vx tgt iter : Expr} {ifs : List Expr} {sc' : Scope} {pos : Pos} {v : V} {σ' : St} (h : dictV C.G r sc kx vx tgt iter ifs sc' loc σ = some (v, σ')) (F : Frm C.h₀ env sc loc ρ σ.next s.heap) (R : C.R ρ σ s.heap) :
    wpAny C.M A (eval (.DictComp kx vx [⟨tgt, iter, ifs, 0⟩] sc' pos) env) (PV C ρ σ s σ' v) noE s ∧ UseOk C A (.DictComp kx vx [⟨tgt, iter, ifs, 0⟩] sc' pos) env ρ σ s σ' v := by
  refine bT h fun hok h => b2 h fun it σ₁ e1 h => b1 h fun σf e2 h => c2 h ?_
  have core := fun (use : Option (Value → Sem Unit)) (Q : Value → Shared → Prop) hQ => comp_run S O room (e := .DictComp kx vx [⟨tgt, iter, ifs, 0⟩] sc' pos) (pos := firstIterPos [⟨tgt, iter, ifs, 0⟩] pos) (newAcc := newDict) (emit := fun c => emitD r (compSc sc sc') c kx vx) (use := use) (Q := Q) rfl .dict (new_dict room) hok e1 e2
    (fun B hR ht e T => runD S room B hR ht e T) F R hQ
  refine ⟨?_, fun {u Q} hu => ?_⟩
  · rw [arm_eval_DictComp]
    exact core none _ fun cenv D s' hL he => ⟨(fun _ h' hs => ends_post R hL he hs), (fun u q => nnO q)⟩
  · exact wpAny_bind (wpAny_mono (core (some u) (fun _ => Q) fun cenv D s' hL he => ⟨(fun q => nnP q), (fun u' q => Option.some.inj q ▸ hu cenv _ s' hL (ends_use he))⟩) (fun _ _ q => wpAny_pure q) fun _ _ q => q)

omit S in
theorem dict_end {D : Addr} {ρ₁ : Pl} {s₁ : Shared} {h' : Heap} {tk : Nat} {kvs : List (Str × Value)} {d : List (V × V)} {σ' : St} {h₁ : Heap} (R : C.R ρ σ s.heap) (hD : h₁.get? D = some { cls := .type "dict", data := .dict #[] }) (n0 : s.heap.get? D = none) (E0 : Ext NoX ρ σ.next s.heap ρ σ.next h₁) (E1 : Ext NoX ρ σ.next h₁ ρ₁ σ'.next s₁.heap) (R1 : C.R ρ₁ σ' s₁.heap) (S1 : Same s s₁)
    (big : 1 < D) (hd : StrAt h' C.prog C.w D kvs) (hs : Heap.SameBut D s₁.heap h') (pk : PStr s₁.heap ρ₁ σ'.next kvs d) :
    Post C NoX ρ σ s (σ'.new (.dict d)) (fun ρ' h => Val h ρ' (σ'.next + 1) (.ref D) (.cell σ'.next)) { s₁ with heap := h', toks := tk } := by
  have nO := R.notOwn_new n0
  have ho1 := E1.pres _ _ hD nO fun q => q
  have nD : ¬ seqCls { cls := .type "dict", data := .dict #[] } := fun q => q.elim fun _ q => q.elim fun _ q => nomatch q
  have fz : Froz s₁.heap ρ₁ σ'.next h' (putP ρ₁ σ'.next (D, D)) (σ'.next + 1) := fun a o e ha hc => by
    have hne : a ≠ D := fun q => nD (Option.some.inj (ho1.symm.trans (q ▸ e)) ▸ hc)
    exact ⟨(hs.2 a hne).trans e, fun q => (own_put q).elim ha fun q => q.elim hne hne⟩
  exact ⟨_, (E0.trans E1).adopt n0 hs.extBut, R1.adopt ⟨_, ho1, nD⟩ (E1.notOwn hD nO) (keep_none R.keep n0) big hs.extBut ⟨rfl, .inl ⟨kvs, hd, pk.mono fz (fun i hi => putP_lt ρ₁ _ hi) (Nat.le_succ _)⟩⟩, S1.trans ⟨rfl, rfl, rfl⟩, cell_put⟩
omit S in
theorem empty_at {h : Heap} {D : Addr} (e : h.get? D = some { cls := .type "dict", data := .dict #[] }) : StrAt h C.prog C.w D [] := ⟨_, #[], e, ⟨rfl, rfl, rfl⟩, rfl, (fun _ z => nomatch z), .nil, List.nodup_nil⟩
noncomputable def Stored (C : Cx) (D : Addr) (ρ₁ : Pl) (k : Nat) (s₁ : Shared) (d : List (V × V)) (s₃ : Shared) : Prop := ∃ kvs, StrAt s₃.heap C.prog C.w D kvs ∧ Heap.SameBut D s₁.heap s₃.heap ∧ PStr s₁.heap ρ₁ k kvs d ∧ s₃ = { s₁ with heap := s₃.heap, toks := s₃.toks }
omit S in
theorem store_all {D : Addr} {ρ₁ : Pl} {k : Nat} {s₁ : Shared} {d : List (V × V)} : ∀ (us : List (Value × Value)) (l acc0 : List (V × V)) (kv0 : List (Str × Value)) (s₂ : Shared), Vals s₁.heap ρ₁ k (us.map (·.1)) (l.map (·.1)) → Vals s₁.heap ρ₁ k (us.map (·.2)) (l.map (·.2)) → PStr s₁.heap ρ₁ k kv0 acc0 → putAll l acc0 = some d → StrAt s₂.heap C.prog C.w D kv0 → Heap.SameBut D s₁.heap s₂.heap →
      kv0.length + us.length ≤ 100 → s₂ = { s₁ with heap := s₂.heap, toks := s₂.toks } → wpAny C.M A (storeAll D us) (fun _ => Stored C D ρ₁ k s₁ d) noE s₂ := by
  intro us
  induction us with
  | nil =>
    intro l acc0 kv0 s₂ X Y P e hd hs hl hg
    cases l with
    | cons _ _ => exact nomatch X.length
    | nil =>
      unfold storeAll
      rw [List.forIn_nil]
      exact wpAny_pure ⟨kv0, hd, hs, Option.some.inj e ▸ P, hg⟩
  | cons uv us ih =>
    intro l acc0 kv0 s₂ X Y P e hd hs hl hg
    cases l with
    | nil => exact nomatch X.length
    | cons kv l =>
      obtain ⟨uk, uv⟩ := uv
      refine bT e fun hb e => bA hb fun b1 b2 => X.e_cons2 fun x X => Y.e_cons2 fun y Y => (isStr_of b1).elim fun kk hkk => ?_
      unfold storeAll
      rw [List.forIn_cons]
      have hl' : kv0.length + (us.length + 1) ≤ 100 := hl
      have x : Val s₁.heap ρ₁ k uk kv.1 := x
      have y : Val s₁.heap ρ₁ k uv kv.2 := y
      rw [hkk] at x e
      refine Val.e_str (P := fun u => wpAny _ _ (dictSet D u uv >>= _ >>= _) _ _ _) x fun t => wpAny_bind (wpAny_bind (dictSetStr hd (fun h' hd' hs' => wpAny_pure ?_) (by rw [sizeLine_eq]; exact Nat.le_trans (Nat.le_trans (Nat.le_add_right _ _) hl') (by decide))))
      refine ih l _ _ { s₂ with heap := h', toks := s₂.toks + 1 } X Y (P.stored kk y hd.nodup) e hd' (hs.trans hs') ?_ (by rw [hg])
      have hst := stored_length_le kv0 kk uv
      omega
theorem Dict_sound (room : Room A n) {ks : List (Option Expr)} {vs : List Expr} {pos : Pos} {l d : List (V × V)} {σ' : St} (hv : Nat.blt vs.length 15 = true) (e1 : evPairs r sc ks vs loc σ = some (l, σ')) (e2 : putAll l [] = some d) (F : Frm C.h₀ env sc loc ρ σ.next s.heap) (R : C.R ρ σ s.heap) :
    wpAny C.M A (eval (.Dict ks vs pos) env) (fun u => Post C NoX ρ σ s (σ'.new (.dict d)) fun ρ' h => Val h ρ' (σ'.next + 1) u (.cell σ'.next)) noE s := by
  have hv := Nat.le_of_ble_eq_true hv
  have hl3 := evPairs_len (r := r) (sc := sc) ks vs loc σ σ' e1
  have n0 : s.heap.get? s.heap.objs.size = none := Heap.get?_none_of_le (Nat.le_refl _)
  have hD : (s.heap.push { cls := .type "dict", data := .dict #[] }).get? s.heap.objs.size = some { cls := .type "dict", data := .dict #[] } := Heap.get?_push_size _ rfl
  have E0 : Ext NoX ρ σ.next s.heap ρ σ.next (s.heap.push { cls := .type "dict", data := .dict #[] }) := Ext.push _
  have R0 : C.R ρ σ (s.heap.push { cls := .type "dict", data := .dict #[] }) := R.push _
  cases ks with
  | nil =>
    cases vs with
    | cons _ _ => exact nomatch hl3.2.1
    | nil =>
      cases l with
      | cons _ _ => exact nomatch hl3.2.2
      | nil =>
        rw [arm_eval_Dict]
        refine wpAny_bind (wpAny_standAt ?_)
        show wpAny _ _ newDict _ _ _
        have es : σ = σ' := c2 (Q := fun _ s => σ = s) e1 rfl
        refine wpAny_newObj_type ?_
        exact dict_end (s₁ := { s with heap := s.heap.push { cls := .type "dict", data := .dict #[] } }) (tk := s.toks) (kvs := []) R hD n0 E0 (es ▸ Ext.refl) (es ▸ R0) ⟨rfl, rfl, rfl⟩ R.big (empty_at hD) (Heap.SameBut.refl ..) (Option.some.inj e2 ▸ .nil)
  | cons k ks =>
    refine wpAny_Dict_any hl3.1 hl3.2.1 (List.cons_ne_nil _ _) (by omega) ?_
    refine postK (evPairs_sound S room pos (k :: ks) vs (s := { s with heap := s.heap.push { cls := .type "dict", data := .dict #[] } }) e1 (F.ext E0) R0) fun ρ₁ us s₁ E1 R1 S1 qZ => ?_
    have hl := qZ.1.length
    rw [List.length_map, List.length_map, hl3.2.2] at hl
    refine wpAny_mono (store_all us l [] [] s₁ qZ.1 qZ.2 .nil e2 (empty_at (E1.pres _ _ hD (R.notOwn_new n0) fun q => q)) (Heap.SameBut.refl ..) (by rw [hl, List.length_nil]; omega) rfl) (fun _ s₃ y => ?_) fun _ _ q => q
    refine ea_1_4 (y) (fun kvs hd hs pk es => ?_)
    rw [es]
    exact dict_end R hD n0 E0 E1 R1 (Same.trans ⟨rfl, rfl, rfl⟩ S1) R.big hd hs pk
end
end
section
open PySem PySem.Calls PyProof.Rows PySem.W PySem.SeqAt
set_option maxRecDepth 100000

section
variable {C : Cx} {r : Rec} {n : Nat} (S : Sound C r n) {sc : Scope} {loc : Loc} {A : Around} {env : Env} {σ : St} {ρ : Pl} {s : Shared}
include S

omit S in
theorem attrE_eq {e o : Expr} {a : Str} {p : Pos} (h : attrE e = some (o, a, p)) : e = .Attribute o a p := by
  cases e <;> first | exact nnO h | exact congrArg (fun q : Expr × Str × Pos => Expr.Attribute q.1 q.2.1 q.2.2) (Option.some.inj h)
theorem evCall_sound (O : GOk C) (room : Room A (n + 1)) {f : Expr} {args : List Expr} {pos : Pos} {v : V} {σ' : St} (h : evCall C.G r sc f args pos loc σ = some (v, σ')) (F : Frm C.h₀ env sc loc ρ σ.next s.heap) (R : C.R ρ σ s.heap) :
    wpAny C.M A (eval (.Call f args [] pos) env) (PV C ρ σ s σ' v) noE s := by
  refine bT h fun hs h => bO h (fun p hv h => bF h fun hx h => ?_) fun _ h => bO h (fun x hx h => ?_) fun _ h => b3 h fun o a apos ha h => bT h fun hb h => bA hb fun hc hl => ?_
  · refine b1 hv fun l hl hv => b1 hv fun y hy hv => b3 hv fun g as q hq hv => bT hv fun hk hv => bA hk fun k1 k2 => b3 hv fun o a apos ha hv => bT hv fun hb hv => bA hb fun hb b3 => bA hb fun b1 b2 => ?_
    have hv := Option.some.inj hv
    refine ea_1_1 (nameOf_eq hl) (fun p0 hf => ?_)
    rw [oneOf_eq hy, callE_eq hq, attrE_eq ha, List.isEmpty_iff.mp k1, List.isEmpty_iff.mp k2, hf, show l = p.1 from congrArg Prod.fst hv, show o = p.2 from congrArg Prod.snd hv]
    exact valuesE_sound S O room hx b1 b2 (congrArg Prod.snd hv ▸ b3) h F R
  · exact (nameOf_eq hx).elim fun p0 q => q ▸ nameE_sound S O room hs h F R
  · exact attrE_eq ha ▸ methE_sound S O (room_down room) hc hs hl h F R

omit S in
theorem gen1_eq {gs : List Comprehension} {g : Comprehension} (h : gen1 gs = some g) : gs = [⟨g.target, g.iter, g.ifs, 0⟩] :=
  b1 h fun g' q h => bT h fun hz h => by
    rw [oneOf_eq q, ← Option.some.inj h, ← of_decide_eq_true hz]
    cases g'
    rfl
omit S in
theorem isOne_eq {o : Option Expr} (h : isOne o = true) : ∃ k p, o = some (.Constant (.int 1) k p) := by
  cases o with
  | none => exact nnF h
  | some x =>
    cases x with
    | Constant c k p =>
      cases c with
      | int n => exact ⟨k, p, by rw [show n = 1 from of_decide_eq_true h]⟩
      | _ => exact nnF h
    | _ => exact nnF h
omit S in
theorem slice1_eq {i : Expr} (h : slice1 i = true) : ∃ k p p', i = .Slice none (some (.Constant (.int 1) k p)) none p' := by
  cases i with
  | Slice a b c p' => exact bA h fun h1 h2 => bA h1 fun h1 h3 => (isOne_eq h2).elim fun k y => y.elim fun p y => ⟨k, p, p', by rw [Option.isNone_iff_eq_none.mp h1, Option.isNone_iff_eq_none.mp h3, y]⟩
  | _ => exact nnF h
theorem evStep_sound (O : GOk C) (room : Room A (n + 1)) {e : Expr} {v : V} {σ' : St} (h : evStep C.G r sc e loc σ = some (v, σ')) (F : Frm C.h₀ env sc loc ρ σ.next s.heap) (R : C.R ρ σ s.heap) :
    wpAny C.M A (eval e env) (PV C ρ σ s σ' v) noE s := by
  have room' := room_down room
  cases e with
  | Constant c k p => exact b1 h fun w q h => c2 h (Const_sound q R)
  | Name x p => exact bF h fun hx h => b1 h fun w q h => c2 h (wpAny_mono (Name_sound O hx q F R) (fun u s' y => by rw [y.1]; exact Post.here' R y.2) fun _ _ q => q)
  | Tuple es k p => exact bT h fun hs h => b2 h fun vs σ₁ q h => c2 h (Tuple_sound S room' hs q F R)
  | List es p =>
    refine bT h fun hs h => b2 h fun vs σ₁ q h => ?_
    cases hm : C.G.mutAt p with
    | true => rw [hm] at h; exact c2 h (wpAny_mono (List_sound S room' hs q F R) (fun u s' q => q.2) fun _ _ q => q)
    | false => rw [hm] at h; exact c2 h (wpAny_mono (List_sound S room' hs q F R) (fun u s' q => q.1) fun _ _ q => q)
  | Dict ks vs p => exact bT h fun hv h => b2 h fun l σ₁ e1 h => b1 h fun d e2 h => c2 h (Dict_sound S room' hv e1 e2 F R)
  | BoolOp op es p =>
    rw [arm_eval_BoolOp]
    exact boolV_sound S room' _ _ _ h F R
  | IfExp t a b p => exact IfExp_sound S room' h F R
  | UnaryOp op x p =>
    refine bT h fun ho h => b2 h fun w σ₁ e1 h => b1 h fun i q h => c2 h ?_
    obtain rfl := asInt_eq q
    cases op with
    | USub => exact USub_sound S room' e1 F R
    | _ => exact nnF ho
  | Compare l ops xs p =>
    refine b1 h fun op qo h => b1 h fun x qx h => b2 h fun b σ₁ q h => c2 h ?_
    rw [oneOf_eq qo, oneOf_eq qx]
    exact wpAny_mono (cmpE_sound S room' q F R).1 (fun u s' p => p.mono fun _ _ e => e ▸ .bool _) fun _ _ q => q
  | BinOp a op b p => exact b2 (show (bnd2 (r.ev sc a loc σ) fun av σ => bnd2 (r.ev sc b loc σ) fun bv σ => bnd (binV σ op av bv) fun v => some (v, σ)) = some (v, σ') from h) fun av σ₁ e1 h => b2 h fun bv σ₂ e2 h => b1 h fun w e3 h => c2 h (BinOp_sound S room' e1 e2 e3 F R)
  | Attribute o a p => exact bT h fun hc h => b2 h fun w σ₁ e1 h => b1 h fun w' e2 h => c2 h (Attribute_sound S O room' hc e1 e2 F R)
  | Subscript o i p =>
    refine bC h (fun hs h => b2 h fun w σ₁ e1 h => b1 h fun x q h => bT h fun hx h => c2 h ?_) fun _ h => bF h fun hns h => b2 h fun ov σ₁ e1 h => b2 h fun iv σ₂ e2 h => b1 h fun w e3 h => c2 h (Subscript_sound S room' hns e1 e2 e3 F R)
    obtain rfl := asStr_eq q
    obtain ⟨k, q1, q2, rfl⟩ := slice1_eq hs
    exact Slice_sound S room' e1 hx F R
  | Call f args kw p => exact bT h fun hk h => List.isEmpty_iff.mp hk ▸ evCall_sound S O room h F R
  | ListComp elt gs sc' p => exact b1 h fun g q h => gen1_eq q ▸ (listV_sound S O room' h F R).1
  | DictComp kx vx gs sc' p => exact b1 h fun g q h => gen1_eq q ▸ (dictV_sound S O room' h F R).1
  | _ => exact nnO h

theorem isTV_sound (room : Room A n) {e : Expr} {b : Bool} {σ' : St} {whole : Sem Bool} (h : isTV r sc e loc σ = some (b, σ')) (F : Frm C.h₀ env sc loc ρ σ.next s.heap) (R : C.R ρ σ s.heap) (hw : whole = (do let v ← eval e env; standAt e.pos; holding [v] (truthy v))) :
    wpAny C.M A whole (PE C ρ σ s σ' b) noE s := by
  rw [hw]
  exact b2 h fun v σ₁ e1 h => b1 h fun b' e2 h => c2 h (wpAny_bind (postK (S.ev e1 room F R) fun ρ₁ u s₁ E1 R1 S1 V1 => wpAny_bind (wpAny_standAt (wpAny_holding (truthy_sound e2 V1 ⟨ρ₁, E1, R1, S1, rfl⟩)))))
theorem isTStep_sound (room : Room A (n + 1)) {e : Expr} {b : Bool} {σ' : St} (h : isTStep r sc e loc σ = some (b, σ')) (F : Frm C.h₀ env sc loc ρ σ.next s.heap) (R : C.R ρ σ s.heap) :
    wpAny C.M A (isTrue e env (eval e env)) (PE C ρ σ s σ' b) noE s := by
  have room' := room_down room
  cases e with
  | UnaryOp op x p =>
    refine bC h (fun ho h => b2 h fun b₁ σ₁ e1 h => c2 h ?_) fun ho h => isTV_sound S room' h F R (by cases op <;> first | rfl | exact nnT ho)
    cases op with
    | Not =>
      rw [arm_isTrue_UnaryOp]
      exact wpAny_bind (postK (S.isT e1 room' F R) fun ρ₁ c s₁ E1 R1 S1 qZ => wpAny_pure ⟨ρ₁, E1, R1, S1, congrArg (!·) qZ⟩)
    | _ => exact nnF ho
  | BoolOp op es p =>
    rw [arm_isTrue_BoolOp]
    exact allT_sound S room' _ _ h F R
  | IfExp t a b p => exact nnO h
  | Compare l ops xs p => exact b1 h fun op qo h => b1 h fun x qx h => oneOf_eq qo ▸ oneOf_eq qx ▸ (cmpE_sound S room' h F R).2 _
  | _ => exact isTV_sound S room' h F R rfl

theorem asgStep_sound (O : GOk C) (room : Room A (n + 1)) {t : Expr} {v : V} {loc' : Loc} {σ' : St} {u : Value} (h : asgStep C.G r sc t v loc σ = some (loc', σ')) (F : Frm C.h₀ env sc loc ρ σ.next s.heap) (R : C.R ρ σ s.heap) (V : Val s.heap ρ σ.next u v) :
    wpAny C.M A (assign t env u) (PF C (Xof env) env sc ρ σ s σ' loc') noE s := by
  have room' := room_down room
  have loose : ∀ {s' : Shared} {P : Pl → Heap → Prop} {σ' : St}, Post C NoX ρ σ s σ' P s' → Post C (Xof env) ρ σ s σ' P s' := fun p => p.weaken fun _ q => q.elim
  cases t with
  | Name x p =>
    refine b1 h fun kd q h => bT h fun hk h => c2 h (wpAny_assign_Name ?_)
    cases kd with
    | «local» => exact wpAny_mono (store_local F R q V) (fun _ s' p => p.weaken fun a q => .inl q) fun _ _ q => q
    | cell => exact store_cell F R q V
    | _ => exact nnF hk
  | Tuple ts k p => exact b1 h fun l hs h => bT h fun _ h => tuple_sound (X := Xof env) (g := r.asg sc) (fun {t v loc σ loc' σ'} e {ρ s u} F R V => S.asg e room' F R V) (fun _ q => q) room.handled hs h F R V
  | Attribute o a p =>
    refine b2 (show (bnd2 (r.ev sc o loc σ) fun ov σ => bnd (setAttrV C.G σ ov a v) fun σ => some (loc, σ)) = some (loc', σ') from h) fun ov σ₁ e1 h => b1 h fun σ₂ e2 h => c2 h ?_
    rw [arm_assign_Attribute]
    refine wpAny_bind (wpAny_holding (postK (S.ev e1 room' F R) fun ρ₁ uo s₁ E1 R1 S1 V1 => wpAny_bind (wpAny_standAt (wpAny_bind (wpAny_holding (postK (setAttr_sound O R1 V1 (E1.val noSeq_noX V) e2) fun ρ₂ _ s₂ E2 R2 S2 _ => ?_))))))
    exact wpAny_release (loose ⟨ρ₂, E1.trans E2, R2, S1.trans S2, F.ext (E1.trans E2)⟩)
  | Subscript o i p =>
    refine bF h fun hns h => b2 h fun ov σ₁ e1 h => b2 h fun iv σ₂ e2 h => b1 h fun σ₃ e3 h => c2 h ?_
    rw [arm_assign_Subscript]
    refine wpAny_bind (wpAny_holding (postK (S.ev e1 room' F R) fun ρ₁ uo s₁ E1 R1 S1 V1 => wpAny_bind (wpAny_holding (postK (S.ev e2 room' (F.ext E1) R1) fun ρ₂ ui s₂ E2 R2 S2 V2 => ?_))))
    have E12 := E1.trans E2
    refine wpAny_bind (wpAny_standAt (wpAny_bind (wpAny_holding (postK (store_sound room' R2 (E2.val noSeq_noX V1) V2 (E12.val noSeq_noX V) e3) fun ρ₃ _ s₃ E3 R3 S3 _ => ?_))))
    exact wpAny_release (loose ⟨ρ₃, E12.trans E3, R3, (S1.trans S2).trans S3, F.ext (E12.trans E3)⟩)
  | _ => exact nnO h
end
end
section
open PySem PySem.Calls PyProof.Rows PySem.W PySem.SeqAt
set_option maxRecDepth 100000

noncomputable def nameAt (env : Env) (l : Nat) (t : Expr) : Option Str := match t with
  | .Name id pos => if env.kindOf id == some .local && pos.line == l then some id else none
  | _ => none
noncomputable def targetNames (env : Env) (ts : List Expr) : List Str := ts.filterMap (nameAt env ((ts.head?.map (·.pos.line)).getD 0))
theorem swapped_eq (ts vs : List Expr) (k k' : Nat) (p p' : Pos) (env : Env) : ∃ st : Expr → Bool, swappedStores [.Tuple ts k p] (.Tuple vs k' p') env =
    (if (!(ts.length == 2 || ts.length == 3) || vs.length != ts.length || env.blockKind != .function) = true then pure none
    else if vs.any st = true then pure none
    else if ((targetNames env ts).length != ts.length || (targetNames env ts).eraseDups.length != (targetNames env ts).length) = true then pure none
    else if (vs.all (foldedForSure 8)) = true then pure none
    else if (vs.all (constantsAlone 8)) = true then unsupported "assign.tuple-of-constant-expressions:order-of-the-stores"
    else pure (some (targetNames env ts))) := ⟨_, rfl⟩
theorem swapped_other {t e : Expr} {env : Env} (h1 : (notStar t && !Nat.beq t.ctorIdx 24) = true) (h : isTupE t = false ∨ isTupE e = false) : swappedStores [t] e env = pure none := by
  cases t with
  | Tuple ts k p => cases e <;> first | rfl | exact h.elim nnT nnT
  | List ts p => exact nnF h1
  | _ => rfl

noncomputable def TheNames : List Expr → List Str → Prop
  | [], [] => True
  | t :: ts, x :: xs => (∃ p, t = .Name x p) ∧ TheNames ts xs
  | _, _ => False
theorem nameAt_eq {env : Env} {l : Nat} {t : Expr} {x : Str} (h : nameAt env l t = some x) : (∃ p, t = .Name x p) ∧ env.kindOf x = some .local := by
  cases t with
  | Name id pos =>
    have h : (if env.kindOf id == some .local && pos.line == l then some id else none) = some x := h
    by_cases q : (env.kindOf id == some .local && pos.line == l) = true
    · rw [if_pos q] at h
      rw [← Option.some.inj h]
      exact ⟨⟨pos, rfl⟩, beq_iff_eq.mp (Bool.and_eq_true_iff.mp q).1⟩
    · rw [if_neg q] at h; exact nnO h
  | _ => exact nnO h
theorem names_all {env : Env} {l : Nat} : ∀ {ts : List Expr}, (ts.filterMap (nameAt env l)).length = ts.length → TheNames ts (ts.filterMap (nameAt env l)) ∧ ∀ x ∈ ts.filterMap (nameAt env l), env.kindOf x = some .local
  | [], _ => ⟨trivial, fun x hx => nomatch hx⟩
  | t :: ts, h => by
    have hle := List.length_filterMap_le (nameAt env l) ts
    cases q : nameAt env l t with
    | none =>
      rw [List.filterMap_cons_none q] at h
      exact absurd hle (Nat.not_le.mpr (h ▸ Nat.lt_succ_self _))
    | some x =>
      rw [List.filterMap_cons_some q] at h ⊢
      have y := names_all (Nat.succ.inj h)
      have z := nameAt_eq q
      exact ⟨⟨z.1, y.1⟩, List.forall_mem_cons.mpr ⟨z.2, y.2⟩⟩

section
variable {C : Cx} {A : Around} {env : Env} {sc : Scope} {ρ : Pl} {σ : St} {s : Shared}
noncomputable def setLs : List Str → List V → Loc → Loc
  | x :: xs, v :: vs, loc => setLs xs vs (setL x v loc)
  | _, _, loc => loc
theorem setLs_look : ∀ (xs : List Str) (vs : List V) (loc : Loc) (y : Str), y ∉ xs → lookS y (setLs xs vs loc) = lookS y loc
  | [], _, _, _, _ => by unfold setLs; rfl
  | x :: xs, [], _, _, _ => rfl
  | x :: xs, v :: vs, loc, y, h => by
    rw [setLs, setLs_look xs vs _ y (fun q => h (.tail _ q)), lookS_setL, if_neg (fun q => h (by rw [q]; exact .head _))]
theorem setLs_append : ∀ (xs : List Str) (vs : List V) (ys : List Str) (ws : List V) (loc : Loc), xs.length = vs.length → setLs (xs ++ ys) (vs ++ ws) loc = setLs ys ws (setLs xs vs loc)
  | [], [], _, _, _, _ => rfl
  | x :: xs, v :: vs, ys, ws, loc, h => by
    show setLs (xs ++ ys) (vs ++ ws) (setL x v loc) = _
    rw [setLs_append xs vs ys ws _ (by simpa using h)]
    rfl
  | [], _ :: _, _, _, _, h => by cases h
  | _ :: _, [], _, _, _, h => by cases h
theorem setLs_rev : ∀ (xs : List Str) (vs : List V) (loc : Loc) (y : Str), xs.length = vs.length → xs.Nodup → lookS y (setLs xs.reverse vs.reverse loc) = lookS y (setLs xs vs loc)
  | [], [], _, _, _, _ => rfl
  | [], _ :: _, _, _, h, _ => by cases h
  | _ :: _, [], _, _, h, _ => by cases h
  | x :: xs, v :: vs, loc, y, h, hn => by
    have h' : xs.length = vs.length := by simpa using h
    rw [List.nodup_cons] at hn
    rw [List.reverse_cons, List.reverse_cons, setLs_append _ _ _ _ _ (by simp [h'])]
    show lookS y (setL x v (setLs xs.reverse vs.reverse loc)) = lookS y (setLs xs vs (setL x v loc))
    rw [← setLs_rev xs vs (setL x v loc) y h' hn.2, lookS_setL]
    by_cases q : y = x
    · subst q
      rw [if_pos rfl, setLs_look _ _ _ _ (by simpa using hn.1), lookS_setL, if_pos rfl]
    · rw [if_neg q]
      -- y is another name
      have key : ∀ (xs : List Str) (vs : List V) (l1 l2 : Loc), lookS y l1 = lookS y l2 → lookS y (setLs xs vs l1) = lookS y (setLs xs vs l2) := by
        intro xs
        induction xs with
        | nil => intro vs l1 l2 e; unfold setLs; exact e
        | cons z zs ih =>
          intro vs l1 l2 e
          cases vs with
          | nil => exact e
          | cons w ws => exact ih ws _ _ (by rw [lookS_setL, lookS_setL, e])
      exact key _ _ _ _ (by rw [lookS_setL, if_neg q])

theorem Frm.look {h₀ h : Heap} {n : Nat} {loc loc' : Loc} (F : Frm h₀ env sc loc ρ n h) (e : ∀ y, lookS y loc' = lookS y loc) : Frm h₀ env sc loc' ρ n h :=
  ⟨F.scope, F.fn, F.glob, F.blt, F.ns.imp fun m y => ⟨y.1, fun x v hx hl => y.2 x v hx (e x ▸ hl)⟩, F.off, F.out, fun x k hx hk => (F.cell x k hx hk).imp fun c y => y.imp fun o y => y.imp fun ct y => ⟨y.1, y.2.1, y.2.2.1, y.2.2.2.1, y.2.2.2.2.1, fun v hl => y.2.2.2.2.2 v (e x ▸ hl)⟩, F.cdist, F.clo⟩

theorem bind_names : ∀ (xs : List Str) (vs : List V) {loc : Loc} {ρ : Pl} {s : Shared} {us : List Value}, xs.length = vs.length → (∀ x ∈ xs, lookS x sc.names = some .local) → Frm C.h₀ env sc loc ρ σ.next s.heap → C.R ρ σ s.heap → Vals s.heap ρ σ.next us vs →
    wpAny C.M A (assignInOrder (xs.map fun x => bindName env x) us) (fun _ => Post C (Xof env) ρ σ s σ fun ρ' h => Frm C.h₀ env sc (setLs xs vs loc) ρ' σ.next h) noE s := by
  intro xs
  induction xs with
  | nil =>
    intro vs loc ρ s us h hl F R V
    cases vs with
    | nil => exact V.e_nil (wpAny_pure (Post.here' R F))
    | cons _ _ => exact nomatch h
  | cons x xs ih =>
    intro vs loc ρ s us h hl F R V
    cases vs with
    | nil => exact nomatch h
    | cons v vs =>
      have hl := List.forall_mem_cons.mp hl
      refine V.e_cons fun u us V1 V => ?_
      show wpAny _ _ (holding us (bindName env x u) >>= fun _ => assignInOrder (xs.map fun x => bindName env x) us) _ _ _
      refine wpAny_bind (wpAny_holding (wpAny_bindName (postK (store_local F R hl.1 V1) fun ρ₁ _ s₁ E1 R1 S1 F1 => ?_)))
      have nX : NoSeq (fun a => a = env.locals) s.heap := fun a o hx => F.noSeq a o (.inl hx)
      exact wpAny_mono (ih vs (Nat.succ.inj h) hl.2 F1 R1 (E1.vals nX V)) (fun _ s₂ q => q.trans (E1.weaken fun a q => .inl q) S1) fun _ _ q => q

theorem asgLocs_names (fs : Expr → V → Loc → Option Loc) (hf : ∀ x p v loc, lookS x sc.names = some .local → fs (.Name x p) v loc = some (setL x v loc)) : ∀ (ts : List Expr) (xs : List Str) (vs : List V) (loc loc' : Loc), TheNames ts xs → (∀ x ∈ xs, lookS x sc.names = some .local) → asgLocs fs ts vs loc = some loc' → loc' = setLs xs vs loc ∧ xs.length = vs.length := by
  intro ts
  induction ts with
  | nil =>
    intro xs vs loc loc' h hl e
    cases xs with
    | nil => exact bT e fun hn e => by rw [List.isEmpty_iff.mp hn, ← Option.some.inj e]; exact ⟨rfl, rfl⟩
    | cons _ _ => exact h.elim
  | cons t ts ih =>
    intro xs vs loc loc' h hl e
    cases xs with
    | nil => exact h.elim
    | cons x xs =>
      have hl := List.forall_mem_cons.mp hl
      refine h.1.elim fun p et => bT e fun _ e => b2 e fun v vs' q e => b1 e fun loc₁ q' e => ?_
      rw [et, hf x p v loc hl.1] at q'
      have y := ih xs vs' _ loc' h.2 hl.2 e
      rw [unc_eq q]
      rw [← Option.some.inj q'] at y
      exact ⟨y.1, congrArg (· + 1) y.2⟩
theorem nodup_of_dups {xs : List Str} (h : xs.eraseDups.length = xs.length) : xs.Nodup := by
  have key : ∀ (n : Nat) (xs : List Str), xs.length = n → xs.eraseDups.length = xs.length → xs.Nodup := by
    intro n
    induction n using Nat.strongRecOn with
    | ind n ih =>
      intro xs hn h
      cases xs with
      | nil => exact List.nodup_nil
      | cons x xs =>
        rw [List.eraseDups_cons] at h
        simp only [List.length_cons, Nat.succ.injEq] at h
        have h1 := List.length_filter_le (fun b => !(b == x)) xs
        have h2 : ∀ l : List Str, l.eraseDups.length ≤ l.length := by
          intro l
          have : ∀ (m : Nat) (l : List Str), l.length = m → l.eraseDups.length ≤ l.length := by
            intro m
            induction m using Nat.strongRecOn with
            | ind m ihm =>
              intro l hm
              cases l with
              | nil => simp
              | cons y l =>
                rw [List.eraseDups_cons]
                have h3 := List.length_filter_le (fun b => !(b == y)) l
                have := ihm _ (by simp only [List.length_cons] at hm; omega) (l.filter fun b => !(b == y)) rfl
                simp only [List.length_cons]; omega
          exact this _ l rfl
        have h3 := h2 (xs.filter fun b => !(b == x))
        have hf : (xs.filter fun b => !(b == x)).length = xs.length := by omega
        have hfe : xs.filter (fun b => !(b == x)) = xs := (List.filter_sublist).eq_of_length hf
        rw [hfe] at h
        rw [List.nodup_cons]
        refine ⟨fun hx => ?_, ih xs.length (by simp only [List.length_cons] at hn; omega) xs rfl h⟩
        have := List.filter_eq_self.mp hfe x hx
        simp at this
  exact key _ xs rfl h
end
end
section
open PySem PySem.Calls PyProof.Rows PySem.W PySem.SeqAt
set_option maxRecDepth 100000

section
variable {C : Cx} {r : Rec} {n : Nat} (S : Sound C r n) {sc : Scope} {loc : Loc} {A : Around} {env : Env} {σ : St} {ρ : Pl} {s : Shared}

theorem FlOk.e_next {h : Heap} {ρ : Pl} {k : Nat} {fl : Flow} (x : FlOk h ρ k fl .next) : fl = .next := by cases x; rfl
theorem FlOk.e_ret {h : Heap} {ρ : Pl} {k : Nat} {fl : Flow} {v : V} (x : FlOk h ρ k fl (.ret v)) : ∃ u, fl = .ret u ∧ Val h ρ k u v := by cases x; exact ⟨_, rfl, ‹_›⟩
structure LoopAt (C : Cx) (env : Env) (sc : Scope) (I J : Addr) (ρ₀ : Pl) (σ₀ : St) (s₀ : Shared) (it : It) (loc : Loc) (ρ : Pl) (σ : St) (s : Shared) : Prop where
  E : Ext (Xof env) ρ₀ σ₀.next s₀.heap ρ σ.next s.heap
  R : C.R ρ σ s.heap
  S : Same s₀ s
  it : ItAt s.heap ρ σ.next I J it
  F : Frm C.h₀ env sc loc ρ σ.next s.heap
  nI : ¬ Own ρ σ.next I
  nJ : ¬ Own ρ σ.next J
structure LoopBase (C : Cx) (env : Env) (I J : Addr) (s₀ : Shared) : Prop where
  hI : s₀.heap.get? I = none
  hJ : s₀.heap.get? J = none
  zI : C.h₀.get? I = none
  zJ : C.h₀.get? J = none
  xI : ¬ Xof env I
  xJ : ¬ Xof env J
theorem Frm.xof {h₀ h : Heap} {k : Nat} (F : Frm h₀ env sc loc ρ k h) {a : Addr} (x : Xof env a) : ∃ o, h.get? a = some o :=
  x.elim (fun x => F.ns.elim fun m y => x ▸ ns_obj y.1) fun x => x.elim fun x hx => (F.clo x a hx).elim fun k y => (F.cell x k y.1 y.2).elim fun c z => z.elim fun o z => z.elim fun ct z => ⟨o, Option.some.inj (hx.symm.trans z.1) ▸ z.2.1⟩
theorem LoopAt.post {I J : Addr} {ρ₀ : Pl} {σ₀ : St} {s₀ : Shared} {it : It} {loc loc' : Loc} {ρ ρ' : Pl} {σ σ' : St} {s s' : Shared} (B : LoopBase C env I J s₀) (T : LoopAt C env sc I J ρ₀ σ₀ s₀ it loc ρ σ s) (E : Ext (Xof env) ρ σ.next s.heap ρ' σ'.next s'.heap) (R : C.R ρ' σ' s'.heap) (S : Same s s') (F : Frm C.h₀ env sc loc' ρ' σ'.next s'.heap) :
    LoopAt C env sc I J ρ₀ σ₀ s₀ it loc' ρ' σ' s' :=
  have lv := T.it.live
  ⟨T.E.trans E, R, T.S.trans S, T.it.mono (E.froz T.F.noSeq) E.ext E.le (fun o e => E.pres _ _ e T.nI B.xI) (fun o e => E.pres _ _ e T.nJ B.xJ), F, lv.1.elim fun o e => E.notOwn e.1 T.nI, lv.2.elim fun o e => E.notOwn e.1 T.nJ⟩
theorem LoopAt.but {I J : Addr} {ρ₀ : Pl} {σ₀ : St} {s₀ : Shared} {it it' : It} {loc : Loc} {ρ : Pl} {σ : St} {s : Shared} (B : LoopBase C env I J s₀) (T : LoopAt C env sc I J ρ₀ σ₀ s₀ it loc ρ σ s) {h' : Heap} {tk : Nat} (hb : But I J s.heap h') (hit : ItAt h' ρ σ.next I J it') :
    LoopAt C env sc I J ρ₀ σ₀ s₀ it' loc ρ σ { s with heap := h', toks := tk } :=
  have lv := T.it.live
  ⟨T.E.but B.hI B.hJ hb, T.R.but hb B.zI B.zJ T.nI T.nJ lv.1 lv.2, T.S.trans ⟨rfl, rfl, rfl⟩, hit, T.F.but hb B.xI B.xJ lv.1 lv.2, T.nI, T.nJ⟩

noncomputable abbrev StmtPost (C : Cx) (env : Env) (sc : Scope) (ρ : Pl) (σ : St) (s : Shared) (f : Fl) (loc' : Loc) (σ' : St) (fl : Flow) (s' : Shared) : Prop :=
  Post C (Xof env) ρ σ s σ' (fun ρ' h => Frm C.h₀ env sc loc' ρ' σ'.next h ∧ FlOk h ρ' σ'.next fl f) s'

include S
theorem forLoop_sound (room : Room A n) {I J : Addr} {ρ₀ : Pl} {σ₀ : St} {s₀ : Shared} (B : LoopBase C env I J s₀) {tgt : Expr} {body : List Stmt} {k : Nat} {it : It} {f : Fl} {loc' : Loc} {σ' : St} {R : Result → Shared → Prop}
    (hR : ∀ fl s', StmtPost C env sc ρ₀ σ₀ s₀ f loc' σ' fl s' → R (.ok fl) s') (ht : tupFor it tgt = true) (e : forE r sc tgt body k it loc σ = some (f, loc', σ')) (T : LoopAt C env sc I J ρ₀ σ₀ s₀ it loc ρ σ s) :
    codeAny C.M A (.forLoop tgt (.ref I) body [] env) R s := by
  refine codeAny_forLoop_any (fun k s => ∃ it loc ρ σ, tupFor it tgt = true ∧ forE r sc tgt body k it loc σ = some (f, loc', σ') ∧ LoopAt C env sc I J ρ₀ σ₀ s₀ it loc ρ σ s) (fun k s hI => ?_) k ⟨it, loc, ρ, σ, ht, e, T⟩
  refine ea_4_3 (hI) (fun it loc ρ σ ht e T => ?_)
  cases k with
  | zero => exact nnO e
  | succ k =>
    refine b1 e fun q en e => bO e (fun p qp e => ?_) fun qn e => ?_
    · rw [qp] at en
      refine b2 e fun loc₁ σ₁ ea e => b3 e fun f₁ loc₂ σ₂ ex e => wpAny_mono (next_item T.R room.handled ht T.it en fun ht' u s₁ go => wpAny_mono (go fun h' tk hb hit hv => ?_) (fun _ _ q => q) fun _ _ q => q.elim) (fun _ _ q => q) fun _ _ q => q.elim
      have T1 := T.but B (tk := tk) hb hit
      refine postK (S.asg ea room T1.F T1.R hv) fun ρ₃ _ s₃ E3 R3 S3 F3 => ?_
      have T2 := T1.post B E3 R3 S3 F3
      refine postK (S.exs ex room F3 R3) fun ρ₄ fl s₄ E4 R4 S4 qZ => ?_
      have T3 := T2.post B E4 R4 S4 qZ.1
      cases f₁ with
      | next => rw [qZ.2.e_next]; exact ⟨k, Nat.lt_succ_self _, p.2, loc₂, ρ₄, σ₂, ht', e, T3⟩
      | ret w => exact qZ.2.e_ret.elim fun u z => by rw [z.1]; exact hR _ _ (c3 e ⟨ρ₄, T3.E, T3.R, T3.S, T3.F, .ret z.2⟩)
    · rw [qn] at en
      refine wpAny_mono (next_end T.R room.handled T.it en fun h' hb => wpAny_execs_nil (hR _ _ (c3 e ?_))) (fun _ _ q => q) fun _ _ q => q.elim
      have lv := T.it.live
      exact ⟨ρ, T.E.but B.hI B.hJ hb, T.R.but hb B.zI B.zJ T.nI T.nJ lv.1 lv.2, T.S.trans ⟨rfl, rfl, rfl⟩, T.F.but hb B.xI B.xJ lv.1 lv.2, .next⟩

theorem whileLoop_sound (room : Room A n) {ρ₀ : Pl} {σ₀ : St} {s₀ : Shared} {test : Expr} {body : List Stmt} {k : Nat} {f : Fl} {loc' : Loc} {σ' : St} {R : Result → Shared → Prop}
    (hR : ∀ fl s', StmtPost C env sc ρ₀ σ₀ s₀ f loc' σ' fl s' → R (.ok fl) s') (e : whileE r sc test body k loc σ = some (f, loc', σ')) (E0 : Ext (Xof env) ρ₀ σ₀.next s₀.heap ρ σ.next s.heap) (R0 : C.R ρ σ s.heap) (S0 : Same s₀ s) (F0 : Frm C.h₀ env sc loc ρ σ.next s.heap) :
    codeAny C.M A (.whileLoop test body [] env) R s := by
  refine codeAny_whileLoop (fun k s => ∃ loc ρ σ, whileE r sc test body k loc σ = some (f, loc', σ') ∧ Ext (Xof env) ρ₀ σ₀.next s₀.heap ρ σ.next s.heap ∧ C.R ρ σ s.heap ∧ Same s₀ s ∧ Frm C.h₀ env sc loc ρ σ.next s.heap) (fun k s hI => ?_) k ⟨loc, ρ, σ, e, E0, R0, S0, F0⟩
  refine ea_3_5 (hI) (fun loc ρ σ e E R S' F => ?_)
  cases k with
  | zero => exact nnO e
  | succ k =>
    refine b2 e fun b σ₁ et e => postK (S.isT et room F R) fun ρ₁ c s₁ E1 R1 S1 qZ => ?_
    rw [qZ]
    have E1' := E.trans (E1.of_noX (X := Xof env))
    cases b with
    | false => exact wpAny_execs_nil (hR _ _ (c3 e ⟨ρ₁, E1', R1, S'.trans S1, F.ext E1, .next⟩))
    | true =>
      refine b3 (show (bnd3 (r.exs sc body loc σ₁) fun f loc σ => flw loc σ (whileE r sc test body k loc σ) f) = some (f, loc', σ') from e) fun f₁ loc₂ σ₂ ex e => postK (S.exs ex room (F.ext E1) R1) fun ρ₂ fl s₂ E2 R2 S2 qZ => ?_
      cases f₁ with
      | next => rw [qZ.2.e_next]; exact ⟨k, Nat.lt_succ_self _, loc₂, ρ₂, σ₂, e, E1'.trans E2, R2, (S'.trans S1).trans S2, qZ.1⟩
      | ret w => exact qZ.2.e_ret.elim fun u z => by rw [z.1]; exact hR _ _ (c3 e ⟨ρ₂, E1'.trans E2, R2, (S'.trans S1).trans S2, qZ.1, .ret z.2⟩)

theorem asgS_sound (room : Room A n) {t e : Expr} {v : V} {loc' : Loc} {σ' : St} {u : Value} (h : asgS r sc t e v loc σ = some (loc', σ')) (F : Frm C.h₀ env sc loc ρ σ.next s.heap) (R : C.R ρ σ s.heap) (V : Val s.heap ρ σ.next u v) :
    wpAny C.M A (assign t env u) (PF C (Xof env) env sc ρ σ s σ' loc') noE s := by
  exact bC h (fun _ h => b1 h fun loc₁ q h => c2 h (wpAny_mono (asgLocN_sound room.handled 1 q F R V) (fun _ s' p => p.weaken fun a q => .inl q) fun _ _ q => q)) fun _ h => S.asg h room F R V

omit S in
theorem isLocO_eq {o : Option NameKind} (h : isLocO o = true) : o = some .local := by
  cases o with
  | none => exact nnF h
  | some k => cases k <;> first | rfl | exact nnF h
omit S in
theorem allLocal_mem : ∀ {ts : List Expr}, allLocal sc ts = true → ∀ {xs : List Str}, TheNames ts xs → ∀ x ∈ xs, lookS x sc.names = some .local
  | [], _, [], _ => fun x hm => nomatch hm
  | [], _, _ :: _, hx => hx.elim
  | _ :: _, _, [], hx => hx.elim
  | t :: ts, h, y :: ys, hx => bT2 (show cond (isLocO (bnd (nameOf t) fun x => lookS x sc.names)) (allLocal sc ts) false = true from h) fun q h => List.forall_mem_cons.mpr ⟨hx.1.elim fun p et => by rw [et] at q; exact isLocO_eq q, allLocal_mem h hx.2⟩
omit S in
theorem names_local (F : Frm C.h₀ env sc loc ρ σ.next s.heap) : ∀ {ts : List Expr} {xs : List Str}, TheNames ts xs → (∀ x ∈ xs, env.kindOf x = some .local) → allLocal sc ts = true
  | [], _, _, _ => rfl
  | _ :: _, [], hx, _ => hx.elim
  | t :: ts, y :: ys, hx, hk => by
    have hk := List.forall_mem_cons.mp hk
    refine ea_1_1 (hx.1) (fun p et => ?_)
    show cond (isLocO (bnd (nameOf t) fun x => lookS x sc.names)) (allLocal sc ts) false = true
    rw [et, names_local F hx.2 hk.2]
    show cond (isLocO (lookS y sc.names)) true false = true
    rw [← kindOf_eq (C := C) (σ := σ) (s := s) (ρ := ρ) F, hk.1]; rfl

theorem stores_plain (room : Room A n) {t e : Expr} {v : V} {loc' : Loc} {σ' : St} {u : Value} (hst : notStar t = true) (h : asgS r sc t e v loc σ = some (loc', σ')) (F : Frm C.h₀ env sc loc ρ σ.next s.heap) (R : C.R ρ σ s.heap) (V : Val s.heap ρ σ.next u v) :
    wpAny C.M A (assignStores env u none ((assignEach [t] env).map (·.2))) (fun fl => StmtPost C env sc ρ σ s .next loc' σ' fl) noE s := by
  rw [assignEach_cons [] env hst]
  show wpAny _ _ (assign t env u >>= fun _ => (pure Flow.next : Sem Flow)) _ _ _
  exact wpAny_bind (wpAny_mono (asgS_sound S room h F R V) (fun _ s' p => wpAny_pure (p.mono fun _ _ q => ⟨q, .next⟩)) fun _ _ q => q)
omit S in
theorem vals_rev {h : Heap} {k : Nat} {us : List Value} {l : List V} (x : Vals h ρ k us l) : Vals h ρ k us.reverse l.reverse :=
  x.ind (P := fun us l => Vals h ρ k us.reverse l.reverse) .nil fun {u us v l} a _ ih => by rw [List.reverse_cons, List.reverse_cons]; exact ih.append (.cons a .nil)
omit S in
theorem stores_swapped (room : Room A n) {ts : List Expr} {xs : List Str} {c : Nat} {p : Pos} {v : V} {loc' : Loc} {u : Value} (hT : TheNames ts xs) (hloc : ∀ x ∈ xs, lookS x sc.names = some .local) (hdup : xs.eraseDups.length = xs.length) (h : asgLocN sc σ 1 (.Tuple ts c p) v loc = some loc') (F : Frm C.h₀ env sc loc ρ σ.next s.heap) (R : C.R ρ σ s.heap) (V : Val s.heap ρ σ.next u v) :
    wpAny C.M A (rule "assign.swapped-stores" >>= fun _ => unpackItems u xs.length none >>= fun items => assignInOrder (xs.reverse.map fun n => bindName env n) items.reverse >>= fun _ => (pure Flow.next : Sem Flow)) (fun fl => StmtPost C env sc ρ σ s .next loc' σ fl) noE s := by
  refine wpAny_bind (wpAny_rule (b1 (show (bnd (seqOf σ v) fun l => cond (sameLen ts l) (asgLocs (asgLocN sc σ 0) ts l loc) none) = some loc' from h) fun l hs h => bT h fun _ h => ?_))
  have y := asgLocs_names (sc := sc) (asgLocN sc σ 0) (fun x p v loc hx => by show (bnd (lookS x sc.names) fun q => cond (isLoc q) (some (setL x v loc)) none) = _; rw [hx]; rfl) ts _ l loc loc' hT hloc h
  refine wpAny_bind (unpack_sound R room.handled V hs y.2 fun us h' kp Vl => ?_)
  refine wpAny_bind (wpAny_mono (bind_names (C := C) (sc := sc) (σ := σ) (s := { s with heap := h' }) xs.reverse l.reverse (by rw [List.length_reverse, List.length_reverse]; exact y.2) (fun x hx => hloc x (List.mem_reverse.mp hx)) (F.ext (Ext.of_grow kp)) (R.grow kp) (vals_rev Vl)) (fun _ s' p => wpAny_pure ?_) fun _ _ q => q)
  refine (Post.trans (s := s) (s₁ := { s with heap := h' }) (Ext.of_grow kp) ⟨rfl, rfl, rfl⟩ p).mono fun ρ' h q => ⟨q.look fun z => ?_, .next⟩
  rw [y.1]
  exact (setLs_rev _ _ _ _ y.2 (nodup_of_dups hdup)).symm
theorem stores_sound (room : Room A n) {t e : Expr} {v : V} {loc' : Loc} {σ' : St} {u : Value} (hok : swapOk sc t e = true) (h : asgS r sc t e v loc σ = some (loc', σ')) (F : Frm C.h₀ env sc loc ρ σ.next s.heap) (R : C.R ρ σ s.heap) (V : Val s.heap ρ σ.next u v) :
    wpAny C.M A (swappedStores [t] e env >>= fun q => assignStores env u q ((assignEach [t] env).map (·.2))) (fun fl => StmtPost C env sc ρ σ s .next loc' σ' fl) noE s := by
  refine bA hok fun h1 h2 => ?_
  have hst : notStar t = true := (Bool.and_eq_true_iff.mp h1).1
  have plain := stores_plain S room hst h F R V
  cases qt : isTupE t with
  | false => rw [swapped_other h1 (.inl qt)]; exact wpAny_bind (wpAny_pure plain)
  | true =>
    cases qe : isTupE e with
    | false => rw [swapped_other h1 (.inr qe)]; exact wpAny_bind (wpAny_pure plain)
    | true =>
      obtain ⟨ts, k, p, rfl⟩ := isTup_of qt
      obtain ⟨vs, k', p', rfl⟩ := isTup_of qe
      refine ea_1_1 (swapped_eq ts vs k k' p p' env) (fun st es => ?_)
      rw [es]
      split
      · exact wpAny_bind (wpAny_pure plain)
      · split
        · exact wpAny_bind (wpAny_pure plain)
        · split
          · exact wpAny_bind (wpAny_pure plain)
          · rename_i hN
            simp only [Bool.or_eq_true, not_or, bne_iff_ne, ne_eq, Decidable.not_not] at hN
            have hnm := names_all (env := env) (ts := ts) (l := (ts.head?.map fun t : Expr => t.pos.line).getD 0) hN.1
            have hall := names_local F hnm.1 hnm.2
            split
            · exact wpAny_bind (wpAny_pure plain)
            · rename_i hfold
              split
              · rename_i hconst
                have h2 : cond (allLocal sc ts) (!(vs.all (constantsAlone 8)) || vs.all (foldedForSure 8)) true = true := h2
                rw [hall, hconst] at h2
                exact absurd h2 hfold
              · have h : cond (true && allLocal sc ts) (bnd (asgLocN sc σ 1 (.Tuple ts k p) v loc) fun loc => some (loc, σ)) _ = some (loc', σ') := h
                rw [hall] at h
                exact wpAny_bind (wpAny_pure (b1 h fun loc₁ ha h => c2 h (stores_swapped room hnm.1 (allLocal_mem hall hnm.1) hN.2 ha F R V)))
end
end
section
open PySem PySem.Calls PyProof.Rows PySem.W PySem.SeqAt
set_option maxRecDepth 100000

theorem exec_Assign_eq (t e : Expr) (pos : Pos) (env : Env) : exec (.Assign [t] e pos) env = (do
    standAt pos
    if ← swapsWithSole [t] e pos.line env then do
      evalThenUse e env fun v => assignAll v ((assignEach [t] env).map (·.2))
      pure .next
    else do
      let v ← eval e env
      assignStores env v (← swappedStores [t] e env) ((assignEach [t] env).map (·.2))) := rfl
theorem comp_no {t e : Expr} {l : Nat} {env : Env} (h : isComp e = true) : nameOf t = none → swapsWithSole [t] e l env = pure false := by
  cases e <;> first | exact nnF h | (clear h; cases t <;> first | exact fun _ => rfl | exact fun q => nnP q)
theorem comp_swaps {t e : Expr} {l : Nat} {env : Env} (h : isComp e = true) : ∃ b, swapsWithSole [t] e l env = pure b ∧ (b = true → ∃ x, nameOf t = some x) := by
  cases q : nameOf t with
  | none => exact ⟨false, comp_no h q, fun q => nnF q⟩
  | some x =>
    obtain ⟨p, rfl⟩ := nameOf_eq q
    have : ∃ b, swapsWithSole [.Name x p] e l env = pure b := by cases e <;> first | exact nnF h | exact ⟨_, rfl⟩
    exact this.imp fun b y => ⟨y, fun _ => ⟨x, rfl⟩⟩
theorem swaps_pure (t e : Expr) (l : Nat) (env : Env) : ∃ b, swapsWithSole [t] e l env = pure b ∧ (b = true → isComp e = true ∧ ∃ x p, t = .Name x p) := by
  cases h : isComp e with
  | false => exact ⟨false, by cases e <;> first | rfl | exact nnT h, fun q => nnF q⟩
  | true => exact (comp_swaps h).imp fun b y => ⟨y.1, fun q => ⟨rfl, (y.2 q).imp fun x z => nameOf_eq z⟩⟩
theorem call_of {e : Expr} (h : notCall e = false) : ∃ g as kw p, e = .Call g as kw p := by
  cases e <;> first | exact ⟨_, _, _, _, rfl⟩ | exact nnT h

section
variable {C : Cx} {r : Rec} {n : Nat} (S : Sound C r n) {sc : Scope} {loc : Loc} {A : Around} {env : Env} {σ : St} {ρ : Pl} {s : Shared}
include S

theorem Assign_sound (room : Room A n) {t e : Expr} {pos : Pos} {v : V} {loc' : Loc} {σ₁ σ' : St} (hok : swapOk sc t e = true) (e1 : r.ev sc e loc σ = some (v, σ₁)) (h : asgS r sc t e v loc σ₁ = some (loc', σ')) (F : Frm C.h₀ env sc loc ρ σ.next s.heap) (R : C.R ρ σ s.heap) :
    wpAny C.M A (exec (.Assign [t] e pos) env) (fun fl => StmtPost C env sc ρ σ s .next loc' σ' fl) noE s := by
  rw [exec_Assign_eq]
  refine ea_1_2 (swaps_pure t e pos.line env) (fun b hb hbt => ?_)
  refine wpAny_bind (wpAny_standAt (wpAny_bind (wpAny_of_eq hb ?_)))
  cases b with
  | false =>
    simp only [Bool.false_eq_true, if_false]
    exact wpAny_bind (postK (S.ev e1 room F R) fun ρ₁ u s₁ E1 R1 S1 V1 => wpAny_mono (stores_sound S room hok h (F.ext E1) R1 V1) (fun fl s' p => Post.trans (E1.of_noX) S1 p) fun _ _ q => q)
  | true =>
    refine ea_2_1 ((hbt rfl).2) (fun x p et => ?_)
    simp only [if_true]
    refine wpAny_bind (wpAny_mono (S.use e1 (hbt rfl).1 room F R (Q := fun s' => StmtPost C env sc ρ σ s .next loc' σ' .next s') fun cenv uv s' hL hx => ?_) (fun _ s' q => wpAny_pure q) fun _ _ q => q)
    refine ea_1_6 (hx) (fun ρ' E' R' S' V' hns hn => ?_)
    have heach : (assignEach [t] env).map (·.2) = [assign t env] := by rw [et]; rfl
    rw [heach]
    show wpAny _ _ (assign t env uv) _ _ _
    refine postK (asgS_sound S room h (F.ext E') R' V') fun ρ'' _ s'' E'' R'' S'' F'' => ?_
    have xL : ¬ Xof env cenv.locals := fun q => (F.xof q).elim fun o ho => get_ne ho hL rfl
    have keep : ∀ o, s'.heap.get? cenv.locals = some o → s''.heap.get? cenv.locals = some o := fun o e => E''.pres _ _ e hn xL
    refine hns.elim fun m hns => ⟨⟨m, ns_at hns keep⟩, fun h' hs => (ns_obj hns).elim fun o ho => ?_⟩
    have hb : But cenv.locals cenv.locals s''.heap h' := fun b o h1 _ e => (hs.2 b h1).trans e
    have live : Dull s''.heap cenv.locals := ⟨o, keep o ho, ns_notSeq hns o ho⟩
    exact ⟨ρ'', ((E'.of_noX (X := Xof env)).trans E'').but hL hL hb, R''.off hs.extBut (E''.notOwn ho hn) (keep_none R.keep hL) (ns_notSeq (ns_at hns keep)), (S'.trans S'').trans ⟨rfl, rfl, rfl⟩, F''.but hb xL xL live live, .next⟩

theorem exS_sound (O : GOk C) (room : Room A n) {st : Stmt} {f : Fl} {loc' : Loc} {σ' : St} (h : exS C.G r sc st loc σ = some (f, loc', σ')) (F : Frm C.h₀ env sc loc ρ σ.next s.heap) (R : C.R ρ σ s.heap) :
    wpAny C.M A (exec st env) (fun fl => StmtPost C env sc ρ σ s f loc' σ' fl) noE s := by
  cases st with
  | Expr e p =>
    refine bF h fun hc h => b2 h fun w σ₁ e1 h => b1 h fun _ q h => c3 h ?_
    have hk : env.scope.kind = .function := (congrArg Scope.kind F.scope).trans F.fn
    refine ea_4_1 (call_of hc) (fun g as kw p' ec => ?_)
    rw [ec] at e1 ⊢
    refine wpAny_Expr (postK (S.ev e1 room F R) fun ρ₁ u s₁ E1 R1 S1 V1 => ?_) (by unfold interactive; rw [hk]; rfl) rfl
    obtain rfl := asNone_eq q
    exact V1.e_none ⟨ρ₁, E1.of_noX, R1, S1, F.ext E1, .next⟩
  | Assign ts e p => exact b1 h fun t q h => bT h fun hok h => b2 h fun w σ₁ e1 h => b2 h fun loc₁ σ₂ e2 h => c3 h (oneOf_eq q ▸ Assign_sound S room hok e1 e2 F R)
  | If t a b p =>
    refine wpAny_If (b2 (show (bnd2 (r.isT sc t loc σ) fun c σ => cond c (r.exs sc a loc σ) (r.exs sc b loc σ)) = some (f, loc', σ') from h) fun c σ₁ e1 h => postK (S.isT e1 room F R) fun ρ₁ c' s₁ E1 R1 S1 qZ => ?_)
    rw [qZ]
    cases c with
    | true => exact wpAny_mono (S.exs h room (F.ext E1) R1) (fun fl s' p => Post.trans E1.of_noX S1 p) fun _ _ q => q
    | false => exact wpAny_mono (S.exs h room (F.ext E1) R1) (fun fl s' p => Post.trans E1.of_noX S1 p) fun _ _ q => q
  | While t body els p => exact bT h fun hn h => List.isEmpty_iff.mp hn ▸ wpAny_While (whileLoop_sound S room (fun fl s' p => p) h Ext.refl R (Same.refl s) F)
  | For t it body els p =>
    refine bT h fun hn h => b2 h fun it' σ₁ e1 h => List.isEmpty_iff.mp hn ▸ ?_
    have y := startIt_sound S O room e1 F R
    refine wpAny_For (wpAny_mono y.1 (fun x s₁ h₁ => wpAny_mono h₁ (fun u s₂ h₂ => ?_) fun _ _ q => q) fun _ _ q => q) y.2
    obtain ⟨I, J, ρ', qu, E, R', S', T, nI, nJ, oI, oJ, ht⟩ := h₂
    have xx : ∀ {a}, s.heap.get? a = none → ¬ Xof env a := fun {a} ha q => (F.xof q).elim fun o ho => get_ne ho ha rfl
    rw [qu]
    exact forLoop_sound S room ⟨nI, nJ, keep_none R.keep nI, keep_none R.keep nJ, xx nI, xx nJ⟩ (fun fl s' p => p) ht h ⟨E.of_noX, R', S', T, F.ext E, oI, oJ⟩
  | Return e p =>
    refine b1 h fun x q h => b2 h fun w σ₁ e1 h => c3 h ?_
    rw [q]
    exact wpAny_Return_some (postK (S.ev e1 room F R) fun ρ₁ u s₁ E1 R1 S1 V1 => ⟨ρ₁, E1.of_noX, R1, S1, F.ext E1, .ret V1⟩)
  | _ => exact nnO h

theorem exsStep_sound (O : GOk C) (room : Room A (n + 1)) : ∀ {ss : List Stmt} {loc loc' : Loc} {σ σ' : St} {f : Fl} {ρ : Pl} {s : Shared}, exsStep C.G r sc ss loc σ = some (f, loc', σ') → Frm C.h₀ env sc loc ρ σ.next s.heap → C.R ρ σ s.heap →
    wpAny C.M A (execs ss env) (fun fl => StmtPost C env sc ρ σ s f loc' σ' fl) noE s := by
  intro ss
  induction ss with
  | nil => exact fun h F R => c3 h (wpAny_execs_nil (Post.here' R ⟨F, .next⟩))
  | cons st ss ih =>
    intro loc loc' σ σ' f ρ s h F R
    refine b3 h fun f₁ loc₁ σ₁ e1 h => wpAny_execs_cons (postK (exS_sound S O (room_down room) e1 F R) fun ρ₁ fl s₁ E1 R1 S1 qZ => ?_)
    cases f₁ with
    | next => rw [qZ.2.e_next]; exact wpAny_mono (ih h qZ.1 R1) (fun fl s' p => Post.trans E1 S1 p) fun _ _ q => q
    | ret w => exact qZ.2.e_ret.elim fun u z => by rw [z.1]; exact c3 h ⟨ρ₁, E1, R1, S1, qZ.1, .ret z.2⟩
end
end
section
open PySem PySem.Calls PyProof.Rows PySem.W PySem.SeqAt
set_option maxRecDepth 100000

theorem lookup_zip_lt {ps : List Str} {us : List Value} {x : Str} (hn : ps.Nodup) : ∀ {j : Nat}, ps[j]? = some x → (ps.zip us).lookup x = us[j]? := by
  induction ps generalizing us with
  | nil => intro j h; (first | exact nnO h | exact nnP h | (refine c1 h ?_; clear h))
  | cons p ps ih =>
    intro j h
    rw [List.nodup_cons] at hn
    cases us with
    | nil => simp
    | cons u us =>
      rw [List.zip_cons_cons, List.lookup_cons]
      cases j with
      | zero => (first | exact nnO h | exact nnP h | (refine c1 h ?_; clear h)); simp
      | succ j =>
        have hx : x ∈ ps := List.mem_of_getElem? h
        have : (x == p) = false := beq_eq_false_iff_ne.mpr fun q => hn.1 (q ▸ hx)
        rw [this]
        exact ih hn.2 h
theorem filterMap_lookup {l : List (Str × Value)} (hn : (l.map (·.1)).Nodup) : (l.map (·.1)).filterMap (fun n => (l.lookup n).map (n, ·)) = l := by
  have key : ∀ (l2 l : List (Str × Value)), (∀ p ∈ l2, l.lookup p.1 = some p.2) → (l2.map (·.1)).filterMap (fun n => (l.lookup n).map (n, ·)) = l2 := by
    intro l2
    induction l2 with
    | nil => intro l _; rfl
    | cons p l2 ih =>
      intro l h
      rw [List.map_cons, List.filterMap_cons, h p (.head _)]
      simp only [Option.map_some]
      rw [ih l fun q hq => h q (.tail _ hq)]
  refine key l l fun p hp => ?_
  induction l with
  | nil => cases hp
  | cons q l ih =>
    rw [List.map_cons, List.nodup_cons] at hn
    obtain ⟨k, v⟩ := q
    rw [List.lookup_cons]
    rcases List.mem_cons.mp hp with rfl | hp
    · simp
    · have : (p.1 == k) = false := beq_eq_false_iff_ne.mpr fun z => hn.1 (z ▸ List.mem_map.mpr ⟨p, hp, rfl⟩)
      rw [this]
      exact ih hn.2 hp

noncomputable def bindStep (acc : List (Str × Value)) (x : Str × Value) : List (Str × Value) := if (acc.lookup x.1).isNone = true then acc ++ [(x.1, x.2)] else acc
theorem bind_fold : ∀ (l acc : List (Str × Value)), (forIn l acc fun x s => if (s.lookup x.1).isNone = true then pure (ForInStep.yield (s ++ [(x.1, x.2)])) else pure (ForInStep.yield s) : Sem (List (Str × Value))) = pure (l.foldl bindStep acc)
  | [], acc => by simp
  | x :: l, acc => by
    rw [List.forIn_cons, List.foldl_cons]
    unfold bindStep
    split
    · rw [pure_bind]; exact bind_fold l _
    · rw [pure_bind]; exact bind_fold l _
theorem lookup_take_none {ps : List Str} (hn : ps.Nodup) {tot : List Value} {i : Nat} {x : Str} (h : ps[i]? = some x) : ((ps.zip tot).take i).lookup x = none := by
  rw [List.lookup_eq_none_iff]
  intro p hp
  have h1 : p.1 ∈ ps.take i := by
    refine ea_1_1 (List.mem_iff_getElem?.mp hp) (fun j hj => ?_)
    rw [List.getElem?_take] at hj
    split at hj
    · rename_i hji
      rw [List.getElem?_zip_eq_some] at hj
      have h2 := hj.1
      exact List.mem_iff_getElem?.mpr ⟨j, by rw [List.getElem?_take, if_pos hji]; exact h2⟩
    · exact nnO hj
  rw [bne_iff_ne]
  intro q
  subst q
  refine ea_1_1 (List.mem_iff_getElem?.mp h1) (fun j hj => ?_)
  rw [List.getElem?_take] at hj
  split at hj
  · rename_i hji
    have a := List.getElem?_eq_some_iff.mp hj
    have b := List.getElem?_eq_some_iff.mp h
    refine ea_1_1 (a) (fun ha ha' => ?_)
    refine ea_1_1 (b) (fun hb hb' => ?_)
    have := (List.getElem_inj (h₀ := ha) (h₁ := hb) hn).mp (by rw [ha', hb'])
    omega
  · exact nnO hj
theorem lookup_take_some {ps : List Str} (hn : ps.Nodup) {tot : List Value} {i k : Nat} {x : Str} (h : ps[i]? = some x) (hi : i < tot.length) (hk : i < k) : (((ps.zip tot).take k).lookup x).isSome = true := by
  have hp := (List.getElem?_eq_some_iff.mp h).1
  have e : (ps.zip tot).take k = (ps.take k).zip (tot.take k) := by rw [List.zip, List.take_zipWith]
  rw [e, lookup_zip_lt (hn.sublist (List.take_sublist _ _)) (j := i) (by rw [List.getElem?_take, if_pos hk]; exact h), List.getElem?_take, if_pos hk]
  simp [hi]
theorem bind_all {ps : List Str} {us ds : List Value} (hn : ps.Nodup) (l1 : us.length ≤ ps.length) (l2 : ps.length ≤ us.length + ds.length) (l3 : ds.length ≤ ps.length) : ∀ (k i : Nat), i + k = ps.length → ps.length - ds.length ≤ i →
    (((ps.drop (ps.length - ds.length)).zip ds).drop (i - (ps.length - ds.length))).foldl bindStep ((ps.zip (us ++ ds.drop (us.length + ds.length - ps.length))).take (max us.length i)) = ps.zip (us ++ ds.drop (us.length + ds.length - ps.length)) := by
  have ltot : (us ++ ds.drop (us.length + ds.length - ps.length)).length = ps.length := by simp; omega
  intro k
  induction k with
  | zero =>
    intro i hi hf
    have e1 : ((ps.drop (ps.length - ds.length)).zip ds).drop (i - (ps.length - ds.length)) = [] := List.drop_eq_nil_of_le (by simp; omega)
    rw [e1, List.foldl_nil]
    exact List.take_of_length_le (by simp [ltot]; omega)
  | succ k ih =>
    intro i hi hf
    have hlt : i < ps.length := by omega
    have hx : ps[i]? = some ps[i] := List.getElem?_eq_getElem hlt
    have hd : i - (ps.length - ds.length) < ds.length := by omega
    have hlz : i - (ps.length - ds.length) < ((ps.drop (ps.length - ds.length)).zip ds).length := by simp; omega
    rw [List.drop_eq_getElem_cons hlz, List.foldl_cons]
    have hz : ((ps.drop (ps.length - ds.length)).zip ds)[i - (ps.length - ds.length)] = (ps[i], ds[i - (ps.length - ds.length)]) := by
      simp only [List.getElem_zip, List.getElem_drop]
      congr 2
      omega
    rw [hz]
    have next : bindStep ((ps.zip (us ++ ds.drop (us.length + ds.length - ps.length))).take (max us.length i)) (ps[i], ds[i - (ps.length - ds.length)]) = (ps.zip (us ++ ds.drop (us.length + ds.length - ps.length))).take (max us.length (i + 1)) := by
      unfold bindStep
      dsimp only
      by_cases q : i < us.length
      · have hs := lookup_take_some (k := max us.length i) hn hx (tot := us ++ ds.drop (us.length + ds.length - ps.length)) (by omega) (by omega)
        have hns : ¬ ((((ps.zip (us ++ ds.drop (us.length + ds.length - ps.length))).take (max us.length i)).lookup ps[i]).isNone = true) := by
          rw [Option.isNone_iff_eq_none]; intro z; rw [z] at hs; exact nnF hs
        rw [if_neg hns]
        congr 1; omega
      · have hm : max us.length i = i := by omega
        rw [hm, lookup_take_none hn hx]
        simp only [Option.isNone_none, if_true]
        have hm' : max us.length (i + 1) = i + 1 := by omega
        rw [hm']
        have hl : i < (ps.zip (us ++ ds.drop (us.length + ds.length - ps.length))).length := by simp [ltot]; omega
        rw [List.take_add_one, List.getElem?_eq_getElem hl]
        simp only [Option.toList_some, List.getElem_zip]
        congr 3
        rw [List.getElem_append_right (by omega)]
        simp only [List.getElem_drop]
        congr 1
        omega
    rw [next]
    have := ih (i + 1) (by omega) (by omega)
    rw [show i + 1 - (ps.length - ds.length) = i - (ps.length - ds.length) + 1 by omega] at this
    exact this

theorem binds_plain {s : Shared} {fd : FuncData} {us ds : List Value} {ps : List Str} (h1 : fd.params.posonlyargs = []) (h2 : fd.params.kwonlyargs = []) (h3 : fd.params.vararg = none) (h4 : fd.params.kwarg = none) (hp : fd.params.args.map (·.arg) = ps) (hn : ps.Nodup)
    (hd : ∀ (M : Model) (A : Around) (E : Value → Shared → Prop) (Q : Option (Array Value) → Shared → Prop), (∀ q, (q.getD #[]).toList = ds → Q q s) → wpAny M A (seqItems? fd.defaults) Q E s)
    (l1 : us.length ≤ ps.length) (l2 : ps.length ≤ us.length + ds.length) (l3 : ds.length ≤ ps.length) : BindsTo s fd ⟨us, []⟩ (ps.zip (us ++ ds.drop (us.length + ds.length - ps.length))) := by
  intro M A E Q hQ
  unfold bindArgs
  simp only [h1, h2, h3, h4, hp, List.map_nil, List.nil_append, List.append_nil, List.forIn_nil, pure_bind]
  refine wpAny_bind (hd _ _ _ _ fun q hq => ?_)
  have e1 : ¬ (decide (us.length > ps.length) && (none : Option Arg).isNone) = true := by simp; omega
  rw [hq, if_neg e1]
  have ed : ds.drop (ds.length - ps.length) = ds := by rw [show ds.length - ps.length = 0 by omega]; rfl
  rw [ed]
  have e2 : ((ps.take (ps.length - ds.length)).filter fun n => ((ps.zip us).lookup n).isNone) = [] := by
    rw [List.filter_eq_nil_iff]
    intro x hx
    refine ea_1_1 (List.mem_iff_getElem?.mp hx) (fun j hj => ?_)
    rw [List.getElem?_take] at hj
    split at hj
    · rename_i hlt
      rw [lookup_zip_lt hn hj]
      have : j < us.length := by omega
      simp [this]
    · exact nnO hj
  rw [e2]
  rw [if_neg (by simp)]
  rw [bind_fold, pure_bind]
  rw [if_neg (by simp)]
  have key := bind_all hn l1 l2 l3 ds.length (ps.length - ds.length) (by omega) (Nat.le_refl _)
  rw [Nat.sub_self, List.drop_zero] at key
  have h0 : (ps.zip (us ++ ds.drop (us.length + ds.length - ps.length))).take (max us.length (ps.length - ds.length)) = ps.zip us := by
    rw [show max us.length (ps.length - ds.length) = us.length by omega]
    have : (ps.zip (us ++ ds.drop (us.length + ds.length - ps.length))).take us.length = (ps.take us.length).zip ((us ++ ds.drop (us.length + ds.length - ps.length)).take us.length) := by rw [List.zip, List.take_zipWith]
    rw [this, List.take_left' rfl]
    have z := List.zip_eq_zip_take_min (l₁ := ps) (l₂ := us)
    rw [Nat.min_eq_right l1, List.take_length] at z
    exact z.symm
  rw [h0] at key
  rw [key]
  have hm : (ps.zip (us ++ ds.drop (us.length + ds.length - ps.length))).map (·.1) = ps := by
    rw [← List.unzip_fst, List.unzip_zip_left]
    simp; omega
  have := filterMap_lookup (l := ps.zip (us ++ ds.drop (us.length + ds.length - ps.length))) (by rw [hm]; exact hn)
  rw [hm] at this
  rw [this]
  exact wpAny_pure hQ
end
section
open PySem PySem.Calls PyProof.Rows PySem.W PySem.SeqAt
set_option maxRecDepth 100000

inductive GVals (h₀ : Heap) : List Value → List V → Prop
  | nil : GVals h₀ [] []
  | cons {u : Value} {v : V} {us : List Value} {vs : List V} : GVal h₀ u v → GVals h₀ us vs → GVals h₀ (u :: us) (v :: vs)
structure FdOk (K : Frag) (h₀ : Heap) (fd : FuncData) (fi : FnI) : Prop where
  body : fd.body = .stmts fi.body
  scope : fd.scope = fi.scope
  kind : fi.scope.kind = .function
  co : fi.scope.isCoroutine = false
  gen : fi.scope.isGenerator = false
  globals : fd.globals = mainGlobals
  builtins : fd.builtins = builtinsNs
  closure : fd.closure = []
  code : codeIn K fd.code fd.qualname = true
  pos : fd.params.posonlyargs = []
  kw : fd.params.kwonlyargs = []
  vararg : fd.params.vararg = none
  kwarg : fd.params.kwarg = none
  params : fd.params.args.map (·.arg) = fi.params
  nodup : fi.params.Nodup
  kinds : ∀ x ∈ fi.params, fi.scope.names.lookup x = some .local ∨ fi.scope.names.lookup x = some .cell
  cells : ∀ x k, (x, k) ∈ fi.scope.names → (k = .cell ∨ k = .free) → k = .cell ∧ fi.scope.names.lookup x = some .cell
  dlen : fi.dflts.length ≤ fi.params.length
  dflts : (fd.defaults = .none ∧ fi.dflts = []) ∨ ∃ T o items k, fd.defaults = .ref T ∧ K.lookup T = some o ∧ o.data = .seq items k ∧ GVals h₀ items.toList fi.dflts
noncomputable def FnOk (C : Cx) (f : Addr) (fi : FnI) : Prop := ∃ o fd, C.K.lookup f = some o ∧ o.data = .func fd ∧ FdOk C.K C.h₀ fd fi

theorem bindL_none {k : Str → Option NameKind} {x : Str} : ∀ {l : List (Str × Value)} {m : Str → Option Value}, l.lookup x = none → bindL k l m x = m x
  | [], _, _ => rfl
  | (y, v) :: r, m, h => by
    rw [List.lookup_cons] at h
    cases hb : x == y with
    | true => rw [hb] at h; (first | exact nnO h | exact nnP h | (refine c1 h ?_; clear h))
    | false =>
      rw [hb] at h
      unfold bindL
      rw [bindL_none h]
      split
      · exact if_neg (beq_eq_false_iff_ne.mp hb)
      · rfl
theorem bindC_none {k : Str → Option NameKind} {x : Str} : ∀ {l : List (Str × Value)} {m : Str → Option Value}, l.lookup x = none → bindC k l m x = m x
  | [], _, _ => rfl
  | (y, v) :: r, m, h => by
    rw [List.lookup_cons] at h
    cases hb : x == y with
    | true => rw [hb] at h; (first | exact nnO h | exact nnP h | (refine c1 h ?_; clear h))
    | false =>
      rw [hb] at h
      unfold bindC
      rw [bindC_none h]
      split
      · rfl
      · exact if_neg (beq_eq_false_iff_ne.mp hb)
theorem lookup_none_of {x : Str} {l : List (Str × Value)} (h : x ∉ l.map (·.1)) : l.lookup x = none := by
  rw [List.lookup_eq_none_iff]
  intro p hp
  rw [bne_iff_ne]
  exact fun q => h (List.mem_map.mpr ⟨p, hp, q.symm⟩)
theorem bindL_get {k : Str → Option NameKind} {x : Str} {u : Value} (hk : k x = some .local) : ∀ {l : List (Str × Value)} {m : Str → Option Value}, (l.map (·.1)).Nodup → l.lookup x = some u → bindL k l m x = some u
  | (y, v) :: r, m, hn, h => by
    rw [List.map_cons, List.nodup_cons] at hn
    rw [List.lookup_cons] at h
    unfold bindL
    cases hb : x == y with
    | true =>
      rw [hb] at h; (first | exact nnO h | exact nnP h | (refine c1 h ?_; clear h))
      cases beq_iff_eq.mp hb
      rw [bindL_none (lookup_none_of hn.1), if_pos hk, if_pos rfl]
    | false => rw [hb] at h; exact bindL_get hk hn.2 h
theorem bindC_get {k : Str → Option NameKind} {x : Str} {u : Value} (hk : k x = some .cell) : ∀ {l : List (Str × Value)} {m : Str → Option Value}, (l.map (·.1)).Nodup → l.lookup x = some u → bindC k l m x = some u
  | (y, v) :: r, m, hn, h => by
    rw [List.map_cons, List.nodup_cons] at hn
    rw [List.lookup_cons] at h
    unfold bindC
    cases hb : x == y with
    | true =>
      rw [hb] at h; (first | exact nnO h | exact nnP h | (refine c1 h ?_; clear h))
      cases beq_iff_eq.mp hb
      rw [bindC_none (lookup_none_of hn.1), if_neg (by rw [hk]; decide), if_pos rfl]
    | false => rw [hb] at h; exact bindC_get hk hn.2 h
theorem cellsFrom_mem {n : Str} {c : Addr} : ∀ (names : List (Str × NameKind)) (i : Nat) (acc : List (Str × Addr)), (n, c) ∈ cellsFrom i names acc → (n, NameKind.cell) ∈ names ∨ (n, c) ∈ acc
  | [], _, _, h => .inr h
  | (y, k) :: r, i, acc, h => by
    unfold cellsFrom at h
    split at h
    · rename_i hk
      rcases cellsFrom_mem r _ _ h with q | q
      · exact .inl (.tail _ q)
      · rcases List.mem_cons.mp q with q | q
        · (first | exact nnP q | cases q)
          have : k = .cell := by simpa using hk
          subst this
          exact .inl (.head _)
        · exact .inr q
    · rcases cellsFrom_mem r _ _ h with q | q
      · exact .inl (.tail _ q)
      · exact .inr q
theorem zip_vals {h : Heap} {ρ : Pl} {n : Nat} {x : Str} {v : V} : ∀ {ps : List Str} {us : List Value} {vs : List V}, Vals h ρ n us vs → (ps.zip vs).lookup x = some v → ∃ u, (ps.zip us).lookup x = some u ∧ Val h ρ n u v
  | [], _, _, _, e => by cases e
  | _ :: _, _, _, .nil, e => by cases e
  | p :: ps, _, _, .cons (u := u) (us := us) (v := v') (vs := vs) a b, e => by
    rw [List.zip_cons_cons, List.lookup_cons] at e ⊢
    cases hb : x == p with
    | true => rw [hb] at e; (first | exact nnO e | (refine c2 e ?_; clear e) | (refine c1 e ?_; clear e) | cases e); exact ⟨u, rfl, a⟩
    | false => rw [hb] at e; exact zip_vals b e
theorem gvals_vals {h₀ h : Heap} {ρ : Pl} {n : Nat} (hk : ∀ b o, h₀.get? b = some o → h.get? b = some o) (ho : ∀ a, Own ρ n a → h₀.get? a = none) : ∀ {us : List Value} {vs : List V}, GVals h₀ us vs → Vals h ρ n us vs
  | _, _, .nil => .nil
  | _, _, .cons a b => .cons (a _ _ _ hk ho) (gvals_vals hk ho b)
theorem Vals.drop {h : Heap} {ρ : Pl} {n : Nat} : ∀ (i : Nat) {us : List Value} {vs : List V}, Vals h ρ n us vs → Vals h ρ n (us.drop i) (vs.drop i)
  | 0, _, _, x => x
  | _ + 1, _, _, .nil => .nil
  | i + 1, _, _, .cons _ b => Vals.drop i b

section
variable {C : Cx} {r : Rec} {n : Nat} (S : Sound C r n) {A : Around} {σ σ' : St} {ρ : Pl} {s : Shared}
include S
theorem callStep_sound (O : GOk C) (fnOk : ∀ a fi, C.G.fn a = some fi → FnOk C a fi) {f : Addr} {args : List V} {v : V} {us : List Value} (e : callStep C.G r f args σ = some (v, σ')) (room : Room A (n + 1)) (R : C.R ρ σ s.heap) (V : Vals s.heap ρ σ.next us args) :
    codeAny C.M A (.call (.ref f) ⟨us, []⟩) (fun q s' => ∃ u, q = .ok (.ret u) ∧ Post C NoX ρ σ s σ' (fun ρ' h => Val h ρ' σ'.next u v) s') s := by
  refine b1 e fun fi hf e => ?_
  refine ea_2_3 (fnOk f fi hf) (fun o fd ho hd D => ?_)
  refine b1 e fun loc hb e => b3 e fun fl0 loc' σ1 he e => bT hb fun hle hb => ?_
  have X : C.K.In s.heap := O.X.keeps R.keep
  refine bA hle fun hle1 hle2 => ?_
  rw [← Option.some.inj hb] at he
  have hle1 := Nat.le_of_ble_eq_true hle1
  have hle2 := Nat.le_of_ble_eq_true hle2
  -- the defaults
  obtain ⟨ds, hds, hdv⟩ : ∃ ds : List Value, (∀ (M : Model) (A : Around) (E : Value → Shared → Prop) (Q : Option (Array Value) → Shared → Prop), (∀ q, (q.getD #[]).toList = ds → Q q s) → wpAny M A (seqItems? fd.defaults) Q E s) ∧ Vals s.heap ρ σ.next ds fi.dflts := by
    rcases D.dflts with ⟨h1, h2⟩ | ⟨T, oT, items, k, h1, h2, h3, h4⟩
    · refine ⟨[], fun M A E Q hQ => ?_, by rw [h2]; exact .nil⟩
      rw [h1]
      exact wpAny_pure (hQ none rfl)
    · refine ⟨items.toList, fun M A E Q hQ => ?_, gvals_vals R.keep (fun a x => R.own_out x) h4⟩
      rw [h1]
      exact wpAny_seqItems (X _ _ h2) h3 (hQ _ rfl)
  have lu := V.length
  have ld := hdv.length
  have B : BindsTo s fd ⟨us, []⟩ (fi.params.zip (us ++ ds.drop (us.length + ds.length - fi.params.length))) :=
    binds_plain D.pos D.kw D.vararg D.kwarg D.params D.nodup hds (by omega) (by omega) (by rw [ld]; exact D.dlen)
  have VV : Vals s.heap ρ σ.next (us ++ ds.drop (us.length + ds.length - fi.params.length)) (args ++ fi.dflts.drop (args.length + fi.dflts.length - fi.params.length)) := by
    rw [lu, ld]; exact V.append (hdv.drop _)
  have hmap : (fi.params.zip (us ++ ds.drop (us.length + ds.length - fi.params.length))).map (·.1) = fi.params := by
    rw [← List.unzip_fst, List.unzip_zip_left]
    have := D.dlen
    simp; omega
  generalize hbinds : fi.params.zip (us ++ ds.drop (us.length + ds.length - fi.params.length)) = binds at B hmap
  refine codeAny_call_function (by have := room.depth; have : A.depth < 1000 := by omega
                                   exact this) (X _ _ ho) hd (by rw [D.scope]; exact D.co) (by rw [D.scope]; exact D.gen) D.body (codeRec_of X D.code) ?_
  refine B _ _ _ _ ?_
  rw [D.closure]
  refine wpAny_newFunctionEnv_cells (by rw [D.scope]; exact D.kind) (fun x hx => ?_) fun env henv s₁ x => ?_
  · rw [D.scope]
    have hm : x.1 ∈ fi.params := by rw [← hmap]; exact List.mem_map_of_mem hx
    rcases D.kinds x.1 hm with q | q
    · exact .inl q
    · exact .inr ⟨q, cellsFrom_some _ _ _ (.inl q)⟩
  · refine ⟨(O.nolimit.keeps R.keep).keeps x.toInCall.keep, codeAny_func ?_⟩
    have esc : env.scope = fi.scope := by rw [henv]; exact D.scope
    have eloc : env.locals = s.heap.objs.size := by rw [henv]; rfl
    have ecell : env.cells = cellsFrom (s.heap.objs.size + 1) fi.scope.names [] := by rw [henv, ← D.scope]; rfl
    have eglob : env.globals = mainGlobals := by rw [henv]; exact D.globals
    have eblt : env.builtins = builtinsNs := by rw [henv]; exact D.builtins
    have ek : ∀ y, env.kindOf y = fi.scope.names.lookup y := fun y => by unfold Env.kindOf; rw [esc]
    have nL : s.heap.get? env.locals = none := by rw [eloc]; exact Heap.get?_none_of_le (Nat.le_refl _)
    have nC : ∀ y c, env.cells.lookup y = some c → s.heap.get? c = none := fun y c hc => Heap.get?_none_of_le (by
      have := x.above y c (mem_of_lookup hc)
      rw [eloc] at this
      exact Nat.le_of_lt this)
    have n0 : ∀ a, s.heap.get? a = none → C.h₀.get? a = none := fun a q => by
      cases h : C.h₀.get? a with
      | none => rfl
      | some o => rw [R.keep _ _ h] at q; (first | exact nnP q | cases q)
    have E1 : ∀ Y, Ext Y ρ σ.next s.heap ρ σ.next s₁.heap := fun Y => .of_grow x.toInCall.keep
    have R1 : C.R ρ σ s₁.heap := R.grow x.toInCall.keep
    have VV1 := (E1 NoX).vals noSeq_noX VV
    have look : ∀ y v, lookS y (fi.params.zip (args ++ fi.dflts.drop (args.length + fi.dflts.length - fi.params.length))) = some v → ∃ u, binds.lookup y = some u ∧ Val s₁.heap ρ σ.next u v := fun y v q => by
      rw [lookS_eq] at q
      rw [← hbinds]
      exact zip_vals VV1 q
    have nd : (binds.map (·.1)).Nodup := by rw [hmap]; exact D.nodup
    have F : Frm C.h₀ env fi.scope (fi.params.zip (args ++ fi.dflts.drop (args.length + fi.dflts.length - fi.params.length))) ρ σ.next s₁.heap := by
      refine ⟨esc, D.kind, eglob, eblt, ⟨_, x.toInCall.ns, fun y v hy hl => ?_⟩, fun q => R.notOwn_new nL q, n0 _ nL, fun y k hy hk => ?_, fun y z c hy hz => name_of_addr x.apart (mem_of_lookup hy) (mem_of_lookup hz), fun y c hy => ?_⟩
      · refine ea_1_2 (look y v hl) (fun u hu q => ?_)
        rw [lookS_eq] at hy
        exact ⟨u, bindL_get ((ek y).trans hy) nd hu, q⟩
      · rw [lookS_eq] at hy
        obtain ⟨rfl, _⟩ := D.cells y k (mem_of_lookup hy) hk
        refine ea_1_1 (Option.isSome_iff_exists.mp (cellsFrom_some fi.scope.names (s.heap.objs.size + 1) [] (.inl hy))) (fun c hc => ?_)
        rw [← ecell] at hc
        refine ea_1_2 (x.cell y c hc) (fun oc hoc hdc => ?_)
        refine ⟨c, oc, _, hc, hoc, hdc, fun q => R.notOwn_new (nC y c hc) q, n0 _ (nC y c hc), fun v hl => ?_⟩
        refine ea_1_2 (look y v hl) (fun u hu q => ?_)
        exact ⟨u, bindC_get ((ek y).trans hy) nd hu, q⟩
      · have hm := mem_of_lookup hy
        rw [ecell] at hm
        rcases cellsFrom_mem _ _ _ hm with q | q
        · obtain ⟨_, h2⟩ := D.cells y .cell q (.inl rfl)
          exact ⟨.cell, by rw [lookS_eq]; exact h2, .inl rfl⟩
        · (first | exact nnP q | cases q)
    have room' : Room (A.deeper env) n := ⟨room.handled, by have := room.depth; show A.depth + 1 + 4 * n ≤ 900; omega, by have := room.units; show A.units + 3 + 60 * n ≤ 9000; omega⟩
    have same1 : Same s s₁ := by
      refine ea_2_1 (x.toInCall.same) (fun h tk q => ?_)
      rw [q]; exact ⟨rfl, rfl, rfl⟩
    have fresh : ∀ a, Xof env a → NoX a ∨ s.heap.get? a = none := fun a q => .inr (by
      rcases q with rfl | ⟨y, hy⟩
      · exact nL
      · exact nC y a hy)
    refine postK (S.exs he room' F R1) fun ρ' fl s2 E2 R2 S2 qZ => ?_
    obtain ⟨_, hfl⟩ := qZ
    (first | exact nnO e | (refine c2 e ?_; clear e) | (refine c1 e ?_; clear e) | cases e)
    refine ⟨_, rfl, ρ', (E1 NoX).transX E2 fresh, R2, same1.trans S2, ?_⟩
    cases hfl with
    | ret hv => exact hv
    | next => exact .none
end
end
section
open PySem PySem.Calls PyProof.Rows PySem.W PySem.SeqAt
set_option maxRecDepth 100000

section
variable {C : Cx} {r : Rec} {n : Nat}
theorem use_sound (S : Sound C r n) (O : GOk C) {A : Around} {sc : Scope} {env : Env} {loc : Loc} {σ σ' : St} {ρ : Pl} {s : Shared} {e : Expr} {v : V} (room : Room A n) (h : evStep C.G r sc e loc σ = some (v, σ')) (hc : isComp e = true) (F : Frm C.h₀ env sc loc ρ σ.next s.heap) (R : C.R ρ σ s.heap) : UseOk C A e env ρ σ s σ' v := by
  cases e with
  | ListComp elt gs sc' p => exact b1 h fun g q h => gen1_eq q ▸ (listV_sound S O room h F R).2
  | DictComp kx vx gs sc' p => exact b1 h fun g q h => gen1_eq q ▸ (dictV_sound S O room h F R).2
  | SetComp _ _ _ _ => exact nnO h
  | _ => exact nnF hc
theorem step_sound (S : Sound C r n) (O : GOk C) (fnOk : ∀ a fi, C.G.fn a = some fi → FnOk C a fi) : Sound C (step C.G r) (n + 1) where
  ev := fun h _ _ _ _ room F R => evStep_sound S O room h F R
  use := fun h hc _ _ _ _ room F R => use_sound S O (room_down room) h hc F R
  isT := fun h _ _ _ _ room F R => isTStep_sound S room h F R
  asg := fun h _ _ _ _ _ room F R V => asgStep_sound S O room h F R V
  exs := fun h _ _ _ _ room F R => exsStep_sound S O room h F R
  call := fun h _ _ _ _ room R V => callStep_sound S O fnOk h room R V
theorem recN_sound (O : GOk C) (fnOk : ∀ a fi, C.G.fn a = some fi → FnOk C a fi) : ∀ n, Sound C (recN C.G n) n
  | 0 => Sound.no C 0
  | n + 1 => step_sound (recN_sound O fnOk n) O fnOk
end
end
section
open PySem PySem.Calls PyProof.Rows PySem.W PySem.SeqAt
set_option maxRecDepth 100000

noncomputable def seqD : Data → Option (List Value)
  | .seq xs _ => some xs.toList
  | _ => none
noncomputable def isTupleT : Value → Bool
  | .type t => t == "tuple"
  | _ => false
noncomputable def tupO (o : Obj) : Option (List Value) := cond (isTupleT o.cls && (o.dict.isNone && o.slots.toList.isEmpty)) (seqD o.data) none
theorem tupO_eq {o : Obj} {l : List Value} (h : tupO o = some l) : ∃ k, o = { cls := .type "tuple", data := .seq ⟨l⟩ k } := by
  obtain ⟨c, d, da, sl⟩ := o
  refine bT h fun h1 h => bA h1 fun h1 h2 => bA h2 fun h2 h3 => ?_
  have hc : c = .type "tuple" := by
    cases c with
    | type t => exact congrArg _ (eq_of_beq h1)
    | _ => exact nnF h1
  have hd : d = none := Option.isNone_iff_eq_none.mp h2
  have hs : sl = ⟨[]⟩ := congrArg Array.mk (List.isEmpty_iff.mp h3)
  cases da with
  | seq xs k => exact ⟨k, by rw [hc, hd, hs, ← Option.some.inj (show some xs.toList = some l from h)]⟩
  | _ => exact nnO h
noncomputable def vsBy (f : Value → Option V) : List Value → Option (List V)
  | [] => some []
  | u :: r => bnd (f u) fun v => bnd (vsBy f r) fun vs => some (v :: vs)
noncomputable def defD (a : Addr) : Data → Option V
  | .func _ => some (.glob (.ref a))
  | .cls _ => some (.glob (.ref a))
  | _ => none
noncomputable def refK (K : Frag) (t : Value → Option V) (a : Addr) : Option V := bnd (K.lookup a) fun o => obr (tupO o) (fun l => bnd (vsBy t l) fun vs => some (.tup vs)) (defD a o.data)
noncomputable def valK1 (f : Addr → Option V) : Value → Option V
  | .none => some .none
  | .bool b => some (.bool b)
  | .int i _ => some (.int i)
  | .str s _ => some (.str s)
  | .ref a => f a
  | _ => none
noncomputable def vK (K : Frag) : Nat → Value → Option V
  | 0 => valK1 fun _ => none
  | n + 1 => valK1 (refK K (vK K n))
theorem vsBy_ok {h₀ : Heap} {f : Value → Option V} (hf : ∀ u v, f u = some v → GVal h₀ u v) : ∀ {us : List Value} {vs : List V}, vsBy f us = some vs → GVals h₀ us vs
  | [], _, e => s1 e .nil
  | _ :: _, _, e => b1 e fun _ q1 e => b1 e fun _ q2 e => s1 e (.cons (hf _ _ q1) (vsBy_ok hf q2))
theorem defD_ok {h₀ : Heap} {a : Addr} {d : Data} {v : V} (e : defD a d = some v) : GVal h₀ (.ref a) v := by
  cases d with
  | func _ => exact s1 e fun _ _ _ _ _ => .glob rfl
  | cls _ => exact s1 e fun _ _ _ _ _ => .glob rfl
  | _ => exact nnO e
theorem valK1_ok {h₀ : Heap} {f : Addr → Option V} (hf : ∀ a v, f a = some v → GVal h₀ (.ref a) v) (u : Value) (v : V) (e : valK1 f u = some v) : GVal h₀ u v := by
  cases u with
  | none => exact s1 e fun _ _ _ _ _ => .none
  | bool _ => exact s1 e fun _ _ _ _ _ => .bool _
  | int _ _ => exact s1 e fun _ _ _ _ _ => .int _ _
  | str _ _ => exact s1 e fun _ _ _ _ _ => .str _ _
  | ref a => exact hf a v e
  | _ => exact nnO e
theorem vK_ok {K : Frag} {h₀ : Heap} (X : K.In h₀) : ∀ (n : Nat) (u : Value) (v : V), vK K n u = some v → GVal h₀ u v
  | 0 => valK1_ok fun _ _ e => nomatch e
  | n + 1 => valK1_ok fun a v e => b1 e fun o ho e => bO e
    (fun l hl e => b1 e fun vs hv e => s1 e ((tupO_eq hl).elim fun k ho' => fun h ρ m hk hO => .tup (hk _ _ (ho' ▸ X _ _ ho)) (fun q => nomatch (X _ _ ho).symm.trans (hO a q)) (gvals_vals hk hO (vsBy_ok (vK_ok X n) hv))))
    fun _ e => defD_ok e

noncomputable def builtinV (x : Str) : Option Value := lookS x [("len", .builtin "len"), ("sorted", .builtin "sorted"), ("min", .builtin "min"), ("max", .builtin "max"), ("int", .type "int"), ("tuple", .type "tuple"), ("list", .type "list"), ("enumerate", .type "enumerate"), ("range", .type "range")]

noncomputable def gname1 (K : Frag) (x : Str) (o : Option Value) : Option V := obr o (vK K 3) (bnd (builtinV x) fun u => some (.glob u))
noncomputable def gname (K : Frag) (x : Str) : Option V := bnd (nsIn K mainGlobals x) (gname1 K x)

noncomputable def memS (x : Str) : List Str → Bool
  | [] => false
  | y :: r => cond (sEq x y) true (memS x r)
noncomputable def nodupS : List Str → Bool
  | [] => true
  | x :: r => cond (memS x r) false (nodupS r)
theorem memS_of {x : Str} : ∀ {l : List Str}, x ∈ l → memS x l = true
  | _ :: _, .head _ => by unfold memS; rw [sEq_self]; rfl
  | y :: r, .tail _ h => by unfold memS; rw [memS_of h]; cases sEq x y <;> rfl
theorem nodupS_ok : ∀ l : List Str, nodupS l = true → l.Nodup
  | [], _ => .nil
  | x :: r, h => bC h (fun _ h => nnF h) fun q h => List.nodup_cons.mpr ⟨fun m => nnF (q.symm.trans (memS_of m)), nodupS_ok r h⟩
noncomputable def localOrCell (sc : Scope) (x : Str) : Bool := obr (lookS x sc.names) isLC false
noncomputable def kindOk (sc : Scope) (x : Str) : NameKind → Bool
  | .free => false
  | .cell => isCellO (lookS x sc.names)
  | _ => true
noncomputable def cellsOnly (sc : Scope) (p : Str × NameKind) : Bool := kindOk sc p.1 p.2
noncomputable def fdOk (K : Frag) (fd : FuncData) : Bool :=
  isFnK fd.scope.kind && (!fd.scope.isCoroutine && (!fd.scope.isGenerator && (Nat.beq fd.globals mainGlobals && (Nat.beq fd.builtins builtinsNs && (fd.closure.isEmpty && (codeIn K fd.code fd.qualname &&
      (fd.params.posonlyargs.isEmpty && (fd.params.kwonlyargs.isEmpty && (fd.params.vararg.isNone && (fd.params.kwarg.isNone && (nodupS (fd.params.args.map (·.arg)) &&
      ((fd.params.args.map (·.arg)).all (localOrCell fd.scope) && fd.scope.names.all (cellsOnly fd.scope)))))))))))))
noncomputable def dfltsK (K : Frag) : Value → Option (List V)
  | .none => some []
  | .ref a => bnd (K.lookup a) fun o => bnd (tupO o) fun l => vsBy (vK K 2) l
  | _ => none
noncomputable def funcD : Data → Option FuncData
  | .func fd => some fd
  | _ => none
noncomputable def stmtsD : FuncBody → Option (List Stmt)
  | .stmts b => some b
  | _ => none
noncomputable def gfn (K : Frag) (a : Addr) : Option FnI := bnd (K.lookup a) fun o => bnd (funcD o.data) fun fd => bnd (stmtsD fd.body) fun b => cond (fdOk K fd && keepIn K (.ref a)) (bnd (dfltsK K fd.defaults) fun ds =>
  cond (Nat.ble ds.length (fd.params.args.map (·.arg)).length) (some { params := fd.params.args.map (·.arg), dflts := ds, body := b, scope := fd.scope }) none) none
noncomputable def refV : Value → Option Addr
  | .ref a => some a
  | _ => none
noncomputable def refIn (x : Option (Option Value)) : Option Addr := bnd x fun o => bnd o refV
noncomputable def methK (K : Frag) (D : Addr) (a : Str) : Option Addr := bnd (refIn (findIn K (.ref D) a)) fun f => cond (plainGet K D a && (isFn K (.ref f) && keepIn K (.ref f))) (some f) none
noncomputable def isFunT : Option Value → Bool
  | some (.type t) => t == "function"
  | _ => false
noncomputable def clsK (K : Frag) (D : Addr) : Option Addr := bnd (refIn (findIn K (.ref D) "__init__")) fun f => cond (isFunT (typeIn K (.ref f)) && (makesIn K D && keepIn K (.ref D))) (some f) none
noncomputable def isSetA : Option (Option Value) → Bool
  | some (some (.builtin i)) => i == "object.__setattr__"
  | _ => false
noncomputable def someNone : Option (Option Value) → Bool
  | some none => true
  | _ => false
noncomputable def attrK (K : Frag) (D : Addr) (a : Str) : Bool := obr (findIn K (.ref D) a) (fun attr => isSetA (findIn K (.ref D) "__setattr__") && (someNone (takerIn K D a) && (plainGet K D a && (hasDictIn K D && (noGet K attr && plainOver K D))))) false
noncomputable def placeIn (p : Pos) : List (Nat × Nat) → Bool
  | [] => false
  | q :: r => cond (Nat.beq p.line q.1 && Nat.beq p.col q.2) true (placeIn p r)
noncomputable def globalsOf (K : Frag) (places : List (Nat × Nat)) : Globals where
  name := gname K
  fn := gfn K
  cls := clsK K
  meth := methK K
  mutAt := fun p => placeIn p places
  attrOk := attrK K

theorem refIn_eq {x : Option (Option Value)} {f : Addr} (e : refIn x = some f) : x = some (some (.ref f)) := b1 e fun o ho e => b1 e fun v hv e => by
  cases v with
  | ref a => rw [ho, hv, ← Option.some.inj (show some a = some f from e)]
  | _ => exact nnO e
theorem isFunT_eq {x : Option Value} (e : isFunT x = true) : x = some (.type "function") := by
  cases x with
  | none => exact nnF e
  | some v => cases v with
    | type t => exact congrArg (fun t => some (Value.type t)) (eq_of_beq e)
    | _ => exact nnF e
theorem isSetA_eq {x : Option (Option Value)} (e : isSetA x = true) : x = some (some (.builtin "object.__setattr__")) := by
  cases x with
  | none => exact nnF e
  | some o => cases o with
    | none => exact nnF e
    | some v => cases v with
      | builtin t => exact congrArg (fun t => some (some (Value.builtin t))) (eq_of_beq e)
      | _ => exact nnF e
theorem someNone_eq {x : Option (Option Value)} (e : someNone x = true) : x = some none := by
  cases x with
  | none => exact nnF e
  | some o => cases o with
    | none => rfl
    | some v => exact nnF e

noncomputable def BOk (x : Str) (u : Value) : Prop := x ≠ "__name__" ∧ bootBuiltins x = some u ∧ handedIn u = true
theorem look_step {P : Str → Value → Prop} {x y : Str} {u v : Value} {r : List (Str × Value)} (h : lookS x ((y, v) :: r) = some u) (a : P y v) (k : lookS x r = some u → P x u) : P x u :=
  bC h (fun q h => (sEq_iff x y).mp q ▸ s1 h a) fun _ h => k h
theorem builtin_boot {x : Str} {u : Value} (h : builtinV x = some u) : BOk x u := by
  refine look_step h ⟨by decide, by boot_by_name, by decide +kernel⟩ fun h => ?_
  refine look_step h ⟨by decide, by boot_by_name, by decide +kernel⟩ fun h => ?_
  refine look_step h ⟨by decide, by boot_by_name, by decide +kernel⟩ fun h => ?_
  refine look_step h ⟨by decide, by boot_by_name, by decide +kernel⟩ fun h => ?_
  refine look_step h ⟨by decide, by boot_by_name, by decide +kernel⟩ fun h => ?_
  refine look_step h ⟨by decide, by boot_by_name, by decide +kernel⟩ fun h => ?_
  refine look_step h ⟨by decide, by boot_by_name, by decide +kernel⟩ fun h => ?_
  refine look_step h ⟨by decide, by boot_by_name, by decide +kernel⟩ fun h => ?_
  refine look_step h ⟨by decide, by boot_by_name, by decide +kernel⟩ fun h => ?_
  exact nnO h

section
variable {K : Frag} {places : List (Nat × Nat)} {prog : Program} {w : World} {h₀ : Heap} {mg mb : Str → Option Value}
theorem globals_ok (X : K.In h₀) (g : h₀.Ns mainGlobals mg) (b : h₀.Ns builtinsNs mb) (bb : ∀ x : Str, x ≠ "__name__" → mb x = bootBuiltins x) (nl : h₀.NoLimit) : GOk ⟨K, prog, w, h₀, globalsOf K places, mg, mb⟩ where
  X := X
  keep := fun a fi h => b1 (show gfn K a = some fi from h) fun o _ h => b1 h fun fd _ h => b1 h fun b _ h => bT h fun q _ => bA q fun _ q => q
  meth := fun D a f h => b1 (show methK K D a = some f from h) fun f' hf h => bT h fun q h => bA q fun q1 q => bA q fun q2 q3 => s1 h ⟨q1, refIn_eq hf, q2, q3⟩
  cls := fun D f h => b1 (show clsK K D = some f from h) fun f' hf h => bT h fun q h => bA q fun q1 q => bA q fun q2 q3 => s1 h ⟨q2, refIn_eq hf, isFunT_eq q1, q3⟩
  attr := fun D a h => bO (show attrK K D a = true from h) (fun attr ha h => bA h fun h1 h => bA h fun h2 h => bA h fun h3 h => bA h fun h4 h => bA h fun h5 h6 => ⟨h3, h4, ⟨attr, ha, h5⟩, isSetA_eq h1, h6, someNone_eq h2⟩) fun _ h => nnF h
  g := g
  b := b
  nolimit := nl
  name := fun x v h => b1 (show gname K x = some v from h) fun o ho h => bO h (fun u hu h => .inl ⟨u, mg_of X g (hu ▸ ho), vK_ok X _ _ _ h⟩)
    fun hu h => b1 h fun u hb h => (builtin_boot hb).elim fun h1 h2 => .inr ⟨mg_none_of X g (hu ▸ ho), u, (bb x h1).trans h2.1, s1 (Q := GVal h₀ u) h fun _ _ _ _ _ => .glob h2.2⟩
theorem dflts_ok (X : K.In h₀) {v : Value} {ds : List V} (e : dfltsK K v = some ds) : (v = .none ∧ ds = []) ∨ ∃ T o items k, v = .ref T ∧ K.lookup T = some o ∧ o.data = .seq items k ∧ GVals h₀ items.toList ds := by
  cases v with
  | none => exact .inl ⟨rfl, (Option.some.inj (show some [] = some ds from e)).symm⟩
  | ref T => exact b1 e fun o ho e => b1 e fun l hl e => (tupO_eq hl).elim fun k q => .inr ⟨T, o, ⟨l⟩, k, rfl, ho, by rw [q], vsBy_ok (vK_ok X 2) e⟩
  | _ => exact nnO e
theorem lc_ok {sc : Scope} {x : Str} (e : localOrCell sc x = true) : sc.names.lookup x = some .local ∨ sc.names.lookup x = some .cell := by
  rw [← lookS_eq]
  refine bO e (fun k hk e => ?_) fun _ h => nnF h
  rw [hk]
  cases k with
  | «local» => exact .inl rfl
  | cell => exact .inr rfl
  | _ => exact nnF e
theorem isCellO_ok {o : Option NameKind} (e : isCellO o = true) : o = some .cell := by
  cases o with
  | none => exact nnF e
  | some k => cases k with
    | cell => rfl
    | _ => exact nnF e
theorem isFnK_ok {k : ScopeKind} (e : isFnK k = true) : k = .function := by
  cases k with
  | function => rfl
  | _ => exact nnF e
theorem fd_ok (X : K.In h₀) {fd : FuncData} {b : List Stmt} {ds : List V} (hb : fd.body = .stmts b) (hd : dfltsK K fd.defaults = some ds) (hl : Nat.ble ds.length (fd.params.args.map (·.arg)).length = true) (h : fdOk K fd = true) : FdOk K h₀ fd ⟨fd.params.args.map (·.arg), ds, b, fd.scope⟩ :=
  bA h fun h0 h => bA h fun h1 h => bA h fun h2 h => bA h fun h3 h => bA h fun h4 h => bA h fun h5 h => bA h fun h6 h => bA h fun h7 h => bA h fun h8 h => bA h fun h9 h => bA h fun h10 h => bA h fun h11 h => bA h fun h12 h13 =>
    ⟨hb, rfl, isFnK_ok h0, Bool.not_eq_true' _ ▸ h1, Bool.not_eq_true' _ ▸ h2, Nat.eq_of_beq_eq_true h3, Nat.eq_of_beq_eq_true h4, List.isEmpty_iff.mp h5, h6, List.isEmpty_iff.mp h7, List.isEmpty_iff.mp h8, Option.isNone_iff_eq_none.mp h9, Option.isNone_iff_eq_none.mp h10, rfl, nodupS_ok _ h11,
      fun x hx => lc_ok (List.all_eq_true.mp h12 x hx), fun x k hm hk => by
        have q : kindOk fd.scope x k = true := List.all_eq_true.mp h13 (x, k) hm
        refine hk.elim (fun e => ⟨e, ?_⟩) fun e => ?_
        · rw [e] at q; rw [← lookS_eq]; exact isCellO_ok q
        · rw [e] at q; exact nnF q, Nat.le_of_ble_eq_true hl, dflts_ok X hd⟩
theorem globals_fn (X : K.In h₀) : ∀ a fi, (globalsOf K places).fn a = some fi → FnOk ⟨K, prog, w, h₀, globalsOf K places, mg, mb⟩ a fi := fun a fi h => by
  refine b1 (show gfn K a = some fi from h) fun o ho h => b1 h fun fd hf h => b1 h fun b hb h => bT h fun q h => b1 h fun ds hds h => bT h fun hl h => s1 h ⟨o, fd, ho, ?_, fd_ok X ?_ hds hl (bA q fun q _ => q)⟩
  · cases hd : o.data with
    | func f => rw [hd] at hf; rw [← Option.some.inj (show some f = some fd from hf)]
    | _ => rw [hd] at hf; exact nnO hf
  · cases hd : fd.body with
    | stmts f => rw [hd] at hb; rw [← Option.some.inj (show some f = some b from hb)]
    | _ => rw [hd] at hb; exact nnO hb
end
end
section
open PySem PySem.Calls PyProof.Rows PySem.W PySem.SeqAt
set_option maxRecDepth 100000

theorem ofPy_list_int (ns : List Int) : ∃ ds, ofPy (PyData.list (ns.map PyData.int)) = .list ds ∧ ds = ns.map WData.int := by
  refine ⟨_, rfl, ?_⟩
  induction ns with
  | nil => rfl
  | cons a r ih => exact congrArg (List.cons _) ih
theorem wellAll_ints {P : Params} {h h' : Heap} {ρ : Pl} {n : Nat} : ∀ {ns : List Int} {vs : List Value}, WellAll P h' vs (ns.map WData.int) → Vals h ρ n vs (ns.map V.int)
  | [], _, .nil => .nil
  | _ :: ns, _, .cons a b => by
    cases a with
    | int i t => exact .cons (.int _ _) (wellAll_ints b)
noncomputable def isPlainK : NameKind → Bool
  | .cell => false
  | .free => false
  | _ => true
noncomputable def plainSc (sc : Scope) : Bool := isFnK sc.kind && sc.names.all fun p => isPlainK p.2
theorem same_eq {s s' : Shared} (a : s'.gens = s.gens) (b : s'.os = s.os) (c : s'.drawn = s.drawn) : s' = { s with heap := s'.heap, toks := s'.toks } :=
  (congr (congrArg (fun g d => Shared.mk s'.heap g d s'.toks s'.os) a) c).trans (congrArg _ b)
section
variable {K : Frag} {prog : Program} {w : World} {s₁ : Shared} {mg mb : Str → Option Value} {h₁ : Heap} {tk : Nat} {L fa l : Addr} {m : Str → Option Value} {nm x : Str} {sc : Scope} {cd : Value} {body : List Stmt}
  {Q : Flow → Shared → Prop} {E : Value → Shared → Prop} {ns : List Int} {A : Around} {p : Program} {loose : List Str} {mean : ExcName → Option Value} {s : Shared}
theorem law_walk {G : Globals} (O : GOk ⟨K, prog, w, s₁.heap, G, mg, mb⟩) (Fn : ∀ a fi, G.fn a = some fi → FnOk ⟨K, prog, w, s₁.heap, G, mg, mb⟩ a fi) (T : Top p loose mean mg mb s₁.heap) (F : Fr s₁.heap L s.heap m) (W : Well w.params s₁.heap (.ref l) (ofPy (PyData.list (ns.map PyData.int)))) (hs : plainSc sc = true)
    (hm : m x = some (.ref l)) (base : ∃ o, s₁.heap.get? mainGlobals = some o) (room : Room A 140)
    (e : ∃ loc' σ', (recN G 140).exs sc body [(x, .lst (ns.map .int))] ⟨0, []⟩ = some (.ret (.bool true), loc', σ'))
    (hq : ∀ h' t' m', Fr s₁.heap L h' m' → Q (.ret (.bool true)) { s with heap := h', toks := t' }) :
    wpAny (model prog w) A (execs body (envOf nm sc L fa cd)) Q E s := by
  refine ea_2_1 (e) (fun loc' σ' e => ?_)
  have S := recN_sound O Fn 140
  have nO : ∀ (ρ : Pl) (a : Addr), ¬ Own ρ 0 a := fun ρ a ⟨i, hi, _⟩ => absurd hi (Nat.not_lt_zero i)
  have L0 : s₁.heap.get? L = none := Heap.get?_none_of_le F.above
  refine bA hs fun hs1 hs2 => ?_
  have kind := isFnK_ok hs1
  have noC : ∀ y k, lookS y sc.names = some k → ¬ (k = .cell ∨ k = .free) := fun y k hy hk => by
    rw [lookS_eq] at hy
    have q : isPlainK k = true := List.all_eq_true.mp hs2 _ (mem_of_lookup hy)
    refine hk.elim (fun e => ?_) fun e => ?_
    · rw [e] at q; exact nnF q
    · rw [e] at q; exact nnF q
  refine ea_1_2 (ofPy_list_int ns) (fun ds hds hdv => ?_)
  rw [hds] at W
  subst hdv
  have FF : Frm s₁.heap (envOf nm sc L fa cd) sc [(x, .lst (ns.map .int))] (fun _ => (0, 0)) 0 s.heap := by
    refine ⟨rfl, kind, rfl, rfl, ⟨m, F.ns, fun y v hy hl => ?_⟩, nO _ _, L0, fun y k hy hk => absurd hk (noC y k hy), fun y z c hy => (nomatch hy), fun y c hy => (nomatch hy)⟩
    refine bC hl (fun q hl => ?_) fun _ hl => nnO hl
    rw [← Option.some.inj hl, (sEq_iff y x).mp q]
    refine ⟨_, hm, ?_⟩
    cases W with
    | list ho hv => exact .lst (F.keep _ _ ho) (nO _ _) (wellAll_ints (by simpa using hv))
  have RR : Rel prog w s₁.heap (fun _ => (0, 0)) ⟨0, []⟩ s.heap :=
    ⟨F.keep, base, fun i hi => absurd hi (Nat.not_lt_zero i), fun i hi => absurd hi (Nat.not_lt_zero i), fun i hi => absurd hi (Nat.not_lt_zero i), fun i j hi => absurd hi (Nat.not_lt_zero i), fun i c h => by cases h⟩
  refine wpAny_mono (S.exs e room FF RR) ?_ fun _ _ q => q.elim
  rintro fl s' ⟨ρ', E', R', ⟨g1, g2, g3⟩, F', hfl⟩
  cases hfl with
  | ret hv =>
    cases hv with
    | bool =>
      obtain ⟨m', hm', _⟩ := F'.ns
      have := hq s'.heap s'.toks m' ⟨hm', R'.keep, F.above⟩
      have e : s' = { s with heap := s'.heap, toks := s'.toks } := same_eq g1 g2 g3
      rw [e]
      exact this
end
end
section
open PySem PySem.W PyProof.Rows
set_option maxRecDepth 100000
set_option maxHeartbeats 8000000
section
variable {p q : Program} {loose : List Str} {Xt : Shared → Bool} {α : Type} {Yf : Shared → α} {Ya : World → α} {N : Nat} {g0 : Bool}
noncomputable def seenAll (p q : Program) (loose : List Str) (Xt : Shared → Bool) (g0 : Bool) (h₀ : Heap) (s : Shared) :=
  ((staticsOk (importedModules p.main.body) h₀ s.heap && namesBound p s.heap && gensDone s && laidKept h₀ s.heap), openSeen q loose (importedModules p.main.body) Xt g0 s)
theorem left_of {H₀ : Params → Heap} {gs₀ : Array GenState} {d₀ : Drawn} {k₀ m₀ M : Nat} {ann : Option Value}
    (open_ : ∀ w : World, (fencedOpening treeTable p w N).map (fun s => (s.heap, s.gens, s.drawn, s.toks)) = some (H₀ w.params, gs₀, d₀, k₀))
    (size : ∀ w : World, ((H₀ w.params).isNs mainGlobals && gs₀.size == 0, (H₀ w.params).objs.size, (H₀ w.params).nsMap mainGlobals "__annotations__") = (true, m₀, ann))
    (run : ∀ (w : World) (os : OsState), ∃ s, topRun treeTable p w m₀ ann M ⟨H₀ w.params, gs₀, d₀, k₀, os⟩ (topStub p) = some s ∧ seenAll p q loose Xt g0 (H₀ w.params) s = (true, openGood q loose) ∧ Yf s = Ya w) (le : Nat.ble M N = true) :
    LeftO p q loose Xt Yf Ya N g0 := fun w => by
  obtain ⟨⟨h, gs, d, k, os⟩, e, e'⟩ := Option.map_eq_some_iff.mp (open_ w)
  obtain ⟨rfl, rfl, rfl, rfl⟩ : h = H₀ w.params ∧ gs = gs₀ ∧ d = d₀ ∧ k = k₀ := by simpa using e'
  obtain ⟨z1, z2, z3⟩ : _ ∧ _ ∧ _ := by simpa only [Prod.mk.injEq] using size w
  refine ea_1_3 (run w os) (fun s hr hl l3 => ?_)
  obtain ⟨l1, l2⟩ : _ ∧ _ := by simpa only [seenAll, Prod.mk.injEq] using hl
  have r := topRun_mono (N - M) _ _ _ _ hr
  rw [show M + (N - M) = N by have := Nat.le_of_ble_eq_true le; omega] at r
  have t : topFrom treeTable p w N ⟨H₀ w.params, gs, d, k, os⟩ = some s := by
    unfold topFrom
    dsimp only
    rw [z1, z2, z3, r]
    show (match staticsOk (importedModules p.main.body) (H₀ w.params) s.heap && namesBound p s.heap && gensDone s && laidKept (H₀ w.params) s.heap with | true => _ | false => _) = _
    rw [l1]
  unfold openEnds
  rw [e]
  show (topFrom treeTable p w N _).map _ = _
  rw [t]
  exact congrArg some (Prod.ext l2 l3)
end
noncomputable abbrev pw : Program := PySem.Challenge.pw_xm0178_01
noncomputable def p0 : Pos := ⟨0, 0, 0, 0⟩
noncomputable def envT : Env := { scope := pw.main.scope, locals := mainNs, globals := mainNs, cells := [], code := .ref 13, frame := some 14 }
noncomputable def bodyT : List Stmt := behindTheImports pw
noncomputable def cT : Code := .body bodyT envT
noncomputable def bt (l : List Obj) : Nat → Nat → Nat → BT
  | 0, _, _ => .nil
  | f + 1, a, b => match l[b]? with
    | some o => .node o (bt l f (2 * a) (a + b)) (bt l f (2 * a) (2 * a + b))
    | none => .nil
noncomputable def ann6 : Option Value := some (.ref 6)
noncomputable def sBoot (w : World) (os : OsState) : Shared := ⟨boot_heap w.params, Array.mk [], boot_drawn, boot_toks, os⟩
noncomputable def objs1 (w : World) (os : OsState) : List Obj := match topGo treeTable pw w 11 ann6 12 (sBoot w os) (topStub pw) with
  | some r => r.1.heap.objs.toList
  | none => []
noncomputable def sT1 (w : World) (os : OsState) : SharedT := ⟨bt (objs1 w os) 5 1 0, 15, {}, Array.mk [], {}, 187, os⟩
theorem pre (w : World) : (fun os => topGo treeTable pw w 11 ann6 12 (sBoot w os) (topStub pw)) = fun os => some ((sT1 w os).abs, ⟨denote treeTable cT, cT, p0, [topFrame p0]⟩) := by kernel_rfl
theorem block (w : World) (s : Shared) : segRun treeTable pw w 11 ann6 1 1 s (blockOf bodyT envT cT p0 [topFrame p0]) = some (.next, s, cT, p0) := by kernel_rfl
theorem fin (w : World) (s : Shared) (pos : Pos) : topRun treeTable pw w 11 ann6 2 s ⟨doneF .next, cT, pos, [topFrame p0]⟩ = some s := by kernel_rfl
theorem opens : ∀ w : World, (fencedOpening treeTable pw w 10000).map (fun s => (s.heap, s.gens, s.drawn, s.toks)) = some (boot_heap w.params, Array.mk [], boot_drawn, boot_toks) :=
  boot_open (by kernel_rfl) (by decide) (fun s => by kernel_rfl)
theorem sizes : ∀ w : World, ((boot_heap w.params).isNs mainGlobals && (Array.mk [] : Array GenState).size == 0, (boot_heap w.params).objs.size, (boot_heap w.params).nsMap mainGlobals "__annotations__") = (true, 11, ann6) := fun w => by kernel_rfl
end
section
open PySem PySem.W PyProof.Rows
set_option maxRecDepth 100000
set_option maxHeartbeats 8000000
noncomputable def places : List (Nat × Nat) := [(35,48),(405,11),(437,15),(445,11),(476,14)]
noncomputable abbrev konst {α : Type} {a : α} (x : α) (_ : a = x) : α := x
noncomputable def fnI (dfl : List V) : Stmt → FnI
  | .FunctionDef _ args body _ _ _ scope _ _ _ => ⟨args.args.map (·.arg), dfl, body, scope⟩
  | _ => ⟨[], dfl, [], pw.main.scope⟩
noncomputable def stT (i : Nat) : Stmt := (bodyT[i]?).getD (.Pass p0)
noncomputable def inT (i j : Nat) : Stmt := match stT i with
  | .ClassDef _ _ _ b _ _ _ _ _ _ _ => (b[j]?).getD (.Pass p0)
  | _ => .Pass p0
noncomputable def fi36 : FnI := by refine konst (a := fnI [.bool false] (inT 3 0)) ?x ?h; (case h => conv => (lhs; whnf))
noncomputable def fi50 : FnI := by refine konst (a := fnI [] (stT 4)) ?x ?h; (case h => conv => (lhs; whnf))
noncomputable def fi57 : FnI := by refine konst (a := fnI [] (stT 5)) ?x ?h; (case h => conv => (lhs; whnf))
noncomputable def fi64 : FnI := by refine konst (a := fnI [] (stT 6)) ?x ?h; (case h => conv => (lhs; whnf))
noncomputable def fi69 : FnI := by refine konst (a := fnI [] (stT 7)) ?x ?h; (case h => conv => (lhs; whnf))
noncomputable def fi76 : FnI := by refine konst (a := fnI [] (stT 8)) ?x ?h; (case h => conv => (lhs; whnf))
noncomputable def fi90 : FnI := by refine konst (a := fnI [] (inT 9 0)) ?x ?h; (case h => conv => (lhs; whnf))
noncomputable def fi97 : FnI := by refine konst (a := fnI [] (inT 9 1)) ?x ?h; (case h => conv => (lhs; whnf))
noncomputable def fi111 : FnI := by refine konst (a := fnI [] (stT 10)) ?x ?h; (case h => conv => (lhs; whnf))
noncomputable def fi184 : FnI := by refine konst (a := fnI [.tup []] (inT 17 0)) ?x ?h; (case h => conv => (lhs; whnf))
noncomputable def fi305 : FnI := by refine konst (a := fnI [] (stT 18)) ?x ?h; (case h => conv => (lhs; whnf))
noncomputable def fi312 : FnI := by refine konst (a := fnI [] (stT 19)) ?x ?h; (case h => conv => (lhs; whnf))
noncomputable def fi318 : FnI := by refine konst (a := fnI [] (stT 23)) ?x ?h; (case h => conv => (lhs; whnf))
noncomputable def fi330 : FnI := by refine konst (a := fnI [] (inT 24 0)) ?x ?h; (case h => conv => (lhs; whnf))
noncomputable def fi337 : FnI := by refine konst (a := fnI [] (inT 24 1)) ?x ?h; (case h => conv => (lhs; whnf))
noncomputable def fi344 : FnI := by refine konst (a := fnI [] (inT 24 2)) ?x ?h; (case h => conv => (lhs; whnf))
noncomputable def fi351 : FnI := by refine konst (a := fnI [] (inT 24 3)) ?x ?h; (case h => conv => (lhs; whnf))
noncomputable def fi414 : FnI := by refine konst (a := fnI [] (inT 27 0)) ?x ?h; (case h => conv => (lhs; whnf))
noncomputable def fi428 : FnI := by refine konst (a := fnI [] (stT 28)) ?x ?h; (case h => conv => (lhs; whnf))
noncomputable def fi443 : FnI := by refine konst (a := fnI [.none] (inT 29 0)) ?x ?h; (case h => conv => (lhs; whnf))
noncomputable def fi450 : FnI := by refine konst (a := fnI [] (inT 29 1)) ?x ?h; (case h => conv => (lhs; whnf))
noncomputable def fi471 : FnI := by refine konst (a := fnI [] (stT 31)) ?x ?h; (case h => conv => (lhs; whnf))
noncomputable def fi478 : FnI := by refine konst (a := fnI [] (stT 32)) ?x ?h; (case h => conv => (lhs; whnf))
noncomputable def fi485 : FnI := by refine konst (a := fnI [] (stT 33)) ?x ?h; (case h => conv => (lhs; whnf))
noncomputable def fi492 : FnI := by refine konst (a := fnI [] (stT 34)) ?x ?h; (case h => conv => (lhs; whnf))
noncomputable def fi499 : FnI := by refine konst (a := fnI [] (stT 35)) ?x ?h; (case h => conv => (lhs; whnf))
noncomputable def fi504 : FnI := by refine konst (a := fnI [] (stT 36)) ?x ?h; (case h => conv => (lhs; whnf))
noncomputable def fi511 : FnI := by refine konst (a := fnI [] (stT 37)) ?x ?h; (case h => conv => (lhs; whnf))
noncomputable def fi518 : FnI := by refine konst (a := fnI [] (stT 38)) ?x ?h; (case h => conv => (lhs; whnf))
noncomputable def fi525 : FnI := by refine konst (a := fnI [] (stT 39)) ?x ?h; (case h => conv => (lhs; whnf))
noncomputable def fi532 : FnI := by refine konst (a := fnI [] (stT 40)) ?x ?h; (case h => conv => (lhs; whnf))
noncomputable def fi537 : FnI := by refine konst (a := fnI [] (stT 41)) ?x ?h; (case h => conv => (lhs; whnf))
noncomputable def fi544 : FnI := by refine konst (a := fnI [] (stT 42)) ?x ?h; (case h => conv => (lhs; whnf))
noncomputable def fi549 : FnI := by refine konst (a := fnI [] (stT 43)) ?x ?h; (case h => conv => (lhs; whnf))
noncomputable def fi554 : FnI := by refine konst (a := fnI [] (stT 44)) ?x ?h; (case h => conv => (lhs; whnf))
noncomputable def fi561 : FnI := by refine konst (a := fnI [] (stT 45)) ?x ?h; (case h => conv => (lhs; whnf))

noncomputable def lookA {α : Type} (a : Nat) : List (Nat × α) → Option α
  | [] => none
  | p :: r => cond (Nat.beq a p.1) (some p.2) (lookA a r)
noncomputable def un (s : Str) : Str × Unit := (s, ())
noncomputable def gl (a : Nat) : V := .glob (.ref a)
noncomputable def nm (s : Str) (v : V) : Str × V := (s, v)
noncomputable def tFn : List (Nat × FnI) := [(36, fi36), (50, fi50), (57, fi57), (64, fi64), (69, fi69), (76, fi76), (90, fi90), (97, fi97), (111, fi111), (184, fi184), (305, fi305), (312, fi312), (318, fi318), (330, fi330), (337, fi337), (344, fi344), (351, fi351), (414, fi414), (428, fi428), (443, fi443), (450, fi450), (471, fi471), (478, fi478), (485, fi485), (492, fi492), (499, fi499), (504, fi504), (511, fi511), (518, fi518), (525, fi525), (532, fi532), (537, fi537), (544, fi544), (549, fi549), (554, fi554), (561, fi561)]
noncomputable def tCls : List (Nat × Nat) := [(39, 36), (100, 90), (294, 184), (393, 330), (417, 414), (460, 443)]
noncomputable def tMeth : List (Nat × List (Str × Nat)) := [(100, [("go_on", 97)]), (393, [("own_names", 337), ("imported", 344), ("name_of", 351)]), (460, [("base_of", 450)])]
noncomputable def tAttr : List (Nat × List (Str × Unit)) :=
  [(460, [un "packages", un "named", un "globals", un "consts", un "funcs", un "bodies", un "files", un "scopes", un "order", un "starts", un "settle", un "want", un "mentions", un "measured", un "values", un "inits", un "late_keys", un "late_parts", un "late_sizes", un "is_whole"]),
   (393, [un "files", un "names", un "taken"]), (417, [un "path", un "package", un "underlying", un "methods"]), (39, [un "told", un "steps", un "is_twice"]), (100, [un "world", un "here", un "seen"]),
   (294, [un "has_keys", un "packages", un "own", un "found", un "behind", un "ahead", un "doubtful"])]
noncomputable def tName : List (Str × V) := [nm "own_name" (gl 50), nm "without_pointer" (gl 57), nm "own_methods" (gl 64), nm "members_at" (gl 69), nm "embedded_in" (gl 76), nm "start_type" (gl 111), nm "has_plain_keys" (gl 305), nm "names_ahead" (gl 312), nm "told_names" (gl 318), nm "known_rows" (gl 428),
  nm "_law_reel" (gl 471), nm "_law_wound" (gl 478), nm "_law_one" (gl 485), nm "_law_plain" (gl 492), nm "_law_names_right" (gl 499), nm "_law_started" (gl 504), nm "_law_start_right" (gl 511), nm "_law_lattice" (gl 518), nm "_law_rows" (gl 525), nm "_law_told" (gl 532), nm "_law_members" (gl 537), nm "_law_ways" (gl 544), nm "_law_levels_right" (gl 549), nm "_law_held_right" (gl 554),
  nm "Reached" (gl 39), nm "Levels" (gl 100), nm "NameFinder" (gl 294), nm "Packages" (gl 393), nm "NamedRow" (gl 417), nm "World" (gl 460),
  nm "MAIN_lookup" (.str "main"), nm "MAIN_packages" (.str "main"), nm "KNOWN" (.tup [.str "sync", .str "runtime"]), nm "PLAIN" (.tup [.str "func", .tup [], .tup [], .bool false]),
  nm "len" (.glob (.builtin "len")), nm "sorted" (.glob (.builtin "sorted")), nm "min" (.glob (.builtin "min")), nm "max" (.glob (.builtin "max")), nm "int" (.glob (.type "int")), nm "tuple" (.glob (.type "tuple")), nm "list" (.glob (.type "list")), nm "enumerate" (.glob (.type "enumerate")), nm "range" (.glob (.type "range"))]
noncomputable def G0 : Globals where
  name := fun x => lookS x tName
  fn := fun a => lookA a tFn
  cls := fun a => lookA a tCls
  meth := fun a x => bnd (lookA a tMeth) (lookS x)
  mutAt := fun p => placeIn p places
  attrOk := fun a x => obr (lookA a tAttr) (fun l => (lookS x l).isSome) false
end
section
open PySem PySem.W PyProof.Rows
set_option maxRecDepth 100000
set_option maxHeartbeats 8000000
noncomputable def AllP {α β : Type} (R : α → β → Prop) : List (α × β) → Prop
  | [] => True
  | p :: r => R p.1 p.2 ∧ AllP R r
theorem AllP.lookA {α : Type} {R : Nat → α → Prop} {a : Nat} {v : α} : ∀ {l : List (Nat × α)}, AllP R l → lookA a l = some v → R a v
  | [], _, e => nnO e
  | _ :: _, h, e => bC e (fun q e => Nat.eq_of_beq_eq_true q ▸ s1 e h.1) fun _ e => AllP.lookA h.2 e
theorem AllP.lookS {α : Type} {R : Str → α → Prop} {x : Str} {v : α} : ∀ {l : List (Str × α)}, AllP R l → lookS x l = some v → R x v
  | [], _, e => nnO e
  | _ :: _, h, e => bC e (fun q e => (sEq_iff _ _).mp q ▸ s1 e h.1) fun _ e => AllP.lookS h.2 e
theorem allP_of {α β : Type} {f : α → Option β} : ∀ {l : List (α × β)}, l.map (fun p => f p.1) = l.map (fun p => some p.2) → AllP (fun a v => f a = some v) l
  | [], _ => True.intro
  | p :: r, e => ⟨(List.cons.inj e).1, allP_of (List.cons.inj e).2⟩
theorem allP_all {α β : Type} {f : α → β → Bool} : ∀ {l : List (α × β)}, l.all (fun p => f p.1 p.2) = true → AllP (fun a v => f a v = true) l
  | [], _ => True.intro
  | p :: r, e => by
    rw [List.all_cons, Bool.and_eq_true] at e
    exact ⟨e.1, allP_all e.2⟩
theorem AllP.mono {α β : Type} {R S : α → β → Prop} (h : ∀ a b, R a b → S a b) : ∀ {l : List (α × β)}, AllP R l → AllP S l
  | [], _ => True.intro
  | _ :: _, x => ⟨h _ _ x.1, AllP.mono h x.2⟩
noncomputable def isM (K : Frag) (D : Nat) (a : Str) (b : Nat) : Bool := obr (methK K D a) (fun f => Nat.beq f b) false
noncomputable def obsK (K : Frag) : List (Option FnI) × List (Option Nat) × Bool × Bool × List (Option V) :=
  (tFn.map fun p => gfn K p.1, tCls.map fun p => clsK K p.1, tMeth.all (fun p => p.2.all fun q => isM K p.1 q.1 q.2), tAttr.all (fun p => p.2.all fun q => attrK K p.1 q.1), tName.map fun p => gname K p.1)
noncomputable def valK : List (Option FnI) × List (Option Nat) × Bool × Bool × List (Option V) := (tFn.map fun p => some p.2, tCls.map fun p => some p.2, true, true, tName.map fun p => some p.2)
noncomputable def fragB (T : BT) (n : Nat) : Frag := (List.range n).filterMap fun a => bnd (T.get a) fun o => bnd (alive o) fun o => some (a, o)
theorem mem_lookup {β : Type} {a : Addr} {o : β} : ∀ {l : List (Addr × β)}, l.lookup a = some o → (a, o) ∈ l
  | [], e => nnO e
  | p :: r, e => by
    rw [List.lookup_cons] at e
    cases q : a == p.1 with
    | true =>
      rw [q] at e
      rw [eq_of_beq q, ← Option.some.inj (show some p.2 = some o from e)]
      exact .head _
    | false => rw [q] at e; exact .tail _ (mem_lookup e)
theorem frag_in (T : BT) (n : Nat) (life : Life) : (fragB T n).In (absHeap T n life) := fun a o e => by
  have := mem_lookup e
  unfold fragB at this
  refine ea_1_2 (List.mem_filterMap.mp this) (fun b hb e => ?_)
  refine b1 e fun o' ho e => b1 e fun o2 h2 e => c2 e ((abs_get (List.mem_range.mp hb) ho).trans h2)
section
variable {K : Frag} (hK : obsK K = valK)
include hK
theorem fn_ok : AllP (fun a fi => gfn K a = some fi) tFn := allP_of (congrArg Prod.fst hK)
theorem cls_ok : AllP (fun D f => clsK K D = some f) tCls := allP_of (congrArg (fun x => x.2.1) hK)
theorem meth_ok : AllP (fun D l => AllP (fun a f => methK K D a = some f) l) tMeth := by
  have h := allP_all (f := fun D (l : List (Str × Nat)) => List.all l fun q => isM K D q.1 q.2) (congrArg (fun x => x.2.2.1) hK)
  exact h.mono fun D l e => (allP_all (f := fun x b => isM K D x b) e).mono fun x b e => bO e (fun f q e => q.trans (congrArg some (Nat.eq_of_beq_eq_true e))) fun _ e => nnF e
theorem attr_ok : AllP (fun D l => AllP (fun a (_ : Unit) => attrK K D a = true) l) tAttr := by
  have h := allP_all (f := fun D (l : List (Str × Unit)) => List.all l fun q => attrK K D q.1) (congrArg (fun x => x.2.2.2.1) hK)
  exact h.mono fun D l e => allP_all (f := fun x (_ : Unit) => attrK K D x) e
theorem name_ok : AllP (fun x v => gname K x = some v) tName := allP_of (congrArg (fun x => x.2.2.2.2) hK)
theorem fn_sub {a : Addr} {fi : FnI} (h : G0.fn a = some fi) : (globalsOf K places).fn a = some fi := (fn_ok hK).lookA h
variable {prog : Program} {w : World} {h₀ : Heap} {mg mb : Str → Option Value} {p : Program} {loose : List Str} {mean : ExcName → Option Value}
theorem G0_ok (X : K.In h₀) (T : Top p loose mean mg mb h₀) : GOk ⟨K, prog, w, h₀, G0, mg, mb⟩ := by
  have O : GOk ⟨K, prog, w, h₀, globalsOf K places, mg, mb⟩ := globals_ok X T.g T.b T.builtins T.nolimit
  exact {
    X := X
    keep := fun a fi h => O.keep a fi (fn_sub hK h)
    meth := fun D a f h => O.meth D a f (b1 (show bnd (lookA D tMeth) (lookS a) = some f from h) fun l hl h => ((meth_ok hK).lookA hl).lookS h)
    cls := fun D f h => O.cls D f ((cls_ok hK).lookA h)
    attr := fun D a h => O.attr D a (bO (show obr (lookA D tAttr) (fun l => (lookS a l).isSome) false = true from h) (fun l hl h => (Option.isSome_iff_exists.mp h).elim fun u hu => ((attr_ok hK).lookA hl).lookS hu) fun _ h => nnF h)
    g := O.g
    b := O.b
    nolimit := O.nolimit
    name := fun x v h => O.name x v ((name_ok hK).lookS h) }
theorem G0_fn (X : K.In h₀) : ∀ a fi, G0.fn a = some fi → FnOk ⟨K, prog, w, h₀, G0, mg, mb⟩ a fi := fun a fi h =>
  globals_fn (places := places) (prog := prog) (w := w) (mg := mg) (mb := mb) X a fi (fn_sub hK h)
end
end
section
open PySem PySem.W PyProof.Rows
set_option maxRecDepth 100000
set_option maxHeartbeats 8000000
noncomputable def keepT : List Nat := [0, 2, 3, 4, 5, 6, 7, 8, 9, 10, 12, 13, 14, 15, 17, 18, 19, 21, 22, 23, 24, 26, 27, 28, 29, 31, 32, 33, 34, 35, 36, 37, 38, 39, 40, 41, 42, 43, 44, 45]
noncomputable def qT : Program := view pw keepT
noncomputable def looseT : List Str := [Str.ofString "ChanError", Str.ofString "NameFinder"]
noncomputable abbrev lw : OpenLaw := PySem.Challenge.rw_xm0178_01
noncomputable def XtT (s : Shared) : Bool := xlAt qT [] s && recOk (RowW.records lw.row.toRowW) s
noncomputable def saysH (h : Heap) : Prop := ∃ K : Frag, K.In h ∧ obsK K = valK
noncomputable def segM (w : World) (os : OsState) : Option (Flow × SharedT × Code × Pos) := PySem.W.Fast.tw10110043849684766642 PySem.W.Fast.tw14364793385576792824 pw w 11 ann6 1 6000 (sT1 w os) (piecesOf bodyT envT cT p0 [topFrame p0])
theorem looks_ (w : World) : (fun os => (segM w os).map fun r => (r.1, r.2.2.1, seenAll pw qT looseT XtT true (boot_heap w.params) r.2.1.abs, obsK (fragB r.2.1.tree r.2.1.n))) = fun _ => some (Flow.next, cT, (true, openGood qT looseT), valK) := by kernel_rfl
theorem segM_eq (w : World) (os : OsState) : segM w os = segRunT treeTable pw w 11 ann6 1 6000 (sT1 w os) (piecesOf bodyT envT cT p0 [topFrame p0]) := by
  rw [PySem.W.Fast.te10110043849684766642, PySem.W.Fast.te14364793385576792824]
  rfl
theorem run_ (w : World) (os : OsState) : ∃ s, topRun treeTable pw w 11 ann6 (12 + (1 + (6000 + 2))) (sBoot w os) (topStub pw) = some s ∧ seenAll pw qT looseT XtT true (boot_heap w.params) s = (true, openGood qT looseT) ∧ saysH s.heap = True := by
  obtain ⟨⟨f, s, c, pos⟩, e, e'⟩ := Option.map_eq_some_iff.mp (congrFun (looks_ w) os)
  obtain ⟨e1, e2, e3, k⟩ : f = Flow.next ∧ c = cT ∧ seenAll pw qT looseT XtT true (boot_heap w.params) s.abs = (true, openGood qT looseT) ∧ obsK (fragB s.tree s.n) = valK := ⟨congrArg Prod.fst e', congrArg (fun x => x.2.1) e', congrArg (fun x => x.2.2.1) e', congrArg (fun x => x.2.2.2) e'⟩
  subst e1 e2
  rw [segM_eq] at e
  refine ⟨s.abs, go_top (congrFun (pre w) os) (piece_block (block w (sT1 w os).abs) ?_), e3, eq_true ⟨_, frag_in s.tree s.n s.life, k⟩⟩
  have := piece_app (rest := []) (segRun_of e) (piece_nil (fin w s.abs pos))
  rwa [List.append_nil] at this
theorem left_ : LeftO pw qT looseT XtT (fun s => saysH s.heap) (fun _ => True) 10000 true := left_of (le := by decide) opens sizes fun w os => run_ w os
end
section
open PySem PySem.W PyProof.Rows
set_option maxRecDepth 100000
set_option maxHeartbeats 8000000
theorem said_ : lw.wellSaid = true := by kernel_rfl
end
section
open PySem PySem.W PyProof.Rows
set_option maxRecDepth 100000
set_option maxHeartbeats 8000000
theorem T_base {p : Program} {loose : List Str} {mean : ExcName → Option Value} {mg mb : Str → Option Value} {h : Heap} (T : Top p loose mean mg mb h) : ∃ o, h.get? mainGlobals = some o := by
  obtain ⟨o, _, _, ho, _⟩ := T.g
  exact ⟨o, ho⟩
theorem saysH.keeps {h h' : Heap} (x : saysH h) (k : ∀ b o, h.get? b = some o → h'.get? b = some o) : saysH h' := by
  refine ea_1_2 (x) (fun K X e => ?_)
  exact ⟨K, Frag.In.keeps X k, e⟩
theorem holds_of (H : ∀ ns : List Int, ns.length ≤ 63 → ∃ loc' σ', (recN G0 140).exs fi561.scope fi561.body [("script", .lst (ns.map .int))] ⟨0, []⟩ = some (.ret (.bool true), loc', σ')) :
    PySem.Challenge.rw_xm0178_01.Holds := holds_law said_ fun sd => by
  refine holds_open (q := qT) (loose := looseT) (Xt := XtT) (XP := XL qT []) (Yf := fun s => saysH s.heap) (Ya := fun _ => True) (YP := fun _ h => saysH h) (N := 10000) left_ (fun w s e => of_eq_true e) (fun w h h' x k => x.keeps k) (fun s e => xl_of s (Bool.and_eq_true_iff.mp e).1) XL.keeps (by rfl) (by rfl) (by rfl) (fun s e => recFacts_of (Bool.and_eq_true_iff.mp e).2) (by rfl) sd (by decide +kernel) ⟨rfl, rfl, rfl, rfl, rfl, by decide +kernel⟩ ?hw ?hc
  case hw => w_witness2
  case hc =>
    intro w s₀ s₁ mg mb G Y fa o pm cd doc dV kV ho hd hcd hD hmg hg args vals as hpre hlay hrd hwl hlo
    refine ea_1_2 (Y) (fun K KX hK => ?_)
    k_behind G ho hd hcd hD hmg hpre hlay hrd hwl hlo cd
    all_goals try k_fold
    refine law_walk (x := "script") (G0_ok hK KX (by assumption)) (G0_fn hK KX) (by assumption) (by assumption) (by assumption) (by kernel_rfl) rfl ?_ ?_ ?_ ?_
    · exact T_base (by assumption)
    · exact ⟨rfl, Nat.le_of_ble_eq_true rfl, Nat.le_of_ble_eq_true rfl⟩
    · exact H _ (by omega)
    · intro h' t' m' F'
      (show GoodW _ _ _ _ _ (.ok (.ret (.bool true))) _)
      refine goodW_bool F' (by assumption) (raisesW_false ?_) ?_
      · wrow_none_raised
      · wrow_post
end
open PySem PySem.W PyProof.Rows
set_option maxRecDepth 100000
set_option maxHeartbeats 1600000
section
variable {α β γ δ : Type}
theorem i1 {o : Option α} {f : α → Option δ} {a : α} {d : Option δ} (h : o = some a) (k : f a = d) : bnd o f = d := h ▸ k
theorem i2 {o : Option (α × β)} {f : α → β → Option δ} {a : α} {b : β} {d : Option δ} (h : o = some (a, b)) (k : f a b = d) : bnd2 o f = d := h ▸ k
theorem i3 {o : Option (α × β × γ)} {f : α → β → γ → Option δ} {a : α} {b : β} {c : γ} {d : Option δ} (h : o = some (a, b, c)) (k : f a b c = d) : bnd3 o f = d := h ▸ k
theorem iT {b : Bool} {x y d : δ} (h : b = true) (k : x = d) : cond b x y = d := h ▸ k
theorem iF {b : Bool} {x y d : δ} (h : b = false) (k : y = d) : cond b x y = d := h ▸ k
theorem oS {o : Option α} {f : α → δ} {a : α} {y d : δ} (h : o = some a) (k : f a = d) : obr o f y = d := h ▸ k
theorem oN {o : Option α} {f : α → δ} {y d : δ} (h : o = none) (k : y = d) : obr o f y = d := h ▸ k
theorem cnT {x y d : δ} (k : x = d) : cond true x y = d := k
theorem cnF {x y d : δ} (k : y = d) : cond false x y = d := k
theorem cnnT {x y d : δ} (k : y = d) : cond (!true) x y = d := k
theorem cnnF {x y d : δ} (k : x = d) : cond (!false) x y = d := k
theorem soT {x y d : δ} (k : x = d) : cond (stops .Or true) x y = d := k
theorem soF {x y d : δ} (k : y = d) : cond (stops .Or false) x y = d := k
theorem saT {x y d : δ} (k : y = d) : cond (stops .And true) x y = d := k
theorem saF {x y d : δ} (k : x = d) : cond (stops .And false) x y = d := k
theorem soN {x y d : δ} (k : y = d) : cond (stops .Or (!true)) x y = d := k
theorem soM {x y d : δ} (k : x = d) : cond (stops .Or (!false)) x y = d := k
theorem bB {a b : Bool} (h : a = true) (k : b = true) : (a && b) = true := by rw [h]; exact k
theorem bnT {a : Bool} (h : a = false) : (!a) = true := h ▸ rfl
theorem bnF {a : Bool} (h : a = true) : (!a) = false := h ▸ rfl
end

noncomputable def ext (L l : Loc) : Loc := L.foldr (fun p l => setL p.1 p.2 l) l
noncomputable def lookP (x : Str) : Loc → Option V
  | [] => none
  | (y, v) :: r => cond (sEq x y) (some v) (lookP x r)
theorem lookP_eq (x : Str) : ∀ L : Loc, lookP x L = lookS x L
  | [] => rfl
  | (y, v) :: r => congrArg (cond (sEq x y) (some v)) (lookP_eq x r)
theorem l_c {x : Str} {l : Loc} {v : V} (h : lookP x l = some v) : lookS x l = some v := (lookP_eq x l).symm.trans h
theorem l_ext {x : Str} {l : Loc} {v : V} : ∀ {L : Loc}, lookS x L = none → lookS x l = some v → lookS x (ext L l) = some v
  | [], _, k => k
  | p :: L, h, k => bC h (fun _ h => nnP h) fun q h => by
    show lookS x (setL p.1 p.2 (ext L l)) = _
    rw [lookS_setL, if_neg (sEq_false.mp q)]
    exact l_ext h k
theorem l_in' {x : Str} {l : Loc} {v : V} : ∀ {L : Loc}, lookS x L = some v → lookS x (ext L l) = some v
  | [], h => nnO h
  | p :: L, h => by
    show lookS x (setL p.1 p.2 (ext L l)) = _
    rw [lookS_setL]
    exact bC h (fun q h => by rw [if_pos ((sEq_iff _ _).mp q), h]) fun q h => by rw [if_neg (sEq_false.mp q)]; exact l_in' h
theorem l_in {x : Str} {l L : Loc} {v : V} (h : lookP x L = some v) : lookS x (ext L l) = some v := l_in' (l_c h)

noncomputable def freeK : NameKind → Bool
  | .free => true
  | _ => false
noncomputable def gloK : NameKind → Bool
  | .globalImplicit => true
  | _ => false
noncomputable def locN (sc : Scope) (x : Str) : Bool := !dbg x && obr (lookS x sc.names) (fun k => isLC k || freeK k) false
noncomputable def gloN (sc : Scope) (x : Str) : Bool := !dbg x && obr (lookS x sc.names) gloK false
theorem not_eq {b : Bool} (h : (!b) = true) : b = false := by cases b <;> first | rfl | exact nnF h
theorem locN_eq {sc : Scope} {x : Str} {loc : Loc} {v : V} (h : locN sc x = true) (k : lookS x loc = some v) : dbg x = false ∧ nameV G0 sc loc x = some v :=
  bA h fun h1 h2 => ⟨not_eq h1, bO h2 (fun q hq h2 => i1 hq (by cases q <;> first | exact k | exact nnF h2)) fun _ h => nnF h⟩
theorem gloN_eq {sc : Scope} {x : Str} {loc : Loc} {v : V} (h : gloN sc x = true) (k : G0.name x = some v) : dbg x = false ∧ nameV G0 sc loc x = some v :=
  bA h fun h1 h2 => ⟨not_eq h1, bO h2 (fun q hq h2 => i1 hq (by cases q <;> first | exact k | exact nnF h2)) fun _ h => nnF h⟩

section
variable {n : Nat} {sc sc' : Scope} {loc loc' : Loc} {σ σ1 σ2 σ3 : St} {v w ov iv av bv : V} {vs : List V} {a b c e o i l t : Expr} {es args ifs : List Expr} {p q : Pos} {x y : Str} {k? : Option Str} {B : Bool} {X : Option (V × St)}
theorem e_int {j : Int} {c : Nat} : (recN G0 (n + 1)).ev sc (.Constant (.int j) c p) loc σ = some (.int j, σ) := rfl
theorem e_str {j : Str} {c : Nat} : (recN G0 (n + 1)).ev sc (.Constant (.str j) c p) loc σ = some (.str j, σ) := rfl
theorem e_tf {j : Bool} {c : Nat} : (recN G0 (n + 1)).ev sc (.Constant (.bool j) c p) loc σ = some (.bool j, σ) := rfl
theorem e_none {c : Nat} : (recN G0 (n + 1)).ev sc (.Constant .none c p) loc σ = some (.none, σ) := rfl
theorem e_loc (h : locN sc x = true) (k : lookS x loc = some v) : (recN G0 (n + 1)).ev sc (.Name x p) loc σ = some (v, σ) :=
  iF (locN_eq h k).1 (i1 (locN_eq h k).2 rfl)
theorem e_glo (h : gloN sc x = true) (k : G0.name x = some v) : (recN G0 (n + 1)).ev sc (.Name x p) loc σ = some (v, σ) :=
  iF (gloN_eq (loc := loc) h k).1 (i1 (gloN_eq h k).2 rfl)
theorem e_tup {c : Nat} (h : short es = true) (k : evs (recN G0 n) sc es loc σ = some (vs, σ1)) : (recN G0 (n + 1)).ev sc (.Tuple es c p) loc σ = some (.tup vs, σ1) := (iT h (i2 k rfl) : evStep G0 (recN G0 n) sc (.Tuple es c p) loc σ = some (.tup vs, σ1))
theorem e_lst (h : (short es && !G0.mutAt p) = true) (k : evs (recN G0 n) sc es loc σ = some (vs, σ1)) : (recN G0 (n + 1)).ev sc (.List es p) loc σ = some (.lst vs, σ1) :=
  bA h fun h m => iT h (i2 k (congrArg some (iF (not_eq m) rfl)))
theorem e_cell (h : (short es && G0.mutAt p) = true) (k : evs (recN G0 n) sc es loc σ = some (vs, σ1)) : (recN G0 (n + 1)).ev sc (.List es p) loc σ = some (.cell σ1.next, σ1.new (.list vs)) :=
  bA h fun h m => iT h (i2 k (congrArg some (iT m rfl)))
theorem e_dict {ks : List (Option Expr)} {L d : List (V × V)} (h : Nat.blt es.length 15 = true) (k : evPairs (recN G0 n) sc ks es loc σ = some (L, σ1)) (m : putAll L [] = some d) : (recN G0 (n + 1)).ev sc (.Dict ks es p) loc σ = some (.cell σ1.next, σ1.new (.dict d)) :=
  iT h (i2 k (i1 m rfl))
theorem e_or {op : BoolOp} (k : boolV (recN G0 n) sc op es loc σ = X) : (recN G0 (n + 1)).ev sc (.BoolOp op es p) loc σ = X := k
theorem e_if (h : (recN G0 n).isT sc t loc σ = some (B, σ1)) (k : cond B ((recN G0 n).ev sc a loc σ1) ((recN G0 n).ev sc b loc σ1) = X) : (recN G0 (n + 1)).ev sc (.IfExp t a b p) loc σ = X := (i2 h k : bnd2 ((recN G0 n).isT sc t loc σ) (fun c σ => cond c ((recN G0 n).ev sc a loc σ) ((recN G0 n).ev sc b loc σ)) = X)
theorem e_neg {j : Int} (k : (recN G0 n).ev sc e loc σ = some (.int j, σ1)) : (recN G0 (n + 1)).ev sc (.UnaryOp .USub e p) loc σ = some (.int (-j), σ1) := (i2 k rfl : bnd2 ((recN G0 n).ev sc e loc σ) (fun v σ => bnd (asInt v) fun i => some (V.int (-i), σ)) = some (V.int (-j), σ1))
theorem e_cmp {op : CmpOp} (k : cmpE (recN G0 n) sc l op e loc σ = some (B, σ1)) : (recN G0 (n + 1)).ev sc (.Compare l [op] [e] p) loc σ = some (.bool B, σ1) := (i2 k rfl : bnd2 (cmpE (recN G0 n) sc l op e loc σ) (fun b σ => some (V.bool b, σ)) = some (V.bool B, σ1))
theorem e_bin {op : Operator} (h1 : (recN G0 n).ev sc a loc σ = some (av, σ1)) (h2 : (recN G0 n).ev sc b loc σ1 = some (bv, σ2)) (h3 : binV σ2 op av bv = some v) : (recN G0 (n + 1)).ev sc (.BinOp a op b p) loc σ = some (v, σ2) := (i2 h1 (i2 h2 (i1 h3 rfl)) : bnd2 ((recN G0 n).ev sc a loc σ) (fun av σ => bnd2 ((recN G0 n).ev sc b loc σ) fun bv σ => bnd (binV σ op av bv) fun v => some (v, σ)) = some (v, σ2))
theorem e_attr (h : notCall o = true) (h1 : (recN G0 n).ev sc o loc σ = some (ov, σ1)) (h2 : attrV G0 σ1 ov x = some v) : (recN G0 (n + 1)).ev sc (.Attribute o x p) loc σ = some (v, σ1) := (iT h (i2 h1 (i1 h2 rfl)) : evStep G0 (recN G0 n) sc (.Attribute o x p) loc σ = some (v, σ1))
theorem e_slice {s : Str} (h : slice1 i = true) (h1 : (recN G0 n).ev sc o loc σ = some (.str s, σ1)) (h2 : Nat.blt s.length 1000 = true) : (recN G0 (n + 1)).ev sc (.Subscript o i p) loc σ = some (.str (Txt.slice s none (some 1)), σ1) := (iT h (i2 h1 (iT h2 rfl)) : evStep G0 (recN G0 n) sc (.Subscript o i p) loc σ = some (.str (Txt.slice s none (some 1)), σ1))
theorem e_item (h : (!slice1 i && !isSlice i) = true) (h1 : (recN G0 n).ev sc o loc σ = some (ov, σ1)) (h2 : (recN G0 n).ev sc i loc σ1 = some (iv, σ2)) (h3 : itemV σ2 ov iv = some v) : (recN G0 (n + 1)).ev sc (.Subscript o i p) loc σ = some (v, σ2) :=
  bA h fun h h' => iF (not_eq h) (iF (not_eq h') (i2 h1 (i2 h2 (i1 h3 rfl))))
noncomputable def noVal (f : Expr) (as : List Expr) : Bool := short as && (valuesOf f as).isNone
noncomputable def isFn (a : Addr) : Bool := (G0.fn a).isSome
theorem noVal_eq {f : Expr} {as : List Expr} (h : noVal f as = true) (k : evFn G0 (recN G0 n) sc as p loc σ f = X) : (recN G0 (n + 1)).ev sc (.Call f as [] p) loc σ = X :=
  bA h fun h1 h2 => (iT rfl (iT h1 (oN (Option.isNone_iff_eq_none.mp h2) k) : evCall G0 (recN G0 n) sc f as p loc σ = X) : cond true (evCall G0 (recN G0 n) sc f as p loc σ) none = X)
theorem e_fn {A : Addr} (h : (noVal (.Name x q) args && gloN sc x) = true) (g : G0.name x = some (.glob (.ref A))) (f : isFn A = true) (k : evs (recN G0 n) sc args loc σ = some (vs, σ1)) (m : (recN G0 n).call A vs σ1 = X) : (recN G0 (n + 1)).ev sc (.Call (.Name x q) args [] p) loc σ = X :=
  bA h fun h1 h2 => noVal_eq h1 (iF (gloN_eq (loc := loc) h2 g).1 (i1 (gloN_eq h2 g).2 (i2 k (i1 rfl (oS rfl ((Option.isSome_iff_exists.mp f).elim fun _ f => oS f m))))))
theorem e_cls {A I : Addr} (h : (noVal (.Name x q) args && gloN sc x) = true) (g : G0.name x = some (.glob (.ref A))) (f : G0.fn A = none) (f' : G0.cls A = some I) (k : evs (recN G0 n) sc args loc σ = some (vs, σ1)) (m : callC (recN G0 n) A I vs σ1 = X) : (recN G0 (n + 1)).ev sc (.Call (.Name x q) args [] p) loc σ = X :=
  bA h fun h1 h2 => noVal_eq h1 (iF (gloN_eq (loc := loc) h2 g).1 (i1 (gloN_eq h2 g).2 (i2 k (i1 rfl (oS rfl (oN f (i1 f' m)))))))
theorem e_blt {u : Value} (h : (noVal (.Name x q) args && gloN sc x) = true) (g : G0.name x = some (.glob u)) (f : refOf u = none) (k : evs (recN G0 n) sc args loc σ = some (vs, σ1)) (m : callB σ1 u vs = some v) : (recN G0 (n + 1)).ev sc (.Call (.Name x q) args [] p) loc σ = some (v, σ1) :=
  bA h fun h1 h2 => noVal_eq h1 (iF (gloN_eq (loc := loc) h2 g).1 (i1 (gloN_eq h2 g).2 (i2 k (i1 rfl (oN f (i1 m rfl))))))
theorem e_meth {m : Mth} (h : (noVal (.Attribute o x q) args && (notCall o && Nat.beq q.endLine p.line)) = true) (h1 : (recN G0 n).ev sc o loc σ = some (ov, σ1)) (h2 : methOf G0 σ1 ov x = some m) (h3 : evs (recN G0 n) sc args loc σ1 = some (vs, σ2)) (h4 : callM (recN G0 n) ov m vs σ2 = X) : (recN G0 (n + 1)).ev sc (.Call (.Attribute o x q) args [] p) loc σ = X :=
  bA h fun h h' => noVal_eq h (i3 rfl (iT h' (i2 h1 (i1 h2 (i2 h3 h4)))))
noncomputable def valE (sc : Scope) (f : Expr) (as : List Expr) (o : Expr) : Prop := ∃ l, valuesOf f as = some (l, o) ∧ (short as && gloN sc l) = true ∧ G0.name l = some (.glob (.type "list"))
theorem e_vals {D : Nat} {d : List (V × V)} {f : Expr} (h : valE sc f args o) (h1 : (recN G0 n).ev sc o loc σ = some (.cell D, σ1)) (h2 : dictAt σ1 D = some d) (h3 : Nat.blt d.length 1000 = true) : (recN G0 (n + 1)).ev sc (.Call f args [] p) loc σ = some (.lst (d.map (·.2)), σ1) :=
  h.elim fun l h => bA h.2.1 fun ha hb => (iT rfl (iT ha (oS h.1 (iF (gloN_eq (loc := loc) hb h.2.2).1 (i1 (gloN_eq hb h.2.2).2 (iT rfl (i2 h1 (i1 rfl (i1 h2 (iT h3 rfl)))))))) : evCall G0 (recN G0 n) sc f args p loc σ = some (.lst (d.map (·.2)), σ1)) : cond true (evCall G0 (recN G0 n) sc f args p loc σ) none = some (.lst (d.map (·.2)), σ1))
theorem e_lc {it : It} (h : compOk sc sc' = true) (h1 : startIt G0 (recN G0 n) sc t i loc σ = some (it, σ1)) (h2 : compE (recN G0 n) (compSc sc sc') t ifs (emitL (recN G0 n) (compSc sc sc') σ1.next e) 200 it (freeLoc sc' loc) (σ1.new (.list [])) = some σ2) : (recN G0 (n + 1)).ev sc (.ListComp e [⟨t, i, ifs, 0⟩] sc' p) loc σ = some (.cell σ1.next, σ2) := (iT h (i2 h1 (i1 h2 rfl)) : evStep G0 (recN G0 n) sc (.ListComp e [⟨t, i, ifs, 0⟩] sc' p) loc σ = some (.cell σ1.next, σ2))
theorem e_dc {it : It} (h : compOk sc sc' = true) (h1 : startIt G0 (recN G0 n) sc t i loc σ = some (it, σ1)) (h2 : compE (recN G0 n) (compSc sc sc') t ifs (emitD (recN G0 n) (compSc sc sc') σ1.next e a) 200 it (freeLoc sc' loc) (σ1.new (.dict [])) = some σ2) : (recN G0 (n + 1)).ev sc (.DictComp e a [⟨t, i, ifs, 0⟩] sc' p) loc σ = some (.cell σ1.next, σ2) := (iT h (i2 h1 (i1 h2 rfl)) : evStep G0 (recN G0 n) sc (.DictComp e a [⟨t, i, ifs, 0⟩] sc' p) loc σ = some (.cell σ1.next, σ2))
theorem evs_0 {r : Rec} : evs r sc [] loc σ = some ([], σ) := rfl
theorem evs_s {r : Rec} (h : notStar e = true) (h1 : r.ev sc e loc σ = some (v, σ1)) (h2 : evs r sc es loc σ1 = some (vs, σ2)) : evs r sc (e :: es) loc σ = some (v :: vs, σ2) := iT h (i2 h1 (i2 h2 rfl))
theorem ep_0 {r : Rec} : evPairs r sc [] [] loc σ = some ([], σ) := rfl
theorem ep_s {r : Rec} {ks : List (Option Expr)} {L : List (V × V)} (h1 : r.ev sc a loc σ = some (v, σ1)) (h2 : r.ev sc e loc σ1 = some (w, σ2)) (h3 : evPairs r sc ks es loc σ2 = some (L, σ3)) : evPairs r sc (some a :: ks) (e :: es) loc σ = some ((v, w) :: L, σ3) := i1 rfl (i2 rfl (i2 h1 (i2 h2 (i2 h3 rfl))))
theorem bv_1 {r : Rec} {op : BoolOp} (h : r.ev sc e loc σ = X) : boolV r sc op [e] loc σ = X := h
theorem bv_s {r : Rec} {op : BoolOp} (h : r.ev sc a loc σ = some (.bool B, σ1)) (k : cond (stops op B) (some (.bool B, σ1)) (boolV r sc op (e :: es) loc σ1) = X) : boolV r sc op (a :: e :: es) loc σ = X := (i2 h k : bnd2 (r.ev sc a loc σ) (fun v σ => bnd (asBool v) fun b => cond (stops op b) (some (v, σ)) (boolV r sc op (e :: es) loc σ)) = X)
variable {Y : Option (Bool × St)}
theorem t_not (h : (recN G0 n).isT sc e loc σ = some (B, σ1)) : (recN G0 (n + 1)).isT sc (.UnaryOp .Not e p) loc σ = some (!B, σ1) := (i2 h rfl : bnd2 ((recN G0 n).isT sc e loc σ) (fun b σ => some (!b, σ)) = some (!B, σ1))
theorem t_or {op : BoolOp} (h : allT (recN G0 n) sc op es loc σ = Y) : (recN G0 (n + 1)).isT sc (.BoolOp op es p) loc σ = Y := h
theorem t_cmp {op : CmpOp} (h : cmpE (recN G0 n) sc l op e loc σ = Y) : (recN G0 (n + 1)).isT sc (.Compare l [op] [e] p) loc σ = Y := h
theorem t_name (h : (recN G0 n).ev sc (.Name x p) loc σ = some (.bool B, σ1)) : (recN G0 (n + 1)).isT sc (.Name x p) loc σ = some (B, σ1) := (i2 h rfl : bnd2 ((recN G0 n).ev sc (.Name x p) loc σ) (fun v σ => bnd (asBool v) fun b => some (b, σ)) = some (B, σ1))
theorem t_attr (h : (recN G0 n).ev sc (.Attribute o x p) loc σ = some (.bool B, σ1)) : (recN G0 (n + 1)).isT sc (.Attribute o x p) loc σ = some (B, σ1) := (i2 h rfl : bnd2 ((recN G0 n).ev sc (.Attribute o x p) loc σ) (fun v σ => bnd (asBool v) fun b => some (b, σ)) = some (B, σ1))
theorem t_call {ks : List Keyword} (h : (recN G0 n).ev sc (.Call a args ks p) loc σ = some (.bool B, σ1)) : (recN G0 (n + 1)).isT sc (.Call a args ks p) loc σ = some (B, σ1) := (i2 h rfl : bnd2 ((recN G0 n).ev sc (.Call a args ks p) loc σ) (fun v σ => bnd (asBool v) fun b => some (b, σ)) = some (B, σ1))
theorem t_item (h : (recN G0 n).ev sc (.Subscript o i p) loc σ = some (.bool B, σ1)) : (recN G0 (n + 1)).isT sc (.Subscript o i p) loc σ = some (B, σ1) := (i2 h rfl : bnd2 ((recN G0 n).ev sc (.Subscript o i p) loc σ) (fun v σ => bnd (asBool v) fun b => some (b, σ)) = some (B, σ1))
theorem t_const {j : Const} {c : Nat} (h : (recN G0 n).ev sc (.Constant j c p) loc σ = some (.bool B, σ1)) : (recN G0 (n + 1)).isT sc (.Constant j c p) loc σ = some (B, σ1) := (i2 h rfl : bnd2 ((recN G0 n).ev sc (.Constant j c p) loc σ) (fun v σ => bnd (asBool v) fun b => some (b, σ)) = some (B, σ1))
theorem at_0 {r : Rec} {op : BoolOp} : allT r sc op [] loc σ = some (allEnd op, σ) := rfl
theorem at_1 {r : Rec} {op : BoolOp} (h : r.isT sc e loc σ = some (B, σ1)) : allT r sc op [e] loc σ = some (B, σ1) := i2 h (by cases op <;> cases B <;> rfl)
theorem at_s {r : Rec} {op : BoolOp} (h : r.isT sc a loc σ = some (B, σ1)) (k : cond (stops op B) (some (B, σ1)) (allT r sc op (e :: es) loc σ1) = Y) : allT r sc op (a :: e :: es) loc σ = Y := i2 h k
theorem c_mp {r : Rec} {op : CmpOp} (h : behindInMarks op e = false) (h1 : r.ev sc l loc σ = some (av, σ1)) (h2 : r.ev sc e loc σ1 = some (bv, σ2)) (h3 : cmpV σ2 op av bv = some B) : cmpE r sc l op e loc σ = some (B, σ2) := iF h (i2 h1 (i2 h2 (i1 h3 rfl)))
noncomputable def lcN (sc : Scope) (x : Str) : Bool := obr (lookS x sc.names) isLC false
variable {Z : Option (Loc × St)} {ts : List Expr}
theorem a_name {L : Loc} (h : lcN sc x = true) : (recN G0 (n + 1)).asg sc (.Name x p) v (ext L loc) σ = some (ext ((x, v) :: L) loc, σ) := (bO h (fun _ hq h => i1 hq (iT h rfl)) fun _ h => nnF h : asgStep G0 (recN G0 n) sc (.Name x p) v (ext L loc) σ = some (ext ((x, v) :: L) loc, σ))
theorem a_name0 (h : lcN sc x = true) : (recN G0 (n + 1)).asg sc (.Name x p) v loc σ = some (ext [(x, v)] loc, σ) := (bO h (fun _ hq h => i1 hq (iT h rfl)) fun _ h => nnF h : asgStep G0 (recN G0 n) sc (.Name x p) v loc σ = some (ext [(x, v)] loc, σ))
theorem a_tup {c : Nat} (h : seqOf σ v = some vs) (k : sameLen ts vs = true) (m : asgSeq ((recN G0 n).asg sc) ts vs loc σ = Z) : (recN G0 (n + 1)).asg sc (.Tuple ts c p) v loc σ = Z := (i1 h (iT k m) : asgStep G0 (recN G0 n) sc (.Tuple ts c p) v loc σ = Z)
theorem a_attr (h1 : (recN G0 n).ev sc o loc σ = some (ov, σ1)) (h2 : setAttrV G0 σ1 ov x v = some σ2) : (recN G0 (n + 1)).asg sc (.Attribute o x p) v loc σ = some (loc, σ2) := (i2 h1 (i1 h2 rfl) : bnd2 ((recN G0 n).ev sc o loc σ) (fun ov σ => bnd (setAttrV G0 σ ov x v) fun σ => some (loc, σ)) = some (loc, σ2))
theorem a_item (h : isSlice i = false) (h1 : (recN G0 n).ev sc o loc σ = some (ov, σ1)) (h2 : (recN G0 n).ev sc i loc σ1 = some (iv, σ2)) (h3 : storeV σ2 ov iv v = some σ3) : (recN G0 (n + 1)).asg sc (.Subscript o i p) v loc σ = some (loc, σ3) := (iF h (i2 h1 (i2 h2 (i1 h3 rfl))) : asgStep G0 (recN G0 n) sc (.Subscript o i p) v loc σ = some (loc, σ3))
theorem as_0 {g : Expr → V → Loc → St → Option (Loc × St)} : asgSeq g [] [] loc σ = some (loc, σ) := rfl
theorem as_s {g : Expr → V → Loc → St → Option (Loc × St)} (h : notStar t = true) (h1 : g t v loc σ = some (loc', σ1)) (k : asgSeq g ts vs loc' σ1 = Z) : asgSeq g (t :: ts) (v :: vs) loc σ = Z := iT h (i2 rfl (i2 h1 k))
theorem aN_name {L : Loc} {m : Nat} (h : isLocO (lookS x sc.names) = true) : asgLocN sc σ m (.Name x p) v (ext L loc) = some (ext ((x, v) :: L) loc) := by
  have k : asgL sc v (ext L loc) (fun ts => none) (.Name x p) = some (ext ((x, v) :: L) loc) := by
    cases q : lookS x sc.names with
    | none => rw [q] at h; exact nnF h
    | some k => rw [q] at h; exact oS rfl (i1 q (by cases k <;> first | rfl | exact nnF h))
  cases m <;> exact k
theorem aN_name0 {m : Nat} (h : isLocO (lookS x sc.names) = true) : asgLocN sc σ m (.Name x p) v loc = some (ext [(x, v)] loc) := aN_name (L := []) h
theorem aN_tup {m : Nat} {c : Nat} (h : seqOf σ v = some vs) (k : sameLen ts vs = true) (h1 : asgLocs (asgLocN sc σ m) ts vs loc = some loc') : asgLocN sc σ (m + 1) (.Tuple ts c p) v loc = some loc' := (i1 h (iT k h1) : bnd (seqOf σ v) (fun l => cond (sameLen ts l) (asgLocs (asgLocN sc σ m) ts l loc) none) = some loc')
theorem al_0 {g : Expr → V → Loc → Option Loc} : asgLocs g [] [] loc = some loc := rfl
theorem al_s {g : Expr → V → Loc → Option Loc} {loc2 : Loc} (h : notStar t = true) (h1 : g t v loc = some loc') (k : asgLocs g ts vs loc' = some loc2) : asgLocs g (t :: ts) (v :: vs) loc = some loc2 := iT h (i2 rfl (i1 h1 k))
variable {W : Option (Fl × Loc × St)} {s : Stmt} {ss ss' els : List Stmt} {fl : Fl} {it : It}
theorem x_s (k : exsStep G0 (recN G0 n) sc ss loc σ = W) : (recN G0 (n + 1)).exs sc ss loc σ = W := k
theorem x_0 {r : Rec} : exsStep G0 r sc [] loc σ = some (.next, loc, σ) := rfl
theorem x_name {L : Loc} (h : (lcN sc x && swapOk sc (.Name x q) e) = true) (h1 : (recN G0 (n + 1)).ev sc e (ext L loc) σ = some (v, σ1)) (k : exsStep G0 (recN G0 (n + 1)) sc ss (ext ((x, v) :: L) loc) σ1 = W) : exsStep G0 (recN G0 (n + 1)) sc (.Assign [.Name x q] e p :: ss) (ext L loc) σ = W := bA h fun h h' => i3 (show exS G0 (recN G0 (n + 1)) sc (.Assign [.Name x q] e p) (ext L loc) σ = some (Fl.next, ext ((x, v) :: L) loc, σ1) from (iT h' (i2 h1 (i2 (iF rfl (a_name h)) rfl)) : cond (swapOk sc (.Name x q) e) (bnd2 ((recN G0 (n + 1)).ev sc e (ext L loc) σ) fun v σ => bnd2 (asgS (recN G0 (n + 1)) sc (.Name x q) e v (ext L loc) σ) fun loc σ => some (Fl.next, loc, σ)) none = some (Fl.next, ext ((x, v) :: L) loc, σ1))) k
theorem x_name0 (h : (lcN sc x && swapOk sc (.Name x q) e) = true) (h1 : (recN G0 (n + 1)).ev sc e loc σ = some (v, σ1)) (k : exsStep G0 (recN G0 (n + 1)) sc ss (ext [(x, v)] loc) σ1 = W) : exsStep G0 (recN G0 (n + 1)) sc (.Assign [.Name x q] e p :: ss) loc σ = W := x_name (L := []) h h1 k
theorem x_asg (h : (swapOk sc t e && !bothTup sc t e) = true) (h1 : (recN G0 n).ev sc e loc σ = some (v, σ1)) (h2 : (recN G0 n).asg sc t v loc σ1 = some (loc', σ2)) (k : exsStep G0 (recN G0 n) sc ss loc' σ2 = W) : exsStep G0 (recN G0 n) sc (.Assign [t] e p :: ss) loc σ = W := bA h fun h h' => i3 (show exS G0 (recN G0 n) sc (.Assign [t] e p) loc σ = some (Fl.next, loc', σ2) from (iT h (i2 h1 (i2 (iF (not_eq h') h2) rfl)) : cond (swapOk sc t e) (bnd2 ((recN G0 n).ev sc e loc σ) fun v σ => bnd2 (asgS (recN G0 n) sc t e v loc σ) fun loc σ => some (Fl.next, loc, σ)) none = some (Fl.next, loc', σ2))) k
theorem x_asgB (h : (swapOk sc t e && bothTup sc t e) = true) (h1 : (recN G0 n).ev sc e loc σ = some (v, σ1)) (h2 : asgLocN sc σ1 1 t v loc = some loc') (k : exsStep G0 (recN G0 n) sc ss loc' σ1 = W) : exsStep G0 (recN G0 n) sc (.Assign [t] e p :: ss) loc σ = W := bA h fun h h' => i3 (show exS G0 (recN G0 n) sc (.Assign [t] e p) loc σ = some (Fl.next, loc', σ1) from (iT h (i2 h1 (i2 (iT h' (i1 h2 rfl)) rfl)) : cond (swapOk sc t e) (bnd2 ((recN G0 n).ev sc e loc σ) fun v σ => bnd2 (asgS (recN G0 n) sc t e v loc σ) fun loc σ => some (Fl.next, loc, σ)) none = some (Fl.next, loc', σ1))) k
theorem x_expr (h : notCall e = false) (h1 : (recN G0 n).ev sc e loc σ = some (.none, σ1)) (k : exsStep G0 (recN G0 n) sc ss loc σ1 = W) : exsStep G0 (recN G0 n) sc (.Expr e p :: ss) loc σ = W := i3 (show exS G0 (recN G0 n) sc (.Expr e p) loc σ = some (Fl.next, loc, σ1) from (iF h (i2 h1 (i1 rfl rfl)) : cond (notCall e) none (bnd2 ((recN G0 n).ev sc e loc σ) fun v σ => bnd (asNone v) fun _ => some (Fl.next, loc, σ)) = some (Fl.next, loc, σ1))) k
theorem x_ret (h1 : (recN G0 n).ev sc e loc σ = some (v, σ1)) : exsStep G0 (recN G0 n) sc (.Return (some e) p :: ss) loc σ = some (.ret v, loc, σ1) := i3 (show exS G0 (recN G0 n) sc (.Return (some e) p) loc σ = some (Fl.ret v, loc, σ1) from (i2 h1 rfl : bnd2 ((recN G0 n).ev sc e loc σ) (fun v σ => some (Fl.ret v, loc, σ)) = some (Fl.ret v, loc, σ1))) rfl
theorem x_1 {r : Rec} (h : exS G0 r sc s loc σ = W) : exsStep G0 r sc [s] loc σ = W := by
  rw [← h]
  show bnd3 (exS G0 r sc s loc σ) _ = _
  cases exS G0 r sc s loc σ with
  | none => rfl
  | some p => obtain ⟨f, l, σ⟩ := p; cases f <;> rfl
theorem x_p {r : Rec} (h : exS G0 r sc s loc σ = some (fl, loc', σ1)) (k : flw loc' σ1 (exsStep G0 r sc (s' :: ss) loc' σ1) fl = W) : exsStep G0 r sc (s :: s' :: ss) loc σ = W := i3 h k
theorem fl_n {W' : Option (Fl × Loc × St)} (k : W = W') : flw loc σ W .next = W' := k
theorem fl_r : flw loc σ W (.ret v) = some (.ret v, loc, σ) := rfl
theorem s_if (h : (recN G0 n).isT sc t loc σ = some (B, σ1)) (k : cond B ((recN G0 n).exs sc ss loc σ1) ((recN G0 n).exs sc ss' loc σ1) = W) : exS G0 (recN G0 n) sc (.If t ss ss' p) loc σ = W := (i2 h k : bnd2 ((recN G0 n).isT sc t loc σ) (fun c σ => cond c ((recN G0 n).exs sc ss loc σ) ((recN G0 n).exs sc ss' loc σ)) = W)
theorem s_while {r : Rec} (k : whileE r sc t ss 200 loc σ = W) : exS G0 r sc (.While t ss [] p) loc σ = W := k
theorem s_for {r : Rec} (h : startIt G0 r sc t i loc σ = some (it, σ1)) (k : forE r sc t ss 200 it loc σ1 = W) : exS G0 r sc (.For t i ss [] p) loc σ = W := (i2 h k : bnd2 (startIt G0 r sc t i loc σ) (fun it σ => forE r sc t ss 200 it loc σ) = W)
theorem w_end {r : Rec} {m : Nat} (h : r.isT sc t loc σ = some (false, σ1)) : whileE r sc t ss (m + 1) loc σ = some (.next, loc, σ1) := (i2 h rfl : bnd2 (r.isT sc t loc σ) (fun b σ => cond b (bnd3 (r.exs sc ss loc σ) fun f loc σ => flw loc σ (whileE r sc t ss m loc σ) f) (some (Fl.next, loc, σ))) = some (Fl.next, loc, σ1))
theorem w_step {r : Rec} {m : Nat} (h : r.isT sc t loc σ = some (true, σ1)) (h1 : r.exs sc ss loc σ1 = some (.next, loc', σ2)) (k : whileE r sc t ss m loc' σ2 = W) : whileE r sc t ss (m + 1) loc σ = W := (i2 h (iT rfl (i3 h1 k)) : bnd2 (r.isT sc t loc σ) (fun b σ => cond b (bnd3 (r.exs sc ss loc σ) fun f loc σ => flw loc σ (whileE r sc t ss m loc σ) f) (some (Fl.next, loc, σ))) = W)
theorem f_end {r : Rec} {m : Nat} (h : nextIt σ it = some none) : forE r sc t ss (m + 1) it loc σ = some (.next, loc, σ) := i1 h rfl
theorem f_step {r : Rec} {m : Nat} {it' : It} {loc2 : Loc} (h : nextIt σ it = some (some (v, it'))) (h1 : r.asg sc t v loc σ = some (loc', σ1)) (h2 : r.exs sc ss loc' σ1 = some (.next, loc2, σ2)) (k : forE r sc t ss m it' loc2 σ2 = W) : forE r sc t ss (m + 1) it loc σ = W := i1 h (i2 h1 (i3 h2 k) : bnd2 (r.asg sc t v loc σ) (fun loc σ => bnd3 (r.exs sc ss loc σ) fun f loc σ => flw loc σ (forE r sc t ss m it' loc σ) f) = W)
theorem f_ret {r : Rec} {m : Nat} {it' : It} {loc2 : Loc} (h : nextIt σ it = some (some (v, it'))) (h1 : r.asg sc t v loc σ = some (loc', σ1)) (h2 : r.exs sc ss loc' σ1 = some (.ret w, loc2, σ2)) : forE r sc t ss (m + 1) it loc σ = some (.ret w, loc2, σ2) := i1 h (i2 h1 (i3 h2 rfl) : bnd2 (r.asg sc t v loc σ) (fun loc σ => bnd3 (r.exs sc ss loc σ) fun f loc σ => flw loc σ (forE r sc t ss m it' loc σ) f) = some (Fl.ret w, loc2, σ2))
theorem k_end {r : Rec} {m : Nat} {em : Loc → St → Option St} (h : nextIt σ it = some none) : compE r sc t ifs em (m + 1) it loc σ = some σ := i1 h rfl
theorem k_step {r : Rec} {m : Nat} {em : Loc → St → Option St} {it' : It} {U : Option St} (h : nextIt σ it = some (some (v, it'))) (h1 : asgLocN sc σ 3 t v loc = some loc') (h2 : allT r sc .And ifs loc' σ = some (true, σ1)) (h3 : em loc' σ1 = some σ2) (k : compE r sc t ifs em m it' loc' σ2 = U) : compE r sc t ifs em (m + 1) it loc σ = U := i1 h (i1 h1 (i2 h2 (iT rfl (i1 h3 k)) : bnd2 (allT r sc .And ifs loc' σ) (fun b σ => cond b (bnd (em loc' σ) fun σ => compE r sc t ifs em m it' loc' σ) (compE r sc t ifs em m it' loc' σ)) = U) : bnd (asgLocN sc σ 3 t v loc) (fun loc => bnd2 (allT r sc .And ifs loc σ) fun b σ => cond b (bnd (em loc σ) fun σ => compE r sc t ifs em m it' loc σ) (compE r sc t ifs em m it' loc σ)) = U)
theorem k_skip {r : Rec} {m : Nat} {em : Loc → St → Option St} {it' : It} {U : Option St} (h : nextIt σ it = some (some (v, it'))) (h1 : asgLocN sc σ 3 t v loc = some loc') (h2 : allT r sc .And ifs loc' σ = some (false, σ1)) (k : compE r sc t ifs em m it' loc' σ1 = U) : compE r sc t ifs em (m + 1) it loc σ = U := i1 h (i1 h1 (i2 h2 (iF rfl k) : bnd2 (allT r sc .And ifs loc' σ) (fun b σ => cond b (bnd (em loc' σ) fun σ => compE r sc t ifs em m it' loc' σ) (compE r sc t ifs em m it' loc' σ)) = U) : bnd (asgLocN sc σ 3 t v loc) (fun loc => bnd2 (allT r sc .And ifs loc σ) fun b σ => cond b (bnd (em loc σ) fun σ => compE r sc t ifs em m it' loc σ) (compE r sc t ifs em m it' loc σ)) = U)
theorem si_p {r : Rec} (h : (!isSetE e && (enumOf G0 sc loc e).isNone) = true) (h1 : r.ev sc e loc σ = some (v, σ1)) (h2 : iterV σ1 v = some it) : startIt G0 r sc t e loc σ = some (it, σ1) := bA h fun h h' => oN (Option.isNone_iff_eq_none.mp h') (iF (not_eq h) (i2 h1 (i1 h2 rfl)))
theorem si_e {r : Rec} (h : enumOf G0 sc loc e = some (true, a)) (h0 : (notStar a && isTupE t) = true) (h1 : r.ev sc a loc σ = some (v, σ1)) (h2 : (seqOf σ1 v).isSome = true) : startIt G0 r sc t e loc σ = some (.enum v 0, σ1) :=
  bA h0 fun h0 h3 => oS h (iT rfl (i2 (evs_s h0 h1 evs_0) (i1 rfl (iT h3 ((Option.isSome_iff_exists.mp h2).elim fun _ h => i1 h rfl)))))
theorem si_r {r : Rec} {j : Int} (h : enumOf G0 sc loc e = some (false, a)) (h0 : notStar a = true) (h1 : r.ev sc a loc σ = some (.int j, σ1)) (h2 : (decide (0 ≤ j) && decide (j < 1000)) = true) : startIt G0 r sc t e loc σ = some (.range 0 j, σ1) :=
  oS h (iF rfl (i2 (evs_s h0 h1 evs_0) (i1 rfl (i1 rfl (iT h2 rfl)))))
theorem c_fn {A : Addr} {fi : FnI} {fl : Fl} (h : G0.fn A = some fi) (h1 : bindP fi.params fi.dflts vs = some loc) (h2 : (recN G0 n).exs fi.scope fi.body loc σ = some (fl, loc', σ1)) : (recN G0 (n + 1)).call A vs σ = some (retV fl, σ1) := i1 h (i1 h1 (i3 h2 rfl))
theorem c_ret {A : Addr} {fi : FnI} (h : G0.fn A = some fi) (h1 : bindP fi.params fi.dflts vs = some loc) (h2 : (recN G0 n).exs fi.scope fi.body loc σ = some (.ret v, loc', σ1)) : (recN G0 (n + 1)).call A vs σ = some (v, σ1) := c_fn h h1 h2
theorem c_to {A : Addr} {fi : FnI} {R : Option (V × St)} (h : G0.fn A = some fi) (h1 : bindP fi.params fi.dflts vs = some loc) (h2 : (recN G0 n).exs fi.scope fi.body loc σ = some (.ret v, loc', σ1)) (q : some (v, σ1) = R) : (recN G0 (n + 1)).call A vs σ = R := (c_fn h h1 h2).trans q
theorem c_nt {A : Addr} {fi : FnI} {R : Option (V × St)} (h : G0.fn A = some fi) (h1 : bindP fi.params fi.dflts vs = some loc) (h2 : (recN G0 n).exs fi.scope fi.body loc σ = some (.next, loc', σ1)) (q : some (.none, σ1) = R) : (recN G0 (n + 1)).call A vs σ = R := (c_fn h h1 h2).trans q
theorem c_nx {A : Addr} {fi : FnI} (h : G0.fn A = some fi) (h1 : bindP fi.params fi.dflts vs = some loc) (h2 : (recN G0 n).exs fi.scope fi.body loc σ = some (.next, loc', σ1)) : (recN G0 (n + 1)).call A vs σ = some (.none, σ1) := c_fn h h1 h2
theorem c_cls {r : Rec} {A I : Addr} (h : r.call I (.cell σ.next :: vs) (σ.new (.inst A [])) = some (.none, σ1)) : callC r A I vs σ = some (.cell σ.next, σ1) := i2 h (i1 rfl rfl)
end
section
variable {σ σ' : St} {c i j D : Nat} {C : Addr} {l : List V} {d : List (V × V)} {L : List (Str × V)} {v w a b x y : V} {s s' t : Str} {B : Bool} {args : List V} {r : Rec} {n : Nat} {f : Addr}
theorem g_eq {c' : Cell} : (σ.set i c').get i = some c' := by rw [St.get_set, if_pos rfl]
theorem g_ne {c' e : Cell} (h : j ≠ i) (k : σ.get j = some e) : (σ.set i c').get j = some e := by rw [St.get_set, if_neg h, k]
theorem g_new {c' : Cell} : (σ.new c').get σ.next = some c' := by rw [St.get_new, if_pos rfl]
theorem g_old {c' e : Cell} (h : j ≠ σ.next) (k : σ.get j = some e) : (σ.new c').get j = some e := by rw [St.get_new, if_neg h, k]
theorem lt_ne {m : Nat} (h : j < m) : j ≠ m := Nat.ne_of_lt h
theorem at_l (h : σ.get c = some (.list l)) : listAt σ c = some l := i1 h rfl
theorem at_d (h : σ.get c = some (.dict d)) : dictAt σ c = some d := i1 h rfl
theorem at_i (h : σ.get c = some (.inst C L)) : instAt σ c = some (C, L) := i1 h rfl
theorem no_l (h : σ.get c = some (.dict d)) : listAt σ c = none := i1 h rfl
theorem no_li (h : σ.get c = some (.inst C L)) : listAt σ c = none := i1 h rfl
noncomputable def atI (σ : St) (o : V) : Option (List V) := seqOf σ o
theorem v_attr (h : σ.get c = some (.inst C L)) (k : G0.attrOk C s = true) (m : lookS s L = some v) : attrV G0 σ (.cell c) s = some v := i1 rfl (i2 (at_i h) (iT k m))
theorem v_setA (h : σ.get c = some (.inst C L)) (k : (Nat.blt L.length 500 && G0.attrOk C s) = true) : setAttrV G0 σ (.cell c) s v = some (σ.set c (.inst C (setL s v L))) := i1 rfl (i2 (at_i h) (iT k rfl))
theorem setC_setC (i : Nat) (c d : Cell) : ∀ l, setC i c (setC i d l) = setC i c l
  | [] => by show cond (Nat.beq i i) ((i, c) :: []) _ = _; rw [Nat.beq_refl]; rfl
  | p :: r => by
    show setC i c (cond (Nat.beq p.1 i) ((i, d) :: r) (p :: setC i d r)) = cond (Nat.beq p.1 i) ((i, c) :: r) (p :: setC i c r)
    cases h : Nat.beq p.1 i with
    | true => show cond (Nat.beq i i) ((i, c) :: r) _ = _; rw [Nat.beq_refl]; rfl
    | false => show cond (Nat.beq p.1 i) _ (p :: setC i c (setC i d r)) = p :: setC i c r; rw [h, setC_setC i c d r]; rfl
theorem set_set (σ : St) (i : Nat) (c d : Cell) : (σ.set i d).set i c = σ.set i c := by
  unfold St.set; rw [setC_setC]
theorem set_new (σ : St) (c d : Cell) : (σ.new d).set σ.next c = σ.new c := by
  show St.mk (σ.next + 1) (cond (Nat.beq σ.next σ.next) _ _) = _
  rw [Nat.beq_refl]; rfl
theorem v_setN (k : (Nat.blt L.length 500 && G0.attrOk C s) = true) : setAttrV G0 (σ.new (.inst C L)) (.cell σ.next) s v = some (σ.new (.inst C (setL s v L))) := (v_setA g_new k).trans (congrArg some (set_new _ _ _))
theorem v_setS (k : (Nat.blt L.length 500 && G0.attrOk C s) = true) : setAttrV G0 (σ.set c (.inst C L)) (.cell c) s v = some (σ.set c (.inst C (setL s v L))) := (v_setA g_eq k).trans (congrArg some (set_set _ _ _ _))
theorem v_itl (h : σ.get c = some (.list l)) (k : atInt l j = some v) : itemV σ (.cell c) (.int j) = some v := oS (at_l h) (i1 rfl k)
theorem v_itL {z : Int} (h : σ.get c = some (.list l)) (k : atInt l z = some v) : itemV σ (.cell c) (.int z) = some v := oS (at_l h) (i1 rfl k)
theorem v_ilst {z : Int} (k : atInt l z = some v) : itemV σ (.lst l) (.int z) = some v := i1 rfl k
theorem v_itup {z : Int} (k : atInt l z = some v) : itemV σ (.tup l) (.int z) = some v := i1 rfl k
theorem v_itd (h : σ.get c = some (.dict d)) (k : keyOk x d = true) (m : dictFindV x d = some v) : itemV σ (.cell c) x = some v := oN (no_l h) (i1 (at_d h) (iT k m))
theorem v_stl {z : Int} (h : σ.get c = some (.list l)) (k : (decide (0 ≤ z) && (Nat.blt z.toNat l.length && Nat.blt z.toNat 1000000)) = true) : storeV σ (.cell c) (.int z) v = some (σ.set c (.list (l.set z.toNat v))) := i1 rfl (oS (at_l h) (i1 rfl (iT k rfl)))
theorem v_std (h : σ.get c = some (.dict d)) (k : (keyOk x d && Nat.blt d.length 1000) = true) : storeV σ (.cell c) x v = some (σ.set c (.dict (dictPutV x v d))) := i1 rfl (oN (no_l h) (i1 (at_d h) (iT k rfl)))
theorem v_stdN (k : (keyOk x d && Nat.blt d.length 1000) = true) : storeV (σ.new (.dict d)) (.cell σ.next) x v = some (σ.new (.dict (dictPutV x v d))) := (v_std g_new k).trans (congrArg some (set_new _ _ _))
theorem v_sq (h : σ.get c = some (.list l)) : seqOf σ (.cell c) = some l := at_l h
theorem v_lo (h : σ.get c = some (.list l)) : listOf σ (.cell c) = some l := at_l h
theorem v_in (h : σ.get c = some (.dict d)) (k : keyOk x d = true) : inV σ x (.cell c) = some (dictFindV x d).isSome := i1 (at_d h) (iT k rfl)
theorem q_str {z z' : Str} (h : okS z = true) (k : okS z' = true) : eqTop σ (.str z) (.str z') = some (sEq z z') := by
  show cond (okS z && okS z') (some (sEq z z')) none = _
  rw [h, k]; rfl
theorem q_int {z z' : Int} : eqTop σ (.int z) (.int z') = some (decide (z = z')) := rfl
theorem cv_eq (h : eqTop σ a b = some B) : cmpV σ .Eq a b = some B := h
theorem cv_ne (h : eqTop σ a b = some B) : cmpV σ .NotEq a b = some (!B) := i1 h rfl
theorem cv_in (h : inV σ a b = some B) : cmpV σ .In a b = some B := h
theorem cv_nin (k : keyTup a = false) (h : inV σ a b = some B) : cmpV σ .NotIn a b = some (!B) := iF k (i1 h rfl)
theorem cv_gt {z z' : Int} : cmpV σ .Gt (.int z) (.int z') = some (decide (z > z')) := rfl
theorem cv_ge {z z' : Int} : cmpV σ .GtE (.int z) (.int z') = some (decide (z ≥ z')) := rfl
theorem n_seq (h : seqOf σ v = some l) (k : l[i]? = some x) : nextIt σ (.seq v i) = some (some (x, .seq v (i + 1))) := i1 h (oS k rfl)
theorem n_seqE (h : seqOf σ v = some l) (k : l[i]? = none) : nextIt σ (.seq v i) = some none := i1 h (oN k rfl)
theorem n_dic (h : σ.get c = some (.dict d)) (m : (Nat.beq d.length n && keysAll isStrV d) = true) (q : d[i]? = some (x, w)) : nextIt σ (.dict c i n) = some (some (x, .dict c (i + 1) n)) := i1 (at_d h) (iT m (oS q rfl))
theorem n_dicE (h : σ.get c = some (.dict d)) (m : (Nat.beq d.length n && keysAll isStrV d) = true) (q : d[i]? = none) : nextIt σ (.dict c i n) = some none := i1 (at_d h) (iT m (oN q rfl))
theorem n_enu (h : seqOf σ v = some l) (k : l[i]? = some x) : nextIt σ (.enum v i) = some (some (.tup [.int i, x], .enum v (i + 1))) := i1 h (oS k rfl)
theorem n_enuE (h : seqOf σ v = some l) (k : l[i]? = none) : nextIt σ (.enum v i) = some none := i1 h (oN k rfl)
theorem it_l (h : σ.get c = some (.list l)) : iterV σ (.cell c) = some (.seq (.cell c) 0) := oS (at_l h) rfl
theorem it_d (h : σ.get c = some (.dict d)) (k : (Nat.blt 0 d.length && keysAll isStrV d) = true) : iterV σ (.cell c) = some (.dict c 0 d.length) := oN (no_l h) (i1 (at_d h) (iT k rfl))
variable {X : Option (V × St)} {e : Cell} {m : Mth}
theorem m_of (h : σ.get c = some e) (k : methC G0 s e = some m) : methOf G0 σ (.cell c) s = some m := i1 h k
theorem mc_i {D : Addr} (h : lookS s L = none) (k : G0.meth C s = some D) : methC G0 s (.inst C L) = some (.fn D) := oN h (i1 k rfl)
theorem m_fn (h : r.call f (v :: args) σ = X) : callM r v (.fn f) args σ = X := h
theorem m_app (h : σ.get c = some (.list l)) (k : Nat.blt l.length 1000 = true) : callM r (.cell c) .append [v] σ = some (.none, σ.set c (.list (l ++ [v]))) := (i1 (at_l h) (iT k rfl) : bnd (listAt σ c) (fun l => cond (Nat.blt l.length 1000) (some (V.none, σ.set c (.list (l ++ [v])))) none) = some (V.none, σ.set c (.list (l ++ [v]))))
theorem m_get (h : σ.get c = some (.dict d)) (k : keyOk (.str s) d = true) : callM r (.cell c) .get [.str s, v] σ = some ((dictFindV (.str s) d).getD v, σ) := (i1 (at_d h) (iT k rfl) : bnd (dictAt σ c) (fun l => cond (keyOk (.str s) l) (some ((dictFindV (.str s) l).getD v, σ)) none) = some ((dictFindV (.str s) d).getD v, σ))
theorem m_spl (h : (Nat.blt s.length 1000 && Nat.blt 0 t.length) = true) : callM r (.str s) .split [.str t] σ = some (.lst ((Txt.split s t).map .str), σ) := i1 rfl (i1 rfl (i1 rfl (iT h rfl)))
theorem b_len (h : listOf σ v = some l) (k : asTup v = none) (q : Nat.blt l.length 1000000 = true) : callB σ (.builtin "len") [v] = some (.int l.length) := i1 rfl (i1 rfl (oN k (i1 h (iT q rfl))))
theorem b_lenT (q : Nat.blt l.length 1000000 = true) : callB σ (.builtin "len") [.tup l] = some (.int l.length) := (iT q rfl : cond (Nat.blt l.length 1000000) (some (V.int l.length)) none = some (V.int l.length))
theorem b_tup (h : listOf σ v = some l) (q : Nat.blt l.length 1000 = true) : callB σ (.type "tuple") [v] = some (.tup l) := (i1 h (iT q rfl) : bnd (listOf σ v) (fun l => cond (Nat.blt l.length 1000) (some (V.tup l)) none) = some (V.tup l))
theorem b_sort {l' : List V} (h : itemsOf σ v = some l) (q : sortV l = some l') : callB σ (.builtin "sorted") [v] = some (.lst l') := (i1 h (i1 q rfl) : bnd (itemsOf σ v) (fun l => bnd (sortV l) fun l => some (V.lst l)) = some (V.lst l'))
theorem add_l (h : listOf σ v = some l) (k : listOf σ w = some args) (q : Nat.blt (l.length + args.length) 1000 = true) (ha : addV σ v w = addL σ v w) : binV σ .Add v w = some (.lst (l ++ args)) := ha.trans (i1 h (i1 k (iT q rfl)))
theorem add_ll {y : List V} (q : Nat.blt (l.length + y.length) 1000 = true) : binV σ .Add (.lst l) (.lst y) = some (.lst (l ++ y)) := (i1 rfl (i1 rfl (iT q rfl)) : addL σ (.lst l) (.lst y) = some (.lst (l ++ y)))
theorem add_cl {y : List V} (h : σ.get c = some (.list l)) (q : Nat.blt (l.length + y.length) 1000 = true) : binV σ .Add (.cell c) (.lst y) = some (.lst (l ++ y)) := (i1 (at_l h) (i1 rfl (iT q rfl)) : addL σ (.cell c) (.lst y) = some (.lst (l ++ y)))
theorem add_tt {y : List V} (q : Nat.blt (l.length + y.length) 1000 = true) : binV σ .Add (.tup l) (.tup y) = some (.tup (l ++ y)) := iT q rfl
theorem mul_i {z z' : Int} (h : (fits64 z && fits64 z') = true) : binV σ .Mult (.int z) (.int z') = some (.int (z * z')) := i1 rfl (iT h rfl)
theorem mod_i {z z' : Int} (h : (!Nat.beq z'.natAbs 0 && fits64 z') = true) : binV σ .Mod (.int z) (.int z') = some (.int (z.fmod z')) := i1 rfl (i1 rfl (iT h rfl))
theorem div_i {z z' : Int} (h : (!Nat.beq z'.natAbs 0 && fits64 z') = true) : binV σ .FloorDiv (.int z) (.int z') = some (.int (z.fdiv z')) := i1 rfl (i1 rfl (iT h rfl))
theorem add_i {z z' : Int} : binV σ .Add (.int z) (.int z') = some (.int (z + z')) := rfl
theorem sub_i {z z' : Int} : binV σ .Sub (.int z) (.int z') = some (.int (z - z')) := rfl
end
theorem exN {K N : Nat} (h : K ≤ N) : ∃ n, N = n + K := ⟨N - K, (Nat.sub_add_cancel h).symm⟩
theorem exF {a N : Nat} (h : a < N) : ∃ n, N = n + 1 := exN (Nat.lt_of_le_of_lt (Nat.zero_le a) h)
theorem leA {k m n : Nat} (h : Nat.ble k m = true) : k ≤ n + m := Nat.le_trans (Nat.le_of_ble_eq_true h) (Nat.le_add_left m n)
theorem ltA {k a b : Nat} (h : Nat.ble (a + 1) b = true) : k + a < k + b := Nat.add_lt_add_left (Nat.le_of_ble_eq_true h) k
theorem ltB {k a b : Nat} (h : a ≤ k) (h1 : Nat.ble 1 b = true) : a < k + b := Nat.lt_of_le_of_lt h (Nat.lt_add_of_pos_right (Nat.le_of_ble_eq_true h1))
theorem neA {k a d : Nat} (h : d < k) : k + a ≠ d := Nat.ne_of_gt (Nat.lt_of_lt_of_le h (Nat.le_add_right k a))
theorem ltE {x k a b : Nat} (e : x = k + b) (h : a ≤ k) (h1 : Nat.ble 1 b = true) : a < x := e ▸ ltB h h1
theorem ltF {x k a b : Nat} (e : x = k + b) (h : Nat.ble (a + 1) b = true) : k + a < x := e ▸ ltA h
theorem neS {k a : Nat} (h : Nat.ble 1 a = true) : k + a ≠ k := Nat.ne_of_gt (Nat.lt_add_of_pos_right (Nat.le_of_ble_eq_true h))
theorem leK {a b K M : Nat} (h : a + b < K) (h1 : Nat.ble K M = true) : a < M := Nat.lt_of_le_of_lt (Nat.le_add_right a b) (Nat.lt_of_lt_of_le h (Nat.le_of_ble_eq_true h1))
theorem bltK {a b K M : Nat} (h : a + b < K) (h1 : Nat.ble K M = true) : Nat.blt a M = true := Nat.ble_eq_true_of_le (leK h h1)
theorem bltL {a K M : Nat} (h : a < K) (h1 : Nat.ble K M = true) : Nat.blt a M = true := Nat.ble_eq_true_of_le (Nat.lt_of_lt_of_le h (Nat.le_of_ble_eq_true h1))
theorem lenA {α : Type} {l : List α} {x : α} {m K : Nat} (h : l.length + (m + 1) < K) : (l ++ [x]).length + m < K := by
  rw [List.length_append, Nat.add_assoc, Nat.add_comm [x].length m]; exact h
theorem m_go_on : G0.meth 100 (Str.ofString "go_on") = some 97 := rfl
theorem m_own_names : G0.meth 393 (Str.ofString "own_names") = some 337 := rfl
theorem m_imported : G0.meth 393 (Str.ofString "imported") = some 344 := rfl
theorem m_name_of : G0.meth 393 (Str.ofString "name_of") = some 351 := rfl
theorem m_base_of : G0.meth 460 (Str.ofString "base_of") = some 450 := rfl
theorem n_MAIN_lookup : G0.name (Str.ofString "MAIN_lookup") = some (.str (Str.ofString "main")) := rfl
theorem n_MAIN_packages : G0.name (Str.ofString "MAIN_packages") = some (.str (Str.ofString "main")) := rfl
theorem n_KNOWN : G0.name (Str.ofString "KNOWN") = some (.tup [.str (Str.ofString "sync"), .str (Str.ofString "runtime")]) := rfl
theorem n_PLAIN : G0.name (Str.ofString "PLAIN") = some (.tup [.str (Str.ofString "func"), .tup [], .tup [], .bool false]) := rfl
theorem wound_pos {σ : St} {r n : Nat} {a b m : Int} (h : σ.get r = some (.list [.int a, .int b])) (ha : 0 < a) (hm : (!Nat.beq m.natAbs 0 && fits64 m) = true) :
    (recN G0 (n + 10)).call 478 [.cell r, .int m] σ = some (.int (a.fmod m), σ.set r (.list [.int (a.fdiv m), .int b])) := by
  have ha' : decide (0 < a) = true := decide_eq_true ha
  apply c_to (fi := fi478) (loc := [(Str.ofString "reel", _), (Str.ofString "many", _)]) rfl rfl
  with_reducible apply x_s; k_dflt show exsStep _ _ _ (_ :: _) _ _ = _; apply x_p; apply s_if; apply t_cmp; apply c_mp; kernel_rfl!; apply e_item; kernel_rfl!; apply e_loc; kernel_rfl!; apply l_c; k_dflt rfl; exact e_int; apply v_itL; assumption; k_dflt rfl; exact e_int; exact cv_gt; apply iT; assumption; apply x_s; apply x_name0; kernel_rfl!; apply e_bin; apply e_item; kernel_rfl!; apply e_loc; kernel_rfl!; apply l_c; k_dflt rfl; exact e_int; apply v_itL; assumption; k_dflt rfl; apply e_loc; kernel_rfl!; apply l_c; k_dflt rfl; apply mod_i; assumption; apply x_asg; kernel_rfl!; apply e_bin; apply e_item; kernel_rfl!; apply e_loc; kernel_rfl!; apply l_ext; kernel_rfl!; apply l_c; k_dflt rfl; exact e_int; apply v_itL; assumption; k_dflt rfl; apply e_loc; kernel_rfl!; apply l_ext; kernel_rfl!; apply l_c; k_dflt rfl; apply div_i; assumption; apply a_item; kernel_rfl!; apply e_loc; kernel_rfl!; apply l_ext; kernel_rfl!; apply l_c; k_dflt rfl; exact e_int; apply v_stl; assumption; kernel_rfl!; apply x_ret; apply e_loc; kernel_rfl!; apply l_in; k_dflt rfl; k_dflt exact fl_r; k_dflt rfl
theorem fits_of {b : Int} (h0 : 0 ≤ b) (h1 : b < 2147483647) : fits64 b = true := by
  unfold fits64
  rw [Nat.blt_eq]
  omega
theorem fmod_lo (a : Int) {m : Int} (hm : 0 < m) : 0 ≤ a.fmod m := Int.fmod_nonneg_of_pos a hm
theorem fmod_hi (a : Int) {m : Int} (hm : 0 < m) : a.fmod m < m := Int.fmod_lt_of_pos a hm
structure Reel (σ : St) (r : Nat) (a b : Int) : Prop where
  cell : σ.get r = some (.list [.int a, .int b])
  lo : 0 ≤ b
  hi : b < 2147483647
theorem wound_neg {σ : St} {r n : Nat} {a b m : Int} (R : Reel σ r a b) (ha : ¬ 0 < a) (hm : (!Nat.beq m.natAbs 0 && fits64 m) = true) :
    (recN G0 (n + 10)).call 478 [.cell r, .int m] σ = some (.int ((((((b * 39373 + 7).fmod 2147483647) * ((b * 39373 + 7).fmod 2147483647)).fmod 2147483629).fdiv 32).fmod m), σ.set r (.list [.int a, .int ((b * 39373 + 7).fmod 2147483647)])) := by
  have ha' : decide (0 < a) = false := decide_eq_false ha
  have h := R.cell
  have f1 := fits_of R.lo R.hi
  have f2 := fits_of (fmod_lo (b * 39373 + 7) (m := 2147483647) (by decide)) (fmod_hi (b * 39373 + 7) (m := 2147483647) (by decide))
  have f3 : (fits64 b && fits64 39373) = true := bB f1 rfl
  have f4 : (fits64 ((b * 39373 + 7).fmod 2147483647) && fits64 ((b * 39373 + 7).fmod 2147483647)) = true := bB f2 f2
  apply c_to (fi := fi478) (loc := [(Str.ofString "reel", _), (Str.ofString "many", _)]) rfl rfl
  with_reducible apply x_s; k_dflt show exsStep _ _ _ (_ :: _) _ _ = _; apply x_p; apply s_if; apply t_cmp; apply c_mp; kernel_rfl!; apply e_item; kernel_rfl!; apply e_loc; kernel_rfl!; apply l_c; k_dflt rfl; exact e_int; apply v_itL; assumption; k_dflt rfl; exact e_int; exact cv_gt; apply iF; assumption; apply x_s; exact x_0; k_dflt apply fl_n; apply x_asg; kernel_rfl!; apply e_bin; apply e_bin; apply e_bin; apply e_item; kernel_rfl!; apply e_loc; kernel_rfl!; apply l_c; k_dflt rfl; exact e_int; apply v_itL; assumption; k_dflt rfl; exact e_int; apply mul_i; assumption; exact e_int; exact add_i; exact e_int; apply mod_i; kernel_rfl!; apply a_item; kernel_rfl!; apply e_loc; kernel_rfl!; apply l_c; k_dflt rfl; exact e_int; apply v_stl; assumption; kernel_rfl!; apply x_ret; apply e_bin; apply e_bin; apply e_bin; apply e_bin; apply e_item; kernel_rfl!; apply e_loc; kernel_rfl!; apply l_c; k_dflt rfl; exact e_int; apply v_itL; exact g_eq; k_dflt rfl; apply e_item; kernel_rfl!; apply e_loc; kernel_rfl!; apply l_c; k_dflt rfl; exact e_int; apply v_itL; exact g_eq; k_dflt rfl; apply mul_i; assumption; exact e_int; apply mod_i; kernel_rfl!; exact e_int; apply div_i; kernel_rfl!; apply e_loc; kernel_rfl!; apply l_c; k_dflt rfl; apply mod_i; assumption; k_dflt rfl
theorem wound {σ : St} {r N : Nat} {a b m : Int} (hN : 10 ≤ N) (R : Reel σ r a b) (m0 : 0 < m) (m1 : m < 1000) :
    ∃ d a' b', 0 ≤ d ∧ d < m ∧ 0 ≤ b' ∧ b' < 2147483647 ∧ (recN G0 N).call 478 [.cell r, .int m] σ = some (.int d, σ.set r (.list [.int a', .int b'])) := by
  obtain ⟨n, rfl⟩ : ∃ n, N = n + 10 := ⟨N - 10, by omega⟩
  have hm : (!Nat.beq m.natAbs 0 && fits64 m) = true := by
    rw [fits_of (by omega) (by omega)]
    have : Nat.beq m.natAbs 0 = false := by
      cases h : Nat.beq m.natAbs 0 with
      | false => rfl
      | true => have := Nat.eq_of_beq_eq_true h; omega
    rw [this]; rfl
  by_cases ha : 0 < a
  · exact ⟨_, _, _, fmod_lo _ m0, fmod_hi _ m0, R.lo, R.hi, wound_pos R.cell ha hm⟩
  · exact ⟨_, _, _, fmod_lo _ m0, fmod_hi _ m0, fmod_lo _ (by decide), fmod_hi _ (by decide), wound_neg R ha hm⟩
theorem Reel.set {σ : St} {r : Nat} {a b : Int} (l : 0 ≤ b) (h : b < 2147483647) : Reel (σ.set r (.list [.int a, .int b])) r a b := ⟨by rw [St.get_set, if_pos rfl], l, h⟩
theorem one {σ : St} {r N : Nat} {a b : Int} {l : List V} {s : V} (hN : 20 ≤ N) (R : Reel σ r a b) (hs : s = .lst l ∨ ∃ c, c ≠ r ∧ s = .cell c ∧ σ.get c = some (.list l)) (l0 : 0 < l.length) (l1 : l.length < 1000) :
    ∃ (i : Nat) (v : V) (a' b' : Int), l[i]? = some v ∧ 0 ≤ b' ∧ b' < 2147483647 ∧ (recN G0 N).call 485 [.cell r, s] σ = some (v, σ.set r (.list [.int a', .int b'])) := by
  obtain ⟨n, rfl⟩ : ∃ n, N = n + 20 := ⟨N - 20, by omega⟩
  obtain ⟨d, a', b', d0, d1, q0, q1, hw⟩ := wound (N := n + 16) (m := (l.length : Int)) (by omega) R (by omega) (by omega)
  have hd : l[d.toNat]? = some (l[d.toNat]'(by omega)) := List.getElem?_eq_getElem _
  have hb : Nat.blt d.toNat 1000000 = true := by rw [Nat.blt_eq]; omega
  have hl' : Nat.blt l.length 1000000 = true := by rw [Nat.blt_eq]; omega
  have hd0 : decide (0 ≤ d) = true := decide_eq_true d0
  refine ⟨d.toNat, l[d.toNat]'(by omega), a', b', hd, q0, q1, ?_⟩
  have hr : (decide (0 ≤ d) && Nat.blt d.toNat 1000000) = true := bB hd0 hb
  have ha : atInt l d = some (l[d.toNat]'(by omega)) := iT hr hd
  refine hs.elim (fun hs => ?_) fun hs => ?_
  · rw [hs]
    apply c_to (fi := fi485) (loc := [(Str.ofString "reel", _), (Str.ofString "some", _)]) rfl rfl
    with_reducible apply x_s; k_dflt show exsStep _ _ _ (_ :: _) _ _ = _; apply x_ret; apply e_item; kernel_rfl!; apply e_loc; kernel_rfl!; apply l_c; k_dflt rfl; apply e_fn; kernel_rfl!; k_dflt rfl; kernel_rfl!; apply evs_s; kernel_rfl!; apply e_loc; kernel_rfl!; apply l_c; k_dflt rfl; apply evs_s; kernel_rfl!; apply e_blt; kernel_rfl!; k_dflt rfl; kernel_rfl!; apply evs_s; kernel_rfl!; apply e_loc; kernel_rfl!; apply l_c; k_dflt rfl; exact evs_0; apply b_len; k_dflt rfl; k_dflt rfl; assumption; exact evs_0; assumption; apply v_ilst; assumption; exact rfl
  · refine ea_1_3 (hs) (fun c hc hs hl => ?_)
    rw [hs]
    apply c_to (fi := fi485) (loc := [(Str.ofString "reel", _), (Str.ofString "some", _)]) rfl rfl
    with_reducible apply x_s; k_dflt show exsStep _ _ _ (_ :: _) _ _ = _; apply x_ret; apply e_item; kernel_rfl!; apply e_loc; kernel_rfl!; apply l_c; k_dflt rfl; apply e_fn; kernel_rfl!; k_dflt rfl; kernel_rfl!; apply evs_s; kernel_rfl!; apply e_loc; kernel_rfl!; apply l_c; k_dflt rfl; apply evs_s; kernel_rfl!; apply e_blt; kernel_rfl!; k_dflt rfl; kernel_rfl!; apply evs_s; kernel_rfl!; apply e_loc; kernel_rfl!; apply l_c; k_dflt rfl; exact evs_0; apply b_len; apply v_lo; assumption; k_dflt rfl; assumption; exact evs_0; assumption; apply v_itL; apply g_ne; assumption; assumption; assumption; exact rfl
noncomputable def sizeOf (t : Int) : Int := if t < -1 - t then -1 - t else t
noncomputable def wheelA (t : Int) : Int := cond (decide (sizeOf t ≥ 10 ^ (18 : Int).toNat)) (sizeOf t) 0
noncomputable def wheelB (t : Int) : Int := (((sizeOf t).fmod 2147483629 + 17) * 48271).fmod 2147483647
theorem max2 {σ : St} {t : Int} : callB σ (.builtin "max") [.int t, .int (-1 - t)] = some (.int (sizeOf t)) := rfl
theorem pow18 {σ : St} : binV σ .Pow (.int 10) (.int 18) = some (.int (10 ^ (18 : Int).toNat)) := rfl
theorem reel {σ : St} {N : Nat} {ns : List Int} (hN : 20 ≤ N) (hl : ns.length ≤ 63) :
    ∃ a b : Int, 0 ≤ b ∧ b < 2147483647 ∧ (recN G0 N).call 471 [.lst (ns.map .int)] σ = some (.cell σ.next, σ.new (.list [.int a, .int b])) := by
  obtain ⟨n, rfl⟩ : ∃ n, N = n + 20 := ⟨N - 20, by omega⟩
  have f : ∀ t, (fits64 ((sizeOf t).fmod 2147483629 + 17) && fits64 48271) = true := fun t => bB (fits_of (by have := fmod_lo (sizeOf t) (m := 2147483629) (by decide); omega) (by have := fmod_hi (sizeOf t) (m := 2147483629) (by decide); omega)) rfl
  have hb : Nat.blt (ns.map V.int).length 1000000 = true := by rw [Nat.blt_eq, List.length_map]; omega
  have step : ∀ t : Int, (∀ loc σ', (loc = [(Str.ofString "script", V.lst (ns.map .int))]) → (recN G0 (n + 18)).ev fi471.scope (match fi471.body with | .Assign _ e _ :: _ => e | _ => default) loc σ' = some (.int t, σ')) →
      (recN G0 (n + 20)).call 471 [.lst (ns.map .int)] σ = some (.cell σ.next, σ.new (.list [.int (wheelA t), .int (wheelB t)])) := fun t h => by
    have h := h _ σ rfl
    have f := f t
    have m := max2 (σ := σ) (t := t)
    have p := pow18 (σ := σ)
    cases hs : decide (sizeOf t ≥ 10 ^ (18 : Int).toNat)
    · have e : wheelA t = 0 := by unfold wheelA; rw [hs]; rfl
      rw [e]
      apply c_to (fi := fi471) (loc := [(Str.ofString "script", _)]) rfl rfl
      apply x_s
      apply x_name0
      · kernel_rfl!
      · exact h
      with_reducible apply x_name; kernel_rfl!; apply e_blt; kernel_rfl!; k_dflt rfl; kernel_rfl!; apply evs_s; kernel_rfl!; apply e_loc; kernel_rfl!; apply l_in; k_dflt rfl; apply evs_s; kernel_rfl!; apply e_bin; apply e_neg; exact e_int; apply e_loc; kernel_rfl!; apply l_in; k_dflt rfl; exact sub_i; exact evs_0; assumption; apply x_ret; apply e_cell; kernel_rfl!; apply evs_s; kernel_rfl!; apply e_if; apply t_cmp; apply c_mp; kernel_rfl!; apply e_loc; kernel_rfl!; apply l_in; k_dflt rfl; apply e_bin; exact e_int; exact e_int; assumption; exact cv_ge; apply iF; assumption; exact e_int; apply evs_s; kernel_rfl!; apply e_bin; apply e_bin; apply e_bin; apply e_bin; apply e_loc; kernel_rfl!; apply l_in; k_dflt rfl; exact e_int; apply mod_i; kernel_rfl!; exact e_int; exact add_i; exact e_int; apply mul_i; assumption; exact e_int; apply mod_i; kernel_rfl!; exact evs_0; k_dflt rfl
    · have e : wheelA t = sizeOf t := by unfold wheelA; rw [hs]; rfl
      rw [e]
      apply c_to (fi := fi471) (loc := [(Str.ofString "script", _)]) rfl rfl
      apply x_s
      apply x_name0
      · kernel_rfl!
      · exact h
      with_reducible apply x_name; kernel_rfl!; apply e_blt; kernel_rfl!; k_dflt rfl; kernel_rfl!; apply evs_s; kernel_rfl!; apply e_loc; kernel_rfl!; apply l_in; k_dflt rfl; apply evs_s; kernel_rfl!; apply e_bin; apply e_neg; exact e_int; apply e_loc; kernel_rfl!; apply l_in; k_dflt rfl; exact sub_i; exact evs_0; assumption; apply x_ret; apply e_cell; kernel_rfl!; apply evs_s; kernel_rfl!; apply e_if; apply t_cmp; apply c_mp; kernel_rfl!; apply e_loc; kernel_rfl!; apply l_in; k_dflt rfl; apply e_bin; exact e_int; exact e_int; assumption; exact cv_ge; apply iT; assumption; apply e_loc; kernel_rfl!; apply l_in; k_dflt rfl; apply evs_s; kernel_rfl!; apply e_bin; apply e_bin; apply e_bin; apply e_bin; apply e_loc; kernel_rfl!; apply l_in; k_dflt rfl; exact e_int; apply mod_i; kernel_rfl!; exact e_int; exact add_i; exact e_int; apply mul_i; assumption; exact e_int; apply mod_i; kernel_rfl!; exact evs_0; k_dflt rfl
  have go : ∃ t, (recN G0 (n + 20)).call 471 [.lst (ns.map .int)] σ = some (.cell σ.next, σ.new (.list [.int (wheelA t), .int (wheelB t)])) := by
    cases ns with
    | nil =>
      refine ⟨0, step 0 fun loc σ' hl => ?_⟩
      rw [hl]
      show (recN G0 _).ev _ (.IfExp _ _ _ _) _ _ = _
      with_reducible apply e_if; apply t_cmp; apply c_mp; kernel_rfl!; apply e_blt; kernel_rfl!; k_dflt rfl; kernel_rfl!; apply evs_s; kernel_rfl!; apply e_loc; kernel_rfl!; apply l_c; k_dflt rfl; exact evs_0; apply b_len; k_dflt rfl; k_dflt rfl; assumption; exact e_int; exact cv_gt; apply iF; kernel_rfl!; exact e_int
    | cons x r =>
      have hp : decide (((((x :: r).map V.int).length : Nat) : Int) > 0) = true := decide_eq_true (by simp only [List.map_cons, List.length_cons]; omega)
      refine ⟨x, step x fun loc σ' hl => ?_⟩
      rw [hl]
      show (recN G0 _).ev _ (.IfExp _ _ _ _) _ _ = _
      with_reducible apply e_if; apply t_cmp; apply c_mp; kernel_rfl!; apply e_blt; kernel_rfl!; k_dflt rfl; kernel_rfl!; apply evs_s; kernel_rfl!; apply e_loc; kernel_rfl!; apply l_c; k_dflt rfl; exact evs_0; apply b_len; k_dflt rfl; k_dflt rfl; assumption; exact e_int; exact cv_gt; apply iT; assumption; apply e_item; kernel_rfl!; apply e_loc; kernel_rfl!; apply l_c; k_dflt rfl; exact e_int; apply v_ilst; k_dflt rfl
  refine ea_1_1 (go) (fun t h => ?_)
  exact ⟨_, _, fmod_lo _ (by decide), fmod_hi _ (by decide), h⟩
noncomputable def forT : Stmt → Expr
  | .For t _ _ _ _ => t
  | _ => default
noncomputable def forB : Stmt → List Stmt
  | .For _ _ b _ _ => b
  | .While _ b _ _ => b
  | .If _ b _ _ => b
  | _ => []
noncomputable def whT : Stmt → Expr
  | .While t _ _ _ => t
  | _ => default
theorem look_set_eq {α : Type} {x y : Str} {v : α} {l : List (Str × α)} (h : sEq y x = true) : lookS y (setL x v l) = some v := by
  rw [lookS_setL, if_pos ((sEq_iff y x).mp h)]
theorem look_set_ne {α : Type} {x y : Str} {v : α} {l : List (Str × α)} (h : sEq y x = false) : lookS y (setL x v l) = lookS y l := by
  rw [lookS_setL, if_neg (sEq_false.mp h)]
theorem look_way {x y : Str} {v : V} {L l : Loc} (h : sEq y x = false) : lookS y (ext ((x, v) :: L) l) = lookS y (ext L l) := by
  show lookS y (setL x v (ext L l)) = _
  exact look_set_ne h
noncomputable abbrev Held := List (Str × Bool)
noncomputable def heldV (h : Held) : List V := h.map fun p => .tup [.str p.1, .bool p.2]
inductive Pick : List Str → Held → Prop
  | nil : Pick [] []
  | skip {o : Str} {os : List Str} {h : Held} : Pick os h → Pick (o :: os) h
  | take {o : Str} {os : List Str} {h : Held} (f : Bool) : (o = Str.ofString "main.J" → f = false) → Pick os h → Pick (o :: os) ((o, f) :: h)
noncomputable def lat_F : Stmt := fi518.body.getD 1 (.Pass p0)
noncomputable def lat_t : Expr := forT ((forB lat_F).getD 1 (.Pass p0))
noncomputable def lat_b : List Stmt := forB ((forB lat_F).getD 1 (.Pass p0))
theorem lat_inner {N : Nat} (hN : 30 ≤ N) {sc : Scope} {tgt : Expr} {body : List Stmt} (hs : sc = fi518.scope) (ht : tgt = lat_t) (hb : body = lat_b) {r h : Nat} (hrh : h ≠ r) :
    ∀ (rest pre : List Str) (fuel : Nat), rest.length < fuel → (pre ++ rest).length < 100 → (∀ o ∈ rest, okS o = true) → ∀ {loc : Loc} {σ : St} {a b : Int} {acc : Held}, Reel σ r a b → σ.get h = some (.list (heldV acc)) → acc.length + rest.length < 100 → lookS (Str.ofString "reel") loc = some (.cell r) → lookS (Str.ofString "held") loc = some (.cell h) →
    ∃ (loc' : Loc) (σ' : St) (a' b' : Int) (more : Held), forE (recN G0 N) sc tgt body fuel (.seq (.lst ((pre ++ rest).map .str)) pre.length) loc σ = some (.next, loc', σ') ∧ Pick rest more ∧ σ'.next = σ.next ∧ (∀ i, i ≠ r → i ≠ h → σ'.get i = σ.get i) ∧ Reel σ' r a' b' ∧
      σ'.get h = some (.list (heldV (acc ++ more))) ∧ (∀ x, sEq x (Str.ofString "other") = false → sEq x (Str.ofString "way") = false → lookS x loc' = lookS x loc) := by
  subst hs ht hb
  obtain ⟨n, rfl⟩ : ∃ n, N = n + 30 := ⟨N - 30, by omega⟩
  intro rest
  induction rest with
  | nil =>
    intro pre fuel hf hlen _ loc σ a b acc R hh _ hl1 hl2
    obtain ⟨k, rfl⟩ : ∃ k, fuel = k + 1 := ⟨fuel - 1, by omega⟩
    refine ⟨loc, σ, a, b, [], ?_, .nil, rfl, fun i _ _ => rfl, R, by rw [List.append_nil]; exact hh, fun x _ _ => rfl⟩
    exact f_end (n_seqE rfl (by simp))
  | cons o rest ih =>
    intro pre fuel hf hlen hok loc σ a b acc R hh hacc hl1 hl2
    obtain ⟨k, rfl⟩ : ∃ k, fuel = k + 1 := ⟨fuel - 1, by omega⟩
    have hget : ((pre ++ o :: rest).map V.str)[pre.length]? = some (V.str o) := by simp
    obtain ⟨d, a1, b1, d0, d1, q0, q1, hw⟩ := wound (N := n + 28) (m := 3) (by omega) R (by omega) (by omega)
    have hbl : Nat.blt (heldV acc).length 1000 = true := by rw [Nat.blt_eq]; simp [heldV]; simp at hacc; omega
    have e1 : (pre ++ [o]) ++ rest = pre ++ o :: rest := by simp
    have e2 : (pre ++ [o]).length = pre.length + 1 := by simp
    have hok' : ∀ o ∈ rest, okS o = true := fun x hx => hok x (.tail _ hx)
    have go : ∀ {loc1 : Loc} {σ1 : St} {add : Held}, Reel σ1 r a1 b1 → σ1.next = σ.next → (∀ i, i ≠ r → i ≠ h → σ1.get i = σ.get i) → σ1.get h = some (.list (heldV (acc ++ add))) → add.length ≤ 1 → (∀ {more}, Pick rest more → Pick (o :: rest) (add ++ more)) →
        (∀ x, sEq x (Str.ofString "other") = false → sEq x (Str.ofString "way") = false → lookS x loc1 = lookS x loc) →
        ∃ (loc' : Loc) (σ' : St) (a' b' : Int) (more : Held), forE (recN G0 (n + 30)) fi518.scope lat_t lat_b k (.seq (.lst ((pre ++ o :: rest).map .str)) (pre.length + 1)) loc1 σ1 = some (.next, loc', σ') ∧ Pick (o :: rest) more ∧ σ'.next = σ.next ∧ (∀ i, i ≠ r → i ≠ h → σ'.get i = σ.get i) ∧ Reel σ' r a' b' ∧
          σ'.get h = some (.list (heldV (acc ++ more))) ∧ (∀ x, sEq x (Str.ofString "other") = false → sEq x (Str.ofString "way") = false → lookS x loc' = lookS x loc) := by
      intro loc1 σ1 add R1 n1 g1 h1 l1 p1 k1
      obtain ⟨loc', σ', a', b', more, hf', hp, hn, hg, hR, hh', hl'⟩ := ih (pre ++ [o]) k (by simp at hf; omega) (by rw [e1]; exact hlen) hok' R1 h1 (by simp at hacc ⊢; omega) ((k1 _ (by rfl) (by rfl)).trans hl1) ((k1 _ (by rfl) (by rfl)).trans hl2)
      rw [e1, e2] at hf'
      refine ⟨loc', σ', a', b', add ++ more, hf', p1 hp, hn.trans n1, fun i hi hj => (hg i hi hj).trans (g1 i hi hj), hR, by rw [hh', List.append_assoc], fun x hx hy => (hl' x hx hy).trans (k1 x hx hy)⟩
    have oj : okS (Str.ofString "main.J") = true := by rfl
    have ho : okS o = true := hok o (.head _)
    have fin : ∀ {wv : V} (f : Bool), (o = Str.ofString "main.J" → f = false) → ∃ (loc' : Loc) (σ' : St) (a' b' : Int) (more : Held), forE (recN G0 (n + 30)) fi518.scope lat_t lat_b k (.seq (.lst ((pre ++ o :: rest).map .str)) (pre.length + 1)) (ext [(Str.ofString "way", wv), (Str.ofString "other", .str o)] loc) ((σ.set r (.list [.int a1, .int b1])).set h (.list (heldV acc ++ [.tup [.str o, .bool f]]))) = some (.next, loc', σ') ∧ Pick (o :: rest) more ∧ σ'.next = σ.next ∧ (∀ i, i ≠ r → i ≠ h → σ'.get i = σ.get i) ∧ Reel σ' r a' b' ∧
          σ'.get h = some (.list (heldV (acc ++ more))) ∧ (∀ x, sEq x (Str.ofString "other") = false → sEq x (Str.ofString "way") = false → lookS x loc' = lookS x loc) := by
      intro wv f hf
      exact go (add := [(o, f)]) ⟨by rw [St.get_set, if_neg (Ne.symm hrh), St.get_set, if_pos rfl], q0, q1⟩ rfl (fun i hi hj => by rw [St.get_set, if_neg hj, St.get_set, if_neg hi]) (by rw [St.get_set, if_pos rfl]; simp [heldV]) (Nat.le_refl _) (fun p => .take f hf p) (fun x hx hy => by rw [look_way hy, look_way hx]; rfl)
    have q := q_str (σ := σ.set r (.list [.int a1, .int b1])) ho oj
    refine (by omega : d = 0 ∨ d = 1 ∨ d = 2).elim (fun hd => ?_) fun hd => hd.elim (fun hd => ?_) fun hd => ?_
    · rw [hd] at hw
      obtain ⟨loc', σ', a', b', more, hf', k⟩ := go (add := []) (loc1 := ext [(Str.ofString "way", .int 0), (Str.ofString "other", .str o)] loc) (Reel.set q0 q1) rfl (fun i hi _ => by rw [St.get_set, if_neg hi]) (by rw [St.get_set, if_neg hrh, List.append_nil]; exact hh) (Nat.zero_le _) .skip (fun x hx hy => by rw [look_way hy, look_way hx]; rfl)
      refine ⟨loc', σ', a', b', more, ?_, k⟩
      apply f_step
      with_reducible apply n_seq; k_dflt rfl; assumption; k_dflt show Rec.asg _ _ (.Name _ _) _ _ _ = _; apply a_name0; kernel_rfl!; apply x_s; k_dflt show exsStep _ _ _ (_ :: _) _ _ = _; apply x_name; kernel_rfl!; apply e_fn; kernel_rfl!; k_dflt rfl; kernel_rfl!; apply evs_s; kernel_rfl!; apply e_loc; kernel_rfl!; apply l_ext; kernel_rfl!; assumption; apply evs_s; kernel_rfl!; exact e_int; exact evs_0; assumption; apply x_1; apply s_if; apply t_cmp; apply c_mp; kernel_rfl!; apply e_loc; kernel_rfl!; apply l_in; k_dflt rfl; exact e_int; exact cv_gt; apply iF; kernel_rfl!; apply x_s; exact x_0; assumption
    · rw [hd] at hw
      obtain ⟨loc', σ', a', b', more, hf', k⟩ := fin (wv := .int 1) (decide ((1 : Int) = 2)) fun _ => rfl
      refine ⟨loc', σ', a', b', more, ?_, k⟩
      apply f_step
      with_reducible apply n_seq; k_dflt rfl; assumption; k_dflt show Rec.asg _ _ (.Name _ _) _ _ _ = _; apply a_name0; kernel_rfl!; apply x_s; k_dflt show exsStep _ _ _ (_ :: _) _ _ = _; apply x_name; kernel_rfl!; apply e_fn; kernel_rfl!; k_dflt rfl; kernel_rfl!; apply evs_s; kernel_rfl!; apply e_loc; kernel_rfl!; apply l_ext; kernel_rfl!; assumption; apply evs_s; kernel_rfl!; exact e_int; exact evs_0; assumption; apply x_1; apply s_if; apply t_cmp; apply c_mp; kernel_rfl!; apply e_loc; kernel_rfl!; apply l_in; k_dflt rfl; exact e_int; exact cv_gt; apply iT; kernel_rfl!; apply x_s; apply x_expr; kernel_rfl!; apply e_meth; kernel_rfl!; apply e_loc; kernel_rfl!; apply l_ext; kernel_rfl!; assumption; apply m_of; apply g_ne; assumption; assumption; k_dflt rfl; apply evs_s; kernel_rfl!; apply e_tup; kernel_rfl!; apply evs_s; kernel_rfl!; apply e_loc; kernel_rfl!; apply l_in; k_dflt rfl; apply evs_s; kernel_rfl!; apply e_or; apply bv_s; apply e_cmp; apply c_mp; kernel_rfl!; apply e_loc; kernel_rfl!; apply l_in; k_dflt rfl; exact e_int; apply cv_eq; exact q_int; apply iT; kernel_rfl!; exact rfl; exact evs_0; exact evs_0; apply m_app; apply g_ne; assumption; assumption; assumption; exact x_0; assumption
    · rw [hd] at hw
      obtain ⟨loc', σ', a', b', more, hf', k⟩ := fin (wv := .int 2) (!sEq o (Str.ofString "main.J")) fun q => by rw [(sEq_iff _ _).mpr q]; rfl
      refine ⟨loc', σ', a', b', more, ?_, k⟩
      apply f_step
      with_reducible apply n_seq; k_dflt rfl; assumption; k_dflt show Rec.asg _ _ (.Name _ _) _ _ _ = _; apply a_name0; kernel_rfl!; apply x_s; k_dflt show exsStep _ _ _ (_ :: _) _ _ = _; apply x_name; kernel_rfl!; apply e_fn; kernel_rfl!; k_dflt rfl; kernel_rfl!; apply evs_s; kernel_rfl!; apply e_loc; kernel_rfl!; apply l_ext; kernel_rfl!; assumption; apply evs_s; kernel_rfl!; exact e_int; exact evs_0; assumption; apply x_1; apply s_if; apply t_cmp; apply c_mp; kernel_rfl!; apply e_loc; kernel_rfl!; apply l_in; k_dflt rfl; exact e_int; exact cv_gt; apply iT; kernel_rfl!; apply x_s; apply x_expr; kernel_rfl!; apply e_meth; kernel_rfl!; apply e_loc; kernel_rfl!; apply l_ext; kernel_rfl!; assumption; apply m_of; apply g_ne; assumption; assumption; k_dflt rfl; apply evs_s; kernel_rfl!; apply e_tup; kernel_rfl!; apply evs_s; kernel_rfl!; apply e_loc; kernel_rfl!; apply l_in; k_dflt rfl; apply evs_s; kernel_rfl!; apply e_or; apply bv_s; apply e_cmp; apply c_mp; kernel_rfl!; apply e_loc; kernel_rfl!; apply l_in; k_dflt rfl; exact e_int; apply cv_eq; exact q_int; apply iF; kernel_rfl!; apply bv_1; apply e_cmp; apply c_mp; kernel_rfl!; apply e_loc; kernel_rfl!; apply l_in; k_dflt rfl; exact e_str; apply cv_ne; assumption; exact evs_0; exact evs_0; apply m_app; apply g_ne; assumption; assumption; assumption; exact x_0; assumption
noncomputable def lat_T : Expr := forT lat_F
noncomputable def lat_B : List Stmt := forB lat_F
theorem lat_step {N k i r bk : Nat} (hN : 40 ≤ N) {L : List V} {nm : Str} {ks : List Str} {es : List (V × V)} {es' : Nat → List (V × V)} (hL : L[i]? = some (.str nm)) (hsort : sortV (es.map (·.1)) = some (ks.map .str)) (hkey : keyOk (.str nm) es = true) (hput : ∀ h, dictPutV (.str nm) (.cell h) es = es' h)
    (hlen : Nat.blt es.length 1000 = true) (hks : ks.length < 90) (hok : ∀ o ∈ ks, okS o = true) {loc : Loc} {σ : St} {a b : Int} (R : Reel σ r a b) (hb : σ.get bk = some (.dict es)) (hrb : r ≠ bk) (hr : r < σ.next) (hbn : bk < σ.next)
    (hl1 : lookS (Str.ofString "reel") loc = some (.cell r)) (hl2 : lookS (Str.ofString "book") loc = some (.cell bk)) :
    ∃ (loc' : Loc) (σ' : St) (a' b' : Int) (more : Held), forE (recN G0 N) fi518.scope lat_T lat_B (k + 1) (.seq (.lst L) i) loc σ = forE (recN G0 N) fi518.scope lat_T lat_B k (.seq (.lst L) (i + 1)) loc' σ' ∧ Pick ks more ∧ σ'.next = σ.next + 1 ∧ Reel σ' r a' b' ∧ σ'.get bk = some (.dict (es' σ.next)) ∧
      σ'.get σ.next = some (.list (heldV more)) ∧ (∀ j, j ≠ r → j ≠ bk → j < σ.next → σ'.get j = σ.get j) ∧ lookS (Str.ofString "reel") loc' = some (.cell r) ∧ lookS (Str.ofString "book") loc' = some (.cell bk) := by
  obtain ⟨n, rfl⟩ : ∃ n, N = n + 40 := ⟨N - 40, by omega⟩
  have hh0 : (σ.new (.list [])).get σ.next = some (.list (heldV [])) := by rw [St.get_new, if_pos rfl]; rfl
  have R0 : Reel (σ.new (.list [])) r a b := ⟨by rw [St.get_new, if_neg (Nat.ne_of_lt hr)]; exact R.cell, R.lo, R.hi⟩
  obtain ⟨loc', σ', a', b', more, hf', hp, hn, hg, hR, hh', hl'⟩ := lat_inner (N := n + 39) (by omega) rfl rfl rfl (r := r) (h := σ.next) (Nat.ne_of_gt hr) ks [] 200 (by omega) (by simp; omega) hok
    (loc := ext [(Str.ofString "held", .cell σ.next), (Str.ofString "name", .str nm)] loc) R0 hh0 (by simp; omega) (l_ext rfl hl1) (l_in rfl)
  have l1 : lookS (Str.ofString "held") loc' = some (.cell σ.next) := (hl' _ rfl rfl).trans (l_in rfl)
  have l2 : lookS (Str.ofString "book") loc' = some (.cell bk) := (hl' _ rfl rfl).trans (l_ext rfl hl2)
  have l3 : lookS (Str.ofString "name") loc' = some (.str nm) := (hl' _ rfl rfl).trans (l_in rfl)
  have l4 : lookS (Str.ofString "reel") loc' = some (.cell r) := (hl' _ rfl rfl).trans (l_ext rfl hl1)
  have hb' : σ'.get bk = some (.dict es) := by rw [hg _ (Ne.symm hrb) (Nat.ne_of_lt hbn), St.get_new, if_neg (Nat.ne_of_lt hbn)]; exact hb
  refine ⟨loc', σ'.set bk (.dict (es' σ.next)), a', b', more, ?_, hp, ?_, ⟨?_, hR.lo, hR.hi⟩, ?_, ?_, fun j hj1 hj2 hj3 => ?_, l4, l2⟩
  · rw [← hput]
    have hb2 : (σ.new (.list [])).get bk = some (.dict es) := g_old (Nat.ne_of_lt hbn) hb
    have hs : callB (σ.new (.list [])) (.builtin "sorted") [.cell bk] = some (.lst (ks.map .str)) := b_sort (oN (no_l hb2) (i1 (at_d hb2) rfl)) hsort
    have hq : (keyOk (.str nm) es && Nat.blt es.length 1000) = true := bB hkey hlen
    apply f_step
    with_reducible apply n_seq; k_dflt rfl; assumption; k_dflt show Rec.asg _ _ (.Name _ _) _ _ _ = _; apply a_name0; kernel_rfl!; apply x_s; k_dflt show exsStep _ _ _ (_ :: _) _ _ = _; apply x_name; kernel_rfl!; apply e_cell; kernel_rfl!; exact evs_0; apply x_p; apply s_for; apply si_p; kernel_rfl!; apply e_blt; kernel_rfl!; k_dflt rfl; kernel_rfl!; apply evs_s; kernel_rfl!; apply e_loc; kernel_rfl!; apply l_ext; kernel_rfl!; assumption; exact evs_0; assumption; k_dflt rfl; k_dflt assumption; k_dflt apply fl_n; apply x_asg; kernel_rfl!; apply e_loc; kernel_rfl!; assumption; apply a_item; kernel_rfl!; apply e_loc; kernel_rfl!; assumption; apply e_loc; kernel_rfl!; assumption; apply v_std; assumption; assumption; exact x_0; exact rfl
  · exact hn
  · rw [St.get_set, if_neg hrb]; exact hR.cell
  · rw [St.get_set, if_pos rfl]
  · rw [St.get_set, if_neg (Nat.ne_of_gt hbn)]; exact hh'
  · rw [St.get_set, if_neg hj2, hg _ hj1 (Nat.ne_of_lt hj3), St.get_new, if_neg (Nat.ne_of_lt hj3)]
noncomputable abbrev nJ : Str := Str.ofString "main.J"
noncomputable abbrev nD : Str := Str.ofString "main.D"
noncomputable abbrev nC : Str := Str.ofString "main.C"
noncomputable abbrev nB : Str := Str.ofString "main.B"
noncomputable abbrev nA : Str := Str.ofString "main.A"
noncomputable def bookV (k : Nat) : List (V × V) := [(.str nJ, .lst []), (.str nD, .cell (k + 1)), (.str nC, .cell (k + 2)), (.str nB, .cell (k + 3)), (.str nA, .cell (k + 4))]
theorem lattice {σ : St} {r N : Nat} {a b : Int} (hN : 50 ≤ N) (R : Reel σ r a b) (hr : r < σ.next) :
    ∃ (σ' : St) (a' b' : Int) (hD hC hB hA : Held), (recN G0 N).call 518 [.cell r] σ = some (.cell σ.next, σ') ∧ σ'.next = σ.next + 5 ∧ Reel σ' r a' b' ∧ (∀ i, i ≠ r → i < σ.next → σ'.get i = σ.get i) ∧
      σ'.get σ.next = some (.dict (bookV σ.next)) ∧ σ'.get (σ.next + 1) = some (.list (heldV hD)) ∧ σ'.get (σ.next + 2) = some (.list (heldV hC)) ∧ σ'.get (σ.next + 3) = some (.list (heldV hB)) ∧ σ'.get (σ.next + 4) = some (.list (heldV hA)) ∧
      Pick [nJ] hD ∧ Pick [nD, nJ] hC ∧ Pick [nC, nD, nJ] hB ∧ Pick [nB, nC, nD, nJ] hA := by
  obtain ⟨n, rfl⟩ := exN hN
  have hle := Nat.le_of_lt hr
  have R0 : Reel (σ.new (.dict [(.str nJ, .lst [])])) r a b := ⟨g_old (Nat.ne_of_lt hr) R.cell, R.lo, R.hi⟩
  obtain ⟨loc1, σ1, a1, b1, hD, f1, p1, n1, R1, k1, h1, g1, l1, m1⟩ := lat_step (N := n + 48) (k := 199) (i := 0) (L := [.str nD, .str nC, .str nB, .str nA]) (nm := nD) (ks := [nJ]) (es' := fun h => [(.str nJ, .lst []), (.str nD, .cell h)]) (leA rfl) rfl (by kernel_rfl) rfl (fun _ => rfl) rfl (Nat.le_of_ble_eq_true rfl) (List.all_eq_true.mp rfl)
    (loc := ext [(Str.ofString "book", .cell σ.next)] [(Str.ofString "reel", .cell r)]) R0 g_new (Nat.ne_of_lt hr) (Nat.lt_succ_of_lt hr) (Nat.lt_succ_self _) rfl rfl
  have n1 : σ1.next = σ.next + 2 := n1
  obtain ⟨loc2, σ2, a2, b2, hC, f2, p2, n2, R2, k2, h2, g2, l2, m2⟩ := lat_step (N := n + 48) (k := 198) (i := 1) (L := [.str nD, .str nC, .str nB, .str nA]) (nm := nC) (ks := [nD, nJ]) (es' := fun h => [(.str nJ, .lst []), (.str nD, .cell (σ.next + 1)), (.str nC, .cell h)]) (leA rfl) rfl (by kernel_rfl) rfl (fun _ => rfl) rfl (Nat.le_of_ble_eq_true rfl) (List.all_eq_true.mp rfl)
    R1 k1 (Nat.ne_of_lt hr) (ltE n1 hle rfl) (ltE n1 (Nat.le_refl _) rfl) l1 m1
  rw [n1] at n2 k2 h2
  have n2 : σ2.next = σ.next + 3 := n2
  obtain ⟨loc3, σ3, a3, b3, hB, f3, p3, n3, R3, k3, h3, g3, l3, m3⟩ := lat_step (N := n + 48) (k := 197) (i := 2) (L := [.str nD, .str nC, .str nB, .str nA]) (nm := nB) (ks := [nC, nD, nJ]) (es' := fun h => [(.str nJ, .lst []), (.str nD, .cell (σ.next + 1)), (.str nC, .cell (σ.next + 2)), (.str nB, .cell h)]) (leA rfl) rfl (by kernel_rfl) rfl (fun _ => rfl) rfl (Nat.le_of_ble_eq_true rfl) (List.all_eq_true.mp rfl)
    R2 k2 (Nat.ne_of_lt hr) (ltE n2 hle rfl) (ltE n2 (Nat.le_refl _) rfl) l2 m2
  rw [n2] at n3 k3 h3
  have n3 : σ3.next = σ.next + 4 := n3
  obtain ⟨loc4, σ4, a4, b4, hA, f4, p4, n4, R4, k4, h4, g4, l4, m4⟩ := lat_step (N := n + 48) (k := 196) (i := 3) (L := [.str nD, .str nC, .str nB, .str nA]) (nm := nA) (ks := [nB, nC, nD, nJ]) (es' := fun h => [(.str nJ, .lst []), (.str nD, .cell (σ.next + 1)), (.str nC, .cell (σ.next + 2)), (.str nB, .cell (σ.next + 3)), (.str nA, .cell h)]) (leA rfl) rfl (by kernel_rfl) rfl (fun _ => rfl) rfl (Nat.le_of_ble_eq_true rfl) (List.all_eq_true.mp rfl)
    R3 k3 (Nat.ne_of_lt hr) (ltE n3 hle rfl) (ltE n3 (Nat.le_refl _) rfl) l3 m3
  rw [n3] at n4 k4 h4
  have fin : forE (recN G0 (n + 48)) fi518.scope lat_T lat_B 196 (.seq (.lst [.str nD, .str nC, .str nB, .str nA]) 4) loc4 σ4 = some (.next, loc4, σ4) := rfl
  have all := f1.trans (f2.trans (f3.trans (f4.trans fin)))
  have q4 : ∀ a, Nat.ble 1 a = true → Nat.ble (a + 1) 4 = true → σ4.get (σ.next + a) = σ3.get (σ.next + a) := fun a h1 h2 => g4 _ (neA hr) (neS h1) (ltF n3 h2)
  have q3 : ∀ a, Nat.ble 1 a = true → Nat.ble (a + 1) 3 = true → σ3.get (σ.next + a) = σ2.get (σ.next + a) := fun a h1 h2 => g3 _ (neA hr) (neS h1) (ltF n2 h2)
  refine ⟨σ4, a4, b4, hD, hC, hB, hA, ?_, n4, R4, fun i hi hj => ?_, k4, (q4 1 rfl rfl).trans ((q3 1 rfl rfl).trans ((g2 _ (neA hr) (neS rfl) (ltF n1 rfl)).trans h1)), (q4 2 rfl rfl).trans ((q3 2 rfl rfl).trans h2), (q4 3 rfl rfl).trans h3, h4, p1, p2, p3, p4⟩
  · apply c_to (fi := fi518) (loc := [(Str.ofString "reel", _)]) rfl rfl
    with_reducible apply x_s; k_dflt show exsStep _ _ _ (_ :: _) _ _ = _; apply x_name0; kernel_rfl!; apply e_dict; kernel_rfl!; apply ep_s; exact e_str; apply e_lst; kernel_rfl!; exact evs_0; exact ep_0; k_dflt rfl; apply x_p; k_dflt assumption; k_dflt apply fl_n; apply x_ret; apply e_loc; kernel_rfl!; assumption; exact rfl
  · have hne : i ≠ σ.next := Nat.ne_of_lt hj
    have hi' := Nat.le_of_lt hj
    exact (g4 i hi hne (ltE n3 hi' rfl)).trans ((g3 i hi hne (ltE n2 hi' rfl)).trans ((g2 i hi hne (ltE n1 hi' rfl)).trans ((g1 i hi hne (Nat.lt_succ_of_lt hj)).trans (by rw [St.get_new, if_neg hne]))))
noncomputable def tl (o : Str) : Str := ⟨⟨o.cps.toList.drop 5⟩⟩
noncomputable def namedV (o : Str) : V := .tup [.str (Str.ofString "named"), .str o]
noncomputable def edgeV (o : Str) (f : Bool) : V := cond f (.tup [.str (Str.ofString "ptr"), namedV o]) (namedV o)
noncomputable def rowV (p : Str × Bool) : V := .tup [.str (tl p.1), edgeV p.1 p.2, .bool true]
noncomputable def Below (o : Str) : Prop := o = nJ ∨ o = nD ∨ o = nC ∨ o = nB
theorem below_split {o : Str} (h : Below o) : Txt.split o (Str.ofString ".") = [Str.ofString "main", tl o] ∧ Nat.blt o.length 1000 = true ∧ okS o = true := by
  rcases h with rfl | rfl | rfl | rfl <;> exact ⟨by kernel_rfl, by kernel_rfl, by kernel_rfl⟩
theorem spl_below {σ : St} {r : Rec} {o : Str} (h : Below o) : callM r (.str o) .split [.str (Str.ofString ".")] σ = some (.lst [.str (Str.ofString "main"), .str (tl o)], σ) := by
  obtain ⟨s1, s2, _⟩ := below_split h
  exact (m_spl (bB s2 rfl)).trans (by rw [s1]; rfl)
noncomputable def rows_F : Stmt := fi525.body.getD 1 (.Pass p0)
noncomputable def rows_t : Expr := forT rows_F
noncomputable def rows_b : List Stmt := forB rows_F
theorem rows_loop {N : Nat} (hN : 30 ≤ N) {hv : V} {c : Nat} {σ₀ : St} {all : Held} (hq : ∀ σ' : St, (∀ i, i ≠ c → σ'.get i = σ₀.get i) → seqOf σ' hv = some (heldV all)) :
    ∀ (rest pre : Held) (fuel : Nat), pre ++ rest = all → rest.length < fuel → (∀ p ∈ rest, Below p.1) → ∀ {loc : Loc} {σ : St} {acc : List V}, (∀ i, i ≠ c → σ.get i = σ₀.get i) → σ.get c = some (.list acc) → acc.length + rest.length < 100 → lookS (Str.ofString "rows") loc = some (.cell c) →
    ∃ (loc' : Loc) (σ' : St), forE (recN G0 N) fi525.scope rows_t rows_b fuel (.seq hv pre.length) loc σ = some (.next, loc', σ') ∧ σ'.next = σ.next ∧ (∀ i, i ≠ c → σ'.get i = σ₀.get i) ∧ σ'.get c = some (.list (acc ++ rest.map rowV)) ∧
      (∀ x, sEq x (Str.ofString "other") = false → sEq x (Str.ofString "is_pointer") = false → sEq x (Str.ofString "T") = false → lookS x loc' = lookS x loc) := by
  obtain ⟨n, rfl⟩ : ∃ n, N = n + 30 := ⟨N - 30, by omega⟩
  intro rest
  induction rest with
  | nil =>
    intro pre fuel ha hf _ loc σ acc hg hc _ hl
    obtain ⟨k, rfl⟩ : ∃ k, fuel = k + 1 := ⟨fuel - 1, by omega⟩
    refine ⟨loc, σ, ?_, rfl, hg, by simpa using hc, fun x _ _ _ => rfl⟩
    have : (heldV all)[pre.length]? = none := by rw [← ha]; simp [heldV]
    exact f_end (n_seqE (hq σ hg) this)
  | cons p rest ih =>
    obtain ⟨o, f⟩ := p
    intro pre fuel ha hf hb loc σ acc hg hc hlen hl
    obtain ⟨k, rfl⟩ : ∃ k, fuel = k + 1 := ⟨fuel - 1, by omega⟩
    have hget : (heldV all)[pre.length]? = some (.tup [.str o, .bool f]) := by rw [← ha]; simp [heldV]
    have hbl : Nat.blt acc.length 1000 = true := by rw [Nat.blt_eq]; omega
    have go : ∀ {loc1 : Loc}, (∀ x, sEq x (Str.ofString "other") = false → sEq x (Str.ofString "is_pointer") = false → sEq x (Str.ofString "T") = false → lookS x loc1 = lookS x loc) →
        ∃ (loc' : Loc) (σ' : St), forE (recN G0 (n + 30)) fi525.scope rows_t rows_b k (.seq hv (pre.length + 1)) loc1 (σ.set c (.list (acc ++ [rowV (o, f)]))) = some (.next, loc', σ') ∧ σ'.next = σ.next ∧ (∀ i, i ≠ c → σ'.get i = σ₀.get i) ∧ σ'.get c = some (.list (acc ++ ((o, f) :: rest).map rowV)) ∧
          (∀ x, sEq x (Str.ofString "other") = false → sEq x (Str.ofString "is_pointer") = false → sEq x (Str.ofString "T") = false → lookS x loc' = lookS x loc) := by
      intro loc1 k1
      obtain ⟨loc', σ', h1, h2, h3, h4, h5⟩ := ih (pre ++ [(o, f)]) k (by rw [← ha]; simp) (by simp at hf; omega) (fun q hq => hb q (.tail _ hq)) (loc := loc1) (σ := σ.set c (.list (acc ++ [rowV (o, f)]))) (acc := acc ++ [rowV (o, f)])
        (fun i hi => by rw [St.get_set, if_neg hi]; exact hg i hi) (by rw [St.get_set, if_pos rfl]) (by simp at hlen ⊢; omega) ((k1 _ (by rfl) (by rfl) (by rfl)).trans hl)
      refine ⟨loc', σ', ?_, h2, h3, by rw [h4]; simp, fun x a b c => (h5 x a b c).trans (k1 x a b c)⟩
      rw [show (pre ++ [(o, f)]).length = pre.length + 1 by simp] at h1
      exact h1
    have hs := hq σ hg
    have k1 : ∀ {u1 u2 u3 : V} (x : Str), sEq x (Str.ofString "other") = false → sEq x (Str.ofString "is_pointer") = false → sEq x (Str.ofString "T") = false → lookS x (ext [(Str.ofString "T", u1), (Str.ofString "is_pointer", u2), (Str.ofString "other", u3)] loc) = lookS x loc := fun x a b c => by rw [look_way c, look_way b, look_way a]; rfl
    have bo : Below o := hb _ (.head _)
    cases f
    · obtain ⟨loc', σ', h, k⟩ := go (loc1 := ext [(Str.ofString "T", namedV o), (Str.ofString "is_pointer", .bool false), (Str.ofString "other", .str o)] loc) k1
      refine ⟨loc', σ', ?_, k⟩
      apply f_step
      with_reducible apply n_seq; assumption; assumption; k_dflt show Rec.asg _ _ (.Tuple _ _ _) _ _ _ = _; apply a_tup; k_dflt rfl; kernel_rfl!; apply as_s; kernel_rfl!; apply a_name0; kernel_rfl!; apply as_s; kernel_rfl!; apply a_name; kernel_rfl!; exact as_0; apply x_s; k_dflt show exsStep _ _ _ (_ :: _) _ _ = _; apply x_name; kernel_rfl!; apply e_tup; kernel_rfl!; apply evs_s; kernel_rfl!; exact e_str; apply evs_s; kernel_rfl!; apply e_loc; kernel_rfl!; apply l_in; k_dflt rfl; exact evs_0; apply x_expr; kernel_rfl!; apply e_meth; kernel_rfl!; apply e_loc; kernel_rfl!; apply l_ext; kernel_rfl!; assumption; apply m_of; assumption; k_dflt rfl; apply evs_s; kernel_rfl!; apply e_tup; kernel_rfl!; apply evs_s; kernel_rfl!; apply e_item; kernel_rfl!; apply e_meth; kernel_rfl!; apply e_loc; kernel_rfl!; apply l_in; k_dflt rfl; k_dflt rfl; apply evs_s; kernel_rfl!; exact e_str; exact evs_0; apply spl_below; k_dflt assumption; exact e_int; apply v_ilst; k_dflt rfl; apply evs_s; kernel_rfl!; apply e_if; apply t_name; apply e_loc; kernel_rfl!; apply l_in; k_dflt rfl; apply cnF; apply e_loc; kernel_rfl!; apply l_in; k_dflt rfl; apply evs_s; kernel_rfl!; exact e_tf; exact evs_0; exact evs_0; apply m_app; assumption; assumption; exact x_0; k_dflt assumption
    · obtain ⟨loc', σ', h, k⟩ := go (loc1 := ext [(Str.ofString "T", namedV o), (Str.ofString "is_pointer", .bool true), (Str.ofString "other", .str o)] loc) k1
      refine ⟨loc', σ', ?_, k⟩
      apply f_step
      with_reducible apply n_seq; assumption; assumption; k_dflt show Rec.asg _ _ (.Tuple _ _ _) _ _ _ = _; apply a_tup; k_dflt rfl; kernel_rfl!; apply as_s; kernel_rfl!; apply a_name0; kernel_rfl!; apply as_s; kernel_rfl!; apply a_name; kernel_rfl!; exact as_0; apply x_s; k_dflt show exsStep _ _ _ (_ :: _) _ _ = _; apply x_name; kernel_rfl!; apply e_tup; kernel_rfl!; apply evs_s; kernel_rfl!; exact e_str; apply evs_s; kernel_rfl!; apply e_loc; kernel_rfl!; apply l_in; k_dflt rfl; exact evs_0; apply x_expr; kernel_rfl!; apply e_meth; kernel_rfl!; apply e_loc; kernel_rfl!; apply l_ext; kernel_rfl!; assumption; apply m_of; assumption; k_dflt rfl; apply evs_s; kernel_rfl!; apply e_tup; kernel_rfl!; apply evs_s; kernel_rfl!; apply e_item; kernel_rfl!; apply e_meth; kernel_rfl!; apply e_loc; kernel_rfl!; apply l_in; k_dflt rfl; k_dflt rfl; apply evs_s; kernel_rfl!; exact e_str; exact evs_0; apply spl_below; k_dflt assumption; exact e_int; apply v_ilst; k_dflt rfl; apply evs_s; kernel_rfl!; apply e_if; apply t_name; apply e_loc; kernel_rfl!; apply l_in; k_dflt rfl; apply cnT; apply e_tup; kernel_rfl!; apply evs_s; kernel_rfl!; exact e_str; apply evs_s; kernel_rfl!; apply e_loc; kernel_rfl!; apply l_in; k_dflt rfl; exact evs_0; apply evs_s; kernel_rfl!; exact e_tf; exact evs_0; exact evs_0; apply m_app; assumption; assumption; exact x_0; k_dflt assumption
theorem eqTop_str (σ : St) {x y : Str} (hx : okS x = true) (hy : okS y = true) : eqTop σ (.str x) (.str y) = some (sEq x y) := q_str hx hy
noncomputable def mRow : V := .tup [.str (Str.ofString "m"), .tup [.str (Str.ofString "bool")], .bool false]
noncomputable def xRow : V := .tup [.str (Str.ofString "x"), .tup [.str (Str.ofString "string")], .bool false]
noncomputable def rowsV (nm : Str) (held : Held) : List V := held.map rowV ++ cond (sEq nm nD) [mRow] [] ++ [xRow]
structure Holds (σ : St) (b : Nat) (nm : Str) (held : Held) : Prop where
  ex : ∃ es hv, σ.get b = some (.dict es) ∧ keyOk (.str nm) es = true ∧ dictFindV (.str nm) es = some hv ∧ ((hv = .lst [] ∧ held = []) ∨ ∃ h, hv = .cell h ∧ h < σ.next ∧ σ.get h = some (.list (heldV held)))
  below : ∀ p ∈ held, Below p.1
  short : held.length < 90
  ok : okS nm = true
theorem rows {σ : St} {b N : Nat} {nm : Str} {held : Held} (hN : 50 ≤ N) (H : Holds σ b nm held) (hb : b < σ.next) :
    ∃ σ' : St, (recN G0 N).call 525 [.cell b, .str nm] σ = some (.lst (rowsV nm held), σ') ∧ σ'.next = σ.next + 1 ∧ ∀ i, i < σ.next → σ'.get i = σ.get i := by
  obtain ⟨n, rfl⟩ : ∃ n, N = n + 50 := ⟨N - 50, by omega⟩
  obtain ⟨⟨es, hv, e1, e2, e3, e4⟩, hbel, hsh, hok⟩ := H
  have hseq : ∀ σ' : St, (∀ i, i ≠ σ.next → σ'.get i = (σ.new (.list [])).get i) → seqOf σ' hv = some (heldV held) := by
    intro σ' h
    rcases e4 with ⟨rfl, rfl⟩ | ⟨j, rfl, hj, hl⟩
    · rfl
    · exact v_sq ((h j (Nat.ne_of_lt hj)).trans (g_old (Nat.ne_of_lt hj) hl))
  have hit : iterV (σ.new (.list [])) hv = some (.seq hv 0) := by
    rcases e4 with ⟨rfl, rfl⟩ | ⟨j, rfl, hj, hl⟩
    · rfl
    · exact it_l (g_old (Nat.ne_of_lt hj) hl)
  obtain ⟨loc', σ', h1, h2, h3, h4, h5⟩ := rows_loop (N := n + 48) (by omega) hseq held [] 200 rfl (by omega) hbel (loc := ext [(Str.ofString "rows", .cell σ.next)] [(Str.ofString "book", .cell b), (Str.ofString "name", .str nm)]) (σ := σ.new (.list [])) (acc := []) (fun _ _ => rfl) (by rw [St.get_new, if_pos rfl]) (by simp; omega) rfl
  have l1 : lookS (Str.ofString "rows") loc' = some (.cell σ.next) := h5 _ rfl rfl rfl
  have l2 : lookS (Str.ofString "name") loc' = some (.str nm) := h5 _ rfl rfl rfl
  have oD : okS nD = true := by rfl
  have hn0 : (σ.new (.list [])).get b = some (.dict es) := by rw [St.get_new, if_neg (Nat.ne_of_lt hb)]; exact e1
  have lr : (held.map rowV).length = held.length := List.length_map ..
  have b1 : Nat.blt (held.length + 0) 1000 = true := by rw [Nat.blt_eq]; omega
  have b2 : Nat.blt (held.length + 1) 1000 = true := by rw [Nat.blt_eq]; omega
  have b3 : Nat.blt (held.length + 0 + 1) 1000 = true := by rw [Nat.blt_eq]; omega
  have b4 : Nat.blt (held.length + 1 + 1) 1000 = true := by rw [Nat.blt_eq]; omega
  refine ⟨σ', ?_, h2, fun i hi => by rw [h3 i (Nat.ne_of_lt hi), St.get_new, if_neg (Nat.ne_of_lt hi)]⟩
  have h4 : σ'.get σ.next = some (.list (held.map rowV)) := h4
  unfold rowsV
  cases hD : sEq nm nD
  · have hq : eqTop σ' (.str nm) (.str (Str.ofString "main.D")) = some false := (q_str hok oD).trans (congrArg some hD)
    have b1 : Nat.blt ((held.map rowV).length + 0) 1000 = true := by rw [lr]; exact b1
    have b3 : Nat.blt ((held.map rowV ++ cond false [mRow] []).length + 1) 1000 = true := by rw [List.length_append, lr]; exact b3
    apply c_to (fi := fi525) (loc := [(Str.ofString "book", _), (Str.ofString "name", _)]) rfl rfl
    with_reducible apply x_s; k_dflt show exsStep _ _ _ (_ :: _) _ _ = _; apply x_name0; kernel_rfl!; apply e_cell; kernel_rfl!; exact evs_0; apply x_p; apply s_for; apply si_p; kernel_rfl!; apply e_item; kernel_rfl!; apply e_loc; kernel_rfl!; apply l_ext; kernel_rfl!; apply l_c; k_dflt rfl; apply e_loc; kernel_rfl!; apply l_ext; kernel_rfl!; apply l_c; k_dflt rfl; apply v_itd; assumption; assumption; assumption; assumption; k_dflt assumption; k_dflt apply fl_n; apply x_ret; apply e_bin; apply e_bin; apply e_loc; kernel_rfl!; assumption; apply e_bin; apply e_lst; kernel_rfl!; apply evs_s; kernel_rfl!; apply e_tup; kernel_rfl!; apply evs_s; kernel_rfl!; exact e_str; apply evs_s; kernel_rfl!; apply e_tup; kernel_rfl!; apply evs_s; kernel_rfl!; exact e_str; exact evs_0; apply evs_s; kernel_rfl!; exact e_tf; exact evs_0; exact evs_0; apply e_blt; kernel_rfl!; k_dflt rfl; kernel_rfl!; apply evs_s; kernel_rfl!; apply e_cmp; apply c_mp; kernel_rfl!; apply e_loc; kernel_rfl!; assumption; exact e_str; apply cv_eq; assumption; exact evs_0; k_dflt rfl; k_dflt rfl; apply add_cl; assumption; k_dflt assumption; apply e_lst; kernel_rfl!; apply evs_s; kernel_rfl!; apply e_tup; kernel_rfl!; apply evs_s; kernel_rfl!; exact e_str; apply evs_s; kernel_rfl!; apply e_tup; kernel_rfl!; apply evs_s; kernel_rfl!; exact e_str; exact evs_0; apply evs_s; kernel_rfl!; exact e_tf; exact evs_0; exact evs_0; apply add_ll; k_dflt assumption; k_dflt rfl
  · have hq : eqTop σ' (.str nm) (.str (Str.ofString "main.D")) = some true := (q_str hok oD).trans (congrArg some hD)
    have b2 : Nat.blt ((held.map rowV).length + 1) 1000 = true := by rw [lr]; exact b2
    have b4 : Nat.blt ((held.map rowV ++ cond true [mRow] []).length + 1) 1000 = true := by rw [List.length_append, lr]; exact b4
    apply c_to (fi := fi525) (loc := [(Str.ofString "book", _), (Str.ofString "name", _)]) rfl rfl
    with_reducible apply x_s; k_dflt show exsStep _ _ _ (_ :: _) _ _ = _; apply x_name0; kernel_rfl!; apply e_cell; kernel_rfl!; exact evs_0; apply x_p; apply s_for; apply si_p; kernel_rfl!; apply e_item; kernel_rfl!; apply e_loc; kernel_rfl!; apply l_ext; kernel_rfl!; apply l_c; k_dflt rfl; apply e_loc; kernel_rfl!; apply l_ext; kernel_rfl!; apply l_c; k_dflt rfl; apply v_itd; assumption; assumption; assumption; assumption; k_dflt assumption; k_dflt apply fl_n; apply x_ret; apply e_bin; apply e_bin; apply e_loc; kernel_rfl!; assumption; apply e_bin; apply e_lst; kernel_rfl!; apply evs_s; kernel_rfl!; apply e_tup; kernel_rfl!; apply evs_s; kernel_rfl!; exact e_str; apply evs_s; kernel_rfl!; apply e_tup; kernel_rfl!; apply evs_s; kernel_rfl!; exact e_str; exact evs_0; apply evs_s; kernel_rfl!; exact e_tf; exact evs_0; exact evs_0; apply e_blt; kernel_rfl!; k_dflt rfl; kernel_rfl!; apply evs_s; kernel_rfl!; apply e_cmp; apply c_mp; kernel_rfl!; apply e_loc; kernel_rfl!; assumption; exact e_str; apply cv_eq; assumption; exact evs_0; k_dflt rfl; k_dflt rfl; apply add_cl; assumption; k_dflt assumption; apply e_lst; kernel_rfl!; apply evs_s; kernel_rfl!; apply e_tup; kernel_rfl!; apply evs_s; kernel_rfl!; exact e_str; apply evs_s; kernel_rfl!; apply e_tup; kernel_rfl!; apply evs_s; kernel_rfl!; exact e_str; exact evs_0; apply evs_s; kernel_rfl!; exact e_tf; exact evs_0; exact evs_0; apply add_ll; k_dflt assumption; k_dflt rfl
noncomputable def plainV : V := .tup [.str (Str.ofString "func"), .tup [], .tup [], .bool false]
theorem lawPlain {σ : St} {N : Nat} (hN : 10 ≤ N) : (recN G0 N).call 492 [] σ = some (plainV, σ) := by
  obtain ⟨n, rfl⟩ : ∃ n, N = n + 10 := ⟨N - 10, by omega⟩
  apply c_to (fi := fi492) (loc := []) rfl rfl
  with_reducible apply x_s; k_dflt show exsStep _ _ _ (_ :: _) _ _ = _; apply x_ret; apply e_tup; kernel_rfl!; apply evs_s; kernel_rfl!; exact e_str; apply evs_s; kernel_rfl!; apply e_tup; kernel_rfl!; exact evs_0; apply evs_s; kernel_rfl!; apply e_tup; kernel_rfl!; exact evs_0; apply evs_s; kernel_rfl!; exact e_tf; exact evs_0; k_dflt rfl
theorem namedRow {σ : St} {N : Nat} {p q u m : V} (hN : 10 ≤ N) : (recN G0 N).call 414 [.cell σ.next, p, q, u, m] (σ.new (.inst 417 [])) = some (.none, σ.new (.inst 417 [(Str.ofString "path", p), (Str.ofString "package", q), (Str.ofString "underlying", u), (Str.ofString "methods", m)])) := by
  obtain ⟨n, rfl⟩ : ∃ n, N = n + 10 := ⟨N - 10, by omega⟩
  apply c_nt (fi := fi414) (loc := [(Str.ofString "self", _), (Str.ofString "path", _), (Str.ofString "package", _), (Str.ofString "underlying", _), (Str.ofString "methods", _)]) rfl rfl
  with_reducible apply x_s; k_dflt show exsStep _ _ _ (_ :: _) _ _ = _; apply x_asg; kernel_rfl!; apply e_loc; kernel_rfl!; apply l_c; k_dflt rfl; apply a_attr; apply e_loc; kernel_rfl!; apply l_c; k_dflt rfl; apply v_setN; kernel_rfl!; apply x_asg; kernel_rfl!; apply e_loc; kernel_rfl!; apply l_c; k_dflt rfl; apply a_attr; apply e_loc; kernel_rfl!; apply l_c; k_dflt rfl; apply v_setN; kernel_rfl!; apply x_asg; kernel_rfl!; apply e_loc; kernel_rfl!; apply l_c; k_dflt rfl; apply a_attr; apply e_loc; kernel_rfl!; apply l_c; k_dflt rfl; apply v_setN; kernel_rfl!; apply x_asg; kernel_rfl!; apply e_loc; kernel_rfl!; apply l_c; k_dflt rfl; apply a_attr; apply e_loc; kernel_rfl!; apply l_c; k_dflt rfl; apply v_setN; kernel_rfl!; exact x_0; k_dflt rfl
noncomputable def told_F : Stmt := fi532.body.getD 0 (.Pass p0)
noncomputable def told_t : Expr := forT told_F
noncomputable def told_b : List Stmt := forB told_F
noncomputable def faceV : V := .tup [.str (Str.ofString "interface"), .tup [.tup [.str (Str.ofString "go"), plainV], .tup [.str (Str.ofString "up"), plainV]]]
noncomputable def beneathV (nm : Str) (held : Held) : V := cond (sEq nm nJ) faceV (.tup [.str (Str.ofString "struct"), .tup (rowsV nm held)])
noncomputable def methodsV (nm : Str) : List (V × V) := cond (sEq nm nB) [(.str (Str.ofString "m"), .tup [.bool true, plainV, .str (Str.ofString "main.B.m")])] []
noncomputable def rowI (nm : Str) (held : Held) (m : Nat) : Cell := .inst 417 [(Str.ofString "path", .str nm), (Str.ofString "package", .str (Str.ofString "main")), (Str.ofString "underlying", beneathV nm held), (Str.ofString "methods", .cell m)]
theorem makeRow {σ : St} {N : Nat} {p q u m : V} (hN : 10 ≤ N) : callC (recN G0 N) 417 414 [p, q, u, m] σ = some (.cell σ.next, σ.new (.inst 417 [(Str.ofString "path", p), (Str.ofString "package", q), (Str.ofString "underlying", u), (Str.ofString "methods", m)])) := by
  exact c_cls (namedRow hN)
theorem lawPlain_r {σ : St} {n : Nat} : (recN G0 (n + 10)).call 492 [] σ = some (plainV, σ) := lawPlain (Nat.le_add_left _ _)
theorem makeRow_r {σ : St} {n : Nat} {p q u m : V} : callC (recN G0 (n + 10)) 417 414 [p, q, u, m] σ = some (.cell σ.next, σ.new (.inst 417 [(Str.ofString "path", p), (Str.ofString "package", q), (Str.ofString "underlying", u), (Str.ofString "methods", m)])) := makeRow (Nat.le_add_left _ _)
theorem told_if1 {n : Nat} {L loc : Loc} {σ : St} {nm : Str} (okn : okS nm = true) (hl : lookS (Str.ofString "name") (ext L loc) = some (.str nm)) : exS G0 (recN G0 (n + 20)) fi532.scope (told_b.getD 1 (.Pass p0)) (ext L loc) σ = some (.next, cond (sEq nm nJ) (ext ((Str.ofString "beneath", faceV) :: L) loc) (ext L loc), σ) := by
  have q := q_str (σ := σ) okn (rfl : okS nJ = true)
  cases hJ : sEq nm nJ
  · rw [hJ] at q
    show exS _ _ _ (.If _ _ _ _) _ _ = some (.next, ext L loc, σ)
    with_reducible apply s_if; apply t_cmp; apply c_mp; kernel_rfl!; apply e_loc; kernel_rfl!; assumption; exact e_str; apply cv_eq; assumption; apply cnF; apply x_s; exact x_0
  · rw [hJ] at q
    show exS _ _ _ (.If _ _ _ _) _ _ = some (.next, ext ((Str.ofString "beneath", faceV) :: L) loc, σ)
    with_reducible apply s_if; apply t_cmp; apply c_mp; kernel_rfl!; apply e_loc; kernel_rfl!; assumption; exact e_str; apply cv_eq; assumption; apply cnT; apply x_s; apply x_name; kernel_rfl!; apply e_tup; kernel_rfl!; apply evs_s; kernel_rfl!; exact e_str; apply evs_s; kernel_rfl!; apply e_tup; kernel_rfl!; apply evs_s; kernel_rfl!; apply e_tup; kernel_rfl!; apply evs_s; kernel_rfl!; exact e_str; apply evs_s; kernel_rfl!; apply e_fn; kernel_rfl!; k_dflt rfl; kernel_rfl!; exact evs_0; exact lawPlain_r; exact evs_0; apply evs_s; kernel_rfl!; apply e_tup; kernel_rfl!; apply evs_s; kernel_rfl!; exact e_str; apply evs_s; kernel_rfl!; apply e_fn; kernel_rfl!; k_dflt rfl; kernel_rfl!; exact evs_0; exact lawPlain_r; exact evs_0; exact evs_0; exact evs_0; k_dflt exact x_0
theorem told_if2 {n : Nat} {loc : Loc} {σ : St} {nm : Str} (okn : okS nm = true) (hl : lookS (Str.ofString "name") loc = some (.str nm)) (hm : lookS (Str.ofString "methods") loc = some (.cell σ.next)) : exS G0 (recN G0 (n + 20)) fi532.scope (told_b.getD 2 (.Pass p0)) loc (σ.new (.dict [])) = some (.next, loc, σ.new (.dict (methodsV nm))) := by
  have q := q_str (σ := σ.new (.dict [])) okn (rfl : okS nB = true)
  unfold methodsV
  cases hB : sEq nm nB
  · rw [hB] at q
    show exS _ _ _ (.If _ _ _ _) _ _ = some (.next, loc, σ.new (.dict []))
    with_reducible apply s_if; apply t_cmp; apply c_mp; kernel_rfl!; apply e_loc; kernel_rfl!; assumption; exact e_str; apply cv_eq; assumption; apply cnF; apply x_s; exact x_0
  · rw [hB] at q
    show exS _ _ _ (.If _ _ _ _) _ _ = _
    with_reducible apply s_if; apply t_cmp; apply c_mp; kernel_rfl!; apply e_loc; kernel_rfl!; assumption; exact e_str; apply cv_eq; assumption; apply cnT; apply x_s; apply x_asg; kernel_rfl!; apply e_tup; kernel_rfl!; apply evs_s; kernel_rfl!; exact e_tf; apply evs_s; kernel_rfl!; apply e_fn; kernel_rfl!; k_dflt rfl; kernel_rfl!; exact evs_0; exact lawPlain_r; apply evs_s; kernel_rfl!; exact e_str; exact evs_0; apply a_item; kernel_rfl!; apply e_loc; kernel_rfl!; assumption; exact e_str; apply v_stdN; kernel_rfl!; k_dflt exact x_0
theorem told_step {N k i n bk wc nd : Nat} {nm : Str} {held : Held} {es ns : List (V × V)} {wl : List (Str × V)} {v : V} (hN : 70 ≤ N) {loc : Loc} {σ : St} (hb : σ.get bk = some (.dict es)) (hi : es[i]? = some (.str nm, v)) (hn : n = es.length) (hka : keysAll isStrV es = true) (H : Holds σ bk nm held) (hbn : bk < σ.next)
    (hw : σ.get wc = some (.inst 460 wl)) (hwn : wc < σ.next) (hnm : lookS (Str.ofString "named") wl = some (.cell nd)) (hnd : σ.get nd = some (.dict ns)) (hndn : nd < σ.next) (hkey : keyOk (.str nm) ns = true) (hlen : Nat.blt ns.length 1000 = true) (hne : nd ≠ bk) (hnw : nd ≠ wc)
    (hl1 : lookS (Str.ofString "world") loc = some (.cell wc)) (hl2 : lookS (Str.ofString "book") loc = some (.cell bk)) :
    ∃ (loc' : Loc) (σ' : St), forE (recN G0 N) fi532.scope told_t told_b (k + 1) (.dict bk i n) loc σ = forE (recN G0 N) fi532.scope told_t told_b k (.dict bk (i + 1) n) loc' σ' ∧ σ'.next = σ.next + 3 ∧ (∀ j, j < σ.next → j ≠ nd → σ'.get j = σ.get j) ∧
      σ'.get nd = some (.dict (dictPutV (.str nm) (.cell (σ.next + 2)) ns)) ∧ σ'.get (σ.next + 1) = some (.dict (methodsV nm)) ∧ σ'.get (σ.next + 2) = some (rowI nm held (σ.next + 1)) ∧ lookS (Str.ofString "world") loc' = some (.cell wc) ∧ lookS (Str.ofString "book") loc' = some (.cell bk) := by
  obtain ⟨n', rfl⟩ : ∃ n, N = n + 70 := ⟨N - 70, by omega⟩
  obtain ⟨σ1, r1, r2, r3⟩ := rows (N := n' + 65) (by omega) H hbn
  have hrl : Nat.blt (rowsV nm held).length 1000 = true := by
    rw [Nat.blt_eq]; unfold rowsV; have := H.short; cases sEq nm nD <;> simp <;> omega
  have okn := H.ok
  have hbe : (Nat.beq es.length n && keysAll isStrV es) = true := bB (by rw [hn]; exact Nat.beq_refl _) hka
  have w1 : wc ≠ σ1.next := by omega
  have w2 : wc ≠ σ1.next + 1 := by omega
  have w3 : nd ≠ σ1.next := by omega
  have w4 : nd ≠ σ1.next + 1 := by omega
  have g1 : σ1.get wc = some (.inst 460 wl) := (r3 _ hwn).trans hw
  have g2 : σ1.get nd = some (.dict ns) := (r3 _ hndn).trans hnd
  have hq : (keyOk (.str nm) ns && Nat.blt ns.length 1000) = true := bB hkey hlen
  let L : Loc := [(Str.ofString "methods", .cell σ1.next), (Str.ofString "beneath", .tup [.str (Str.ofString "struct"), .tup (rowsV nm held)]), (Str.ofString "name", .str nm)]
  let L1 : Loc := (Str.ofString "beneath", faceV) :: L
  obtain ⟨loc1, hloc⟩ : ∃ loc1, loc1 = cond (sEq nm nJ) (ext L1 loc) (ext L loc) := ⟨_, rfl⟩
  have k1 : lookS (Str.ofString "name") loc1 = some (.str nm) := by rw [hloc]; cases sEq nm nJ <;> exact l_in rfl
  have k2 : lookS (Str.ofString "methods") loc1 = some (.cell σ1.next) := by rw [hloc]; cases sEq nm nJ <;> exact l_in rfl
  have k3 : lookS (Str.ofString "beneath") loc1 = some (beneathV nm held) := by rw [hloc]; unfold beneathV; cases sEq nm nJ <;> exact l_in rfl
  have k4 : lookS (Str.ofString "world") loc1 = some (.cell wc) := by rw [hloc]; cases sEq nm nJ <;> exact l_ext rfl hl1
  have k5 : lookS (Str.ofString "book") loc1 = some (.cell bk) := by rw [hloc]; cases sEq nm nJ <;> exact l_ext rfl hl2
  have s1 := told_if1 (n := n' + 49) (L := L) (loc := loc) (σ := σ1.new (.dict [])) okn (l_in rfl)
  rw [← hloc] at s1
  have s2 := told_if2 (n := n' + 49) okn k1 k2
  refine ⟨loc1, ((σ1.new (.dict (methodsV nm))).new (.inst 417 [(Str.ofString "path", .str nm), (Str.ofString "package", .str (Str.ofString "main")), (Str.ofString "underlying", beneathV nm held), (Str.ofString "methods", .cell σ1.next)])).set nd (.dict (dictPutV (.str nm) (.cell (σ1.next + 1)) ns)), ?_, ?_, fun j hj1 hj2 => ?_, ?_, ?_, ?_, k4, k5⟩
  · apply f_step
    with_reducible apply n_dic; assumption; assumption; assumption; k_dflt show Rec.asg _ _ (.Name _ _) _ _ _ = _; apply a_name0; kernel_rfl!; apply x_s; k_dflt show exsStep _ _ _ (_ :: _) _ _ = _; apply x_asgB; kernel_rfl!; apply e_tup; kernel_rfl!; apply evs_s; kernel_rfl!; apply e_tup; kernel_rfl!; apply evs_s; kernel_rfl!; exact e_str; apply evs_s; kernel_rfl!; apply e_blt; kernel_rfl!; k_dflt rfl; kernel_rfl!; apply evs_s; kernel_rfl!; apply e_fn; kernel_rfl!; k_dflt rfl; kernel_rfl!; apply evs_s; kernel_rfl!; apply e_loc; kernel_rfl!; apply l_ext; kernel_rfl!; assumption; apply evs_s; kernel_rfl!; apply e_loc; kernel_rfl!; apply l_in; k_dflt rfl; exact evs_0; assumption; exact evs_0; apply b_tup; k_dflt rfl; assumption; exact evs_0; apply evs_s; kernel_rfl!; apply e_dict; kernel_rfl!; exact ep_0; k_dflt rfl; exact evs_0; apply aN_tup; k_dflt rfl; kernel_rfl!; apply al_s; kernel_rfl!; apply aN_name; kernel_rfl!; apply al_s; kernel_rfl!; apply aN_name; kernel_rfl!; exact al_0; apply x_p; k_dflt assumption; k_dflt apply fl_n; apply x_p; k_dflt assumption; k_dflt apply fl_n; apply x_asg; kernel_rfl!; apply e_cls; kernel_rfl!; k_dflt rfl; kernel_rfl!; k_dflt rfl; apply evs_s; kernel_rfl!; apply e_loc; kernel_rfl!; assumption; apply evs_s; kernel_rfl!; exact e_str; apply evs_s; kernel_rfl!; apply e_loc; kernel_rfl!; assumption; apply evs_s; kernel_rfl!; apply e_loc; kernel_rfl!; assumption; exact evs_0; exact makeRow_r; apply a_item; kernel_rfl!; apply e_attr; kernel_rfl!; apply e_loc; kernel_rfl!; assumption; apply v_attr; apply g_old; k_dflt assumption; apply g_old; assumption; assumption; kernel_rfl!; assumption; apply e_loc; kernel_rfl!; assumption; apply v_std; apply g_old; k_dflt assumption; apply g_old; assumption; assumption; assumption; exact x_0
    rfl
  · show σ1.next + 1 + 1 = _; omega
  · rw [St.get_set, if_neg hj2, St.get_new, if_neg (by show j ≠ σ1.next + 1; omega), St.get_new, if_neg (by omega), r3 _ hj1]
  · rw [St.get_set, if_pos rfl, r2]
  · rw [St.get_set, if_neg (by omega), St.get_new, if_neg (by show σ.next + 1 ≠ σ1.next + 1; omega), St.get_new, if_pos (by omega)]
  · rw [St.get_set, if_neg (by omega), St.get_new, if_pos (by show σ.next + 2 = σ1.next + 1; omega), ← r2]; rfl
theorem keysAll_put {k v : V} (hk : isStrV k = true) : ∀ {l : List (V × V)}, keysAll isStrV l = true → keysAll isStrV (dictPutV k v l) = true
  | [], _ => by show cond (isStrV k) true false = true; rw [hk]; rfl
  | e :: r, h => bT2 h fun h1 h2 => by
    show keysAll isStrV (cond (keyEq e.1 k) ((e.1, v) :: r) (e :: dictPutV k v r)) = true
    cases keyEq e.1 k with
    | true => exact iT h1 h2
    | false => exact iT h1 (keysAll_put hk h2)
theorem length_put {k v : V} : ∀ {l : List (V × V)}, (dictPutV k v l).length ≤ l.length + 1
  | [] => Nat.le_refl _
  | e :: r => by
    show (cond (keyEq e.1 k) ((e.1, v) :: r) (e :: dictPutV k v r)).length ≤ _
    cases keyEq e.1 k with
    | true => exact Nat.le_succ _
    | false => exact Nat.succ_le_succ length_put
theorem keyOk_str {s : Str} {l : List (V × V)} (hs : okS s = true) (h : keysAll isStrV l = true) : keyOk (.str s) l = true := bB (a := pureV (.str s)) hs h
theorem Holds.mono {σ σ' : St} {b nd : Nat} {nm : Str} {held : Held} {ns : List (V × V)} (H : Holds σ b nm held) (hnd : σ.get nd = some (.dict ns)) (hb : b < σ.next) (hne : b ≠ nd) (hg : ∀ j, j < σ.next → j ≠ nd → σ'.get j = σ.get j) (hn : σ.next ≤ σ'.next) : Holds σ' b nm held := by
  obtain ⟨⟨es, hv, e1, e2, e3, e4⟩, h2, h3, h4⟩ := H
  refine ⟨⟨es, hv, (hg b hb hne).trans e1, e2, e3, ?_⟩, h2, h3, h4⟩
  rcases e4 with q | ⟨h, rfl, hh, hl⟩
  · exact .inl q
  · refine .inr ⟨h, rfl, Nat.lt_of_lt_of_le hh hn, ?_⟩
    rw [hg h hh (fun q => nomatch (hnd.symm.trans ((congrArg σ.get q).symm.trans hl)))]
    exact hl
noncomputable def names5 : List Str := [nJ, nD, nC, nB, nA]
structure Tell (σ : St) (loc : Loc) (wc bk nd kb : Nat) (hf : Str → Held) (ns : List (V × V)) : Prop where
  hb : σ.get bk = some (.dict (bookV kb))
  hbn : bk < σ.next
  hw : ∃ wl, σ.get wc = some (.inst 460 wl) ∧ lookS (Str.ofString "named") wl = some (.cell nd)
  hwn : wc < σ.next
  hnd : σ.get nd = some (.dict ns)
  hndn : nd < σ.next
  ks : keysAll isStrV ns = true
  len : ns.length < 900
  ne : bk ≠ nd
  nw : wc ≠ nd
  holds : ∀ nm ∈ names5, Holds σ bk nm (hf nm)
  l1 : lookS (Str.ofString "world") loc = some (.cell wc)
  l2 : lookS (Str.ofString "book") loc = some (.cell bk)
theorem tell_step {N k i wc bk nd kb : Nat} {hf : Str → Held} {ns : List (V × V)} {σ : St} {loc : Loc} {nm : Str} {v : V} (hN : 70 ≤ N) (T : Tell σ loc wc bk nd kb hf ns) (hi : (bookV kb)[i]? = some (.str nm, v)) (hm : nm ∈ names5) (hl : ns.length < 890) :
    ∃ (loc' : Loc) (σ' : St), forE (recN G0 N) fi532.scope told_t told_b (k + 1) (.dict bk i 5) loc σ = forE (recN G0 N) fi532.scope told_t told_b k (.dict bk (i + 1) 5) loc' σ' ∧ σ'.next = σ.next + 3 ∧ (∀ j, j < σ.next → j ≠ nd → σ'.get j = σ.get j) ∧
      σ'.get (σ.next + 1) = some (.dict (methodsV nm)) ∧ σ'.get (σ.next + 2) = some (rowI nm (hf nm) (σ.next + 1)) ∧ Tell σ' loc' wc bk nd kb hf (dictPutV (.str nm) (.cell (σ.next + 2)) ns) := by
  refine ea_1_2 (T.hw) (fun wl hw hnm => ?_)
  have H := T.holds nm hm
  obtain ⟨loc', σ', f, n1, g1, d1, m1, r1, l1, l2⟩ := told_step (k := k) hN T.hb hi (n := 5) rfl (by rfl) H T.hbn hw T.hwn hnm T.hnd T.hndn (keyOk_str H.ok T.ks) (by rw [Nat.blt_eq]; have := T.len; omega) (Ne.symm T.ne) (Ne.symm T.nw) T.l1 T.l2
  refine ⟨loc', σ', f, n1, g1, m1, r1, ⟨(g1 _ T.hbn T.ne).trans T.hb, by have := T.hbn; omega, ⟨wl, (g1 _ T.hwn T.nw).trans hw, hnm⟩, by have := T.hwn; omega, d1, by have := T.hndn; omega, keysAll_put rfl T.ks, ?_, T.ne, T.nw, fun x hx => (T.holds x hx).mono T.hnd T.hbn T.ne g1 (by omega), l1, l2⟩⟩
  have := length_put (k := .str nm) (v := .cell (σ.next + 2)) (l := ns)
  omega
noncomputable def toldNs (k : Nat) (ns : List (V × V)) : List (V × V) :=
  dictPutV (.str nA) (.cell (k + 14)) (dictPutV (.str nB) (.cell (k + 11)) (dictPutV (.str nC) (.cell (k + 8)) (dictPutV (.str nD) (.cell (k + 5)) (dictPutV (.str nJ) (.cell (k + 2)) ns))))
theorem told {N wc bk nd kb : Nat} {hf : Str → Held} {ns : List (V × V)} {σ : St} (hN : 80 ≤ N) (T : Tell σ [(Str.ofString "world", .cell wc), (Str.ofString "book", .cell bk)] wc bk nd kb hf ns) (hl : ns.length < 800) :
    ∃ (loc' : Loc) (σ' : St), (recN G0 N).call 532 [.cell wc, .cell bk] σ = some (.none, σ') ∧ σ'.next = σ.next + 15 ∧ (∀ j, j < σ.next → j ≠ nd → σ'.get j = σ.get j) ∧ Tell σ' loc' wc bk nd kb hf (toldNs σ.next ns) ∧
      (σ'.get (σ.next + 1) = some (.dict (methodsV nJ)) ∧ σ'.get (σ.next + 2) = some (rowI nJ (hf nJ) (σ.next + 1))) ∧
      (σ'.get (σ.next + 4) = some (.dict (methodsV nD)) ∧ σ'.get (σ.next + 5) = some (rowI nD (hf nD) (σ.next + 4))) ∧
      (σ'.get (σ.next + 7) = some (.dict (methodsV nC)) ∧ σ'.get (σ.next + 8) = some (rowI nC (hf nC) (σ.next + 7))) ∧
      (σ'.get (σ.next + 10) = some (.dict (methodsV nB)) ∧ σ'.get (σ.next + 11) = some (rowI nB (hf nB) (σ.next + 10))) ∧
      (σ'.get (σ.next + 13) = some (.dict (methodsV nA)) ∧ σ'.get (σ.next + 14) = some (rowI nA (hf nA) (σ.next + 13))) := by
  obtain ⟨n, rfl⟩ := exN hN
  have T0 := T
  have nn : nd < σ.next := T0.hndn
  have len : ∀ {l : List (V × V)} {x y : V} {c : Nat}, l.length ≤ ns.length + c → (dictPutV x y l).length ≤ ns.length + (c + 1) := fun h => Nat.le_trans length_put (Nat.succ_le_succ h)
  have lb : ∀ {l : List (V × V)} {c : Nat}, l.length ≤ ns.length + c → Nat.ble c 90 = true → l.length < 890 := fun h hc => Nat.lt_of_le_of_lt (Nat.le_trans h (Nat.add_le_add_left (Nat.le_of_ble_eq_true hc) _)) (Nat.add_lt_add_right hl 90)
  obtain ⟨loc1, σ1, f1, p1, g1, m1, r1, T1⟩ := tell_step (N := n + 78) (k := 199) (i := 0) (nm := nJ) (leA rfl) T rfl (.head _) (lb (c := 0) (Nat.le_refl _) rfl)
  have c1 := len (l := ns) (x := .str nJ) (y := .cell (σ.next + 2)) (c := 0) (Nat.le_refl _)
  obtain ⟨loc2, σ2, f2, n2, g2, m2, r2, T2⟩ := tell_step (N := n + 78) (k := 198) (i := 1) (nm := nD) (leA rfl) T1 rfl (.tail _ (.head _)) (lb c1 rfl)
  rw [p1] at n2 m2 r2 T2 g2
  have p2 : σ2.next = σ.next + 6 := n2
  have c2 := len (x := .str nD) (y := .cell (σ.next + 5)) c1
  obtain ⟨loc3, σ3, f3, n3, g3, m3, r3, T3⟩ := tell_step (N := n + 78) (k := 197) (i := 2) (nm := nC) (leA rfl) T2 rfl (.tail _ (.tail _ (.head _))) (lb c2 rfl)
  rw [p2] at n3 m3 r3 T3 g3
  have p3 : σ3.next = σ.next + 9 := n3
  have c3 := len (x := .str nC) (y := .cell (σ.next + 8)) c2
  obtain ⟨loc4, σ4, f4, n4, g4, m4, r4, T4⟩ := tell_step (N := n + 78) (k := 196) (i := 3) (nm := nB) (leA rfl) T3 rfl (.tail _ (.tail _ (.tail _ (.head _)))) (lb c3 rfl)
  rw [p3] at n4 m4 r4 T4 g4
  have p4 : σ4.next = σ.next + 12 := n4
  have c4 := len (x := .str nB) (y := .cell (σ.next + 11)) c3
  obtain ⟨loc5, σ5, f5, n5, g5, m5, r5, T5⟩ := tell_step (N := n + 78) (k := 195) (i := 4) (nm := nA) (leA rfl) T4 rfl (.tail _ (.tail _ (.tail _ (.tail _ (.head _))))) (lb c4 rfl)
  rw [p4] at n5 m5 r5 T5 g5
  have h4 : ∀ a, Nat.ble (a + 1) 12 = true → σ5.get (σ.next + a) = σ4.get (σ.next + a) := fun a h => g5 _ (ltA h) (neA nn)
  have h3 : ∀ a, Nat.ble (a + 1) 9 = true → σ5.get (σ.next + a) = σ3.get (σ.next + a) := fun a h => (h4 a (Nat.ble_eq_true_of_le (Nat.le_trans (Nat.le_of_ble_eq_true h) (Nat.le_add_right 9 3)))).trans (g4 _ (ltA h) (neA nn))
  have h2 : ∀ a, Nat.ble (a + 1) 6 = true → σ5.get (σ.next + a) = σ2.get (σ.next + a) := fun a h => (h3 a (Nat.ble_eq_true_of_le (Nat.le_trans (Nat.le_of_ble_eq_true h) (Nat.le_add_right 6 3)))).trans (g3 _ (ltA h) (neA nn))
  have h1 : ∀ a, Nat.ble (a + 1) 3 = true → σ5.get (σ.next + a) = σ1.get (σ.next + a) := fun a h => (h2 a (Nat.ble_eq_true_of_le (Nat.le_trans (Nat.le_of_ble_eq_true h) (Nat.le_add_right 3 3)))).trans (g2 _ (ltA h) (neA nn))
  have e5 : forE (recN G0 (n + 78)) fi532.scope told_t told_b 195 (.dict bk 5 5) loc5 σ5 = some (.next, loc5, σ5) := f_end (n_dicE T5.hb rfl rfl)
  have all := f1.trans (f2.trans (f3.trans (f4.trans (f5.trans e5))))
  have hb := T0.hb
  have hit : iterV σ (.cell bk) = some (.dict bk 0 5) := it_d hb rfl
  refine ⟨loc5, σ5, ?_, n5, fun j h1 h2 => ?_, T5, ⟨(h1 1 rfl).trans m1, (h1 2 rfl).trans r1⟩, ⟨(h2 4 rfl).trans m2, (h2 5 rfl).trans r2⟩, ⟨(h3 7 rfl).trans m3, (h3 8 rfl).trans r3⟩, ⟨(h4 10 rfl).trans m4, (h4 11 rfl).trans r4⟩, ⟨m5, r5⟩⟩
  · apply c_nt (fi := fi532) (loc := [(Str.ofString "world", _), (Str.ofString "book", _)]) rfl rfl
    with_reducible apply x_s; k_dflt show exsStep _ _ _ (_ :: _) _ _ = _; apply x_1; apply s_for; apply si_p; kernel_rfl!; apply e_loc; kernel_rfl!; apply l_c; k_dflt rfl; assumption; k_dflt assumption; exact rfl
  · exact (g5 j (ltB (Nat.le_of_lt h1) rfl) h2).trans ((g4 j (ltB (Nat.le_of_lt h1) rfl) h2).trans ((g3 j (ltB (Nat.le_of_lt h1) rfl) h2).trans ((g2 j (ltB (Nat.le_of_lt h1) rfl) h2).trans (g1 j h1 h2))))
theorem baseOf_plain {σ : St} {N : Nat} {w : V} {k : Str} {l : List V} (hN : 20 ≤ N) (hk : sEq k (Str.ofString "named") = false) (ok : okS k = true) : (recN G0 N).call 450 [w, .tup (.str k :: l)] σ = some (.tup (.str k :: l), σ) := by
  obtain ⟨n, rfl⟩ : ∃ n, N = n + 20 := ⟨N - 20, by omega⟩
  have on : okS (Str.ofString "named") = true := by rfl
  have q : eqTop σ (.str k) (.str (Str.ofString "named")) = some false := (q_str ok on).trans (congrArg some hk)
  apply c_to (fi := fi450) (loc := [(Str.ofString "self", _), (Str.ofString "told", _)]) rfl rfl
  with_reducible apply x_s; k_dflt show exsStep _ _ _ (_ :: _) _ _ = _; apply x_p; apply s_while
  · apply w_end
    with_reducible apply t_cmp; apply c_mp; kernel_rfl!; apply e_item; kernel_rfl!; apply e_loc; kernel_rfl!; apply l_c; k_dflt rfl; exact e_int; apply v_itup; k_dflt rfl; exact e_str; apply cv_eq; assumption
  with_reducible k_dflt apply fl_n; apply x_ret; apply e_loc; kernel_rfl!; apply l_c; k_dflt rfl; exact rfl
theorem baseOf_named {σ : St} {N : Nat} {wc nd c : Nat} {wl rl : List (Str × V)} {ns : List (V × V)} {nm k : Str} {l : List V} (hN : 20 ≤ N) (hw : σ.get wc = some (.inst 460 wl)) (hnm : lookS (Str.ofString "named") wl = some (.cell nd)) (hnd : σ.get nd = some (.dict ns)) (hkey : keyOk (.str nm) ns = true)
    (hfind : dictFindV (.str nm) ns = some (.cell c)) (hc : σ.get c = some (.inst 417 rl)) (hu : lookS (Str.ofString "underlying") rl = some (.tup (.str k :: l))) (hk : sEq k (Str.ofString "named") = false) (ok : okS k = true) : (recN G0 N).call 450 [.cell wc, namedV nm] σ = some (.tup (.str k :: l), σ) := by
  obtain ⟨n, rfl⟩ : ∃ n, N = n + 20 := ⟨N - 20, by omega⟩
  have on : okS (Str.ofString "named") = true := by rfl
  have hkt : keyTup (.str nm) = false := rfl
  have q : eqTop σ (.str k) (.str (Str.ofString "named")) = some false := (q_str ok on).trans (congrArg some hk)
  have qn : eqTop σ (.str (Str.ofString "named")) (.str (Str.ofString "named")) = some true := q_str on on
  have hi : inV σ (.str nm) (.cell nd) = some true := (v_in hnd hkey).trans (by rw [hfind]; rfl)
  apply c_to (fi := fi450) (loc := [(Str.ofString "self", _), (Str.ofString "told", _)]) rfl rfl
  with_reducible apply x_s; k_dflt show exsStep _ _ _ (_ :: _) _ _ = _; apply x_p; apply s_while
  · apply w_step
    · with_reducible apply t_cmp; apply c_mp; kernel_rfl!; apply e_item; kernel_rfl!; apply e_loc; kernel_rfl!; apply l_c; k_dflt rfl; exact e_int; k_dflt rfl; exact e_str; apply cv_eq; assumption
    · with_reducible apply x_s; apply x_p; apply s_if; apply t_cmp; apply c_mp; kernel_rfl!; apply e_item; kernel_rfl!; apply e_loc; kernel_rfl!; apply l_c; k_dflt rfl; exact e_int; k_dflt rfl; apply e_attr; kernel_rfl!; apply e_loc; kernel_rfl!; apply l_c; k_dflt rfl; apply v_attr; assumption; kernel_rfl!; assumption; apply cv_nin; kernel_rfl!; assumption; apply cnnT; apply x_s; exact x_0; k_dflt apply fl_n; apply x_name0; kernel_rfl!; apply e_item; kernel_rfl!; apply e_attr; kernel_rfl!; apply e_loc; kernel_rfl!; apply l_c; k_dflt rfl; apply v_attr; assumption; kernel_rfl!; assumption; apply e_item; kernel_rfl!; apply e_loc; kernel_rfl!; apply l_c; k_dflt rfl; exact e_int; k_dflt rfl; apply v_itd; assumption; assumption; assumption; apply x_p; apply s_if; apply t_cmp; apply c_mp; kernel_rfl!; apply e_attr; kernel_rfl!; apply e_loc; kernel_rfl!; apply l_in; k_dflt rfl; apply v_attr; assumption; kernel_rfl!; assumption; exact e_none; k_dflt rfl; apply cnF; apply x_s; exact x_0; k_dflt apply fl_n; apply x_name; kernel_rfl!; apply e_attr; kernel_rfl!; apply e_loc; kernel_rfl!; apply l_in; k_dflt rfl; apply v_attr; assumption; kernel_rfl!; assumption; exact x_0
    · apply w_end
      with_reducible apply t_cmp; apply c_mp; kernel_rfl!; apply e_item; kernel_rfl!; apply e_loc; kernel_rfl!; apply l_in; k_dflt rfl; exact e_int; apply v_itup; k_dflt rfl; exact e_str; apply cv_eq; assumption
  with_reducible k_dflt apply fl_n; apply x_ret; apply e_loc; kernel_rfl!; apply l_in; k_dflt rfl; exact rfl
theorem withoutPointer {σ : St} {N : Nat} {o : Str} {f : Bool} (hN : 20 ≤ N) : (recN G0 N).call 57 [edgeV o f] σ = some (namedV o, σ) := by
  obtain ⟨n, rfl⟩ : ∃ n, N = n + 20 := ⟨N - 20, by omega⟩
  have on : okS (Str.ofString "named") = true := by rfl
  have op : okS (Str.ofString "ptr") = true := by rfl
  have q0 : eqTop σ (.str (Str.ofString "named")) (.str (Str.ofString "ptr")) = some false := q_str on op
  have q1 : eqTop σ (.str (Str.ofString "ptr")) (.str (Str.ofString "ptr")) = some true := q_str op op
  cases f
  · show (recN G0 (n + 20)).call 57 [namedV o] σ = _
    unfold namedV
    apply c_to (fi := fi57) (loc := [(Str.ofString "told", _)]) rfl rfl
    with_reducible apply x_s; k_dflt show exsStep _ _ _ (_ :: _) _ _ = _; apply x_ret; apply e_if; apply t_cmp; apply c_mp; kernel_rfl!; apply e_item; kernel_rfl!; apply e_loc; kernel_rfl!; apply l_c; k_dflt rfl; exact e_int; apply v_itup; k_dflt rfl; exact e_str; apply cv_eq; assumption; apply cnF; apply e_loc; kernel_rfl!; apply l_c; k_dflt rfl; exact rfl
  · show (recN G0 (n + 20)).call 57 [.tup [.str (Str.ofString "ptr"), namedV o]] σ = _
    apply c_to (fi := fi57) (loc := [(Str.ofString "told", _)]) rfl rfl
    with_reducible apply x_s; k_dflt show exsStep _ _ _ (_ :: _) _ _ = _; apply x_ret; apply e_if; apply t_cmp; apply c_mp; kernel_rfl!; apply e_item; kernel_rfl!; apply e_loc; kernel_rfl!; apply l_c; k_dflt rfl; exact e_int; apply v_itup; k_dflt rfl; exact e_str; apply cv_eq; assumption; apply cnT; apply e_item; kernel_rfl!; apply e_loc; kernel_rfl!; apply l_c; k_dflt rfl; exact e_int; apply v_itup; k_dflt rfl; exact rfl
noncomputable def reachedI (told steps : V) (tw : Bool) : Cell := .inst 39 [(Str.ofString "told", told), (Str.ofString "steps", steps), (Str.ofString "is_twice", .bool tw)]
theorem makeReached3 {σ : St} {N : Nat} {t s : V} {tw : Bool} (hN : 20 ≤ N) : callC (recN G0 N) 39 36 [t, s, .bool tw] σ = some (.cell σ.next, σ.new (reachedI t s tw)) := by
  obtain ⟨n, rfl⟩ : ∃ n, N = n + 20 := ⟨N - 20, by omega⟩
  apply c_cls
  apply c_nt (fi := fi36) (loc := [(Str.ofString "self", _), (Str.ofString "told", _), (Str.ofString "steps", _), (Str.ofString "is_twice", _)]) rfl rfl
  with_reducible apply x_s; k_dflt show exsStep _ _ _ (_ :: _) _ _ = _; apply x_asg; kernel_rfl!; apply e_loc; kernel_rfl!; apply l_c; k_dflt rfl; apply a_attr; apply e_loc; kernel_rfl!; apply l_c; k_dflt rfl; apply v_setN; kernel_rfl!; apply x_asg; kernel_rfl!; apply e_loc; kernel_rfl!; apply l_c; k_dflt rfl; apply a_attr; apply e_loc; kernel_rfl!; apply l_c; k_dflt rfl; apply v_setN; kernel_rfl!; apply x_asg; kernel_rfl!; apply e_loc; kernel_rfl!; apply l_c; k_dflt rfl; apply a_attr; apply e_loc; kernel_rfl!; apply l_c; k_dflt rfl; apply v_setN; kernel_rfl!; exact x_0; k_dflt rfl
theorem makeReached2 {σ : St} {N : Nat} {t s : V} (hN : 20 ≤ N) : callC (recN G0 N) 39 36 [t, s] σ = some (.cell σ.next, σ.new (reachedI t s false)) := by
  obtain ⟨n, rfl⟩ : ∃ n, N = n + 20 := ⟨N - 20, by omega⟩
  apply c_cls
  apply c_nt (fi := fi36) (loc := [(Str.ofString "self", _), (Str.ofString "told", _), (Str.ofString "steps", _), (Str.ofString "is_twice", _)]) rfl rfl
  with_reducible apply x_s; k_dflt show exsStep _ _ _ (_ :: _) _ _ = _; apply x_asg; kernel_rfl!; apply e_loc; kernel_rfl!; apply l_c; k_dflt rfl; apply a_attr; apply e_loc; kernel_rfl!; apply l_c; k_dflt rfl; apply v_setN; kernel_rfl!; apply x_asg; kernel_rfl!; apply e_loc; kernel_rfl!; apply l_c; k_dflt rfl; apply a_attr; apply e_loc; kernel_rfl!; apply l_c; k_dflt rfl; apply v_setN; kernel_rfl!; apply x_asg; kernel_rfl!; apply e_loc; kernel_rfl!; apply l_c; k_dflt rfl; apply a_attr; apply e_loc; kernel_rfl!; apply l_c; k_dflt rfl; apply v_setN; kernel_rfl!; exact x_0; k_dflt rfl
noncomputable def emb_F : Stmt := (forB (fi76.body.getD 1 (.Pass p0))).getD 0 (.Pass p0)
noncomputable def emb_t : Expr := forT emb_F
noncomputable def emb_b : List Stmt := forB emb_F
theorem withoutPointer_r {σ : St} {n : Nat} {o : Str} {f : Bool} : (recN G0 (n + 20)).call 57 [edgeV o f] σ = some (namedV o, σ) := withoutPointer (Nat.le_add_left _ _)
theorem makeReached3_r {σ : St} {n : Nat} {t s : V} {tw : Bool} : callC (recN G0 (n + 20)) 39 36 [t, s, .bool tw] σ = some (.cell σ.next, σ.new (reachedI t s tw)) := makeReached3 (Nat.le_add_left _ _)
noncomputable def kindS (f : Bool) : Str := cond f (Str.ofString "ptr") (Str.ofString "named")
theorem emb_turn {N k i : Nat} (hN : 40 ≤ N) {rows : List V} {loc : Loc} {σ : St} {o : Str} {f tw : Bool} {rc fc : Nat} {told : V} {steps acc : List V} (hi : rows[i]? = some (rowV (o, f))) (hr : σ.get rc = some (reachedI told (.tup steps) tw)) (hrn : rc < σ.next) (hf : σ.get fc = some (.list acc)) (hfn : fc < σ.next) (hne : rc ≠ fc) (ha : Nat.blt acc.length 1000 = true) (hs : Nat.blt (steps.length + 1) 1000 = true)
    (l1 : lookS (Str.ofString "reached") loc = some (.cell rc)) (l2 : lookS (Str.ofString "found") loc = some (.cell fc)) :
    ∃ (loc' : Loc), forE (recN G0 N) fi76.scope emb_t emb_b (k + 1) (.enum (.tup rows) i) loc σ = forE (recN G0 N) fi76.scope emb_t emb_b k (.enum (.tup rows) (i + 1)) loc' ((σ.new (reachedI (namedV o) (.tup (steps ++ [.tup [.int i, .bool f]])) tw)).set fc (.list (acc ++ [.cell σ.next]))) ∧
      lookS (Str.ofString "reached") loc' = some (.cell rc) ∧ lookS (Str.ofString "found") loc' = some (.cell fc) := by
  obtain ⟨n, rfl⟩ : ∃ n, N = n + 40 := ⟨N - 40, by omega⟩
  have on : okS (Str.ofString "named") = true := by rfl
  have op : okS (Str.ofString "ptr") = true := by rfl
  have e1 : rc ≠ σ.next := by omega
  have e2 : fc ≠ σ.next := by omega
  have hi : rows[i]? = some (.tup [.str (tl o), edgeV o f, .bool true]) := hi
  have hk : itemV σ (edgeV o f) (.int 0) = some (.str (kindS f)) := by cases f <;> rfl
  have hq : eqTop σ (.str (kindS f)) (.str (Str.ofString "ptr")) = some f := by cases f <;> exact q_str rfl rfl
  have hr : σ.get rc = some (.inst 39 [(Str.ofString "told", told), (Str.ofString "steps", .tup steps), (Str.ofString "is_twice", .bool tw)]) := hr
  apply Exists.intro
  constructor
  · apply f_step
    with_reducible apply n_enu; k_dflt rfl; assumption; k_dflt show Rec.asg _ _ (.Tuple _ _ _) _ _ _ = _; apply a_tup; k_dflt rfl; kernel_rfl!; apply as_s; kernel_rfl!; apply a_name0; kernel_rfl!; apply as_s; kernel_rfl!; apply a_name; kernel_rfl!; exact as_0; apply x_s; k_dflt show exsStep _ _ _ (_ :: _) _ _ = _; apply x_1; apply s_if; apply t_item; apply e_item; kernel_rfl!; apply e_loc; kernel_rfl!; apply l_in; k_dflt rfl; exact e_int; apply v_itup; k_dflt rfl; apply cnT; apply x_s; apply x_name; kernel_rfl!; apply e_cmp; apply c_mp; kernel_rfl!; apply e_item; kernel_rfl!; apply e_item; kernel_rfl!; apply e_loc; kernel_rfl!; apply l_in; k_dflt rfl; exact e_int; apply v_itup; k_dflt rfl; exact e_int; assumption; exact e_str; apply cv_eq; assumption; apply x_name; kernel_rfl!; apply e_bin; apply e_attr; kernel_rfl!; apply e_loc; kernel_rfl!; apply l_ext; kernel_rfl!; assumption; apply v_attr; assumption; kernel_rfl!; apply l_c; k_dflt rfl; apply e_tup; kernel_rfl!; apply evs_s; kernel_rfl!; apply e_tup; kernel_rfl!; apply evs_s; kernel_rfl!; apply e_loc; kernel_rfl!; apply l_in; k_dflt rfl; apply evs_s; kernel_rfl!; apply e_loc; kernel_rfl!; apply l_in; k_dflt rfl; exact evs_0; exact evs_0; apply add_tt; k_dflt assumption; apply x_expr; kernel_rfl!; apply e_meth; kernel_rfl!; apply e_loc; kernel_rfl!; apply l_ext; kernel_rfl!; assumption; apply m_of; assumption; k_dflt rfl; apply evs_s; kernel_rfl!; apply e_cls; kernel_rfl!; k_dflt rfl; kernel_rfl!; k_dflt rfl; apply evs_s; kernel_rfl!; apply e_fn; kernel_rfl!; k_dflt rfl; kernel_rfl!; apply evs_s; kernel_rfl!; apply e_item; kernel_rfl!; apply e_loc; kernel_rfl!; apply l_in; k_dflt rfl; exact e_int; apply v_itup; k_dflt rfl; exact evs_0; exact withoutPointer_r; apply evs_s; kernel_rfl!; apply e_loc; kernel_rfl!; apply l_in; k_dflt rfl; apply evs_s; kernel_rfl!; apply e_attr; kernel_rfl!; apply e_loc; kernel_rfl!; apply l_ext; kernel_rfl!; assumption; apply v_attr; assumption; kernel_rfl!; apply l_c; k_dflt rfl; exact evs_0; exact makeReached3_r; exact evs_0; apply m_app; apply g_old; assumption; assumption; assumption; exact x_0; exact rfl
  constructor
  · exact l_ext rfl l1
  · exact l_ext rfl l2
theorem emb_skip {N k i : Nat} (hN : 40 ≤ N) {rows : List V} {loc : Loc} {σ : St} {a b : V} {rc fc : Nat} (hi : rows[i]? = some (.tup [a, b, .bool false]))
    (l1 : lookS (Str.ofString "reached") loc = some (.cell rc)) (l2 : lookS (Str.ofString "found") loc = some (.cell fc)) :
    ∃ (loc' : Loc), forE (recN G0 N) fi76.scope emb_t emb_b (k + 1) (.enum (.tup rows) i) loc σ = forE (recN G0 N) fi76.scope emb_t emb_b k (.enum (.tup rows) (i + 1)) loc' σ ∧
      lookS (Str.ofString "reached") loc' = some (.cell rc) ∧ lookS (Str.ofString "found") loc' = some (.cell fc) := by
  obtain ⟨n, rfl⟩ : ∃ n, N = n + 40 := ⟨N - 40, by omega⟩
  apply Exists.intro
  constructor
  · apply f_step
    with_reducible apply n_enu; k_dflt rfl; assumption; k_dflt show Rec.asg _ _ (.Tuple _ _ _) _ _ _ = _; apply a_tup; k_dflt rfl; kernel_rfl!; apply as_s; kernel_rfl!; apply a_name0; kernel_rfl!; apply as_s; kernel_rfl!; apply a_name; kernel_rfl!; exact as_0; apply x_s; k_dflt show exsStep _ _ _ (_ :: _) _ _ = _; apply x_1; apply s_if; apply t_item; apply e_item; kernel_rfl!; apply e_loc; kernel_rfl!; apply l_in; k_dflt rfl; exact e_int; apply v_itup; k_dflt rfl; apply cnF; apply x_s; exact x_0; exact rfl
  constructor
  · exact l_ext rfl l1
  · exact l_ext rfl l2
noncomputable def embI (steps : List V) (tw : Bool) (k : Nat) (p : Str × Bool) : Cell := reachedI (namedV p.1) (.tup (steps ++ [.tup [.int k, .bool p.2]])) tw
theorem emb_loop {N : Nat} (hN : 40 ≤ N) {rows : List V} {tw : Bool} {rc fc : Nat} {told : V} {steps : List V} (hne : rc ≠ fc) (hs : Nat.blt (steps.length + 1) 1000 = true) :
    ∀ (rest : Held) (i fuel : Nat), rest.length < fuel → (∀ j p, rest[j]? = some p → rows[i + j]? = some (rowV p)) → ∀ {loc : Loc} {σ : St} {acc : List V}, σ.get rc = some (reachedI told (.tup steps) tw) → rc < σ.next → σ.get fc = some (.list acc) → fc < σ.next → acc.length + rest.length < 900 →
      lookS (Str.ofString "reached") loc = some (.cell rc) → lookS (Str.ofString "found") loc = some (.cell fc) →
    ∃ (loc' : Loc) (σ' : St), forE (recN G0 N) fi76.scope emb_t emb_b fuel (.enum (.tup rows) i) loc σ = forE (recN G0 N) fi76.scope emb_t emb_b (fuel - rest.length) (.enum (.tup rows) (i + rest.length)) loc' σ' ∧ σ'.next = σ.next + rest.length ∧ (∀ j, j < σ.next → j ≠ fc → σ'.get j = σ.get j) ∧
      σ'.get fc = some (.list (acc ++ (List.range rest.length).map fun j => V.cell (σ.next + j))) ∧ (∀ j p, rest[j]? = some p → σ'.get (σ.next + j) = some (embI steps tw (i + j) p)) ∧ lookS (Str.ofString "reached") loc' = some (.cell rc) ∧ lookS (Str.ofString "found") loc' = some (.cell fc) := by
  intro rest
  induction rest with
  | nil =>
    intro i fuel _ _ loc σ acc h1 h2 h3 h4 _ l1 l2
    exact ⟨loc, σ, rfl, rfl, fun _ _ _ => rfl, by simpa using h3, fun j p q => by simp at q, l1, l2⟩
  | cons p rest ih =>
    obtain ⟨o, f⟩ := p
    intro i fuel hf hr loc σ acc h1 h2 h3 h4 hl l1 l2
    obtain ⟨k, rfl⟩ : ∃ k, fuel = k + 1 := ⟨fuel - 1, by omega⟩
    have hi : rows[i]? = some (rowV (o, f)) := hr 0 _ rfl
    obtain ⟨loc1, e1, m1, m2⟩ := emb_turn (k := k) hN hi h1 h2 h3 h4 hne (by rw [Nat.blt_eq]; simp at hl; omega) hs l1 l2
    have nx : ((σ.new (reachedI (namedV o) (.tup (steps ++ [.tup [.int i, .bool f]])) tw)).set fc (.list (acc ++ [.cell σ.next]))).next = σ.next + 1 := rfl
    obtain ⟨loc', σ', e2, n2, g2, a2, r2, k1, k2⟩ := ih (i + 1) k (by simp at hf; omega) (fun j p hj => by have := hr (j + 1) p hj; rw [← this]; congr 1; omega) (loc := loc1)
      (σ := (σ.new (reachedI (namedV o) (.tup (steps ++ [.tup [.int i, .bool f]])) tw)).set fc (.list (acc ++ [.cell σ.next]))) (acc := acc ++ [.cell σ.next])
      (by rw [St.get_set, if_neg hne, St.get_new, if_neg (Nat.ne_of_lt h2)]; exact h1) (by rw [nx]; omega) (by rw [St.get_set, if_pos rfl]) (by rw [nx]; omega) (by simp at hl ⊢; omega) m1 m2
    rw [nx] at n2 g2 a2 r2
    refine ⟨loc', σ', ?_, by rw [n2]; simp; omega, fun j hj hjf => ?_, ?_, fun j p hj => ?_, k1, k2⟩
    · rw [e1, e2]; congr 1
      · simp
      · congr 1; simp; omega
    · rw [g2 j (by omega) hjf, St.get_set, if_neg hjf, St.get_new, if_neg (Nat.ne_of_lt hj)]
    · rw [a2, List.append_assoc]
      congr 3
      simp [List.range_succ_eq_map, Nat.add_assoc, Nat.add_comm 1]
    · cases j with
      | zero =>
        obtain rfl : (o, f) = p := Option.some.inj hj
        rw [Nat.add_zero, g2 _ (by omega) (by omega), St.get_set, if_neg (by omega), St.get_new, if_pos rfl]
        rfl
      | succ j =>
        have := r2 j p hj
        rw [show σ.next + (j + 1) = σ.next + 1 + j by omega, this, show i + (j + 1) = i + 1 + j by omega]
theorem embedded_face {σ : St} {N : Nat} {wc rc : Nat} {told steps : V} {tw : Bool} (hN : 60 ≤ N) {wl : List (Str × V)} (hw : σ.get wc = some (.inst 460 wl)) (hwl : lookS (Str.ofString "base_of") wl = none) (hr : σ.get rc = some (reachedI told steps tw)) (hb : (recN G0 (N - 4)).call 450 [.cell wc, told] σ = some (.tup [.str (Str.ofString "interface"), .tup [.tup [.str (Str.ofString "go"), plainV], .tup [.str (Str.ofString "up"), plainV]]], σ)) :
    (recN G0 N).call 76 [.cell wc, .cell rc] σ = some (.cell σ.next, σ.new (.list [])) := by
  obtain ⟨n, rfl⟩ : ∃ n, N = n + 60 := ⟨N - 60, by omega⟩
  rw [show n + 60 - 4 = n + 56 by omega] at hb
  have q : eqTop (σ.new (.list [])) (.str (Str.ofString "interface")) (.str (Str.ofString "struct")) = some false := q_str rfl rfl
  apply c_to (fi := fi76) (loc := [(Str.ofString "world", _), (Str.ofString "reached", _)]) rfl rfl
  with_reducible apply x_s; k_dflt show exsStep _ _ _ (_ :: _) _ _ = _; apply x_asgB; kernel_rfl!; apply e_tup; kernel_rfl!; apply evs_s; kernel_rfl!; apply e_meth; kernel_rfl!; apply e_loc; kernel_rfl!; apply l_c; k_dflt rfl; apply m_of; assumption; apply mc_i; assumption; exact m_base_of; apply evs_s; kernel_rfl!; apply e_attr; kernel_rfl!; apply e_loc; kernel_rfl!; apply l_c; k_dflt rfl; apply v_attr; k_dflt assumption; kernel_rfl!; apply l_c; k_dflt rfl; exact evs_0; apply m_fn; assumption; apply evs_s; kernel_rfl!; apply e_cell; kernel_rfl!; exact evs_0; exact evs_0; apply aN_tup; k_dflt rfl; kernel_rfl!; apply al_s; kernel_rfl!; apply aN_name0; kernel_rfl!; apply al_s; kernel_rfl!; apply aN_name; kernel_rfl!; exact al_0; apply x_p; apply s_if; apply t_cmp; apply c_mp; kernel_rfl!; apply e_item; kernel_rfl!; apply e_loc; kernel_rfl!; apply l_in; k_dflt rfl; exact e_int; apply v_itup; k_dflt rfl; exact e_str; apply cv_eq; assumption; apply cnF; apply x_s; exact x_0; k_dflt apply fl_n; apply x_ret; apply e_loc; kernel_rfl!; apply l_in; k_dflt rfl; exact rfl
theorem emb_end {N k : Nat} {rows : List V} {loc : Loc} {σ : St} : forE (recN G0 N) fi76.scope emb_t emb_b (k + 1) (.enum (.tup rows) rows.length) loc σ = some (.next, loc, σ) := f_end (n_enuE rfl (by simp))
theorem embedded_struct {σ : St} {N wc rc : Nat} {told : V} {steps : List V} {tw : Bool} {nm : Str} {held : Held} (hN : 60 ≤ N) {wl : List (Str × V)} (hw : σ.get wc = some (.inst 460 wl)) (hwl : lookS (Str.ofString "base_of") wl = none) (hr : σ.get rc = some (reachedI told (.tup steps) tw)) (hrn : rc < σ.next)
    (hs : steps.length < 900) (hh : held.length < 100) (hb : (recN G0 (N - 4)).call 450 [.cell wc, told] σ = some (.tup [.str (Str.ofString "struct"), .tup (rowsV nm held)], σ)) :
    ∃ σ' : St, (recN G0 N).call 76 [.cell wc, .cell rc] σ = some (.cell σ.next, σ') ∧ σ'.next = σ.next + 1 + held.length ∧ (∀ j, j < σ.next → σ'.get j = σ.get j) ∧
      σ'.get σ.next = some (.list ((List.range held.length).map fun j => V.cell (σ.next + 1 + j))) ∧ (∀ j p, held[j]? = some p → σ'.get (σ.next + 1 + j) = some (embI steps tw j p)) := by
  obtain ⟨n, rfl⟩ : ∃ n, N = n + 60 := ⟨N - 60, by omega⟩
  rw [show n + 60 - 4 = n + 56 by omega] at hb
  have loop : ∀ (loc : Loc), lookS (Str.ofString "reached") loc = some (.cell rc) → lookS (Str.ofString "found") loc = some (.cell σ.next) →
      ∃ (loc' : Loc) (σ' : St), forE (recN G0 (n + 57)) fi76.scope emb_t emb_b 200 (.enum (.tup (rowsV nm held)) 0) loc (σ.new (.list [])) = some (.next, loc', σ') ∧ lookS (Str.ofString "found") loc' = some (.cell σ.next) ∧ σ'.next = σ.next + 1 + held.length ∧ (∀ j, j < σ.next → σ'.get j = σ.get j) ∧
        σ'.get σ.next = some (.list ((List.range held.length).map fun j => V.cell (σ.next + 1 + j))) ∧ (∀ j p, held[j]? = some p → σ'.get (σ.next + 1 + j) = some (embI steps tw j p)) := by
    intro loc l1 l2
    obtain ⟨loc1, σ1, f1, n1, g1, a1, r1, k1, k2⟩ := emb_loop (N := n + 57) (by omega) (rows := rowsV nm held) (tw := tw) (rc := rc) (fc := σ.next) (told := told) (steps := steps) (by omega) (by rw [Nat.blt_eq]; omega) held 0 200 (by omega)
      (fun j p hj => by
        unfold rowsV
        rw [List.append_assoc, Nat.zero_add, List.getElem?_append_left (by rw [List.length_map]; exact (List.getElem?_eq_some_iff.mp hj).1), List.getElem?_map, hj]
        rfl) (loc := loc) (σ := σ.new (.list [])) (acc := []) (by rw [St.get_new, if_neg (by omega)]; exact hr) (by rw [St.next_new]; omega) (by rw [St.get_new, if_pos rfl]) (by rw [St.next_new]; omega) (by simp; omega) l1 l2
    rw [St.next_new] at n1 g1 a1 r1
    rw [Nat.zero_add] at f1
    have fin : ∀ (loc' : Loc), forE (recN G0 (n + 57)) fi76.scope emb_t emb_b 200 (.enum (.tup (rowsV nm held)) 0) loc (σ.new (.list [])) = some (.next, loc', σ1) → lookS (Str.ofString "found") loc' = some (.cell σ.next) → ∃ (loc' : Loc) (σ' : St), forE (recN G0 (n + 57)) fi76.scope emb_t emb_b 200 (.enum (.tup (rowsV nm held)) 0) loc (σ.new (.list [])) = some (.next, loc', σ') ∧ lookS (Str.ofString "found") loc' = some (.cell σ.next) ∧ σ'.next = σ.next + 1 + held.length ∧ (∀ j, j < σ.next → σ'.get j = σ.get j) ∧
        σ'.get σ.next = some (.list ((List.range held.length).map fun j => V.cell (σ.next + 1 + j))) ∧ (∀ j p, held[j]? = some p → σ'.get (σ.next + 1 + j) = some (embI steps tw j p)) := fun loc' hf hl =>
      ⟨loc', σ1, hf, hl, n1, fun j hj => by rw [g1 j (by omega) (by omega), St.get_new, if_neg (by omega)], by simpa using a1, fun j p hj => by have := r1 j p hj; rwa [Nat.zero_add] at this⟩
    have ml : (held.map rowV).length = held.length := by simp
    cases hD : sEq nm nD with
    | false =>
      have hx : (rowsV nm held)[held.length]? = some (.tup [.str (Str.ofString "x"), .tup [.str (Str.ofString "string")], .bool false]) := by
        unfold rowsV; rw [hD]; simp [xRow]
      have hlen : (rowsV nm held).length = held.length + 1 := by unfold rowsV; rw [hD]; simp
      obtain ⟨loc2, f2, j1, j2⟩ := emb_skip (N := n + 57) (k := 199 - held.length) (by omega) (σ := σ1) hx k1 k2
      refine fin loc2 ?_ j2
      rw [f1, show 200 - held.length = 199 - held.length + 1 by omega, f2, ← hlen, show 199 - held.length = 198 - held.length + 1 by omega]
      exact emb_end
    | true =>
      have hm : (rowsV nm held)[held.length]? = some (.tup [.str (Str.ofString "m"), .tup [.str (Str.ofString "bool")], .bool false]) := by
        unfold rowsV; rw [hD]; simp [mRow]
      have hx : (rowsV nm held)[held.length + 1]? = some (.tup [.str (Str.ofString "x"), .tup [.str (Str.ofString "string")], .bool false]) := by
        unfold rowsV; rw [hD]; simp [xRow]
      have hlen : (rowsV nm held).length = held.length + 2 := by unfold rowsV; rw [hD]; simp
      obtain ⟨loc2, f2, j1, j2⟩ := emb_skip (N := n + 57) (k := 199 - held.length) (by omega) (σ := σ1) hm k1 k2
      obtain ⟨loc3, f3, i1, i2⟩ := emb_skip (N := n + 57) (k := 198 - held.length) (by omega) (σ := σ1) hx j1 j2
      refine fin loc3 ?_ i2
      rw [f1, show 200 - held.length = 199 - held.length + 1 by omega, f2, show 199 - held.length = 198 - held.length + 1 by omega, f3, show held.length + 1 + 1 = (rowsV nm held).length by omega, show 198 - held.length = 197 - held.length + 1 by omega]
      exact emb_end
  refine ea_2_6 (loop (ext [(Str.ofString "found", .cell σ.next), (Str.ofString "base", .tup [.str (Str.ofString "struct"), .tup (rowsV nm held)])] [(Str.ofString "world", .cell wc), (Str.ofString "reached", .cell rc)]) rfl rfl) (fun loc' σ' hl lf n1 g1 a1 r1 => ?_)
  refine ⟨σ', ?_, n1, g1, a1, r1⟩
  have q : eqTop (σ.new (.list [])) (.str (Str.ofString "struct")) (.str (Str.ofString "struct")) = some true := q_str rfl rfl
  apply c_to (fi := fi76) (loc := [(Str.ofString "world", _), (Str.ofString "reached", _)]) rfl rfl
  with_reducible apply x_s; k_dflt show exsStep _ _ _ (_ :: _) _ _ = _; apply x_asgB; kernel_rfl!; apply e_tup; kernel_rfl!; apply evs_s; kernel_rfl!; apply e_meth; kernel_rfl!; apply e_loc; kernel_rfl!; apply l_c; k_dflt rfl; apply m_of; assumption; apply mc_i; assumption; exact m_base_of; apply evs_s; kernel_rfl!; apply e_attr; kernel_rfl!; apply e_loc; kernel_rfl!; apply l_c; k_dflt rfl; apply v_attr; k_dflt assumption; kernel_rfl!; apply l_c; k_dflt rfl; exact evs_0; apply m_fn; assumption; apply evs_s; kernel_rfl!; apply e_cell; kernel_rfl!; exact evs_0; exact evs_0; apply aN_tup; k_dflt rfl; kernel_rfl!; apply al_s; kernel_rfl!; apply aN_name0; kernel_rfl!; apply al_s; kernel_rfl!; apply aN_name; kernel_rfl!; exact al_0; apply x_p; apply s_if; apply t_cmp; apply c_mp; kernel_rfl!; apply e_item; kernel_rfl!; apply e_loc; kernel_rfl!; apply l_in; k_dflt rfl; exact e_int; apply v_itup; k_dflt rfl; exact e_str; apply cv_eq; assumption; apply cnT; apply x_s; apply x_1; k_dflt assumption; k_dflt apply fl_n; apply x_ret; apply e_loc; kernel_rfl!; assumption; exact rfl
noncomputable def sW0 : St := match callC (recN G0 138) 460 443 [] ⟨0, []⟩ with
  | some r => r.2
  | none => ⟨0, []⟩
theorem world0 : callC (recN G0 138) 460 443 [] ⟨0, []⟩ = some (.cell 0, sW0) := by kernel_rfl
noncomputable def rows13 : List V := match (recN G0 138).call 504 [.cell 0] sW0 with
  | some (.lst l, _) => l
  | _ => []
noncomputable def sS0 : St := match (recN G0 138).call 504 [.cell 0] sW0 with
  | some r => r.2
  | none => ⟨0, []⟩
theorem started0 : (recN G0 138).call 504 [.cell 0] sW0 = some (.lst rows13, sS0) := by kernel_rfl
theorem next0 : sS0.next = 31 := by kernel_rfl
noncomputable def row13 (i : Nat) : V := (rows13[i]?).getD .none
noncomputable def sR (a b : Int) : St := sS0.new (.list [.int a, .int b])
theorem rows_len : rows13.length = 13 := by kernel_rfl
theorem reelAt {a b : Int} (l : 0 ≤ b) (h : b < 2147483647) : Reel (sR a b) 31 a b := ⟨by kernel_rfl, l, h⟩
theorem sR_set (a b a' b' : Int) : (sR a b).set 31 (.list [.int a', .int b']) = sR a' b' := by kernel_rfl
theorem exs_next {N : Nat} {sc : Scope} {s : Stmt} {rest : List Stmt} {loc loc' : Loc} {σ σ' : St} (h : exS G0 (recN G0 N) sc s loc σ = some (.next, loc', σ')) : (recN G0 (N + 1)).exs sc (s :: rest) loc σ = (recN G0 (N + 1)).exs sc rest loc' σ' :=
  (i3 h rfl : exsStep G0 (recN G0 N) sc (s :: rest) loc σ = exsStep G0 (recN G0 N) sc rest loc' σ')
theorem s_name0 {n : Nat} {sc : Scope} {x : Str} {q p : Pos} {e : Expr} {loc : Loc} {σ σ1 : St} {v : V} (h : (lcN sc x && swapOk sc (.Name x q) e) = true) (h1 : (recN G0 (n + 1)).ev sc e loc σ = some (v, σ1)) : exS G0 (recN G0 (n + 1)) sc (.Assign [.Name x q] e p) loc σ = some (.next, ext [(x, v)] loc, σ1) :=
  bA h fun h h' => (iT h' (i2 h1 (i2 (iF rfl (a_name0 h)) rfl)) : cond (swapOk sc (.Name x q) e) (bnd2 ((recN G0 (n + 1)).ev sc e loc σ) fun v σ => bnd2 (asgS (recN G0 (n + 1)) sc (.Name x q) e v loc σ) fun loc σ => some (Fl.next, loc, σ)) none = some (Fl.next, ext [(x, v)] loc, σ1))
noncomputable def rest499 : List Stmt := fi499.body.drop 3
noncomputable def st499 (i : Nat) : Stmt := (fi499.body[i]?).getD (.Pass p0)
noncomputable def locNm (x y : Str) : Loc := [(Str.ofString "reel", .cell 31), (Str.ofString "name", .str x), (Str.ofString "package", .str y)]
noncomputable def outP (x y : Str) (a b : Int) : Option (Fl × Loc × St) := exS G0 (recN G0 133) fi499.scope (st499 2) (locNm x y) (sR a b)
noncomputable def sP (a b : Int) : St := match outP ⟨#[]⟩ ⟨#[]⟩ a b with
  | some r => r.2.2
  | none => ⟨0, []⟩
noncomputable def wP (a b : Int) : V := match outP ⟨#[]⟩ ⟨#[]⟩ a b with
  | some r => (lookS (Str.ofString "world") r.2.1).getD .none
  | none => .none
theorem packs (x y : Str) (a b : Int) : outP x y a b = some (.next, [(Str.ofString "reel", .cell 31), (Str.ofString "name", .str x), (Str.ofString "package", .str y), (Str.ofString "world", wP a b)], sP a b) := by kernel_rfl
noncomputable def outN (x y : Str) (a b : Int) : Option (Fl × St) := bnd3 ((recN G0 134).exs fi499.scope rest499 [(Str.ofString "reel", .cell 31), (Str.ofString "name", .str x), (Str.ofString "package", .str y), (Str.ofString "world", wP a b)] (sP a b)) fun f _ σ => some (f, σ)
noncomputable def sN (a b : Int) : St := match outN (Str.ofString "Up") (Str.ofString "main") a b with
  | some r => r.2
  | none => ⟨0, []⟩
theorem sN_next (a b : Int) : (sN a b).next = 97 := by kernel_rfl
theorem outN_1 (a b : Int) : outN (Str.ofString "Up") (Str.ofString "main") a b = some (.ret (.bool true), sN a b) := by kernel_rfl
noncomputable def five : List Str := [Str.ofString "Up", Str.ofString "low", Str.ofString "_x", Str.ofString "Z9", Str.ofString "z"]
noncomputable def six : List Str := [Str.ofString "main", Str.ofString "lib", Str.ofString "a/b", Str.ofString "sync", Str.ofString "b", Str.ofString "lib"]
noncomputable def allOut (a b : Int) : List (List (Option (Fl × St))) := five.map fun x => six.map fun y => outN x y a b
theorem outN_all (a b : Int) : allOut a b = five.map fun _ => six.map fun _ => some (.ret (.bool true), sN a b) := by kernel_rfl
theorem outN_at (a b : Int) {i j : Nat} {x y : Str} (hi : five[i]? = some x) (hj : six[j]? = some y) : outN x y a b = some (.ret (.bool true), sN a b) := by
  have h : (allOut a b)[i]? = (five.map fun _ => six.map fun _ => some (Fl.ret (.bool true), sN a b))[i]? := by rw [outN_all]
  unfold allOut at h
  rw [List.getElem?_map, List.getElem?_map, hi] at h
  have h := congrArg (fun l => l[j]?) (Option.some.inj h)
  simp only [List.getElem?_map, hj] at h
  exact Option.some.inj h
theorem draw1 (a b : Int) (R : Reel (sR a b) 31 a b) : ∃ (i : Nat) (x : Str) (a' b' : Int), five[i]? = some x ∧ 0 ≤ b' ∧ b' < 2147483647 ∧
    exS G0 (recN G0 133) fi499.scope (st499 0) [(Str.ofString "reel", .cell 31)] (sR a b) = some (.next, [(Str.ofString "reel", .cell 31), (Str.ofString "name", .str x)], sR a' b') := by
  obtain ⟨i, v, a', b', hi, q0, q1, h⟩ := one (N := 132) (l := five.map .str) (s := .lst (five.map .str)) (by omega) R (.inl rfl) (by simp [five]) (by simp [five])
  rw [List.getElem?_map] at hi
  obtain ⟨x, hx, rfl⟩ := Option.map_eq_some_iff.mp hi
  rw [sR_set] at h
  refine ⟨i, x, a', b', hx, q0, q1, ?_⟩
  simp only [five, List.map] at h
  show exS _ _ _ (.Assign [.Name _ _] _ _) _ _ = some (.next, ext [(Str.ofString "name", .str x)] [(Str.ofString "reel", .cell 31)], _)
  apply s_name0
  · kernel_rfl!
  with_reducible apply e_fn; kernel_rfl!; k_dflt rfl; kernel_rfl!; apply evs_s; kernel_rfl!; apply e_loc; kernel_rfl!; apply l_c; k_dflt rfl; apply evs_s; kernel_rfl!; apply e_lst; kernel_rfl!; apply evs_s; kernel_rfl!; exact e_str; apply evs_s; kernel_rfl!; exact e_str; apply evs_s; kernel_rfl!; exact e_str; apply evs_s; kernel_rfl!; exact e_str; apply evs_s; kernel_rfl!; exact e_str; exact evs_0; exact evs_0; assumption
theorem draw2 (a b : Int) (x : Str) (R : Reel (sR a b) 31 a b) : ∃ (i : Nat) (y : Str) (a' b' : Int), six[i]? = some y ∧ 0 ≤ b' ∧ b' < 2147483647 ∧
    exS G0 (recN G0 133) fi499.scope (st499 1) [(Str.ofString "reel", .cell 31), (Str.ofString "name", .str x)] (sR a b) = some (.next, locNm x y, sR a' b') := by
  obtain ⟨i, v, a', b', hi, q0, q1, h⟩ := one (N := 132) (l := six.map .str) (s := .lst (six.map .str)) (by omega) R (.inl rfl) (by simp [six]) (by simp [six])
  rw [List.getElem?_map] at hi
  obtain ⟨y, hy, rfl⟩ := Option.map_eq_some_iff.mp hi
  rw [sR_set] at h
  refine ⟨i, y, a', b', hy, q0, q1, ?_⟩
  simp only [six, List.map] at h
  show exS _ _ _ (.Assign [.Name _ _] _ _) _ _ = some (.next, ext [(Str.ofString "package", .str y)] [(Str.ofString "reel", .cell 31), (Str.ofString "name", .str x)], _)
  apply s_name0
  · kernel_rfl!
  with_reducible apply e_fn; kernel_rfl!; k_dflt rfl; kernel_rfl!; apply evs_s; kernel_rfl!; apply e_loc; kernel_rfl!; apply l_c; k_dflt rfl; apply evs_s; kernel_rfl!; apply e_lst; kernel_rfl!; apply evs_s; kernel_rfl!; exact e_str; apply evs_s; kernel_rfl!; exact e_str; apply evs_s; kernel_rfl!; exact e_str; apply evs_s; kernel_rfl!; exact e_str; apply evs_s; kernel_rfl!; exact e_str; apply evs_s; kernel_rfl!; exact e_str; exact evs_0; exact evs_0; assumption
theorem namesRight (a b : Int) (R : Reel (sR a b) 31 a b) : ∃ a' b' : Int, 0 ≤ b' ∧ b' < 2147483647 ∧ (recN G0 135).call 499 [.cell 31] (sR a b) = some (.bool true, sN a' b') := by
  refine ea_4_4 (draw1 a b R) (fun i x a1 b1 hi p0' p1' h1 => ?_)
  refine ea_4_4 (draw2 a1 b1 x (reelAt p0' p1')) (fun j y a2 b2 hj q0 q1 h2 => ?_)
  refine ⟨a2, b2, q0, q1, ?_⟩
  have h3 : exS G0 (recN G0 133) fi499.scope (st499 2) (locNm x y) (sR a2 b2) = _ := packs x y a2 b2
  have h4 := outN_at a2 b2 hi hj
  have hb : fi499.body = st499 0 :: st499 1 :: st499 2 :: rest499 := rfl
  have e : (recN G0 134).exs fi499.scope fi499.body [(Str.ofString "reel", .cell 31)] (sR a b) = (recN G0 134).exs fi499.scope rest499 [(Str.ofString "reel", .cell 31), (Str.ofString "name", .str x), (Str.ofString "package", .str y), (Str.ofString "world", wP a2 b2)] (sP a2 b2) := by
    rw [hb, exs_next h1, exs_next h2, exs_next h3]
  refine b3 h4 fun f loc σ hr h => ?_
  have e2 := e.trans hr
  have h := Prod.mk.inj (Option.some.inj h)
  rw [h.1, h.2] at e2
  exact c_ret (fi := fi499) (loc := [(Str.ofString "reel", .cell 31)]) rfl rfl e2
theorem right_all (a b : Int) : rows13.map (fun v => (recN G0 135).call 511 [.cell 0, v] (sN a b)) = rows13.map fun _ => some (.bool true, sN a b) := by kernel_rfl
theorem right_at (a b : Int) {i : Nat} {v : V} (h : rows13[i]? = some v) : (recN G0 135).call 511 [.cell 0, v] (sN a b) = some (.bool true, sN a b) := by
  have e := congrArg (fun l => l[i]?) (right_all a b)
  simp only [List.getElem?_map, h] at e
  exact Option.some.inj e
theorem right0 : (recN G0 136).call 511 [.cell 0, row13 0] sS0 = some (.bool true, sS0) := by kernel_rfl
theorem row0 : rows13[0]? = some (row13 0) := by kernel_rfl
theorem sN_reel {a b : Int} (l : 0 ≤ b) (h : b < 2147483647) : Reel (sN a b) 31 a b := ⟨by kernel_rfl, l, h⟩
theorem sN_set (a b a' b' : Int) : (sN a b).set 31 (.list [.int a', .int b']) = sN a' b' := by kernel_rfl
noncomputable def wlN : List (Str × V) := match sS0.get 0 with
  | some (.inst _ l) => l
  | _ => []
noncomputable def nsN : List (V × V) := match sS0.get 9 with
  | some (.dict l) => l
  | _ => []
theorem sN_world (a b : Int) : (sN a b).get 0 = some (.inst 460 wlN) := by kernel_rfl
theorem sN_named (a b : Int) : (sN a b).get 9 = some (.dict nsN) := by kernel_rfl
theorem wlN_named : lookS (Str.ofString "named") wlN = some (.cell 9) := by kernel_rfl
theorem wlN_base : lookS (Str.ofString "base_of") wlN = none := by kernel_rfl
theorem nsN_keys : keysAll isStrV nsN = true := by kernel_rfl
theorem nsN_len : nsN.length = 9 := by kernel_rfl
theorem nsN_none : (names5.all fun x => (dictFindV (.str x) nsN).isNone) = true := by kernel_rfl
noncomputable abbrev Steps := List (Nat × Bool)
noncomputable def stepV (p : Nat × Bool) : V := .tup [.int p.1, .bool p.2]
noncomputable def stepsV (s : Steps) : V := .tup (s.map stepV)
noncomputable def wayV (w : Str × Steps) : V := .tup [.str w.1, stepsV w.2]
noncomputable def ways_F : Stmt := fi544.body.getD 1 (.Pass p0)
noncomputable def ways_t : Expr := forT ways_F
noncomputable def ways_b : List Stmt := forB ways_F
theorem ways_turn {N k i bk : Nat} (hN : 30 ≤ N) {hv : V} {l acc sub : List V} {o : Str} {f : Bool} {s : Steps} {loc : Loc} {σ : St} (hs : seqOf σ hv = some l) (hi : l[i]? = some (.tup [.str o, .bool f]))
    (l1 : lookS (Str.ofString "book") loc = some (.cell bk)) (l2 : lookS (Str.ofString "steps") loc = some (stepsV s)) (l3 : lookS (Str.ofString "found") loc = some (.lst acc))
    (hc : (recN G0 (N - 3)).call 544 [.cell bk, .str o, stepsV (s ++ [(i, f)])] σ = some (.lst sub, σ)) (b1 : Nat.blt (s.length + 1) 1000 = true) (b2 : Nat.blt (acc.length + sub.length) 1000 = true) :
    ∃ loc', forE (recN G0 N) fi544.scope ways_t ways_b (k + 1) (.enum hv i) loc σ = forE (recN G0 N) fi544.scope ways_t ways_b k (.enum hv (i + 1)) loc' σ ∧
      lookS (Str.ofString "book") loc' = some (.cell bk) ∧ lookS (Str.ofString "steps") loc' = some (stepsV s) ∧ lookS (Str.ofString "found") loc' = some (.lst (acc ++ sub)) := by
  obtain ⟨n, rfl⟩ : ∃ n, N = n + 30 := ⟨N - 30, by omega⟩
  rw [show n + 30 - 3 = n + 27 by omega] at hc
  have hc : (recN G0 (n + 27)).call 544 [.cell bk, .str o, .tup (s.map stepV ++ [.tup [.int i, .bool f]])] σ = some (.lst sub, σ) := by
    have e : stepsV (s ++ [(i, f)]) = .tup (s.map stepV ++ [.tup [.int i, .bool f]]) := congrArg V.tup (List.map_append ..)
    rw [← e]; exact hc
  have l2' : lookS (Str.ofString "steps") loc = some (.tup (s.map stepV)) := l2
  have b3 : Nat.blt ((s.map stepV).length + 1) 1000 = true := by rw [List.length_map]; exact b1
  apply Exists.intro
  constructor
  · apply f_step
    with_reducible apply n_enu; assumption; assumption; k_dflt show Rec.asg _ _ (.Tuple _ _ _) _ _ _ = _; apply a_tup; k_dflt rfl; kernel_rfl!; apply as_s; kernel_rfl!; apply a_name0; kernel_rfl!; apply as_s; kernel_rfl!; apply a_tup; k_dflt rfl; kernel_rfl!; apply as_s; kernel_rfl!; apply a_name; kernel_rfl!; apply as_s; kernel_rfl!; apply a_name; kernel_rfl!; exact as_0; exact as_0; apply x_s; k_dflt show exsStep _ _ _ (_ :: _) _ _ = _; apply x_name; kernel_rfl!; apply e_bin; apply e_loc; kernel_rfl!; apply l_ext; kernel_rfl!; assumption; apply e_fn; kernel_rfl!; k_dflt rfl; kernel_rfl!; apply evs_s; kernel_rfl!; apply e_loc; kernel_rfl!; apply l_ext; kernel_rfl!; assumption; apply evs_s; kernel_rfl!; apply e_loc; kernel_rfl!; apply l_in; k_dflt rfl; apply evs_s; kernel_rfl!; apply e_bin; apply e_loc; kernel_rfl!; apply l_ext; kernel_rfl!; assumption; apply e_tup; kernel_rfl!; apply evs_s; kernel_rfl!; apply e_tup; kernel_rfl!; apply evs_s; kernel_rfl!; apply e_loc; kernel_rfl!; apply l_in; k_dflt rfl; apply evs_s; kernel_rfl!; apply e_loc; kernel_rfl!; apply l_in; k_dflt rfl; exact evs_0; exact evs_0; apply add_tt; k_dflt assumption; exact evs_0; assumption; apply add_ll; assumption; exact x_0; exact rfl
  constructor
  · exact l_ext rfl l1
  constructor
  · exact l_ext rfl l2
  · exact l_in rfl
theorem ways_loop {N bk : Nat} (hN : 30 ≤ N) {hv : V} {all : Held} {s : Steps} {σ : St} {sub : Str → Steps → List (Str × Steps)} (hs : seqOf σ hv = some (heldV all)) (b1 : s.length < 900)
    (hc : ∀ i p, all[i]? = some p → (recN G0 (N - 3)).call 544 [.cell bk, .str p.1, stepsV (s ++ [(i, p.2)])] σ = some (.lst ((sub p.1 (s ++ [(i, p.2)])).map wayV), σ)) :
    ∀ (rest : Held) (i fuel : Nat), all.drop i = rest → rest.length < fuel → ∀ {loc : Loc} {acc : List (Str × Steps)}, (acc ++ (rest.zipIdx i).flatMap fun q => sub q.1.1 (s ++ [(q.2, q.1.2)])).length < 1000 →
      lookS (Str.ofString "book") loc = some (.cell bk) → lookS (Str.ofString "steps") loc = some (stepsV s) → lookS (Str.ofString "found") loc = some (.lst (acc.map wayV)) →
    ∃ loc', forE (recN G0 N) fi544.scope ways_t ways_b fuel (.enum hv i) loc σ = some (.next, loc', σ) ∧ lookS (Str.ofString "found") loc' = some (.lst ((acc ++ (rest.zipIdx i).flatMap fun q => sub q.1.1 (s ++ [(q.2, q.1.2)])).map wayV)) := by
  intro rest
  induction rest with
  | nil =>
    intro i fuel hd hf loc acc _ l1 l2 l3
    obtain ⟨k, rfl⟩ : ∃ k, fuel = k + 1 := ⟨fuel - 1, by omega⟩
    refine ⟨loc, ?_, by simpa using l3⟩
    have hl := List.drop_eq_nil_iff.mp hd
    have : (heldV all)[i]? = none := by simp [heldV, hl]
    exact f_end (n_enuE hs this)
  | cons p rest ih =>
    intro i fuel hd hf loc acc hlen l1 l2 l3
    obtain ⟨k, rfl⟩ : ∃ k, fuel = k + 1 := ⟨fuel - 1, by omega⟩
    have hp : all[i]? = some p := by
      have := congrArg (fun l => l[0]?) hd
      simpa using this
    have hr : all.drop (i + 1) = rest := by
      have := congrArg List.tail hd
      simpa using this
    have hi : (heldV all)[i]? = some (.tup [.str p.1, .bool p.2]) := by simp [heldV, hp]
    simp only [List.zipIdx_cons, List.flatMap_cons] at hlen ⊢
    rw [← List.append_assoc] at hlen ⊢
    have hl2 : (acc ++ sub p.1 (s ++ [(i, p.2)])).length < 1000 := by rw [List.length_append] at hlen; omega
    obtain ⟨loc1, e1, m1, m2, m3⟩ := ways_turn (k := k) hN hs hi l1 l2 l3 (hc i p hp) (by rw [Nat.blt_eq]; omega) (by rw [Nat.blt_eq]; simpa using hl2)
    rw [← List.map_append] at m3
    refine ea_1_2 (ih (i + 1) k hr (by simp at hf; omega) hlen m1 m2 m3) (fun loc' e2 h2 => ?_)
    exact ⟨loc', e1.trans e2, h2⟩
noncomputable def waysN (hf : Str → Held) : Nat → Str → Steps → List (Str × Steps)
  | 0, n, s => [(n, s)]
  | d + 1, n, s => (n, s) :: ((hf n).zipIdx 0).flatMap fun q => waysN hf d q.1.1 (s ++ [(q.2, q.1.2)])
noncomputable def Dep (hf : Str → Held) : Nat → Str → Prop
  | 0, n => hf n = []
  | d + 1, n => ∀ p ∈ hf n, Dep hf d p.1
noncomputable def wb : Nat → Nat
  | 0 => 1
  | d + 1 => 1 + 4 * wb d
theorem waysN_length {hf : Str → Held} (h4 : ∀ n, (hf n).length ≤ 4) : ∀ (d : Nat) (n : Str) (s : Steps), (waysN hf d n s).length ≤ wb d
  | 0, _, _ => Nat.le_refl _
  | d + 1, n, s => by
    have : ∀ (l : List ((Str × Bool) × Nat)), (l.flatMap fun q => waysN hf d q.1.1 (s ++ [(q.2, q.1.2)])).length ≤ l.length * wb d := by
      intro l
      induction l with
      | nil => simp
      | cons q l ih =>
        rw [List.flatMap_cons, List.length_append, List.length_cons, Nat.succ_mul]
        have := waysN_length h4 d q.1.1 (s ++ [(q.2, q.1.2)])
        omega
    have h := this ((hf n).zipIdx 0)
    rw [List.length_zipIdx] at h
    have := Nat.mul_le_mul_right (wb d) (h4 n)
    simp only [waysN, List.length_cons, wb]
    omega
theorem wb_mono : ∀ {d e : Nat}, d ≤ e → wb d ≤ wb e
  | 0, 0, _ => Nat.le_refl _
  | 0, e + 1, _ => by simp only [wb]; omega
  | d + 1, 0, h => by omega
  | d + 1, e + 1, h => by have := wb_mono (Nat.le_of_succ_le_succ h); simp only [wb]; omega
theorem ways_call {N bk : Nat} {held : Held} {n : Str} {s : Steps} {σ : St} {res : List (Str × Steps)} (hN : 40 ≤ N) (H : Holds σ bk n held)
    (hl : ∀ hv, seqOf σ hv = some (heldV held) → ∃ loc', forE (recN G0 (N - 2)) fi544.scope ways_t ways_b 200 (.enum hv 0) (ext [(Str.ofString "found", .lst ([(n, s)].map wayV))] [(Str.ofString "book", .cell bk), (Str.ofString "name", .str n), (Str.ofString "steps", stepsV s)]) σ = some (.next, loc', σ) ∧ lookS (Str.ofString "found") loc' = some (.lst (res.map wayV))) :
    (recN G0 N).call 544 [.cell bk, .str n, stepsV s] σ = some (.lst (res.map wayV), σ) := by
  obtain ⟨k, rfl⟩ : ∃ k, N = k + 40 := ⟨N - 40, by omega⟩
  rw [show k + 40 - 2 = k + 38 by omega] at hl
  obtain ⟨⟨es, hv, e1, e2, e3, e4⟩, _, _, _⟩ := H
  refine e4.elim (fun e4 => ?_) fun e4 => ?_
  · refine ea_1_2 (hl hv (by rw [e4.1, e4.2]; rfl)) (fun loc' f1 f2 => ?_)
    rw [e4.1] at f1 e3
    apply c_to (fi := fi544) (loc := [(Str.ofString "book", _), (Str.ofString "name", _), (Str.ofString "steps", _)]) rfl rfl
    with_reducible apply x_s; k_dflt show exsStep _ _ _ (_ :: _) _ _ = _; apply x_name0; kernel_rfl!; apply e_lst; kernel_rfl!; apply evs_s; kernel_rfl!; apply e_tup; kernel_rfl!; apply evs_s; kernel_rfl!; apply e_loc; kernel_rfl!; apply l_c; k_dflt rfl; apply evs_s; kernel_rfl!; apply e_loc; kernel_rfl!; apply l_c; k_dflt rfl; exact evs_0; exact evs_0; apply x_p; apply s_for; apply si_e; k_dflt rfl; kernel_rfl!; apply e_item; kernel_rfl!; apply e_loc; kernel_rfl!; apply l_ext; kernel_rfl!; apply l_c; k_dflt rfl; apply e_loc; kernel_rfl!; apply l_ext; kernel_rfl!; apply l_c; k_dflt rfl; apply v_itd; assumption; assumption; assumption; kernel_rfl!; k_dflt assumption; k_dflt apply fl_n; apply x_ret; apply e_loc; kernel_rfl!; assumption; exact rfl
  · refine ea_1_3 (e4) (fun h q hh hq => ?_)
    rw [q] at e3
    refine ea_1_2 (hl (.cell h) (v_sq hq)) (fun loc' f1 f2 => ?_)
    have hq' : (seqOf σ (.cell h)).isSome = true := by rw [v_sq hq]; rfl
    apply c_to (fi := fi544) (loc := [(Str.ofString "book", _), (Str.ofString "name", _), (Str.ofString "steps", _)]) rfl rfl
    with_reducible apply x_s; k_dflt show exsStep _ _ _ (_ :: _) _ _ = _; apply x_name0; kernel_rfl!; apply e_lst; kernel_rfl!; apply evs_s; kernel_rfl!; apply e_tup; kernel_rfl!; apply evs_s; kernel_rfl!; apply e_loc; kernel_rfl!; apply l_c; k_dflt rfl; apply evs_s; kernel_rfl!; apply e_loc; kernel_rfl!; apply l_c; k_dflt rfl; exact evs_0; exact evs_0; apply x_p; apply s_for; apply si_e; k_dflt rfl; kernel_rfl!; apply e_item; kernel_rfl!; apply e_loc; kernel_rfl!; apply l_ext; kernel_rfl!; apply l_c; k_dflt rfl; apply e_loc; kernel_rfl!; apply l_ext; kernel_rfl!; apply l_c; k_dflt rfl; apply v_itd; assumption; assumption; assumption; assumption; k_dflt assumption; k_dflt apply fl_n; apply x_ret; apply e_loc; kernel_rfl!; assumption; exact rfl
theorem ways {hf : Str → Held} {bk : Nat} {σ : St} (h4 : ∀ n, (hf n).length ≤ 4) (names : List Str) (hn : ∀ n ∈ names, Holds σ bk n (hf n)) (hc : ∀ n ∈ names, ∀ p ∈ hf n, p.1 ∈ names) :
    ∀ (d : Nat) (N : Nat) (n : Str) (s : Steps), d ≤ 4 → 10 * d + 40 ≤ N → n ∈ names → Dep hf d n → s.length + d < 900 → (recN G0 N).call 544 [.cell bk, .str n, stepsV s] σ = some (.lst ((waysN hf d n s).map wayV), σ) := by
  intro d
  induction d with
  | zero =>
    intro N n s _ hN hm hd _
    have hd : hf n = [] := hd
    refine ways_call (by omega) (hn n hm) fun hv hs => ?_
    rw [hd] at hs
    obtain ⟨loc', f1, f2⟩ := ways_loop (N := N - 2) (bk := bk) (by omega) (all := []) (s := s) (sub := fun _ _ => []) hs (by omega) (fun i p hp => by simp at hp) [] 0 200 rfl (by simp) (loc := (ext [(Str.ofString "found", .lst ([(n, s)].map wayV))] [(Str.ofString "book", .cell bk), (Str.ofString "name", .str n), (Str.ofString "steps", stepsV s)])) (acc := [(n, s)]) (by simp) rfl rfl rfl
    exact ⟨loc', f1, f2⟩
  | succ d ih =>
    intro N n s hd4 hN hm hd hs9
    refine ways_call (by omega) (hn n hm) fun hv hs => ?_
    have hlen : ([(n, s)] ++ ((hf n).zipIdx 0).flatMap fun q => waysN hf d q.1.1 (s ++ [(q.2, q.1.2)])).length < 1000 := by
      have h1 := waysN_length h4 (d + 1) n s
      have h2 := wb_mono hd4
      have h3 : wb 4 = 341 := rfl
      simp only [waysN] at h1
      simp only [List.singleton_append]
      omega
    obtain ⟨loc', f1, f2⟩ := ways_loop (N := N - 2) (bk := bk) (by omega) (all := hf n) (s := s) (sub := waysN hf d) hs (by omega) (fun i p hp => by
      have hmem : p ∈ hf n := List.mem_of_getElem? hp
      exact ih (N - 2 - 3) p.1 (s ++ [(i, p.2)]) (by omega) (by omega) (hc n hm p hmem) (hd p hmem) (by simp; omega)) (hf n) 0 200 rfl (by have := h4 n; omega) (loc := (ext [(Str.ofString "found", .lst ([(n, s)].map wayV))] [(Str.ofString "book", .cell bk), (Str.ofString "name", .str n), (Str.ofString "steps", stepsV s)])) (acc := [(n, s)]) hlen rfl rfl rfl
    exact ⟨loc', f1, f2⟩
structure Gr (σ : St) (B bk : Nat) (hf : Str → Held) : Prop where
  bB : bk < B
  nB : 9 < B
  world : σ.get 0 = some (.inst 460 wlN)
  named : ∃ ns, σ.get 9 = some (.dict ns) ∧ keysAll isStrV ns = true ∧ ∀ nm ∈ names5, ∃ c m, dictFindV (.str nm) ns = some (.cell c) ∧ c < B ∧ m < B ∧ σ.get c = some (rowI nm (hf nm) m) ∧ σ.get m = some (.dict (methodsV nm))
  book : ∃ es, σ.get bk = some (.dict es) ∧ keysAll isStrV es = true ∧ ∀ nm ∈ names5, ∃ hv, dictFindV (.str nm) es = some hv ∧ ((hv = .lst [] ∧ hf nm = []) ∨ ∃ h, hv = .cell h ∧ h < B ∧ σ.get h = some (.list (heldV (hf nm))))
  cl : ∀ nm ∈ names5, ∀ p ∈ hf nm, p.1 ∈ names5 ∧ Below p.1
  short : ∀ n, (hf n).length ≤ 4
  J : hf nJ = []
theorem names5_ok {nm : Str} (h : nm ∈ names5) : okS nm = true := by
  simp only [names5, List.mem_cons, List.not_mem_nil, or_false] at h
  rcases h with rfl | rfl | rfl | rfl | rfl <;> rfl
theorem Gr.mono {σ σ' : St} {B bk : Nat} {hf : Str → Held} (G : Gr σ B bk hf) (h : ∀ j, j < B → σ'.get j = σ.get j) : Gr σ' B bk hf := by
  obtain ⟨b, n, w, ⟨ns, n1, n2, n3⟩, ⟨es, b1, b2, b3⟩, c, s, j⟩ := G
  refine ⟨b, n, (h 0 (by omega)).trans w, ⟨ns, (h 9 n).trans n1, n2, fun nm hm => ?_⟩, ⟨es, (h bk b).trans b1, b2, fun nm hm => ?_⟩, c, s, j⟩
  · refine ea_2_5 (n3 nm hm) (fun c m q1 q2 q3 q4 q5 => ?_)
    exact ⟨c, m, q1, q2, q3, (h c q2).trans q4, (h m q3).trans q5⟩
  · refine ea_1_2 (b3 nm hm) (fun hv q1 q2 => ?_)
    rcases q2 with q2 | ⟨x, q2, q3, q4⟩
    · exact ⟨hv, q1, .inl q2⟩
    · exact ⟨hv, q1, .inr ⟨x, q2, q3, (h x q3).trans q4⟩⟩
theorem Gr.holds {σ : St} {B bk : Nat} {hf : Str → Held} (G : Gr σ B bk hf) (hB : B ≤ σ.next) {nm : Str} (hm : nm ∈ names5) : Holds σ bk nm (hf nm) := by
  refine ea_1_3 (G.book) (fun es b1 b2 b3 => ?_)
  refine ea_1_2 (b3 nm hm) (fun hv q1 q2 => ?_)
  refine ⟨⟨es, hv, b1, keyOk_str (names5_ok hm) b2, q1, ?_⟩, fun p hp => (G.cl nm hm p hp).2, by have := G.short nm; omega, names5_ok hm⟩
  rcases q2 with q2 | ⟨x, q2, q3, q4⟩
  · exact .inl q2
  · exact .inr ⟨x, q2, by omega, q4⟩
noncomputable def J5 (nm : Str) : Bool := sEq nm nJ
theorem base_any {σ : St} {B bk N : Nat} {hf : Str → Held} (hN : 20 ≤ N) (G : Gr σ B bk hf) {nm : Str} (hm : nm ∈ names5) : (recN G0 N).call 450 [.cell 0, namedV nm] σ = some (beneathV nm (hf nm), σ) := by
  refine ea_1_3 (G.named) (fun ns n1 n2 n3 => ?_)
  obtain ⟨c, m, q1, _, _, q4, _⟩ := n3 nm hm
  have hb : ∃ k l, beneathV nm (hf nm) = .tup (.str k :: l) ∧ sEq k (Str.ofString "named") = false ∧ okS k = true := by
    unfold beneathV
    cases sEq nm nJ <;> exact ⟨_, _, rfl, by rfl, by rfl⟩
  refine ea_2_3 (hb) (fun k l hb h1 h2 => ?_)
  rw [hb]
  exact baseOf_named hN G.world wlN_named n1 (keyOk_str (names5_ok hm) n2) q1 q4 (by rw [← hb]; rfl) h1 h2
theorem embedded {σ : St} {B bk N rc : Nat} {hf : Str → Held} (hN : 64 ≤ N) (G : Gr σ B bk hf) {nm : Str} (hm : nm ∈ names5) {s : Steps} {tw : Bool} (hr : σ.get rc = some (reachedI (namedV nm) (stepsV s) tw)) (hrn : rc < σ.next) (hs : s.length < 900) :
    ∃ σ' : St, (recN G0 N).call 76 [.cell 0, .cell rc] σ = some (.cell σ.next, σ') ∧ σ'.next = σ.next + 1 + (hf nm).length ∧ (∀ j, j < σ.next → σ'.get j = σ.get j) ∧
      σ'.get σ.next = some (.list ((List.range (hf nm).length).map fun j => V.cell (σ.next + 1 + j))) ∧ (∀ j p, (hf nm)[j]? = some p → σ'.get (σ.next + 1 + j) = some (reachedI (namedV p.1) (stepsV (s ++ [(j, p.2)])) tw)) := by
  have hb := base_any (N := N - 4) (by omega) G hm
  cases hJ : sEq nm nJ with
  | true =>
    have hJ' : nm = nJ := (sEq_iff _ _).mp hJ
    have h0 : hf nm = [] := by rw [hJ']; exact G.J
    unfold beneathV at hb
    rw [hJ] at hb
    refine ⟨_, embedded_face (by omega) G.world wlN_base hr hb, by rw [h0]; rfl, fun j hj => by rw [St.get_new, if_neg (by omega)], by rw [St.get_new, if_pos rfl, h0]; rfl, fun j p hp => by rw [h0] at hp; simp at hp⟩
  | false =>
    unfold beneathV at hb
    rw [hJ] at hb
    obtain ⟨σ', h1, h2, h3, h4, h5⟩ := embedded_struct (by omega) G.world wlN_base hr hrn (by simpa using hs) (by have := G.short nm; omega) hb
    refine ⟨σ', h1, h2, h3, h4, fun j p hp => ?_⟩
    rw [h5 j p hp]
    simp [embI, stepsV, stepV]
structure Ent where
  c : Nat
  n : Str
  s : Steps
  t : Bool
noncomputable def EntAt (σ : St) (e : Ent) : Prop := σ.get e.c = some (reachedI (namedV e.n) (stepsV e.s) e.t)
noncomputable def levI (here : V) (sc : Nat) : Cell := .inst 100 [(Str.ofString "world", .cell 0), (Str.ofString "here", here), (Str.ofString "seen", .cell sc)]
noncomputable def go1_F : Stmt := fi97.body.getD 0 (.Pass p0)
noncomputable def go1_t : Expr := forT go1_F
noncomputable def go1_b : List Stmt := forB go1_F
theorem go1_turn {N k i lv sc : Nat} (hN : 30 ≤ N) {l : List V} {here : V} {sd : List (V × V)} {e : Ent} {loc : Loc} {σ : St} (hi : l[i]? = some (.cell e.c)) (he : EntAt σ e) (on : okS e.n = true)
    (l1 : lookS (Str.ofString "self") loc = some (.cell lv)) (hl : σ.get lv = some (levI here sc)) (hs : σ.get sc = some (.dict sd)) (hk : keysAll isStrV sd = true) (hb : Nat.blt sd.length 1000 = true) :
    ∃ loc', forE (recN G0 N) fi97.scope go1_t go1_b (k + 1) (.seq (.lst l) i) loc σ = forE (recN G0 N) fi97.scope go1_t go1_b k (.seq (.lst l) (i + 1)) loc' (σ.set sc (.dict (dictPutV (.str e.n) (.bool true) sd))) ∧
      lookS (Str.ofString "self") loc' = some (.cell lv) := by
  obtain ⟨n, rfl⟩ : ∃ n, N = n + 30 := ⟨N - 30, by omega⟩
  have onm : okS (Str.ofString "named") = true := by rfl
  have hkey : keyOk (.str e.n) sd = true := keyOk_str on hk
  unfold EntAt at he
  have q : eqTop σ (.str (Str.ofString "named")) (.str (Str.ofString "named")) = some true := q_str onm onm
  have hq : (keyOk (.str e.n) sd && Nat.blt sd.length 1000) = true := bB hkey hb
  apply Exists.intro
  constructor
  · apply f_step
    with_reducible apply n_seq; k_dflt rfl; assumption; k_dflt show Rec.asg _ _ (.Name _ _) _ _ _ = _; apply a_name0; kernel_rfl!; apply x_s; k_dflt show exsStep _ _ _ (_ :: _) _ _ = _; apply x_1; apply s_if; apply t_cmp; apply c_mp; kernel_rfl!; apply e_item; kernel_rfl!; apply e_attr; kernel_rfl!; apply e_loc; kernel_rfl!; apply l_in; k_dflt rfl; apply v_attr; k_dflt assumption; kernel_rfl!; apply l_c; k_dflt rfl; exact e_int; k_dflt rfl; exact e_str; apply cv_eq; assumption; apply cnT; apply x_s; apply x_asg; kernel_rfl!; exact e_tf; apply a_item; kernel_rfl!; apply e_attr; kernel_rfl!; apply e_loc; kernel_rfl!; apply l_ext; kernel_rfl!; assumption; apply v_attr; k_dflt assumption; kernel_rfl!; apply l_c; k_dflt rfl; apply e_item; kernel_rfl!; apply e_attr; kernel_rfl!; apply e_loc; kernel_rfl!; apply l_in; k_dflt rfl; apply v_attr; k_dflt assumption; kernel_rfl!; apply l_c; k_dflt rfl; exact e_int; k_dflt rfl; apply v_std; assumption; assumption; exact x_0; exact rfl
  · exact l_ext rfl l1
noncomputable def seenP (sd : List (V × V)) (es : List Ent) : List (V × V) := es.foldl (fun sd e => dictPutV (.str e.n) (.bool true) sd) sd
theorem go1_loop {N lv sc : Nat} (hN : 30 ≤ N) {l : List V} {here : V} :
    ∀ (rest : List Ent) (i fuel : Nat), l.drop i = rest.map (fun e => V.cell e.c) → rest.length < fuel → ∀ {sd : List (V × V)} {loc : Loc} {σ : St}, (∀ e ∈ rest, EntAt σ e ∧ e.c ≠ sc ∧ okS e.n = true) →
      lookS (Str.ofString "self") loc = some (.cell lv) → lv ≠ sc → σ.get lv = some (levI here sc) → σ.get sc = some (.dict sd) → keysAll isStrV sd = true → sd.length + rest.length < 900 →
    ∃ loc' σ', forE (recN G0 N) fi97.scope go1_t go1_b fuel (.seq (.lst l) i) loc σ = some (.next, loc', σ') ∧ lookS (Str.ofString "self") loc' = some (.cell lv) ∧ σ'.next = σ.next ∧ (∀ j, j ≠ sc → σ'.get j = σ.get j) ∧ σ'.get sc = some (.dict (seenP sd rest)) := by
  intro rest
  induction rest with
  | nil =>
    intro i fuel hd hf sd loc σ _ l1 _ _ hs _ _
    obtain ⟨k, rfl⟩ : ∃ k, fuel = k + 1 := ⟨fuel - 1, by omega⟩
    refine ⟨loc, σ, ?_, l1, rfl, fun _ _ => rfl, hs⟩
    have : l[i]? = none := List.getElem?_eq_none (List.drop_eq_nil_iff.mp hd)
    exact f_end (n_seqE rfl this)
  | cons e rest ih =>
    intro i fuel hd hf sd loc σ he l1 hne hl hs hk hlen
    obtain ⟨k, rfl⟩ : ∃ k, fuel = k + 1 := ⟨fuel - 1, by omega⟩
    have hi : l[i]? = some (.cell e.c) := by
      have := congrArg (fun l => l[0]?) hd
      simpa using this
    have hr : l.drop (i + 1) = rest.map (fun e => V.cell e.c) := by
      have := congrArg List.tail hd
      simpa using this
    refine ea_0_3 (he e (.head _)) (fun e1 e2 e3 => ?_)
    obtain ⟨loc1, f1, m1⟩ := go1_turn (k := k) hN hi e1 e3 l1 hl hs hk (by rw [Nat.blt_eq]; simp at hlen; omega)
    have hlp := length_put (k := .str e.n) (v := .bool true) (l := sd)
    obtain ⟨loc', σ', f2, m2, n2, g2, s2⟩ := ih (i + 1) k hr (by simp at hf; omega) (sd := dictPutV (.str e.n) (.bool true) sd) (loc := loc1) (σ := σ.set sc (.dict (dictPutV (.str e.n) (.bool true) sd)))
      (fun x hx => by
        refine ea_0_3 (he x (.tail _ hx)) (fun x1 x2 x3 => ?_)
        exact ⟨by unfold EntAt; rw [St.get_set, if_neg x2]; exact x1, x2, x3⟩) m1 hne (by rw [St.get_set, if_neg hne]; exact hl) (by rw [St.get_set, if_pos rfl]) (keysAll_put rfl hk) (by simp at hlen; omega)
    exact ⟨loc', σ', f1.trans f2, m2, n2, fun j hj => by rw [g2 j hj, St.get_set, if_neg hj], s2⟩
noncomputable def go2_it : Stmt := fi97.body.getD 2 (.Pass p0)
noncomputable def go3 : Stmt := (forB go2_it).getD 0 (.Pass p0)
noncomputable def go3_t : Expr := forT go3
noncomputable def go3_b : List Stmt := forB go3
theorem keyOk_named {o : Str} {ld : List (V × V)} (ok : okS o = true) (h1 : keysAll keyTup ld = true) (h2 : keysAll pureV ld = true) : keyOk (namedV o) ld = true := by
  have on : okS (Str.ofString "named") = true := by rfl
  exact bB (a := pureV (namedV o)) (iT on (iT ok rfl) : cond (okS (Str.ofString "named")) (cond (okS o) true false) false = true) (iF rfl (bB rfl (bB h1 h2)))
theorem go3_seen {N k i lv sc lc ec ic : Nat} (hN : 40 ≤ N) {l : List V} {here : V} {sd ld : List (V × V)} {o : Str} {st : V} {tw : Bool} {loc : Loc} {σ : St} (hec : σ.get ec = some (.list l)) (hi : l[i]? = some (.cell ic)) (he : σ.get ic = some (reachedI (namedV o) st tw)) (oo : okS o = true)
    (l1 : lookS (Str.ofString "self") loc = some (.cell lv)) (l2 : lookS (Str.ofString "later") loc = some (.cell lc)) (hl : σ.get lv = some (levI here sc)) (hs : σ.get sc = some (.dict sd)) (hk : keysAll isStrV sd = true) (hd : σ.get lc = some (.dict ld)) (hk1 : keysAll keyTup ld = true) (hk2 : keysAll pureV ld = true) (hf : dictFindV (namedV o) ld = none) (hsn : (dictFindV (.str o) sd).isSome = true) :
    ∃ loc', forE (recN G0 N) fi97.scope go3_t go3_b (k + 1) (.seq (.cell ec) i) loc σ = forE (recN G0 N) fi97.scope go3_t go3_b k (.seq (.cell ec) (i + 1)) loc' σ ∧
      lookS (Str.ofString "self") loc' = some (.cell lv) ∧ lookS (Str.ofString "later") loc' = some (.cell lc) := by
  obtain ⟨n, rfl⟩ : ∃ n, N = n + 40 := ⟨N - 40, by omega⟩
  have onm : okS (Str.ofString "named") = true := by rfl
  have hkey : keyOk (.str o) sd = true := keyOk_str oo hk
  have hkey2 : keyOk (namedV o) ld = true := keyOk_named oo hk1 hk2
  have hkt : keyTup (.str o) = false := rfl
  have q : eqTop σ (.str (Str.ofString "named")) (.str (Str.ofString "named")) = some true := q_str onm onm
  have he : σ.get ic = some (.inst 39 [(Str.ofString "told", namedV o), (Str.ofString "steps", st), (Str.ofString "is_twice", .bool tw)]) := he
  have i1' : inV σ (namedV o) (.cell lc) = some false := (v_in hd hkey2).trans (by rw [hf]; rfl)
  have i2' : inV σ (.str o) (.cell sc) = some true := (v_in hs hkey).trans (by rw [hsn])
  apply Exists.intro
  constructor
  · apply f_step
    with_reducible apply n_seq; apply v_sq; assumption; assumption; k_dflt show Rec.asg _ _ (.Name _ _) _ _ _ = _; apply a_name0; kernel_rfl!; apply x_s; k_dflt show exsStep _ _ _ (_ :: _) _ _ = _; apply x_1; apply s_if; apply t_cmp; apply c_mp; kernel_rfl!; apply e_attr; kernel_rfl!; apply e_loc; kernel_rfl!; apply l_in; k_dflt rfl; apply v_attr; assumption; kernel_rfl!; apply l_c; k_dflt rfl; apply e_loc; kernel_rfl!; apply l_ext; kernel_rfl!; assumption; apply cv_in; assumption; apply cnF; apply x_s; apply x_1; apply s_if; apply t_or; apply at_s; apply t_cmp; apply c_mp; kernel_rfl!; apply e_item; kernel_rfl!; apply e_attr; kernel_rfl!; apply e_loc; kernel_rfl!; apply l_in; k_dflt rfl; apply v_attr; assumption; kernel_rfl!; apply l_c; k_dflt rfl; exact e_int; k_dflt rfl; exact e_str; apply cv_ne; assumption; apply soN; apply at_1; apply t_cmp; apply c_mp; kernel_rfl!; apply e_item; kernel_rfl!; apply e_attr; kernel_rfl!; apply e_loc; kernel_rfl!; apply l_in; k_dflt rfl; apply v_attr; assumption; kernel_rfl!; apply l_c; k_dflt rfl; exact e_int; k_dflt rfl; apply e_attr; kernel_rfl!; apply e_loc; kernel_rfl!; apply l_ext; kernel_rfl!; assumption; apply v_attr; k_dflt assumption; kernel_rfl!; apply l_c; k_dflt rfl; apply cv_nin; kernel_rfl!; assumption; apply cnnT; apply x_s; exact x_0; exact rfl
  constructor
  · exact l_ext rfl l1
  · exact l_ext rfl l2
theorem go3_new {N k i lv sc lc ec ic : Nat} (hN : 40 ≤ N) {l : List V} {here : V} {sd ld : List (V × V)} {o : Str} {st : V} {tw : Bool} {loc : Loc} {σ : St} (hec : σ.get ec = some (.list l)) (hi : l[i]? = some (.cell ic)) (he : σ.get ic = some (reachedI (namedV o) st tw)) (oo : okS o = true)
    (l1 : lookS (Str.ofString "self") loc = some (.cell lv)) (l2 : lookS (Str.ofString "later") loc = some (.cell lc)) (hl : σ.get lv = some (levI here sc)) (hs : σ.get sc = some (.dict sd)) (hk : keysAll isStrV sd = true) (hd : σ.get lc = some (.dict ld)) (hk1 : keysAll keyTup ld = true) (hk2 : keysAll pureV ld = true) (hf : dictFindV (namedV o) ld = none) (hsn : (dictFindV (.str o) sd).isSome = false) (hb : Nat.blt ld.length 1000 = true) :
    ∃ loc', forE (recN G0 N) fi97.scope go3_t go3_b (k + 1) (.seq (.cell ec) i) loc σ = forE (recN G0 N) fi97.scope go3_t go3_b k (.seq (.cell ec) (i + 1)) loc' (σ.set lc (.dict (dictPutV (namedV o) (.cell ic) ld))) ∧
      lookS (Str.ofString "self") loc' = some (.cell lv) ∧ lookS (Str.ofString "later") loc' = some (.cell lc) := by
  obtain ⟨n, rfl⟩ : ∃ n, N = n + 40 := ⟨N - 40, by omega⟩
  have onm : okS (Str.ofString "named") = true := by rfl
  have hkey : keyOk (.str o) sd = true := keyOk_str oo hk
  have hkey2 : keyOk (namedV o) ld = true := keyOk_named oo hk1 hk2
  have hkt : keyTup (.str o) = false := rfl
  have q : eqTop σ (.str (Str.ofString "named")) (.str (Str.ofString "named")) = some true := q_str onm onm
  have he : σ.get ic = some (.inst 39 [(Str.ofString "told", namedV o), (Str.ofString "steps", st), (Str.ofString "is_twice", .bool tw)]) := he
  have i1' : inV σ (namedV o) (.cell lc) = some false := (v_in hd hkey2).trans (by rw [hf]; rfl)
  have i2' : inV σ (.str o) (.cell sc) = some false := (v_in hs hkey).trans (by rw [hsn])
  have hq : (keyOk (namedV o) ld && Nat.blt ld.length 1000) = true := bB hkey2 hb
  apply Exists.intro
  constructor
  · apply f_step
    with_reducible apply n_seq; apply v_sq; assumption; assumption; k_dflt show Rec.asg _ _ (.Name _ _) _ _ _ = _; apply a_name0; kernel_rfl!; apply x_s; k_dflt show exsStep _ _ _ (_ :: _) _ _ = _; apply x_1; apply s_if; apply t_cmp; apply c_mp; kernel_rfl!; apply e_attr; kernel_rfl!; apply e_loc; kernel_rfl!; apply l_in; k_dflt rfl; apply v_attr; assumption; kernel_rfl!; apply l_c; k_dflt rfl; apply e_loc; kernel_rfl!; apply l_ext; kernel_rfl!; assumption; apply cv_in; assumption; apply cnF; apply x_s; apply x_1; apply s_if; apply t_or; apply at_s; apply t_cmp; apply c_mp; kernel_rfl!; apply e_item; kernel_rfl!; apply e_attr; kernel_rfl!; apply e_loc; kernel_rfl!; apply l_in; k_dflt rfl; apply v_attr; assumption; kernel_rfl!; apply l_c; k_dflt rfl; exact e_int; k_dflt rfl; exact e_str; apply cv_ne; assumption; apply soN; apply at_1; apply t_cmp; apply c_mp; kernel_rfl!; apply e_item; kernel_rfl!; apply e_attr; kernel_rfl!; apply e_loc; kernel_rfl!; apply l_in; k_dflt rfl; apply v_attr; assumption; kernel_rfl!; apply l_c; k_dflt rfl; exact e_int; k_dflt rfl; apply e_attr; kernel_rfl!; apply e_loc; kernel_rfl!; apply l_ext; kernel_rfl!; assumption; apply v_attr; k_dflt assumption; kernel_rfl!; apply l_c; k_dflt rfl; apply cv_nin; kernel_rfl!; assumption; apply cnnF; apply x_s; apply x_asg; kernel_rfl!; apply e_loc; kernel_rfl!; apply l_in; k_dflt rfl; apply a_item; kernel_rfl!; apply e_loc; kernel_rfl!; apply l_ext; kernel_rfl!; assumption; apply e_attr; kernel_rfl!; apply e_loc; kernel_rfl!; apply l_in; k_dflt rfl; apply v_attr; assumption; kernel_rfl!; apply l_c; k_dflt rfl; apply v_std; assumption; assumption; exact x_0; exact rfl
  constructor
  · exact l_ext rfl l1
  · exact l_ext rfl l2
theorem go3_old {N k i lv sc lc ec ic : Nat} (hN : 40 ≤ N) {l : List V} {here : V} {sd ld : List (V × V)} {o : Str} {st : V} {tw : Bool} {loc : Loc} {σ : St} (hec : σ.get ec = some (.list l)) (hi : l[i]? = some (.cell ic)) (he : σ.get ic = some (reachedI (namedV o) st tw)) (oo : okS o = true)
    (l1 : lookS (Str.ofString "self") loc = some (.cell lv)) (l2 : lookS (Str.ofString "later") loc = some (.cell lc)) (hl : σ.get lv = some (levI here sc)) (hs : σ.get sc = some (.dict sd)) (hk : keysAll isStrV sd = true) (hd : σ.get lc = some (.dict ld)) (hk1 : keysAll keyTup ld = true) (hk2 : keysAll pureV ld = true) {c' : Nat} {st' : V} {tw' : Bool} (hf : dictFindV (namedV o) ld = some (.cell c')) (hc : σ.get c' = some (reachedI (namedV o) st' tw')) :
    ∃ loc', forE (recN G0 N) fi97.scope go3_t go3_b (k + 1) (.seq (.cell ec) i) loc σ = forE (recN G0 N) fi97.scope go3_t go3_b k (.seq (.cell ec) (i + 1)) loc' (σ.set c' (reachedI (namedV o) st' true)) ∧
      lookS (Str.ofString "self") loc' = some (.cell lv) ∧ lookS (Str.ofString "later") loc' = some (.cell lc) := by
  obtain ⟨n, rfl⟩ : ∃ n, N = n + 40 := ⟨N - 40, by omega⟩
  have onm : okS (Str.ofString "named") = true := by rfl
  have hkey : keyOk (.str o) sd = true := keyOk_str oo hk
  have hkey2 : keyOk (namedV o) ld = true := keyOk_named oo hk1 hk2
  have hkt : keyTup (.str o) = false := rfl
  have q : eqTop σ (.str (Str.ofString "named")) (.str (Str.ofString "named")) = some true := q_str onm onm
  have he : σ.get ic = some (.inst 39 [(Str.ofString "told", namedV o), (Str.ofString "steps", st), (Str.ofString "is_twice", .bool tw)]) := he
  have i1' : inV σ (namedV o) (.cell lc) = some true := (v_in hd hkey2).trans (by rw [hf]; rfl)
  have hc : σ.get c' = some (.inst 39 [(Str.ofString "told", namedV o), (Str.ofString "steps", st'), (Str.ofString "is_twice", .bool tw')]) := hc
  apply Exists.intro
  constructor
  · apply f_step
    with_reducible apply n_seq; apply v_sq; assumption; assumption; k_dflt show Rec.asg _ _ (.Name _ _) _ _ _ = _; apply a_name0; kernel_rfl!; apply x_s; k_dflt show exsStep _ _ _ (_ :: _) _ _ = _; apply x_1; apply s_if; apply t_cmp; apply c_mp; kernel_rfl!; apply e_attr; kernel_rfl!; apply e_loc; kernel_rfl!; apply l_in; k_dflt rfl; apply v_attr; assumption; kernel_rfl!; apply l_c; k_dflt rfl; apply e_loc; kernel_rfl!; apply l_ext; kernel_rfl!; assumption; apply cv_in; assumption; apply cnT; apply x_s; apply x_asg; kernel_rfl!; exact e_tf; apply a_attr; apply e_item; kernel_rfl!; apply e_loc; kernel_rfl!; apply l_ext; kernel_rfl!; assumption; apply e_attr; kernel_rfl!; apply e_loc; kernel_rfl!; apply l_in; k_dflt rfl; apply v_attr; assumption; kernel_rfl!; apply l_c; k_dflt rfl; apply v_itd; assumption; assumption; assumption; apply v_setA; assumption; kernel_rfl!; exact x_0
    rfl
  constructor
  · exact l_ext rfl l1
  · exact l_ext rfl l2
noncomputable def laterV (es : List Ent) : List (V × V) := es.map fun e => (namedV e.n, .cell e.c)
noncomputable def findE (o : Str) : List Ent → Option Ent
  | [] => none
  | x :: r => cond (sEq x.n o) (some x) (findE o r)
noncomputable def setT (o : Str) : List Ent → List Ent
  | [] => []
  | x :: r => cond (sEq x.n o) (⟨x.c, x.n, x.s, true⟩ :: r) (x :: setT o r)
noncomputable def addE (sd : List (V × V)) (es : List Ent) (e : Ent) : List Ent := cond (findE e.n es).isSome (setT e.n es) (cond (dictFindV (.str e.n) sd).isSome es (es ++ [e]))
theorem keyEq_named (a b : Str) : keyEq (namedV a) (namedV b) = sEq a b := by
  show (bnd (some (sEq a b)) fun c => cond c (some true) (some false)).getD false = _
  cases sEq a b <;> rfl
theorem find_later (o : Str) : ∀ es : List Ent, dictFindV (namedV o) (laterV es) = (findE o es).map fun e => .cell e.c
  | [] => rfl
  | x :: r => by
    show cond (keyEq (namedV x.n) (namedV o)) (some (.cell x.c)) (dictFindV (namedV o) (laterV r)) = Option.map _ (cond (sEq x.n o) (some x) (findE o r))
    rw [keyEq_named, find_later o r]
    cases sEq x.n o <;> rfl
theorem put_later {o : Str} {v : V} : ∀ {es : List Ent}, findE o es = none → dictPutV (namedV o) v (laterV es) = laterV es ++ [(namedV o, v)]
  | [], _ => rfl
  | x :: r, h => bC h (fun _ h => nnP h) fun hx h => by
    show cond (keyEq (namedV x.n) (namedV o)) _ ((namedV x.n, .cell x.c) :: dictPutV (namedV o) v (laterV r)) = _
    rw [keyEq_named, hx, put_later h]
    rfl
theorem later_keys : ∀ es : List Ent, keysAll keyTup (laterV es) = true
  | [] => rfl
  | x :: r => iT rfl (later_keys r)
theorem later_pure : ∀ {es : List Ent}, (∀ e ∈ es, okS e.n = true) → keysAll pureV (laterV es) = true
  | [], _ => rfl
  | x :: r, h => iT (show pureV (namedV x.n) = true from (iT rfl (iT (h x (.head _)) rfl) : cond (okS (Str.ofString "named")) (cond (okS x.n) true false) false = true)) (later_pure fun e he => h e (.tail _ he))
theorem findE_mem {o : Str} : ∀ {es : List Ent} {e : Ent}, findE o es = some e → e ∈ es ∧ e.n = o
  | [], _, h => nnO h
  | x :: r, e, h => bC h (fun hx h => s1 (Q := fun e => e ∈ x :: r ∧ e.n = o) h ⟨.head _, (sEq_iff _ _).mp hx⟩) fun _ h => ⟨.tail _ (findE_mem h).1, (findE_mem h).2⟩
theorem laterV_setT (o : Str) : ∀ es : List Ent, laterV (setT o es) = laterV es
  | [] => rfl
  | x :: r => by
    show laterV (cond (sEq x.n o) (⟨x.c, x.n, x.s, true⟩ :: r) (x :: setT o r)) = _
    cases sEq x.n o with
    | true => rfl
    | false => exact congrArg (List.cons _) (laterV_setT o r)
theorem cells_setT (o : Str) : ∀ es : List Ent, (setT o es).map (·.c) = es.map (·.c)
  | [] => rfl
  | x :: r => by
    show List.map (·.c) (cond (sEq x.n o) (⟨x.c, x.n, x.s, true⟩ :: r) (x :: setT o r)) = _
    cases sEq x.n o with
    | true => rfl
    | false => exact congrArg (List.cons _) (cells_setT o r)
theorem names_setT (o : Str) : ∀ es : List Ent, (setT o es).map (·.n) = es.map (·.n)
  | [] => rfl
  | x :: r => by
    show List.map (·.n) (cond (sEq x.n o) (⟨x.c, x.n, x.s, true⟩ :: r) (x :: setT o r)) = _
    cases sEq x.n o with
    | true => rfl
    | false => exact congrArg (List.cons _) (names_setT o r)
theorem entAt_set {σ : St} {c : Nat} {cl : Cell} {e : Ent} (h : EntAt σ e) (hc : e.c ≠ c) : EntAt (σ.set c cl) e := by
  unfold EntAt; rw [St.get_set, if_neg hc]; exact h
theorem entAt_setT {σ : St} {o : Str} {x : Ent} : ∀ {es : List Ent}, findE o es = some x → (∀ e ∈ es, EntAt σ e) → (es.map (·.c)).Nodup → ∀ e ∈ setT o es, EntAt (σ.set x.c (reachedI (namedV o) (stepsV x.s) true)) e
  | [], h, _, _ => nnO h
  | y :: r, h, ha, hn => by
    rw [List.map_cons, List.nodup_cons] at hn
    show ∀ e ∈ cond (sEq y.n o) (⟨y.c, y.n, y.s, true⟩ :: r) (y :: setT o r), _
    refine bC h (fun hy h => ?_) fun hy h => ?_
    · obtain rfl : y = x := Option.some.inj h
      rw [hy]
      intro e he
      cases he with
      | head => unfold EntAt; rw [St.get_set, if_pos rfl, (sEq_iff _ _).mp hy]
      | tail _ he => exact entAt_set (ha e (.tail _ he)) fun q => hn.1 (q ▸ List.mem_map_of_mem he)
    · rw [hy]
      intro e he
      cases he with
      | head => exact entAt_set (ha _ (.head _)) fun q => hn.1 (q ▸ List.mem_map_of_mem (findE_mem h).1)
      | tail _ he => exact entAt_setT h (fun e he => ha e (.tail _ he)) hn.2 e he
structure Lat (σ : St) (lv sc lc : Nat) (here : V) (sd : List (V × V)) (es : List Ent) : Prop where
  hl : σ.get lv = some (levI here sc)
  hs : σ.get sc = some (.dict sd)
  hk : keysAll isStrV sd = true
  hd : σ.get lc = some (.dict (laterV es))
  ents : ∀ e ∈ es, EntAt σ e ∧ okS e.n = true ∧ e.c ≠ lv ∧ e.c ≠ sc ∧ e.c ≠ lc
  nd : (es.map (·.c)).Nodup
  len : es.length < 900
  ne : lv ≠ lc ∧ sc ≠ lc
theorem Lat.step {σ : St} {lv sc lc : Nat} {here : V} {sd : List (V × V)} {es : List Ent} (L : Lat σ lv sc lc here sd es) {N k i ec : Nat} (hN : 40 ≤ N) {l : List V} {e : Ent} {loc : Loc} (hec : σ.get ec = some (.list l)) (hi : l[i]? = some (.cell e.c)) (he : EntAt σ e) (oo : okS e.n = true)
    (n1 : e.c ≠ lv) (n2 : e.c ≠ sc) (n3 : e.c ≠ lc) (nm : ∀ x ∈ es, x.c ≠ e.c) (h9 : es.length < 890) (l1 : lookS (Str.ofString "self") loc = some (.cell lv)) (l2 : lookS (Str.ofString "later") loc = some (.cell lc)) :
    ∃ loc' σ', forE (recN G0 N) fi97.scope go3_t go3_b (k + 1) (.seq (.cell ec) i) loc σ = forE (recN G0 N) fi97.scope go3_t go3_b k (.seq (.cell ec) (i + 1)) loc' σ' ∧
      lookS (Str.ofString "self") loc' = some (.cell lv) ∧ lookS (Str.ofString "later") loc' = some (.cell lc) ∧ σ'.next = σ.next ∧ Lat σ' lv sc lc here sd (addE sd es e) ∧ (∀ j, j ≠ lc → (∀ x ∈ es, x.c ≠ j) → σ'.get j = σ.get j) := by
  obtain ⟨hl, hs, hk, hd, ents, nd, len, ne⟩ := L
  have k1 := later_keys es
  have k2 := later_pure fun x hx => (ents x hx).2.1
  have hf0 := find_later e.n es
  unfold addE
  cases hf : findE e.n es with
  | some x =>
    show ∃ loc' σ', _ ∧ _ ∧ _ ∧ _ ∧ Lat σ' lv sc lc here sd (setT e.n es) ∧ _
    rw [hf] at hf0
    refine ea_0_2 (findE_mem hf) (fun xm xn => ?_)
    refine ea_0_5 (ents x xm) (fun xe xo x1 x2 x3 => ?_)
    unfold EntAt at xe
    rw [xn] at xe
    obtain ⟨loc', f, m1, m2⟩ := go3_old (k := k) hN hec hi he oo l1 l2 hl hs hk hd k1 k2 hf0 xe
    refine ⟨loc', _, f, m1, m2, rfl, ⟨by rw [St.get_set, if_neg (Ne.symm x1)]; exact hl, by rw [St.get_set, if_neg (Ne.symm x2)]; exact hs, hk, by rw [St.get_set, if_neg (Ne.symm x3), laterV_setT]; exact hd, ?_, by rw [cells_setT]; exact nd, ?_, ne⟩, fun j hj hx => by rw [St.get_set, if_neg (fun q => hx x xm q.symm)]⟩
    · intro y hy
      have a := entAt_setT hf (fun e he => (ents e he).1) nd y hy
      have hc : y.c ∈ es.map (·.c) := by rw [← cells_setT e.n]; exact List.mem_map_of_mem hy
      have hnm : y.n ∈ es.map (·.n) := by rw [← names_setT e.n]; exact List.mem_map_of_mem hy
      refine ea_1_2 (List.mem_map.mp hc) (fun z hz zc => ?_)
      refine ea_1_2 (List.mem_map.mp hnm) (fun z' hz' zn => ?_)
      exact ⟨a, zn ▸ (ents z' hz').2.1, zc ▸ (ents z hz).2.2.1, zc ▸ (ents z hz).2.2.2.1, zc ▸ (ents z hz).2.2.2.2⟩
    · have : (setT e.n es).length = es.length := by rw [← List.length_map (f := (·.c)), cells_setT, List.length_map]
      show (setT e.n es).length < 900
      omega
  | none =>
    rw [hf] at hf0
    cases hsn : (dictFindV (.str e.n) sd).isSome with
    | true =>
      obtain ⟨loc', f, m1, m2⟩ := go3_seen (k := k) hN hec hi he oo l1 l2 hl hs hk hd k1 k2 hf0 hsn
      exact ⟨loc', σ, f, m1, m2, rfl, ⟨hl, hs, hk, hd, ents, nd, len, ne⟩, fun _ _ _ => rfl⟩
    | false =>
      obtain ⟨loc', f, m1, m2⟩ := go3_new (k := k) hN hec hi he oo l1 l2 hl hs hk hd k1 k2 hf0 hsn (by rw [Nat.blt_eq]; simp [laterV]; omega)
      rw [put_later hf] at f
      refine ⟨loc', _, f, m1, m2, rfl, ⟨by rw [St.get_set, if_neg ne.1]; exact hl, by rw [St.get_set, if_neg ne.2]; exact hs, hk, by rw [St.get_set, if_pos rfl]; simp [laterV], ?_, ?_, by simp; omega, ne⟩, fun j hj _ => by rw [St.get_set, if_neg hj]⟩
      · intro y hy
        rcases List.mem_append.mp hy with hy | hy
        · refine ea_0_2 (ents y hy) (fun a b => ?_)
          exact ⟨entAt_set a b.2.2.2, b⟩
        · simp at hy
          subst hy
          exact ⟨entAt_set he n3, oo, n1, n2, n3⟩
      · show ((es ++ [e]).map (·.c)).Nodup
        rw [List.map_append, List.nodup_append]
        refine ⟨nd, by simp, fun a ha b hb => ?_⟩
        obtain ⟨x, hx, rfl⟩ := List.mem_map.mp ha
        simp at hb
        subst hb
        exact nm x hx
theorem cells_addE {sd : List (V × V)} {es : List Ent} {e x : Ent} (h : x ∈ addE sd es e) : x.c = e.c ∨ ∃ y ∈ es, y.c = x.c := by
  unfold addE at h
  cases hf : (findE e.n es).isSome with
  | true =>
    rw [hf] at h
    have hc : x.c ∈ es.map (·.c) := by rw [← cells_setT e.n]; exact List.mem_map_of_mem h
    refine ea_1_2 (List.mem_map.mp hc) (fun z hz zc => ?_)
    exact .inr ⟨z, hz, zc⟩
  | false =>
    rw [hf] at h
    cases hs : (dictFindV (.str e.n) sd).isSome with
    | true => rw [hs] at h; exact .inr ⟨x, h, rfl⟩
    | false =>
      rw [hs] at h
      refine (List.mem_append.mp h).elim (fun h => .inr ⟨x, h, rfl⟩) fun h => .inl ?_
      rw [List.mem_singleton.mp h]
theorem length_addE {sd : List (V × V)} {es : List Ent} {e : Ent} : (addE sd es e).length ≤ es.length + 1 := by
  unfold addE
  cases (findE e.n es).isSome with
  | true => exact Nat.le_succ_of_le (Nat.le_of_eq (by show (setT e.n es).length = _; rw [← List.length_map (f := (·.c)), cells_setT, List.length_map]))
  | false => cases (dictFindV (.str e.n) sd).isSome with
    | true => exact Nat.le_succ _
    | false => exact Nat.le_of_eq (by show (es ++ [e]).length = _; rw [List.length_append]; rfl)
theorem Lat.loop {lv sc lc : Nat} {here : V} {sd : List (V × V)} {N ec : Nat} (hN : 40 ≤ N) {l : List V} (e1 : ec ≠ lc) :
    ∀ (rest : List Ent) (i fuel : Nat), l.drop i = rest.map (fun e => V.cell e.c) → rest.length < fuel → ∀ {es : List Ent} {loc : Loc} {σ : St}, Lat σ lv sc lc here sd es → σ.get ec = some (.list l) →
      (∀ e ∈ rest, EntAt σ e ∧ okS e.n = true ∧ e.c ≠ lv ∧ e.c ≠ sc ∧ e.c ≠ lc ∧ e.c ≠ ec ∧ ∀ x ∈ es, x.c ≠ e.c) → (rest.map (·.c)).Nodup → (∀ x ∈ es, x.c ≠ ec) → es.length + rest.length < 890 →
      lookS (Str.ofString "self") loc = some (.cell lv) → lookS (Str.ofString "later") loc = some (.cell lc) →
    ∃ loc' σ', forE (recN G0 N) fi97.scope go3_t go3_b fuel (.seq (.cell ec) i) loc σ = some (.next, loc', σ') ∧ lookS (Str.ofString "self") loc' = some (.cell lv) ∧ lookS (Str.ofString "later") loc' = some (.cell lc) ∧ σ'.next = σ.next ∧
      Lat σ' lv sc lc here sd (rest.foldl (addE sd) es) ∧ (∀ j, j ≠ lc → (∀ x ∈ es, x.c ≠ j) → (∀ x ∈ rest, x.c ≠ j) → σ'.get j = σ.get j) ∧ (∀ x ∈ rest.foldl (addE sd) es, (∃ y ∈ es, y.c = x.c) ∨ ∃ y ∈ rest, y.c = x.c) := by
  intro rest
  induction rest with
  | nil =>
    intro i fuel hd hf es loc σ L hec _ _ _ _ l1 l2
    obtain ⟨k, rfl⟩ : ∃ k, fuel = k + 1 := ⟨fuel - 1, by omega⟩
    refine ⟨loc, σ, ?_, l1, l2, rfl, L, fun _ _ _ _ => rfl, fun x hx => .inl ⟨x, hx, rfl⟩⟩
    have : l[i]? = none := List.getElem?_eq_none (List.drop_eq_nil_iff.mp hd)
    exact f_end (n_seqE (v_sq hec) this)
  | cons e rest ih =>
    intro i fuel hd hf es loc σ L hec he hn hx hlen l1 l2
    obtain ⟨k, rfl⟩ : ∃ k, fuel = k + 1 := ⟨fuel - 1, by omega⟩
    have hi : l[i]? = some (.cell e.c) := by
      have := congrArg (fun l => l[0]?) hd
      simpa using this
    have hr : l.drop (i + 1) = rest.map (fun e => V.cell e.c) := by
      have := congrArg List.tail hd
      simpa using this
    rw [List.map_cons, List.nodup_cons] at hn
    refine ea_0_7 (he e (.head _)) (fun a1 a2 a3 a4 a5 a6 a7 => ?_)
    obtain ⟨loc1, σ1, f1, m1, m2, n1, L1, g1⟩ := L.step (k := k) hN hec hi a1 a2 a3 a4 a5 a7 (by simp at hlen; omega) l1 l2
    have hl1 := length_addE (sd := sd) (es := es) (e := e)
    have hec1 : σ1.get ec = some (.list l) := (g1 ec e1 hx).trans hec
    have he1 : ∀ x ∈ rest, EntAt σ1 x ∧ okS x.n = true ∧ x.c ≠ lv ∧ x.c ≠ sc ∧ x.c ≠ lc ∧ x.c ≠ ec ∧ ∀ y ∈ addE sd es e, y.c ≠ x.c := by
      intro x hxr
      refine ea_0_7 (he x (.tail _ hxr)) (fun b1 b2 b3 b4 b5 b6 b7 => ?_)
      refine ⟨?_, b2, b3, b4, b5, b6, fun y hy => ?_⟩
      · unfold EntAt
        rw [g1 x.c b5 b7]
        exact b1
      · rcases cells_addE hy with q | ⟨z, hz, q⟩
        · rw [q]; exact fun w => hn.1 (w ▸ List.mem_map_of_mem hxr)
        · rw [← q]; exact b7 z hz
    obtain ⟨loc', σ', f2, k1, k2, n2, L2, g2, c2⟩ := ih (i + 1) k hr (by simp at hf; omega) L1 hec1 he1 hn.2 (fun y hy => by
      rcases cells_addE hy with q | ⟨z, hz, q⟩
      · rw [q]; exact a6
      · rw [← q]; exact hx z hz) (by simp at hlen; omega) m1 m2
    refine ⟨loc', σ', f1.trans f2, k1, k2, n2.trans n1, L2, fun j hj h1 h2 => ?_, fun x hx => ?_⟩
    · rw [g2 j hj (fun y hy => by
        rcases cells_addE hy with q | ⟨z, hz, q⟩
        · rw [q]; exact h2 e (.head _)
        · rw [← q]; exact h1 z hz) fun y hy => h2 y (.tail _ hy), g1 j hj h1]
    · rcases c2 x hx with ⟨y, hy, q⟩ | ⟨y, hy, q⟩
      · rcases cells_addE hy with r | ⟨z, hz, r⟩
        · exact .inr ⟨e, .head _, by rw [← q, r]⟩
        · exact .inl ⟨z, hz, by rw [r, q]⟩
      · exact .inr ⟨y, .tail _ hy, q⟩
noncomputable def go2_t : Expr := forT go2_it
noncomputable def go2_b : List Stmt := forB go2_it
noncomputable def inners (hf : Str → Held) (e : Ent) (c : Nat) : List Ent := ((hf e.n).zipIdx 0).map fun q => ⟨c + q.2, q.1.1, e.s ++ [(q.2, q.1.2)], e.t⟩
theorem inn_cells (hf : Str → Held) (e : Ent) (c : Nat) : (inners hf e c).map (fun e => V.cell e.c) = (List.range (hf e.n).length).map fun j => V.cell (c + j) := by
  apply List.ext_getElem?
  intro j
  simp only [inners, List.map_map, List.getElem?_map, List.getElem?_zipIdx, List.getElem?_range]
  by_cases hj : j < (hf e.n).length
  · simp [hj]
  · simp [hj]
theorem inn_mem {hf : Str → Held} {e : Ent} {c : Nat} {x : Ent} (hx : x ∈ inners hf e c) : ∃ j p, (hf e.n)[j]? = some p ∧ x = ⟨c + j, p.1, e.s ++ [(j, p.2)], e.t⟩ := by
  obtain ⟨q, hq, rfl⟩ := List.mem_map.mp hx
  exact ⟨q.2, q.1, List.mk_mem_zipIdx_iff_getElem? .. |>.mp hq, rfl⟩
theorem Lat.mono {σ σ' : St} {lv sc lc : Nat} {here : V} {sd : List (V × V)} {es : List Ent} (L : Lat σ lv sc lc here sd es) (h : ∀ j, j < σ.next → σ'.get j = σ.get j) (b1 : lv < σ.next) (b2 : sc < σ.next) (b3 : lc < σ.next) (b4 : ∀ x ∈ es, x.c < σ.next) : Lat σ' lv sc lc here sd es :=
  ⟨(h _ b1).trans L.hl, (h _ b2).trans L.hs, L.hk, (h _ b3).trans L.hd, fun e he => ⟨(h _ (b4 e he)).trans (L.ents e he).1, (L.ents e he).2⟩, L.nd, L.len, L.ne⟩
theorem go2_turn {N k i lv sc lc B bk : Nat} {hf : Str → Held} (hN : 90 ≤ N) {l : List V} {here : V} {sd : List (V × V)} {es : List Ent} {e : Ent} {loc : Loc} {σ : St} (G : Gr σ B bk hf) (L : Lat σ lv sc lc here sd es) (hi : l[i]? = some (.cell e.c)) (he : EntAt σ e) (hm : e.n ∈ names5) (hs9 : e.s.length < 800)
    (b1 : lv < lc) (b2 : sc < lc) (b3 : lc < σ.next) (b4 : ∀ x ∈ es, lc < x.c ∧ x.c < σ.next) (b5 : e.c < lc) (b6 : B ≤ lc) (h9 : es.length < 800)
    (l1 : lookS (Str.ofString "self") loc = some (.cell lv)) (l2 : lookS (Str.ofString "later") loc = some (.cell lc)) :
    ∃ loc' σ', forE (recN G0 N) fi97.scope go2_t go2_b (k + 1) (.seq (.lst l) i) loc σ = forE (recN G0 N) fi97.scope go2_t go2_b k (.seq (.lst l) (i + 1)) loc' σ' ∧
      lookS (Str.ofString "self") loc' = some (.cell lv) ∧ lookS (Str.ofString "later") loc' = some (.cell lc) ∧ σ'.next = σ.next + 1 + (hf e.n).length ∧ Lat σ' lv sc lc here sd ((inners hf e (σ.next + 1)).foldl (addE sd) es) ∧
      (∀ j, j < lc → σ'.get j = σ.get j) ∧ (∀ x ∈ (inners hf e (σ.next + 1)).foldl (addE sd) es, lc < x.c ∧ x.c < σ'.next) := by
  obtain ⟨n, rfl⟩ : ∃ n, N = n + 90 := ⟨N - 90, by omega⟩
  unfold EntAt at he
  obtain ⟨σ1, c1, c2, c3, c4, c5⟩ := embedded (N := n + 88) (by omega) G hm he (by omega) (by omega)
  have hl := L.hl
  have h4 := G.short e.n
  have L1 : Lat σ1 lv sc lc here sd es := L.mono c3 (by omega) (by omega) b3 fun x hx => (b4 x hx).2
  have hil : (inners hf e (σ.next + 1)).length = (hf e.n).length := by simp [inners]
  have hcells := inn_cells hf e (σ.next + 1)
  have hnd : ((inners hf e (σ.next + 1)).map (·.c)).Nodup := by
    have : (inners hf e (σ.next + 1)).map (·.c) = (List.range (hf e.n).length).map fun j => σ.next + 1 + j := by
      apply List.ext_getElem?
      intro j
      simp only [inners, List.map_map, List.getElem?_map, List.getElem?_zipIdx]
      by_cases hj : j < (hf e.n).length
      · simp [hj]
      · simp [hj]
    rw [this]
    exact List.Pairwise.map _ (fun a b h => by omega) List.nodup_range
  have hin : ∀ x ∈ inners hf e (σ.next + 1), _ := fun x hx => inn_mem hx
  obtain ⟨loc', σ', f1, m1, m2, n1, L2, g1, g2⟩ := Lat.loop (N := n + 89) (ec := σ.next) (by omega) (l := (List.range (hf e.n).length).map fun j => V.cell (σ.next + 1 + j)) (by omega) (inners hf e (σ.next + 1)) 0 200 hcells.symm (by omega) L1 c4
    (fun x hx => by
      obtain ⟨j, p, hp, rfl⟩ := hin x hx
      have hj := (List.getElem?_eq_some_iff.mp hp).1
      have hmem := List.mem_of_getElem? hp
      refine ⟨c5 j p hp, names5_ok (G.cl e.n hm p hmem).1, by show σ.next + 1 + j ≠ lv; omega, by show σ.next + 1 + j ≠ sc; omega, by show σ.next + 1 + j ≠ lc; omega, by show σ.next + 1 + j ≠ σ.next; omega, fun y hy => ?_⟩
      have := b4 y hy
      show y.c ≠ σ.next + 1 + j
      omega) hnd (fun x hx => by have := b4 x hx; omega) (by omega) (loc := ext [(Str.ofString "reached", .cell e.c)] loc) (l_ext rfl l1) (l_ext rfl l2)
  refine ⟨loc', σ', ?_, m1, m2, by omega, L2, fun j hj => ?_, fun x hx => ?_⟩
  · apply f_step
    with_reducible apply n_seq; k_dflt rfl; assumption; k_dflt show Rec.asg _ _ (.Name _ _) _ _ _ = _; apply a_name0; kernel_rfl!; apply x_s; k_dflt show exsStep _ _ _ (_ :: _) _ _ = _; apply x_1; apply s_for; apply si_p; kernel_rfl!; apply e_fn; kernel_rfl!; k_dflt rfl; kernel_rfl!; apply evs_s; kernel_rfl!; apply e_attr; kernel_rfl!; apply e_loc; kernel_rfl!; apply l_ext; kernel_rfl!; assumption; apply v_attr; k_dflt assumption; kernel_rfl!; apply l_c; k_dflt rfl; apply evs_s; kernel_rfl!; apply e_loc; kernel_rfl!; apply l_in; k_dflt rfl; exact evs_0; assumption; apply it_l; assumption; k_dflt assumption; exact rfl
  · rw [g1 j (by omega) (fun x hx => by have := b4 x hx; omega) fun x hx => by
      obtain ⟨a, p, hp, rfl⟩ := hin x hx
      show σ.next + 1 + a ≠ j
      omega, c3 j (by omega)]
  · rcases g2 x hx with ⟨y, hy, q⟩ | ⟨y, hy, q⟩
    · have := b4 y hy; omega
    · obtain ⟨a, p, hp, rfl⟩ := hin y hy
      have hj := (List.getElem?_eq_some_iff.mp hp).1
      simp only at q
      omega
noncomputable abbrev Tri := Str × Steps × Bool
noncomputable def tri (e : Ent) : Tri := (e.n, e.s, e.t)
noncomputable def hasP (o : Str) : List Tri → Bool
  | [] => false
  | x :: r => cond (sEq x.1 o) true (hasP o r)
noncomputable def setP (o : Str) : List Tri → List Tri
  | [] => []
  | x :: r => cond (sEq x.1 o) ((x.1, x.2.1, true) :: r) (x :: setP o r)
noncomputable def addP (seen : Str → Bool) (ts : List Tri) (t : Tri) : List Tri := cond (hasP t.1 ts) (setP t.1 ts) (cond (seen t.1) ts (ts ++ [t]))
noncomputable def innP (hf : Str → Held) (t : Tri) : List Tri := ((hf t.1).zipIdx 0).map fun q => (q.1.1, t.2.1 ++ [(q.2, q.1.2)], t.2.2)
noncomputable def inSd (sd : List (V × V)) (o : Str) : Bool := (dictFindV (.str o) sd).isSome
noncomputable def goP (hf : Str → Held) (seen : Str → Bool) (ts : List Tri) : List Tri := ts.foldl (fun acc t => (innP hf t).foldl (addP seen) acc) []
theorem has_tri (o : Str) : ∀ es : List Ent, hasP o (es.map tri) = (findE o es).isSome
  | [] => rfl
  | x :: r => by
    show cond (sEq x.n o) true (hasP o (r.map tri)) = (cond (sEq x.n o) (some x) (findE o r)).isSome
    rw [has_tri o r]
    cases sEq x.n o <;> rfl
theorem set_tri (o : Str) : ∀ es : List Ent, (setT o es).map tri = setP o (es.map tri)
  | [] => rfl
  | x :: r => by
    show List.map tri (cond (sEq x.n o) (⟨x.c, x.n, x.s, true⟩ :: r) (x :: setT o r)) = cond (sEq x.n o) ((x.n, x.s, true) :: r.map tri) (tri x :: setP o (r.map tri))
    rw [← set_tri o r]
    cases sEq x.n o <;> rfl
theorem add_tri (sd : List (V × V)) (es : List Ent) (e : Ent) : (addE sd es e).map tri = addP (inSd sd) (es.map tri) (tri e) := by
  show _ = cond (hasP e.n (es.map tri)) (setP e.n (es.map tri)) (cond (inSd sd e.n) (es.map tri) (es.map tri ++ [tri e]))
  rw [has_tri e.n es]
  unfold addE inSd
  cases (findE e.n es).isSome with
  | true => exact set_tri e.n es
  | false =>
    cases (dictFindV (.str e.n) sd).isSome with
    | true => rfl
    | false => exact List.map_append ..
theorem fold_tri (sd : List (V × V)) : ∀ (l es : List Ent), (l.foldl (addE sd) es).map tri = (l.map tri).foldl (addP (inSd sd)) (es.map tri)
  | [], _ => rfl
  | e :: l, es => by
    simp only [List.foldl_cons, List.map_cons]
    rw [fold_tri sd l, add_tri]
theorem inn_tri (hf : Str → Held) (e : Ent) (c : Nat) : (inners hf e c).map tri = innP hf (tri e) := by
  simp only [inners, innP, tri, List.map_map]
  rfl
theorem fold_len (sd : List (V × V)) : ∀ (l es : List Ent), (l.foldl (addE sd) es).length ≤ es.length + l.length
  | [], _ => Nat.le_refl _
  | e :: l, es => by
    have h1 := fold_len sd l (addE sd es e)
    have h2 := length_addE (sd := sd) (es := es) (e := e)
    simp only [List.foldl_cons, List.length_cons]
    omega
theorem go2_loop {N lv sc lc B bk : Nat} {hf : Str → Held} (hN : 90 ≤ N) {l : List V} {here : V} {sd : List (V × V)} (b1 : lv < lc) (b2 : sc < lc) (b6 : B ≤ lc) :
    ∀ (rest : List Ent) (i fuel : Nat), l.drop i = rest.map (fun e => V.cell e.c) → rest.length < fuel → ∀ {es : List Ent} {loc : Loc} {σ : St}, Gr σ B bk hf → Lat σ lv sc lc here sd es → (∀ e ∈ rest, EntAt σ e ∧ e.n ∈ names5 ∧ e.s.length < 800 ∧ e.c < lc) →
      lc < σ.next → (∀ x ∈ es, lc < x.c ∧ x.c < σ.next) → es.length + 4 * rest.length < 800 → lookS (Str.ofString "self") loc = some (.cell lv) → lookS (Str.ofString "later") loc = some (.cell lc) →
    ∃ loc' σ' es', forE (recN G0 N) fi97.scope go2_t go2_b fuel (.seq (.lst l) i) loc σ = some (.next, loc', σ') ∧ lookS (Str.ofString "self") loc' = some (.cell lv) ∧ lookS (Str.ofString "later") loc' = some (.cell lc) ∧ σ.next ≤ σ'.next ∧
      Lat σ' lv sc lc here sd es' ∧ (∀ j, j < lc → σ'.get j = σ.get j) ∧ (∀ x ∈ es', lc < x.c ∧ x.c < σ'.next) ∧ es'.map tri = (rest.map tri).foldl (fun acc t => (innP hf t).foldl (addP (inSd sd)) acc) (es.map tri) := by
  intro rest
  induction rest with
  | nil =>
    intro i fuel hd hf' es loc σ _ L _ _ b4 _ l1 l2
    obtain ⟨k, rfl⟩ : ∃ k, fuel = k + 1 := ⟨fuel - 1, by omega⟩
    refine ⟨loc, σ, es, ?_, l1, l2, Nat.le_refl _, L, fun _ _ => rfl, b4, rfl⟩
    have : l[i]? = none := List.getElem?_eq_none (List.drop_eq_nil_iff.mp hd)
    exact f_end (n_seqE rfl this)
  | cons e rest ih =>
    intro i fuel hd hf' es loc σ G L he b3 b4 hlen l1 l2
    obtain ⟨k, rfl⟩ : ∃ k, fuel = k + 1 := ⟨fuel - 1, by omega⟩
    have hi : l[i]? = some (.cell e.c) := by
      have := congrArg (fun l => l[0]?) hd
      simpa using this
    have hr : l.drop (i + 1) = rest.map (fun e => V.cell e.c) := by
      have := congrArg List.tail hd
      simpa using this
    refine ea_0_4 (he e (.head _)) (fun a1 a2 a3 a4 => ?_)
    simp only [List.length_cons] at hlen hf'
    obtain ⟨loc1, σ1, f1, m1, m2, n1, L1, g1, c1⟩ := go2_turn (k := k) hN G L hi a1 a2 a3 b1 b2 b3 b4 a4 b6 (by omega) l1 l2
    have h4 := G.short e.n
    have hl := fold_len sd (inners hf e (σ.next + 1)) es
    have hil : (inners hf e (σ.next + 1)).length = (hf e.n).length := by simp [inners]
    obtain ⟨loc', σ', es', f2, k1, k2, n2, L2, g2, c2, t2⟩ := ih (i + 1) k hr (by omega) (G.mono fun j hj => g1 j (by omega)) L1 (fun x hx => by
      refine ea_0_4 (he x (.tail _ hx)) (fun b1 b2 b3 b4 => ?_)
      exact ⟨by unfold EntAt; rw [g1 _ b4]; exact b1, b2, b3, b4⟩) (by omega) c1 (by omega) m1 m2
    refine ⟨loc', σ', es', f1.trans f2, k1, k2, by omega, L2, fun j hj => by rw [g2 j hj, g1 j hj], c2, ?_⟩
    rw [t2, fold_tri, inn_tri]
    rfl
noncomputable def OkT (d : Nat) (t : Tri) : Prop := t.1 ∈ names5 ∧ t.2.1.length ≤ d
theorem setP_ok {d : Nat} {o : Str} : ∀ {ts : List Tri}, (∀ t ∈ ts, OkT d t) → ∀ t ∈ setP o ts, OkT d t
  | [], _ => fun t ht => (by cases ht)
  | x :: r, h => by
    show ∀ t ∈ cond (sEq x.1 o) ((x.1, x.2.1, true) :: r) (x :: setP o r), OkT d t
    cases sEq x.1 o with
    | true => exact List.forall_mem_cons.mpr ⟨h x (.head _), fun t ht => h t (.tail _ ht)⟩
    | false => exact List.forall_mem_cons.mpr ⟨h x (.head _), setP_ok fun t ht => h t (.tail _ ht)⟩
theorem addP_ok {d : Nat} {seen : Str → Bool} {ts : List Tri} {t : Tri} (h : ∀ t ∈ ts, OkT d t) (ht : OkT d t) : ∀ x ∈ addP seen ts t, OkT d x := by
  unfold addP
  cases hasP t.1 ts with
  | true => exact setP_ok h
  | false =>
    cases seen t.1 with
    | true => exact h
    | false => exact fun x hx => (List.mem_append.mp hx).elim (h x) fun hx => List.mem_singleton.mp hx ▸ ht
theorem fold_ok {d : Nat} {seen : Str → Bool} : ∀ {l ts : List Tri}, (∀ t ∈ ts, OkT d t) → (∀ t ∈ l, OkT d t) → ∀ x ∈ l.foldl (addP seen) ts, OkT d x
  | [], _, h, _ => h
  | t :: l, ts, h, hl => fold_ok (l := l) (ts := addP seen ts t) (addP_ok h (hl t (.head _))) fun x hx => hl x (.tail _ hx)
theorem goP_ok {σ : St} {B bk d : Nat} {hf : Str → Held} (G : Gr σ B bk hf) {seen : Str → Bool} : ∀ {ts acc : List Tri}, (∀ t ∈ acc, OkT (d + 1) t) → (∀ t ∈ ts, OkT d t) → ∀ x ∈ ts.foldl (fun acc t => (innP hf t).foldl (addP seen) acc) acc, OkT (d + 1) x
  | [], _, h, _ => h
  | t :: ts, acc, h, hl => goP_ok G (ts := ts) (fold_ok h fun x hx => by
      refine ea_0_2 (hl t (.head _)) (fun h1 h2 => ?_)
      obtain ⟨q, hq, rfl⟩ := List.mem_map.mp hx
      have hm : q.1 ∈ hf t.1 := List.mem_of_getElem? (List.mk_mem_zipIdx_iff_getElem? .. |>.mp hq)
      exact ⟨(G.cl t.1 h1 q.1 hm).1, by simp; omega⟩) fun x hx => hl x (.tail _ hx)
theorem later_vals (es : List Ent) : (laterV es).map (·.2) = es.map fun e => V.cell e.c := by
  simp only [laterV, List.map_map]
  rfl
structure Lev (σ : St) (B lv sc d : Nat) (sd : List (V × V)) (here : List Ent) : Prop where
  hl : σ.get lv = some (levI (.lst (here.map fun e => .cell e.c)) sc)
  hs : σ.get sc = some (.dict sd)
  hk : keysAll isStrV sd = true
  ents : ∀ e ∈ here, EntAt σ e ∧ OkT d (tri e) ∧ e.c ≠ lv ∧ e.c ≠ sc ∧ e.c < σ.next
  ne : lv ≠ sc
  b : B ≤ lv ∧ B ≤ sc ∧ lv < σ.next ∧ sc < σ.next
theorem seenP_keys : ∀ (es : List Ent) {sd : List (V × V)}, keysAll isStrV sd = true → keysAll isStrV (seenP sd es) = true
  | [], _, h => h
  | e :: es, _, h => seenP_keys es (keysAll_put rfl h)
theorem go_on {N lv sc d B bk : Nat} {hf : Str → Held} (hN : 100 ≤ N) {sd : List (V × V)} {here : List Ent} {σ : St} (G : Gr σ B bk hf) (L : Lev σ B lv sc d sd here) (h0 : d < 700) (h1 : sd.length < 300) (h2 : here.length < 100) :
    ∃ σ' here', (recN G0 N).call 97 [.cell lv] σ = some (.none, σ') ∧ σ.next ≤ σ'.next ∧ (∀ j, j < σ.next → j ≠ lv → j ≠ sc → σ'.get j = σ.get j) ∧ Lev σ' B lv sc (d + 1) (seenP sd here) here' ∧ here'.map tri = goP hf (inSd (seenP sd here)) (here.map tri) ∧ (∀ e ∈ here', σ.next < e.c) := by
  obtain ⟨n, rfl⟩ : ∃ n, N = n + 100 := ⟨N - 100, by omega⟩
  obtain ⟨hl, hs, hk, ents, ne, b1, b2, b3, b4⟩ := L
  obtain ⟨loc1, σ1, f1, m1, n1, g1, s1⟩ := go1_loop (N := n + 98) (by omega) (l := here.map fun e => V.cell e.c) here 0 200 rfl (by omega) (fun e he => ⟨(ents e he).1, (ents e he).2.2.2.1, names5_ok (ents e he).2.1.1⟩) (loc := [(Str.ofString "self", .cell lv)]) rfl ne hl hs hk (by omega)
  have hl1 : σ1.get lv = some (levI (.lst (here.map fun e => .cell e.c)) sc) := (g1 lv ne).trans hl
  have x1 : lv ≠ σ1.next := by omega
  have L0 : Lat (σ1.new (.dict [])) lv sc σ1.next (.lst (here.map fun e => .cell e.c)) (seenP sd here) [] :=
    ⟨by rw [St.get_new, if_neg (by omega)]; exact hl1, by rw [St.get_new, if_neg (by omega)]; exact s1, seenP_keys here hk, by rw [St.get_new, if_pos rfl]; rfl, fun e he => (by cases he), .nil, by simp, by omega, by omega⟩
  have G1 : Gr (σ1.new (.dict [])) B bk hf := G.mono fun j hj => by rw [St.get_new, if_neg (by omega), g1 j (by omega)]
  obtain ⟨loc2, σ2, es', f2, k1, k2, n2, L2, g2, c2, t2⟩ := go2_loop (N := n + 98) (lc := σ1.next) (by omega) (l := here.map fun e => V.cell e.c) (by omega) (by omega) (by omega) here 0 200 rfl (by omega) G1 L0
    (fun e he => by
      obtain ⟨q1, ⟨q2, q3⟩, q4, q5, q6⟩ := ents e he
      have q3 : e.s.length ≤ d := q3
      exact ⟨by unfold EntAt; rw [St.get_new, if_neg (by omega), g1 _ q5]; exact q1, q2, by omega, by omega⟩) (by rw [St.next_new]; omega) (fun x hx => by cases hx) (by simp; omega) (loc := ext [(Str.ofString "later", .cell σ1.next)] loc1) (l_ext rfl m1) (l_in rfl)
  rw [St.next_new] at n2
  have hl2 := L2.hl
  have hd2 := L2.hd
  refine ⟨σ2.set lv (levI (.lst (es'.map fun e => .cell e.c)) sc), es', ?_, by rw [St.next_set]; omega, fun j h1 h2 h3 => ?_, ⟨by rw [St.get_set, if_pos rfl], by rw [St.get_set, if_neg (Ne.symm ne)]; exact L2.hs, L2.hk, ?_, ne, b1, b2, by rw [St.next_set]; omega, by rw [St.next_set]; omega⟩, t2, fun e he => by have := (c2 e he).1; omega⟩
  · have hb : Nat.blt (laterV es').length 1000 = true := by
      have := L2.len
      rw [Nat.blt_eq]; simp [laterV]; omega
    rw [← later_vals es']
    apply c_nt (fi := fi97) (loc := [(Str.ofString "self", _)]) rfl rfl
    with_reducible apply x_s; k_dflt show exsStep _ _ _ (_ :: _) _ _ = _; apply x_p; apply s_for; apply si_p; kernel_rfl!; apply e_attr; kernel_rfl!; apply e_loc; kernel_rfl!; apply l_c; k_dflt rfl; apply v_attr; k_dflt assumption; kernel_rfl!; apply l_c; k_dflt rfl; k_dflt rfl; k_dflt assumption; k_dflt apply fl_n; apply x_name0; kernel_rfl!; apply e_dict; kernel_rfl!; exact ep_0; k_dflt rfl; apply x_p; apply s_for; apply si_p; kernel_rfl!; apply e_attr; kernel_rfl!; apply e_loc; kernel_rfl!; apply l_ext; kernel_rfl!; assumption; apply v_attr; apply g_old; assumption; k_dflt assumption; kernel_rfl!; apply l_c; k_dflt rfl; k_dflt rfl; k_dflt assumption; k_dflt apply fl_n; apply x_asg; kernel_rfl!; apply e_vals; k_dflt exact ⟨_, rfl, rfl, rfl⟩; apply e_loc; kernel_rfl!; assumption; apply at_d; assumption; assumption; apply a_attr; apply e_loc; kernel_rfl!; assumption; apply v_setA; k_dflt assumption; kernel_rfl!; exact x_0; k_dflt rfl
  · rw [St.get_set, if_neg h2, g2 j (by omega), St.get_new, if_neg (by omega), g1 j h3]
  · intro e he
    refine ea_0_5 (L2.ents e he) (fun q1 q2 q3 q4 q5 => ?_)
    refine ⟨entAt_set q1 q3, ?_, q3, q4, by rw [St.next_set]; exact (c2 e he).2⟩
    have := goP_ok G (seen := inSd (seenP sd here)) (ts := here.map tri) (acc := []) (fun t ht => by cases ht) (fun t ht => by
      obtain ⟨x, hx, rfl⟩ := List.mem_map.mp ht
      exact (ents x hx).2.1) (tri e)
    exact this (t2 ▸ List.mem_map_of_mem he)
theorem stepsV_nil : stepsV [] = .tup [] := rfl
theorem makeReached2_r {σ : St} {n : Nat} {t s : V} : callC (recN G0 (n + 20)) 39 36 [t, s] σ = some (.cell σ.next, σ.new (reachedI t s false)) := makeReached2 (Nat.le_add_left _ _)
theorem makeLevels {σ : St} {N B : Nat} {n : Str} (hN : 40 ≤ N) (hB : B ≤ σ.next) (hn : n ∈ names5) :
    ∃ σ', callC (recN G0 N) 100 90 [.cell 0, namedV n] σ = some (.cell σ.next, σ') ∧ σ'.next = σ.next + 3 ∧ (∀ j, j < σ.next → σ'.get j = σ.get j) ∧ Lev σ' B σ.next (σ.next + 2) 0 [] [⟨σ.next + 1, n, [], false⟩] := by
  obtain ⟨k, rfl⟩ : ∃ k, N = k + 40 := ⟨N - 40, by omega⟩
  have e1 : σ.next ≠ σ.next + 1 := by omega
  have e2 : σ.next ≠ σ.next + 1 + 1 := by omega
  apply Exists.intro
  constructor
  · apply c_cls
    apply c_nt (fi := fi90) (loc := [(Str.ofString "self", _), (Str.ofString "world", _), (Str.ofString "told", _)]) rfl rfl
    with_reducible apply x_s; k_dflt show exsStep _ _ _ (_ :: _) _ _ = _; apply x_asg; kernel_rfl!; apply e_loc; kernel_rfl!; apply l_c; k_dflt rfl; apply a_attr; apply e_loc; kernel_rfl!; apply l_c; k_dflt rfl; apply v_setN; kernel_rfl!; apply x_asg; kernel_rfl!; apply e_lst; kernel_rfl!; apply evs_s; kernel_rfl!; apply e_cls; kernel_rfl!; k_dflt rfl; kernel_rfl!; k_dflt rfl; apply evs_s; kernel_rfl!; apply e_loc; kernel_rfl!; apply l_c; k_dflt rfl; apply evs_s; kernel_rfl!; apply e_tup; kernel_rfl!; exact evs_0; exact evs_0; exact makeReached2_r; exact evs_0; apply a_attr; apply e_loc; kernel_rfl!; apply l_c; k_dflt rfl; apply v_setA; apply g_old; k_dflt assumption; k_dflt exact g_new; kernel_rfl!; apply x_asg; kernel_rfl!; apply e_dict; kernel_rfl!; exact ep_0; k_dflt rfl; apply a_attr; apply e_loc; kernel_rfl!; apply l_c; k_dflt rfl; apply v_setA; apply g_old; k_dflt assumption; exact g_eq; kernel_rfl!; exact x_0; exact rfl
  refine ⟨rfl, fun j hj => ?_, ⟨by rw [St.get_set, if_pos rfl]; rfl, ?_, rfl, ?_, by omega, hB, by omega, ?_, ?_⟩⟩
  · rw [St.get_set, if_neg (by omega), St.get_new, if_neg (by simp only [St.next_new, St.next_set]; omega), St.get_set, if_neg (by omega), St.get_new, if_neg (by simp only [St.next_new]; omega), St.get_new, if_neg (by omega)]
  · rw [St.get_set, if_neg (by omega), St.get_new, if_pos (by simp only [St.next_new, St.next_set])]
  · intro e he
    simp only [List.mem_singleton] at he
    subst he
    refine ⟨?_, ⟨hn, Nat.le_refl _⟩, by show σ.next + 1 ≠ σ.next; omega, by show σ.next + 1 ≠ σ.next + 2; omega, by simp only [St.next_new, St.next_set]; omega⟩
    show St.get _ (σ.next + 1) = _
    rw [St.get_set, if_neg (by omega), St.get_new, if_neg (by simp only [St.next_new, St.next_set]; omega), St.get_set, if_neg (by omega), St.get_new, if_pos (by simp only [St.next_new])]
    rfl
  · simp only [St.next_new, St.next_set]; omega
  · simp only [St.next_new, St.next_set]; omega
noncomputable def least_F : Stmt := fi549.body.getD 2 (.Pass p0)
noncomputable def least_t : Expr := forT least_F
noncomputable def least_b : List Stmt := forB least_F
noncomputable def leastV (L : List (Str × Nat)) : List (V × V) := L.map fun p => (.str p.1, .int p.2)
noncomputable def getN (n : Str) (d : Nat) : List (Str × Nat) → Nat
  | [] => d
  | p :: r => cond (sEq p.1 n) p.2 (getN n d r)
noncomputable def putN (n : Str) (v : Nat) : List (Str × Nat) → List (Str × Nat)
  | [] => [(n, v)]
  | p :: r => cond (sEq p.1 n) ((p.1, v) :: r) (p :: putN n v r)
theorem keyEq_s (a b : Str) : keyEq (.str a) (.str b) = sEq a b := rfl
theorem get_least (n : Str) (d : Nat) : ∀ L : List (Str × Nat), (dictFindV (.str n) (leastV L)).getD (.int d) = .int (getN n d L)
  | [] => rfl
  | p :: r => by
    have := get_least n d r
    show (cond (sEq p.1 n) (some (.int p.2)) (dictFindV (.str n) (leastV r))).getD (.int d) = .int (cond (sEq p.1 n) p.2 (getN n d r) : Nat)
    cases sEq p.1 n with
    | true => rfl
    | false => exact this
theorem put_least (n : Str) (v : Nat) : ∀ L : List (Str × Nat), dictPutV (.str n) (.int v) (leastV L) = leastV (putN n v L)
  | [] => rfl
  | p :: r => by
    show cond (sEq p.1 n) ((.str p.1, .int v) :: leastV r) ((.str p.1, .int p.2) :: dictPutV (.str n) (.int v) (leastV r)) = leastV (cond (sEq p.1 n) ((p.1, v) :: r) (p :: putN n v r))
    rw [put_least n v r]
    cases sEq p.1 n <;> rfl
theorem least_keys : ∀ L : List (Str × Nat), keysAll isStrV (leastV L) = true
  | [] => rfl
  | p :: r => iT rfl (least_keys r)
theorem least_turn {N k i lc : Nat} (hN : 40 ≤ N) {l : List V} {L : List (Str × Nat)} {w : Str × Steps} {loc : Loc} {σ : St} (hi : l[i]? = some (wayV w)) (on : okS w.1 = true) (hs : w.2.length < 900)
    (l1 : lookS (Str.ofString "least") loc = some (.cell lc)) (hd : σ.get lc = some (.dict (leastV L))) (hb : L.length < 900) :
    ∃ loc', forE (recN G0 N) fi549.scope least_t least_b (k + 1) (.seq (.lst l) i) loc σ = forE (recN G0 N) fi549.scope least_t least_b k (.seq (.lst l) (i + 1)) loc' (σ.set lc (.dict (leastV (putN w.1 (min (getN w.1 w.2.length L) w.2.length) L)))) ∧
      (∀ x, sEq x (Str.ofString "other") = false → sEq x (Str.ofString "steps") = false → lookS x loc' = lookS x loc) := by
  obtain ⟨n, rfl⟩ : ∃ n, N = n + 40 := ⟨N - 40, by omega⟩
  have hkey : keyOk (.str w.1) (leastV L) = true := keyOk_str on (least_keys L)
  have lw : (w.2.map stepV).length = w.2.length := List.length_map ..
  have h1 : Nat.blt (w.2.map stepV).length 1000000 = true := by rw [Nat.blt_eq, lw]; omega
  have h2 : (keyOk (.str w.1) (leastV L) && Nat.blt (leastV L).length 1000) = true := bB hkey (by rw [Nat.blt_eq]; simp [leastV]; omega)
  have h3 := get_least w.1 w.2.length L
  have h5 : (if ((w.2.length : Nat) : Int) < ((getN w.1 w.2.length L : Nat) : Int) then ((w.2.length : Nat) : Int) else ((getN w.1 w.2.length L : Nat) : Int)) = ((min (getN w.1 w.2.length L) w.2.length : Nat) : Int) := by split <;> omega
  have hm : callB σ (.builtin "min") [(dictFindV (.str w.1) (leastV L)).getD (.int (w.2.map stepV).length), .int (w.2.map stepV).length] = some (.int (min (getN w.1 w.2.length L) w.2.length : Nat)) := by
    rw [lw, h3, ← h5]; rfl
  have hi : l[i]? = some (.tup [.str w.1, .tup (w.2.map stepV)]) := hi
  rw [← put_least]
  refine ⟨ext [(Str.ofString "steps", .tup (w.2.map stepV)), (Str.ofString "other", .str w.1)] loc, ?_, fun x a b => by rw [look_way b, look_way a]; rfl⟩
  apply f_step
  with_reducible apply n_seq; k_dflt rfl; assumption; k_dflt show Rec.asg _ _ (.Tuple _ _ _) _ _ _ = _; apply a_tup; k_dflt rfl; kernel_rfl!; apply as_s; kernel_rfl!; apply a_name0; kernel_rfl!; apply as_s; kernel_rfl!; apply a_name; kernel_rfl!; exact as_0; apply x_s; k_dflt show exsStep _ _ _ (_ :: _) _ _ = _; apply x_asg; kernel_rfl!; apply e_blt; kernel_rfl!; k_dflt rfl; kernel_rfl!; apply evs_s; kernel_rfl!; apply e_meth; kernel_rfl!; apply e_loc; kernel_rfl!; apply l_ext; kernel_rfl!; assumption; apply m_of; assumption; k_dflt rfl; apply evs_s; kernel_rfl!; apply e_loc; kernel_rfl!; apply l_in; k_dflt rfl; apply evs_s; kernel_rfl!; apply e_blt; kernel_rfl!; k_dflt rfl; kernel_rfl!; apply evs_s; kernel_rfl!; apply e_loc; kernel_rfl!; apply l_in; k_dflt rfl; exact evs_0; apply b_lenT; assumption; exact evs_0; apply m_get; assumption; assumption; apply evs_s; kernel_rfl!; apply e_blt; kernel_rfl!; k_dflt rfl; kernel_rfl!; apply evs_s; kernel_rfl!; apply e_loc; kernel_rfl!; apply l_in; k_dflt rfl; exact evs_0; apply b_lenT; assumption; exact evs_0; assumption; apply a_item; kernel_rfl!; apply e_loc; kernel_rfl!; apply l_ext; kernel_rfl!; assumption; apply e_loc; kernel_rfl!; apply l_in; k_dflt rfl; apply v_std; assumption; assumption; exact x_0; exact rfl
noncomputable def leastP (L : List (Str × Nat)) (ws : List (Str × Steps)) : List (Str × Nat) := ws.foldl (fun L w => putN w.1 (min (getN w.1 w.2.length L) w.2.length) L) L
theorem length_putN (n : Str) (v : Nat) : ∀ L : List (Str × Nat), (putN n v L).length ≤ L.length + 1
  | [] => Nat.le_refl _
  | p :: r => by
    show (cond (sEq p.1 n) ((p.1, v) :: r) (p :: putN n v r)).length ≤ _
    cases sEq p.1 n with
    | true => exact Nat.le_succ _
    | false => exact Nat.succ_le_succ (length_putN n v r)
theorem least_loop {N lc : Nat} (hN : 40 ≤ N) {l : List V} :
    ∀ (rest : List (Str × Steps)) (i fuel : Nat), l.drop i = rest.map wayV → rest.length < fuel → ∀ {L : List (Str × Nat)} {loc : Loc} {σ : St}, (∀ w ∈ rest, okS w.1 = true ∧ w.2.length < 900) → L.length + rest.length < 900 →
      lookS (Str.ofString "least") loc = some (.cell lc) → σ.get lc = some (.dict (leastV L)) →
    ∃ loc' σ', forE (recN G0 N) fi549.scope least_t least_b fuel (.seq (.lst l) i) loc σ = some (.next, loc', σ') ∧ (∀ x, sEq x (Str.ofString "other") = false → sEq x (Str.ofString "steps") = false → lookS x loc' = lookS x loc) ∧
      σ'.next = σ.next ∧ (∀ j, j ≠ lc → σ'.get j = σ.get j) ∧ σ'.get lc = some (.dict (leastV (leastP L rest))) := by
  intro rest
  induction rest with
  | nil =>
    intro i fuel hd hf L loc σ _ _ _ hl
    obtain ⟨k, rfl⟩ : ∃ k, fuel = k + 1 := ⟨fuel - 1, by omega⟩
    refine ⟨loc, σ, ?_, fun _ _ _ => rfl, rfl, fun _ _ => rfl, hl⟩
    have : l[i]? = none := List.getElem?_eq_none (List.drop_eq_nil_iff.mp hd)
    exact f_end (n_seqE rfl this)
  | cons w rest ih =>
    intro i fuel hd hf L loc σ hw hlen l1 hl
    obtain ⟨k, rfl⟩ : ∃ k, fuel = k + 1 := ⟨fuel - 1, by omega⟩
    have hi : l[i]? = some (wayV w) := by
      have := congrArg (fun l => l[0]?) hd
      simpa using this
    have hr : l.drop (i + 1) = rest.map wayV := by
      have := congrArg List.tail hd
      simpa using this
    simp only [List.length_cons] at hlen hf
    obtain ⟨loc1, f1, m1⟩ := least_turn (k := k) hN hi (hw w (.head _)).1 (hw w (.head _)).2 l1 hl (by omega)
    have hp := length_putN w.1 (min (getN w.1 w.2.length L) w.2.length) L
    obtain ⟨loc', σ', f2, m2, n2, g2, h2⟩ := ih (i + 1) k hr (by omega) (L := putN w.1 (min (getN w.1 w.2.length L) w.2.length) L) (fun x hx => hw x (.tail _ hx)) (by omega) ((m1 _ (by rfl) (by rfl)).trans l1)
      (σ := σ.set lc (.dict (leastV (putN w.1 (min (getN w.1 w.2.length L) w.2.length) L)))) (by rw [St.get_set, if_pos rfl])
    exact ⟨loc', σ', f1.trans f2, fun x a b => (m2 x a b).trans (m1 x a b), n2, fun j hj => by rw [g2 j hj, St.get_set, if_neg hj], h2⟩
noncomputable def asgE : Stmt → Expr
  | .Assign _ e _ => e
  | _ => default
noncomputable def cpE : Expr → Expr
  | .ListComp e _ _ _ => e
  | _ => default
noncomputable def cpG : Expr → Comprehension
  | .ListComp _ (g :: _) _ _ => g
  | .DictComp _ _ (g :: _) _ _ => g
  | _ => default
noncomputable def cpS (sc : Scope) : Expr → Scope
  | .ListComp _ _ sc' _ => compSc sc sc'
  | .DictComp _ _ _ sc' _ => compSc sc sc'
  | _ => sc
theorem em_L {r : Rec} {sc : Scope} {c : Nat} {e : Expr} {loc : Loc} {σ σ1 : St} {v : V} {l : List V} (h : r.ev sc e loc σ = some (v, σ1)) (k : σ1.get c = some (.list l)) (q : Nat.blt l.length 1000 = true) : emitL r sc c e loc σ = some (σ1.set c (.list (l ++ [v]))) := i2 h (i1 (at_l k) (iT q rfl))
noncomputable def while549 : List Stmt := forB (fi549.body.getD 3 (.Pass p0))
noncomputable def due_F : Stmt := while549.getD 1 (.Pass p0)
noncomputable def due_t : Expr := forT due_F
noncomputable def due_b : List Stmt := forB due_F
theorem look_free (sc : Scope) {x : Str} (hx : lookS x sc.names = some .free) : ∀ l : Loc, lookS x (freeLoc sc l) = lookS x l
  | [] => rfl
  | p :: r => by
    show lookS x (cond (isFreeO (lookS p.1 sc.names)) (p :: freeLoc sc r) (freeLoc sc r)) = cond (sEq x p.1) (some p.2) (lookS x r)
    cases h : sEq x p.1 with
    | true =>
      rw [← (sEq_iff _ _).mp h, hx]
      exact iT h rfl
    | false =>
      rw [← look_free sc hx r]
      cases isFreeO (lookS p.1 sc.names) with
      | true => exact iF h rfl
      | false => rfl
noncomputable def cmpr : Expr := asgE ((forB (due_b.getD 0 (.Pass p0))).getD 0 (.Pass p0))
noncomputable def c_elt : Expr := cpE cmpr
noncomputable def c_tgt : Expr := (cpG cmpr).target
noncomputable def c_ifs : List Expr := (cpG cmpr).ifs
noncomputable def c_sc : Scope := cpS fi549.scope cmpr
noncomputable def isWay (o : Str) (size : Nat) (w : Str × Steps) : Bool := sEq w.1 o && Nat.beq w.2.length size
theorem comp_turn {N k i c : Nat} (hN : 40 ≤ N) {l acc : List V} {w : Str × Steps} {o : Str} {size : Nat} {loc : Loc} {σ : St} (hi : l[i]? = some (wayV w)) (ow : okS w.1 = true) (oo : okS o = true) (hs : w.2.length < 900)
    (l1 : lookS (Str.ofString "other") loc = some (.str o)) (l2 : lookS (Str.ofString "size") loc = some (.int size)) (hc : σ.get c = some (.list acc)) (hb : acc.length < 900) :
    ∃ loc', compE (recN G0 N) c_sc c_tgt c_ifs (emitL (recN G0 N) c_sc c c_elt) (k + 1) (.seq (.lst l) i) loc σ = compE (recN G0 N) c_sc c_tgt c_ifs (emitL (recN G0 N) c_sc c c_elt) k (.seq (.lst l) (i + 1)) loc' (cond (isWay o size w) (σ.set c (.list (acc ++ [stepsV w.2]))) σ) ∧
      lookS (Str.ofString "other") loc' = some (.str o) ∧ lookS (Str.ofString "size") loc' = some (.int size) := by
  obtain ⟨n, rfl⟩ : ∃ n, N = n + 40 := ⟨N - 40, by omega⟩
  have lw : (w.2.map stepV).length = w.2.length := List.length_map ..
  have h4 : Nat.blt (w.2.map stepV).length 1000000 = true := by rw [Nat.blt_eq, lw]; omega
  have hb' : Nat.blt acc.length 1000 = true := by rw [Nat.blt_eq]; omega
  have hi : l[i]? = some (.tup [.str w.1, .tup (w.2.map stepV)]) := hi
  have hq := q_str (σ := σ) ow oo
  unfold isWay
  cases h1 : sEq w.1 o with
  | false =>
      rw [h1] at hq
      apply Exists.intro
      constructor
      · show compE _ _ (.Tuple _ _ _) [_] (emitL _ _ _ (.Name _ _)) _ _ _ _ = _
        apply k_skip
        with_reducible apply n_seq; k_dflt rfl; assumption; apply aN_tup; k_dflt rfl; kernel_rfl!; apply al_s; kernel_rfl!; apply aN_name0; kernel_rfl!; apply al_s; kernel_rfl!; apply aN_name; kernel_rfl!; exact al_0; apply at_1; apply t_or; apply at_s; apply t_cmp; apply c_mp; kernel_rfl!; apply e_loc; kernel_rfl!; apply l_in; k_dflt rfl; apply e_loc; kernel_rfl!; apply l_ext; kernel_rfl!; assumption; apply cv_eq; assumption; apply saF; exact rfl
        rfl
      constructor
      · exact l_ext rfl l1
      · exact l_ext rfl l2
  | true =>
    rw [h1] at hq
    cases h2 : Nat.beq w.2.length size with
    | false =>
      have hd : eqTop σ (.int ((w.2.map stepV).length : Nat)) (.int (size : Nat)) = some false := congrArg some (decide_eq_false (by rw [lw]; have := Nat.ne_of_beq_eq_false h2; omega))
      apply Exists.intro
      constructor
      · show compE _ _ (.Tuple _ _ _) [_] (emitL _ _ _ (.Name _ _)) _ _ _ _ = _
        apply k_skip
        with_reducible apply n_seq; k_dflt rfl; assumption; apply aN_tup; k_dflt rfl; kernel_rfl!; apply al_s; kernel_rfl!; apply aN_name0; kernel_rfl!; apply al_s; kernel_rfl!; apply aN_name; kernel_rfl!; exact al_0; apply at_1; apply t_or; apply at_s; apply t_cmp; apply c_mp; kernel_rfl!; apply e_loc; kernel_rfl!; apply l_in; k_dflt rfl; apply e_loc; kernel_rfl!; apply l_ext; kernel_rfl!; assumption; apply cv_eq; assumption; apply saT; apply at_1; apply t_cmp; apply c_mp; kernel_rfl!; apply e_blt; kernel_rfl!; k_dflt rfl; kernel_rfl!; apply evs_s; kernel_rfl!; apply e_loc; kernel_rfl!; apply l_in; k_dflt rfl; exact evs_0; apply b_lenT; assumption; apply e_loc; kernel_rfl!; apply l_ext; kernel_rfl!; assumption; apply cv_eq; assumption
        rfl
      constructor
      · exact l_ext rfl l1
      · exact l_ext rfl l2
    | true =>
      have hd : eqTop σ (.int ((w.2.map stepV).length : Nat)) (.int (size : Nat)) = some true := congrArg some (decide_eq_true (by rw [lw]; have := Nat.eq_of_beq_eq_true h2; omega))
      apply Exists.intro
      constructor
      · show compE _ _ (.Tuple _ _ _) [_] (emitL _ _ _ (.Name _ _)) _ _ _ _ = _
        apply k_step
        with_reducible apply n_seq; k_dflt rfl; assumption; apply aN_tup; k_dflt rfl; kernel_rfl!; apply al_s; kernel_rfl!; apply aN_name0; kernel_rfl!; apply al_s; kernel_rfl!; apply aN_name; kernel_rfl!; exact al_0; apply at_1; apply t_or; apply at_s; apply t_cmp; apply c_mp; kernel_rfl!; apply e_loc; kernel_rfl!; apply l_in; k_dflt rfl; apply e_loc; kernel_rfl!; apply l_ext; kernel_rfl!; assumption; apply cv_eq; assumption; apply saT; apply at_1; apply t_cmp; apply c_mp; kernel_rfl!; apply e_blt; kernel_rfl!; k_dflt rfl; kernel_rfl!; apply evs_s; kernel_rfl!; apply e_loc; kernel_rfl!; apply l_in; k_dflt rfl; exact evs_0; apply b_lenT; assumption; apply e_loc; kernel_rfl!; apply l_ext; kernel_rfl!; assumption; apply cv_eq; assumption; apply em_L; apply e_loc; kernel_rfl!; apply l_in; k_dflt rfl; assumption; assumption
        rfl
      constructor
      · exact l_ext rfl l1
      · exact l_ext rfl l2
theorem comp_loop {N c : Nat} (hN : 40 ≤ N) {l : List V} {o : Str} {size : Nat} (oo : okS o = true) :
    ∀ (rest : List (Str × Steps)) (i fuel : Nat), l.drop i = rest.map wayV → rest.length < fuel → ∀ {acc : List V} {loc : Loc} {σ : St}, (∀ w ∈ rest, okS w.1 = true ∧ w.2.length < 900) → acc.length + rest.length < 900 →
      lookS (Str.ofString "other") loc = some (.str o) → lookS (Str.ofString "size") loc = some (.int size) → σ.get c = some (.list acc) →
    ∃ σ', compE (recN G0 N) c_sc c_tgt c_ifs (emitL (recN G0 N) c_sc c c_elt) fuel (.seq (.lst l) i) loc σ = some σ' ∧ σ'.next = σ.next ∧ (∀ j, j ≠ c → σ'.get j = σ.get j) ∧ σ'.get c = some (.list (acc ++ (rest.filter (isWay o size)).map fun w => stepsV w.2)) := by
  intro rest
  induction rest with
  | nil =>
    intro i fuel hd hf acc loc σ _ _ _ _ hc
    obtain ⟨k, rfl⟩ : ∃ k, fuel = k + 1 := ⟨fuel - 1, by omega⟩
    refine ⟨σ, ?_, rfl, fun _ _ => rfl, by simpa using hc⟩
    have : l[i]? = none := List.getElem?_eq_none (List.drop_eq_nil_iff.mp hd)
    exact k_end (n_seqE rfl this)
  | cons w rest ih =>
    intro i fuel hd hf acc loc σ hw hlen l1 l2 hc
    obtain ⟨k, rfl⟩ : ∃ k, fuel = k + 1 := ⟨fuel - 1, by omega⟩
    have hi : l[i]? = some (wayV w) := by
      have := congrArg (fun l => l[0]?) hd
      simpa using this
    have hr : l.drop (i + 1) = rest.map wayV := by
      have := congrArg List.tail hd
      simpa using this
    simp only [List.length_cons] at hlen hf
    obtain ⟨loc1, f1, m1, m2⟩ := comp_turn (k := k) hN hi (hw w (.head _)).1 oo (hw w (.head _)).2 l1 l2 hc (by omega)
    cases hq : isWay o size w with
    | true =>
      rw [hq] at f1
      obtain ⟨σ', f2, n2, g2, h2⟩ := ih (i + 1) k hr (by omega) (acc := acc ++ [stepsV w.2]) (σ := σ.set c (.list (acc ++ [stepsV w.2]))) (fun x hx => hw x (.tail _ hx)) (by simp; omega) m1 m2 (by rw [St.get_set, if_pos rfl])
      exact ⟨σ', f1.trans f2, n2, fun j hj => by rw [g2 j hj, St.get_set, if_neg hj], by rw [h2, List.filter_cons, hq]; simp⟩
    | false =>
      rw [hq] at f1
      obtain ⟨σ', f2, n2, g2, h2⟩ := ih (i + 1) k hr (by omega) (acc := acc) (σ := σ) (fun x hx => hw x (.tail _ hx)) (by omega) m1 m2 hc
      exact ⟨σ', f1.trans f2, n2, g2, by rw [h2, List.filter_cons, hq]; simp⟩
noncomputable def cpS0 (sc : Scope) : Expr → Scope
  | .ListComp _ _ sc' _ => sc'
  | .DictComp _ _ _ sc' _ => sc'
  | _ => sc
noncomputable def c_sc0 : Scope := cpS0 fi549.scope cmpr
noncomputable def dueV (o : Str) (m : Steps) (b : Bool) : V := .tup [namedV o, stepsV m, .bool b]
theorem due_turn {N k i lc dc : Nat} (hN : 60 ≤ N) {l due : List V} {W : List (Str × Steps)} {o : Str} {v size : Nat} {es : List (V × V)} {m : Steps} {loc : Loc} {σ : St} (hi : l[i]? = some (.str o)) (oo : okS o = true) (hW : ∀ w ∈ W, okS w.1 = true ∧ w.2.length < 900) (hWl : W.length < 150) (hd : σ.get lc = some (.dict es)) (hk : keysAll isStrV es = true) (hf : dictFindV (.str o) es = some (.int v))
    (l1 : lookS (Str.ofString "least") loc = some (.cell lc)) (l2 : lookS (Str.ofString "size") loc = some (.int size)) (l3 : lookS (Str.ofString "ways") loc = some (.lst (W.map wayV))) (l4 : lookS (Str.ofString "due") loc = some (.cell dc)) (hq : σ.get dc = some (.list due)) (hql : due.length < 900) (n1 : lc < σ.next) (n2 : dc < σ.next) (ne : lc ≠ dc)
    (hv : v = size) (hm : minV ((W.filter (isWay o size)).map fun w => stepsV w.2) = some (stepsV m)) :
    ∃ loc' σ', forE (recN G0 N) fi549.scope due_t due_b (k + 1) (.seq (.lst l) i) loc σ = forE (recN G0 N) fi549.scope due_t due_b k (.seq (.lst l) (i + 1)) loc' σ' ∧
      (∀ x, sEq x (Str.ofString "other") = false → sEq x (Str.ofString "some") = false → lookS x loc' = lookS x loc) ∧ σ'.next = σ.next + 1 ∧ (∀ j, j < σ.next → j ≠ dc → σ'.get j = σ.get j) ∧
      σ'.get dc = some (.list (due ++ [dueV o m (decide (1 < (W.filter (isWay o size)).length))])) := by
  obtain ⟨n, rfl⟩ : ∃ n, N = n + 60 := ⟨N - 60, by omega⟩
  have hkey : keyOk (.str o) es = true := keyOk_str oo hk
  have hvd : eqTop σ (.int v) (.int size) = some true := congrArg some (decide_eq_true (by rw [hv]))
  have hfl : (W.filter (isWay o size)).length ≤ W.length := List.length_filter_le ..
  obtain ⟨σ1, f1, q1, g1, h1⟩ := comp_loop (N := n + 57) (c := σ.next) (by omega) (l := W.map wayV) (size := size) oo W 0 200 rfl (by omega) (acc := []) (loc := freeLoc c_sc0 (ext [(Str.ofString "other", .str o)] loc)) (σ := σ.new (.list [])) hW (by simp; omega)
    ((look_free c_sc0 rfl _).trans (l_in rfl)) ((look_free c_sc0 rfl _).trans (l_ext rfl l2)) g_new
  rw [List.nil_append] at h1
  have hd1 : σ1.get dc = some (.list due) := by rw [g1 dc (by omega), St.get_new, if_neg (by omega)]; exact hq
  have hb : Nat.blt due.length 1000 = true := by rw [Nat.blt_eq]; omega
  have hb2 : Nat.blt ((W.filter (isWay o size)).map fun w => stepsV w.2).length 1000000 = true := by rw [Nat.blt_eq, List.length_map]; omega
  have hmin : callB σ1 (.builtin "min") [.cell σ.next] = some (stepsV m) := (i1 (v_lo h1) hm : bnd (listOf σ1 (.cell σ.next)) minV = some (stepsV m))
  have hdec : decide (((((W.filter (isWay o size)).map fun w => stepsV w.2).length : Nat) : Int) > 1) = decide (1 < (W.filter (isWay o size)).length) := by
    rw [List.length_map]
    by_cases h : 1 < (W.filter (isWay o size)).length
    · rw [decide_eq_true h, decide_eq_true (by omega)]
    · rw [decide_eq_false h, decide_eq_false (by omega)]
  rw [← hdec]
  refine ⟨ext [(Str.ofString "some", .cell σ.next), (Str.ofString "other", .str o)] loc, ?_⟩
  apply Exists.intro
  constructor
  · apply f_step
    with_reducible apply n_seq; k_dflt rfl; assumption; k_dflt show Rec.asg _ _ (.Name _ _) _ _ _ = _; apply a_name0; kernel_rfl!; apply x_s; k_dflt show exsStep _ _ _ (_ :: _) _ _ = _; apply x_1; apply s_if; apply t_cmp; apply c_mp; kernel_rfl!; apply e_item; kernel_rfl!; apply e_loc; kernel_rfl!; apply l_ext; kernel_rfl!; assumption; apply e_loc; kernel_rfl!; apply l_in; k_dflt rfl; apply v_itd; assumption; assumption; assumption; apply e_loc; kernel_rfl!; apply l_ext; kernel_rfl!; assumption; apply cv_eq; assumption; apply cnT; apply x_s; apply x_name; kernel_rfl!; apply e_lc; kernel_rfl!; apply si_p; kernel_rfl!; apply e_loc; kernel_rfl!; apply l_ext; kernel_rfl!; assumption; k_dflt rfl; k_dflt assumption; apply x_expr; kernel_rfl!; apply e_meth; kernel_rfl!; apply e_loc; kernel_rfl!; apply l_ext; kernel_rfl!; assumption; apply m_of; assumption; k_dflt rfl; apply evs_s; kernel_rfl!; apply e_tup; kernel_rfl!; apply evs_s; kernel_rfl!; apply e_tup; kernel_rfl!; apply evs_s; kernel_rfl!; exact e_str; apply evs_s; kernel_rfl!; apply e_loc; kernel_rfl!; apply l_in; k_dflt rfl; exact evs_0; apply evs_s; kernel_rfl!; apply e_blt; kernel_rfl!; k_dflt rfl; kernel_rfl!; apply evs_s; kernel_rfl!; apply e_loc; kernel_rfl!; apply l_in; k_dflt rfl; exact evs_0; assumption; apply evs_s; kernel_rfl!; apply e_cmp; apply c_mp; kernel_rfl!; apply e_blt; kernel_rfl!; k_dflt rfl; kernel_rfl!; apply evs_s; kernel_rfl!; apply e_loc; kernel_rfl!; apply l_in; k_dflt rfl; exact evs_0; apply b_len; apply v_lo; assumption; k_dflt rfl; assumption; exact e_int; exact cv_gt; exact evs_0; exact evs_0; apply m_app; assumption; assumption; exact x_0; exact rfl
  refine ⟨fun x a b => by rw [look_way b, look_way a]; rfl, q1, fun j h2 h3 => by rw [St.get_set, if_neg h3, g1 j (by omega), St.get_new, if_neg (by omega)], by rw [St.get_set, if_pos rfl]; rfl⟩
theorem due_skip {N k i lc : Nat} (hN : 60 ≤ N) {l : List V} {o : Str} {v size : Nat} {es : List (V × V)} {loc : Loc} {σ : St} (hi : l[i]? = some (.str o)) (oo : okS o = true) (hd : σ.get lc = some (.dict es)) (hk : keysAll isStrV es = true) (hf : dictFindV (.str o) es = some (.int v))
    (l1 : lookS (Str.ofString "least") loc = some (.cell lc)) (l2 : lookS (Str.ofString "size") loc = some (.int size)) (hv : v ≠ size) :
    ∃ loc', forE (recN G0 N) fi549.scope due_t due_b (k + 1) (.seq (.lst l) i) loc σ = forE (recN G0 N) fi549.scope due_t due_b k (.seq (.lst l) (i + 1)) loc' σ ∧
      (∀ x, sEq x (Str.ofString "other") = false → sEq x (Str.ofString "some") = false → lookS x loc' = lookS x loc) := by
  obtain ⟨n, rfl⟩ : ∃ n, N = n + 60 := ⟨N - 60, by omega⟩
  have hkey : keyOk (.str o) es = true := keyOk_str oo hk
  have hvd : eqTop σ (.int v) (.int size) = some false := congrArg some (decide_eq_false (by omega))
  refine ⟨ext [(Str.ofString "other", .str o)] loc, ?_, fun x a _ => by rw [look_way a]; rfl⟩
  apply f_step
  with_reducible apply n_seq; k_dflt rfl; assumption; k_dflt show Rec.asg _ _ (.Name _ _) _ _ _ = _; apply a_name0; kernel_rfl!; apply x_s; k_dflt show exsStep _ _ _ (_ :: _) _ _ = _; apply x_1; apply s_if; apply t_cmp; apply c_mp; kernel_rfl!; apply e_item; kernel_rfl!; apply e_loc; kernel_rfl!; apply l_ext; kernel_rfl!; assumption; apply e_loc; kernel_rfl!; apply l_in; k_dflt rfl; apply v_itd; assumption; assumption; assumption; apply e_loc; kernel_rfl!; apply l_ext; kernel_rfl!; assumption; apply cv_eq; assumption; apply cnF; apply x_s; exact x_0; exact rfl
noncomputable def dueL (W : List (Str × Steps)) (lv : Str → Nat) (mn : Str → Steps) (size : Nat) (ks : List Str) : List V := (ks.filter fun k => Nat.beq (lv k) size).map fun k => dueV k (mn k) (decide (1 < (W.filter (isWay k size)).length))
theorem due_loop {N lc dc : Nat} (hN : 60 ≤ N) {l : List V} {W : List (Str × Steps)} {size : Nat} {es : List (V × V)} {lv : Str → Nat} {mn : Str → Steps} (hW : ∀ w ∈ W, okS w.1 = true ∧ w.2.length < 900) (hWl : W.length < 150) (hk : keysAll isStrV es = true) (ne : lc ≠ dc) :
    ∀ (rest : List Str) (i fuel : Nat), l.drop i = rest.map .str → rest.length < fuel → ∀ {due : List V} {loc : Loc} {σ : St}, (∀ k ∈ rest, okS k = true ∧ dictFindV (.str k) es = some (.int (lv k)) ∧ (lv k = size → minV ((W.filter (isWay k size)).map fun w => stepsV w.2) = some (stepsV (mn k)))) →
      σ.get lc = some (.dict es) → lookS (Str.ofString "least") loc = some (.cell lc) → lookS (Str.ofString "size") loc = some (.int size) → lookS (Str.ofString "ways") loc = some (.lst (W.map wayV)) → lookS (Str.ofString "due") loc = some (.cell dc) → σ.get dc = some (.list due) → due.length + rest.length < 900 → lc < σ.next → dc < σ.next →
    ∃ loc' σ', forE (recN G0 N) fi549.scope due_t due_b fuel (.seq (.lst l) i) loc σ = some (.next, loc', σ') ∧ (∀ x, sEq x (Str.ofString "other") = false → sEq x (Str.ofString "some") = false → lookS x loc' = lookS x loc) ∧ σ.next ≤ σ'.next ∧ (∀ j, j < σ.next → j ≠ dc → σ'.get j = σ.get j) ∧
      σ'.get dc = some (.list (due ++ dueL W lv mn size rest)) := by
  intro rest
  induction rest with
  | nil =>
    intro i fuel hd hf due loc σ _ _ _ _ _ _ hq _ _ _
    obtain ⟨k, rfl⟩ : ∃ k, fuel = k + 1 := ⟨fuel - 1, by omega⟩
    refine ⟨loc, σ, ?_, fun _ _ _ => rfl, Nat.le_refl _, fun _ _ _ => rfl, by simpa [dueL] using hq⟩
    have : l[i]? = none := List.getElem?_eq_none (List.drop_eq_nil_iff.mp hd)
    exact f_end (n_seqE rfl this)
  | cons o rest ih =>
    intro i fuel hd hf due loc σ hks hlc l1 l2 l3 l4 hq hlen b1 b2
    obtain ⟨k, rfl⟩ : ∃ k, fuel = k + 1 := ⟨fuel - 1, by omega⟩
    have hi : l[i]? = some (.str o) := by
      have := congrArg (fun l => l[0]?) hd
      simpa using this
    have hr : l.drop (i + 1) = rest.map .str := by
      have := congrArg List.tail hd
      simpa using this
    simp only [List.length_cons] at hlen hf
    refine ea_0_3 (hks o (.head _)) (fun oo hfo hmo => ?_)
    by_cases hv : lv o = size
    · obtain ⟨loc1, σ1, f1, m1, n1, g1, q1⟩ := due_turn (k := k) hN hi oo hW hWl hlc hk hfo l1 l2 l3 l4 hq (by omega) b1 b2 ne hv (hmo hv)
      refine ea_2_5 (ih (i + 1) k hr (by omega) (fun x hx => hks x (.tail _ hx)) ((g1 lc b1 ne).trans hlc) ((m1 _ (by rfl) (by rfl)).trans l1) ((m1 _ (by rfl) (by rfl)).trans l2) ((m1 _ (by rfl) (by rfl)).trans l3) ((m1 _ (by rfl) (by rfl)).trans l4) q1 (by simp; omega) (by omega) (by omega)) (fun loc' σ' f2 m2 n2 g2 q2 => ?_)
      refine ⟨loc', σ', f1.trans f2, fun x a b => (m2 x a b).trans (m1 x a b), by omega, fun j h1 h2 => by rw [g2 j (by omega) h2, g1 j h1 h2], ?_⟩
      rw [q2, List.append_assoc]
      have hb : Nat.beq (lv o) size = true := by rw [hv]; exact Nat.beq_refl _
      simp only [dueL, List.filter_cons, hb, if_true, List.map_cons, List.singleton_append]
    · obtain ⟨loc1, f1, m1⟩ := due_skip (k := k) hN hi oo hlc hk hfo l1 l2 hv
      refine ea_2_5 (ih (i + 1) k hr (by omega) (fun x hx => hks x (.tail _ hx)) hlc ((m1 _ (by rfl) (by rfl)).trans l1) ((m1 _ (by rfl) (by rfl)).trans l2) ((m1 _ (by rfl) (by rfl)).trans l3) ((m1 _ (by rfl) (by rfl)).trans l4) hq (by omega) b1 b2) (fun loc' σ' f2 m2 n2 g2 q2 => ?_)
      refine ⟨loc', σ', f1.trans f2, fun x a b => (m2 x a b).trans (m1 x a b), n2, g2, ?_⟩
      rw [q2]
      have hb : Nat.beq (lv o) size = false := by
        cases h : Nat.beq (lv o) size with
        | false => rfl
        | true => exact absurd (Nat.eq_of_beq_eq_true h) hv
      simp only [dueL, List.filter_cons, hb, Bool.false_eq_true, if_false]
noncomputable def ifT : Stmt → Expr
  | .If t _ _ _ => t
  | _ => default
noncomputable def cmL : Expr → Expr
  | .Compare l _ _ _ => l
  | _ => default
noncomputable def clA : Expr → List Expr
  | .Call _ l _ _ => l
  | _ => []
theorem at_00 {r : Rec} {sc : Scope} {loc : Loc} {σ : St} : allT r sc .And [] loc σ = some (true, σ) := rfl
noncomputable def cmp2 : Expr := (clA (cmL (ifT (while549.getD 2 (.Pass p0))))).getD 0 default
noncomputable def d_elt : Expr := cpE cmp2
noncomputable def d_tgt : Expr := (cpG cmp2).target
noncomputable def d_ifs : List Expr := (cpG cmp2).ifs
noncomputable def d_sc : Scope := cpS fi549.scope cmp2
noncomputable def triV (t : Tri) : V := .tup [namedV t.1, stepsV t.2.1, .bool t.2.2]
theorem here_turn {N k i c : Nat} (hN : 40 ≤ N) {l acc : List V} {e : Ent} {loc : Loc} {σ : St} (hi : l[i]? = some (.cell e.c)) (he : EntAt σ e) (hc : σ.get c = some (.list acc)) (hb : acc.length < 900) :
    ∃ loc', compE (recN G0 N) d_sc d_tgt d_ifs (emitL (recN G0 N) d_sc c d_elt) (k + 1) (.seq (.lst l) i) loc σ = compE (recN G0 N) d_sc d_tgt d_ifs (emitL (recN G0 N) d_sc c d_elt) k (.seq (.lst l) (i + 1)) loc' (σ.set c (.list (acc ++ [triV (tri e)]))) := by
  obtain ⟨n, rfl⟩ : ∃ n, N = n + 40 := ⟨N - 40, by omega⟩
  unfold EntAt at he
  have hb' : Nat.blt acc.length 1000 = true := by rw [Nat.blt_eq]; omega
  apply Exists.intro
  show compE _ _ (.Name _ _) [] (emitL _ _ _ (.Tuple _ _ _)) _ _ _ _ = _
  apply k_step
  with_reducible apply n_seq; k_dflt rfl; assumption; apply aN_name0; kernel_rfl!; exact at_00; apply em_L; apply e_tup; kernel_rfl!; apply evs_s; kernel_rfl!; apply e_attr; kernel_rfl!; apply e_loc; kernel_rfl!; apply l_in; k_dflt rfl; apply v_attr; k_dflt assumption; kernel_rfl!; apply l_c; k_dflt rfl; apply evs_s; kernel_rfl!; apply e_attr; kernel_rfl!; apply e_loc; kernel_rfl!; apply l_in; k_dflt rfl; apply v_attr; k_dflt assumption; kernel_rfl!; apply l_c; k_dflt rfl; apply evs_s; kernel_rfl!; apply e_attr; kernel_rfl!; apply e_loc; kernel_rfl!; apply l_in; k_dflt rfl; apply v_attr; k_dflt assumption; kernel_rfl!; apply l_c; k_dflt rfl; exact evs_0; assumption; assumption
  rfl
theorem here_loop {N c : Nat} (hN : 40 ≤ N) {l : List V} :
    ∀ (rest : List Ent) (i fuel : Nat), l.drop i = rest.map (fun e => V.cell e.c) → rest.length < fuel → ∀ {acc : List V} {loc : Loc} {σ : St}, (∀ e ∈ rest, EntAt σ e ∧ e.c ≠ c) → acc.length + rest.length < 900 → σ.get c = some (.list acc) →
    ∃ σ', compE (recN G0 N) d_sc d_tgt d_ifs (emitL (recN G0 N) d_sc c d_elt) fuel (.seq (.lst l) i) loc σ = some σ' ∧ σ'.next = σ.next ∧ (∀ j, j ≠ c → σ'.get j = σ.get j) ∧ σ'.get c = some (.list (acc ++ (rest.map tri).map triV)) := by
  intro rest
  induction rest with
  | nil =>
    intro i fuel hd hf acc loc σ _ _ hc
    obtain ⟨k, rfl⟩ : ∃ k, fuel = k + 1 := ⟨fuel - 1, by omega⟩
    refine ⟨σ, ?_, rfl, fun _ _ => rfl, by simpa using hc⟩
    have : l[i]? = none := List.getElem?_eq_none (List.drop_eq_nil_iff.mp hd)
    exact k_end (n_seqE rfl this)
  | cons e rest ih =>
    intro i fuel hd hf acc loc σ he hlen hc
    obtain ⟨k, rfl⟩ : ∃ k, fuel = k + 1 := ⟨fuel - 1, by omega⟩
    have hi : l[i]? = some (.cell e.c) := by
      have := congrArg (fun l => l[0]?) hd
      simpa using this
    have hr : l.drop (i + 1) = rest.map (fun e => V.cell e.c) := by
      have := congrArg List.tail hd
      simpa using this
    simp only [List.length_cons] at hlen hf
    obtain ⟨loc1, f1⟩ := here_turn (k := k) (loc := loc) hN hi (he e (.head _)).1 hc (by omega)
    obtain ⟨σ', f2, n2, g2, h2⟩ := ih (i + 1) k hr (by omega) (acc := acc ++ [triV (tri e)]) (loc := loc1) (σ := σ.set c (.list (acc ++ [triV (tri e)]))) (fun x hx => ⟨entAt_set (he x (.tail _ hx)).1 (he x (.tail _ hx)).2, (he x (.tail _ hx)).2⟩) (by simp; omega) (by rw [St.get_set, if_pos rfl])
    exact ⟨σ', f1.trans f2, n2, fun j hj => by rw [g2 j hj, St.get_set, if_neg hj], by rw [h2]; simp⟩
noncomputable def w_test : Expr := whT (fi549.body.getD 3 (.Pass p0))
noncomputable def d_sc0 : Scope := cpS0 fi549.scope cmp2
theorem while_turn {N k B bk lv sc lc d size : Nat} {hf : Str → Held} {sd : List (V × V)} {here : List Ent} {W : List (Str × Steps)} {L : List (Str × Nat)} {lvl : Str → Nat} {mn : Str → Steps} {ks : List Str} {S : List V} {loc : Loc} {σ : St} (hN : 120 ≤ N)
    (G : Gr σ B bk hf) (Lv : Lev σ B lv sc d sd here) (hlc : σ.get lc = some (.dict (leastV L))) (c1 : B ≤ lc) (c2 : lc < σ.next) (c3 : lc ≠ lv) (c4 : lc ≠ sc) (c5 : ∀ e ∈ here, e.c ≠ lc)
    (l1 : lookS (Str.ofString "levels") loc = some (.cell lv)) (l2 : lookS (Str.ofString "size") loc = some (.int size)) (l3 : lookS (Str.ofString "ways") loc = some (.lst (W.map wayV))) (l4 : lookS (Str.ofString "least") loc = some (.cell lc))
    (hW : ∀ w ∈ W, okS w.1 = true ∧ w.2.length < 900) (hWl : W.length < 150) (h0 : d < 700) (h1 : sd.length < 300) (h2 : here.length < 100) (hne : here ≠ [])
    (hs1 : sortV ((leastV L).map (·.1)) = some (ks.map .str)) (hks : ∀ k ∈ ks, okS k = true ∧ dictFindV (.str k) (leastV L) = some (.int (lvl k)) ∧ (lvl k = size → minV ((W.filter (isWay k size)).map fun w => stepsV w.2) = some (stepsV (mn k)))) (hkl : ks.length < 100)
    (hs2 : sortV ((here.map tri).map triV) = some S) (hs3 : eqLists S (dueL W lvl mn size ks) = some true) :
    ∃ loc' σ' here', whileE (recN G0 N) fi549.scope w_test while549 (k + 1) loc σ = whileE (recN G0 N) fi549.scope w_test while549 k loc' σ' ∧
      lookS (Str.ofString "levels") loc' = some (.cell lv) ∧ lookS (Str.ofString "size") loc' = some (.int (size + 1 : Nat)) ∧ lookS (Str.ofString "ways") loc' = some (.lst (W.map wayV)) ∧ lookS (Str.ofString "least") loc' = some (.cell lc) ∧
      σ.next ≤ σ'.next ∧ (∀ j, j < σ.next → j ≠ lv → j ≠ sc → σ'.get j = σ.get j) ∧ Lev σ' B lv sc (d + 1) (seenP sd here) here' ∧ here'.map tri = goP hf (inSd (seenP sd here)) (here.map tri) ∧ (∀ e ∈ here', e.c ≠ lc) := by
  obtain ⟨n, rfl⟩ : ∃ n, N = n + 120 := ⟨N - 120, by omega⟩
  have hlv := Lv.hl
  have eL : ∀ (l : List Ent), l ≠ [] → eqLists (l.map fun e => V.cell e.c) [] = some false := fun l h => by
    cases l with
    | nil => exact absurd rfl h
    | cons a b => rfl
  have bb := Lv.b
  have e1 : lc ≠ σ.next := by omega
  obtain ⟨loc1, σ1, f1, m1, n1, g1, q1⟩ := due_loop (N := n + 119) (lc := lc) (dc := σ.next) (l := ks.map .str) (by omega) hW hWl (least_keys L) (by omega) ks 0 200 rfl (by omega) (due := []) (loc := ext [(Str.ofString "due", .cell σ.next)] loc) (σ := σ.new (.list [])) hks
    (by rw [St.get_new, if_neg (by omega)]; exact hlc) (l_ext rfl l4) (l_ext rfl l2) (l_ext rfl l3) (l_in rfl) (by rw [St.get_new, if_pos rfl]) (by simp; omega) (by rw [St.next_new]; omega) (by rw [St.next_new]; omega)
  rw [List.nil_append] at q1
  rw [St.next_new] at n1 g1
  have k1 : lookS (Str.ofString "levels") loc1 = some (.cell lv) := (m1 _ rfl rfl).trans (l_ext rfl l1)
  have k2 : lookS (Str.ofString "size") loc1 = some (.int size) := (m1 _ rfl rfl).trans (l_ext rfl l2)
  have k3 : lookS (Str.ofString "ways") loc1 = some (.lst (W.map wayV)) := (m1 _ rfl rfl).trans (l_ext rfl l3)
  have k4 : lookS (Str.ofString "least") loc1 = some (.cell lc) := (m1 _ rfl rfl).trans (l_ext rfl l4)
  have k5 : lookS (Str.ofString "due") loc1 = some (.cell σ.next) := (m1 _ rfl rfl).trans (l_in rfl)
  have hlv1 : σ1.get lv = some (.inst 100 [(Str.ofString "world", .cell 0), (Str.ofString "here", .lst (here.map fun e => .cell e.c)), (Str.ofString "seen", .cell sc)]) := by
    rw [g1 lv (by omega) (by omega), St.get_new, if_neg (by omega)]; exact hlv
  have bh := Lv.ents
  obtain ⟨σ2, f2, n2, g2, q2⟩ := here_loop (N := n + 116) (c := σ1.next) (by omega) (l := here.map fun e => V.cell e.c) here 0 200 rfl (by omega) (acc := []) (loc := freeLoc d_sc0 loc1) (σ := σ1.new (.list [])) (fun e he => by
    obtain ⟨a1, _, _, _, a5⟩ := bh e he
    exact ⟨by unfold EntAt; rw [St.get_new, if_neg (by omega), g1 _ (by omega) (by omega), St.get_new, if_neg (by omega)]; exact a1, by omega⟩) (by simp; omega) (by rw [St.get_new, if_pos rfl])
  rw [List.nil_append] at q2
  rw [St.next_new] at n2
  have fr : ∀ j, j < σ.next → σ2.get j = σ.get j := fun j hj => by rw [g2 j (by omega), St.get_new, if_neg (by omega), g1 j (by omega) (by omega), St.get_new, if_neg (by omega)]
  have hdue : σ2.get σ.next = some (.list (dueL W lvl mn size ks)) := by rw [g2 _ (by omega), St.get_new, if_neg (by omega)]; exact q1
  obtain ⟨σ3, here', f3, n3, g3, Lv3, t3, u3⟩ := go_on (N := n + 118) (by omega) (G.mono (σ' := σ2) fun j hj => fr j (by omega)) (sd := sd) (here := here) (lv := lv) (sc := sc) (d := d)
    ⟨(fr lv (by omega)).trans Lv.hl, (fr sc (by omega)).trans Lv.hs, Lv.hk, fun e he => by
      refine ea_0_5 (bh e he) (fun a1 a2 a3 a4 a5 => ?_)
      exact ⟨(fr _ a5).trans a1, a2, a3, a4, by omega⟩, Lv.ne, bb.1, bb.2.1, by omega, by omega⟩ h0 h1 h2
  have he3 : cmpV σ2 .NotEq (.lst S) (.cell σ.next) = some (!true) := cv_ne (oS rfl (i1 (v_lo hdue) hs3))
  have hsl : callB (σ.new (.list [])) (.builtin "sorted") [.cell lc] = some (.lst (ks.map .str)) := b_sort (oN (no_l (g_old e1 hlc)) (i1 (at_d (g_old e1 hlc)) rfl)) hs1
  have hst : callB σ2 (.builtin "sorted") [.cell σ1.next] = some (.lst S) := b_sort (oS (at_l q2) rfl) hs2
  have hwt : cmpV σ .NotEq (.lst (here.map fun e => .cell e.c)) (.lst []) = some true := cv_ne (B := false) (eL here hne)
  have hlv2 : σ2.get lv = some (.inst 100 [(Str.ofString "world", .cell 0), (Str.ofString "here", .lst (here.map fun e => .cell e.c)), (Str.ofString "seen", .cell sc)]) := (fr lv (by omega)).trans hlv
  refine ⟨ext [(Str.ofString "size", .int (size + 1))] loc1, σ3, here', ?_, l_ext rfl k1, l_in rfl, l_ext rfl k3, l_ext rfl k4, by omega, fun j hj a b => by rw [g3 j (by omega) a b, fr j hj], Lv3, t3, fun e he => by have := u3 e he; omega⟩
  have hlv0 : σ.get lv = some (.inst 100 [(Str.ofString "world", .cell 0), (Str.ofString "here", .lst (here.map fun e => .cell e.c)), (Str.ofString "seen", .cell sc)]) := hlv
  apply w_step
  · show (recN G0 _).isT _ (.Compare _ _ _ _) _ _ = _
    with_reducible apply t_cmp; apply c_mp; kernel_rfl!; apply e_attr; kernel_rfl!; apply e_loc; kernel_rfl!; assumption; apply v_attr; assumption; kernel_rfl!; apply l_c; k_dflt rfl; apply e_lst; kernel_rfl!; exact evs_0; assumption
  · with_reducible apply x_s; k_dflt show exsStep _ _ _ (_ :: _) _ _ = _; apply x_name0; kernel_rfl!; apply e_cell; kernel_rfl!; exact evs_0; apply x_p; apply s_for; apply si_p; kernel_rfl!; apply e_blt; kernel_rfl!; k_dflt rfl; kernel_rfl!; apply evs_s; kernel_rfl!; apply e_loc; kernel_rfl!; apply l_ext; kernel_rfl!; assumption; exact evs_0; assumption; k_dflt rfl; k_dflt assumption; k_dflt apply fl_n; apply x_p; apply s_if; apply t_cmp; apply c_mp; kernel_rfl!; apply e_blt; kernel_rfl!; k_dflt rfl; kernel_rfl!; apply evs_s; kernel_rfl!; apply e_lc; kernel_rfl!; apply si_p; kernel_rfl!; apply e_attr; kernel_rfl!; apply e_loc; kernel_rfl!; assumption; apply v_attr; assumption; kernel_rfl!; apply l_c; k_dflt rfl; k_dflt rfl; k_dflt assumption; exact evs_0; assumption; apply e_loc; kernel_rfl!; assumption; assumption; apply cnnT; apply x_s; exact x_0; k_dflt apply fl_n; apply x_expr; kernel_rfl!; apply e_meth; kernel_rfl!; apply e_loc; kernel_rfl!; assumption; apply m_of; assumption; apply mc_i; k_dflt rfl; exact m_go_on; exact evs_0; apply m_fn; assumption; apply x_name0; kernel_rfl!; apply e_bin; apply e_loc; kernel_rfl!; assumption; exact e_int; exact add_i; exact x_0
  with_reducible exact rfl
noncomputable def seenN (sd : List (V × V)) (ts : List Tri) : List (V × V) := ts.foldl (fun sd t => dictPutV (.str t.1) (.bool true) sd) sd
theorem seenP_tri : ∀ (es : List Ent) (sd : List (V × V)), seenP sd es = seenN sd (es.map tri)
  | [], _ => rfl
  | e :: es, sd => seenP_tri es (dictPutV (.str e.n) (.bool true) sd)
inductive Good (hf : Str → Held) (W : List (Str × Steps)) (lvl : Str → Nat) (mn : Str → Steps) (ks : List Str) : Nat → List (V × V) → List Tri → Nat → Prop
  | stop {size : Nat} {sd : List (V × V)} : Good hf W lvl mn ks size sd [] size
  | step {size fin : Nat} {sd : List (V × V)} {ts : List Tri} {S : List V} : ts ≠ [] → ts.length < 100 → sd.length < 300 → (∀ k ∈ ks, lvl k = size → minV ((W.filter (isWay k size)).map fun w => stepsV w.2) = some (stepsV (mn k))) → sortV (ts.map triV) = some S → eqLists S (dueL W lvl mn size ks) = some true →
      Good hf W lvl mn ks (size + 1) (seenN sd ts) (goP hf (inSd (seenN sd ts)) ts) fin → Good hf W lvl mn ks size sd ts fin
theorem while_all {N B bk lv sc lc : Nat} {hf : Str → Held} {W : List (Str × Steps)} {L : List (Str × Nat)} {lvl : Str → Nat} {mn : Str → Steps} {ks : List Str} (hN : 120 ≤ N) (c1 : B ≤ lc) (c3 : lc ≠ lv) (c4 : lc ≠ sc)
    (hW : ∀ w ∈ W, okS w.1 = true ∧ w.2.length < 900) (hWl : W.length < 150) (hs1 : sortV ((leastV L).map (·.1)) = some (ks.map .str)) (hks : ∀ k ∈ ks, okS k = true ∧ dictFindV (.str k) (leastV L) = some (.int (lvl k))) (hkl : ks.length < 100)
    {size fin : Nat} {sd : List (V × V)} {ts : List Tri} (g : Good hf W lvl mn ks size sd ts fin) : ∀ {d fuel : Nat} {here : List Ent} {loc : Loc} {σ : St}, here.map tri = ts → d + (fin - size) < 700 → fin - size < fuel → Gr σ B bk hf → Lev σ B lv sc d sd here → σ.get lc = some (.dict (leastV L)) → lc < σ.next → (∀ e ∈ here, e.c ≠ lc) →
      lookS (Str.ofString "levels") loc = some (.cell lv) → lookS (Str.ofString "size") loc = some (.int size) → lookS (Str.ofString "ways") loc = some (.lst (W.map wayV)) → lookS (Str.ofString "least") loc = some (.cell lc) →
    ∃ loc' σ', whileE (recN G0 N) fi549.scope w_test while549 fuel loc σ = some (.next, loc', σ') ∧ lookS (Str.ofString "size") loc' = some (.int fin) ∧ lookS (Str.ofString "least") loc' = some (.cell lc) ∧ σ'.get lc = some (.dict (leastV L)) ∧ σ.next ≤ σ'.next ∧ (∀ j, j < σ.next → j ≠ lv → j ≠ sc → σ'.get j = σ.get j) ∧ size ≤ fin := by
  induction g with
  | stop =>
    intro d fuel here loc σ ht _ hf2 G Lv hl _ _ l1 l2 l3 l4
    obtain ⟨k, rfl⟩ : ∃ k, fuel = k + 1 := ⟨fuel - 1, by omega⟩
    obtain ⟨n, rfl⟩ : ∃ n, N = n + 120 := ⟨N - 120, by omega⟩
    have hh : here = [] := by simpa using ht
    subst hh
    have hlv := Lv.hl
    have hlv0 : σ.get lv = some (.inst 100 [(Str.ofString "world", .cell 0), (Str.ofString "here", .lst []), (Str.ofString "seen", .cell sc)]) := hlv
    have hwt : cmpV σ .NotEq (.lst []) (.lst []) = some false := rfl
    refine ⟨loc, σ, ?_, l2, l4, hl, Nat.le_refl _, fun _ _ _ _ => rfl, Nat.le_refl _⟩
    apply w_end
    show (recN G0 _).isT _ (.Compare _ _ _ _) _ _ = _
    with_reducible apply t_cmp; apply c_mp; kernel_rfl!; apply e_attr; kernel_rfl!; apply e_loc; kernel_rfl!; assumption; apply v_attr; assumption; kernel_rfl!; apply l_c; k_dflt rfl; apply e_lst; kernel_rfl!; exact evs_0; assumption
  | @step size fin sd ts S hne h2 h1 hmn hsort heq _ ih =>
    intro d fuel here loc σ ht hd hf2 G Lv hl c2 c5 l1 l2 l3 l4
    obtain ⟨k, rfl⟩ : ∃ k, fuel = k + 1 := ⟨fuel - 1, by omega⟩
    subst ht
    have hlen : here.length < 100 := by simpa using h2
    obtain ⟨loc1, σ1, here1, f1, m1, m2, m3, m4, n1, g1, Lv1, t1, u1⟩ := while_turn (k := k) hN G Lv hl c1 c2 c3 c4 c5 l1 l2 l3 l4 hW hWl (by omega) h1 hlen (fun q => hne (by rw [q]; rfl)) hs1 (fun x hx => ⟨(hks x hx).1, (hks x hx).2, hmn x hx⟩) hkl hsort heq
    rw [seenP_tri] at t1 Lv1
    have hfin : size + 1 ≤ fin := by
      rename_i gg
      clear ih
      have : ∀ {a b : Nat} {sd : List (V × V)} {ts : List Tri}, Good hf W lvl mn ks a sd ts b → a ≤ b := by
        intro a b sd ts g
        induction g with
        | stop => exact Nat.le_refl _
        | step _ _ _ _ _ _ _ ih => omega
      exact this gg
    obtain ⟨loc', σ', f2, k2, k4, hl2, n2, g2, hle⟩ := ih (d := d + 1) (fuel := k) t1 (by omega) (by omega) (G.mono fun j hj => by have := Lv.b; exact g1 j (by omega) (by omega) (by omega)) Lv1 ((g1 lc c2 c3 c4).trans hl) (by omega) u1 m1 m2 m3 m4
    exact ⟨loc', σ', f1.trans f2, k2, k4, hl2, by omega, fun j hj a b => by rw [g2 j (by omega) a b, g1 j hj a b], by omega⟩
noncomputable def rtE : Stmt → Expr
  | .Return (some e) _ => e
  | _ => default
noncomputable def cmR : Expr → Expr
  | .Compare _ _ (r :: _) _ => r
  | _ => default
noncomputable def bnR : Expr → Expr
  | .BinOp _ _ r _ => r
  | _ => default
noncomputable def cmp3 : Expr := (clA (bnR (cmR (rtE (fi549.body.getD 4 (.Pass p0)))))).getD 0 default
noncomputable def x_elt : Expr := cpE cmp3
noncomputable def x_tgt : Expr := (cpG cmp3).target
noncomputable def x_ifs : List Expr := (cpG cmp3).ifs
noncomputable def x_sc0 : Scope := cpS0 fi549.scope cmp3
noncomputable def x_sc : Scope := cpS fi549.scope cmp3
theorem max_turn {N k i c lc : Nat} (hN : 40 ≤ N) {L : List (Str × Nat)} {acc : List V} {p : Str × Nat} {loc : Loc} {σ : St} (hd : σ.get lc = some (.dict (leastV L))) (hi : L[i]? = some p) (on : okS p.1 = true) (hf : dictFindV (.str p.1) (leastV L) = some (.int p.2))
    (l1 : lookS (Str.ofString "least") loc = some (.cell lc)) (hc : σ.get c = some (.list acc)) (hb : acc.length < 900) (ne : lc ≠ c) :
    ∃ loc', compE (recN G0 N) x_sc x_tgt x_ifs (emitL (recN G0 N) x_sc c x_elt) (k + 1) (.dict lc i L.length) loc σ = compE (recN G0 N) x_sc x_tgt x_ifs (emitL (recN G0 N) x_sc c x_elt) k (.dict lc (i + 1) L.length) loc' (σ.set c (.list (acc ++ [.int p.2]))) ∧
      lookS (Str.ofString "least") loc' = some (.cell lc) := by
  obtain ⟨n, rfl⟩ : ∃ n, N = n + 40 := ⟨N - 40, by omega⟩
  have hb' : Nat.blt acc.length 1000 = true := by rw [Nat.blt_eq]; omega
  have hkey : keyOk (.str p.1) (leastV L) = true := keyOk_str on (least_keys L)
  have hl : (leastV L).length = L.length := by simp [leastV]
  have hi' : (leastV L)[i]? = some (.str p.1, .int p.2) := by simp [leastV, hi]
  have hq : (Nat.beq (leastV L).length L.length && keysAll isStrV (leastV L)) = true := by rw [hl, Nat.beq_refl, least_keys]; rfl
  refine ⟨ext [(Str.ofString "other", .str p.1)] loc, ?_, l_ext rfl l1⟩
  show compE _ _ (.Name _ _) [] (emitL _ _ _ (.Subscript _ _ _)) _ _ _ _ = _
  apply k_step
  with_reducible apply n_dic; assumption; assumption; assumption; apply aN_name0; kernel_rfl!; exact at_00; apply em_L; apply e_item; kernel_rfl!; apply e_loc; kernel_rfl!; apply l_ext; kernel_rfl!; assumption; apply e_loc; kernel_rfl!; apply l_in; k_dflt rfl; apply v_itd; assumption; assumption; assumption; assumption; assumption
  rfl
theorem max_loop {N c lc : Nat} (hN : 40 ≤ N) {L : List (Str × Nat)} (hL : ∀ p ∈ L, okS p.1 = true ∧ dictFindV (.str p.1) (leastV L) = some (.int p.2)) (ne : lc ≠ c) :
    ∀ (rest : List (Str × Nat)) (i fuel : Nat), L.drop i = rest → rest.length < fuel → ∀ {acc : List V} {loc : Loc} {σ : St}, σ.get lc = some (.dict (leastV L)) → lookS (Str.ofString "least") loc = some (.cell lc) → acc.length + rest.length < 900 → σ.get c = some (.list acc) →
    ∃ σ', compE (recN G0 N) x_sc x_tgt x_ifs (emitL (recN G0 N) x_sc c x_elt) fuel (.dict lc i L.length) loc σ = some σ' ∧ σ'.next = σ.next ∧ (∀ j, j ≠ c → σ'.get j = σ.get j) ∧ σ'.get c = some (.list (acc ++ rest.map fun p => V.int p.2)) := by
  intro rest
  induction rest with
  | nil =>
    intro i fuel hd hf acc loc σ hl _ _ hc
    obtain ⟨k, rfl⟩ : ∃ k, fuel = k + 1 := ⟨fuel - 1, by omega⟩
    refine ⟨σ, ?_, rfl, fun _ _ => rfl, by simpa using hc⟩
    have hn : (leastV L)[i]? = none := by
      have := List.drop_eq_nil_iff.mp hd
      simp [leastV, this]
    have hl' : (leastV L).length = L.length := by simp [leastV]
    have hq : (Nat.beq (leastV L).length L.length && keysAll isStrV (leastV L)) = true := by rw [hl', Nat.beq_refl, least_keys]; rfl
    exact k_end (n_dicE hl hq hn)
  | cons p rest ih =>
    intro i fuel hd hf acc loc σ hl l1 hlen hc
    obtain ⟨k, rfl⟩ : ∃ k, fuel = k + 1 := ⟨fuel - 1, by omega⟩
    have hi : L[i]? = some p := by
      have := congrArg (fun l => l[0]?) hd
      simpa using this
    have hr : L.drop (i + 1) = rest := by
      have := congrArg List.tail hd
      simpa using this
    have hm : p ∈ L := List.mem_of_getElem? hi
    simp only [List.length_cons] at hlen hf
    obtain ⟨loc1, f1, m1⟩ := max_turn (k := k) hN hl hi (hL p hm).1 (hL p hm).2 l1 hc (by omega) ne
    obtain ⟨σ', f2, n2, g2, h2⟩ := ih (i + 1) k hr (by omega) (acc := acc ++ [.int p.2]) (loc := loc1) (σ := σ.set c (.list (acc ++ [.int p.2]))) (by rw [St.get_set, if_neg ne]; exact hl) m1 (by simp; omega) (by rw [St.get_set, if_pos rfl])
    exact ⟨σ', f1.trans f2, n2, fun j hj => by rw [g2 j hj, St.get_set, if_neg hj], by rw [h2]; simp⟩
theorem ints_least : ∀ (L : List (Str × Nat)), intsV (L.map fun p => V.int p.2) = some (L.map fun p => (p.2 : Int))
  | [] => rfl
  | p :: r => by
    exact i1 rfl (i1 (ints_least r) rfl)
theorem levelsRight {N B bk fin : Nat} {hf : Str → Held} {n : Str} {σ : St} {L : List (Str × Nat)} {lvl : Str → Nat} {mn : Str → Steps} {ks : List Str} {x : Int} {r : List Int} (hN : 130 ≤ N) (G : Gr σ B bk hf) (hB : B ≤ σ.next) (hn : n ∈ names5) (hdep : Dep hf 4 n)
    (hW : ∀ w ∈ waysN hf 4 n [], okS w.1 = true ∧ w.2.length < 900) (hWl : (waysN hf 4 n []).length < 150) (hL : L = leastP [] (waysN hf 4 n [])) (hs1 : sortV ((leastV L).map (·.1)) = some (ks.map .str)) (hks : ∀ k ∈ ks, okS k = true ∧ dictFindV (.str k) (leastV L) = some (.int (lvl k))) (hkl : ks.length < 100)
    (g : Good hf (waysN hf 4 n []) lvl mn ks 0 [] [(n, [], false)] fin) (hfin : fin < 100) (hL2 : ∀ p ∈ L, okS p.1 = true ∧ dictFindV (.str p.1) (leastV L) = some (.int p.2)) (hx : L.map (fun p => (p.2 : Int)) = x :: r) (hmax : (fin : Int) = 1 + maxGo x r) (hLl : L.length < 100) :
    ∃ σ', (recN G0 N).call 549 [.cell 0, .cell bk, .str n] σ = some (.bool true, σ') ∧ σ.next ≤ σ'.next ∧ ∀ j, j < σ.next → σ'.get j = σ.get j := by
  obtain ⟨k, rfl⟩ : ∃ k, N = k + 130 := ⟨N - 130, by omega⟩
  have hways : (recN G0 (k + 126)).call 544 [.cell bk, .str n, .tup []] σ = some (.lst ((waysN hf 4 n []).map wayV), σ) := ways (fun n => G.short n) names5 (fun m hm => G.holds hB hm) (fun m hm p hp => (G.cl m hm p hp).1) 4 (k + 126) n [] (by omega) (by omega) hn hdep (by simp)
  obtain ⟨σ1, h1, n1, g1, Lv1⟩ := makeLevels (N := k + 126) (by omega) hB hn
  have h1 : callC (recN G0 (k + 126)) 100 90 [.cell 0, .tup [.str (Str.ofString "named"), .str n]] σ = some (.cell σ.next, σ1) := h1
  obtain ⟨loc2, σ2, f2, m2, n2, g2, q2⟩ := least_loop (N := k + 128) (lc := σ1.next) (by omega) (l := (waysN hf 4 n []).map wayV) (waysN hf 4 n []) 0 200 rfl (by omega) (L := [])
    (loc := ext [(Str.ofString "least", .cell σ1.next), (Str.ofString "size", .int 0), (Str.ofString "levels", .cell σ.next), (Str.ofString "ways", .lst ((waysN hf 4 n []).map wayV))] [(Str.ofString "world", .cell 0), (Str.ofString "book", .cell bk), (Str.ofString "name", .str n)]) (σ := σ1.new (.dict [])) hW (by simp; omega) rfl (by rw [St.get_new, if_pos rfl]; rfl)
  rw [St.next_new] at n2
  rw [← hL] at q2
  have fr2 : ∀ j, j < σ1.next → σ2.get j = σ1.get j := fun j hj => by rw [g2 j (by omega), St.get_new, if_neg (by omega)]
  have Lv2 : Lev σ2 B σ.next (σ.next + 2) 0 [] [⟨σ.next + 1, n, [], false⟩] :=
    ⟨(fr2 _ (by omega)).trans Lv1.hl, (fr2 _ (by omega)).trans Lv1.hs, rfl, fun e he => by
      refine ea_0_5 (Lv1.ents e he) (fun a1 a2 a3 a4 a5 => ?_)
      exact ⟨(fr2 _ a5).trans a1, a2, a3, a4, by omega⟩, by omega, hB, by omega, by omega, by omega⟩
  obtain ⟨loc3, σ3, f3, s3, t3, q3, n3, g3, _⟩ := while_all (N := k + 128) (lc := σ1.next) (L := L) (by omega) (by omega) (by omega) (by omega) hW hWl hs1 hks hkl g (d := 0) (fuel := 200) (here := [⟨σ.next + 1, n, [], false⟩]) (loc := loc2) (σ := σ2) rfl (by omega) (by omega)
    (G.mono fun j hj => by rw [fr2 j (by omega), g1 j (by omega)]) Lv2 q2 (by omega) (fun e he => by simp at he; subst he; show σ.next + 1 ≠ σ1.next; omega) (m2 _ (by rfl) (by rfl)) (m2 _ (by rfl) (by rfl)) (m2 _ (by rfl) (by rfl)) (m2 _ (by rfl) (by rfl))
  obtain ⟨σ4, f4, n4, g4, q4⟩ := max_loop (N := k + 124) (c := σ3.next) (lc := σ1.next) (by omega) hL2 (by omega) L 0 200 rfl (by omega) (acc := []) (loc := freeLoc x_sc0 loc3) (σ := σ3.new (.list [])) (by rw [St.get_new, if_neg (by omega)]; exact q3) ((look_free x_sc0 rfl _).trans t3) (by simp; omega) (by rw [St.get_new, if_pos rfl])
  have hLv : (leastV L).length = L.length := by simp [leastV]
  have hkeys := least_keys L
  have hpos : Nat.blt 0 L.length = true := by
    rw [Nat.blt_eq]
    cases L with
    | nil => simp at hx
    | cons a b => simp
  have hints : intsV (L.map fun p => V.int p.2) = some (x :: r) := by rw [ints_least, hx]
  have hdec : decide ((fin : Int) = 1 + maxGo x r) = true := decide_eq_true hmax
  rw [List.nil_append] at q4
  rw [St.next_new] at n4
  have hr : (recN G0 (k + 130)).call 549 [.cell 0, .cell bk, .str n] σ = some (.bool true, σ4) := by
    have hit : iterV σ3 (.cell σ1.next) = some (.dict σ1.next 0 L.length) := by
      have := it_d q3 (bB (hLv ▸ hpos) hkeys)
      rwa [hLv] at this
    have hmx : callB σ4 (.builtin "max") [.cell σ3.next] = some (.int (maxGo x r)) := (i1 (v_lo q4) (i1 hints rfl) : bnd (listOf σ4 (.cell σ3.next)) (fun l => bnd (intsV l) maxL) = some (.int (maxGo x r)))
    have hcm : cmpV σ4 .Eq (.int fin) (.int (1 + maxGo x r)) = some true := congrArg some hdec
    apply c_to (fi := fi549) (loc := [(Str.ofString "world", _), (Str.ofString "book", _), (Str.ofString "name", _)]) rfl rfl
    with_reducible apply x_s; k_dflt show exsStep _ _ _ (_ :: _) _ _ = _; apply x_asg; kernel_rfl!; apply e_tup; kernel_rfl!; apply evs_s; kernel_rfl!; apply e_fn; kernel_rfl!; k_dflt rfl; kernel_rfl!; apply evs_s; kernel_rfl!; apply e_loc; kernel_rfl!; apply l_c; k_dflt rfl; apply evs_s; kernel_rfl!; apply e_loc; kernel_rfl!; apply l_c; k_dflt rfl; apply evs_s; kernel_rfl!; apply e_tup; kernel_rfl!; exact evs_0; exact evs_0; assumption; apply evs_s; kernel_rfl!; apply e_cls; kernel_rfl!; k_dflt rfl; kernel_rfl!; k_dflt rfl; apply evs_s; kernel_rfl!; apply e_loc; kernel_rfl!; apply l_c; k_dflt rfl; apply evs_s; kernel_rfl!; apply e_tup; kernel_rfl!; apply evs_s; kernel_rfl!; exact e_str; apply evs_s; kernel_rfl!; apply e_loc; kernel_rfl!; apply l_c; k_dflt rfl; exact evs_0; exact evs_0; assumption; apply evs_s; kernel_rfl!; exact e_int; exact evs_0; apply a_tup; k_dflt rfl; kernel_rfl!; apply as_s; kernel_rfl!; apply a_name0; kernel_rfl!; apply as_s; kernel_rfl!; apply a_name; kernel_rfl!; apply as_s; kernel_rfl!; apply a_name; kernel_rfl!; exact as_0; apply x_name; kernel_rfl!; apply e_dict; kernel_rfl!; exact ep_0; k_dflt rfl; apply x_p; k_dflt assumption; k_dflt apply fl_n; apply x_p; k_dflt assumption; k_dflt apply fl_n; apply x_ret; apply e_cmp; apply c_mp; kernel_rfl!; apply e_loc; kernel_rfl!; assumption; apply e_bin; exact e_int; apply e_blt; kernel_rfl!; k_dflt rfl; kernel_rfl!; apply evs_s; kernel_rfl!; apply e_lc; kernel_rfl!; apply si_p; kernel_rfl!; apply e_loc; kernel_rfl!; assumption; assumption; k_dflt assumption; exact evs_0; assumption; exact add_i; assumption; exact rfl
  refine ⟨σ4, hr, by omega, fun j hj => ?_⟩
  rw [g4 j (by omega), St.get_new, if_neg (by omega), g3 j (by omega) (by omega) (by omega), fr2 j (by omega), g1 j hj]
theorem sEq_refl (s : Str) : sEq s s = true := (sEq_iff s s).mpr rfl
theorem eqVsBy_refl {f : V → V → Option Bool} {g : V → Bool} (h : ∀ v, g v = true → f v v = some true) : ∀ l : List V, allBy g l = true → eqVsBy f l l = some true
  | [], _ => rfl
  | v :: r, hl => by
    exact bT2 hl fun h1 h2 => i1 (h v h1) (eqVsBy_refl h r h2)
theorem eqP_refl {t : List V → List V → Option Bool} {p : List V → Bool} (h : ∀ l, p l = true → t l l = some true) : ∀ v : V, pureP p v = true → eqP t v v = some true
  | .none, _ => rfl
  | .bool b, _ => congrArg some (beq_self_eq_true b)
  | .int i, _ => congrArg some (decide_eq_true rfl)
  | .str s, _ => congrArg some (sEq_refl s)
  | .tup l, q => h l q
theorem eqN_refl : ∀ (n : Nat) (v : V), pureN n v = true → eqN n v v = some true
  | 0 => eqP_refl fun _ q => nnF q
  | n + 1 => eqP_refl (eqVsBy_refl (eqN_refl n))
theorem eqV_refl {v : V} (h : pureV v = true) : eqV v v = some true := eqN_refl 8 v h
theorem sameLen_refl {α : Type} : ∀ l : List α, sameLen l l = true
  | [] => rfl
  | _ :: l => sameLen_refl l
theorem eqLists_refl {l : List V} (h : allBy pureV l = true) : eqLists l l = some true := by
  unfold eqLists
  rw [sameLen_refl, h]
  exact eqVsBy_refl (fun v hv => eqV_refl hv) l h
theorem ownMethods {σ : St} {B bk N : Nat} {hf : Str → Held} (hN : 30 ≤ N) (G : Gr σ B bk hf) {nm : Str} (hm : nm ∈ names5) : ∃ m, (recN G0 N).call 64 [.cell 0, namedV nm] σ = some (.cell m, σ) ∧ m < B ∧ σ.get m = some (.dict (methodsV nm)) := by
  obtain ⟨n, rfl⟩ : ∃ n, N = n + 30 := ⟨N - 30, by omega⟩
  refine ea_1_3 (G.named) (fun ns n1 n2 n3 => ?_)
  obtain ⟨c, m, q1, _, q3, q4, q5⟩ := n3 nm hm
  have onm : okS (Str.ofString "named") = true := by rfl
  have hkey : keyOk (.str nm) ns = true := keyOk_str (names5_ok hm) n2
  have hw := G.world
  have hwn := wlN_named
  unfold rowI at q4
  refine ⟨m, ?_, q3, q5⟩
  have q := q_str (σ := σ) onm onm
  have q : eqTop σ (.str (Str.ofString "named")) (.str (Str.ofString "named")) = some true := q
  unfold namedV
  apply c_to (fi := fi64) (loc := [(Str.ofString "world", _), (Str.ofString "told", _)]) rfl rfl
  with_reducible apply x_s; k_dflt show exsStep _ _ _ (_ :: _) _ _ = _; apply x_ret; apply e_if; apply t_cmp; apply c_mp; kernel_rfl!; apply e_item; kernel_rfl!; apply e_loc; kernel_rfl!; apply l_c; k_dflt rfl; exact e_int; apply v_itup; k_dflt rfl; exact e_str; apply cv_eq; assumption; apply cnT; apply e_attr; kernel_rfl!; apply e_item; kernel_rfl!; apply e_attr; kernel_rfl!; apply e_loc; kernel_rfl!; apply l_c; k_dflt rfl; apply v_attr; assumption; kernel_rfl!; assumption; apply e_item; kernel_rfl!; apply e_loc; kernel_rfl!; apply l_c; k_dflt rfl; exact e_int; apply v_itup; k_dflt rfl; apply v_itd; assumption; assumption; assumption; apply v_attr; assumption; kernel_rfl!; apply l_c; k_dflt rfl; exact rfl
theorem ownMethods_ptr {σ : St} {N : Nat} {t w : V} (hN : 30 ≤ N) : (recN G0 N).call 64 [w, .tup [.str (Str.ofString "ptr"), t]] σ = some (.cell σ.next, σ.new (.dict [])) := by
  obtain ⟨n, rfl⟩ : ∃ n, N = n + 30 := ⟨N - 30, by omega⟩
  have onm : okS (Str.ofString "named") = true := by rfl
  have onp : okS (Str.ofString "ptr") = true := by rfl
  have q : eqTop σ (.str (Str.ofString "ptr")) (.str (Str.ofString "named")) = some false := q_str onp onm
  apply c_to (fi := fi64) (loc := [(Str.ofString "world", _), (Str.ofString "told", _)]) rfl rfl
  with_reducible apply x_s; k_dflt show exsStep _ _ _ (_ :: _) _ _ = _; apply x_ret; apply e_if; apply t_cmp; apply c_mp; kernel_rfl!; apply e_item; kernel_rfl!; apply e_loc; kernel_rfl!; apply l_c; k_dflt rfl; exact e_int; apply v_itup; k_dflt rfl; exact e_str; apply cv_eq; assumption; apply cnF; apply e_dict; kernel_rfl!; exact ep_0; k_dflt rfl; exact rfl
noncomputable def rV (r : Str × V × Bool) : V := .tup [.str r.1, r.2.1, .bool r.2.2]
noncomputable def rowsR (nm : Str) (held : Held) : List (Str × V × Bool) := held.map (fun p => (tl p.1, edgeV p.1 p.2, true)) ++ cond (sEq nm nD) [(Str.ofString "m", .tup [.str (Str.ofString "bool")], false)] [] ++ [(Str.ofString "x", .tup [.str (Str.ofString "string")], false)]
theorem rowsR_eq (nm : Str) (held : Held) : rowsV nm held = (rowsR nm held).map rV := by
  unfold rowsV rowsR
  rw [List.map_append, List.map_append, List.map_map]
  cases sEq nm nD <;> rfl
noncomputable def mem_s : Stmt := (forB (fi69.body.getD 4 (.Pass p0))).getD 0 (.Pass p0)
noncomputable def mem_t : Expr := forT mem_s
noncomputable def mem_b : List Stmt := forB mem_s
noncomputable def fieldV (s : Steps) (i : Nat) (T : V) : V := .tup [.str (Str.ofString "field"), stepsV (s ++ [(i, false)]), T]
noncomputable def firstR (w : Str) : Nat → List (Str × V × Bool) → Option (Nat × V)
  | _, [] => none
  | i, r :: rs => cond (sEq r.1 w) (some (i, r.2.1)) (firstR w (i + 1) rs)
noncomputable def retF (s : Steps) (o : Option (Nat × V)) : Fl := obr o (fun p => .ret (.lst [fieldV s p.1 p.2])) .next
theorem fieldV_eq (s : Steps) (i : Nat) (T : V) : fieldV s i T = .tup [.str (Str.ofString "field"), .tup (s.map stepV ++ [.tup [.int i, .bool false]]), T] := by
  unfold fieldV stepsV
  rw [List.map_append]
  rfl
theorem mem_loop {N : Nat} (hN : 40 ≤ N) {w : Str} (ow : okS w = true) {s : Steps} (hs : s.length < 900) {l : List V} {σ : St} :
    ∀ (rest : List (Str × V × Bool)) (i fuel : Nat), l.drop i = rest.map rV → rest.length < fuel → ∀ {loc : Loc}, (∀ r ∈ rest, okS r.1 = true) → lookS (Str.ofString "name") loc = some (.str w) → lookS (Str.ofString "steps") loc = some (stepsV s) → 
    ∃ loc', forE (recN G0 N) fi69.scope mem_t mem_b fuel (.enum (.tup l) i) loc σ = some (retF s (firstR w i rest), loc', σ) ∧ (∀ x, sEq x (Str.ofString "k") = false → sEq x (Str.ofString "row") = false → lookS x loc' = lookS x loc) := by
  obtain ⟨n, rfl⟩ : ∃ n, N = n + 40 := ⟨N - 40, by omega⟩
  intro rest
  induction rest with
  | nil =>
    intro i fuel hd hf loc _ _ _
    obtain ⟨k, rfl⟩ : ∃ k, fuel = k + 1 := ⟨fuel - 1, by omega⟩
    refine ⟨loc, ?_, fun _ _ _ => rfl⟩
    have : l[i]? = none := List.getElem?_eq_none (List.drop_eq_nil_iff.mp hd)
    exact f_end (n_enuE rfl this)
  | cons r rest ih =>
    intro i fuel hd hf loc hok l1 l2
    obtain ⟨k, rfl⟩ : ∃ k, fuel = k + 1 := ⟨fuel - 1, by omega⟩
    have hi : l[i]? = some (rV r) := by
      have := congrArg (fun l => l[0]?) hd
      simpa using this
    have hr : l.drop (i + 1) = rest.map rV := by
      have := congrArg List.tail hd
      simpa using this
    simp only [List.length_cons] at hf
    have hb : Nat.blt ((s.map stepV).length + 1) 1000 = true := by rw [Nat.blt_eq, List.length_map]; omega
    have or := hok r (.head _)
    have hi : l[i]? = some (.tup [.str r.1, r.2.1, .bool r.2.2]) := hi
    have l2' : lookS (Str.ofString "steps") loc = some (.tup (s.map stepV)) := l2
    have q := q_str (σ := σ) or ow
    have k1 : ∀ x, sEq x (Str.ofString "k") = false → sEq x (Str.ofString "row") = false → lookS x (ext [(Str.ofString "row", .tup [.str r.1, r.2.1, .bool r.2.2]), (Str.ofString "k", .int i)] loc) = lookS x loc := fun x a b => by rw [look_way b, look_way a]; rfl
    cases hq : sEq r.1 w with
    | true =>
      rw [hq] at q
      have hfr : firstR w i (r :: rest) = some (i, r.2.1) := iT hq rfl
      rw [hfr]
      refine ⟨_, ?_, k1⟩
      show _ = some (Fl.ret (.lst [fieldV s i r.2.1]), _, σ)
      rw [fieldV_eq]
      apply f_ret
      with_reducible apply n_enu; k_dflt rfl; assumption; k_dflt show Rec.asg _ _ (.Tuple _ _ _) _ _ _ = _; apply a_tup; k_dflt rfl; kernel_rfl!; apply as_s; kernel_rfl!; apply a_name0; kernel_rfl!; apply as_s; kernel_rfl!; apply a_name; kernel_rfl!; exact as_0; apply x_s; k_dflt show exsStep _ _ _ (_ :: _) _ _ = _; apply x_1; apply s_if; apply t_cmp; apply c_mp; kernel_rfl!; apply e_item; kernel_rfl!; apply e_loc; kernel_rfl!; apply l_in; k_dflt rfl; exact e_int; apply v_itup; k_dflt rfl; apply e_loc; kernel_rfl!; apply l_ext; kernel_rfl!; assumption; apply cv_eq; assumption; apply cnT; apply x_s; apply x_ret; apply e_lst; kernel_rfl!; apply evs_s; kernel_rfl!; apply e_tup; kernel_rfl!; apply evs_s; kernel_rfl!; exact e_str; apply evs_s; kernel_rfl!; apply e_bin; apply e_loc; kernel_rfl!; apply l_ext; kernel_rfl!; assumption; apply e_tup; kernel_rfl!; apply evs_s; kernel_rfl!; apply e_tup; kernel_rfl!; apply evs_s; kernel_rfl!; apply e_loc; kernel_rfl!; apply l_in; k_dflt rfl; apply evs_s; kernel_rfl!; exact e_tf; exact evs_0; exact evs_0; apply add_tt; k_dflt assumption; apply evs_s; kernel_rfl!; apply e_item; kernel_rfl!; apply e_loc; kernel_rfl!; apply l_in; k_dflt rfl; exact e_int; apply v_itup; k_dflt rfl; exact evs_0; exact evs_0
    | false =>
      rw [hq] at q
      have step : ∃ loc1, forE (recN G0 (n + 40)) fi69.scope mem_t mem_b (k + 1) (.enum (.tup l) i) loc σ = forE (recN G0 (n + 40)) fi69.scope mem_t mem_b k (.enum (.tup l) (i + 1)) loc1 σ ∧ (∀ x, sEq x (Str.ofString "k") = false → sEq x (Str.ofString "row") = false → lookS x loc1 = lookS x loc) := by
        refine ⟨_, ?_, k1⟩
        apply f_step
        with_reducible apply n_enu; k_dflt rfl; assumption; k_dflt show Rec.asg _ _ (.Tuple _ _ _) _ _ _ = _; apply a_tup; k_dflt rfl; kernel_rfl!; apply as_s; kernel_rfl!; apply a_name0; kernel_rfl!; apply as_s; kernel_rfl!; apply a_name; kernel_rfl!; exact as_0; apply x_s; k_dflt show exsStep _ _ _ (_ :: _) _ _ = _; apply x_1; apply s_if; apply t_cmp; apply c_mp; kernel_rfl!; apply e_item; kernel_rfl!; apply e_loc; kernel_rfl!; apply l_in; k_dflt rfl; exact e_int; apply v_itup; k_dflt rfl; apply e_loc; kernel_rfl!; apply l_ext; kernel_rfl!; assumption; apply cv_eq; assumption; apply cnF; apply x_s; exact x_0; exact rfl
      refine ea_1_2 (step) (fun loc1 f1 m1 => ?_)
      obtain ⟨loc', f2, m2⟩ := ih (i + 1) k hr (by omega) (loc := loc1) (fun x hx => hok x (.tail _ hx)) ((m1 _ (by rfl) (by rfl)).trans l1) ((m1 _ (by rfl) (by rfl)).trans l2)
      refine ⟨loc', ?_, fun x a b => (m2 x a b).trans (m1 x a b)⟩
      have hfr : firstR w i (r :: rest) = firstR w (i + 1) rest := iF hq rfl
      rw [hfr]
      exact f1.trans f2
noncomputable def firstL (s : Steps) (w : Str) (nm : Str) (held : Held) : List V := obr (firstR w 0 (rowsR nm held)) (fun p => [fieldV s p.1 p.2]) []
theorem rowsR_all {P : Str × V × Bool → Prop} {nm : Str} {held : Held} (h1 : ∀ p ∈ held, P (tl p.1, edgeV p.1 p.2, true)) (h2 : P (Str.ofString "m", .tup [.str (Str.ofString "bool")], false)) (h3 : P (Str.ofString "x", .tup [.str (Str.ofString "string")], false)) : ∀ r ∈ rowsR nm held, P r := by
  unfold rowsR
  refine List.forall_mem_append.mpr ⟨List.forall_mem_append.mpr ⟨List.forall_mem_map.mpr h1, ?_⟩, List.forall_mem_singleton.mpr h3⟩
  cases sEq nm nD with
  | true => exact List.forall_mem_singleton.mpr h2
  | false => exact fun _ h => nomatch h
theorem rowsR_ok {nm : Str} {held : Held} (h : ∀ p ∈ held, Below p.1) : ∀ r ∈ rowsR nm held, okS r.1 = true :=
  rowsR_all (fun p hp => by rcases h p hp with q | q | q | q <;> rw [q] <;> rfl) rfl rfl
theorem methodsV_keys (nm : Str) : keysAll isStrV (methodsV nm) = true := by
  unfold methodsV
  cases sEq nm nB <;> rfl
theorem membersAt_field {σ : St} {B bk N rc : Nat} {hf : Str → Held} (hN : 60 ≤ N) (G : Gr σ B bk hf) {nm w : Str} (hm : nm ∈ names5) (ow : okS w = true) {s : Steps} {tw : Bool} (hr : σ.get rc = some (reachedI (namedV nm) (stepsV s) tw)) (hs : s.length < 900)
    (hJ : sEq nm nJ = false) (hw : dictFindV (.str w) (methodsV nm) = none) :
    (recN G0 N).call 69 [.cell 0, .cell rc, .str w] σ = some (.lst (firstL s w nm (hf nm)), σ) := by
  obtain ⟨n, rfl⟩ : ∃ n, N = n + 60 := ⟨N - 60, by omega⟩
  obtain ⟨m, h1, _, h2⟩ := ownMethods (N := n + 57) (by omega) G hm
  have hb := base_any (N := n + 57) (by omega) G hm
  have hw0 := G.world
  have hwb := wlN_base
  have o2 : okS (Str.ofString "struct") = true := by rfl
  have o3 : okS (Str.ofString "interface") = true := by rfl
  have hkey : keyOk (.str w) (methodsV nm) = true := keyOk_str ow (methodsV_keys nm)
  have hkt : keyTup (.str w) = false := rfl
  unfold beneathV at hb
  rw [hJ] at hb
  have h4 := G.short nm
  have hrl : (rowsR nm (hf nm)).length < 200 := by
    unfold rowsR
    cases sEq nm nD <;> simp <;> omega
  obtain ⟨loc', f1, m1⟩ := mem_loop (N := n + 57) (w := w) (s := s) (l := rowsV nm (hf nm)) (σ := σ) (by omega) ow hs (rowsR nm (hf nm)) 0 200 (by rw [rowsR_eq]; rfl) hrl
    (loc := ext [(Str.ofString "base", .tup [.str (Str.ofString "struct"), .tup (rowsV nm (hf nm))]), (Str.ofString "methods", .cell m), (Str.ofString "steps", stepsV s), (Str.ofString "told", namedV nm)] [(Str.ofString "world", .cell 0), (Str.ofString "reached", .cell rc), (Str.ofString "name", .str w)]) (rowsR_ok fun p hp => (G.cl nm hm p hp).2) rfl rfl
  have q1 : eqTop σ (.str (Str.ofString "struct")) (.str (Str.ofString "struct")) = some true := q_str o2 o2
  have q2 : eqTop σ (.str (Str.ofString "struct")) (.str (Str.ofString "interface")) = some false := q_str o2 o3
  have i1' : inV σ (.str w) (.cell m) = some false := (v_in h2 hkey).trans (by rw [hw]; rfl)
  have hb : (recN G0 (n + 57)).call 450 [.cell 0, namedV nm] σ = some (.tup [.str (Str.ofString "struct"), .tup (rowsV nm (hf nm))], σ) := hb
  have hr : σ.get rc = some (.inst 39 [(Str.ofString "told", namedV nm), (Str.ofString "steps", stepsV s), (Str.ofString "is_twice", .bool tw)]) := hr
  unfold firstL
  cases hfr : firstR w 0 (rowsR nm (hf nm)) with
  | some p =>
    rw [hfr] at f1
    have f1 : forE (recN G0 (n + 57)) fi69.scope mem_t mem_b 200 (.enum (.tup (rowsV nm (hf nm))) 0) (ext [(Str.ofString "base", .tup [.str (Str.ofString "struct"), .tup (rowsV nm (hf nm))]), (Str.ofString "methods", .cell m), (Str.ofString "steps", stepsV s), (Str.ofString "told", namedV nm)] [(Str.ofString "world", .cell 0), (Str.ofString "reached", .cell rc), (Str.ofString "name", .str w)]) σ = some (Fl.ret (.lst [fieldV s p.1 p.2]), loc', σ) := f1
    apply c_to (fi := fi69) (loc := [(Str.ofString "world", _), (Str.ofString "reached", _), (Str.ofString "name", _)]) rfl rfl
    with_reducible apply x_s; k_dflt show exsStep _ _ _ (_ :: _) _ _ = _; apply x_asg; kernel_rfl!; apply e_tup; kernel_rfl!; apply evs_s; kernel_rfl!; apply e_attr; kernel_rfl!; apply e_loc; kernel_rfl!; apply l_c; k_dflt rfl; apply v_attr; assumption; kernel_rfl!; apply l_c; k_dflt rfl; apply evs_s; kernel_rfl!; apply e_attr; kernel_rfl!; apply e_loc; kernel_rfl!; apply l_c; k_dflt rfl; apply v_attr; assumption; kernel_rfl!; apply l_c; k_dflt rfl; exact evs_0; apply a_tup; k_dflt rfl; kernel_rfl!; apply as_s; kernel_rfl!; apply a_name0; kernel_rfl!; apply as_s; kernel_rfl!; apply a_name; kernel_rfl!; exact as_0; apply x_name; kernel_rfl!; apply e_fn; kernel_rfl!; k_dflt rfl; kernel_rfl!; apply evs_s; kernel_rfl!; apply e_loc; kernel_rfl!; apply l_ext; kernel_rfl!; apply l_c; k_dflt rfl; apply evs_s; kernel_rfl!; apply e_loc; kernel_rfl!; apply l_in; k_dflt rfl; exact evs_0; assumption; apply x_p; apply s_if; apply t_cmp; apply c_mp; kernel_rfl!; apply e_loc; kernel_rfl!; apply l_ext; kernel_rfl!; apply l_c; k_dflt rfl; apply e_loc; kernel_rfl!; apply l_in; k_dflt rfl; apply cv_in; assumption; apply cnF; apply x_s; exact x_0; k_dflt apply fl_n; apply x_name; kernel_rfl!; apply e_meth; kernel_rfl!; apply e_loc; kernel_rfl!; apply l_ext; kernel_rfl!; apply l_c; k_dflt rfl; apply m_of; assumption; apply mc_i; assumption; exact m_base_of; apply evs_s; kernel_rfl!; apply e_loc; kernel_rfl!; apply l_in; k_dflt rfl; exact evs_0; apply m_fn; assumption; apply x_p; apply s_if; apply t_cmp; apply c_mp; kernel_rfl!; apply e_item; kernel_rfl!; apply e_loc; kernel_rfl!; apply l_in; k_dflt rfl; exact e_int; apply v_itup; k_dflt rfl; exact e_str; apply cv_eq; assumption; apply cnT; apply x_s; apply x_1; apply s_for; apply si_e; k_dflt rfl; kernel_rfl!; apply e_item; kernel_rfl!; apply e_loc; kernel_rfl!; apply l_in; k_dflt rfl; exact e_int; apply v_itup; k_dflt rfl; kernel_rfl!; k_dflt assumption; k_dflt exact fl_r; k_dflt rfl
  | none =>
    rw [hfr] at f1
    have f1 : forE (recN G0 (n + 57)) fi69.scope mem_t mem_b 200 (.enum (.tup (rowsV nm (hf nm))) 0) (ext [(Str.ofString "base", .tup [.str (Str.ofString "struct"), .tup (rowsV nm (hf nm))]), (Str.ofString "methods", .cell m), (Str.ofString "steps", stepsV s), (Str.ofString "told", namedV nm)] [(Str.ofString "world", .cell 0), (Str.ofString "reached", .cell rc), (Str.ofString "name", .str w)]) σ = some (Fl.next, loc', σ) := f1
    have k1 : lookS (Str.ofString "base") loc' = some (.tup [.str (Str.ofString "struct"), .tup (rowsV nm (hf nm))]) := (m1 _ rfl rfl).trans (l_in rfl)
    apply c_to (fi := fi69) (loc := [(Str.ofString "world", _), (Str.ofString "reached", _), (Str.ofString "name", _)]) rfl rfl
    with_reducible apply x_s; k_dflt show exsStep _ _ _ (_ :: _) _ _ = _; apply x_asg; kernel_rfl!; apply e_tup; kernel_rfl!; apply evs_s; kernel_rfl!; apply e_attr; kernel_rfl!; apply e_loc; kernel_rfl!; apply l_c; k_dflt rfl; apply v_attr; assumption; kernel_rfl!; apply l_c; k_dflt rfl; apply evs_s; kernel_rfl!; apply e_attr; kernel_rfl!; apply e_loc; kernel_rfl!; apply l_c; k_dflt rfl; apply v_attr; assumption; kernel_rfl!; apply l_c; k_dflt rfl; exact evs_0; apply a_tup; k_dflt rfl; kernel_rfl!; apply as_s; kernel_rfl!; apply a_name0; kernel_rfl!; apply as_s; kernel_rfl!; apply a_name; kernel_rfl!; exact as_0; apply x_name; kernel_rfl!; apply e_fn; kernel_rfl!; k_dflt rfl; kernel_rfl!; apply evs_s; kernel_rfl!; apply e_loc; kernel_rfl!; apply l_ext; kernel_rfl!; apply l_c; k_dflt rfl; apply evs_s; kernel_rfl!; apply e_loc; kernel_rfl!; apply l_in; k_dflt rfl; exact evs_0; assumption; apply x_p; apply s_if; apply t_cmp; apply c_mp; kernel_rfl!; apply e_loc; kernel_rfl!; apply l_ext; kernel_rfl!; apply l_c; k_dflt rfl; apply e_loc; kernel_rfl!; apply l_in; k_dflt rfl; apply cv_in; assumption; apply cnF; apply x_s; exact x_0; k_dflt apply fl_n; apply x_name; kernel_rfl!; apply e_meth; kernel_rfl!; apply e_loc; kernel_rfl!; apply l_ext; kernel_rfl!; apply l_c; k_dflt rfl; apply m_of; assumption; apply mc_i; assumption; exact m_base_of; apply evs_s; kernel_rfl!; apply e_loc; kernel_rfl!; apply l_in; k_dflt rfl; exact evs_0; apply m_fn; assumption; apply x_p; apply s_if; apply t_cmp; apply c_mp; kernel_rfl!; apply e_item; kernel_rfl!; apply e_loc; kernel_rfl!; apply l_in; k_dflt rfl; exact e_int; apply v_itup; k_dflt rfl; exact e_str; apply cv_eq; assumption; apply cnT; apply x_s; apply x_1; apply s_for; apply si_e; k_dflt rfl; kernel_rfl!; apply e_item; kernel_rfl!; apply e_loc; kernel_rfl!; apply l_in; k_dflt rfl; exact e_int; apply v_itup; k_dflt rfl; kernel_rfl!; k_dflt assumption; k_dflt apply fl_n; apply x_p; apply s_if; apply t_cmp; apply c_mp; kernel_rfl!; apply e_item; kernel_rfl!; apply e_loc; kernel_rfl!; assumption; exact e_int; apply v_itup; k_dflt rfl; exact e_str; apply cv_eq; assumption; apply cnF; apply x_s; exact x_0; k_dflt apply fl_n; apply x_ret; apply e_lst; kernel_rfl!; exact evs_0; k_dflt rfl
noncomputable def cmp4 : Expr := rtE (fi537.body.getD 3 (.Pass p0))
noncomputable def y_elt : Expr := cpE cmp4
noncomputable def y_tgt : Expr := (cpG cmp4).target
noncomputable def y_ifs : List Expr := (cpG cmp4).ifs
noncomputable def y_sc0 : Scope := cpS0 fi537.scope cmp4
noncomputable def y_sc : Scope := cpS fi537.scope cmp4
noncomputable def allR (s : Steps) (w : Str) : Nat → List (Str × V × Bool) → List V
  | _, [] => []
  | i, r :: rs => cond (sEq r.1 w) (fieldV s i r.2.1 :: allR s w (i + 1) rs) (allR s w (i + 1) rs)
theorem all_loop {N c : Nat} (hN : 40 ≤ N) {l : List V} {w : Str} {s : Steps} (ow : okS w = true) (hs : s.length < 900) :
    ∀ (rest : List (Str × V × Bool)) (i fuel : Nat), l.drop i = rest.map rV → rest.length < fuel → ∀ {acc : List V} {loc : Loc} {σ : St}, (∀ r ∈ rest, okS r.1 = true) → acc.length + rest.length < 900 →
      lookS (Str.ofString "word") loc = some (.str w) → lookS (Str.ofString "steps") loc = some (stepsV s) → σ.get c = some (.list acc) →
    ∃ σ', compE (recN G0 N) y_sc y_tgt y_ifs (emitL (recN G0 N) y_sc c y_elt) fuel (.enum (.lst l) i) loc σ = some σ' ∧ σ'.next = σ.next ∧ (∀ j, j ≠ c → σ'.get j = σ.get j) ∧ σ'.get c = some (.list (acc ++ allR s w i rest)) := by
  obtain ⟨n, rfl⟩ : ∃ n, N = n + 40 := ⟨N - 40, by omega⟩
  intro rest
  induction rest with
  | nil =>
    intro i fuel hd hf acc loc σ _ _ _ _ hc
    obtain ⟨k, rfl⟩ : ∃ k, fuel = k + 1 := ⟨fuel - 1, by omega⟩
    refine ⟨σ, ?_, rfl, fun _ _ => rfl, hc.trans (by rw [show allR s w i [] = [] from rfl, List.append_nil])⟩
    have : l[i]? = none := List.getElem?_eq_none (List.drop_eq_nil_iff.mp hd)
    exact k_end (n_enuE rfl this)
  | cons r rest ih =>
    intro i fuel hd hf acc loc σ hok hlen l1 l2 hc
    obtain ⟨k, rfl⟩ : ∃ k, fuel = k + 1 := ⟨fuel - 1, by omega⟩
    have hi : l[i]? = some (rV r) := by
      have := congrArg (fun l => l[0]?) hd
      simpa using this
    have hr : l.drop (i + 1) = rest.map rV := by
      have := congrArg List.tail hd
      simpa using this
    simp only [List.length_cons] at hlen hf
    have hb' : Nat.blt acc.length 1000 = true := by rw [Nat.blt_eq]; omega
    have hb2 : Nat.blt ((s.map stepV).length + 1) 1000 = true := by rw [Nat.blt_eq, List.length_map]; omega
    have or := hok r (.head _)
    have hi : l[i]? = some (.tup [.str r.1, r.2.1, .bool r.2.2]) := hi
    have l2' : lookS (Str.ofString "steps") loc = some (.tup (s.map stepV)) := l2
    have q := q_str (σ := σ) or ow
    have q1 : ∀ x, sEq x (Str.ofString "k") = false → sEq x (Str.ofString "own") = false → sEq x (Str.ofString "T") = false → sEq x (Str.ofString "is_held") = false → lookS x (ext [(Str.ofString "is_held", .bool r.2.2), (Str.ofString "T", r.2.1), (Str.ofString "own", .str r.1), (Str.ofString "k", .int i)] loc) = lookS x loc := fun x a b c d => by rw [look_way d, look_way c, look_way b, look_way a]; rfl
    have k1 := (q1 (Str.ofString "word") rfl rfl rfl rfl).trans l1
    have k2 : lookS (Str.ofString "steps") (ext [(Str.ofString "is_held", .bool r.2.2), (Str.ofString "T", r.2.1), (Str.ofString "own", .str r.1), (Str.ofString "k", .int i)] loc) = some (.tup (s.map stepV)) := (q1 (Str.ofString "steps") rfl rfl rfl rfl).trans l2
    cases hq : sEq r.1 w with
    | true =>
      rw [hq] at q
      have hfr : allR s w i (r :: rest) = fieldV s i r.2.1 :: allR s w (i + 1) rest := iT hq rfl
      rw [hfr]
      obtain ⟨σ', f2, n2, g2, h2⟩ := ih (i + 1) k hr (by omega) (acc := acc ++ [fieldV s i r.2.1]) (σ := σ.set c (.list (acc ++ [fieldV s i r.2.1]))) (fun x hx => hok x (.tail _ hx)) (by simp; omega) k1 k2 g_eq
      refine ⟨σ', ?_, n2, fun j hj => by rw [g2 j hj, St.get_set, if_neg hj], by rw [h2]; simp⟩
      rw [fieldV_eq] at f2
      show compE _ _ (.Tuple _ _ _) [_] (emitL _ _ _ (.Tuple _ _ _)) _ _ _ _ = _
      apply k_step
      with_reducible apply n_enu; k_dflt rfl; assumption; apply aN_tup; k_dflt rfl; kernel_rfl!; apply al_s; kernel_rfl!; apply aN_name0; kernel_rfl!; apply al_s; kernel_rfl!; apply aN_tup; k_dflt rfl; kernel_rfl!; apply al_s; kernel_rfl!; apply aN_name; kernel_rfl!; apply al_s; kernel_rfl!; apply aN_name; kernel_rfl!; apply al_s; kernel_rfl!; apply aN_name; kernel_rfl!; exact al_0; exact al_0; apply at_1; apply t_cmp; apply c_mp; kernel_rfl!; apply e_loc; kernel_rfl!; apply l_in; k_dflt rfl; apply e_loc; kernel_rfl!; assumption; apply cv_eq; assumption; apply em_L; apply e_tup; kernel_rfl!; apply evs_s; kernel_rfl!; exact e_str; apply evs_s; kernel_rfl!; apply e_bin; apply e_loc; kernel_rfl!; assumption; apply e_tup; kernel_rfl!; apply evs_s; kernel_rfl!; apply e_tup; kernel_rfl!; apply evs_s; kernel_rfl!; apply e_loc; kernel_rfl!; apply l_in; k_dflt rfl; apply evs_s; kernel_rfl!; exact e_tf; exact evs_0; exact evs_0; apply add_tt; k_dflt assumption; apply evs_s; kernel_rfl!; apply e_loc; kernel_rfl!; apply l_in; k_dflt rfl; exact evs_0; assumption; assumption; k_dflt assumption
    | false =>
      rw [hq] at q
      have hfr : allR s w i (r :: rest) = allR s w (i + 1) rest := iF hq rfl
      rw [hfr]
      refine ea_1_4 (ih (i + 1) k hr (by omega) (fun x hx => hok x (.tail _ hx)) (by omega) k1 k2 hc) (fun σ' f2 n2 g2 h2 => ?_)
      refine ⟨σ', ?_, n2, g2, h2⟩
      show compE _ _ (.Tuple _ _ _) [_] (emitL _ _ _ (.Tuple _ _ _)) _ _ _ _ = _
      apply k_skip
      with_reducible apply n_enu; k_dflt rfl; assumption; apply aN_tup; k_dflt rfl; kernel_rfl!; apply al_s; kernel_rfl!; apply aN_name0; kernel_rfl!; apply al_s; kernel_rfl!; apply aN_tup; k_dflt rfl; kernel_rfl!; apply al_s; kernel_rfl!; apply aN_name; kernel_rfl!; apply al_s; kernel_rfl!; apply aN_name; kernel_rfl!; apply al_s; kernel_rfl!; apply aN_name; kernel_rfl!; exact al_0; exact al_0; apply at_1; apply t_cmp; apply c_mp; kernel_rfl!; apply e_loc; kernel_rfl!; apply l_in; k_dflt rfl; apply e_loc; kernel_rfl!; assumption; apply cv_eq; assumption; k_dflt assumption
theorem members_field {σ : St} {B bk N : Nat} {hf : Str → Held} (hN : 70 ≤ N) (G : Gr σ B bk hf) (hB : B ≤ σ.next) {nm w : Str} (hm : nm ∈ names5) (ow : okS w = true) {s : Steps} (hs : s.length < 900) (hJ : sEq nm nJ = false) (hBm : (sEq nm nB && sEq w (Str.ofString "m")) = false) :
    ∃ c σ', (recN G0 N).call 537 [.cell bk, .str nm, stepsV s, .str w] σ = some (.cell c, σ') ∧ σ.next ≤ σ'.next ∧ (∀ j, j < σ.next → σ'.get j = σ.get j) ∧ σ'.get c = some (.list (allR s w 0 (rowsR nm (hf nm)))) := by
  obtain ⟨n, rfl⟩ : ∃ n, N = n + 70 := ⟨N - 70, by omega⟩
  have H := G.holds hB hm
  have hbk := G.bB
  obtain ⟨σ1, h1, n1, g1⟩ := rows (N := n + 67) (by omega) H (by omega)
  have on := names5_ok hm
  have oJ : okS nJ = true := by rfl
  have oB : okS nB = true := by rfl
  have om : okS (Str.ofString "m") = true := by rfl
  have h4 := G.short nm
  have hrl : (rowsR nm (hf nm)).length < 200 := by
    unfold rowsR
    cases sEq nm nD <;> simp <;> omega
  obtain ⟨σ2, f2, n2, g2, q2⟩ := all_loop (N := n + 67) (c := σ1.next) (by omega) (l := rowsV nm (hf nm)) (w := w) (s := s) ow hs (rowsR nm (hf nm)) 0 200 (by rw [rowsR_eq]; rfl) hrl (acc := [])
    (loc := freeLoc y_sc0 (ext [(Str.ofString "rows", .lst (rowsV nm (hf nm)))] [(Str.ofString "book", .cell bk), (Str.ofString "name", .str nm), (Str.ofString "steps", stepsV s), (Str.ofString "word", .str w)])) (σ := σ1.new (.list [])) (rowsR_ok fun p hp => (G.cl nm hm p hp).2) (by simp; omega) ((look_free y_sc0 rfl _).trans (l_ext rfl rfl)) ((look_free y_sc0 rfl _).trans (l_ext rfl rfl)) g_new
  rw [List.nil_append] at q2
  rw [St.next_new] at n2
  have hh : ∀ j, j < σ.next → σ2.get j = σ.get j := fun j hj => by rw [g2 j (by omega), St.get_new, if_neg (by omega), g1 j hj]
  refine ⟨σ1.next, σ2, ?_, by omega, hh, q2⟩
  have k1 : eqTop σ (.str nm) (.str (Str.ofString "main.J")) = some false := (q_str on oJ).trans (congrArg some hJ)
  have k2 := q_str (σ := σ) on oB
  have k3 := q_str (σ := σ) ow om
  have k2 : eqTop σ (.str nm) (.str (Str.ofString "main.B")) = some (sEq nm nB) := k2
  cases hb : sEq nm nB with
  | false =>
    rw [hb] at k2
    apply c_to (fi := fi537) (loc := [(Str.ofString "book", _), (Str.ofString "name", _), (Str.ofString "steps", _), (Str.ofString "word", _)]) rfl rfl
    with_reducible apply x_s; k_dflt show exsStep _ _ _ (_ :: _) _ _ = _; apply x_p; apply s_if; apply t_cmp; apply c_mp; kernel_rfl!; apply e_loc; kernel_rfl!; apply l_c; k_dflt rfl; exact e_str; apply cv_eq; assumption; apply cnF; apply x_s; exact x_0; k_dflt apply fl_n; apply x_p; apply s_if; apply t_or; apply at_s; apply t_cmp; apply c_mp; kernel_rfl!; apply e_loc; kernel_rfl!; apply l_c; k_dflt rfl; exact e_str; apply cv_eq; assumption; apply saF; exact rfl; apply cnF; apply x_s; exact x_0; k_dflt apply fl_n; apply x_name0; kernel_rfl!; apply e_fn; kernel_rfl!; k_dflt rfl; kernel_rfl!; apply evs_s; kernel_rfl!; apply e_loc; kernel_rfl!; apply l_c; k_dflt rfl; apply evs_s; kernel_rfl!; apply e_loc; kernel_rfl!; apply l_c; k_dflt rfl; exact evs_0; assumption; apply x_ret; apply e_lc; kernel_rfl!; apply si_e; k_dflt rfl; kernel_rfl!; apply e_loc; kernel_rfl!; apply l_in; k_dflt rfl; kernel_rfl!; k_dflt assumption; exact rfl
  | true =>
    rw [hb] at k2
    rw [hb, Bool.true_and] at hBm
    rw [hBm] at k3
    apply c_to (fi := fi537) (loc := [(Str.ofString "book", _), (Str.ofString "name", _), (Str.ofString "steps", _), (Str.ofString "word", _)]) rfl rfl
    with_reducible apply x_s; k_dflt show exsStep _ _ _ (_ :: _) _ _ = _; apply x_p; apply s_if; apply t_cmp; apply c_mp; kernel_rfl!; apply e_loc; kernel_rfl!; apply l_c; k_dflt rfl; exact e_str; apply cv_eq; assumption; apply cnF; apply x_s; exact x_0; k_dflt apply fl_n; apply x_p; apply s_if; apply t_or; apply at_s; apply t_cmp; apply c_mp; kernel_rfl!; apply e_loc; kernel_rfl!; apply l_c; k_dflt rfl; exact e_str; apply cv_eq; assumption; apply saT; apply at_1; apply t_cmp; apply c_mp; kernel_rfl!; apply e_loc; kernel_rfl!; apply l_c; k_dflt rfl; exact e_str; apply cv_eq; assumption; apply cnF; apply x_s; exact x_0; k_dflt apply fl_n; apply x_name0; kernel_rfl!; apply e_fn; kernel_rfl!; k_dflt rfl; kernel_rfl!; apply evs_s; kernel_rfl!; apply e_loc; kernel_rfl!; apply l_c; k_dflt rfl; apply evs_s; kernel_rfl!; apply e_loc; kernel_rfl!; apply l_c; k_dflt rfl; exact evs_0; assumption; apply x_ret; apply e_lc; kernel_rfl!; apply si_e; k_dflt rfl; kernel_rfl!; apply e_loc; kernel_rfl!; apply l_in; k_dflt rfl; kernel_rfl!; k_dflt assumption; exact rfl
noncomputable def faceL (s : Steps) (w : Str) : List V := cond (sEq (Str.ofString "go") w || sEq (Str.ofString "up") w) [.tup [.str (Str.ofString "face"), stepsV s, .str w, plainV]] []
theorem go_up {w : Str} (h : sEq (Str.ofString "go") w = true) : sEq (Str.ofString "up") w = false := by
  rw [← (sEq_iff _ _).mp h]
  rfl
theorem in_go {σ : St} {w : Str} (ow : okS w = true) : inV σ (.str w) (.lst [.str (Str.ofString "go"), .str (Str.ofString "up")]) = some (sEq (Str.ofString "go") w || sEq (Str.ofString "up") w) :=
  iT (bB ow rfl) (by
    show cond (sEq (Str.ofString "go") w) (some true) (cond (sEq (Str.ofString "up") w) (some true) (some false)) = _
    cases sEq (Str.ofString "go") w <;> cases sEq (Str.ofString "up") w <;> rfl)
theorem members_face {σ : St} {N bk : Nat} (hN : 50 ≤ N) {w : Str} (ow : okS w = true) {s : Steps} : (recN G0 N).call 537 [.cell bk, .str nJ, stepsV s, .str w] σ = some (.lst (faceL s w), σ) := by
  obtain ⟨n, rfl⟩ : ∃ n, N = n + 50 := ⟨N - 50, by omega⟩
  have q : eqTop σ (.str nJ) (.str (Str.ofString "main.J")) = some true := q_str (rfl : okS nJ = true) (rfl : okS nJ = true)
  have hi := in_go (σ := σ) ow
  unfold faceL
  cases h : sEq (Str.ofString "go") w || sEq (Str.ofString "up") w with
  | true =>
    rw [h] at hi
    apply c_to (fi := fi537) (loc := [(Str.ofString "book", _), (Str.ofString "name", _), (Str.ofString "steps", _), (Str.ofString "word", _)]) rfl rfl
    with_reducible apply x_s; k_dflt show exsStep _ _ _ (_ :: _) _ _ = _; apply x_p; apply s_if; apply t_cmp; apply c_mp; kernel_rfl!; apply e_loc; kernel_rfl!; apply l_c; k_dflt rfl; exact e_str; apply cv_eq; assumption; apply cnT; apply x_s; apply x_ret; apply e_if; apply t_cmp; apply c_mp; kernel_rfl!; apply e_loc; kernel_rfl!; apply l_c; k_dflt rfl; apply e_lst; kernel_rfl!; apply evs_s; kernel_rfl!; exact e_str; apply evs_s; kernel_rfl!; exact e_str; exact evs_0; apply cv_in; assumption; apply cnT; apply e_lst; kernel_rfl!; apply evs_s; kernel_rfl!; apply e_tup; kernel_rfl!; apply evs_s; kernel_rfl!; exact e_str; apply evs_s; kernel_rfl!; apply e_loc; kernel_rfl!; apply l_c; k_dflt rfl; apply evs_s; kernel_rfl!; apply e_loc; kernel_rfl!; apply l_c; k_dflt rfl; apply evs_s; kernel_rfl!; apply e_fn; kernel_rfl!; k_dflt rfl; kernel_rfl!; exact evs_0; exact lawPlain_r; exact evs_0; exact evs_0; k_dflt exact fl_r; k_dflt rfl
  | false =>
    rw [h] at hi
    apply c_to (fi := fi537) (loc := [(Str.ofString "book", _), (Str.ofString "name", _), (Str.ofString "steps", _), (Str.ofString "word", _)]) rfl rfl
    with_reducible apply x_s; k_dflt show exsStep _ _ _ (_ :: _) _ _ = _; apply x_p; apply s_if; apply t_cmp; apply c_mp; kernel_rfl!; apply e_loc; kernel_rfl!; apply l_c; k_dflt rfl; exact e_str; apply cv_eq; assumption; apply cnT; apply x_s; apply x_ret; apply e_if; apply t_cmp; apply c_mp; kernel_rfl!; apply e_loc; kernel_rfl!; apply l_c; k_dflt rfl; apply e_lst; kernel_rfl!; apply evs_s; kernel_rfl!; exact e_str; apply evs_s; kernel_rfl!; exact e_str; exact evs_0; apply cv_in; assumption; apply cnF; apply e_lst; kernel_rfl!; exact evs_0; k_dflt exact fl_r; k_dflt rfl
theorem members_method {σ : St} {N bk : Nat} (hN : 50 ≤ N) {s : Steps} : (recN G0 N).call 537 [.cell bk, .str nB, stepsV s, .str (Str.ofString "m")] σ = some (.lst [.tup [.str (Str.ofString "method"), stepsV s, .str (Str.ofString "main.B.m"), .bool true, plainV]], σ) := by
  obtain ⟨n, rfl⟩ : ∃ n, N = n + 50 := ⟨N - 50, by omega⟩
  have oB : okS nB = true := by rfl
  have q1 : eqTop σ (.str nB) (.str (Str.ofString "main.J")) = some false := q_str oB (rfl : okS nJ = true)
  have q2 : eqTop σ (.str nB) (.str (Str.ofString "main.B")) = some true := q_str oB oB
  have q3 : eqTop σ (.str (Str.ofString "m")) (.str (Str.ofString "m")) = some true := q_str rfl rfl
  apply c_to (fi := fi537) (loc := [(Str.ofString "book", _), (Str.ofString "name", _), (Str.ofString "steps", _), (Str.ofString "word", _)]) rfl rfl
  with_reducible apply x_s; k_dflt show exsStep _ _ _ (_ :: _) _ _ = _; apply x_p; apply s_if; apply t_cmp; apply c_mp; kernel_rfl!; apply e_loc; kernel_rfl!; apply l_c; k_dflt rfl; exact e_str; apply cv_eq; assumption; apply cnF; apply x_s; exact x_0; k_dflt apply fl_n; apply x_p; apply s_if; apply t_or; apply at_s; apply t_cmp; apply c_mp; kernel_rfl!; apply e_loc; kernel_rfl!; apply l_c; k_dflt rfl; exact e_str; apply cv_eq; assumption; apply saT; apply at_1; apply t_cmp; apply c_mp; kernel_rfl!; apply e_loc; kernel_rfl!; apply l_c; k_dflt rfl; exact e_str; apply cv_eq; assumption; apply cnT; apply x_s; apply x_ret; apply e_lst; kernel_rfl!; apply evs_s; kernel_rfl!; apply e_tup; kernel_rfl!; apply evs_s; kernel_rfl!; exact e_str; apply evs_s; kernel_rfl!; apply e_loc; kernel_rfl!; apply l_c; k_dflt rfl; apply evs_s; kernel_rfl!; exact e_str; apply evs_s; kernel_rfl!; exact e_tf; apply evs_s; kernel_rfl!; apply e_fn; kernel_rfl!; k_dflt rfl; kernel_rfl!; exact evs_0; exact lawPlain_r; exact evs_0; exact evs_0; k_dflt exact fl_r; exact rfl
theorem membersAt_method {σ : St} {B bk N rc : Nat} {hf : Str → Held} (hN : 60 ≤ N) (G : Gr σ B bk hf) {s : Steps} {tw : Bool} (hr : σ.get rc = some (reachedI (namedV nB) (stepsV s) tw)) :
    (recN G0 N).call 69 [.cell 0, .cell rc, .str (Str.ofString "m")] σ = some (.lst [.tup [.str (Str.ofString "method"), stepsV s, .str (Str.ofString "main.B.m"), .bool true, plainV]], σ) := by
  obtain ⟨n, rfl⟩ : ∃ n, N = n + 60 := ⟨N - 60, by omega⟩
  obtain ⟨m, h1, _, h2⟩ := ownMethods (N := n + 57) (by omega) G (nm := nB) (by simp [names5])
  have hkey : keyOk (.str (Str.ofString "m")) (methodsV nB) = true := by rfl
  have hf : dictFindV (.str (Str.ofString "m")) (methodsV nB) = some (.tup [.bool true, plainV, .str (Str.ofString "main.B.m")]) := by rfl
  have hr : σ.get rc = some (.inst 39 [(Str.ofString "told", namedV nB), (Str.ofString "steps", stepsV s), (Str.ofString "is_twice", .bool tw)]) := hr
  have hi : inV σ (.str (Str.ofString "m")) (.cell m) = some true := (v_in h2 hkey).trans (by rw [hf]; rfl)
  apply c_to (fi := fi69) (loc := [(Str.ofString "world", _), (Str.ofString "reached", _), (Str.ofString "name", _)]) rfl rfl
  with_reducible apply x_s; k_dflt show exsStep _ _ _ (_ :: _) _ _ = _; apply x_asg; kernel_rfl!; apply e_tup; kernel_rfl!; apply evs_s; kernel_rfl!; apply e_attr; kernel_rfl!; apply e_loc; kernel_rfl!; apply l_c; k_dflt rfl; apply v_attr; assumption; kernel_rfl!; apply l_c; k_dflt rfl; apply evs_s; kernel_rfl!; apply e_attr; kernel_rfl!; apply e_loc; kernel_rfl!; apply l_c; k_dflt rfl; apply v_attr; assumption; kernel_rfl!; apply l_c; k_dflt rfl; exact evs_0; apply a_tup; k_dflt rfl; kernel_rfl!; apply as_s; kernel_rfl!; apply a_name0; kernel_rfl!; apply as_s; kernel_rfl!; apply a_name; kernel_rfl!; exact as_0; apply x_name; kernel_rfl!; apply e_fn; kernel_rfl!; k_dflt rfl; kernel_rfl!; apply evs_s; kernel_rfl!; apply e_loc; kernel_rfl!; apply l_ext; kernel_rfl!; apply l_c; k_dflt rfl; apply evs_s; kernel_rfl!; apply e_loc; kernel_rfl!; apply l_in; k_dflt rfl; exact evs_0; assumption; apply x_p; apply s_if; apply t_cmp; apply c_mp; kernel_rfl!; apply e_loc; kernel_rfl!; apply l_ext; kernel_rfl!; apply l_c; k_dflt rfl; apply e_loc; kernel_rfl!; apply l_in; k_dflt rfl; apply cv_in; assumption; apply cnT; apply x_s; apply x_asg; kernel_rfl!; apply e_item; kernel_rfl!; apply e_loc; kernel_rfl!; apply l_in; k_dflt rfl; apply e_loc; kernel_rfl!; apply l_ext; kernel_rfl!; apply l_c; k_dflt rfl; apply v_itd; assumption; assumption; assumption; apply a_tup; k_dflt rfl; kernel_rfl!; apply as_s; kernel_rfl!; apply a_name; kernel_rfl!; apply as_s; kernel_rfl!; apply a_name; kernel_rfl!; apply as_s; kernel_rfl!; apply a_name; kernel_rfl!; exact as_0; apply x_ret; apply e_lst; kernel_rfl!; apply evs_s; kernel_rfl!; apply e_tup; kernel_rfl!; apply evs_s; kernel_rfl!; exact e_str; apply evs_s; kernel_rfl!; apply e_loc; kernel_rfl!; apply l_in; k_dflt rfl; apply evs_s; kernel_rfl!; apply e_loc; kernel_rfl!; apply l_in; k_dflt rfl; apply evs_s; kernel_rfl!; apply e_loc; kernel_rfl!; apply l_in; k_dflt rfl; apply evs_s; kernel_rfl!; apply e_loc; kernel_rfl!; apply l_in; k_dflt rfl; exact evs_0; exact evs_0; k_dflt exact fl_r; exact rfl
noncomputable def cmp5 : Expr := rtE ((forB (fi69.body.getD 5 (.Pass p0))).getD 0 (.Pass p0))
noncomputable def z_elt : Expr := cpE cmp5
noncomputable def z_tgt : Expr := (cpG cmp5).target
noncomputable def z_ifs : List Expr := (cpG cmp5).ifs
noncomputable def z_sc0 : Scope := cpS0 fi69.scope cmp5
noncomputable def z_sc : Scope := cpS fi69.scope cmp5
theorem face_comp {N c : Nat} (hN : 40 ≤ N) {w : Str} {s : Steps} {loc : Loc} {σ : St} (ow : okS w = true) (l1 : lookS (Str.ofString "name") loc = some (.str w)) (l2 : lookS (Str.ofString "steps") loc = some (stepsV s)) (hc : σ.get c = some (.list [])) :
    ∃ σ', compE (recN G0 N) z_sc z_tgt z_ifs (emitL (recN G0 N) z_sc c z_elt) 200 (.seq (.tup [.tup [.str (Str.ofString "go"), plainV], .tup [.str (Str.ofString "up"), plainV]]) 0) loc σ = some σ' ∧ σ'.next = σ.next ∧ (∀ j, j ≠ c → σ'.get j = σ.get j) ∧ σ'.get c = some (.list (faceL s w)) := by
  obtain ⟨n, rfl⟩ : ∃ n, N = n + 40 := ⟨N - 40, by omega⟩
  have og : okS (Str.ofString "go") = true := by rfl
  have ou : okS (Str.ofString "up") = true := by rfl
  have q1 := q_str (σ := σ) og ow
  have q2 := fun σ : St => q_str (σ := σ) ou ow
  unfold faceL
  cases h1 : sEq (Str.ofString "go") w with
  | true =>
    have q3 := q2 (σ.set c (.list ([] ++ [.tup [.str (Str.ofString "face"), stepsV s, .str w, plainV]])))
    rw [go_up h1] at q3
    rw [h1] at q1
    refine ⟨σ.set c (.list ([] ++ [.tup [.str (Str.ofString "face"), stepsV s, .str w, plainV]])), ?_, rfl, fun j hj => by rw [St.get_set, if_neg hj], by rw [St.get_set, if_pos rfl]; rfl⟩
    show compE _ _ (.Tuple _ _ _) [_] (emitL _ _ _ (.Tuple _ _ _)) _ _ _ _ = _
    apply k_step
    with_reducible apply n_seq; k_dflt rfl; k_dflt rfl; apply aN_tup; k_dflt rfl; kernel_rfl!; apply al_s; kernel_rfl!; apply aN_name0; kernel_rfl!; apply al_s; kernel_rfl!; apply aN_name; kernel_rfl!; exact al_0; apply at_1; apply t_cmp; apply c_mp; kernel_rfl!; apply e_loc; kernel_rfl!; apply l_in; k_dflt rfl; apply e_loc; kernel_rfl!; apply l_ext; kernel_rfl!; assumption; apply cv_eq; assumption; apply em_L; apply e_tup; kernel_rfl!; apply evs_s; kernel_rfl!; exact e_str; apply evs_s; kernel_rfl!; apply e_loc; kernel_rfl!; apply l_ext; kernel_rfl!; assumption; apply evs_s; kernel_rfl!; apply e_loc; kernel_rfl!; apply l_ext; kernel_rfl!; assumption; apply evs_s; kernel_rfl!; apply e_loc; kernel_rfl!; apply l_in; k_dflt rfl; exact evs_0; assumption; kernel_rfl!
    apply k_skip
    with_reducible apply n_seq; k_dflt rfl; k_dflt rfl; apply aN_tup; k_dflt rfl; kernel_rfl!; apply al_s; kernel_rfl!; apply aN_name; kernel_rfl!; apply al_s; kernel_rfl!; apply aN_name; kernel_rfl!; exact al_0; apply at_1; apply t_cmp; apply c_mp; kernel_rfl!; apply e_loc; kernel_rfl!; apply l_in; k_dflt rfl; apply e_loc; kernel_rfl!; apply l_ext; kernel_rfl!; assumption; apply cv_eq; assumption
    exact k_end (n_seqE rfl rfl)
  | false =>
    have q3 := q2 σ
    rw [h1] at q1
    cases h2 : sEq (Str.ofString "up") w with
    | true =>
      rw [h2] at q3
      refine ⟨σ.set c (.list ([] ++ [.tup [.str (Str.ofString "face"), stepsV s, .str w, plainV]])), ?_, rfl, fun j hj => by rw [St.get_set, if_neg hj], by rw [St.get_set, if_pos rfl]; rfl⟩
      show compE _ _ (.Tuple _ _ _) [_] (emitL _ _ _ (.Tuple _ _ _)) _ _ _ _ = _
      apply k_skip
      with_reducible apply n_seq; k_dflt rfl; k_dflt rfl; apply aN_tup; k_dflt rfl; kernel_rfl!; apply al_s; kernel_rfl!; apply aN_name0; kernel_rfl!; apply al_s; kernel_rfl!; apply aN_name; kernel_rfl!; exact al_0; apply at_1; apply t_cmp; apply c_mp; kernel_rfl!; apply e_loc; kernel_rfl!; apply l_in; k_dflt rfl; apply e_loc; kernel_rfl!; apply l_ext; kernel_rfl!; assumption; apply cv_eq; assumption
      apply k_step
      with_reducible apply n_seq; k_dflt rfl; k_dflt rfl; apply aN_tup; k_dflt rfl; kernel_rfl!; apply al_s; kernel_rfl!; apply aN_name; kernel_rfl!; apply al_s; kernel_rfl!; apply aN_name; kernel_rfl!; exact al_0; apply at_1; apply t_cmp; apply c_mp; kernel_rfl!; apply e_loc; kernel_rfl!; apply l_in; k_dflt rfl; apply e_loc; kernel_rfl!; apply l_ext; kernel_rfl!; assumption; apply cv_eq; assumption; apply em_L; apply e_tup; kernel_rfl!; apply evs_s; kernel_rfl!; exact e_str; apply evs_s; kernel_rfl!; apply e_loc; kernel_rfl!; apply l_ext; kernel_rfl!; assumption; apply evs_s; kernel_rfl!; apply e_loc; kernel_rfl!; apply l_ext; kernel_rfl!; assumption; apply evs_s; kernel_rfl!; apply e_loc; kernel_rfl!; apply l_in; k_dflt rfl; exact evs_0; assumption; kernel_rfl!
      exact k_end (n_seqE rfl rfl)
    | false =>
      rw [h2] at q3
      refine ⟨σ, ?_, rfl, fun _ _ => rfl, hc⟩
      show compE _ _ (.Tuple _ _ _) [_] (emitL _ _ _ (.Tuple _ _ _)) _ _ _ _ = _
      apply k_skip
      with_reducible apply n_seq; k_dflt rfl; k_dflt rfl; apply aN_tup; k_dflt rfl; kernel_rfl!; apply al_s; kernel_rfl!; apply aN_name0; kernel_rfl!; apply al_s; kernel_rfl!; apply aN_name; kernel_rfl!; exact al_0; apply at_1; apply t_cmp; apply c_mp; kernel_rfl!; apply e_loc; kernel_rfl!; apply l_in; k_dflt rfl; apply e_loc; kernel_rfl!; apply l_ext; kernel_rfl!; assumption; apply cv_eq; assumption
      apply k_skip
      with_reducible apply n_seq; k_dflt rfl; k_dflt rfl; apply aN_tup; k_dflt rfl; kernel_rfl!; apply al_s; kernel_rfl!; apply aN_name; kernel_rfl!; apply al_s; kernel_rfl!; apply aN_name; kernel_rfl!; exact al_0; apply at_1; apply t_cmp; apply c_mp; kernel_rfl!; apply e_loc; kernel_rfl!; apply l_in; k_dflt rfl; apply e_loc; kernel_rfl!; apply l_ext; kernel_rfl!; assumption; apply cv_eq; assumption
      exact k_end (n_seqE rfl rfl)
theorem membersAt_face {σ : St} {B bk N rc : Nat} {hf : Str → Held} (hN : 60 ≤ N) (G : Gr σ B bk hf) {w : Str} (ow : okS w = true) {s : Steps} {tw : Bool} (hr : σ.get rc = some (reachedI (namedV nJ) (stepsV s) tw)) :
    ∃ c σ', (recN G0 N).call 69 [.cell 0, .cell rc, .str w] σ = some (.cell c, σ') ∧ σ.next ≤ σ'.next ∧ (∀ j, j < σ.next → σ'.get j = σ.get j) ∧ σ'.get c = some (.list (faceL s w)) := by
  obtain ⟨n, rfl⟩ : ∃ n, N = n + 60 := ⟨N - 60, by omega⟩
  obtain ⟨m, h1, _, h2⟩ := ownMethods (N := n + 57) (by omega) G (nm := nJ) (by simp [names5])
  have hb : (recN G0 (n + 57)).call 450 [.cell 0, namedV nJ] σ = some (faceV, σ) := base_any (N := n + 57) (by omega) G (nm := nJ) (by simp [names5])
  have hb : (recN G0 (n + 57)).call 450 [.cell 0, namedV nJ] σ = some (.tup [.str (Str.ofString "interface"), .tup [.tup [.str (Str.ofString "go"), plainV], .tup [.str (Str.ofString "up"), plainV]]], σ) := hb
  have hw0 := G.world
  have hwb := wlN_base
  have o2 : okS (Str.ofString "struct") = true := by rfl
  have o3 : okS (Str.ofString "interface") = true := by rfl
  have q1 : eqTop σ (.str (Str.ofString "interface")) (.str (Str.ofString "struct")) = some false := q_str o3 o2
  have q2 : eqTop σ (.str (Str.ofString "interface")) (.str (Str.ofString "interface")) = some true := q_str o3 o3
  have h2 : σ.get m = some (.dict []) := h2
  have hi : inV σ (.str w) (.cell m) = some false := v_in h2 (keyOk_str ow rfl)
  have hr : σ.get rc = some (.inst 39 [(Str.ofString "told", namedV nJ), (Str.ofString "steps", stepsV s), (Str.ofString "is_twice", .bool tw)]) := hr
  obtain ⟨σ', f1, n1, g1, q3⟩ := face_comp (N := n + 56) (c := σ.next) (by omega) (s := s) (loc := freeLoc z_sc0 (ext [(Str.ofString "base", faceV), (Str.ofString "methods", .cell m), (Str.ofString "steps", stepsV s), (Str.ofString "told", namedV nJ)] [(Str.ofString "world", .cell 0), (Str.ofString "reached", .cell rc), (Str.ofString "name", .str w)])) (σ := σ.new (.list [])) ow ((look_free z_sc0 rfl _).trans (l_ext rfl rfl)) ((look_free z_sc0 rfl _).trans (l_in rfl)) g_new
  refine ⟨σ.next, σ', ?_, by rw [n1, St.next_new]; omega, fun j hj => by rw [g1 j (by omega), St.get_new, if_neg (by omega)], q3⟩
  apply c_to (fi := fi69) (loc := [(Str.ofString "world", _), (Str.ofString "reached", _), (Str.ofString "name", _)]) rfl rfl
  with_reducible apply x_s; k_dflt show exsStep _ _ _ (_ :: _) _ _ = _; apply x_asg; kernel_rfl!; apply e_tup; kernel_rfl!; apply evs_s; kernel_rfl!; apply e_attr; kernel_rfl!; apply e_loc; kernel_rfl!; apply l_c; k_dflt rfl; apply v_attr; assumption; kernel_rfl!; apply l_c; k_dflt rfl; apply evs_s; kernel_rfl!; apply e_attr; kernel_rfl!; apply e_loc; kernel_rfl!; apply l_c; k_dflt rfl; apply v_attr; assumption; kernel_rfl!; apply l_c; k_dflt rfl; exact evs_0; apply a_tup; k_dflt rfl; kernel_rfl!; apply as_s; kernel_rfl!; apply a_name0; kernel_rfl!; apply as_s; kernel_rfl!; apply a_name; kernel_rfl!; exact as_0; apply x_name; kernel_rfl!; apply e_fn; kernel_rfl!; k_dflt rfl; kernel_rfl!; apply evs_s; kernel_rfl!; apply e_loc; kernel_rfl!; apply l_ext; kernel_rfl!; apply l_c; k_dflt rfl; apply evs_s; kernel_rfl!; apply e_loc; kernel_rfl!; apply l_in; k_dflt rfl; exact evs_0; assumption; apply x_p; apply s_if; apply t_cmp; apply c_mp; kernel_rfl!; apply e_loc; kernel_rfl!; apply l_ext; kernel_rfl!; apply l_c; k_dflt rfl; apply e_loc; kernel_rfl!; apply l_in; k_dflt rfl; apply cv_in; assumption; apply cnF; apply x_s; exact x_0; k_dflt apply fl_n; apply x_name; kernel_rfl!; apply e_meth; kernel_rfl!; apply e_loc; kernel_rfl!; apply l_ext; kernel_rfl!; apply l_c; k_dflt rfl; apply m_of; assumption; apply mc_i; assumption; exact m_base_of; apply evs_s; kernel_rfl!; apply e_loc; kernel_rfl!; apply l_in; k_dflt rfl; exact evs_0; apply m_fn; assumption; apply x_p; apply s_if; apply t_cmp; apply c_mp; kernel_rfl!; apply e_item; kernel_rfl!; apply e_loc; kernel_rfl!; apply l_in; k_dflt rfl; exact e_int; apply v_itup; k_dflt rfl; exact e_str; apply cv_eq; assumption; apply cnF; apply x_s; exact x_0; k_dflt apply fl_n; apply x_p; apply s_if; apply t_cmp; apply c_mp; kernel_rfl!; apply e_item; kernel_rfl!; apply e_loc; kernel_rfl!; apply l_in; k_dflt rfl; exact e_int; apply v_itup; k_dflt rfl; exact e_str; apply cv_eq; assumption; apply cnT; apply x_s; apply x_ret; apply e_lc; kernel_rfl!; apply si_p; kernel_rfl!; apply e_item; kernel_rfl!; apply e_loc; kernel_rfl!; apply l_in; k_dflt rfl; exact e_int; apply v_itup; k_dflt rfl; k_dflt rfl; k_dflt assumption; k_dflt exact fl_r; exact rfl
theorem pure_steps (n : Nat) : ∀ s : Steps, allBy (pureN (n + 1)) (s.map stepV) = true
  | [] => rfl
  | _ :: s => (iT (by cases n <;> rfl) (pure_steps n s) : cond (pureN (n + 1) (stepV _)) (allBy (pureN (n + 1)) (s.map stepV)) false = true)
theorem alb {f : V → Bool} {v : V} {r : List V} (h : f v = true) (k : allBy f r = true) : allBy f (v :: r) = true := iT h k
theorem pT {n : Nat} {l : List V} (h : allBy (pureN n) l = true) : pureN (n + 1) (.tup l) = true := h
theorem pT8 {l : List V} (h : allBy (pureN 7) l = true) : pureV (.tup l) = true := h
theorem pS7 {s : Steps} : pureN 7 (stepsV s) = true := pure_steps 5 s
theorem pure_named (n : Nat) {o : Str} (h : okS o = true) : pureN (n + 2) (namedV o) = true := pT (alb rfl (alb h rfl))
theorem pure_edge (n : Nat) {o : Str} {f : Bool} (h : okS o = true) : pureN (n + 3) (edgeV o f) = true := by
  cases f with
  | true => exact pT (alb rfl (alb (pure_named n h) rfl))
  | false => exact pure_named (n + 1) h
theorem pure_field {s : Steps} {i : Nat} {T : V} (h : pureN 7 T = true) : pureV (fieldV s i T) = true := pT8 (alb rfl (alb pS7 (alb h rfl)))
theorem pure_all {s : Steps} {w : Str} : ∀ (rs : List (Str × V × Bool)) (i : Nat), (∀ r ∈ rs, pureN 7 r.2.1 = true) → allBy pureV (allR s w i rs) = true
  | [], _, _ => rfl
  | r :: rs, i, h => by
    have ih := pure_all (s := s) (w := w) rs (i + 1) fun x hx => h x (.tail _ hx)
    unfold allR
    cases sEq r.1 w with
    | true => exact alb (pure_field (h r (.head _))) ih
    | false => exact ih
theorem rowsR_pure {nm : Str} {held : Held} (h : ∀ p ∈ held, okS p.1 = true) : ∀ r ∈ rowsR nm held, pureN 7 r.2.1 = true :=
  rowsR_all (fun p hp => pure_edge 4 (h p hp)) rfl rfl
theorem pure_face {s : Steps} {w : Str} (ow : okS w = true) : allBy pureV (faceL s w) = true := by
  unfold faceL
  cases sEq (Str.ofString "go") w || sEq (Str.ofString "up") w with
  | true => exact alb (pT8 (alb rfl (alb pS7 (alb ow rfl)))) rfl
  | false => rfl
theorem q_lists {σ : St} {a b : V} {l : List V} (h : listOf σ a = some l) (k : listOf σ b = some l) (p : allBy pureV l = true) : eqTop σ a b = some true := oS h (i1 k (eqLists_refl p))
theorem membersEq {σ : St} {B bk N rc : Nat} {hf : Str → Held} (hN : 75 ≤ N) (G : Gr σ B bk hf) (hB : B ≤ σ.next) {nm w : Str} (hm : nm ∈ names5) (ow : okS w = true) {s : Steps} {tw : Bool} (hr : σ.get rc = some (reachedI (namedV nm) (stepsV s) tw)) (hrn : rc < σ.next) (hs : s.length < 900)
    (hu : firstL s w nm (hf nm) = allR s w 0 (rowsR nm (hf nm))) :
    ∃ v1 v2 σ1 σ2, (recN G0 N).call 69 [.cell 0, .cell rc, .str w] σ = some (v1, σ1) ∧ (recN G0 N).call 537 [.cell bk, .str nm, stepsV s, .str w] σ1 = some (v2, σ2) ∧ eqTop σ2 v1 v2 = some true ∧ σ.next ≤ σ2.next ∧ ∀ j, j < σ.next → σ2.get j = σ.get j := by
  cases hJ : sEq nm nJ with
  | true =>
    have hJ' : nm = nJ := (sEq_iff _ _).mp hJ
    rw [hJ'] at hr ⊢
    obtain ⟨c, σ1, h1, n1, g1, q1⟩ := membersAt_face (N := N) (by omega) G ow hr
    exact ⟨_, _, σ1, σ1, h1, members_face (by omega) ow, q_lists (v_lo q1) rfl (pure_face ow), n1, g1⟩
  | false =>
    cases hBm : sEq nm nB && sEq w (Str.ofString "m") with
    | true =>
      refine ea_0_2 (Bool.and_eq_true_iff.mp hBm) (fun q1 q2 => ?_)
      have e1 : nm = nB := (sEq_iff _ _).mp q1
      have e2 : w = Str.ofString "m" := (sEq_iff _ _).mp q2
      rw [e1] at hr ⊢
      rw [e2]
      exact ⟨_, _, σ, σ, membersAt_method (by omega) G hr, members_method (by omega), q_lists rfl rfl (alb (pT8 (alb rfl (alb pS7 rfl))) rfl), Nat.le_refl _, fun _ _ => rfl⟩
    | false =>
      have hw : dictFindV (.str w) (methodsV nm) = none := by
        unfold methodsV
        cases q1 : sEq nm nB with
        | false => rfl
        | true =>
          rw [q1, Bool.true_and] at hBm
          exact iF (sEq_false.mpr (Ne.symm (sEq_false.mp hBm)) : sEq (Str.ofString "m") w = false) rfl
      have h1 := membersAt_field (N := N) (by omega) G hm ow hr hs hJ hw
      rw [hu] at h1
      obtain ⟨c, σ2, h2, n2, g2, q2⟩ := members_field (N := N) (w := w) (by omega) G hB hm ow hs hJ hBm
      exact ⟨_, _, σ, σ2, h1, h2, q_lists rfl (v_lo q2) (pure_all _ _ (rowsR_pure fun p hp => names5_ok (G.cl nm hm p hp).1)), n2, g2⟩
noncomputable def cmp6 : Expr := asgE (fi554.body.getD 4 (.Pass p0))
noncomputable def cmp7 : Expr := cmL (rtE (fi554.body.getD 5 (.Pass p0)))
noncomputable def run554 (N : Nat) (e : Expr) (c : Nat) (fuel : Nat) (it : It) (loc : Loc) (σ : St) : Option St :=
  compE (recN G0 N) (cpS fi554.scope e) (cpG e).target (cpG e).ifs (emitL (recN G0 N) (cpS fi554.scope e) c (cpE e)) fuel it loc σ
theorem n_ran {σ : St} {i n : Int} (h : decide (i < n) = true) : nextIt σ (.range i n) = some (some (.int i, .range (i + 1) n)) := iT h rfl
theorem n_ranE {σ : St} {i n : Int} (h : decide (i < n) = false) : nextIt σ (.range i n) = some none := iF h rfl
theorem triV_eq (n : Str) (s : Steps) (i : Nat) (f b : Bool) : triV (n, s ++ [(i, f)], b) = .tup [.tup [.str (Str.ofString "named"), .str n], .tup (s.map stepV ++ [.tup [.int i, .bool f]]), .bool b] := by
  unfold triV stepsV
  rw [List.map_append]
  rfl
theorem held_loop {N m c bk : Nat} (hN : 40 ≤ N) {es : List (V × V)} {held : Held} {nm : Str} {s : Steps} {tw : Bool} (hm : m = held.length) (hm9 : m < 150) (on : okS nm = true) (hs : s.length < 900) (hk : keysAll isStrV es = true) (hcb : bk ≠ c) :
    ∀ (rest : Held) (i fuel : Nat), held.drop i = rest → rest.length < fuel → ∀ {acc : List V} {loc : Loc} {σ : St}, σ.get bk = some (.dict es) → (rest ≠ [] → ∃ h, h ≠ c ∧ dictFindV (.str nm) es = some (.cell h) ∧ σ.get h = some (.list (heldV held))) →
      lookS (Str.ofString "book") loc = some (.cell bk) → lookS (Str.ofString "name") loc = some (.str nm) → lookS (Str.ofString "steps") loc = some (stepsV s) → lookS (Str.ofString "is_twice") loc = some (.bool tw) → σ.get c = some (.list acc) → acc.length + rest.length < 900 →
    ∃ σ', run554 N cmp6 c fuel (.range i m) loc σ = some σ' ∧ σ'.next = σ.next ∧ (∀ j, j ≠ c → σ'.get j = σ.get j) ∧ σ'.get c = some (.list (acc ++ ((rest.zipIdx i).map fun q => triV (q.1.1, s ++ [(q.2, q.1.2)], tw)))) := by
  obtain ⟨n, rfl⟩ : ∃ n, N = n + 40 := ⟨N - 40, by omega⟩
  intro rest
  induction rest with
  | nil =>
    intro i fuel hd hf acc loc σ _ _ _ _ _ _ hc _
    obtain ⟨k, rfl⟩ : ∃ k, fuel = k + 1 := ⟨fuel - 1, by omega⟩
    refine ⟨σ, ?_, rfl, fun _ _ => rfl, hc.trans (by rw [List.zipIdx_nil, List.map_nil, List.append_nil])⟩
    have hle := List.drop_eq_nil_iff.mp hd
    exact k_end (n_ranE (decide_eq_false (by omega)))
  | cons p rest ih =>
    intro i fuel hd hf acc loc σ hb hh l1 l2 l3 l4 hc hlen
    obtain ⟨k, rfl⟩ : ∃ k, fuel = k + 1 := ⟨fuel - 1, by omega⟩
    have hi : held[i]? = some p := by
      have := congrArg (fun l => l[0]?) hd
      simpa using this
    have hr : held.drop (i + 1) = rest := by
      have := congrArg List.tail hd
      simpa using this
    have him : i < m := by rw [hm]; exact (List.getElem?_eq_some_iff.mp hi).1
    refine ea_1_3 (hh (by simp)) (fun h hne hf' hh' => ?_)
    simp only [List.length_cons] at hlen hf
    have hb' : Nat.blt acc.length 1000 = true := by rw [Nat.blt_eq]; omega
    have hb2 : Nat.blt ((s.map stepV).length + 1) 1000 = true := by rw [Nat.blt_eq, List.length_map]; omega
    have hkey : keyOk (.str nm) es = true := keyOk_str on hk
    have hi' : (heldV held)[i]? = some (.tup [.str p.1, .bool p.2]) := by simp [heldV, hi]
    have ha : atInt (heldV held) (i : Int) = some (.tup [.str p.1, .bool p.2]) := iT (bB (decide_eq_true (by omega)) (by rw [Nat.blt_eq]; omega)) hi'
    have l3' : lookS (Str.ofString "steps") loc = some (.tup (s.map stepV)) := l3
    obtain ⟨σ', f2, n2, g2, q2⟩ := ih (i + 1) k hr (by omega) (acc := acc ++ [triV (p.1, s ++ [(i, p.2)], tw)]) (loc := ext [(Str.ofString "k", .int i)] loc) (σ := σ.set c (.list (acc ++ [triV (p.1, s ++ [(i, p.2)], tw)]))) ((St.get_set ..).trans ((if_neg hcb).trans hb)) (fun _ => ⟨h, hne, hf', (St.get_set ..).trans ((if_neg hne).trans hh')⟩) (l_ext rfl l1) (l_ext rfl l2) (l_ext rfl l3) (l_ext rfl l4) g_eq (by simp; omega)
    refine ⟨σ', ?_, n2, fun j hj => by rw [g2 j hj, St.get_set, if_neg hj], by rw [q2]; simp⟩
    rw [triV_eq] at f2
    show compE _ _ (.Name _ _) [] (emitL _ _ _ (.Tuple _ _ _)) _ _ _ _ = _
    apply k_step
    · exact n_ran (decide_eq_true (by omega))
    with_reducible apply aN_name0; kernel_rfl!; exact at_00; apply em_L; apply e_tup; kernel_rfl!; apply evs_s; kernel_rfl!; apply e_tup; kernel_rfl!; apply evs_s; kernel_rfl!; exact e_str; apply evs_s; kernel_rfl!; apply e_item; kernel_rfl!; apply e_item; kernel_rfl!; apply e_item; kernel_rfl!; apply e_loc; kernel_rfl!; apply l_ext; kernel_rfl!; assumption; apply e_loc; kernel_rfl!; apply l_ext; kernel_rfl!; assumption; apply v_itd; assumption; assumption; assumption; apply e_loc; kernel_rfl!; apply l_in; k_dflt rfl; apply v_itl; assumption; assumption; exact e_int; apply v_itup; k_dflt rfl; exact evs_0; apply evs_s; kernel_rfl!; apply e_bin; apply e_loc; kernel_rfl!; apply l_ext; kernel_rfl!; assumption; apply e_tup; kernel_rfl!; apply evs_s; kernel_rfl!; apply e_tup; kernel_rfl!; apply evs_s; kernel_rfl!; apply e_loc; kernel_rfl!; apply l_in; k_dflt rfl; apply evs_s; kernel_rfl!; apply e_item; kernel_rfl!; apply e_item; kernel_rfl!; apply e_item; kernel_rfl!; apply e_loc; kernel_rfl!; apply l_ext; kernel_rfl!; assumption; apply e_loc; kernel_rfl!; apply l_ext; kernel_rfl!; assumption; apply v_itd; assumption; assumption; assumption; apply e_loc; kernel_rfl!; apply l_in; k_dflt rfl; apply v_itl; assumption; assumption; exact e_int; apply v_itup; k_dflt rfl; exact evs_0; exact evs_0; apply add_tt; k_dflt assumption; apply evs_s; kernel_rfl!; apply e_loc; kernel_rfl!; apply l_ext; kernel_rfl!; assumption; exact evs_0; assumption; assumption; k_dflt assumption
theorem one_loop {N c ec : Nat} (hN : 40 ≤ N) {l : List V} (hce : ec ≠ c) :
    ∀ (rest : List Ent) (i fuel : Nat), l.drop i = rest.map (fun e => V.cell e.c) → rest.length < fuel → ∀ {acc : List V} {loc : Loc} {σ : St}, σ.get ec = some (.list l) → (∀ e ∈ rest, EntAt σ e ∧ e.c ≠ c) → acc.length + rest.length < 900 → σ.get c = some (.list acc) →
    ∃ σ', run554 N cmp7 c fuel (.seq (.cell ec) i) loc σ = some σ' ∧ σ'.next = σ.next ∧ (∀ j, j ≠ c → σ'.get j = σ.get j) ∧ σ'.get c = some (.list (acc ++ (rest.map tri).map triV)) := by
  obtain ⟨n, rfl⟩ : ∃ n, N = n + 40 := ⟨N - 40, by omega⟩
  intro rest
  induction rest with
  | nil =>
    intro i fuel hd hf acc loc σ hec _ _ hc
    obtain ⟨k, rfl⟩ : ∃ k, fuel = k + 1 := ⟨fuel - 1, by omega⟩
    refine ⟨σ, ?_, rfl, fun _ _ => rfl, hc.trans (by rw [List.map_nil, List.map_nil, List.append_nil])⟩
    have : l[i]? = none := List.getElem?_eq_none (List.drop_eq_nil_iff.mp hd)
    exact k_end (n_seqE (v_sq hec) this)
  | cons e rest ih =>
    intro i fuel hd hf acc loc σ hec he hlen hc
    obtain ⟨k, rfl⟩ : ∃ k, fuel = k + 1 := ⟨fuel - 1, by omega⟩
    have hi : l[i]? = some (.cell e.c) := by
      have := congrArg (fun l => l[0]?) hd
      simpa using this
    have hr : l.drop (i + 1) = rest.map (fun e => V.cell e.c) := by
      have := congrArg List.tail hd
      simpa using this
    simp only [List.length_cons] at hlen hf
    have hb' : Nat.blt acc.length 1000 = true := by rw [Nat.blt_eq]; omega
    have h0 := (he e (.head _)).1
    unfold EntAt at h0
    obtain ⟨σ', f2, n2, g2, h2⟩ := ih (i + 1) k hr (by omega) (acc := acc ++ [triV (tri e)]) (loc := ext [(Str.ofString "one", .cell e.c)] loc) (σ := σ.set c (.list (acc ++ [triV (tri e)]))) ((St.get_set ..).trans ((if_neg hce).trans hec)) (fun x hx => ⟨entAt_set (he x (.tail _ hx)).1 (he x (.tail _ hx)).2, (he x (.tail _ hx)).2⟩) (by simp; omega) g_eq
    refine ⟨σ', ?_, n2, fun j hj => by rw [g2 j hj, St.get_set, if_neg hj], by rw [h2]; simp⟩
    show compE _ _ (.Name _ _) [] (emitL _ _ _ (.Tuple _ _ _)) _ _ _ _ = _
    apply k_step
    with_reducible apply n_seq; apply v_sq; assumption; assumption; apply aN_name0; kernel_rfl!; exact at_00; apply em_L; apply e_tup; kernel_rfl!; apply evs_s; kernel_rfl!; apply e_attr; kernel_rfl!; apply e_loc; kernel_rfl!; apply l_in; k_dflt rfl; apply v_attr; k_dflt assumption; kernel_rfl!; apply l_c; k_dflt rfl; apply evs_s; kernel_rfl!; apply e_attr; kernel_rfl!; apply e_loc; kernel_rfl!; apply l_in; k_dflt rfl; apply v_attr; k_dflt assumption; kernel_rfl!; apply l_c; k_dflt rfl; apply evs_s; kernel_rfl!; apply e_attr; kernel_rfl!; apply e_loc; kernel_rfl!; apply l_in; k_dflt rfl; apply v_attr; k_dflt assumption; kernel_rfl!; apply l_c; k_dflt rfl; exact evs_0; assumption; assumption; k_dflt assumption
noncomputable def s0 : Steps := [(4, true), (1, false)]
noncomputable def bi (b : Bool) : Int := cond b 1 0
noncomputable def mKeys (nm : Str) : List V := cond (sEq nm nB) [.str (Str.ofString "m")] []
theorem mKeys_ok (nm : Str) (σ : St) {m : Nat} (h : σ.get m = some (.dict (methodsV nm))) : callB σ (.builtin "sorted") [.cell m] = some (.lst (mKeys nm)) ∧ callB σ (.type "int") [.bool (sEq nm nB)] = some (.int (bi (sEq nm nB))) ∧ binV σ .Mult (.lst [.str (Str.ofString "m")]) (.int (bi (sEq nm nB))) = some (.lst (mKeys nm)) ∧ eqTop σ (.lst (mKeys nm)) (.lst (mKeys nm)) = some true := by
  have q : itemsOf σ (.cell m) = some ((methodsV nm).map (·.1)) := oN (no_l h) (i1 (at_d h) rfl)
  unfold mKeys
  unfold methodsV at q
  cases hb : sEq nm nB <;> rw [hb] at q <;> exact ⟨b_sort q rfl, rfl, rfl, rfl⟩
theorem eqTop_empty {σ : St} {i j : Nat} (hn : i ≠ j) (h1 : σ.get i = some (.dict [])) (h2 : σ.get j = some (.dict [])) : eqTop σ (.cell i) (.cell j) = some true :=
  oN (no_l h1) (iF (by rw [show listOf σ (.cell j) = none from no_l h2]; rfl) (oS rfl (i1 rfl (iF (Bool.eq_false_iff.mpr fun h => hn (Nat.eq_of_beq_eq_true h)) (i1 (at_d h1) (i1 (at_d h2) rfl))))))
theorem innP_pure {σ : St} {B bk : Nat} {hf : Str → Held} (G : Gr σ B bk hf) {nm : Str} (hm : nm ∈ names5) {s : Steps} {tw : Bool} : allBy pureV ((innP hf (nm, s, tw)).map triV) = true := by
  have : ∀ l : List Tri, (∀ t ∈ l, okS t.1 = true) → allBy pureV (l.map triV) = true := by
    intro l
    induction l with
    | nil => exact fun _ => rfl
    | cons t l ih => exact fun h => alb (pT8 (alb (pure_named 5 (h t (.head _))) (alb pS7 rfl))) (ih fun x hx => h x (.tail _ hx))
  refine this _ fun t ht => ?_
  obtain ⟨q, hq, rfl⟩ := List.mem_map.mp ht
  exact names5_ok (G.cl nm hm q.1 (List.mem_of_getElem? (List.mk_mem_zipIdx_iff_getElem? .. |>.mp hq))).1
noncomputable abbrev new2 (σ : St) : St := (σ.new (.dict [])).new (.dict [])
noncomputable abbrev loc7 (bk rc : Nat) (nm w : Str) : Loc := ext [(Str.ofString "reached", .cell rc), (Str.ofString "is_twice", .bool (sEq w (Str.ofString "m"))), (Str.ofString "steps", .tup [.tup [.int 4, .bool true], .tup [.int 1, .bool false]]), (Str.ofString "T", .tup [.str (Str.ofString "named"), .str nm])] [(Str.ofString "world", .cell 0), (Str.ofString "book", .cell bk), (Str.ofString "name", .str nm), (Str.ofString "word", .str w)]
noncomputable abbrev loc8 (bk rc dc : Nat) (nm w : Str) : Loc := ext [(Str.ofString "due", .cell dc), (Str.ofString "reached", .cell rc), (Str.ofString "is_twice", .bool (sEq w (Str.ofString "m"))), (Str.ofString "steps", .tup [.tup [.int 4, .bool true], .tup [.int 1, .bool false]]), (Str.ofString "T", .tup [.str (Str.ofString "named"), .str nm])] [(Str.ofString "world", .cell 0), (Str.ofString "book", .cell bk), (Str.ofString "name", .str nm), (Str.ofString "word", .str w)]
theorem heldRight {N B bk : Nat} {hf : Str → Held} {nm w : Str} {σ : St} (hN : 120 ≤ N) (G : Gr σ B bk hf) (hB : B ≤ σ.next) (hm : nm ∈ names5) (ow : okS w = true)
    (hu : firstL s0 w nm (hf nm) = allR s0 w 0 (rowsR nm (hf nm))) : ∃ σ', (recN G0 N).call 554 [.cell 0, .cell bk, .str nm, .str w] σ = some (.bool true, σ') := by
  obtain ⟨k, rfl⟩ : ∃ k, N = k + 120 := ⟨N - 120, by omega⟩
  have on := names5_ok hm
  have k1 := q_str (σ := σ) ow (rfl : okS (Str.ofString "m") = true)
  have G1 : Gr (σ.new (reachedI (namedV nm) (stepsV s0) (sEq w (Str.ofString "m")))) B bk hf := G.mono fun j hj => by rw [St.get_new, if_neg (by omega)]
  obtain ⟨v1, v2, σ1, σ2, a1, a2, a3, n1, g1⟩ := membersEq (N := k + 116) (by omega) G1 (by rw [St.next_new]; omega) hm ow g_new (by rw [St.next_new]; omega) (by decide) hu
  have a2 : (recN G0 (k + 116)).call 537 [.cell bk, .str nm, .tup [.tup [.int 4, .bool true], .tup [.int 1, .bool false]], .str w] σ1 = some (v2, σ2) := a2
  have a1 : (recN G0 (k + 116)).call 69 [.cell 0, .cell σ.next, .str w] (σ.new (reachedI (.tup [.str (Str.ofString "named"), .str nm]) (.tup [.tup [.int 4, .bool true], .tup [.int 1, .bool false]]) (sEq w (Str.ofString "m")))) = some (v1, σ1) := a1
  rw [St.next_new] at n1 g1
  have G2 := G1.mono (σ' := σ2) fun j hj => g1 j (by omega)
  have hr2 : σ2.get σ.next = some (reachedI (namedV nm) (stepsV s0) (sEq w (Str.ofString "m"))) := by rw [g1 _ (by omega), St.get_new, if_pos rfl]
  obtain ⟨m, b1, b2, b3⟩ := ownMethods (N := k + 114) (by omega) G2 hm
  have b1 : (recN G0 (k + 114)).call 64 [.cell 0, .tup [.str (Str.ofString "named"), .str nm]] σ2 = some (.cell m, σ2) := b1
  have b4 := ownMethods_ptr (N := k + 115) (σ := σ2) (t := .tup [.str (Str.ofString "named"), .str nm]) (w := .cell 0) (by omega)
  refine ea_0_4 (mKeys_ok nm σ2 b3) (fun c1 c2 c3 c4 => ?_)
  have k2 : eqTop σ2 (.str nm) (.str (Str.ofString "main.B")) = some (sEq nm nB) := q_str on (rfl : okS nB = true)
  have e5 : eqTop (new2 σ2) (.cell σ2.next) (.cell (σ2.new (.dict [])).next) = some true := eqTop_empty (Nat.ne_of_lt (Nat.lt_succ_self _)) (g_old (Nat.ne_of_lt (Nat.lt_succ_self _)) g_new) g_new
  have n3 : (new2 σ2).next = σ2.next + 2 := rfl
  have g3 : ∀ j, j < σ2.next → (new2 σ2).get j = σ2.get j := fun j hj => by rw [St.get_new, if_neg (by rw [St.next_new]; omega), St.get_new, if_neg (by omega)]
  have G3 := G2.mono (σ' := new2 σ2) fun j hj => g3 j (by omega)
  have hr3 := (g3 _ (by omega)).trans hr2
  refine ea_1_3 (G3.book) (fun es d1 d2 d3 => ?_)
  refine ea_1_2 (d3 nm hm) (fun hv d4 d5 => ?_)
  have hsh := G3.short nm
  have hbB := G3.bB
  have hkey : keyOk (.str nm) es = true := keyOk_str on d2
  have hln : callB (new2 σ2) (.builtin "len") [hv] = some (.int (hf nm).length) := by
    rcases d5 with ⟨rfl, q⟩ | ⟨h, rfl, _, q⟩
    · rw [q]; rfl
    · have hl : (heldV (hf nm)).length = (hf nm).length := List.length_map ..
      exact (b_len (v_lo q) rfl (by rw [Nat.blt_eq]; omega)).trans (by rw [hl])
  have hlb : (decide (0 ≤ ((hf nm).length : Int)) && decide (((hf nm).length : Int) < 1000)) = true := bB (decide_eq_true (by omega)) (decide_eq_true (by omega))
  obtain ⟨σ4, f4, n4, g4, q4⟩ := held_loop (N := k + 117) (m := (hf nm).length) (c := (new2 σ2).next) (bk := bk) (by omega) rfl (by omega) (s := s0) (tw := sEq w (Str.ofString "m")) on (by decide) d2 (by omega) (hf nm) 0 200 rfl (by omega) (acc := [])
    (loc := freeLoc (cpS0 fi554.scope cmp6) (loc7 bk σ.next nm w)) (σ := (new2 σ2).new (.list [])) (by rw [St.get_new, if_neg (by omega)]; exact d1)
    (fun hne => by
      rcases d5 with ⟨_, q⟩ | ⟨h, rfl, q1, q2⟩
      · exact absurd q hne
      · exact ⟨h, by omega, d4, by rw [St.get_new, if_neg (by omega)]; exact q2⟩) ((look_free _ rfl _).trans (l_ext rfl rfl)) ((look_free _ rfl _).trans (l_ext rfl rfl)) ((look_free _ rfl _).trans (l_in rfl)) ((look_free _ rfl _).trans (l_in rfl)) g_new (by simp; omega)
  rw [St.next_new] at n4
  have G4 := G3.mono (σ' := σ4) fun j hj => by rw [g4 j (by omega), St.get_new, if_neg (by omega)]
  have hr4 : σ4.get σ.next = _ := (by rw [g4 _ (by omega), St.get_new, if_neg (by omega)] : σ4.get σ.next = (new2 σ2).get σ.next).trans hr3
  obtain ⟨σ5, h5, n5, g5, q5, r5⟩ := embedded (N := k + 115) (by omega) G4 hm hr4 (by omega) (by decide)
  have hE : ((hf nm).zipIdx 0).map (fun q => triV (q.1.1, s0 ++ [(q.2, q.1.2)], sEq w (Str.ofString "m"))) = ((inners hf ⟨σ.next, nm, s0, sEq w (Str.ofString "m")⟩ (σ4.next + 1)).map tri).map triV := by
    rw [inn_tri]
    simp only [innP, tri, List.map_map]
    rfl
  have hil : (inners hf ⟨σ.next, nm, s0, sEq w (Str.ofString "m")⟩ (σ4.next + 1)).length = (hf nm).length := by simp [inners]
  obtain ⟨σ6, f6, n6, g6, q6⟩ := one_loop (N := k + 116) (c := σ5.next) (ec := σ4.next) (by omega) (l := (List.range (hf nm).length).map fun j => V.cell (σ4.next + 1 + j)) (by omega) (inners hf ⟨σ.next, nm, s0, sEq w (Str.ofString "m")⟩ (σ4.next + 1)) 0 200 (inn_cells hf ⟨σ.next, nm, s0, sEq w (Str.ofString "m")⟩ (σ4.next + 1)).symm (by omega)
    (acc := []) (loc := freeLoc (cpS0 fi554.scope cmp7) (loc8 bk σ.next (new2 σ2).next nm w)) (σ := σ5.new (.list [])) (by rw [St.get_new, if_neg (by omega)]; exact q5)
    (fun x hx => by
      obtain ⟨j, p, hp, rfl⟩ := inn_mem hx
      have hj : j < (hf nm).length := (List.getElem?_eq_some_iff.mp hp).1
      refine ⟨?_, by show σ4.next + 1 + j ≠ σ5.next; omega⟩
      show St.get _ (σ4.next + 1 + j) = _
      rw [St.get_new, if_neg (by omega)]
      exact r5 j p hp) (by simp; omega) g_new
  rw [List.nil_append] at q6 q4
  rw [hE] at q4
  have q4' : σ6.get (new2 σ2).next = _ := (by rw [g6 _ (by omega), St.get_new, if_neg (by omega), g5 _ (by omega)] : σ6.get (new2 σ2).next = σ4.get (new2 σ2).next).trans q4
  have hfin : eqTop σ6 (.cell σ5.next) (.cell (new2 σ2).next) = some true := q_lists (v_lo q6) (v_lo q4') (by rw [inn_tri]; exact innP_pure G3 hm)
  refine ⟨σ6, ?_⟩
  apply c_to (fi := fi554) (loc := [(Str.ofString "world", _), (Str.ofString "book", _), (Str.ofString "name", _), (Str.ofString "word", _)]) rfl rfl
  with_reducible apply x_s; k_dflt show exsStep _ _ _ (_ :: _) _ _ = _; apply x_asg; kernel_rfl!; apply e_tup; kernel_rfl!; apply evs_s; kernel_rfl!; apply e_tup; kernel_rfl!; apply evs_s; kernel_rfl!; exact e_str; apply evs_s; kernel_rfl!; apply e_loc; kernel_rfl!; apply l_c; k_dflt rfl; exact evs_0; apply evs_s; kernel_rfl!; apply e_tup; kernel_rfl!; apply evs_s; kernel_rfl!; apply e_tup; kernel_rfl!; apply evs_s; kernel_rfl!; exact e_int; apply evs_s; kernel_rfl!; exact e_tf; exact evs_0; apply evs_s; kernel_rfl!; apply e_tup; kernel_rfl!; apply evs_s; kernel_rfl!; exact e_int; apply evs_s; kernel_rfl!; exact e_tf; exact evs_0; exact evs_0; apply evs_s; kernel_rfl!; apply e_cmp; apply c_mp; kernel_rfl!; apply e_loc; kernel_rfl!; apply l_c; k_dflt rfl; exact e_str; apply cv_eq; assumption; exact evs_0; apply a_tup; k_dflt rfl; kernel_rfl!; apply as_s; kernel_rfl!; apply a_name0; kernel_rfl!; apply as_s; kernel_rfl!; apply a_name; kernel_rfl!; apply as_s; kernel_rfl!; apply a_name; kernel_rfl!; exact as_0; apply x_name; kernel_rfl!; apply e_cls; kernel_rfl!; k_dflt rfl; kernel_rfl!; k_dflt rfl; apply evs_s; kernel_rfl!; apply e_loc; kernel_rfl!; apply l_in; k_dflt rfl; apply evs_s; kernel_rfl!; apply e_loc; kernel_rfl!; apply l_in; k_dflt rfl; apply evs_s; kernel_rfl!; apply e_loc; kernel_rfl!; apply l_in; k_dflt rfl; exact evs_0; exact makeReached3_r; apply x_p; apply s_if; apply t_cmp; apply c_mp; kernel_rfl!; apply e_fn; kernel_rfl!; k_dflt rfl; kernel_rfl!; apply evs_s; kernel_rfl!; apply e_loc; kernel_rfl!; apply l_ext; kernel_rfl!; apply l_c; k_dflt rfl; apply evs_s; kernel_rfl!; apply e_loc; kernel_rfl!; apply l_in; k_dflt rfl; apply evs_s; kernel_rfl!; apply e_loc; kernel_rfl!; apply l_ext; kernel_rfl!; apply l_c; k_dflt rfl; exact evs_0; assumption; apply e_fn; kernel_rfl!; k_dflt rfl; kernel_rfl!; apply evs_s; kernel_rfl!; apply e_loc; kernel_rfl!; apply l_ext; kernel_rfl!; apply l_c; k_dflt rfl; apply evs_s; kernel_rfl!; apply e_loc; kernel_rfl!; apply l_ext; kernel_rfl!; apply l_c; k_dflt rfl; apply evs_s; kernel_rfl!; apply e_loc; kernel_rfl!; apply l_in; k_dflt rfl; apply evs_s; kernel_rfl!; apply e_loc; kernel_rfl!; apply l_ext; kernel_rfl!; apply l_c; k_dflt rfl; exact evs_0; assumption; apply cv_ne; assumption; apply cnnT; apply x_s; exact x_0; k_dflt apply fl_n; apply x_p; apply s_if; apply t_or; apply at_s; apply t_cmp; apply c_mp; kernel_rfl!; apply e_blt; kernel_rfl!; k_dflt rfl; kernel_rfl!; apply evs_s; kernel_rfl!; apply e_fn; kernel_rfl!; k_dflt rfl; kernel_rfl!; apply evs_s; kernel_rfl!; apply e_loc; kernel_rfl!; apply l_ext; kernel_rfl!; apply l_c; k_dflt rfl; apply evs_s; kernel_rfl!; apply e_loc; kernel_rfl!; apply l_in; k_dflt rfl; exact evs_0; assumption; exact evs_0; assumption; apply e_bin; apply e_lst; kernel_rfl!; apply evs_s; kernel_rfl!; exact e_str; exact evs_0; apply e_blt; kernel_rfl!; k_dflt rfl; kernel_rfl!; apply evs_s; kernel_rfl!; apply e_cmp; apply c_mp; kernel_rfl!; apply e_loc; kernel_rfl!; apply l_ext; kernel_rfl!; apply l_c; k_dflt rfl; exact e_str; apply cv_eq; assumption; exact evs_0; assumption; assumption; apply cv_ne; assumption; apply soN; apply at_1; apply t_cmp; apply c_mp; kernel_rfl!; apply e_fn; kernel_rfl!; k_dflt rfl; kernel_rfl!; apply evs_s; kernel_rfl!; apply e_loc; kernel_rfl!; apply l_ext; kernel_rfl!; apply l_c; k_dflt rfl; apply evs_s; kernel_rfl!; apply e_tup; kernel_rfl!; apply evs_s; kernel_rfl!; exact e_str; apply evs_s; kernel_rfl!; apply e_loc; kernel_rfl!; apply l_in; k_dflt rfl; exact evs_0; exact evs_0; assumption; apply e_dict; kernel_rfl!; exact ep_0; k_dflt rfl; apply cv_ne; assumption; apply cnnT; apply x_s; exact x_0; k_dflt apply fl_n; apply x_name; kernel_rfl!; apply e_lc; kernel_rfl!; apply si_r; k_dflt rfl; kernel_rfl!; apply e_blt; kernel_rfl!; k_dflt rfl; kernel_rfl!; apply evs_s; kernel_rfl!; apply e_item; kernel_rfl!; apply e_loc; kernel_rfl!; apply l_ext; kernel_rfl!; apply l_c; k_dflt rfl; apply e_loc; kernel_rfl!; apply l_ext; kernel_rfl!; apply l_c; k_dflt rfl; apply v_itd; assumption; assumption; assumption; exact evs_0; assumption; assumption; k_dflt assumption; apply x_ret; apply e_cmp; apply c_mp; kernel_rfl!; apply e_lc; kernel_rfl!; apply si_p; kernel_rfl!; apply e_fn; kernel_rfl!; k_dflt rfl; kernel_rfl!; apply evs_s; kernel_rfl!; apply e_loc; kernel_rfl!; apply l_ext; kernel_rfl!; apply l_c; k_dflt rfl; apply evs_s; kernel_rfl!; apply e_loc; kernel_rfl!; apply l_in; k_dflt rfl; exact evs_0; assumption; apply it_l; assumption; k_dflt assumption; apply e_loc; kernel_rfl!; apply l_in; k_dflt rfl; apply cv_eq; assumption; exact rfl
noncomputable def erP (p : Nat × Bool) : Nat × Bool := (p.1, false)
noncomputable def er (s : Steps) : Steps := s.map erP
noncomputable def erT (t : Tri) : Tri := (t.1, er t.2.1, t.2.2)
noncomputable def erW (w : Str × Steps) : Str × Steps := (w.1, er w.2)
noncomputable def erQ (p : Str × Bool) : Str × Bool := (p.1, false)
noncomputable def getAll {α : Type} (T : List α) : List Nat → Option (List α)
  | [] => some []
  | i :: r => bnd T[i]? fun a => bnd (getAll T r) fun l => some (a :: l)
noncomputable def sortP {α : Type} (g : α → V) (T : List α) : Option (List α) := cond (Nat.blt T.length 2) (some T) (bnd (runT (fun i j => ltV ((T.map g).getD i .none) ((T.map g).getD j .none)) (kas_sort T.length)) fun p => getAll T p.toList)
noncomputable def minP1 {α : Type} (g : α → V) (b : α) : List α → Option α
  | [] => some b
  | v :: r => bnd (ltV (g v) (g b)) fun c => cond c (minP1 g v r) (minP1 g b r)
noncomputable def minP {α : Type} (g : α → V) (l : List α) : Option α := bnd2 (unc l) (minP1 g)
section
variable {α : Type} {g : α → V} {e : α → α}
theorem getAll_map (β : Type) (f : α → β) (T : List α) : ∀ l : List Nat, getAll (T.map f) l = (getAll T l).map (List.map f)
  | [] => rfl
  | i :: r => by
    show (bnd (T.map f)[i]? fun a => bnd (getAll (T.map f) r) fun l => some (a :: l)) = Option.map _ (bnd T[i]? fun a => bnd (getAll T r) fun l => some (a :: l))
    rw [List.getElem?_map, getAll_map β f T r]
    cases T[i]? with
    | none => rfl
    | some a => cases getAll T r <;> rfl
theorem getAll_mem {T : List α} : ∀ {l : List Nat} {S : List α}, getAll T l = some S → ∀ a ∈ S, a ∈ T
  | [], S, h => Option.some.inj h ▸ fun _ h => nomatch h
  | i :: r, S, h => b1 h fun a q h => b1 h fun l q2 h => Option.some.inj h ▸ List.forall_mem_cons.mpr ⟨List.mem_of_getElem? q, getAll_mem q2⟩
theorem getAll_get {T : List α} : ∀ {l : List Nat} {S : List α}, getAll T l = some S → l.map (fun i => (T.map g).getD i V.none) = S.map g
  | [], S, h => Option.some.inj h ▸ rfl
  | i :: r, S, h => b1 h fun a q h => b1 h fun l q2 h => by
    rw [← Option.some.inj h, List.map_cons, List.map_cons, getAll_get q2, List.getD_eq_getElem?_getD, List.getElem?_map, q]
    rfl
theorem sortV_map {T S : List α} (hp : allBy pureV (T.map g) = true) (hk : (allBy isStrV (T.map g) || allBy isTT (T.map g)) = true) (hl : T.length < 64) (h : sortP g T = some S) : sortV (T.map g) = some (S.map g) := by
  refine iT (bB hp hk) ?_
  unfold sortL
  rw [List.length_map]
  exact bC h (fun q h => iT q (by rw [Option.some.inj h])) fun q h => iF q (iT (by rw [Nat.blt_eq]; exact hl) (b1 h fun p q h => i1 q (congrArg some (getAll_get h))))
theorem ltV_none (a : V) : ltV a .none = none ∧ ltV .none a = none := by cases a <;> exact ⟨rfl, rfl⟩
theorem sortP_er {T : List α} (h : ∀ a ∈ T, ∀ b ∈ T, ltV (g (e a)) (g (e b)) = ltV (g a) (g b)) : sortP g (T.map e) = (sortP g T).map (List.map e) := by
  have hf : (fun i j => ltV (((T.map e).map g).getD i .none) (((T.map e).map g).getD j .none)) = fun i j => ltV ((T.map g).getD i .none) ((T.map g).getD j .none) := funext fun i => funext fun j => by
    simp only [List.getD_eq_getElem?_getD, List.getElem?_map]
    cases hi : T[i]? with
    | none => exact (ltV_none _).2.trans (ltV_none _).2.symm
    | some x =>
      cases hj : T[j]? with
      | none => exact (ltV_none _).1.trans (ltV_none _).1.symm
      | some y => exact h x (List.mem_of_getElem? hi) y (List.mem_of_getElem? hj)
  unfold sortP
  rw [List.length_map, hf]
  cases Nat.blt T.length 2 with
  | true => rfl
  | false =>
    cases hr : runT (fun i j => ltV ((T.map g).getD i .none) ((T.map g).getD j .none)) (kas_sort T.length) with
    | none => rfl
    | some p => exact getAll_map α e _ _
theorem sortP_mem {T S : List α} (h : sortP g T = some S) : ∀ a ∈ S, a ∈ T :=
  bC h (fun _ h => Option.some.inj h ▸ fun _ h => h) fun _ h => b1 h fun _ _ h => getAll_mem h
theorem minP1_er : ∀ {T : List α} {b : α}, (∀ x ∈ b :: T, ∀ y ∈ b :: T, ltV (g (e x)) (g (e y)) = ltV (g x) (g y)) → minP1 g (e b) (T.map e) = (minP1 g b T).map e
  | [], _, _ => rfl
  | v :: r, b, h => by
    show (bnd (ltV (g (e v)) (g (e b))) fun c => cond c (minP1 g (e v) (r.map e)) (minP1 g (e b) (r.map e))) = Option.map e (bnd (ltV (g v) (g b)) fun c => cond c (minP1 g v r) (minP1 g b r))
    rw [h v (.tail _ (.head _)) b (.head _)]
    cases ltV (g v) (g b) with
    | none => rfl
    | some q =>
      cases q with
      | true => exact minP1_er fun x hx y hy => h x (.tail _ hx) y (.tail _ hy)
      | false =>
        have : ∀ x ∈ b :: r, x ∈ b :: v :: r := List.forall_mem_cons.mpr ⟨.head _, fun x hx => .tail _ (.tail _ hx)⟩
        exact minP1_er fun x hx y hy => h x (this x hx) y (this y hy)
theorem minP_er : ∀ {T : List α}, (∀ x ∈ T, ∀ y ∈ T, ltV (g (e x)) (g (e y)) = ltV (g x) (g y)) → minP g (T.map e) = (minP g T).map e
  | [], _ => rfl
  | _ :: _, h => minP1_er h
theorem minP1_mem : ∀ {T : List α} {b m : α}, minP1 g b T = some m → m ∈ b :: T
  | [], _, _, h => Option.some.inj h ▸ .head _
  | v :: r, b, m, h => b1 h fun c _ h => bC h (fun _ h => .tail _ (minP1_mem h)) fun _ h => List.mem_cons.mpr ((List.mem_cons.mp (minP1_mem h)).imp id fun h => .tail _ h)
theorem minP_mem : ∀ {T : List α} {m : α}, minP g T = some m → m ∈ T
  | [], _, h => nnO h
  | _ :: _, _, h => minP1_mem h
theorem minGo_map : ∀ {T : List α} {b m : α}, minP1 g b T = some m → minGo (g b) (T.map g) = some (g m)
  | [], _, _, h => congrArg some (Option.some.inj h ▸ rfl)
  | v :: r, b, m, h => b1 h fun c q h => i1 q (bC h (fun q h => iT q (minGo_map h)) fun q h => iF q (minGo_map h))
theorem minV_map : ∀ {T : List α} {m : α}, allBy pureV (T.map g) = true → minP g T = some m → minV (T.map g) = some (g m)
  | [], _, _, h => nnO h
  | _ :: _, _, hp, h => iT hp (minGo_map h)
end
noncomputable def val (hf : Str → Held) : Str → Steps → Str → Prop
  | n, [], m => n = m
  | n, x :: a, m => ∃ p, (hf n)[x.1]? = some (p, x.2) ∧ val hf p a m
theorem val_snoc {hf : Str → Held} {m p : Str} {i : Nat} {f : Bool} (h : (hf m)[i]? = some (p, f)) : ∀ {s : Steps} {n : Str}, val hf n s m → val hf n (s ++ [(i, f)]) p
  | [], n, v => ⟨p, (v : n = m) ▸ h, rfl⟩
  | x :: s, _, ⟨q, h1, v⟩ => ⟨q, h1, val_snoc h v⟩
theorem val_inj {hf : Str → Held} : ∀ {a b : Steps} {n m m' : Str}, val hf n a m → val hf n b m' → er a = er b → a = b
  | [], [], _, _, _, _, _, _ => rfl
  | [], y :: b, _, _, _, _, _, h => nomatch h
  | x :: a, [], _, _, _, _, _, h => nomatch h
  | x :: a, y :: b, n, m, m', ⟨p, h1, v1⟩, ⟨q, h2, v2⟩, h => by
    have h0 : x.1 = y.1 := (congrArg Prod.fst (List.cons.inj h).1 : (erP x).1 = (erP y).1)
    rw [h0, h2] at h1
    have h1 := Prod.mk.inj (Option.some.inj h1)
    rw [← h1.1] at v1
    rw [val_inj v1 v2 (List.cons.inj h).2, Prod.ext (x := x) (y := y) h0 h1.2.symm]
theorem lt_int (n : Nat) (i j : Int) : ltN n (.int i) (.int j) = some (decide (i < j)) := by cases n <;> rfl
theorem eq_int (n : Nat) (i j : Int) : eqN n (.int i) (.int j) = some (decide (i = j)) := by cases n <;> rfl
theorem eq_bool (n : Nat) (i j : Bool) : eqN n (.bool i) (.bool j) = some (i == j) := by cases n <;> rfl
theorem int_nat {a b : Nat} : decide ((a : Int) = b) = decide (a = b) := decide_eq_decide.mpr (by omega)
theorem eq_step (n : Nat) (x y : Nat × Bool) : eqN (n + 1) (stepV x) (stepV y) = some (decide (x.1 = y.1) && (x.2 == y.2)) :=
  i1 (eq_int n x.1 y.1) (by
    rw [int_nat]
    cases decide (x.1 = y.1) with
    | true => exact i1 (eq_bool n x.2 y.2) (by cases x.2 == y.2 <;> rfl)
    | false => rfl)
theorem lt_step {n : Nat} {x y : Nat × Bool} (h : x.1 ≠ y.1) : ltN (n + 1) (stepV x) (stepV y) = some (decide (x.1 < y.1)) :=
  i1 (eq_int n x.1 y.1) (by
    rw [int_nat, decide_eq_false h]
    exact (lt_int n x.1 y.1).trans (congrArg some (decide_eq_decide.mpr (by omega))))
theorem bnd_eq {o o' : Option Bool} {c : Bool} {f f' : Bool → Option Bool} (h : o = some c) (h' : o' = some c) (k : f c = f' c) : bnd o f = bnd o' f' := by
  rw [h, h']; exact k
theorem val_agree {hf : Str → Held} (k : Nat) : ∀ {a b : Steps} {n m m' : Str}, val hf n a m → val hf n b m' →
    eqVsBy (eqN (k + 1)) ((er a).map stepV) ((er b).map stepV) = eqVsBy (eqN (k + 1)) (a.map stepV) (b.map stepV) ∧ ltVsBy (eqN (k + 1)) (ltN (k + 1)) ((er a).map stepV) ((er b).map stepV) = ltVsBy (eqN (k + 1)) (ltN (k + 1)) (a.map stepV) (b.map stepV)
  | [], [], _, _, _, _, _ => ⟨rfl, rfl⟩
  | [], _ :: _, _, _, _, _, _ => ⟨rfl, rfl⟩
  | _ :: _, [], _, _, _, _, _ => ⟨rfl, rfl⟩
  | x :: a, y :: b, n, m, m', ⟨p, h1, v1⟩, ⟨q, h2, v2⟩ => by
    have eE := eq_step k x y
    have eF := eq_step k (erP x) (erP y)
    by_cases h : x.1 = y.1
    · rw [h, h2] at h1
      have h1 := Prod.mk.inj (Option.some.inj h1)
      rw [← h1.1] at v1
      refine ea_0_2 (val_agree k v1 v2) (fun g1 g2 => ?_)
      rw [h, h1.2, beq_self_eq_true, Bool.and_true, decide_eq_true rfl] at eE
      have eF : eqN (k + 1) (stepV (erP x)) (stepV (erP y)) = some true := eF.trans (by show some (decide (x.1 = y.1) && true) = _; rw [decide_eq_true h]; rfl)
      exact ⟨bnd_eq eF eE g1, bnd_eq eF eE g2⟩
    · rw [decide_eq_false h, Bool.false_and] at eE
      have eF : eqN (k + 1) (stepV (erP x)) (stepV (erP y)) = some false := eF.trans (by show some (decide (x.1 = y.1) && true) = _; rw [decide_eq_false h]; rfl)
      exact ⟨bnd_eq eF eE rfl, bnd_eq eF eE ((lt_step (x := erP x) (y := erP y) h).trans (lt_step h).symm)⟩
theorem lt_steps {hf : Str → Held} {a b : Steps} {n m m' : Str} (v1 : val hf n a m) (v2 : val hf n b m') : ltV (stepsV (er a)) (stepsV (er b)) = ltV (stepsV a) (stepsV b) := (val_agree 6 v1 v2).2
theorem lt_tri {hf : Str → Held} {n : Str} {a b : Tri} (v1 : val hf n a.2.1 a.1) (v2 : val hf n b.2.1 b.1) : ltV (triV (erT a)) (triV (erT b)) = ltV (triV a) (triV b) := by
  refine ea_0_2 (val_agree 5 v1 v2) (fun h1 h2 => ?_)
  have e1 : eqN 7 (stepsV (er a.2.1)) (stepsV (er b.2.1)) = eqN 7 (stepsV a.2.1) (stepsV b.2.1) := h1
  have e2 : ltN 7 (stepsV (er a.2.1)) (stepsV (er b.2.1)) = ltN 7 (stepsV a.2.1) (stepsV b.2.1) := h2
  show (bnd (eqN 7 (namedV a.1) (namedV b.1)) fun c => cond c (bnd (eqN 7 (stepsV (er a.2.1)) (stepsV (er b.2.1))) fun c => cond c (ltVsBy (eqN 7) (ltN 7) [V.bool a.2.2] [.bool b.2.2]) (ltN 7 (stepsV (er a.2.1)) (stepsV (er b.2.1)))) (ltN 7 (namedV a.1) (namedV b.1))) = _
  rw [e1, e2]
  rfl
theorem ways_er (hf : Str → Held) : ∀ (d : Nat) (n : Str) (s : Steps), waysN (fun x => (hf x).map erQ) d n (er s) = (waysN hf d n s).map erW
  | 0, _, _ => rfl
  | d + 1, n, s => by
    simp only [waysN, List.map_cons, List.map_flatMap, List.zipIdx_map, List.flatMap_map]
    congr 1
    refine congrArg (fun f => List.flatMap f ((hf n).zipIdx 0)) (funext fun q => ?_)
    have := ways_er hf d q.1.1 (s ++ [(q.2, q.1.2)])
    rw [← this]
    simp only [er, List.map_append]
    rfl
theorem ways_val {hf : Str → Held} {r : Str} : ∀ (d : Nat) {n : Str} {s : Steps}, val hf r s n → ∀ w ∈ waysN hf d n s, val hf r w.2 w.1
  | 0, _, _, v, w, hw => by
    rw [List.mem_singleton.mp hw]
    exact v
  | d + 1, n, s, v, w, hw => by
    cases hw with
    | head => exact v
    | tail _ hw =>
      refine ea_1_2 (List.mem_flatMap.mp hw) (fun q hq hw => ?_)
      exact ways_val d (val_snoc (List.mk_mem_zipIdx_iff_getElem? .. |>.mp hq) v) w hw
theorem inn_er (hf : Str → Held) (t : Tri) : innP (fun x => (hf x).map erQ) (erT t) = (innP hf t).map erT := by
  simp only [innP, List.zipIdx_map, List.map_map]
  refine congrArg (fun f => List.map f ((hf t.1).zipIdx 0)) (funext fun q => ?_)
  simp only [Function.comp, erT, er, List.map_append]
  rfl
theorem has_er (o : Str) : ∀ ts : List Tri, hasP o (ts.map erT) = hasP o ts
  | [] => rfl
  | t :: r => by
    show cond (sEq t.1 o) true (hasP o (r.map erT)) = cond (sEq t.1 o) true (hasP o r)
    rw [has_er o r]
theorem set_er (o : Str) : ∀ ts : List Tri, setP o (ts.map erT) = (setP o ts).map erT
  | [] => rfl
  | t :: r => by
    have := set_er o r
    show cond (sEq t.1 o) ((t.1, er t.2.1, true) :: r.map erT) (erT t :: setP o (r.map erT)) = _
    rw [this]
    show (cond (sEq t.1 o) _ _) = List.map erT (cond (sEq t.1 o) _ _)
    cases sEq t.1 o <;> rfl
theorem add_er (f : Str → Bool) (ts : List Tri) (t : Tri) : addP f (ts.map erT) (erT t) = (addP f ts t).map erT := by
  unfold addP
  rw [show (erT t).1 = t.1 from rfl, has_er, set_er]
  cases hasP t.1 ts with
  | true => rfl
  | false =>
    cases f t.1 with
    | true => rfl
    | false => exact (List.map_append (l₁ := ts) (l₂ := [t])).symm
theorem fold_er (f : Str → Bool) : ∀ l ts : List Tri, (l.map erT).foldl (addP f) (ts.map erT) = (l.foldl (addP f) ts).map erT
  | [], _ => rfl
  | t :: l, ts => by
    simp only [List.map_cons, List.foldl_cons, add_er, fold_er f l]
theorem go_er (hf : Str → Held) (f : Str → Bool) : ∀ ts acc : List Tri, (ts.map erT).foldl (fun acc t => (innP (fun x => (hf x).map erQ) t).foldl (addP f) acc) (acc.map erT) = (ts.foldl (fun acc t => (innP hf t).foldl (addP f) acc) acc).map erT
  | [], _ => rfl
  | t :: ts, acc => by
    simp only [List.map_cons, List.foldl_cons, inn_er, fold_er, go_er hf f ts]
theorem goP_er (hf : Str → Held) (f : Str → Bool) (ts : List Tri) : goP (fun x => (hf x).map erQ) f (ts.map erT) = (goP hf f ts).map erT := go_er hf f ts []
theorem seen_er : ∀ (ts : List Tri) (sd : List (V × V)), seenN sd (ts.map erT) = seenN sd ts
  | [], _ => rfl
  | _ :: ts, _ => seen_er ts _
theorem least_er : ∀ (W : List (Str × Steps)) (L : List (Str × Nat)), leastP L (W.map erW) = leastP L W
  | [], _ => rfl
  | w :: W, L => by
    have := least_er W (putN w.1 (min (getN w.1 w.2.length L) w.2.length) L)
    simp only [leastP, List.map_cons, List.foldl_cons, erW, er, List.length_map] at this ⊢
    exact this
theorem filter_er (k : Str) (d : Nat) (W : List (Str × Steps)) : (W.map erW).filter (isWay k d) = (W.filter (isWay k d)).map erW := by
  rw [List.filter_map]
  congr 1
  refine congrArg (fun f => List.filter f W) (funext fun w => ?_)
  simp only [Function.comp, isWay, erW, er, List.length_map]
noncomputable def EachP (P : Str → Steps → Prop) (ts : List Tri) : Prop := ∀ t ∈ ts, P t.1 t.2.1
theorem EachP.set {P : Str → Steps → Prop} {o : Str} : ∀ {ts : List Tri}, EachP P ts → EachP P (setP o ts)
  | [], h => h
  | x :: r, h => by
    refine ea_0_2 (List.forall_mem_cons.mp h) (fun h1 h2 => ?_)
    unfold setP
    cases sEq x.1 o with
    | true => exact List.forall_mem_cons.mpr ⟨h1, h2⟩
    | false => exact List.forall_mem_cons.mpr ⟨h1, EachP.set h2⟩
theorem EachP.add {P : Str → Steps → Prop} {f : Str → Bool} {ts : List Tri} {t : Tri} (h : EachP P ts) (ht : P t.1 t.2.1) : EachP P (addP f ts t) := by
  unfold addP
  cases hasP t.1 ts with
  | true => exact h.set
  | false =>
    cases f t.1 with
    | true => exact h
    | false => exact List.forall_mem_append.mpr ⟨h, List.forall_mem_singleton.mpr ht⟩
theorem EachP.fold {P : Str → Steps → Prop} {f : Str → Bool} : ∀ {l ts : List Tri}, EachP P ts → EachP P l → EachP P (l.foldl (addP f) ts)
  | [], _, h, _ => h
  | t :: l, ts, h, hl => EachP.fold (l := l) (ts := addP f ts t) (h.add (hl t (.head _))) fun x hx => hl x (.tail _ hx)
theorem EachP.go {P : Str → Steps → Prop} {hf : Str → Held} {f : Str → Bool} (hP : ∀ t : Tri, P t.1 t.2.1 → EachP P (innP hf t)) : ∀ {ts acc : List Tri}, EachP P acc → EachP P ts → EachP P (ts.foldl (fun acc t => (innP hf t).foldl (addP f) acc) acc)
  | [], _, h, _ => h
  | t :: ts, acc, h, hl => EachP.go (ts := ts) (acc := (innP hf t).foldl (addP f) acc) hP (h.fold (hP t (hl t (.head _)))) fun x hx => hl x (.tail _ hx)
theorem val_inn {hf : Str → Held} {r : Str} (t : Tri) (v : val hf r t.2.1 t.1) : EachP (fun n s => val hf r s n) (innP hf t) := by
  intro x hx
  obtain ⟨q, hq, rfl⟩ := List.mem_map.mp hx
  exact val_snoc (List.mk_mem_zipIdx_iff_getElem? .. |>.mp hq) v
noncomputable def stepsEq : Steps → Steps → Bool
  | [], b => b.isEmpty
  | p :: r, b => obr (unc b) (fun q => cond (Nat.beq p.1 q.1.1) (cond (p.2 == q.1.2) (stepsEq r q.2) false) false) false
noncomputable def trisEq : List Tri → List Tri → Bool
  | [], b => b.isEmpty
  | a :: r, b => obr (unc b) (fun q => cond (sEq a.1 q.1.1 && (stepsEq a.2.1 q.1.2.1 && (a.2.2 == q.1.2.2))) (trisEq r q.2) false) false
theorem stepsEq_eq : ∀ {a b : Steps}, stepsEq a b = true → a = b
  | [], b, h => (List.isEmpty_iff.mp h).symm
  | p :: r, b, h => bO h (fun q hq h => bT2 h fun h1 h => bT2 h fun h2 h => by rw [unc_eq (a := q.1) (r := q.2) hq, stepsEq_eq h, Prod.ext (x := p) (y := q.1) (Nat.eq_of_beq_eq_true h1) (eq_of_beq h2)]) fun _ h => nnF h
theorem trisEq_eq : ∀ {a b : List Tri}, trisEq a b = true → a = b
  | [], b, h => (List.isEmpty_iff.mp h).symm
  | a :: r, b, h => bO h (fun q hq h => bT2 h fun h1 h => bA h1 fun h1 h2 => bA h2 fun h2 h3 => by rw [unc_eq (a := q.1) (r := q.2) hq, trisEq_eq h, Prod.ext (x := a) (y := q.1) ((sEq_iff _ _).mp h1) (Prod.ext (stepsEq_eq h2) (eq_of_beq h3))]) fun _ h => nnF h
noncomputable def isWayOf (W : List (Str × Steps)) (k : Str) (d : Nat) : List Steps := (W.filter (isWay k d)).map (·.2)
noncomputable def mnOf (W : List (Str × Steps)) (L : List (Str × Nat)) (k : Str) : Steps := (minP stepsV (isWayOf W k (getN k 0 L))).getD []
noncomputable def dueT (W : List (Str × Steps)) (L : List (Str × Nat)) (ks : List Str) (size : Nat) : List Tri := (ks.filter fun k => Nat.beq (getN k 0 L) size).map fun k => (k, mnOf W L k, decide (1 < (W.filter (isWay k size)).length))
noncomputable def sortIs (o : Option (List Tri)) (d : List Tri) : Bool := obr o (fun S => trisEq S d) false
noncomputable def goodB (hf : Str → Held) (W : List (Str × Steps)) (L : List (Str × Nat)) (ks : List Str) (fin : Nat) : Nat → Nat → List (V × V) → List Tri → Bool
  | 0, _, _, _ => false
  | n + 1, size, sd, ts => match ts with
    | [] => Nat.beq size fin
    | t :: r => ((Nat.blt (t :: r).length 60 && Nat.blt sd.length 300) && ((t :: r).all fun t => okS t.1)) && (((ks.filter fun k => Nat.beq (getN k 0 L) size).all fun k => (minP stepsV (isWayOf W k size)).isSome) && (sortIs (sortP triV (t :: r)) (dueT W L ks size) && goodB hf W L ks fin n (size + 1) (seenN sd (t :: r)) (goP hf (inSd (seenN sd (t :: r))) (t :: r))))
section
variable {hf : Str → Held} {W : List (Str × Steps)} {L : List (Str × Nat)} {ks : List Str} {fin : Nat}
theorem isWayOf_er (k : Str) (d : Nat) : isWayOf (W.map erW) k d = (isWayOf W k d).map er := by
  unfold isWayOf
  rw [filter_er, List.map_map, List.map_map]
  rfl
theorem isWayOf_val (hv : ∀ w ∈ W, val hf nA w.2 w.1) {k : Str} {d : Nat} : ∀ s ∈ isWayOf W k d, val hf nA s k := by
  intro s hs
  obtain ⟨w, hw, rfl⟩ := List.mem_map.mp hs
  refine ea_0_2 (List.mem_filter.mp hw) (fun hw hk => ?_)
  have := hv w hw
  rw [(sEq_iff _ _).mp (Bool.and_eq_true_iff.mp hk).1] at this
  exact this
theorem minP_ways (hv : ∀ w ∈ W, val hf nA w.2 w.1) (k : Str) (d : Nat) : minP stepsV (isWayOf (W.map erW) k d) = (minP stepsV (isWayOf W k d)).map er := by
  rw [isWayOf_er]
  exact minP_er fun x hx y hy => lt_steps (isWayOf_val hv x hx) (isWayOf_val hv y hy)
theorem mnOf_er (hv : ∀ w ∈ W, val hf nA w.2 w.1) (k : Str) : mnOf (W.map erW) L k = er (mnOf W L k) := by
  unfold mnOf
  rw [minP_ways hv]
  cases minP stepsV (isWayOf W k (getN k 0 L)) <;> rfl
theorem dueT_er (hv : ∀ w ∈ W, val hf nA w.2 w.1) (size : Nat) : dueT (W.map erW) L ks size = (dueT W L ks size).map erT := by
  unfold dueT
  rw [List.map_map]
  refine congrArg (fun f => List.map f (ks.filter fun k => Nat.beq (getN k 0 L) size)) (funext fun k => ?_)
  simp only [Function.comp, erT, mnOf_er hv, filter_er, List.length_map]
theorem tris_inj : ∀ {S D : List Tri}, (∀ t ∈ S, val hf nA t.2.1 t.1) → (∀ t ∈ D, val hf nA t.2.1 t.1) → S.map erT = D.map erT → S = D
  | [], [], _, _, _ => rfl
  | [], _ :: _, _, _, h => nomatch h
  | _ :: _, [], _, _, h => nomatch h
  | a :: S, b :: D, h1, h2, h => by
    have hh := List.cons.inj h
    refine ea_0_2 (List.forall_mem_cons.mp h1) (fun p1 q1 => ?_)
    refine ea_0_2 (List.forall_mem_cons.mp h2) (fun p2 q2 => ?_)
    have h3 : a.1 = b.1 := (congrArg (·.1) hh.1 : (erT a).1 = (erT b).1)
    have h4 := val_inj p1 p2 (congrArg (·.2.1) hh.1)
    have h5 : a.2.2 = b.2.2 := (congrArg (·.2.2) hh.1 : (erT a).2.2 = (erT b).2.2)
    rw [tris_inj q1 q2 hh.2, Prod.ext (x := a) (y := b) h3 (Prod.ext h4 h5)]
theorem pure_tris : ∀ {l : List Tri}, (∀ t ∈ l, okS t.1 = true) → allBy pureV (l.map triV) = true
  | [], _ => rfl
  | t :: l, h => alb (pT8 (alb (pure_named 5 (h t (.head _))) (alb pS7 rfl))) (pure_tris fun x hx => h x (.tail _ hx))
theorem tt_tris : ∀ l : List Tri, allBy isTT (l.map triV) = true
  | [] => rfl
  | _ :: l => tt_tris l
theorem pure_ways : ∀ l : List Steps, allBy pureV (l.map stepsV) = true
  | [] => rfl
  | s :: l => alb (pT8 (pure_steps 6 s)) (pure_ways l)
theorem good_of (hv : ∀ w ∈ W, val hf nA w.2 w.1) : ∀ (n size : Nat) (sd : List (V × V)) (ts : List Tri), goodB (fun x => (hf x).map erQ) (W.map erW) L ks fin n size sd (ts.map erT) = true → EachP (fun n s => val hf nA s n) ts →
    Good hf W (fun k => getN k 0 L) (mnOf W L) ks size sd ts fin := by
  intro n
  induction n with
  | zero => exact fun _ _ _ h => nnF h
  | succ n ih =>
    intro size sd ts h hP
    cases ts with
    | nil =>
      have : size = fin := Nat.eq_of_beq_eq_true h
      exact this ▸ .stop
    | cons t r =>
      refine bA h fun h h' => bA h fun h h3 => bA h fun h1 h2 => bA h' fun h4 h' => bA h' fun h5 h6 => ?_
      have h1 : ((t :: r).map erT).length < 60 := Nat.blt_eq.mp h1
      rw [List.length_map] at h1
      have h2 : sd.length < 300 := Nat.blt_eq.mp h2
      have h5 : sortIs (sortP triV ((t :: r).map erT)) (dueT (W.map erW) L ks size) = true := h5
      have h6 : goodB (fun x => (hf x).map erQ) (W.map erW) L ks fin n (size + 1) (seenN sd ((t :: r).map erT)) (goP (fun x => (hf x).map erQ) (inSd (seenN sd ((t :: r).map erT))) ((t :: r).map erT)) = true := h6
      rw [sortP_er fun a ha b hb => lt_tri (hP a ha) (hP b hb)] at h5
      rw [seen_er, goP_er] at h6
      have hok : ∀ x ∈ t :: r, okS x.1 = true := fun x hx => List.all_eq_true.mp h3 (erT x) (List.mem_map_of_mem hx)
      have hmin : ∀ k ∈ ks, getN k 0 L = size → minP stepsV (isWayOf W k size) = some (mnOf W L k) := fun k hk hs => by
        have := List.all_eq_true.mp h4 k (List.mem_filter.mpr ⟨hk, by rw [hs]; exact Nat.beq_refl _⟩)
        rw [minP_ways hv] at this
        unfold mnOf
        rw [hs]
        cases q : minP stepsV (isWayOf W k size) with
        | none => rw [q] at this; exact nnF this
        | some m => rfl
      refine bO h5 (fun S' hS' h5 => ?_) fun _ h => nnF h
      cases hS : sortP triV (t :: r) with
      | none => rw [hS] at hS'; exact nnO hS'
      | some S =>
        rw [hS] at hS'
        rw [← Option.some.inj hS'] at h5
        have hm := sortP_mem hS
        have hSD : S = dueT W L ks size := by
          refine tris_inj (fun x hx => hP x (hm x hx)) (fun y hy => ?_) ((trisEq_eq h5).trans (dueT_er hv size))
          obtain ⟨k, hk, rfl⟩ := List.mem_map.mp hy
          refine ea_0_2 (List.mem_filter.mp hk) (fun hk hs => ?_)
          exact isWayOf_val hv _ (minP_mem (hmin k hk (Nat.eq_of_beq_eq_true hs)))
        have hdue : dueL W (fun k => getN k 0 L) (mnOf W L) size ks = S.map triV := by
          rw [hSD]
          unfold dueL dueT
          rw [List.map_map]
          rfl
        refine .step (List.cons_ne_nil _ _) (by omega) h2 (fun k hk hs => ?_) (sortV_map (pure_tris hok) (by rw [tt_tris, Bool.or_true]) (by omega) hS) ?_ (ih _ _ _ h6 (EachP.go val_inn (fun _ h => nomatch h) hP))
        · have := minV_map (pure_ways _) (hmin k hk hs)
          unfold isWayOf at this
          rw [List.map_map] at this
          exact this
        · rw [hdue]
          exact eqLists_refl (pure_tris fun x hx => hok x (hm x hx))
end
noncomputable def maxN : List (Str × Nat) → Int
  | [] => 0
  | p :: r => maxGo p.2 (r.map fun p => (p.2 : Int))
noncomputable def finOf (L : List (Str × Nat)) : Nat := (1 + maxN L).toNat
noncomputable def chkK (hf : Str → Held) (W : List (Str × Steps)) (L : List (Str × Nat)) (ks : List Str) : Bool :=
  ((Nat.blt W.length 60 && W.all fun w => okS w.1 && Nat.blt w.2.length 60) && (Nat.blt L.length 60 && Nat.blt ks.length 60)) && (((ks.all fun k => okS k && (dictFindV (.str k) (leastV L)).isSome) && (L.all fun p => (okS p.1 && (dictFindV (.str p.1) (leastV L)).isSome) && Nat.beq (getN p.1 0 L) p.2)) &&
    (((sortP .str (L.map (·.1))).isSome && Nat.blt 0 L.length) && ((Nat.blt (finOf L) 60 && decide ((finOf L : Int) = 1 + maxN L)) && goodB hf W L ks (finOf L) 6 0 [] [(nA, [], false)])))
noncomputable def chkL (hf : Str → Held) (W : List (Str × Steps)) (L : List (Str × Nat)) : Bool := chkK hf W L ((sortP .str (L.map (·.1))).getD [])
noncomputable def chkW (hf : Str → Held) (W : List (Str × Steps)) : Bool := chkL hf W (leastP [] W)
noncomputable def chk (hf : Str → Held) : Bool := chkW hf (waysN hf 4 nA [])
noncomputable def hfOf (d c b a : Held) (n : Str) : Held := cond (sEq n nA) a (cond (sEq n nB) b (cond (sEq n nC) c (cond (sEq n nD) d [])))
noncomputable def subs : List Str → List Held
  | [] => [[]]
  | o :: os => subs os ++ (subs os).map fun h => (o, false) :: h
theorem pick_subs {ks : List Str} {h : Held} (p : Pick ks h) : h.map erQ ∈ subs ks := by
  induction p with
  | nil => exact .head _
  | skip _ ih => exact List.mem_append.mpr (.inl ih)
  | take f _ _ ih => exact List.mem_append.mpr (.inr (List.mem_map_of_mem ih))
theorem hfOf_er (d c b a : Held) : (fun x => (hfOf d c b a x).map erQ) = hfOf (d.map erQ) (c.map erQ) (b.map erQ) (a.map erQ) := by
  funext x
  unfold hfOf
  cases sEq x nA with
  | true => rfl
  | false =>
    cases sEq x nB with
    | true => rfl
    | false =>
      cases sEq x nC with
      | true => rfl
      | false => cases sEq x nD <;> rfl
noncomputable def chkA (a : Held) : Bool := (subs [nJ]).all fun d => (subs [nD, nJ]).all fun c => (subs [nC, nD, nJ]).all fun b => chk (hfOf d c b a)
theorem all_chk : (subs [nB, nC, nD, nJ]).all chkA = true := by kernel_rfl
theorem chk_all {d c b a : Held} (hd : Pick [nJ] d) (hc : Pick [nD, nJ] c) (hb : Pick [nC, nD, nJ] b) (ha : Pick [nB, nC, nD, nJ] a) : chk (fun x => (hfOf d c b a x).map erQ) = true := by
  rw [hfOf_er]
  exact List.all_eq_true.mp (List.all_eq_true.mp (List.all_eq_true.mp (List.all_eq_true.mp all_chk _ (pick_subs ha)) _ (pick_subs hd)) _ (pick_subs hc)) _ (pick_subs hb)
theorem find_least {L : List (Str × Nat)} {k : Str} (h : (dictFindV (.str k) (leastV L)).isSome = true) : dictFindV (.str k) (leastV L) = some (.int (getN k 0 L)) := by
  have := get_least k 0 L
  cases q : dictFindV (.str k) (leastV L) with
  | none => rw [q] at h; exact nnF h
  | some v => rw [q] at this; exact congrArg some this
theorem pure_strs : ∀ {l : List Str}, (∀ t ∈ l, okS t = true) → allBy pureV (l.map V.str) = true
  | [], _ => rfl
  | t :: l, h => alb (h t (.head _)) (pure_strs fun x hx => h x (.tail _ hx))
theorem str_strs : ∀ l : List Str, allBy isStrV (l.map V.str) = true
  | [] => rfl
  | _ :: l => str_strs l
theorem levelsOk {N B bk : Nat} {hf : Str → Held} {σ : St} (hN : 130 ≤ N) (G : Gr σ B bk hf) (hB : B ≤ σ.next) (hdep : Dep hf 4 nA) (h : chk (fun x => (hf x).map erQ) = true) :
    ∃ σ', (recN G0 N).call 549 [.cell 0, .cell bk, .str nA] σ = some (.bool true, σ') ∧ σ.next ≤ σ'.next ∧ ∀ j, j < σ.next → σ'.get j = σ.get j := by
  unfold chk chkW chkL at h
  rw [show ([] : Steps) = er [] from rfl, ways_er, least_er] at h
  have hv := ways_val (hf := hf) (r := nA) 4 (n := nA) (s := []) rfl
  generalize hL : leastP [] (waysN hf 4 nA []) = L at h
  cases hks : sortP V.str (L.map (·.1)) with
  | none => exact bA h fun _ h => bA h fun _ h => bA h fun h _ => bA h fun h _ => nnF (by rw [hks] at h; exact h)
  | some ks =>
    rw [hks] at h
    unfold chkK at h
    simp only [Bool.and_eq_true, Nat.blt_eq, List.all_eq_true, List.length_map, Option.getD_some] at h
    obtain ⟨⟨⟨h1, h2⟩, h3, h4⟩, ⟨h5, h6⟩, ⟨_, h7⟩, ⟨h8, h9⟩, h10⟩ := h
    have hok : ∀ t ∈ L.map (·.1), okS t = true := fun t ht => by
      obtain ⟨p, hp, rfl⟩ := List.mem_map.mp ht
      exact (h6 p hp).1.1
    have hs := sortV_map (g := V.str) (pure_strs hok) (by rw [str_strs]; rfl) (by rw [List.length_map]; omega) hks
    rw [List.map_map] at hs
    have hL0 : ∃ x r, L.map (fun p => (p.2 : Int)) = x :: r ∧ maxN L = maxGo x r := by
      match L, h7 with
      | p :: r, _ => exact ⟨_, _, rfl, rfl⟩
    refine ea_2_2 (hL0) (fun x r hx hm => ?_)
    refine levelsRight hN G hB (.tail _ (.tail _ (.tail _ (.tail _ (.head _))))) hdep (fun w hw => ?_) (by omega) hL.symm (lvl := fun k => getN k 0 L) (mn := mnOf (waysN hf 4 nA []) L) (ks := ks) ?_ (fun k hk => ⟨(h5 k hk).1, find_least (h5 k hk).2⟩) (by omega) (good_of hv 6 0 [] [(nA, [], false)] h10 fun t ht => ?_) (by omega) (fun p hp => ⟨(h6 p hp).1.1, ?_⟩) hx ?_ (by omega)
    · have := h2 (erW w) (List.mem_map_of_mem hw)
      simp only [erW, er, List.length_map] at this
      exact ⟨this.1, by omega⟩
    · rw [← hs]
      unfold leastV
      rw [List.map_map]
      rfl
    · simp only [List.mem_singleton] at ht
      subst ht
      rfl
    · have := (h6 p hp).2
      rw [find_least (h6 p hp).1.2, Nat.eq_of_beq_eq_true this]
    · rw [← hm]
      exact of_decide_eq_true h9
theorem pick_mem {ks : List Str} {h : Held} (p : Pick ks h) : ∀ x ∈ h, x.1 ∈ ks := by
  induction p with
  | nil => exact fun x hx => by cases hx
  | skip _ ih => exact fun x hx => .tail _ (ih x hx)
  | take f _ _ ih =>
    intro x hx
    cases hx with
    | head => exact .head _
    | tail _ hx => exact .tail _ (ih x hx)
theorem pick_len {ks : List Str} {h : Held} (p : Pick ks h) : h.length ≤ ks.length := by
  induction p with
  | nil => exact Nat.le_refl _
  | skip _ ih => exact Nat.le_succ_of_le ih
  | take f _ _ ih => exact Nat.succ_le_succ ih
noncomputable def under (nm : Str) : List Str := cond (sEq nm nA) [nB, nC, nD, nJ] (cond (sEq nm nB) [nC, nD, nJ] (cond (sEq nm nC) [nD, nJ] (cond (sEq nm nD) [nJ] [])))
noncomputable def Law (hf : Str → Held) : Prop := ∀ nm, Pick (under nm) (hf nm)
theorem hfOf_law {d c b a : Held} (hd : Pick [nJ] d) (hc : Pick [nD, nJ] c) (hb : Pick [nC, nD, nJ] b) (ha : Pick [nB, nC, nD, nJ] a) : Law (hfOf d c b a) := by
  intro nm
  unfold under hfOf
  cases sEq nm nA with
  | true => exact ha
  | false =>
    cases sEq nm nB with
    | true => exact hb
    | false =>
      cases sEq nm nC with
      | true => exact hc
      | false =>
        cases sEq nm nD with
        | true => exact hd
        | false => exact .nil
theorem under_all {P : List Str → Prop} (hA : P [nB, nC, nD, nJ]) (hB : P [nC, nD, nJ]) (hC : P [nD, nJ]) (hD : P [nJ]) (h : P []) (nm : Str) : P (under nm) := by
  unfold under
  cases sEq nm nA with
  | true => exact hA
  | false =>
    cases sEq nm nB with
    | true => exact hB
    | false =>
      cases sEq nm nC with
      | true => exact hC
      | false =>
        cases sEq nm nD with
        | true => exact hD
        | false => exact h
theorem under_len (nm : Str) : (under nm).length ≤ 4 := under_all (P := fun l => l.length ≤ 4) (by decide) (by decide) (by decide) (by decide) (by decide) nm
noncomputable def NB (x : Str) : Prop := x ∈ names5 ∧ Below x
theorem nb_J : NB nJ := ⟨.head _, .inl rfl⟩
theorem nb_D : NB nD := ⟨.tail _ (.head _), .inr (.inl rfl)⟩
theorem nb_C : NB nC := ⟨.tail _ (.tail _ (.head _)), .inr (.inr (.inl rfl))⟩
theorem nb_B : NB nB := ⟨.tail _ (.tail _ (.tail _ (.head _))), .inr (.inr (.inr rfl))⟩
theorem allNil {P : Str → Prop} : ∀ x ∈ ([] : List Str), P x := fun _ h => nomatch h
theorem under_mem {nm : Str} : ∀ x ∈ under nm, NB x :=
  under_all (P := fun l => ∀ x ∈ l, NB x) (List.forall_mem_cons.mpr ⟨nb_B, List.forall_mem_cons.mpr ⟨nb_C, List.forall_mem_cons.mpr ⟨nb_D, List.forall_mem_cons.mpr ⟨nb_J, allNil⟩⟩⟩⟩)
    (List.forall_mem_cons.mpr ⟨nb_C, List.forall_mem_cons.mpr ⟨nb_D, List.forall_mem_cons.mpr ⟨nb_J, allNil⟩⟩⟩) (List.forall_mem_cons.mpr ⟨nb_D, List.forall_mem_cons.mpr ⟨nb_J, allNil⟩⟩) (List.forall_mem_cons.mpr ⟨nb_J, allNil⟩) allNil nm
section
variable {hf : Str → Held} (H : Law hf)
include H
theorem Law.J : hf nJ = [] := List.eq_nil_of_length_eq_zero (Nat.le_zero.mp (pick_len (H nJ)))
theorem Law.short (n : Str) : (hf n).length ≤ 4 := Nat.le_trans (pick_len (H n)) (under_len n)
theorem Law.cl (nm : Str) (p : Str × Bool) (hp : p ∈ hf nm) : p.1 ∈ names5 ∧ Below p.1 := under_mem _ (pick_mem (H nm) p hp)
theorem Law.dep : Dep hf 4 nA := by
  have hJ : ∀ d, Dep hf d nJ := fun d => by
    cases d with
    | zero => exact H.J
    | succ d => intro p hp; rw [H.J] at hp; exact nomatch hp
  have step : ∀ (d : Nat) (n : Str), (∀ x ∈ under n, Dep hf d x) → Dep hf (d + 1) n := fun d n h p hp => h p.1 (pick_mem (H n) p hp)
  have lJ : ∀ d, ∀ x ∈ [nJ], Dep hf d x := fun d => List.forall_mem_cons.mpr ⟨hJ d, allNil⟩
  have lD : ∀ d, ∀ x ∈ [nD, nJ], Dep hf (d + 1) x := fun d => List.forall_mem_cons.mpr ⟨step d nD (lJ d), lJ _⟩
  have lC : ∀ d, ∀ x ∈ [nC, nD, nJ], Dep hf (d + 2) x := fun d => List.forall_mem_cons.mpr ⟨step (d + 1) nC (lD d), lD _⟩
  exact step 3 nA (List.forall_mem_cons.mpr ⟨step 2 nB (lC 0), lC 1⟩)
end
noncomputable def apart : List Str → Bool
  | [] => true
  | x :: r => (r.all fun y => !sEq y x) && apart r
theorem allR_none {s : Steps} {w : Str} : ∀ {rs : List (Str × V × Bool)} {i : Nat}, (∀ r ∈ rs, sEq r.1 w = false) → allR s w i rs = []
  | [], _, _ => rfl
  | r :: rs, i, h => by
    unfold allR
    rw [h r (.head _)]
    exact allR_none fun x hx => h x (.tail _ hx)
theorem first_all {s : Steps} {w : Str} : ∀ {rs : List (Str × V × Bool)} {i : Nat}, apart (rs.map (·.1)) = true → obr (firstR w i rs) (fun p => [fieldV s p.1 p.2]) [] = allR s w i rs
  | [], _, _ => rfl
  | r :: rs, i, h => by
    simp only [List.map_cons, apart, Bool.and_eq_true, List.all_eq_true] at h
    unfold firstR allR
    cases q : sEq r.1 w with
    | false => exact first_all h.2
    | true =>
      rw [allR_none fun x hx => ?_]
      · rfl
      have := h.1 x.1 (List.mem_map_of_mem hx)
      rw [(sEq_iff _ _).mp q] at this
      simpa using this
theorem rows_names (nm : Str) (held : Held) : (rowsR nm (held.map erQ)).map (·.1) = (rowsR nm held).map (·.1) := by
  unfold rowsR
  simp only [List.map_append, List.map_map]
  rfl
theorem apart_all : (names5.all fun nm => (subs (under nm)).all fun h => apart ((rowsR nm h).map (·.1))) = true := by kernel_rfl
theorem Law.hu {hf : Str → Held} (H : Law hf) {nm w : Str} {s : Steps} (hm : nm ∈ names5) : firstL s w nm (hf nm) = allR s w 0 (rowsR nm (hf nm)) := by
  refine first_all ?_
  rw [← rows_names]
  exact List.all_eq_true.mp (List.all_eq_true.mp apart_all nm hm) _ (pick_subs (H nm))
structure Laid (σ : St) (d c b a : Held) : Prop where
  next : σ.next = 102
  world : σ.get 0 = some (.inst 460 wlN)
  named : σ.get 9 = some (.dict nsN)
  book : σ.get 97 = some (.dict (bookV 97))
  hd : σ.get 98 = some (.list (heldV d))
  hc : σ.get 99 = some (.list (heldV c))
  hb : σ.get 100 = some (.list (heldV b))
  ha : σ.get 101 = some (.list (heldV a))
theorem book_keys : keysAll isStrV (bookV 97) = true := by kernel_rfl
theorem Laid.at {σ : St} {d c b a : Held} (L : Laid σ d c b a) {nm : Str} (hm : nm ∈ names5) : ∃ hv, dictFindV (.str nm) (bookV 97) = some hv ∧ ((hv = .lst [] ∧ hfOf d c b a nm = []) ∨ ∃ h, hv = .cell h ∧ h < 102 ∧ h ≠ 31 ∧ h ≠ 9 ∧ σ.get h = some (.list (heldV (hfOf d c b a nm)))) := by
  simp only [names5, List.mem_cons, List.not_mem_nil, or_false] at hm
  rcases hm with rfl | rfl | rfl | rfl | rfl
  · exact ⟨_, rfl, .inl ⟨rfl, rfl⟩⟩
  · exact ⟨_, rfl, .inr ⟨98, rfl, by decide, by decide, by decide, L.hd⟩⟩
  · exact ⟨_, rfl, .inr ⟨99, rfl, by decide, by decide, by decide, L.hc⟩⟩
  · exact ⟨_, rfl, .inr ⟨100, rfl, by decide, by decide, by decide, L.hb⟩⟩
  · exact ⟨_, rfl, .inr ⟨101, rfl, by decide, by decide, by decide, L.ha⟩⟩
theorem toldNs_at : dictFindV (.str nJ) (toldNs 102 nsN) = some (.cell 104) ∧ dictFindV (.str nD) (toldNs 102 nsN) = some (.cell 107) ∧ dictFindV (.str nC) (toldNs 102 nsN) = some (.cell 110) ∧ dictFindV (.str nB) (toldNs 102 nsN) = some (.cell 113) ∧ dictFindV (.str nA) (toldNs 102 nsN) = some (.cell 116) := by refine ⟨?_, ?_, ?_, ?_, ?_⟩ <;> kernel_rfl
theorem told_gr {σ : St} {d c b a : Held} (L : Laid σ d c b a) (H : Law (hfOf d c b a)) : ∃ σ', (recN G0 138).call 532 [.cell 0, .cell 97] σ = some (.none, σ') ∧ σ'.next = 117 ∧ (∀ j, j < 102 → j ≠ 9 → σ'.get j = σ.get j) ∧
    ∀ σ'' : St, (∀ j, j ≠ 31 → σ''.get j = σ'.get j) → Gr σ'' 117 97 (hfOf d c b a) := by
  have hn := L.next
  have T : Tell σ [(Str.ofString "world", .cell 0), (Str.ofString "book", .cell 97)] 0 97 9 97 (hfOf d c b a) nsN := by
    refine ⟨L.book, by omega, ⟨wlN, L.world, wlN_named⟩, by omega, L.named, by omega, nsN_keys, by rw [nsN_len]; decide, by decide, by decide, fun nm hm => ?_, rfl, rfl⟩
    refine ea_1_2 (L.at hm) (fun hv q1 q2 => ?_)
    refine ⟨⟨_, hv, L.book, keyOk_str (names5_ok hm) book_keys, q1, ?_⟩, fun p hp => (H.cl nm p hp).2, by have := H.short nm; omega, names5_ok hm⟩
    rcases q2 with q2 | ⟨h, e1, e2, _, _, e5⟩
    · exact .inl q2
    · exact .inr ⟨h, e1, by omega, e5⟩
  obtain ⟨loc', σ', f, n1, g1, T', ⟨m1, r1⟩, ⟨m2, r2⟩, ⟨m3, r3⟩, ⟨m4, r4⟩, m5, r5⟩ := told (N := 138) (by decide) T (by rw [nsN_len]; decide)
  rw [hn] at m1 r1 m2 r2 m3 r3 m4 r4 m5 r5 g1 n1 T'
  refine ⟨σ', f, n1, g1, fun σ'' hg => ⟨by decide, by decide, ?_, ⟨_, (hg 9 (by decide)).trans T'.hnd, T'.ks, fun nm hm => ?_⟩, ⟨_, (hg 97 (by decide)).trans T'.hb, book_keys, fun nm hm => ?_⟩, fun nm _ p hp => H.cl nm p hp, H.short, H.J⟩⟩
  · rw [hg 0 (by decide), g1 0 (by decide) (by decide)]
    exact L.world
  · refine ea_0_5 (toldNs_at) (fun t1 t2 t3 t4 t5 => ?_)
    simp only [names5, List.mem_cons, List.not_mem_nil, or_false] at hm
    rcases hm with rfl | rfl | rfl | rfl | rfl
    · exact ⟨_, _, t1, by decide, by decide, (hg _ (by decide)).trans r1, (hg _ (by decide)).trans m1⟩
    · exact ⟨_, _, t2, by decide, by decide, (hg _ (by decide)).trans r2, (hg _ (by decide)).trans m2⟩
    · exact ⟨_, _, t3, by decide, by decide, (hg _ (by decide)).trans r3, (hg _ (by decide)).trans m3⟩
    · exact ⟨_, _, t4, by decide, by decide, (hg _ (by decide)).trans r4, (hg _ (by decide)).trans m4⟩
    · exact ⟨_, _, t5, by decide, by decide, (hg _ (by decide)).trans r5, (hg _ (by decide)).trans m5⟩
  · refine ea_1_2 (L.at hm) (fun hv q1 q2 => ?_)
    refine ⟨hv, q1, ?_⟩
    rcases q2 with q2 | ⟨h, e1, e2, e3, e4, e5⟩
    · exact .inl q2
    · exact .inr ⟨h, e1, by omega, by rw [hg h e3, g1 h e2 e4]; exact e5⟩
theorem sort5 : sortV (names5.map .str) = some ([nA, nB, nC, nD, nJ].map .str) := by kernel_rfl
noncomputable def words6 : List Str := [Str.ofString "m", Str.ofString "x", Str.ofString "go", Str.ofString "C", Str.ofString "D", Str.ofString "up"]
theorem words_ok : (words6.all okS) = true := by rfl
theorem str_at {l : List Str} {i : Nat} {v : V} (h : (l.map V.str)[i]? = some v) : ∃ x ∈ l, v = .str x := by
  rw [List.getElem?_map] at h
  exact (Option.map_eq_some_iff.mp h).imp fun x h => ⟨List.mem_of_getElem? h.1, h.2.symm⟩
theorem law_run (ns : List Int) (hl : ns.length ≤ 63) : ∃ loc' σ', (recN G0 140).exs fi561.scope fi561.body [(Str.ofString "script", .lst (ns.map .int))] ⟨0, []⟩ = some (.ret (.bool true), loc', σ') := by
  obtain ⟨a, b, b0, b1, h1⟩ := reel (σ := sS0) (N := 138) (ns := ns) (by decide) hl
  rw [next0] at h1
  refine ea_2_3 (namesRight a b (reelAt b0 b1)) (fun a1 b1' q0 q1 h2 => ?_)
  obtain ⟨i, v, a2, b2, hi, r0, r1, h3⟩ := one (N := 134) (l := rows13) (s := .lst rows13) (by decide) (sN_reel q0 q1 : Reel (sN a1 b1') 31 a1 b1') (.inl rfl) (by rw [rows_len]; decide) (by rw [rows_len]; decide)
  rw [sN_set] at h3
  have h4 := right_at a2 b2 hi
  obtain ⟨σ1, a3, b3, hD, hC, hB, hA, h5, n1, R1, g1, k0, k1, k2, k3, k4, p1, p2, p3, p4⟩ := lattice (N := 138) (by decide) (sN_reel r0 r1 : Reel (sN a2 b2) 31 a2 b2) (by rw [sN_next]; decide)
  rw [sN_next] at h5 n1 g1 k0 k1 k2 k3 k4
  have H := hfOf_law p1 p2 p3 p4
  have L : Laid σ1 hD hC hB hA := ⟨n1, (g1 0 (by decide) (by decide)).trans (sN_world a2 b2), (g1 9 (by decide) (by decide)).trans (sN_named a2 b2), k0, k1, k2, k3, k4⟩
  refine ea_1_4 (told_gr L H) (fun σ2 h6 n2 g2 hG => ?_)
  have h1 : (recN G0 138).call 471 [.lst (ns.map .int)] sS0 = some (.cell 31, sR a b) := h1
  have R2 : Reel σ2 31 a3 b3 := ⟨(g2 31 (by decide) (by decide)).trans R1.cell, R1.lo, R1.hi⟩
  obtain ⟨i2, v2, a4, b4, hi2, s0, s1, h7⟩ := one (N := 137) (l := [nA, nB, nC, nD, nJ].map .str) (s := .lst ([nA, nB, nC, nD, nJ].map .str)) (by decide) R2 (.inl rfl) (by simp) (by simp)
  obtain ⟨i3, v3, a5, b5, hi3, t0, t1, h8⟩ := one (N := 137) (l := words6.map .str) (s := .lst (words6.map .str)) (by decide) (Reel.set (σ := σ2) (r := 31) (a := a4) s0 s1) (.inl rfl) (by simp [words6]) (by simp [words6])
  obtain ⟨nm, hnm, rfl⟩ := str_at hi2
  obtain ⟨w, hw, rfl⟩ := str_at hi3
  have ow : okS w = true := List.all_eq_true.mp words_ok w hw
  have hm : nm ∈ names5 := List.mem_reverse.mp (hnm : nm ∈ names5.reverse)
  have n4 : 117 ≤ ((σ2.set 31 (.list [.int a4, .int b4])).set 31 (.list [.int a5, .int b5])).next := Nat.le_of_eq n2.symm
  have G4 : Gr ((σ2.set 31 (.list [.int a4, .int b4])).set 31 (.list [.int a5, .int b5])) 117 97 (hfOf hD hC hB hA) := hG _ fun j hj => by rw [St.get_set, if_neg hj, St.get_set, if_neg hj]
  obtain ⟨σ5, h9, n5, g5⟩ := levelsOk (N := 137) (by decide) G4 n4 H.dep (chk_all p1 p2 p3 p4)
  have G5 := G4.mono (σ' := σ5) fun j hj => g5 j (by omega)
  obtain ⟨σ6, h10⟩ := heldRight (N := 137) (nm := nm) (w := w) (by decide) G5 (by omega) hm ow (H.hu hm)
  have hb : σ2.get 97 = some (.dict (bookV 97)) := (g2 97 (by decide) (by decide)).trans k0
  have hst : callB σ2 (.builtin "sorted") [.cell 97] = some (.lst ([nA, nB, nC, nD, nJ].map .str)) := b_sort (oN (no_l hb) (i1 (at_d hb) rfl)) sort5
  have hr0 := right0
  have hw0 := world0
  have hs0 := started0
  have hrow : atInt rows13 0 = some (row13 0) := iT rfl row0
  have h8 : (recN G0 137).call 485 [.cell 31, .lst [.str (Str.ofString "m"), .str (Str.ofString "x"), .str (Str.ofString "go"), .str (Str.ofString "C"), .str (Str.ofString "D"), .str (Str.ofString "up")]] (σ2.set 31 (.list [.int a4, .int b4])) = some (.str w, (σ2.set 31 (.list [.int a4, .int b4])).set 31 (.list [.int a5, .int b5])) := h8
  apply Exists.intro
  apply Exists.intro
  with_reducible apply x_s; k_dflt show exsStep _ _ _ (_ :: _) _ _ = _; apply x_name0; kernel_rfl!; apply e_cls; kernel_rfl!; k_dflt rfl; kernel_rfl!; k_dflt rfl; exact evs_0; assumption; apply x_name; kernel_rfl!; apply e_fn; kernel_rfl!; k_dflt rfl; kernel_rfl!; apply evs_s; kernel_rfl!; apply e_loc; kernel_rfl!; apply l_in; k_dflt rfl; exact evs_0; assumption; apply x_p; apply s_if; apply t_not; apply t_call; apply e_fn; kernel_rfl!; k_dflt rfl; kernel_rfl!; apply evs_s; kernel_rfl!; apply e_loc; kernel_rfl!; apply l_in; k_dflt rfl; apply evs_s; kernel_rfl!; apply e_item; kernel_rfl!; apply e_loc; kernel_rfl!; apply l_in; k_dflt rfl; exact e_int; apply v_ilst; assumption; exact evs_0; assumption; apply cnnT; apply x_s; exact x_0; k_dflt apply fl_n; apply x_name; kernel_rfl!; apply e_fn; kernel_rfl!; k_dflt rfl; kernel_rfl!; apply evs_s; kernel_rfl!; apply e_loc; kernel_rfl!; apply l_ext; kernel_rfl!; apply l_c; k_dflt rfl; exact evs_0; assumption; apply x_p; apply s_if; apply t_or; apply at_s; apply t_not; apply t_call; apply e_fn; kernel_rfl!; k_dflt rfl; kernel_rfl!; apply evs_s; kernel_rfl!; apply e_loc; kernel_rfl!; apply l_in; k_dflt rfl; exact evs_0; assumption; apply soN; apply at_1; apply t_not; apply t_call; apply e_fn; kernel_rfl!; k_dflt rfl; kernel_rfl!; apply evs_s; kernel_rfl!; apply e_loc; kernel_rfl!; apply l_in; k_dflt rfl; apply evs_s; kernel_rfl!; apply e_fn; kernel_rfl!; k_dflt rfl; kernel_rfl!; apply evs_s; kernel_rfl!; apply e_loc; kernel_rfl!; apply l_in; k_dflt rfl; apply evs_s; kernel_rfl!; apply e_loc; kernel_rfl!; apply l_in; k_dflt rfl; exact evs_0; assumption; exact evs_0; assumption; apply cnnT; apply x_s; exact x_0; k_dflt apply fl_n; apply x_name; kernel_rfl!; apply e_fn; kernel_rfl!; k_dflt rfl; kernel_rfl!; apply evs_s; kernel_rfl!; apply e_loc; kernel_rfl!; apply l_in; k_dflt rfl; exact evs_0; assumption; apply x_expr; kernel_rfl!; apply e_fn; kernel_rfl!; k_dflt rfl; kernel_rfl!; apply evs_s; kernel_rfl!; apply e_loc; kernel_rfl!; apply l_in; k_dflt rfl; apply evs_s; kernel_rfl!; apply e_loc; kernel_rfl!; apply l_in; k_dflt rfl; exact evs_0; assumption; apply x_asgB; kernel_rfl!; apply e_tup; kernel_rfl!; apply evs_s; kernel_rfl!; apply e_fn; kernel_rfl!; k_dflt rfl; kernel_rfl!; apply evs_s; kernel_rfl!; apply e_loc; kernel_rfl!; apply l_in; k_dflt rfl; apply evs_s; kernel_rfl!; apply e_blt; kernel_rfl!; k_dflt rfl; kernel_rfl!; apply evs_s; kernel_rfl!; apply e_loc; kernel_rfl!; apply l_in; k_dflt rfl; exact evs_0; assumption; exact evs_0; assumption; apply evs_s; kernel_rfl!; apply e_fn; kernel_rfl!; k_dflt rfl; kernel_rfl!; apply evs_s; kernel_rfl!; apply e_loc; kernel_rfl!; apply l_in; k_dflt rfl; apply evs_s; kernel_rfl!; apply e_lst; kernel_rfl!; apply evs_s; kernel_rfl!; exact e_str; apply evs_s; kernel_rfl!; exact e_str; apply evs_s; kernel_rfl!; exact e_str; apply evs_s; kernel_rfl!; exact e_str; apply evs_s; kernel_rfl!; exact e_str; apply evs_s; kernel_rfl!; exact e_str; exact evs_0; exact evs_0; assumption; exact evs_0; apply aN_tup; k_dflt rfl; kernel_rfl!; apply al_s; kernel_rfl!; apply aN_name; kernel_rfl!; apply al_s; kernel_rfl!; apply aN_name; kernel_rfl!; exact al_0; apply x_ret; apply e_or; apply bv_s; apply e_fn; kernel_rfl!; k_dflt rfl; kernel_rfl!; apply evs_s; kernel_rfl!; apply e_loc; kernel_rfl!; apply l_in; k_dflt rfl; apply evs_s; kernel_rfl!; apply e_loc; kernel_rfl!; apply l_in; k_dflt rfl; apply evs_s; kernel_rfl!; exact e_str; exact evs_0; assumption; apply saT; apply bv_1; apply e_fn; kernel_rfl!; k_dflt rfl; kernel_rfl!; apply evs_s; kernel_rfl!; apply e_loc; kernel_rfl!; apply l_in; k_dflt rfl; apply evs_s; kernel_rfl!; apply e_loc; kernel_rfl!; apply l_in; k_dflt rfl; apply evs_s; kernel_rfl!; apply e_loc; kernel_rfl!; apply l_in; k_dflt rfl; apply evs_s; kernel_rfl!; apply e_loc; kernel_rfl!; apply l_in; k_dflt rfl; exact evs_0; assumption
end Mini
theorem PySem.Challenge.cw_xm0178_01_holds : PySem.Challenge.rw_xm0178_01.Holds :=
  Mini.holds_of fun ns h => Mini.law_run ns h
