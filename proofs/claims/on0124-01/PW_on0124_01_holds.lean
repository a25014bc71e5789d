import PyProof.Rows.All
import Wide.All
import OpenK.AllK
import Wide.FinOn
import PySem.Challenge.RW_on0124_01
open PySem PySem.W PySem.Calls PyProof.Rows
set_option Elab.async false
set_option compiler.extract_closed false
set_option maxRecDepth 100000
set_option maxHeartbeats 4000000
set_option linter.all false
set_option genInjectivity false
set_option genSizeOf false
set_option bootstrap.genMatcherCode false
namespace Mine
section
theorem ea_AA {A1 A2 A3 : Prop} {G : Prop} (h : A1 ∧ A2 ∧ A3) (g : A1 → A2 → A3 → G) : G := g h.1 h.2.1 h.2.2
theorem ea_AAA {A1 A2 A3 A4 : Prop} {G : Prop} (h : A1 ∧ A2 ∧ A3 ∧ A4) (g : A1 → A2 → A3 → A4 → G) : G := g h.1 h.2.1 h.2.2.1 h.2.2.2
theorem ea_AAAA {A1 A2 A3 A4 A5 : Prop} {G : Prop} (h : A1 ∧ A2 ∧ A3 ∧ A4 ∧ A5) (g : A1 → A2 → A3 → A4 → A5 → G) : G := g h.1 h.2.1 h.2.2.1 h.2.2.2.1 h.2.2.2.2
theorem ea_AAEA {a1 : Type} {A1 A2 : Prop} {A3 A4 : a1 → Prop} {G : Prop} (h : A1 ∧ A2 ∧ ∃ x1, A3 x1 ∧ A4 x1) (g : A1 → A2 → ∀ x1, A3 x1 → A4 x1 → G) : G := h.2.2.elim fun x1 h1 => g h.1 h.2.1 x1 h1.1 h1.2
theorem ea_AAEEA {a1 a2 : Type} {A1 A2 : Prop} {A3 A4 : a1 → a2 → Prop} {G : Prop} (h : A1 ∧ A2 ∧ ∃ x1, ∃ x2, A3 x1 x2 ∧ A4 x1 x2) (g : A1 → A2 → ∀ x1, ∀ x2, A3 x1 x2 → A4 x1 x2 → G) : G := h.2.2.elim fun x1 h1 => h1.elim fun x2 h2 => g h.1 h.2.1 x1 x2 h2.1 h2.2
theorem ea_AAEEAA {a1 a2 : Type} {A1 A2 : Prop} {A3 A4 A5 : a1 → a2 → Prop} {G : Prop} (h : A1 ∧ A2 ∧ ∃ x1, ∃ x2, A3 x1 x2 ∧ A4 x1 x2 ∧ A5 x1 x2) (g : A1 → A2 → ∀ x1, ∀ x2, A3 x1 x2 → A4 x1 x2 → A5 x1 x2 → G) : G := h.2.2.elim fun x1 h1 => h1.elim fun x2 h2 => g h.1 h.2.1 x1 x2 h2.1 h2.2.1 h2.2.2
theorem ea_AAEEAAA {a1 a2 : Type} {A1 A2 : Prop} {A3 A4 A5 A6 : a1 → a2 → Prop} {G : Prop} (h : A1 ∧ A2 ∧ ∃ x1, ∃ x2, A3 x1 x2 ∧ A4 x1 x2 ∧ A5 x1 x2 ∧ A6 x1 x2) (g : A1 → A2 → ∀ x1, ∀ x2, A3 x1 x2 → A4 x1 x2 → A5 x1 x2 → A6 x1 x2 → G) : G := h.2.2.elim fun x1 h1 => h1.elim fun x2 h2 => g h.1 h.2.1 x1 x2 h2.1 h2.2.1 h2.2.2.1 h2.2.2.2
theorem ea_AAEEAAEA {a1 a2 a3 : Type} {A1 A2 : Prop} {A3 A4 : a1 → a2 → Prop} {A5 A6 : a1 → a2 → a3 → Prop} {G : Prop} (h : A1 ∧ A2 ∧ ∃ x1, ∃ x2, A3 x1 x2 ∧ A4 x1 x2 ∧ ∃ x3, A5 x1 x2 x3 ∧ A6 x1 x2 x3) (g : A1 → A2 → ∀ x1, ∀ x2, A3 x1 x2 → A4 x1 x2 → ∀ x3, A5 x1 x2 x3 → A6 x1 x2 x3 → G) : G := h.2.2.elim fun x1 h1 => h1.elim fun x2 h2 => h2.2.2.elim fun x3 h3 => g h.1 h.2.1 x1 x2 h2.1 h2.2.1 x3 h3.1 h3.2
theorem ea_AAEEAAEAA {a1 a2 a3 : Type} {A1 A2 : Prop} {A3 A4 : a1 → a2 → Prop} {A5 A6 A7 : a1 → a2 → a3 → Prop} {G : Prop} (h : A1 ∧ A2 ∧ ∃ x1, ∃ x2, A3 x1 x2 ∧ A4 x1 x2 ∧ ∃ x3, A5 x1 x2 x3 ∧ A6 x1 x2 x3 ∧ A7 x1 x2 x3) (g : A1 → A2 → ∀ x1, ∀ x2, A3 x1 x2 → A4 x1 x2 → ∀ x3, A5 x1 x2 x3 → A6 x1 x2 x3 → A7 x1 x2 x3 → G) : G := h.2.2.elim fun x1 h1 => h1.elim fun x2 h2 => h2.2.2.elim fun x3 h3 => g h.1 h.2.1 x1 x2 h2.1 h2.2.1 x3 h3.1 h3.2.1 h3.2.2
theorem ea_AAEEAAEEAA {a1 a2 a3 a4 : Type} {A1 A2 : Prop} {A3 A4 : a1 → a2 → Prop} {A5 A6 A7 : a1 → a2 → a3 → a4 → Prop} {G : Prop} (h : A1 ∧ A2 ∧ ∃ x1, ∃ x2, A3 x1 x2 ∧ A4 x1 x2 ∧ ∃ x3, ∃ x4, A5 x1 x2 x3 x4 ∧ A6 x1 x2 x3 x4 ∧ A7 x1 x2 x3 x4) (g : A1 → A2 → ∀ x1, ∀ x2, A3 x1 x2 → A4 x1 x2 → ∀ x3, ∀ x4, A5 x1 x2 x3 x4 → A6 x1 x2 x3 x4 → A7 x1 x2 x3 x4 → G) : G := h.2.2.elim fun x1 h1 => h1.elim fun x2 h2 => h2.2.2.elim fun x3 h3 => h3.elim fun x4 h4 => g h.1 h.2.1 x1 x2 h2.1 h2.2.1 x3 x4 h4.1 h4.2.1 h4.2.2
theorem ea_AAEEAAEEAAA {a1 a2 a3 a4 : Type} {A1 A2 : Prop} {A3 A4 : a1 → a2 → Prop} {A5 A6 A7 A8 : a1 → a2 → a3 → a4 → Prop} {G : Prop} (h : A1 ∧ A2 ∧ ∃ x1, ∃ x2, A3 x1 x2 ∧ A4 x1 x2 ∧ ∃ x3, ∃ x4, A5 x1 x2 x3 x4 ∧ A6 x1 x2 x3 x4 ∧ A7 x1 x2 x3 x4 ∧ A8 x1 x2 x3 x4) (g : A1 → A2 → ∀ x1, ∀ x2, A3 x1 x2 → A4 x1 x2 → ∀ x3, ∀ x4, A5 x1 x2 x3 x4 → A6 x1 x2 x3 x4 → A7 x1 x2 x3 x4 → A8 x1 x2 x3 x4 → G) : G := h.2.2.elim fun x1 h1 => h1.elim fun x2 h2 => h2.2.2.elim fun x3 h3 => h3.elim fun x4 h4 => g h.1 h.2.1 x1 x2 h2.1 h2.2.1 x3 x4 h4.1 h4.2.1 h4.2.2.1 h4.2.2.2
theorem ea_AAEEAAEEAAAA {a1 a2 a3 a4 : Type} {A1 A2 : Prop} {A3 A4 : a1 → a2 → Prop} {A5 A6 A7 A8 A9 : a1 → a2 → a3 → a4 → Prop} {G : Prop} (h : A1 ∧ A2 ∧ ∃ x1, ∃ x2, A3 x1 x2 ∧ A4 x1 x2 ∧ ∃ x3, ∃ x4, A5 x1 x2 x3 x4 ∧ A6 x1 x2 x3 x4 ∧ A7 x1 x2 x3 x4 ∧ A8 x1 x2 x3 x4 ∧ A9 x1 x2 x3 x4) (g : A1 → A2 → ∀ x1, ∀ x2, A3 x1 x2 → A4 x1 x2 → ∀ x3, ∀ x4, A5 x1 x2 x3 x4 → A6 x1 x2 x3 x4 → A7 x1 x2 x3 x4 → A8 x1 x2 x3 x4 → A9 x1 x2 x3 x4 → G) : G := h.2.2.elim fun x1 h1 => h1.elim fun x2 h2 => h2.2.2.elim fun x3 h3 => h3.elim fun x4 h4 => g h.1 h.2.1 x1 x2 h2.1 h2.2.1 x3 x4 h4.1 h4.2.1 h4.2.2.1 h4.2.2.2.1 h4.2.2.2.2
theorem ea_AAEEAAEEEEAAA {a1 a2 a3 a4 a5 a6 : Type} {A1 A2 : Prop} {A3 A4 : a1 → a2 → Prop} {A5 A6 A7 A8 : a1 → a2 → a3 → a4 → a5 → a6 → Prop} {G : Prop} (h : A1 ∧ A2 ∧ ∃ x1, ∃ x2, A3 x1 x2 ∧ A4 x1 x2 ∧ ∃ x3, ∃ x4, ∃ x5, ∃ x6, A5 x1 x2 x3 x4 x5 x6 ∧ A6 x1 x2 x3 x4 x5 x6 ∧ A7 x1 x2 x3 x4 x5 x6 ∧ A8 x1 x2 x3 x4 x5 x6) (g : A1 → A2 → ∀ x1, ∀ x2, A3 x1 x2 → A4 x1 x2 → ∀ x3, ∀ x4, ∀ x5, ∀ x6, A5 x1 x2 x3 x4 x5 x6 → A6 x1 x2 x3 x4 x5 x6 → A7 x1 x2 x3 x4 x5 x6 → A8 x1 x2 x3 x4 x5 x6 → G) : G := h.2.2.elim fun x1 h1 => h1.elim fun x2 h2 => h2.2.2.elim fun x3 h3 => h3.elim fun x4 h4 => h4.elim fun x5 h5 => h5.elim fun x6 h6 => g h.1 h.2.1 x1 x2 h2.1 h2.2.1 x3 x4 x5 x6 h6.1 h6.2.1 h6.2.2.1 h6.2.2.2
theorem ea_AAEEAAEEEEAAAA {a1 a2 a3 a4 a5 a6 : Type} {A1 A2 : Prop} {A3 A4 : a1 → a2 → Prop} {A5 A6 A7 A8 A9 : a1 → a2 → a3 → a4 → a5 → a6 → Prop} {G : Prop} (h : A1 ∧ A2 ∧ ∃ x1, ∃ x2, A3 x1 x2 ∧ A4 x1 x2 ∧ ∃ x3, ∃ x4, ∃ x5, ∃ x6, A5 x1 x2 x3 x4 x5 x6 ∧ A6 x1 x2 x3 x4 x5 x6 ∧ A7 x1 x2 x3 x4 x5 x6 ∧ A8 x1 x2 x3 x4 x5 x6 ∧ A9 x1 x2 x3 x4 x5 x6) (g : A1 → A2 → ∀ x1, ∀ x2, A3 x1 x2 → A4 x1 x2 → ∀ x3, ∀ x4, ∀ x5, ∀ x6, A5 x1 x2 x3 x4 x5 x6 → A6 x1 x2 x3 x4 x5 x6 → A7 x1 x2 x3 x4 x5 x6 → A8 x1 x2 x3 x4 x5 x6 → A9 x1 x2 x3 x4 x5 x6 → G) : G := h.2.2.elim fun x1 h1 => h1.elim fun x2 h2 => h2.2.2.elim fun x3 h3 => h3.elim fun x4 h4 => h4.elim fun x5 h5 => h5.elim fun x6 h6 => g h.1 h.2.1 x1 x2 h2.1 h2.2.1 x3 x4 x5 x6 h6.1 h6.2.1 h6.2.2.1 h6.2.2.2.1 h6.2.2.2.2
theorem ea_AAEEAAEEEEAAAAAA {a1 a2 a3 a4 a5 a6 : Type} {A1 A2 : Prop} {A3 A4 : a1 → a2 → Prop} {A5 A6 A7 A8 A9 A10 A11 : a1 → a2 → a3 → a4 → a5 → a6 → Prop} {G : Prop} (h : A1 ∧ A2 ∧ ∃ x1, ∃ x2, A3 x1 x2 ∧ A4 x1 x2 ∧ ∃ x3, ∃ x4, ∃ x5, ∃ x6, A5 x1 x2 x3 x4 x5 x6 ∧ A6 x1 x2 x3 x4 x5 x6 ∧ A7 x1 x2 x3 x4 x5 x6 ∧ A8 x1 x2 x3 x4 x5 x6 ∧ A9 x1 x2 x3 x4 x5 x6 ∧ A10 x1 x2 x3 x4 x5 x6 ∧ A11 x1 x2 x3 x4 x5 x6) (g : A1 → A2 → ∀ x1, ∀ x2, A3 x1 x2 → A4 x1 x2 → ∀ x3, ∀ x4, ∀ x5, ∀ x6, A5 x1 x2 x3 x4 x5 x6 → A6 x1 x2 x3 x4 x5 x6 → A7 x1 x2 x3 x4 x5 x6 → A8 x1 x2 x3 x4 x5 x6 → A9 x1 x2 x3 x4 x5 x6 → A10 x1 x2 x3 x4 x5 x6 → A11 x1 x2 x3 x4 x5 x6 → G) : G := h.2.2.elim fun x1 h1 => h1.elim fun x2 h2 => h2.2.2.elim fun x3 h3 => h3.elim fun x4 h4 => h4.elim fun x5 h5 => h5.elim fun x6 h6 => g h.1 h.2.1 x1 x2 h2.1 h2.2.1 x3 x4 x5 x6 h6.1 h6.2.1 h6.2.2.1 h6.2.2.2.1 h6.2.2.2.2.1 h6.2.2.2.2.2.1 h6.2.2.2.2.2.2
theorem ea_AAEEAAEEEEAAAAAAA {a1 a2 a3 a4 a5 a6 : Type} {A1 A2 : Prop} {A3 A4 : a1 → a2 → Prop} {A5 A6 A7 A8 A9 A10 A11 A12 : a1 → a2 → a3 → a4 → a5 → a6 → Prop} {G : Prop} (h : A1 ∧ A2 ∧ ∃ x1, ∃ x2, A3 x1 x2 ∧ A4 x1 x2 ∧ ∃ x3, ∃ x4, ∃ x5, ∃ x6, A5 x1 x2 x3 x4 x5 x6 ∧ A6 x1 x2 x3 x4 x5 x6 ∧ A7 x1 x2 x3 x4 x5 x6 ∧ A8 x1 x2 x3 x4 x5 x6 ∧ A9 x1 x2 x3 x4 x5 x6 ∧ A10 x1 x2 x3 x4 x5 x6 ∧ A11 x1 x2 x3 x4 x5 x6 ∧ A12 x1 x2 x3 x4 x5 x6) (g : A1 → A2 → ∀ x1, ∀ x2, A3 x1 x2 → A4 x1 x2 → ∀ x3, ∀ x4, ∀ x5, ∀ x6, A5 x1 x2 x3 x4 x5 x6 → A6 x1 x2 x3 x4 x5 x6 → A7 x1 x2 x3 x4 x5 x6 → A8 x1 x2 x3 x4 x5 x6 → A9 x1 x2 x3 x4 x5 x6 → A10 x1 x2 x3 x4 x5 x6 → A11 x1 x2 x3 x4 x5 x6 → A12 x1 x2 x3 x4 x5 x6 → G) : G := h.2.2.elim fun x1 h1 => h1.elim fun x2 h2 => h2.2.2.elim fun x3 h3 => h3.elim fun x4 h4 => h4.elim fun x5 h5 => h5.elim fun x6 h6 => g h.1 h.2.1 x1 x2 h2.1 h2.2.1 x3 x4 x5 x6 h6.1 h6.2.1 h6.2.2.1 h6.2.2.2.1 h6.2.2.2.2.1 h6.2.2.2.2.2.1 h6.2.2.2.2.2.2.1 h6.2.2.2.2.2.2.2
theorem ea_AAEEAAEEEEEAAAAAAA {a1 a2 a3 a4 a5 a6 a7 : Type} {A1 A2 : Prop} {A3 A4 : a1 → a2 → Prop} {A5 A6 A7 A8 A9 A10 A11 A12 : a1 → a2 → a3 → a4 → a5 → a6 → a7 → Prop} {G : Prop} (h : A1 ∧ A2 ∧ ∃ x1, ∃ x2, A3 x1 x2 ∧ A4 x1 x2 ∧ ∃ x3, ∃ x4, ∃ x5, ∃ x6, ∃ x7, A5 x1 x2 x3 x4 x5 x6 x7 ∧ A6 x1 x2 x3 x4 x5 x6 x7 ∧ A7 x1 x2 x3 x4 x5 x6 x7 ∧ A8 x1 x2 x3 x4 x5 x6 x7 ∧ A9 x1 x2 x3 x4 x5 x6 x7 ∧ A10 x1 x2 x3 x4 x5 x6 x7 ∧ A11 x1 x2 x3 x4 x5 x6 x7 ∧ A12 x1 x2 x3 x4 x5 x6 x7) (g : A1 → A2 → ∀ x1, ∀ x2, A3 x1 x2 → A4 x1 x2 → ∀ x3, ∀ x4, ∀ x5, ∀ x6, ∀ x7, A5 x1 x2 x3 x4 x5 x6 x7 → A6 x1 x2 x3 x4 x5 x6 x7 → A7 x1 x2 x3 x4 x5 x6 x7 → A8 x1 x2 x3 x4 x5 x6 x7 → A9 x1 x2 x3 x4 x5 x6 x7 → A10 x1 x2 x3 x4 x5 x6 x7 → A11 x1 x2 x3 x4 x5 x6 x7 → A12 x1 x2 x3 x4 x5 x6 x7 → G) : G := h.2.2.elim fun x1 h1 => h1.elim fun x2 h2 => h2.2.2.elim fun x3 h3 => h3.elim fun x4 h4 => h4.elim fun x5 h5 => h5.elim fun x6 h6 => h6.elim fun x7 h7 => g h.1 h.2.1 x1 x2 h2.1 h2.2.1 x3 x4 x5 x6 x7 h7.1 h7.2.1 h7.2.2.1 h7.2.2.2.1 h7.2.2.2.2.1 h7.2.2.2.2.2.1 h7.2.2.2.2.2.2.1 h7.2.2.2.2.2.2.2
theorem ea_AAEEAAEEEEEAAAAAAAA {a1 a2 a3 a4 a5 a6 a7 : Type} {A1 A2 : Prop} {A3 A4 : a1 → a2 → Prop} {A5 A6 A7 A8 A9 A10 A11 A12 A13 : a1 → a2 → a3 → a4 → a5 → a6 → a7 → Prop} {G : Prop} (h : A1 ∧ A2 ∧ ∃ x1, ∃ x2, A3 x1 x2 ∧ A4 x1 x2 ∧ ∃ x3, ∃ x4, ∃ x5, ∃ x6, ∃ x7, A5 x1 x2 x3 x4 x5 x6 x7 ∧ A6 x1 x2 x3 x4 x5 x6 x7 ∧ A7 x1 x2 x3 x4 x5 x6 x7 ∧ A8 x1 x2 x3 x4 x5 x6 x7 ∧ A9 x1 x2 x3 x4 x5 x6 x7 ∧ A10 x1 x2 x3 x4 x5 x6 x7 ∧ A11 x1 x2 x3 x4 x5 x6 x7 ∧ A12 x1 x2 x3 x4 x5 x6 x7 ∧ A13 x1 x2 x3 x4 x5 x6 x7) (g : A1 → A2 → ∀ x1, ∀ x2, A3 x1 x2 → A4 x1 x2 → ∀ x3, ∀ x4, ∀ x5, ∀ x6, ∀ x7, A5 x1 x2 x3 x4 x5 x6 x7 → A6 x1 x2 x3 x4 x5 x6 x7 → A7 x1 x2 x3 x4 x5 x6 x7 → A8 x1 x2 x3 x4 x5 x6 x7 → A9 x1 x2 x3 x4 x5 x6 x7 → A10 x1 x2 x3 x4 x5 x6 x7 → A11 x1 x2 x3 x4 x5 x6 x7 → A12 x1 x2 x3 x4 x5 x6 x7 → A13 x1 x2 x3 x4 x5 x6 x7 → G) : G := h.2.2.elim fun x1 h1 => h1.elim fun x2 h2 => h2.2.2.elim fun x3 h3 => h3.elim fun x4 h4 => h4.elim fun x5 h5 => h5.elim fun x6 h6 => h6.elim fun x7 h7 => g h.1 h.2.1 x1 x2 h2.1 h2.2.1 x3 x4 x5 x6 x7 h7.1 h7.2.1 h7.2.2.1 h7.2.2.2.1 h7.2.2.2.2.1 h7.2.2.2.2.2.1 h7.2.2.2.2.2.2.1 h7.2.2.2.2.2.2.2.1 h7.2.2.2.2.2.2.2.2
theorem ea_AAEEEAAAEAA {a1 a2 a3 a4 : Type} {A1 A2 : Prop} {A3 A4 A5 : a1 → a2 → a3 → Prop} {A6 A7 A8 : a1 → a2 → a3 → a4 → Prop} {G : Prop} (h : A1 ∧ A2 ∧ ∃ x1, ∃ x2, ∃ x3, A3 x1 x2 x3 ∧ A4 x1 x2 x3 ∧ A5 x1 x2 x3 ∧ ∃ x4, A6 x1 x2 x3 x4 ∧ A7 x1 x2 x3 x4 ∧ A8 x1 x2 x3 x4) (g : A1 → A2 → ∀ x1, ∀ x2, ∀ x3, A3 x1 x2 x3 → A4 x1 x2 x3 → A5 x1 x2 x3 → ∀ x4, A6 x1 x2 x3 x4 → A7 x1 x2 x3 x4 → A8 x1 x2 x3 x4 → G) : G := h.2.2.elim fun x1 h1 => h1.elim fun x2 h2 => h2.elim fun x3 h3 => h3.2.2.2.elim fun x4 h4 => g h.1 h.2.1 x1 x2 x3 h3.1 h3.2.1 h3.2.2.1 x4 h4.1 h4.2.1 h4.2.2
theorem ea_AAEEEAAEAA {a1 a2 a3 a4 : Type} {A1 A2 : Prop} {A3 A4 : a1 → a2 → a3 → Prop} {A5 A6 A7 : a1 → a2 → a3 → a4 → Prop} {G : Prop} (h : A1 ∧ A2 ∧ ∃ x1, ∃ x2, ∃ x3, A3 x1 x2 x3 ∧ A4 x1 x2 x3 ∧ ∃ x4, A5 x1 x2 x3 x4 ∧ A6 x1 x2 x3 x4 ∧ A7 x1 x2 x3 x4) (g : A1 → A2 → ∀ x1, ∀ x2, ∀ x3, A3 x1 x2 x3 → A4 x1 x2 x3 → ∀ x4, A5 x1 x2 x3 x4 → A6 x1 x2 x3 x4 → A7 x1 x2 x3 x4 → G) : G := h.2.2.elim fun x1 h1 => h1.elim fun x2 h2 => h2.elim fun x3 h3 => h3.2.2.elim fun x4 h4 => g h.1 h.2.1 x1 x2 x3 h3.1 h3.2.1 x4 h4.1 h4.2.1 h4.2.2
theorem ea_AEA {a1 : Type} {A1 : Prop} {A2 A3 : a1 → Prop} {G : Prop} (h : A1 ∧ ∃ x1, A2 x1 ∧ A3 x1) (g : A1 → ∀ x1, A2 x1 → A3 x1 → G) : G := h.2.elim fun x1 h1 => g h.1 x1 h1.1 h1.2
theorem ea_AEAA {a1 : Type} {A1 : Prop} {A2 A3 A4 : a1 → Prop} {G : Prop} (h : A1 ∧ ∃ x1, A2 x1 ∧ A3 x1 ∧ A4 x1) (g : A1 → ∀ x1, A2 x1 → A3 x1 → A4 x1 → G) : G := h.2.elim fun x1 h1 => g h.1 x1 h1.1 h1.2.1 h1.2.2
theorem ea_AEAAA {a1 : Type} {A1 : Prop} {A2 A3 A4 A5 : a1 → Prop} {G : Prop} (h : A1 ∧ ∃ x1, A2 x1 ∧ A3 x1 ∧ A4 x1 ∧ A5 x1) (g : A1 → ∀ x1, A2 x1 → A3 x1 → A4 x1 → A5 x1 → G) : G := h.2.elim fun x1 h1 => g h.1 x1 h1.1 h1.2.1 h1.2.2.1 h1.2.2.2
theorem ea_AEEEAA {a1 a2 a3 : Type} {A1 : Prop} {A2 A3 A4 : a1 → a2 → a3 → Prop} {G : Prop} (h : A1 ∧ ∃ x1, ∃ x2, ∃ x3, A2 x1 x2 x3 ∧ A3 x1 x2 x3 ∧ A4 x1 x2 x3) (g : A1 → ∀ x1, ∀ x2, ∀ x3, A2 x1 x2 x3 → A3 x1 x2 x3 → A4 x1 x2 x3 → G) : G := h.2.elim fun x1 h1 => h1.elim fun x2 h2 => h2.elim fun x3 h3 => g h.1 x1 x2 x3 h3.1 h3.2.1 h3.2.2
theorem ea_AEEEAAA {a1 a2 a3 : Type} {A1 : Prop} {A2 A3 A4 A5 : a1 → a2 → a3 → Prop} {G : Prop} (h : A1 ∧ ∃ x1, ∃ x2, ∃ x3, A2 x1 x2 x3 ∧ A3 x1 x2 x3 ∧ A4 x1 x2 x3 ∧ A5 x1 x2 x3) (g : A1 → ∀ x1, ∀ x2, ∀ x3, A2 x1 x2 x3 → A3 x1 x2 x3 → A4 x1 x2 x3 → A5 x1 x2 x3 → G) : G := h.2.elim fun x1 h1 => h1.elim fun x2 h2 => h2.elim fun x3 h3 => g h.1 x1 x2 x3 h3.1 h3.2.1 h3.2.2.1 h3.2.2.2
theorem ea_AEEEAAAA {a1 a2 a3 : Type} {A1 : Prop} {A2 A3 A4 A5 A6 : a1 → a2 → a3 → Prop} {G : Prop} (h : A1 ∧ ∃ x1, ∃ x2, ∃ x3, A2 x1 x2 x3 ∧ A3 x1 x2 x3 ∧ A4 x1 x2 x3 ∧ A5 x1 x2 x3 ∧ A6 x1 x2 x3) (g : A1 → ∀ x1, ∀ x2, ∀ x3, A2 x1 x2 x3 → A3 x1 x2 x3 → A4 x1 x2 x3 → A5 x1 x2 x3 → A6 x1 x2 x3 → G) : G := h.2.elim fun x1 h1 => h1.elim fun x2 h2 => h2.elim fun x3 h3 => g h.1 x1 x2 x3 h3.1 h3.2.1 h3.2.2.1 h3.2.2.2.1 h3.2.2.2.2
theorem ea_AEEEAAAAEAA {a1 a2 a3 a4 : Type} {A1 : Prop} {A2 A3 A4 A5 : a1 → a2 → a3 → Prop} {A6 A7 A8 : a1 → a2 → a3 → a4 → Prop} {G : Prop} (h : A1 ∧ ∃ x1, ∃ x2, ∃ x3, A2 x1 x2 x3 ∧ A3 x1 x2 x3 ∧ A4 x1 x2 x3 ∧ A5 x1 x2 x3 ∧ ∃ x4, A6 x1 x2 x3 x4 ∧ A7 x1 x2 x3 x4 ∧ A8 x1 x2 x3 x4) (g : A1 → ∀ x1, ∀ x2, ∀ x3, A2 x1 x2 x3 → A3 x1 x2 x3 → A4 x1 x2 x3 → A5 x1 x2 x3 → ∀ x4, A6 x1 x2 x3 x4 → A7 x1 x2 x3 x4 → A8 x1 x2 x3 x4 → G) : G := h.2.elim fun x1 h1 => h1.elim fun x2 h2 => h2.elim fun x3 h3 => h3.2.2.2.2.elim fun x4 h4 => g h.1 x1 x2 x3 h3.1 h3.2.1 h3.2.2.1 h3.2.2.2.1 x4 h4.1 h4.2.1 h4.2.2
theorem ea_AEEEEA {a1 a2 a3 a4 : Type} {A1 : Prop} {A2 A3 : a1 → a2 → a3 → a4 → Prop} {G : Prop} (h : A1 ∧ ∃ x1, ∃ x2, ∃ x3, ∃ x4, A2 x1 x2 x3 x4 ∧ A3 x1 x2 x3 x4) (g : A1 → ∀ x1, ∀ x2, ∀ x3, ∀ x4, A2 x1 x2 x3 x4 → A3 x1 x2 x3 x4 → G) : G := h.2.elim fun x1 h1 => h1.elim fun x2 h2 => h2.elim fun x3 h3 => h3.elim fun x4 h4 => g h.1 x1 x2 x3 x4 h4.1 h4.2
theorem ea_AEEEEAAAA {a1 a2 a3 a4 : Type} {A1 : Prop} {A2 A3 A4 A5 A6 : a1 → a2 → a3 → a4 → Prop} {G : Prop} (h : A1 ∧ ∃ x1, ∃ x2, ∃ x3, ∃ x4, A2 x1 x2 x3 x4 ∧ A3 x1 x2 x3 x4 ∧ A4 x1 x2 x3 x4 ∧ A5 x1 x2 x3 x4 ∧ A6 x1 x2 x3 x4) (g : A1 → ∀ x1, ∀ x2, ∀ x3, ∀ x4, A2 x1 x2 x3 x4 → A3 x1 x2 x3 x4 → A4 x1 x2 x3 x4 → A5 x1 x2 x3 x4 → A6 x1 x2 x3 x4 → G) : G := h.2.elim fun x1 h1 => h1.elim fun x2 h2 => h2.elim fun x3 h3 => h3.elim fun x4 h4 => g h.1 x1 x2 x3 x4 h4.1 h4.2.1 h4.2.2.1 h4.2.2.2.1 h4.2.2.2.2
theorem ea_EA {a1 : Type} {A1 A2 : a1 → Prop} {G : Prop} (h : ∃ x1, A1 x1 ∧ A2 x1) (g : ∀ x1, A1 x1 → A2 x1 → G) : G := h.elim fun x1 h1 => g x1 h1.1 h1.2
theorem ea_EAA {a1 : Type} {A1 A2 A3 : a1 → Prop} {G : Prop} (h : ∃ x1, A1 x1 ∧ A2 x1 ∧ A3 x1) (g : ∀ x1, A1 x1 → A2 x1 → A3 x1 → G) : G := h.elim fun x1 h1 => g x1 h1.1 h1.2.1 h1.2.2
theorem ea_EAAA {a1 : Type} {A1 A2 A3 A4 : a1 → Prop} {G : Prop} (h : ∃ x1, A1 x1 ∧ A2 x1 ∧ A3 x1 ∧ A4 x1) (g : ∀ x1, A1 x1 → A2 x1 → A3 x1 → A4 x1 → G) : G := h.elim fun x1 h1 => g x1 h1.1 h1.2.1 h1.2.2.1 h1.2.2.2
theorem ea_EAAAAA {a1 : Type} {A1 A2 A3 A4 A5 A6 : a1 → Prop} {G : Prop} (h : ∃ x1, A1 x1 ∧ A2 x1 ∧ A3 x1 ∧ A4 x1 ∧ A5 x1 ∧ A6 x1) (g : ∀ x1, A1 x1 → A2 x1 → A3 x1 → A4 x1 → A5 x1 → A6 x1 → G) : G := h.elim fun x1 h1 => g x1 h1.1 h1.2.1 h1.2.2.1 h1.2.2.2.1 h1.2.2.2.2.1 h1.2.2.2.2.2
theorem ea_EAE {a1 a2 : Type} {A1 : a1 → Prop} {A2 : a1 → a2 → Prop} {G : Prop} (h : ∃ x1, A1 x1 ∧ ∃ x2, A2 x1 x2) (g : ∀ x1, A1 x1 → ∀ x2, A2 x1 x2 → G) : G := h.elim fun x1 h1 => h1.2.elim fun x2 h2 => g x1 h1.1 x2 h2
theorem ea_EAEAA {a1 a2 : Type} {A1 : a1 → Prop} {A2 A3 A4 : a1 → a2 → Prop} {G : Prop} (h : ∃ x1, A1 x1 ∧ ∃ x2, A2 x1 x2 ∧ A3 x1 x2 ∧ A4 x1 x2) (g : ∀ x1, A1 x1 → ∀ x2, A2 x1 x2 → A3 x1 x2 → A4 x1 x2 → G) : G := h.elim fun x1 h1 => h1.2.elim fun x2 h2 => g x1 h1.1 x2 h2.1 h2.2.1 h2.2.2
theorem ea_EAEEAA {a1 a2 a3 : Type} {A1 : a1 → Prop} {A2 A3 A4 : a1 → a2 → a3 → Prop} {G : Prop} (h : ∃ x1, A1 x1 ∧ ∃ x2, ∃ x3, A2 x1 x2 x3 ∧ A3 x1 x2 x3 ∧ A4 x1 x2 x3) (g : ∀ x1, A1 x1 → ∀ x2, ∀ x3, A2 x1 x2 x3 → A3 x1 x2 x3 → A4 x1 x2 x3 → G) : G := h.elim fun x1 h1 => h1.2.elim fun x2 h2 => h2.elim fun x3 h3 => g x1 h1.1 x2 x3 h3.1 h3.2.1 h3.2.2
theorem ea_EAEEAAAA {a1 a2 a3 : Type} {A1 : a1 → Prop} {A2 A3 A4 A5 A6 : a1 → a2 → a3 → Prop} {G : Prop} (h : ∃ x1, A1 x1 ∧ ∃ x2, ∃ x3, A2 x1 x2 x3 ∧ A3 x1 x2 x3 ∧ A4 x1 x2 x3 ∧ A5 x1 x2 x3 ∧ A6 x1 x2 x3) (g : ∀ x1, A1 x1 → ∀ x2, ∀ x3, A2 x1 x2 x3 → A3 x1 x2 x3 → A4 x1 x2 x3 → A5 x1 x2 x3 → A6 x1 x2 x3 → G) : G := h.elim fun x1 h1 => h1.2.elim fun x2 h2 => h2.elim fun x3 h3 => g x1 h1.1 x2 x3 h3.1 h3.2.1 h3.2.2.1 h3.2.2.2.1 h3.2.2.2.2
theorem ea_EE {a1 a2 : Type} {A1 : a1 → a2 → Prop} {G : Prop} (h : ∃ x1, ∃ x2, A1 x1 x2) (g : ∀ x1, ∀ x2, A1 x1 x2 → G) : G := h.elim fun x1 h1 => h1.elim fun x2 h2 => g x1 x2 h2
theorem ea_EEA {a1 a2 : Type} {A1 A2 : a1 → a2 → Prop} {G : Prop} (h : ∃ x1, ∃ x2, A1 x1 x2 ∧ A2 x1 x2) (g : ∀ x1, ∀ x2, A1 x1 x2 → A2 x1 x2 → G) : G := h.elim fun x1 h1 => h1.elim fun x2 h2 => g x1 x2 h2.1 h2.2
theorem ea_EEAA {a1 a2 : Type} {A1 A2 A3 : a1 → a2 → Prop} {G : Prop} (h : ∃ x1, ∃ x2, A1 x1 x2 ∧ A2 x1 x2 ∧ A3 x1 x2) (g : ∀ x1, ∀ x2, A1 x1 x2 → A2 x1 x2 → A3 x1 x2 → G) : G := h.elim fun x1 h1 => h1.elim fun x2 h2 => g x1 x2 h2.1 h2.2.1 h2.2.2
theorem ea_EEAAA {a1 a2 : Type} {A1 A2 A3 A4 : a1 → a2 → Prop} {G : Prop} (h : ∃ x1, ∃ x2, A1 x1 x2 ∧ A2 x1 x2 ∧ A3 x1 x2 ∧ A4 x1 x2) (g : ∀ x1, ∀ x2, A1 x1 x2 → A2 x1 x2 → A3 x1 x2 → A4 x1 x2 → G) : G := h.elim fun x1 h1 => h1.elim fun x2 h2 => g x1 x2 h2.1 h2.2.1 h2.2.2.1 h2.2.2.2
theorem ea_EEAAE {a1 a2 a3 : Type} {A1 A2 : a1 → a2 → Prop} {A3 : a1 → a2 → a3 → Prop} {G : Prop} (h : ∃ x1, ∃ x2, A1 x1 x2 ∧ A2 x1 x2 ∧ ∃ x3, A3 x1 x2 x3) (g : ∀ x1, ∀ x2, A1 x1 x2 → A2 x1 x2 → ∀ x3, A3 x1 x2 x3 → G) : G := h.elim fun x1 h1 => h1.elim fun x2 h2 => h2.2.2.elim fun x3 h3 => g x1 x2 h2.1 h2.2.1 x3 h3
theorem ea_EEAAEEAA {a1 a2 a3 a4 : Type} {A1 A2 : a1 → a2 → Prop} {A3 A4 A5 : a1 → a2 → a3 → a4 → Prop} {G : Prop} (h : ∃ x1, ∃ x2, A1 x1 x2 ∧ A2 x1 x2 ∧ ∃ x3, ∃ x4, A3 x1 x2 x3 x4 ∧ A4 x1 x2 x3 x4 ∧ A5 x1 x2 x3 x4) (g : ∀ x1, ∀ x2, A1 x1 x2 → A2 x1 x2 → ∀ x3, ∀ x4, A3 x1 x2 x3 x4 → A4 x1 x2 x3 x4 → A5 x1 x2 x3 x4 → G) : G := h.elim fun x1 h1 => h1.elim fun x2 h2 => h2.2.2.elim fun x3 h3 => h3.elim fun x4 h4 => g x1 x2 h2.1 h2.2.1 x3 x4 h4.1 h4.2.1 h4.2.2
theorem ea_EEAAEEAAEEAA {a1 a2 a3 a4 a5 a6 : Type} {A1 A2 : a1 → a2 → Prop} {A3 A4 : a1 → a2 → a3 → a4 → Prop} {A5 A6 A7 : a1 → a2 → a3 → a4 → a5 → a6 → Prop} {G : Prop} (h : ∃ x1, ∃ x2, A1 x1 x2 ∧ A2 x1 x2 ∧ ∃ x3, ∃ x4, A3 x1 x2 x3 x4 ∧ A4 x1 x2 x3 x4 ∧ ∃ x5, ∃ x6, A5 x1 x2 x3 x4 x5 x6 ∧ A6 x1 x2 x3 x4 x5 x6 ∧ A7 x1 x2 x3 x4 x5 x6) (g : ∀ x1, ∀ x2, A1 x1 x2 → A2 x1 x2 → ∀ x3, ∀ x4, A3 x1 x2 x3 x4 → A4 x1 x2 x3 x4 → ∀ x5, ∀ x6, A5 x1 x2 x3 x4 x5 x6 → A6 x1 x2 x3 x4 x5 x6 → A7 x1 x2 x3 x4 x5 x6 → G) : G := h.elim fun x1 h1 => h1.elim fun x2 h2 => h2.2.2.elim fun x3 h3 => h3.elim fun x4 h4 => h4.2.2.elim fun x5 h5 => h5.elim fun x6 h6 => g x1 x2 h2.1 h2.2.1 x3 x4 h4.1 h4.2.1 x5 x6 h6.1 h6.2.1 h6.2.2
theorem ea_EEEAA {a1 a2 a3 : Type} {A1 A2 A3 : a1 → a2 → a3 → Prop} {G : Prop} (h : ∃ x1, ∃ x2, ∃ x3, A1 x1 x2 x3 ∧ A2 x1 x2 x3 ∧ A3 x1 x2 x3) (g : ∀ x1, ∀ x2, ∀ x3, A1 x1 x2 x3 → A2 x1 x2 x3 → A3 x1 x2 x3 → G) : G := h.elim fun x1 h1 => h1.elim fun x2 h2 => h2.elim fun x3 h3 => g x1 x2 x3 h3.1 h3.2.1 h3.2.2
theorem ea_EEEAAA {a1 a2 a3 : Type} {A1 A2 A3 A4 : a1 → a2 → a3 → Prop} {G : Prop} (h : ∃ x1, ∃ x2, ∃ x3, A1 x1 x2 x3 ∧ A2 x1 x2 x3 ∧ A3 x1 x2 x3 ∧ A4 x1 x2 x3) (g : ∀ x1, ∀ x2, ∀ x3, A1 x1 x2 x3 → A2 x1 x2 x3 → A3 x1 x2 x3 → A4 x1 x2 x3 → G) : G := h.elim fun x1 h1 => h1.elim fun x2 h2 => h2.elim fun x3 h3 => g x1 x2 x3 h3.1 h3.2.1 h3.2.2.1 h3.2.2.2
theorem ea_EEEAAAA {a1 a2 a3 : Type} {A1 A2 A3 A4 A5 : a1 → a2 → a3 → Prop} {G : Prop} (h : ∃ x1, ∃ x2, ∃ x3, A1 x1 x2 x3 ∧ A2 x1 x2 x3 ∧ A3 x1 x2 x3 ∧ A4 x1 x2 x3 ∧ A5 x1 x2 x3) (g : ∀ x1, ∀ x2, ∀ x3, A1 x1 x2 x3 → A2 x1 x2 x3 → A3 x1 x2 x3 → A4 x1 x2 x3 → A5 x1 x2 x3 → G) : G := h.elim fun x1 h1 => h1.elim fun x2 h2 => h2.elim fun x3 h3 => g x1 x2 x3 h3.1 h3.2.1 h3.2.2.1 h3.2.2.2.1 h3.2.2.2.2
theorem ea_EEEAAAAA {a1 a2 a3 : Type} {A1 A2 A3 A4 A5 A6 : a1 → a2 → a3 → Prop} {G : Prop} (h : ∃ x1, ∃ x2, ∃ x3, A1 x1 x2 x3 ∧ A2 x1 x2 x3 ∧ A3 x1 x2 x3 ∧ A4 x1 x2 x3 ∧ A5 x1 x2 x3 ∧ A6 x1 x2 x3) (g : ∀ x1, ∀ x2, ∀ x3, A1 x1 x2 x3 → A2 x1 x2 x3 → A3 x1 x2 x3 → A4 x1 x2 x3 → A5 x1 x2 x3 → A6 x1 x2 x3 → G) : G := h.elim fun x1 h1 => h1.elim fun x2 h2 => h2.elim fun x3 h3 => g x1 x2 x3 h3.1 h3.2.1 h3.2.2.1 h3.2.2.2.1 h3.2.2.2.2.1 h3.2.2.2.2.2
theorem ea_EEEAAAAAA {a1 a2 a3 : Type} {A1 A2 A3 A4 A5 A6 A7 : a1 → a2 → a3 → Prop} {G : Prop} (h : ∃ x1, ∃ x2, ∃ x3, A1 x1 x2 x3 ∧ A2 x1 x2 x3 ∧ A3 x1 x2 x3 ∧ A4 x1 x2 x3 ∧ A5 x1 x2 x3 ∧ A6 x1 x2 x3 ∧ A7 x1 x2 x3) (g : ∀ x1, ∀ x2, ∀ x3, A1 x1 x2 x3 → A2 x1 x2 x3 → A3 x1 x2 x3 → A4 x1 x2 x3 → A5 x1 x2 x3 → A6 x1 x2 x3 → A7 x1 x2 x3 → G) : G := h.elim fun x1 h1 => h1.elim fun x2 h2 => h2.elim fun x3 h3 => g x1 x2 x3 h3.1 h3.2.1 h3.2.2.1 h3.2.2.2.1 h3.2.2.2.2.1 h3.2.2.2.2.2.1 h3.2.2.2.2.2.2
theorem ea_EEEEA {a1 a2 a3 a4 : Type} {A1 A2 : a1 → a2 → a3 → a4 → Prop} {G : Prop} (h : ∃ x1, ∃ x2, ∃ x3, ∃ x4, A1 x1 x2 x3 x4 ∧ A2 x1 x2 x3 x4) (g : ∀ x1, ∀ x2, ∀ x3, ∀ x4, A1 x1 x2 x3 x4 → A2 x1 x2 x3 x4 → G) : G := h.elim fun x1 h1 => h1.elim fun x2 h2 => h2.elim fun x3 h3 => h3.elim fun x4 h4 => g x1 x2 x3 x4 h4.1 h4.2
theorem ea_EEEEAAA {a1 a2 a3 a4 : Type} {A1 A2 A3 A4 : a1 → a2 → a3 → a4 → Prop} {G : Prop} (h : ∃ x1, ∃ x2, ∃ x3, ∃ x4, A1 x1 x2 x3 x4 ∧ A2 x1 x2 x3 x4 ∧ A3 x1 x2 x3 x4 ∧ A4 x1 x2 x3 x4) (g : ∀ x1, ∀ x2, ∀ x3, ∀ x4, A1 x1 x2 x3 x4 → A2 x1 x2 x3 x4 → A3 x1 x2 x3 x4 → A4 x1 x2 x3 x4 → G) : G := h.elim fun x1 h1 => h1.elim fun x2 h2 => h2.elim fun x3 h3 => h3.elim fun x4 h4 => g x1 x2 x3 x4 h4.1 h4.2.1 h4.2.2.1 h4.2.2.2
theorem ea_EEEEAAAAAA {a1 a2 a3 a4 : Type} {A1 A2 A3 A4 A5 A6 A7 : a1 → a2 → a3 → a4 → Prop} {G : Prop} (h : ∃ x1, ∃ x2, ∃ x3, ∃ x4, A1 x1 x2 x3 x4 ∧ A2 x1 x2 x3 x4 ∧ A3 x1 x2 x3 x4 ∧ A4 x1 x2 x3 x4 ∧ A5 x1 x2 x3 x4 ∧ A6 x1 x2 x3 x4 ∧ A7 x1 x2 x3 x4) (g : ∀ x1, ∀ x2, ∀ x3, ∀ x4, A1 x1 x2 x3 x4 → A2 x1 x2 x3 x4 → A3 x1 x2 x3 x4 → A4 x1 x2 x3 x4 → A5 x1 x2 x3 x4 → A6 x1 x2 x3 x4 → A7 x1 x2 x3 x4 → G) : G := h.elim fun x1 h1 => h1.elim fun x2 h2 => h2.elim fun x3 h3 => h3.elim fun x4 h4 => g x1 x2 x3 x4 h4.1 h4.2.1 h4.2.2.1 h4.2.2.2.1 h4.2.2.2.2.1 h4.2.2.2.2.2.1 h4.2.2.2.2.2.2
theorem ea_EEEEAAAAAAAAA {a1 a2 a3 a4 : Type} {A1 A2 A3 A4 A5 A6 A7 A8 A9 A10 : a1 → a2 → a3 → a4 → Prop} {G : Prop} (h : ∃ x1, ∃ x2, ∃ x3, ∃ x4, A1 x1 x2 x3 x4 ∧ A2 x1 x2 x3 x4 ∧ A3 x1 x2 x3 x4 ∧ A4 x1 x2 x3 x4 ∧ A5 x1 x2 x3 x4 ∧ A6 x1 x2 x3 x4 ∧ A7 x1 x2 x3 x4 ∧ A8 x1 x2 x3 x4 ∧ A9 x1 x2 x3 x4 ∧ A10 x1 x2 x3 x4) (g : ∀ x1, ∀ x2, ∀ x3, ∀ x4, A1 x1 x2 x3 x4 → A2 x1 x2 x3 x4 → A3 x1 x2 x3 x4 → A4 x1 x2 x3 x4 → A5 x1 x2 x3 x4 → A6 x1 x2 x3 x4 → A7 x1 x2 x3 x4 → A8 x1 x2 x3 x4 → A9 x1 x2 x3 x4 → A10 x1 x2 x3 x4 → G) : G := h.elim fun x1 h1 => h1.elim fun x2 h2 => h2.elim fun x3 h3 => h3.elim fun x4 h4 => g x1 x2 x3 x4 h4.1 h4.2.1 h4.2.2.1 h4.2.2.2.1 h4.2.2.2.2.1 h4.2.2.2.2.2.1 h4.2.2.2.2.2.2.1 h4.2.2.2.2.2.2.2.1 h4.2.2.2.2.2.2.2.2.1 h4.2.2.2.2.2.2.2.2.2
theorem ea_EEEEEEEEAAAA {a1 a2 a3 a4 a5 a6 a7 a8 : Type} {A1 A2 A3 A4 A5 : a1 → a2 → a3 → a4 → a5 → a6 → a7 → a8 → Prop} {G : Prop} (h : ∃ x1, ∃ x2, ∃ x3, ∃ x4, ∃ x5, ∃ x6, ∃ x7, ∃ x8, A1 x1 x2 x3 x4 x5 x6 x7 x8 ∧ A2 x1 x2 x3 x4 x5 x6 x7 x8 ∧ A3 x1 x2 x3 x4 x5 x6 x7 x8 ∧ A4 x1 x2 x3 x4 x5 x6 x7 x8 ∧ A5 x1 x2 x3 x4 x5 x6 x7 x8) (g : ∀ x1, ∀ x2, ∀ x3, ∀ x4, ∀ x5, ∀ x6, ∀ x7, ∀ x8, A1 x1 x2 x3 x4 x5 x6 x7 x8 → A2 x1 x2 x3 x4 x5 x6 x7 x8 → A3 x1 x2 x3 x4 x5 x6 x7 x8 → A4 x1 x2 x3 x4 x5 x6 x7 x8 → A5 x1 x2 x3 x4 x5 x6 x7 x8 → G) : G := h.elim fun x1 h1 => h1.elim fun x2 h2 => h2.elim fun x3 h3 => h3.elim fun x4 h4 => h4.elim fun x5 h5 => h5.elim fun x6 h6 => h6.elim fun x7 h7 => h7.elim fun x8 h8 => g x1 x2 x3 x4 x5 x6 x7 x8 h8.1 h8.2.1 h8.2.2.1 h8.2.2.2.1 h8.2.2.2.2
theorem ea_EEEEEEEEAAAAAAAA {a1 a2 a3 a4 a5 a6 a7 a8 : Type} {A1 A2 A3 A4 A5 A6 A7 A8 A9 : a1 → a2 → a3 → a4 → a5 → a6 → a7 → a8 → Prop} {G : Prop} (h : ∃ x1, ∃ x2, ∃ x3, ∃ x4, ∃ x5, ∃ x6, ∃ x7, ∃ x8, A1 x1 x2 x3 x4 x5 x6 x7 x8 ∧ A2 x1 x2 x3 x4 x5 x6 x7 x8 ∧ A3 x1 x2 x3 x4 x5 x6 x7 x8 ∧ A4 x1 x2 x3 x4 x5 x6 x7 x8 ∧ A5 x1 x2 x3 x4 x5 x6 x7 x8 ∧ A6 x1 x2 x3 x4 x5 x6 x7 x8 ∧ A7 x1 x2 x3 x4 x5 x6 x7 x8 ∧ A8 x1 x2 x3 x4 x5 x6 x7 x8 ∧ A9 x1 x2 x3 x4 x5 x6 x7 x8) (g : ∀ x1, ∀ x2, ∀ x3, ∀ x4, ∀ x5, ∀ x6, ∀ x7, ∀ x8, A1 x1 x2 x3 x4 x5 x6 x7 x8 → A2 x1 x2 x3 x4 x5 x6 x7 x8 → A3 x1 x2 x3 x4 x5 x6 x7 x8 → A4 x1 x2 x3 x4 x5 x6 x7 x8 → A5 x1 x2 x3 x4 x5 x6 x7 x8 → A6 x1 x2 x3 x4 x5 x6 x7 x8 → A7 x1 x2 x3 x4 x5 x6 x7 x8 → A8 x1 x2 x3 x4 x5 x6 x7 x8 → A9 x1 x2 x3 x4 x5 x6 x7 x8 → G) : G := h.elim fun x1 h1 => h1.elim fun x2 h2 => h2.elim fun x3 h3 => h3.elim fun x4 h4 => h4.elim fun x5 h5 => h5.elim fun x6 h6 => h6.elim fun x7 h7 => h7.elim fun x8 h8 => g x1 x2 x3 x4 x5 x6 x7 x8 h8.1 h8.2.1 h8.2.2.1 h8.2.2.2.1 h8.2.2.2.2.1 h8.2.2.2.2.2.1 h8.2.2.2.2.2.2.1 h8.2.2.2.2.2.2.2.1 h8.2.2.2.2.2.2.2.2
theorem ea_EEEEEEEEEEEEEEEEAAAA {a1 a2 a3 a4 a5 a6 a7 a8 a9 a10 a11 a12 a13 a14 a15 a16 : Type} {A1 A2 A3 A4 A5 : a1 → a2 → a3 → a4 → a5 → a6 → a7 → a8 → a9 → a10 → a11 → a12 → a13 → a14 → a15 → a16 → Prop} {G : Prop} (h : ∃ x1, ∃ x2, ∃ x3, ∃ x4, ∃ x5, ∃ x6, ∃ x7, ∃ x8, ∃ x9, ∃ x10, ∃ x11, ∃ x12, ∃ x13, ∃ x14, ∃ x15, ∃ x16, A1 x1 x2 x3 x4 x5 x6 x7 x8 x9 x10 x11 x12 x13 x14 x15 x16 ∧ A2 x1 x2 x3 x4 x5 x6 x7 x8 x9 x10 x11 x12 x13 x14 x15 x16 ∧ A3 x1 x2 x3 x4 x5 x6 x7 x8 x9 x10 x11 x12 x13 x14 x15 x16 ∧ A4 x1 x2 x3 x4 x5 x6 x7 x8 x9 x10 x11 x12 x13 x14 x15 x16 ∧ A5 x1 x2 x3 x4 x5 x6 x7 x8 x9 x10 x11 x12 x13 x14 x15 x16) (g : ∀ x1, ∀ x2, ∀ x3, ∀ x4, ∀ x5, ∀ x6, ∀ x7, ∀ x8, ∀ x9, ∀ x10, ∀ x11, ∀ x12, ∀ x13, ∀ x14, ∀ x15, ∀ x16, A1 x1 x2 x3 x4 x5 x6 x7 x8 x9 x10 x11 x12 x13 x14 x15 x16 → A2 x1 x2 x3 x4 x5 x6 x7 x8 x9 x10 x11 x12 x13 x14 x15 x16 → A3 x1 x2 x3 x4 x5 x6 x7 x8 x9 x10 x11 x12 x13 x14 x15 x16 → A4 x1 x2 x3 x4 x5 x6 x7 x8 x9 x10 x11 x12 x13 x14 x15 x16 → A5 x1 x2 x3 x4 x5 x6 x7 x8 x9 x10 x11 x12 x13 x14 x15 x16 → G) : G := h.elim fun x1 h1 => h1.elim fun x2 h2 => h2.elim fun x3 h3 => h3.elim fun x4 h4 => h4.elim fun x5 h5 => h5.elim fun x6 h6 => h6.elim fun x7 h7 => h7.elim fun x8 h8 => h8.elim fun x9 h9 => h9.elim fun x10 h10 => h10.elim fun x11 h11 => h11.elim fun x12 h12 => h12.elim fun x13 h13 => h13.elim fun x14 h14 => h14.elim fun x15 h15 => h15.elim fun x16 h16 => g x1 x2 x3 x4 x5 x6 x7 x8 x9 x10 x11 x12 x13 x14 x15 x16 h16.1 h16.2.1 h16.2.2.1 h16.2.2.2.1 h16.2.2.2.2
end
section
theorem ea_AAEAA {a1 : Type} {A1 A2 : Prop} {A3 A4 A5 : a1 → Prop} {G : Prop} (h : A1 ∧ A2 ∧ ∃ x1, A3 x1 ∧ A4 x1 ∧ A5 x1) (g : A1 → A2 → ∀ x1, A3 x1 → A4 x1 → A5 x1 → G) : G := h.2.2.elim fun x1 h1 => g h.1 h.2.1 x1 h1.1 h1.2.1 h1.2.2
theorem ea_EAAAAAAAAA {a1 : Type} {A1 A2 A3 A4 A5 A6 A7 A8 A9 A10 : a1 → Prop} {G : Prop} (h : ∃ x1, A1 x1 ∧ A2 x1 ∧ A3 x1 ∧ A4 x1 ∧ A5 x1 ∧ A6 x1 ∧ A7 x1 ∧ A8 x1 ∧ A9 x1 ∧ A10 x1) (g : ∀ x1, A1 x1 → A2 x1 → A3 x1 → A4 x1 → A5 x1 → A6 x1 → A7 x1 → A8 x1 → A9 x1 → A10 x1 → G) : G := h.elim fun x1 h1 => g x1 h1.1 h1.2.1 h1.2.2.1 h1.2.2.2.1 h1.2.2.2.2.1 h1.2.2.2.2.2.1 h1.2.2.2.2.2.2.1 h1.2.2.2.2.2.2.2.1 h1.2.2.2.2.2.2.2.2.1 h1.2.2.2.2.2.2.2.2.2
theorem ea_EEAAAA {a1 a2 : Type} {A1 A2 A3 A4 A5 : a1 → a2 → Prop} {G : Prop} (h : ∃ x1, ∃ x2, A1 x1 x2 ∧ A2 x1 x2 ∧ A3 x1 x2 ∧ A4 x1 x2 ∧ A5 x1 x2) (g : ∀ x1, ∀ x2, A1 x1 x2 → A2 x1 x2 → A3 x1 x2 → A4 x1 x2 → A5 x1 x2 → G) : G := h.elim fun x1 h1 => h1.elim fun x2 h2 => g x1 x2 h2.1 h2.2.1 h2.2.2.1 h2.2.2.2.1 h2.2.2.2.2
theorem ea_EEAAAAAA {a1 a2 : Type} {A1 A2 A3 A4 A5 A6 A7 : a1 → a2 → Prop} {G : Prop} (h : ∃ x1, ∃ x2, A1 x1 x2 ∧ A2 x1 x2 ∧ A3 x1 x2 ∧ A4 x1 x2 ∧ A5 x1 x2 ∧ A6 x1 x2 ∧ A7 x1 x2) (g : ∀ x1, ∀ x2, A1 x1 x2 → A2 x1 x2 → A3 x1 x2 → A4 x1 x2 → A5 x1 x2 → A6 x1 x2 → A7 x1 x2 → G) : G := h.elim fun x1 h1 => h1.elim fun x2 h2 => g x1 x2 h2.1 h2.2.1 h2.2.2.1 h2.2.2.2.1 h2.2.2.2.2.1 h2.2.2.2.2.2.1 h2.2.2.2.2.2.2
theorem ea_EEE {a1 a2 a3 : Type} {A1 : a1 → a2 → a3 → Prop} {G : Prop} (h : ∃ x1, ∃ x2, ∃ x3, A1 x1 x2 x3) (g : ∀ x1, ∀ x2, ∀ x3, A1 x1 x2 x3 → G) : G := h.elim fun x1 h1 => h1.elim fun x2 h2 => h2.elim fun x3 h3 => g x1 x2 x3 h3
theorem ea_EEEAAAAAAAA {a1 a2 a3 : Type} {A1 A2 A3 A4 A5 A6 A7 A8 A9 : a1 → a2 → a3 → Prop} {G : Prop} (h : ∃ x1, ∃ x2, ∃ x3, A1 x1 x2 x3 ∧ A2 x1 x2 x3 ∧ A3 x1 x2 x3 ∧ A4 x1 x2 x3 ∧ A5 x1 x2 x3 ∧ A6 x1 x2 x3 ∧ A7 x1 x2 x3 ∧ A8 x1 x2 x3 ∧ A9 x1 x2 x3) (g : ∀ x1, ∀ x2, ∀ x3, A1 x1 x2 x3 → A2 x1 x2 x3 → A3 x1 x2 x3 → A4 x1 x2 x3 → A5 x1 x2 x3 → A6 x1 x2 x3 → A7 x1 x2 x3 → A8 x1 x2 x3 → A9 x1 x2 x3 → G) : G := h.elim fun x1 h1 => h1.elim fun x2 h2 => h2.elim fun x3 h3 => g x1 x2 x3 h3.1 h3.2.1 h3.2.2.1 h3.2.2.2.1 h3.2.2.2.2.1 h3.2.2.2.2.2.1 h3.2.2.2.2.2.2.1 h3.2.2.2.2.2.2.2.1 h3.2.2.2.2.2.2.2.2
theorem ea_EEEAAAAAAAAA {a1 a2 a3 : Type} {A1 A2 A3 A4 A5 A6 A7 A8 A9 A10 : a1 → a2 → a3 → Prop} {G : Prop} (h : ∃ x1, ∃ x2, ∃ x3, A1 x1 x2 x3 ∧ A2 x1 x2 x3 ∧ A3 x1 x2 x3 ∧ A4 x1 x2 x3 ∧ A5 x1 x2 x3 ∧ A6 x1 x2 x3 ∧ A7 x1 x2 x3 ∧ A8 x1 x2 x3 ∧ A9 x1 x2 x3 ∧ A10 x1 x2 x3) (g : ∀ x1, ∀ x2, ∀ x3, A1 x1 x2 x3 → A2 x1 x2 x3 → A3 x1 x2 x3 → A4 x1 x2 x3 → A5 x1 x2 x3 → A6 x1 x2 x3 → A7 x1 x2 x3 → A8 x1 x2 x3 → A9 x1 x2 x3 → A10 x1 x2 x3 → G) : G := h.elim fun x1 h1 => h1.elim fun x2 h2 => h2.elim fun x3 h3 => g x1 x2 x3 h3.1 h3.2.1 h3.2.2.1 h3.2.2.2.1 h3.2.2.2.2.1 h3.2.2.2.2.2.1 h3.2.2.2.2.2.2.1 h3.2.2.2.2.2.2.2.1 h3.2.2.2.2.2.2.2.2.1 h3.2.2.2.2.2.2.2.2.2
theorem ea_EEEE {a1 a2 a3 a4 : Type} {A1 : a1 → a2 → a3 → a4 → Prop} {G : Prop} (h : ∃ x1, ∃ x2, ∃ x3, ∃ x4, A1 x1 x2 x3 x4) (g : ∀ x1, ∀ x2, ∀ x3, ∀ x4, A1 x1 x2 x3 x4 → G) : G := h.elim fun x1 h1 => h1.elim fun x2 h2 => h2.elim fun x3 h3 => h3.elim fun x4 h4 => g x1 x2 x3 x4 h4
theorem ea_EEEEAA {a1 a2 a3 a4 : Type} {A1 A2 A3 : a1 → a2 → a3 → a4 → Prop} {G : Prop} (h : ∃ x1, ∃ x2, ∃ x3, ∃ x4, A1 x1 x2 x3 x4 ∧ A2 x1 x2 x3 x4 ∧ A3 x1 x2 x3 x4) (g : ∀ x1, ∀ x2, ∀ x3, ∀ x4, A1 x1 x2 x3 x4 → A2 x1 x2 x3 x4 → A3 x1 x2 x3 x4 → G) : G := h.elim fun x1 h1 => h1.elim fun x2 h2 => h2.elim fun x3 h3 => h3.elim fun x4 h4 => g x1 x2 x3 x4 h4.1 h4.2.1 h4.2.2
theorem ea_EEEEAAAAA {a1 a2 a3 a4 : Type} {A1 A2 A3 A4 A5 A6 : a1 → a2 → a3 → a4 → Prop} {G : Prop} (h : ∃ x1, ∃ x2, ∃ x3, ∃ x4, A1 x1 x2 x3 x4 ∧ A2 x1 x2 x3 x4 ∧ A3 x1 x2 x3 x4 ∧ A4 x1 x2 x3 x4 ∧ A5 x1 x2 x3 x4 ∧ A6 x1 x2 x3 x4) (g : ∀ x1, ∀ x2, ∀ x3, ∀ x4, A1 x1 x2 x3 x4 → A2 x1 x2 x3 x4 → A3 x1 x2 x3 x4 → A4 x1 x2 x3 x4 → A5 x1 x2 x3 x4 → A6 x1 x2 x3 x4 → G) : G := h.elim fun x1 h1 => h1.elim fun x2 h2 => h2.elim fun x3 h3 => h3.elim fun x4 h4 => g x1 x2 x3 x4 h4.1 h4.2.1 h4.2.2.1 h4.2.2.2.1 h4.2.2.2.2.1 h4.2.2.2.2.2
theorem ea_EEEEEAAA {a1 a2 a3 a4 a5 : Type} {A1 A2 A3 A4 : a1 → a2 → a3 → a4 → a5 → Prop} {G : Prop} (h : ∃ x1, ∃ x2, ∃ x3, ∃ x4, ∃ x5, A1 x1 x2 x3 x4 x5 ∧ A2 x1 x2 x3 x4 x5 ∧ A3 x1 x2 x3 x4 x5 ∧ A4 x1 x2 x3 x4 x5) (g : ∀ x1, ∀ x2, ∀ x3, ∀ x4, ∀ x5, A1 x1 x2 x3 x4 x5 → A2 x1 x2 x3 x4 x5 → A3 x1 x2 x3 x4 x5 → A4 x1 x2 x3 x4 x5 → G) : G := h.elim fun x1 h1 => h1.elim fun x2 h2 => h2.elim fun x3 h3 => h3.elim fun x4 h4 => h4.elim fun x5 h5 => g x1 x2 x3 x4 x5 h5.1 h5.2.1 h5.2.2.1 h5.2.2.2
theorem ea_EEEEEAAAA {a1 a2 a3 a4 a5 : Type} {A1 A2 A3 A4 A5 : a1 → a2 → a3 → a4 → a5 → Prop} {G : Prop} (h : ∃ x1, ∃ x2, ∃ x3, ∃ x4, ∃ x5, A1 x1 x2 x3 x4 x5 ∧ A2 x1 x2 x3 x4 x5 ∧ A3 x1 x2 x3 x4 x5 ∧ A4 x1 x2 x3 x4 x5 ∧ A5 x1 x2 x3 x4 x5) (g : ∀ x1, ∀ x2, ∀ x3, ∀ x4, ∀ x5, A1 x1 x2 x3 x4 x5 → A2 x1 x2 x3 x4 x5 → A3 x1 x2 x3 x4 x5 → A4 x1 x2 x3 x4 x5 → A5 x1 x2 x3 x4 x5 → G) : G := h.elim fun x1 h1 => h1.elim fun x2 h2 => h2.elim fun x3 h3 => h3.elim fun x4 h4 => h4.elim fun x5 h5 => g x1 x2 x3 x4 x5 h5.1 h5.2.1 h5.2.2.1 h5.2.2.2.1 h5.2.2.2.2
theorem ea_EEEEEAAAAAA {a1 a2 a3 a4 a5 : Type} {A1 A2 A3 A4 A5 A6 A7 : a1 → a2 → a3 → a4 → a5 → Prop} {G : Prop} (h : ∃ x1, ∃ x2, ∃ x3, ∃ x4, ∃ x5, A1 x1 x2 x3 x4 x5 ∧ A2 x1 x2 x3 x4 x5 ∧ A3 x1 x2 x3 x4 x5 ∧ A4 x1 x2 x3 x4 x5 ∧ A5 x1 x2 x3 x4 x5 ∧ A6 x1 x2 x3 x4 x5 ∧ A7 x1 x2 x3 x4 x5) (g : ∀ x1, ∀ x2, ∀ x3, ∀ x4, ∀ x5, A1 x1 x2 x3 x4 x5 → A2 x1 x2 x3 x4 x5 → A3 x1 x2 x3 x4 x5 → A4 x1 x2 x3 x4 x5 → A5 x1 x2 x3 x4 x5 → A6 x1 x2 x3 x4 x5 → A7 x1 x2 x3 x4 x5 → G) : G := h.elim fun x1 h1 => h1.elim fun x2 h2 => h2.elim fun x3 h3 => h3.elim fun x4 h4 => h4.elim fun x5 h5 => g x1 x2 x3 x4 x5 h5.1 h5.2.1 h5.2.2.1 h5.2.2.2.1 h5.2.2.2.2.1 h5.2.2.2.2.2.1 h5.2.2.2.2.2.2
theorem ea_EEEEEAAAAAAAAAAAA {a1 a2 a3 a4 a5 : Type} {A1 A2 A3 A4 A5 A6 A7 A8 A9 A10 A11 A12 A13 : a1 → a2 → a3 → a4 → a5 → Prop} {G : Prop} (h : ∃ x1, ∃ x2, ∃ x3, ∃ x4, ∃ x5, A1 x1 x2 x3 x4 x5 ∧ A2 x1 x2 x3 x4 x5 ∧ A3 x1 x2 x3 x4 x5 ∧ A4 x1 x2 x3 x4 x5 ∧ A5 x1 x2 x3 x4 x5 ∧ A6 x1 x2 x3 x4 x5 ∧ A7 x1 x2 x3 x4 x5 ∧ A8 x1 x2 x3 x4 x5 ∧ A9 x1 x2 x3 x4 x5 ∧ A10 x1 x2 x3 x4 x5 ∧ A11 x1 x2 x3 x4 x5 ∧ A12 x1 x2 x3 x4 x5 ∧ A13 x1 x2 x3 x4 x5) (g : ∀ x1, ∀ x2, ∀ x3, ∀ x4, ∀ x5, A1 x1 x2 x3 x4 x5 → A2 x1 x2 x3 x4 x5 → A3 x1 x2 x3 x4 x5 → A4 x1 x2 x3 x4 x5 → A5 x1 x2 x3 x4 x5 → A6 x1 x2 x3 x4 x5 → A7 x1 x2 x3 x4 x5 → A8 x1 x2 x3 x4 x5 → A9 x1 x2 x3 x4 x5 → A10 x1 x2 x3 x4 x5 → A11 x1 x2 x3 x4 x5 → A12 x1 x2 x3 x4 x5 → A13 x1 x2 x3 x4 x5 → G) : G := h.elim fun x1 h1 => h1.elim fun x2 h2 => h2.elim fun x3 h3 => h3.elim fun x4 h4 => h4.elim fun x5 h5 => g x1 x2 x3 x4 x5 h5.1 h5.2.1 h5.2.2.1 h5.2.2.2.1 h5.2.2.2.2.1 h5.2.2.2.2.2.1 h5.2.2.2.2.2.2.1 h5.2.2.2.2.2.2.2.1 h5.2.2.2.2.2.2.2.2.1 h5.2.2.2.2.2.2.2.2.2.1 h5.2.2.2.2.2.2.2.2.2.2.1 h5.2.2.2.2.2.2.2.2.2.2.2.1 h5.2.2.2.2.2.2.2.2.2.2.2.2
theorem ea_EEEEEEAAA {a1 a2 a3 a4 a5 a6 : Type} {A1 A2 A3 A4 : a1 → a2 → a3 → a4 → a5 → a6 → Prop} {G : Prop} (h : ∃ x1, ∃ x2, ∃ x3, ∃ x4, ∃ x5, ∃ x6, A1 x1 x2 x3 x4 x5 x6 ∧ A2 x1 x2 x3 x4 x5 x6 ∧ A3 x1 x2 x3 x4 x5 x6 ∧ A4 x1 x2 x3 x4 x5 x6) (g : ∀ x1, ∀ x2, ∀ x3, ∀ x4, ∀ x5, ∀ x6, A1 x1 x2 x3 x4 x5 x6 → A2 x1 x2 x3 x4 x5 x6 → A3 x1 x2 x3 x4 x5 x6 → A4 x1 x2 x3 x4 x5 x6 → G) : G := h.elim fun x1 h1 => h1.elim fun x2 h2 => h2.elim fun x3 h3 => h3.elim fun x4 h4 => h4.elim fun x5 h5 => h5.elim fun x6 h6 => g x1 x2 x3 x4 x5 x6 h6.1 h6.2.1 h6.2.2.1 h6.2.2.2
theorem ea_EEEEEEEE {a1 a2 a3 a4 a5 a6 a7 a8 : Type} {A1 : a1 → a2 → a3 → a4 → a5 → a6 → a7 → a8 → Prop} {G : Prop} (h : ∃ x1, ∃ x2, ∃ x3, ∃ x4, ∃ x5, ∃ x6, ∃ x7, ∃ x8, A1 x1 x2 x3 x4 x5 x6 x7 x8) (g : ∀ x1, ∀ x2, ∀ x3, ∀ x4, ∀ x5, ∀ x6, ∀ x7, ∀ x8, A1 x1 x2 x3 x4 x5 x6 x7 x8 → G) : G := h.elim fun x1 h1 => h1.elim fun x2 h2 => h2.elim fun x3 h3 => h3.elim fun x4 h4 => h4.elim fun x5 h5 => h5.elim fun x6 h6 => h6.elim fun x7 h7 => h7.elim fun x8 h8 => g x1 x2 x3 x4 x5 x6 x7 x8 h8
theorem ea_EEEEEEEEAAAAAA {a1 a2 a3 a4 a5 a6 a7 a8 : Type} {A1 A2 A3 A4 A5 A6 A7 : a1 → a2 → a3 → a4 → a5 → a6 → a7 → a8 → Prop} {G : Prop} (h : ∃ x1, ∃ x2, ∃ x3, ∃ x4, ∃ x5, ∃ x6, ∃ x7, ∃ x8, A1 x1 x2 x3 x4 x5 x6 x7 x8 ∧ A2 x1 x2 x3 x4 x5 x6 x7 x8 ∧ A3 x1 x2 x3 x4 x5 x6 x7 x8 ∧ A4 x1 x2 x3 x4 x5 x6 x7 x8 ∧ A5 x1 x2 x3 x4 x5 x6 x7 x8 ∧ A6 x1 x2 x3 x4 x5 x6 x7 x8 ∧ A7 x1 x2 x3 x4 x5 x6 x7 x8) (g : ∀ x1, ∀ x2, ∀ x3, ∀ x4, ∀ x5, ∀ x6, ∀ x7, ∀ x8, A1 x1 x2 x3 x4 x5 x6 x7 x8 → A2 x1 x2 x3 x4 x5 x6 x7 x8 → A3 x1 x2 x3 x4 x5 x6 x7 x8 → A4 x1 x2 x3 x4 x5 x6 x7 x8 → A5 x1 x2 x3 x4 x5 x6 x7 x8 → A6 x1 x2 x3 x4 x5 x6 x7 x8 → A7 x1 x2 x3 x4 x5 x6 x7 x8 → G) : G := h.elim fun x1 h1 => h1.elim fun x2 h2 => h2.elim fun x3 h3 => h3.elim fun x4 h4 => h4.elim fun x5 h5 => h5.elim fun x6 h6 => h6.elim fun x7 h7 => h7.elim fun x8 h8 => g x1 x2 x3 x4 x5 x6 x7 x8 h8.1 h8.2.1 h8.2.2.1 h8.2.2.2.1 h8.2.2.2.2.1 h8.2.2.2.2.2.1 h8.2.2.2.2.2.2
theorem ea_EEEEEEEEEAAAA {a1 a2 a3 a4 a5 a6 a7 a8 a9 : Type} {A1 A2 A3 A4 A5 : a1 → a2 → a3 → a4 → a5 → a6 → a7 → a8 → a9 → Prop} {G : Prop} (h : ∃ x1, ∃ x2, ∃ x3, ∃ x4, ∃ x5, ∃ x6, ∃ x7, ∃ x8, ∃ x9, A1 x1 x2 x3 x4 x5 x6 x7 x8 x9 ∧ A2 x1 x2 x3 x4 x5 x6 x7 x8 x9 ∧ A3 x1 x2 x3 x4 x5 x6 x7 x8 x9 ∧ A4 x1 x2 x3 x4 x5 x6 x7 x8 x9 ∧ A5 x1 x2 x3 x4 x5 x6 x7 x8 x9) (g : ∀ x1, ∀ x2, ∀ x3, ∀ x4, ∀ x5, ∀ x6, ∀ x7, ∀ x8, ∀ x9, A1 x1 x2 x3 x4 x5 x6 x7 x8 x9 → A2 x1 x2 x3 x4 x5 x6 x7 x8 x9 → A3 x1 x2 x3 x4 x5 x6 x7 x8 x9 → A4 x1 x2 x3 x4 x5 x6 x7 x8 x9 → A5 x1 x2 x3 x4 x5 x6 x7 x8 x9 → G) : G := h.elim fun x1 h1 => h1.elim fun x2 h2 => h2.elim fun x3 h3 => h3.elim fun x4 h4 => h4.elim fun x5 h5 => h5.elim fun x6 h6 => h6.elim fun x7 h7 => h7.elim fun x8 h8 => h8.elim fun x9 h9 => g x1 x2 x3 x4 x5 x6 x7 x8 x9 h9.1 h9.2.1 h9.2.2.1 h9.2.2.2.1 h9.2.2.2.2
theorem ea_EEEEEEEEEAAAAAA {a1 a2 a3 a4 a5 a6 a7 a8 a9 : Type} {A1 A2 A3 A4 A5 A6 A7 : a1 → a2 → a3 → a4 → a5 → a6 → a7 → a8 → a9 → Prop} {G : Prop} (h : ∃ x1, ∃ x2, ∃ x3, ∃ x4, ∃ x5, ∃ x6, ∃ x7, ∃ x8, ∃ x9, A1 x1 x2 x3 x4 x5 x6 x7 x8 x9 ∧ A2 x1 x2 x3 x4 x5 x6 x7 x8 x9 ∧ A3 x1 x2 x3 x4 x5 x6 x7 x8 x9 ∧ A4 x1 x2 x3 x4 x5 x6 x7 x8 x9 ∧ A5 x1 x2 x3 x4 x5 x6 x7 x8 x9 ∧ A6 x1 x2 x3 x4 x5 x6 x7 x8 x9 ∧ A7 x1 x2 x3 x4 x5 x6 x7 x8 x9) (g : ∀ x1, ∀ x2, ∀ x3, ∀ x4, ∀ x5, ∀ x6, ∀ x7, ∀ x8, ∀ x9, A1 x1 x2 x3 x4 x5 x6 x7 x8 x9 → A2 x1 x2 x3 x4 x5 x6 x7 x8 x9 → A3 x1 x2 x3 x4 x5 x6 x7 x8 x9 → A4 x1 x2 x3 x4 x5 x6 x7 x8 x9 → A5 x1 x2 x3 x4 x5 x6 x7 x8 x9 → A6 x1 x2 x3 x4 x5 x6 x7 x8 x9 → A7 x1 x2 x3 x4 x5 x6 x7 x8 x9 → G) : G := h.elim fun x1 h1 => h1.elim fun x2 h2 => h2.elim fun x3 h3 => h3.elim fun x4 h4 => h4.elim fun x5 h5 => h5.elim fun x6 h6 => h6.elim fun x7 h7 => h7.elim fun x8 h8 => h8.elim fun x9 h9 => g x1 x2 x3 x4 x5 x6 x7 x8 x9 h9.1 h9.2.1 h9.2.2.1 h9.2.2.2.1 h9.2.2.2.2.1 h9.2.2.2.2.2.1 h9.2.2.2.2.2.2
theorem ea_EEEEEEEEEEEEA {a1 a2 a3 a4 a5 a6 a7 a8 a9 a10 a11 a12 : Type} {A1 A2 : a1 → a2 → a3 → a4 → a5 → a6 → a7 → a8 → a9 → a10 → a11 → a12 → Prop} {G : Prop} (h : ∃ x1, ∃ x2, ∃ x3, ∃ x4, ∃ x5, ∃ x6, ∃ x7, ∃ x8, ∃ x9, ∃ x10, ∃ x11, ∃ x12, A1 x1 x2 x3 x4 x5 x6 x7 x8 x9 x10 x11 x12 ∧ A2 x1 x2 x3 x4 x5 x6 x7 x8 x9 x10 x11 x12) (g : ∀ x1, ∀ x2, ∀ x3, ∀ x4, ∀ x5, ∀ x6, ∀ x7, ∀ x8, ∀ x9, ∀ x10, ∀ x11, ∀ x12, A1 x1 x2 x3 x4 x5 x6 x7 x8 x9 x10 x11 x12 → A2 x1 x2 x3 x4 x5 x6 x7 x8 x9 x10 x11 x12 → G) : G := h.elim fun x1 h1 => h1.elim fun x2 h2 => h2.elim fun x3 h3 => h3.elim fun x4 h4 => h4.elim fun x5 h5 => h5.elim fun x6 h6 => h6.elim fun x7 h7 => h7.elim fun x8 h8 => h8.elim fun x9 h9 => h9.elim fun x10 h10 => h10.elim fun x11 h11 => h11.elim fun x12 h12 => g x1 x2 x3 x4 x5 x6 x7 x8 x9 x10 x11 x12 h12.1 h12.2
end
section
inductive Val where
  | none | bool (b : Bool) | int (i : Int) | str (s : Str) | tup (vs : List Val) | ref (a : Addr) | typ (n : String) | blt (n : String)
noncomputable abbrev tupObj (xs : List Value) : Obj := { cls := .type "tuple", data := .seq xs.toArray }
mutual
noncomputable def VRel (h : Heap) : Val → Value → Prop
  | .none, v => v = .none
  | .bool b, v => v = .bool b
  | .int i, v => ∃ t, v = .int i t
  | .str s, v => ∃ t, v = .str s t
  | .tup vs, v => ∃ a xs, v = .ref a ∧ h.get? a = some (tupObj xs) ∧ VRels h vs xs
  | .ref a, v => v = .ref a
  | .typ n, v => v = .type n
  | .blt n, v => v = .builtin n
noncomputable def VRels (h : Heap) : List Val → List Value → Prop
  | [], l => l = []
  | x :: xs, l => ∃ y ys, l = y :: ys ∧ VRel h x y ∧ VRels h xs ys
end
noncomputable def TK (h h' : Heap) : Prop := ∀ a xs, h.get? a = some (tupObj xs) → h'.get? a = some (tupObj xs)
theorem TK.refl (h : Heap) : TK h h := fun _ _ e => e
theorem TK.trans {h h' h'' : Heap} (x : TK h h') (y : TK h' h'') : TK h h'' := fun a xs e => y a xs (x a xs e)
theorem TK.of_keeps {h h' : Heap} (k : ∀ b o, h.get? b = some o → h'.get? b = some o) : TK h h' := fun a _ e => k a _ e
theorem TK.but {h h' : Heap} {a : Addr} {o : Obj} (ho : h.get? a = some o) (hc : o.cls ≠ .type "tuple") (hs : Heap.SameBut a h h') : TK h h' := fun b xs e =>
  (hs.2 b (fun q => by subst q; rw [ho] at e; cases e; exact hc rfl)).trans e
mutual
theorem VRel.mono {h h' : Heap} (k : TK h h') : ∀ {v : Val} {c : Value}, VRel h v c → VRel h' v c
  | .none, _, e => e
  | .bool _, _, e => e
  | .int _, _, e => e
  | .str _, _, e => e
  | .tup _, _, ⟨a, xs, e, g, r⟩ => ⟨a, xs, e, k a xs g, VRels.mono k r⟩
  | .ref _, _, e => e
  | .typ _, _, e => e
  | .blt _, _, e => e
theorem VRels.mono {h h' : Heap} (k : TK h h') : ∀ {v : List Val} {c : List Value}, VRels h v c → VRels h' v c
  | [], _, e => e
  | _ :: _, _, ⟨y, ys, e, a, r⟩ => ⟨y, ys, e, VRel.mono k a, VRels.mono k r⟩
end
theorem VRels.length {h : Heap} : ∀ {v : List Val} {c : List Value}, VRels h v c → v.length = c.length
  | [], _, e => by cases e; rfl
  | _ :: _, _, ⟨y, ys, e, a, r⟩ => by subst e; simp [VRels.length r]
theorem VRels.get {h : Heap} : ∀ {v : List Val} {c : List Value} {i : Nat} {x : Val}, VRels h v c → v[i]? = some x → ∃ y, c[i]? = some y ∧ VRel h x y
  | _ :: _, _, 0, _, ⟨y, ys, e, a, r⟩, g => by subst e; simp at g; subst g; exact ⟨y, rfl, a⟩
  | _ :: _, _, i + 1, _, ⟨y, ys, e, a, r⟩, g => by subst e; simp at g; simpa using VRels.get r g
theorem VRels.append {h : Heap} : ∀ {v w : List Val} {c d : List Value}, VRels h v c → VRels h w d → VRels h (v ++ w) (c ++ d)
  | [], _, _, _, e, r => by cases e; exact r
  | _ :: _, _, _, _, ⟨y, ys, e, a, r⟩, s => by subst e; exact ⟨y, ys ++ _, rfl, a, VRels.append r s⟩
theorem VRels.one {h : Heap} {v : Val} {c : Value} (e : VRel h v c) : VRels h [v] [c] := ⟨c, [], rfl, e, rfl⟩
theorem VRels.take {h : Heap} : ∀ {v : List Val} {c : List Value} (n : Nat), VRels h v c → VRels h (v.take n) (c.take n)
  | _, _, 0, _ => by simp [VRels]
  | [], _, n + 1, e => by cases e; simp [VRels]
  | _ :: _, _, n + 1, ⟨y, ys, e, a, r⟩ => by subst e; exact ⟨y, _, rfl, a, VRels.take n r⟩
theorem VRels.drop {h : Heap} : ∀ {v : List Val} {c : List Value} (n : Nat), VRels h v c → VRels h (v.drop n) (c.drop n)
  | _, _, 0, e => by simpa using e
  | [], _, n + 1, e => by cases e; simp [VRels]
  | _ :: _, _, n + 1, ⟨y, ys, e, a, r⟩ => by subst e; simpa using VRels.drop n r
theorem VRels.set {h : Heap} : ∀ {v : List Val} {c : List Value} (n : Nat) {x : Val} {y : Value}, VRels h v c → VRel h x y → VRels h (v.set n x) (c.set n y)
  | [], _, _, _, _, e, _ => by cases e; simp [VRels]
  | _ :: _, _, 0, _, _, ⟨y, ys, e, a, r⟩, b => by subst e; exact ⟨_, _, rfl, b, r⟩
  | _ :: _, _, n + 1, _, _, ⟨y, ys, e, a, r⟩, b => by subst e; exact ⟨_, _, rfl, a, VRels.set n r b⟩
set_option genInjectivity true in
inductive Atom where
  | i (n : Int) | s (x : Str)
  deriving DecidableEq
noncomputable def Atom.val : Atom → Val
  | .i n => .int n
  | .s x => .str x
noncomputable def atomIs : Atom → Value → Bool
  | .i n, v => Value.isInt n v
  | .s x, v => Value.isStrOf x v
noncomputable def atomHash (w : World) : Atom → Int
  | .i n => hashInt n
  | .s x => hashStr w x
theorem atomIs_shape {k : Atom} {v : Value} (e : atomIs k v = true) : ∃ t, v = (match k with | .i n => .int n t | .s x => .str x t) := by
  cases k with
  | i n => exact Value.isInt_shape e
  | s x => exact Value.isStrOf_shape e
section
variable {prog : Program} {w : World} {A : Around} {E : Value → Shared → Prop} {s : Shared}
theorem eqBool_int_str {n : Int} {t : Tok} {x : Str} {u : Tok} {Q : Bool → Shared → Prop} (h : Q false s) : wpAny (model prog w) A (eqBool (.int n t) (.str x u)) Q E s := by
  unfold eqBool
  try with_reducible refine wpAny_holding ?_
  show wpAny _ _ (if (Value.int n t == Value.str x u) = true then _ else _) Q E s
  rw [if_neg (by simp)]
  exact wpAny_bind (EqMixed.eq_int_str (wpAny_truthy_bool h))
theorem eqBool_str_int {n : Int} {t : Tok} {x : Str} {u : Tok} {Q : Bool → Shared → Prop} (h : Q false s) : wpAny (model prog w) A (eqBool (.str x u) (.int n t)) Q E s := by
  unfold eqBool
  try with_reducible refine wpAny_holding ?_
  show wpAny _ _ (if (Value.str x u == Value.int n t) = true then _ else _) Q E s
  rw [if_neg (by simp)]
  exact wpAny_bind (EqMixed.eq_str_int (wpAny_truthy_bool h))
end
noncomputable def atomKind (prog : Program) (w : World) : KeyKind prog w Atom where
  is := atomIs
  hash := atomHash w
  inj := fun v a b ha hb => by
    obtain ⟨t, rfl⟩ := atomIs_shape ha
    cases a <;> cases b
    · exact congrArg Atom.i (Value.isInt_inj (.int _ t) _ _ ha hb)
    · cases hb
    · cases hb
    · exact congrArg Atom.s (Value.isStrOf_inj (.str _ t) _ _ ha hb)
  byValue := fun k v h => by obtain ⟨t, rfl⟩ := atomIs_shape h; cases k <;> rfl
  pyHash := fun {A E s k v Q} hv h => by
    obtain ⟨t, rfl⟩ := atomIs_shape hv
    cases k
    · exact wpAny_pyHash_int h
    · exact wpAny_pyHash_str h
  eqBool := fun {A E s a b u v Q} hu hv h => by
    obtain ⟨t, rfl⟩ := atomIs_shape hu
    obtain ⟨t', rfl⟩ := atomIs_shape hv
    cases a <;> cases b
    · refine wpAny_eqBool_int ?_
      rename_i x y
      have : (x == y) = decide (Atom.i x = Atom.i y) := by
        by_cases q : x = y <;> simp [q]
      rw [this]; exact h
    · exact eqBool_int_str (by simpa using h)
    · exact eqBool_str_int (by simpa using h)
    · refine wpAny_eqBool_str ?_
      rename_i x y
      have : decide (x = y) = decide (Atom.s x = Atom.s y) := by
        by_cases q : x = y <;> simp [q]
      rw [this]; exact h
  «strs» := fun k x t v h => by
    cases k
    · simp [atomIs, Value.isInt] at h
    · rename_i y
      have hx : x = y := by simpa [atomIs, Value.isStrOf] using h
      subst hx
      cases v <;> rfl
set_option genInjectivity true in
inductive AObj where
  | list (vs : List Val)
  | dict (f : Atom → Option Val) (n : Nat)
  | tdict (f : List Atom → Option Val) (n : Nat)
  | inst (C dx : Addr)
  | attrs (fs : List (Str × Val))
  | exc (C dx : Addr)
  | excN (C : Addr) (dx : Option Addr)
noncomputable abbrev AH := Addr → Option AObj
noncomputable def AH.set (σ : AH) (a : Addr) (o : AObj) : AH := fun x => if x = a then some o else σ x
theorem AH.set_self (σ : AH) (a : Addr) (o : AObj) : σ.set a o a = some o := if_pos rfl
theorem AH.set_ne {σ : AH} {a b : Addr} {o : AObj} (h : b ≠ a) : σ.set a o b = σ b := if_neg h
noncomputable def VO (h : Heap) : Option Val → Option Value → Prop
  | none, c => c = none
  | some v, c => ∃ y, c = some y ∧ VRel h v y
theorem VO.mono {h h' : Heap} (k : TK h h') : ∀ {v : Option Val} {c : Option Value}, VO h v c → VO h' v c
  | none, _, e => e
  | some _, _, ⟨y, e, r⟩ => ⟨y, e, r.mono k⟩
noncomputable def ARel (h : Heap) : List (Str × Val) → List DictEntry → Prop
  | [], es => es = []
  | f :: fs, es => ∃ e es', es = e :: es' ∧ (∃ t, e.key = .str f.1 t) ∧ VRel h f.2 e.val ∧ ARel h fs es'
theorem ARel.mono {h h' : Heap} (k : TK h h') : ∀ {fs : List (Str × Val)} {es : List DictEntry}, ARel h fs es → ARel h' fs es
  | [], _, e => e
  | _ :: _, _, ⟨e, es', q, r, v, s⟩ => ⟨e, es', q, r, v.mono k, ARel.mono k s⟩
noncomputable abbrev dictObj (es : Array DictEntry) (n : Nat) : Obj := { cls := .type "dict", data := .dict es n }
section
variable (prog : Program) (w : World)
noncomputable def ORel (h : Heap) : AObj → Obj → Prop
  | .list vs, o => ∃ xs n, o = listOf xs n ∧ VRels h vs xs.toList
  | .dict f n, o => ∃ kvs : List (Atom × Value), Obj.IsDictOf (atomKind prog w) o kvs ∧ kvs.length ≤ n ∧ ∀ k, VO h (f k) (valueAt kvs k)
  | .tdict f n, o => ∃ (xs : List (List Atom × Addr × Value)) (ep : Nat), o = dictObj (xs.map (entryOfKey (tupleKind (atomKind prog w)))).toArray ep ∧ xs.length ≤ n ∧ (xs.map (·.1)).Nodup ∧
      (∀ x ∈ xs, ∃ ys, h.get? x.2.1 = some (tupObj ys) ∧ ItemsAre (atomKind prog w) x.1 ys) ∧ ∀ k, VO h (f k) ((atKey xs k).map (·.2))
  | .inst C dx, o => o = instObj C dx
  | .attrs fs, o => ∃ es n, o = dictOf es n ∧ ARel h fs es
  | .exc C dx, o => ∃ vs sl, o = ⟨.ref C, some dx, .fields vs, sl⟩
  | .excN C dx, o => ∃ t, o = ⟨.ref C, dx, .fields #[.ref t, .none, .none, .none, .bool false, .none], #[]⟩
variable {prog w}
theorem ORel.mono {h h' : Heap} (k : TK h h') {a : AObj} {o : Obj} (r : ORel prog w h a o) : ORel prog w h' a o := by
  cases a with
  | list vs => obtain ⟨xs, n, e, r⟩ := r; exact ⟨xs, n, e, r.mono k⟩
  | dict f n => obtain ⟨kvs, e, z, r⟩ := r; exact ⟨kvs, e, z, fun x => (r x).mono k⟩
  | tdict f n => obtain ⟨xs, ep, e, z, nd, q, r⟩ := r; exact ⟨xs, ep, e, z, nd, fun x hx => let ⟨ys, g, i⟩ := q x hx; ⟨ys, k _ _ g, i⟩, fun x => (r x).mono k⟩
  | inst C dx => exact r
  | attrs fs => obtain ⟨es, n, e, r⟩ := r; exact ⟨es, n, e, r.mono k⟩
  | exc C dx => exact r
  | excN C dx => exact r
theorem ORel.noTup {h : Heap} {a : AObj} {o : Obj} (r : ORel prog w h a o) : o.cls ≠ .type "tuple" := by
  intro q
  cases a with
  | list vs => obtain ⟨xs, n, rfl, r⟩ := r; simp at q
  | dict f n => obtain ⟨kvs, ⟨es, ep, ⟨h1, _⟩, _⟩, _⟩ := r; rw [h1] at q; simp at q
  | tdict f n => obtain ⟨xs, ep, rfl, _⟩ := r; simp at q
  | inst C dx => cases r; simp at q
  | attrs fs => obtain ⟨es, n, rfl, r⟩ := r; simp at q
  | exc C dx => obtain ⟨vs, sl, rfl⟩ := r; simp at q
  | excN C dx => obtain ⟨t, rfl⟩ := r; simp at q
theorem ORel.noFrame {h : Heap} {a : AObj} {o : Obj} (r : ORel prog w h a o) : o.cls ≠ .type "frame" := by
  intro q
  cases a with
  | list vs => obtain ⟨xs, n, rfl, r⟩ := r; simp at q
  | dict f n => obtain ⟨kvs, ⟨es, ep, ⟨h1, _⟩, _⟩, _⟩ := r; rw [h1] at q; simp at q
  | tdict f n => obtain ⟨xs, ep, rfl, _⟩ := r; simp at q
  | inst C dx => cases r; simp at q
  | attrs fs => obtain ⟨es, n, rfl, r⟩ := r; simp at q
  | exc C dx => obtain ⟨vs, sl, rfl⟩ := r; simp at q
  | excN C dx => obtain ⟨t, rfl⟩ := r; simp at q
end
end
section
variable {lo : Nat}
noncomputable def SK (lo : Nat) (h h' : Heap) : Prop := ∀ b o, h.get? b = some o → ∃ sl, h'.get? b = some { o with slots := sl } ∧ (o.cls ≠ .type "frame" ∨ b < lo → sl = o.slots)
theorem SK.trans {h h' h'' : Heap} (x : SK lo h h') (y : SK lo h' h'') : SK lo h h'' := fun b o e => by
  refine ea_EA (x b o e) fun sl e1 k1 => ?_
  refine ea_EA (y b _ e1) fun sl' e2 k2 => ?_
  exact ⟨sl', e2, fun q => (k2 q).trans (k1 q)⟩
theorem SK.of_keeps {h h' : Heap} (k : ∀ b o, h.get? b = some o → h'.get? b = some o) : SK lo h h' := fun b o e => ⟨o.slots, k b o e, fun _ => rfl⟩
theorem SK.exact {h h' : Heap} (x : SK lo h h') {b : Addr} {o : Obj} (e : h.get? b = some o) (n : o.cls ≠ .type "frame") : h'.get? b = some o := by
  refine ea_EA (x b o e) fun sl e1 k => ?_
  rw [k (.inl n)] at e1; exact e1
theorem SK.ns {h h' : Heap} (x : SK lo h h') {a : Addr} {m : Str → Option Value} (n : h.Ns a m) : h'.Ns a m := by
  refine ea_EEEAA n fun o es ep ho hd r => ?_; clear n
  refine ea_EA (x a o ho) fun sl e1 _ => ?_
  exact ⟨_, es, ep, e1, hd, r⟩
theorem SK.none {h h' : Heap} (x : SK lo h h') {a : Addr} (e : h'.get? a = none) : h.get? a = none := by
  cases q : h.get? a with
  | none => rfl
  | some o => obtain ⟨sl, e1, _⟩ := x a o q; rw [e] at e1; cases e1
structure Wd (K : Frag) (h : Heap) : Prop where
  inK : K.In h
  noF : ∀ a o, K.lookup a = some o → o.cls ≠ .type "frame"
  lim : h.NoLimit
  bns : ∃ mb, h.Ns builtinsNs mb ∧ ∀ x : Str, x ≠ "__name__" → mb x = bootBuiltins x
theorem Wd.mono {K : Frag} {h h' : Heap} (x : SK lo h h') (W : Wd K h) : Wd K h' :=
  ⟨fun a o e => x.exact (W.inK a o e) (W.noF a o e), W.noF, let ⟨mc, n, e⟩ := W.lim; ⟨mc, x.ns n, e⟩, let ⟨mb, n, e⟩ := W.bns; ⟨mb, x.ns n, e⟩⟩
structure LocRel (env : Env) (h : Heap) (m : List (Option Val)) : Prop where
  ns : ∃ mc, h.Ns env.locals mc ∧ ∀ (i : Nat) nm, env.scope.names[i]? = some (nm, .local) → ∀ v, m[i]? = some (some v) → ∃ cv, mc nm = some cv ∧ VRel h v cv
  cell : ∀ (i : Nat) nm k, env.scope.names[i]? = some (nm, k) → (k = .cell ∨ k = .free) → ∃ c cv, env.cells.lookup nm = some c ∧ h.IsCell c cv ∧ ∀ v, m[i]? = some (some v) → ∃ y, cv = some y ∧ VRel h v y
  cls : ∃ o, h.get? env.locals = some o ∧ o.cls ≠ .type "tuple" ∧ (env.frame = some env.locals → o.cls = .type "frame")
  cex : ∀ x ∈ env.cells, ∃ o v, h.get? x.2 = some o ∧ o.data = .cell v
  big : 1 < env.locals
theorem LocRel.keep {env : Env} {h h' : Heap} {m : List (Option Val)} (x : LocRel env h m) (k : TK h h')
    (hk : ∀ b o, (b = env.locals ∨ ∃ nm, (nm, b) ∈ env.cells) → h.get? b = some o → ∃ sl, h'.get? b = some { o with slots := sl }) : LocRel env h' m := by
  refine ⟨?_, ?_, ?_, fun y hy => let ⟨o, v, ho, hd⟩ := x.cex y hy; let ⟨sl, e⟩ := hk _ _ (.inr ⟨y.1, hy⟩) ho; ⟨_, v, e, hd⟩, x.big⟩
  · refine ea_EA x.ns fun mc pz1 q => ?_
    refine ea_EEEAA pz1 fun o es ep ho hd r => ?_; clear pz1
    obtain ⟨sl, e⟩ := hk _ _ (.inl rfl) ho
    exact ⟨mc, ⟨_, es, ep, e, hd, r⟩, fun i nm e v hv => let ⟨cv, a, b⟩ := q i nm e v hv; ⟨cv, a, b.mono k⟩⟩
  · intro i nm kd e c
    refine ea_EEAA (x.cell i nm kd e c) fun c cv a pz2 r => ?_
    refine ea_EA pz2 fun o ho hd => ?_; clear pz2
    obtain ⟨sl, e⟩ := hk _ _ (.inr ⟨nm, mem_of_lookup a⟩) ho
    exact ⟨c, cv, a, ⟨_, e, hd⟩, fun v hv => let ⟨y, a, b⟩ := r v hv; ⟨y, a, b.mono k⟩⟩
  · refine ea_EAA x.cls fun o ho a b => ?_
    obtain ⟨sl, e⟩ := hk _ _ (.inl rfl) ho
    exact ⟨_, e, a, b⟩
section
variable (lo) (prog : Program) (w : World)
structure St (h₀ : Heap) (env : Env) (m : List (Option Val)) (σ : AH) (h : Heap) : Prop where
  loc : LocRel env h m
  keep : SK lo h₀ h
  obj : ∀ a o, σ a = some o → (∃ co, h.get? a = some co ∧ ORel prog w h o co) ∧ h₀.get? a = none ∧ a ≠ env.locals ∧ (∀ nm, (nm, a) ∉ env.cells) ∧ 1 < a
variable {lo prog w}
theorem St.fresh {h₀ : Heap} {env : Env} {m : List (Option Val)} {σ : AH} {h : Heap} (x : St lo prog w h₀ env m σ h) : σ h.objs.size = none := by
  cases q : σ h.objs.size with
  | none => rfl
  | some o => obtain ⟨⟨co, e, _⟩, _⟩ := x.obj _ _ q; exact absurd (Heap.lt_size e) (Nat.lt_irrefl _)
theorem St.ext {h₀ : Heap} {env : Env} {m : List (Option Val)} {σ : AH} {h h' : Heap} (x : St lo prog w h₀ env m σ h) (k : ∀ b o, h.get? b = some o → h'.get? b = some o) : St lo prog w h₀ env m σ h' :=
  ⟨x.loc.keep (TK.of_keeps k) fun b o _ e => ⟨o.slots, k b o e⟩, x.keep.trans (SK.of_keeps k), fun a o e => let ⟨⟨co, g, r⟩, q⟩ := x.obj a o e; ⟨⟨co, k _ _ g, r.mono (TK.of_keeps k)⟩, q⟩⟩
theorem St.push {h₀ : Heap} {env : Env} {m : List (Option Val)} {σ : AH} {h : Heap} (x : St lo prog w h₀ env m σ h) (o : Obj) : St lo prog w h₀ env m σ (h.push o) := x.ext fun _ _ e => Heap.get?_push_of_some _ e
theorem St.add {h₀ : Heap} {env : Env} {m : List (Option Val)} {σ : AH} {h : Heap} (x : St lo prog w h₀ env m σ h) {a : Addr} {o : AObj} (ho : ∃ co, h.get? a = some co ∧ ORel prog w h o co)
    (h0 : h₀.get? a = none) (hl : a ≠ env.locals) (hc : ∀ nm, (nm, a) ∉ env.cells) (hb : 1 < a) : St lo prog w h₀ env m (σ.set a o) h := by
  refine ⟨x.loc, x.keep, fun b ob e => ?_⟩
  by_cases q : b = a
  · subst q; rw [AH.set_self] at e; cases e; exact ⟨ho, h0, hl, hc, hb⟩
  · rw [AH.set_ne q] at e; exact x.obj b ob e
theorem LocRel.size {env : Env} {h : Heap} {m : List (Option Val)} (x : LocRel env h m) : env.locals < h.objs.size := let ⟨_, n, _⟩ := x.ns; n.lt
theorem St.upd {h₀ : Heap} {env : Env} {m : List (Option Val)} {σ : AH} {h h' : Heap} (x : St lo prog w h₀ env m σ h) {a : Addr} {o₀ o : AObj} (ha : σ a = some o₀) (hs : Heap.SameBut a h h')
    (r : ∃ co, h'.get? a = some co ∧ ORel prog w h o co) : St lo prog w h₀ env m (σ.set a o) h' := by
  refine ea_AAAA (x.obj a o₀ ha) fun pz3 n0 nl nc nb => ?_
  refine ea_EA pz3 fun c0 g0 r0 => ?_; clear pz3
  have tk : TK h h' := TK.but g0 r0.noTup hs
  refine ⟨x.loc.keep tk fun b ob hb e => ⟨ob.slots, ?_⟩, fun b ob e => ?_, fun b ob e => ?_⟩
  · refine (hs.2 b fun q => ?_).trans e
    subst q
    rcases hb with q | ⟨nm, q⟩
    · exact nl q
    · exact nc nm q
  · refine ea_EA (x.keep b ob e) fun sl e1 k => ?_
    exact ⟨sl, (hs.2 b fun q => by subst q; rw [n0] at e; cases e).trans e1, k⟩
  · by_cases q : b = a
    · subst q
      rw [AH.set_self] at e
      cases e
      refine ea_EA r fun co g rr => ?_; clear r
      exact ⟨⟨co, g, rr.mono tk⟩, n0, nl, nc, nb⟩
    · rw [AH.set_ne q] at e
      obtain ⟨⟨co, g, rr⟩, z⟩ := x.obj b ob e
      exact ⟨⟨co, (hs.2 b q).trans g, rr.mono tk⟩, z⟩
end
noncomputable def cellApart (env : Env) : Prop := env.cells.Pairwise fun x y => x.2 ≠ y.2
structure Fm (lo : Nat) (K : Frag) (A : Around) (h₀ : Heap) (env : Env) (n : Nat) (q : Bool) : Prop where
  kind : env.scope.kind = .function
  glob : env.globals = mainGlobals
  blt : env.builtins = builtinsNs
  nd : (env.scope.names.map (·.1)).Nodup
  depth : A.depth + n < 1000
  units : A.units + 10 * n + 20 < 9900
  hand : q = true → A.handled = none
  apart : env.cells.Pairwise fun x y => x.2 ≠ y.2
  offL : ∀ x ∈ env.cells, x.2 ≠ env.locals
  ownL : h₀.get? env.locals = none
  ownC : env.frame = some env.locals → ∀ x ∈ env.cells, h₀.get? x.2 = none
  wd : Wd K h₀
  frs : ∃ l, A.frames = some l ∧ (env.frame = some env.locals → ∃ r, l = env :: r) ∧ ∀ e ∈ l, e.scope.kind ≠ .module ∧ ∃ L, e.frame = some L ∧ lo ≤ L ∧ ((L = env.locals ∧ env.frame = some env.locals) ∨ ∃ o es ep, h₀.get? L = some o ∧ o.cls = .type "frame" ∧ o.data = .dict es ep)
  low : lo ≤ env.locals
theorem St.addNew {prog : Program} {w : World} {h₀ : Heap} {env : Env} {m : List (Option Val)} {σ : AH} {h : Heap} (x : St lo prog w h₀ env m σ h) {co : Obj} {o : AObj} (hf : co.isFreed = false)
    (r : ORel prog w (h.push co) o co) : St lo prog w h₀ env m (σ.set h.objs.size o) (h.push co) := by
  refine (x.push co).add ⟨co, Heap.get?_push_size _ hf, r⟩ ?_ ?_ ?_ (Nat.lt_trans x.loc.big x.loc.size)
  · exact x.keep.none (by cases e : h.get? h.objs.size with | none => rfl | some o' => exact absurd (Heap.lt_size e) (Nat.lt_irrefl _))
  · exact Nat.ne_of_gt x.loc.size
  · intro nm hm
    refine ea_EEA (x.loc.cex _ hm) fun ob _ e _ => ?_
    exact absurd (Heap.lt_size e) (Nat.lt_irrefl _)
end
section
structure Cx where
  prog : Program
  w : World
  K : Frag
  os : OsState
  lo : Nat
noncomputable def Ok (C : Cx) (s : Shared) : Prop := s.gens = #[] ∧ s.os = C.os
noncomputable def FlyT (h₀ h : Heap) (fr : Option Addr) (a : Addr) : Prop :=
  ∃ c dx vs sl T oT ts fl, h.get? a = some ⟨.ref c, some dx, .fields vs, sl⟩ ∧ h₀.get? a = none ∧ vs[1]? = some (.ref T) ∧ h₀.get? T = none ∧ h.get? T = some oT ∧ oT.cls = .type "traceback" ∧ oT.data = .fields ts ∧ ts[3]? = some fl ∧ (fl = .none ∨ ∃ L, fr = some L ∧ fl = rawInt L)
noncomputable def Fly (h₀ h : Heap) (fr : Option Addr) (a : Addr) : Prop :=
  (∃ c dx vs sl, h.get? a = some ⟨.ref c, some dx, .fields vs, sl⟩ ∧ h₀.get? a = none ∧ vs[1]? = some .none) ∨ FlyT h₀ h fr a
variable (C : Cx)
noncomputable def QE (h₀ : Heap) (env : Env) (m : List (Option Val)) (h : Heap) (Q : Val → AH → Prop) : Value → Shared → Prop := fun v s' =>
  Ok C s' ∧ TK h s'.heap ∧ ∃ v' σ', VRel s'.heap v' v ∧ St C.lo C.prog C.w h₀ env m σ' s'.heap ∧ Q v' σ'
noncomputable def QEs (h₀ : Heap) (env : Env) (m : List (Option Val)) (h : Heap) (Q : List Val → AH → Prop) : List Value → Shared → Prop := fun v s' =>
  Ok C s' ∧ TK h s'.heap ∧ ∃ v' σ', VRels s'.heap v' v ∧ St C.lo C.prog C.w h₀ env m σ' s'.heap ∧ Q v' σ'
noncomputable def QB (h₀ : Heap) (env : Env) (m : List (Option Val)) (h : Heap) (Q : Bool → AH → Prop) : Bool → Shared → Prop := fun b s' =>
  Ok C s' ∧ TK h s'.heap ∧ ∃ σ', St C.lo C.prog C.w h₀ env m σ' s'.heap ∧ Q b σ'
noncomputable def XE (h₀ : Heap) (env : Env) (m : List (Option Val)) (X : Addr → AH → Prop) : Value → Shared → Prop := fun e s' =>
  Ok C s' ∧ ∃ a σ', e = .ref a ∧ St C.lo C.prog C.w h₀ env m σ' s'.heap ∧ (∃ c dx, σ' a = some (.exc c dx)) ∧ Fly h₀ s'.heap env.frame a ∧ X a σ'
noncomputable def JE (n : Nat) (q : Bool) (env : Env) (m : List (Option Val)) (σ : AH) (e : Expr) (Q : Val → AH → Prop) (X : Addr → AH → Prop) : Prop :=
  ∀ A h₀ s, Fm C.lo C.K A h₀ env n q → St C.lo C.prog C.w h₀ env m σ s.heap → Ok C s → wpAny (model C.prog C.w) A (eval e env) (QE C h₀ env m s.heap Q) (XE C h₀ env m X) s
noncomputable def JEs (n : Nat) (q : Bool) (env : Env) (m : List (Option Val)) (σ : AH) (es : List Expr) (Q : List Val → AH → Prop) (X : Addr → AH → Prop) : Prop :=
  ∀ A h₀ s pos, Fm C.lo C.K A h₀ env n q → St C.lo C.prog C.w h₀ env m σ s.heap → Ok C s → wpAny (model C.prog C.w) A (spliced (backTo pos (starEach es env))) (QEs C h₀ env m s.heap Q) (XE C h₀ env m X) s
noncomputable def JB (n : Nat) (q : Bool) (env : Env) (m : List (Option Val)) (σ : AH) (e : Expr) (Q : Bool → AH → Prop) (X : Addr → AH → Prop) : Prop :=
  ∀ A h₀ s, Fm C.lo C.K A h₀ env n q → St C.lo C.prog C.w h₀ env m σ s.heap → Ok C s → wpAny (model C.prog C.w) A (isTrue e env (eval e env)) (QB C h₀ env m s.heap Q) (XE C h₀ env m X) s
noncomputable def JO (n : Nat) (q : Bool) (env : Env) (m : List (Option Val)) (σ : AH) (vs : List Val) (t : List Value → Sem Value) (Q : Val → AH → Prop) (X : Addr → AH → Prop) : Prop :=
  ∀ A h₀ s cs, Fm C.lo C.K A h₀ env n q → St C.lo C.prog C.w h₀ env m σ s.heap → Ok C s → VRels s.heap vs cs → wpAny (model C.prog C.w) A (t cs) (QE C h₀ env m s.heap Q) (XE C h₀ env m X) s
noncomputable abbrev JC (n : Nat) (q : Bool) (env : Env) (m : List (Option Val)) (σ : AH) (f : Value) (vs : List Val) (Q : Val → AH → Prop) (X : Addr → AH → Prop) : Prop :=
  JO C n q env m σ vs (fun cs => call f cs) Q X
noncomputable def JK (n : Nat) (q : Bool) (env : Env) (m : List (Option Val)) (σ : AH) (f : Value) (vs : List Val) (Q : Val → AH → Prop) (X : Addr → AH → Prop) : Prop :=
  ∀ A h₀ s cs, Fm C.lo C.K A h₀ env n q → St C.lo C.prog C.w h₀ env m σ s.heap → Ok C s → VRels s.heap vs cs →
    codeAny (model C.prog C.w) A (.call f ⟨cs, []⟩) (fun r s' => match r with | .ok (.ret v) => QE C h₀ env m s.heap Q v s' | .ok _ => False | .error e => XE C h₀ env m X e s') s
variable {C} {n : Nat} {q : Bool} {env : Env} {m : List (Option Val)} {σ : AH} {X : Addr → AH → Prop}
theorem JK.call {f : Value} {vs : List Val} {Q : Val → AH → Prop} (h : JK C n q env m σ f vs Q X) : JC C n q env m σ f vs Q X := fun A h₀ s cs F S O r => wpAny_call (h A h₀ s cs F S O r)
theorem QE.up {h₀ h h' : Heap} {Q : Val → AH → Prop} {v : Value} {s : Shared} (k : TK h h') (x : QE C h₀ env m h' Q v s) : QE C h₀ env m h Q v s := ⟨x.1, k.trans x.2.1, x.2.2⟩
theorem QB.up {h₀ h h' : Heap} {Q : Bool → AH → Prop} {v : Bool} {s : Shared} (k : TK h h') (x : QB C h₀ env m h' Q v s) : QB C h₀ env m h Q v s := ⟨x.1, k.trans x.2.1, x.2.2⟩
structure IsVar (env : Env) (nm : Str) (i : Nat) (k : NameKind) : Prop where
  at_ : env.scope.names[i]? = some (nm, k)
  nd : (nm == ("__debug__" : Str)) = false
theorem lookup_of_get {α : Type} : ∀ {l : List (Str × α)} {i : Nat} {nm : Str} {k : α}, (l.map (·.1)).Nodup → l[i]? = some (nm, k) → l.lookup nm = some k
  | (a, b) :: r, 0, nm, k, nd, e => by simp at e; obtain ⟨rfl, rfl⟩ := e; simp
  | (a, b) :: r, i + 1, nm, k, nd, e => by
    simp at e
    rw [List.map_cons, List.nodup_cons] at nd
    have hne : nm ≠ a := fun z => nd.1 (z ▸ List.mem_map.mpr ⟨(nm, k), List.mem_of_getElem? e, rfl⟩)
    rw [List.lookup_cons, beq_eq_false_iff_ne.mpr hne]
    exact lookup_of_get nd.2 e
theorem IsVar.kind {nm : Str} {i : Nat} {k : NameKind} (x : IsVar env nm i k) (nd : (env.scope.names.map (·.1)).Nodup) : env.kindOf nm = some k := lookup_of_get nd x.at_
theorem load_var {A : Around} {h₀ : Heap} {s : Shared} {nm : Str} {i : Nat} {k : NameKind} {v : Val} (F : Fm C.lo C.K A h₀ env n q) (S : St C.lo C.prog C.w h₀ env m σ s.heap) (hv : IsVar env nm i k) (hk : k = .local ∨ k = .cell) (hm : m[i]? = some (some v))
    {Q : Value → Shared → Prop} {E : Value → Shared → Prop} (h : ∀ c, VRel s.heap v c → Q c s) : wpAny (model C.prog C.w) A (loadName env nm) Q E s := by
  rcases hk with rfl | rfl
  · refine ea_EA S.loc.ns fun mc hn r => ?_
    refine ea_EA (r i nm hv.at_ v hm) fun cv a b => ?_
    exact wpAny_loadName_local F.kind (hv.kind F.nd) hn a (h _ b)
  · refine ea_EEAA (S.loc.cell i nm _ hv.at_ (.inl rfl)) fun c cv a ic r => ?_
    refine ea_EA (r v hm) fun y ez1 b => ?_; subst ez1
    exact wpAny_loadName_cell F.kind (hv.kind F.nd) a ic (h _ b)
theorem JE_var {nm : Str} {i : Nat} {k : NameKind} {v : Val} {pos : Pos} {Q : Val → AH → Prop} (hv : IsVar env nm i k) (hm : m[i]? = some (some v)) (h : Q v σ) (hk : k = .local ∨ k = .cell := by first | exact .inl rfl | exact .inr rfl) :
    JE C n q env m σ (.Name nm pos) Q X := fun A h₀ s F S O =>
  wpAny_Name (load_var F S hv hk hm fun c r => ⟨O, TK.refl _, v, σ, r, S, h⟩) hv.nd
noncomputable def GlobIs (K : Frag) (nm : Str) (v : Value) : Prop := nsIn K mainGlobals nm = some (some v) ∨ (nsIn K mainGlobals nm = some none ∧ nm ≠ "__name__" ∧ bootBuiltins nm = some v)
noncomputable def Val.own : Val → Option Value
  | .ref a => some (.ref a)
  | .typ n => some (.type n)
  | .blt n => some (.builtin n)
  | _ => Option.none
theorem VRel.own {h : Heap} {v : Val} {c d : Value} (e : v.own = some d) (r : VRel h v c) : c = d := by
  cases v <;> first | (cases e; exact r) | cases e
theorem VRel.of_own {h : Heap} {v : Val} {d : Value} (e : v.own = some d) : VRel h v d := by
  cases v <;> first | (cases e; exact rfl) | cases e
theorem JE_glob {nm : Str} {i : Nat} {c : Value} {v : Val} {pos : Pos} {Q : Val → AH → Prop} (hv : IsVar env nm i .globalImplicit) (hg : GlobIs C.K nm c) (ho : v.own = some c) (h : Q v σ) :
    JE C n q env m σ (.Name nm pos) Q X := fun A h₀ s F S O => by
  refine wpAny_Name ?_ hv.nd
  have W := F.wd.mono S.keep
  have hk : env.kindOf nm = some .globalImplicit := hv.kind F.nd
  have hb : env.blockKind = .function := by unfold Env.blockKind; rw [F.kind]; rfl
  have e : loadName env nm = loadGlobal env nm := by
    unfold loadName
    rw [hb, hk, F.kind]
    rfl
  rw [e]
  unfold loadGlobal
  rw [F.glob]
  have fin : QE C h₀ env m s.heap Q c s := ⟨O, TK.refl _, v, σ, VRel.of_own ho, S, h⟩
  rcases hg with hg | ⟨hg, hn, hb⟩
  · exact wpAny_bind ((looks_nsIn W.inK hg).here (wpAny_pure fin))
  · refine wpAny_bind ((looks_nsIn W.inK hg).here ?_)
    dsimp only
    rw [F.blt]
    refine ea_EA W.bns fun mb nb eb => ?_
    refine wpAny_bind (wpAny_nsGet nb ?_)
    rw [eb nm hn, hb]
    exact wpAny_pure fin
theorem JE_int {i : Int} {k pos} {Q : Val → AH → Prop} (h : Q (.int i) σ) : JE C n q env m σ (.Constant (.int i) k pos) Q X := fun A h₀ s F S O =>
  wpAny_Constant_int ⟨O, TK.refl _, .int i, σ, ⟨_, rfl⟩, S, h⟩
theorem JE_str {i : Str} {k pos} {Q : Val → AH → Prop} (h : Q (.str i) σ) : JE C n q env m σ (.Constant (.str i) k pos) Q X := fun A h₀ s F S O =>
  wpAny_Constant_str ⟨O, TK.refl _, .str i, σ, ⟨_, rfl⟩, S, h⟩
theorem JE_none {k pos} {Q : Val → AH → Prop} (h : Q .none σ) : JE C n q env m σ (.Constant .none k pos) Q X := fun A h₀ s F S O =>
  wpAny_Constant_none ⟨O, TK.refl _, .none, σ, rfl, S, h⟩
theorem JE_bool {b : Bool} {k pos} {Q : Val → AH → Prop} (h : Q (.bool b) σ) : JE C n q env m σ (.Constant (.bool b) k pos) Q X := fun A h₀ s F S O =>
  wpAny_Constant_bool ⟨O, TK.refl _, .bool b, σ, rfl, S, h⟩
theorem JEs_nil {Q : List Val → AH → Prop} (h : Q [] σ) : JEs C n q env m σ [] Q X := fun A h₀ s pos F S O => spliced_nil ⟨O, TK.refl _, [], σ, rfl, S, h⟩
theorem JEs_cons {e : Expr} {es : List Expr} {Q : List Val → AH → Prop} (h : JE C n q env m σ e (fun v σ₁ => JEs C n q env m σ₁ es (fun vs => Q (v :: vs)) X) X)
    (he : ∀ env, starEach (e :: es) env = (false, eval e env) :: starEach es env := by intro _; rfl) : JEs C n q env m σ (e :: es) Q X := fun A h₀ s pos F S O => by
  rw [he]
  refine spliced_cons (wpAny_mono (h A h₀ s F S O) (fun v s₁ r => ?_) fun _ _ x => x)
  refine ea_AAEEAA r fun O₁ k₁ v' σ₁ r₁ S₁ h₁ => ?_; clear r
  refine wpAny_mono (h₁ A h₀ s₁ pos F S₁ O₁) (fun vs s₂ r => ?_) fun _ _ x => x
  refine ea_AAEEAA r fun O₂ k₂ vs' σ₂ r₂ S₂ h₂ => ?_; clear r
  exact ⟨O₂, k₁.trans k₂, v' :: vs', σ₂, ⟨_, _, rfl, r₁.mono k₂, r₂⟩, S₂, h₂⟩
theorem two {A : Around} {h₀ : Heap} {s : Shared} {l r : Expr} {t : Value → Value → Sem Value} {Q : Val → AH → Prop} (F : Fm C.lo C.K A h₀ env n q) (S : St C.lo C.prog C.w h₀ env m σ s.heap) (O : Ok C s)
    (h : JE C n q env m σ l (fun a σ₁ => JE C n q env m σ₁ r (fun b σ₂ => JO C n q env m σ₂ [a, b] (fun cs => t (cs.getD 0 .none) (cs.getD 1 .none)) Q X) X) X) :
    wpAny (model C.prog C.w) A (eval l env) (fun a s₁ => wpAny (model C.prog C.w) A (eval r env) (fun b s₂ => wpAny (model C.prog C.w) A (t a b) (QE C h₀ env m s.heap Q) (XE C h₀ env m X) s₂) (XE C h₀ env m X) s₁) (XE C h₀ env m X) s := by
  refine wpAny_mono (h A h₀ s F S O) (fun a s₁ r => ?_) fun _ _ x => x
  refine ea_AAEEAA r fun O₁ k₁ v₁ σ₁ r₁ S₁ h₁ => ?_; clear r
  refine wpAny_mono (h₁ A h₀ s₁ F S₁ O₁) (fun b s₂ r => ?_) fun _ _ x => x
  refine ea_AAEEAA r fun O₂ k₂ v₂ σ₂ r₂ S₂ h₂ => ?_; clear r
  exact wpAny_mono (h₂ A h₀ s₂ [a, b] F S₂ O₂ ⟨_, _, rfl, r₁.mono k₂, _, _, rfl, r₂, rfl⟩) (fun v s₃ r => QE.up (k₁.trans k₂) r) fun _ _ x => x
theorem JE_bin {l r : Expr} {op : Operator} {pos : Pos} {Q : Val → AH → Prop} (h : JE C n q env m σ l (fun a σ₁ => JE C n q env m σ₁ r (fun b σ₂ => JO C n q env m σ₂ [a, b] (fun cs => binaryOp op (cs.getD 0 .none) (cs.getD 1 .none)) Q X) X) X) :
    JE C n q env m σ (.BinOp l op r pos) Q X := fun A h₀ s F S O => wpAny_BinOp (two F S O h)
theorem JE_cmp {l r : Expr} {op : CmpOp} {pos : Pos} {Q : Val → AH → Prop} (h : JE C n q env m σ l (fun a σ₁ => JE C n q env m σ₁ r (fun b σ₂ => JO C n q env m σ₂ [a, b] (fun cs => compareOp op (cs.getD 0 .none) (cs.getD 1 .none)) Q X) X) X)
    (hm : behindInMarks op r = false := by with_unfolding_all rfl) :
    JE C n q env m σ (.Compare l [op] [r] pos) Q X := fun A h₀ s F S O => wpAny_Compare1 (two F S O h) hm
theorem JB_cmp {l r : Expr} {op : CmpOp} {pos : Pos} {Q : Bool → AH → Prop} (h : JE C n q env m σ l (fun a σ₁ => JE C n q env m σ₁ r (fun b σ₂ => JO C n q env m σ₂ [a, b] (fun cs => compareOp op (cs.getD 0 .none) (cs.getD 1 .none)) (fun v σ₃ => ∃ b, v = .bool b ∧ Q b σ₃) X) X) X)
    (hm : behindInMarks op r = false := by with_unfolding_all rfl) :
    JB C n q env m σ (.Compare l [op] [r] pos) Q X := fun A h₀ s F S O => wpAny_isTrue_Compare1 (by
      refine wpAny_mono (two F S O h) (fun a s₁ z => wpAny_mono z (fun b s₂ z => wpAny_mono z (fun c s₃ z => ?_) fun _ _ x => x) fun _ _ x => x) fun _ _ x => x
      refine ea_AAEEAAEA z fun O₁ k₁ v₁ σ₁ r₁ S₁ b ez2 h₁ => ?_; clear z; subst ez2
      cases r₁
      exact wpAny_truthy_bool ⟨O₁, k₁, σ₁, S₁, h₁⟩) hm
theorem JB_not {x : Expr} {pos : Pos} {Q : Bool → AH → Prop} (h : JB C n q env m σ x (fun b σ₁ => Q (!b) σ₁) X) : JB C n q env m σ (.UnaryOp .Not x pos) Q X := fun A h₀ s F S O =>
  wpAny_isTrue_Not (h A h₀ s F S O)
noncomputable def JBs (C : Cx) (n : Nat) (q : Bool) (env : Env) (m : List (Option Val)) (op : BoolOp) (es : List Expr) (σ : AH) (Q : Bool → AH → Prop) (X : Addr → AH → Prop) : Prop :=
  ∀ A h₀ s, Fm C.lo C.K A h₀ env n q → St C.lo C.prog C.w h₀ env m σ s.heap → Ok C s → wpAny (model C.prog C.w) A (allTrue op es env) (QB C h₀ env m s.heap Q) (XE C h₀ env m X) s
theorem JB_bool {op : BoolOp} {es : List Expr} {pos : Pos} {Q : Bool → AH → Prop} (h : JBs C n q env m op es σ Q X) : JB C n q env m σ (.BoolOp op es pos) Q X := fun A h₀ s F S O => wpAny_isTrue_BoolOp (h A h₀ s F S O)
theorem JBs_and_nil {Q : Bool → AH → Prop} (h : Q true σ) : JBs C n q env m .And [] σ Q X := fun A h₀ s F S O => wpAny_allTrue_And_nil ⟨O, TK.refl _, σ, S, h⟩
theorem JBs_or_nil {Q : Bool → AH → Prop} (h : Q false σ) : JBs C n q env m .Or [] σ Q X := fun A h₀ s F S O => by
  show wpAny _ _ (pure _) _ _ _
  exact wpAny_pure ⟨O, TK.refl _, σ, S, h⟩
theorem JBs_and {x : Expr} {es : List Expr} {Q : Bool → AH → Prop} (h : JB C n q env m σ x (fun b σ₁ => if b then JBs C n q env m .And es σ₁ Q X else Q false σ₁) X) : JBs C n q env m .And (x :: es) σ Q X := fun A h₀ s F S O => by
  refine wpAny_allTrue_And_cons (wpAny_mono (h A h₀ s F S O) (fun b s₁ z => ?_) fun _ _ x => x)
  refine ea_AAEA z fun O₁ k₁ σ₁ S₁ h₁ => ?_; clear z
  cases b with
  | true => exact wpAny_mono (h₁ A h₀ s₁ F S₁ O₁) (fun _ _ z => z.up k₁) fun _ _ x => x
  | false => exact ⟨O₁, k₁, σ₁, S₁, h₁⟩
theorem JBs_or {x : Expr} {es : List Expr} {Q : Bool → AH → Prop} (h : JB C n q env m σ x (fun b σ₁ => if b then Q true σ₁ else JBs C n q env m .Or es σ₁ Q X) X) : JBs C n q env m .Or (x :: es) σ Q X := fun A h₀ s F S O => by
  refine wpAny_allTrue_Or_cons (wpAny_mono (h A h₀ s F S O) (fun b s₁ z => ?_) fun _ _ x => x)
  refine ea_AAEA z fun O₁ k₁ σ₁ S₁ h₁ => ?_; clear z
  cases b with
  | false => exact wpAny_mono (h₁ A h₀ s₁ F S₁ O₁) (fun _ _ z => z.up k₁) fun _ _ x => x
  | true => exact ⟨O₁, k₁, σ₁, S₁, h₁⟩
theorem JB_val {e : Expr} {Q : Bool → AH → Prop} (h : JE C n q env m σ e (fun v σ₁ => ∃ b, v = .bool b ∧ Q b σ₁) X)
    (he : ∀ env whole, isTrue e env whole = (do let v ← whole; standAt e.pos; holding [v] (truthy v)) := by intro _ _; rfl) : JB C n q env m σ e Q X := fun A h₀ s F S O => by
  refine wpAny_isTrue_value (wpAny_mono (h A h₀ s F S O) (fun v s₁ z => ?_) fun _ _ x => x) (he _ _)
  refine ea_AAEEAAEA z fun O₁ k₁ v₁ σ₁ r₁ S₁ b ez3 h₁ => ?_; clear z; subst ez3
  cases r₁
  exact wpAny_truthy_bool ⟨O₁, k₁, σ₁, S₁, h₁⟩
theorem JE_if {t b o : Expr} {pos : Pos} {Q : Val → AH → Prop} (h : JB C n q env m σ t (fun c σ₁ => if c then JE C n q env m σ₁ b Q X else JE C n q env m σ₁ o Q X) X) : JE C n q env m σ (.IfExp t b o pos) Q X := fun A h₀ s F S O => by
  refine wpAny_IfExp (wpAny_mono (h A h₀ s F S O) (fun b s₁ z => ?_) fun _ _ x => x)
  refine ea_AAEA z fun O₁ k₁ σ₁ S₁ h₁ => ?_; clear z
  cases b with
  | true => exact wpAny_mono (h₁ A h₀ s₁ F S₁ O₁) (fun _ _ z => z.up k₁) fun _ _ x => x
  | false => exact wpAny_mono (h₁ A h₀ s₁ F S₁ O₁) (fun _ _ z => z.up k₁) fun _ _ x => x
theorem JO_pure {vs : List Val} {t : List Value → Sem Value} {v : Val} {Q : Val → AH → Prop}
    (ht : ∀ A h₀ (s : Shared) cs (P E : Value → Shared → Prop), Fm C.lo C.K A h₀ env n q → VRels s.heap vs cs → (∀ c tk, VRel s.heap v c → P c { s with toks := tk }) → wpAny (model C.prog C.w) A (t cs) P E s) (h : Q v σ) : JO C n q env m σ vs t Q X :=
  fun A h₀ s cs F S O r => ht A h₀ s cs _ _ F r fun c tk rc => ⟨O, TK.refl _, v, σ, rc, S, h⟩
theorem vr2 {h : Heap} {a b : Val} {cs : List Value} (r : VRels h [a, b] cs) : ∃ x y, cs = [x, y] ∧ VRel h a x ∧ VRel h b y := by
  refine ea_EEAAEEAA r fun x _ ez4 rx y _ ez5 ry ez6 => ?_; clear r; subst ez4; subst ez5; subst ez6
  exact ⟨x, y, rfl, rx, ry⟩
theorem vr1 {h : Heap} {a : Val} {cs : List Value} (r : VRels h [a] cs) : ∃ x, cs = [x] ∧ VRel h a x := by
  refine ea_EEAA r fun x _ ez7 rx ez8 => ?_; clear r; subst ez7; subst ez8
  exact ⟨x, rfl, rx⟩
noncomputable abbrev opT (op : Operator) : List Value → Sem Value := fun cs => binaryOp op (cs.getD 0 .none) (cs.getD 1 .none)
noncomputable abbrev cmpT (op : CmpOp) : List Value → Sem Value := fun cs => compareOp op (cs.getD 0 .none) (cs.getD 1 .none)
section
variable {a b : Int} {x y : Str} {Q : Val → AH → Prop}
theorem O_add (h : Q (.int (a + b)) σ) : JO C n q env m σ [.int a, .int b] (opT .Add) Q X := JO_pure (fun A h₀ s cs P E F r k => by
  refine ea_EEAA (vr2 r) fun _ _ ez9 pz10 pz11 => ?_; subst ez9
  obtain ⟨t, rfl⟩ := pz10
  obtain ⟨u, rfl⟩ := pz11
  exact PyProof.Rows.add_int (k _ _ ⟨_, rfl⟩)) h
theorem O_sub (h : Q (.int (a - b)) σ) : JO C n q env m σ [.int a, .int b] (opT .Sub) Q X := JO_pure (fun A h₀ s cs P E F r k => by
  refine ea_EEAA (vr2 r) fun _ _ ez12 pz13 pz14 => ?_; subst ez12
  obtain ⟨t, rfl⟩ := pz13
  obtain ⟨u, rfl⟩ := pz14
  exact PyProof.Rows.sub_int (k _ _ ⟨_, rfl⟩)) h
theorem O_mod (hb : b ≠ 0) (h : Q (.int (a.fmod b)) σ) : JO C n q env m σ [.int a, .int b] (opT .Mod) Q X := JO_pure (fun A h₀ s cs P E F r k => by
  refine ea_EEAA (vr2 r) fun _ _ ez15 pz16 pz17 => ?_; subst ez15
  obtain ⟨t, rfl⟩ := pz16
  obtain ⟨u, rfl⟩ := pz17
  exact IsLeap.wpAny_mod_int hb (k _ _ ⟨_, rfl⟩)) h
theorem O_eq (h : Q (.bool (a == b)) σ) : JO C n q env m σ [.int a, .int b] (cmpT .Eq) Q X := JO_pure (fun A h₀ s cs P E F r k => by
  refine ea_EEAA (vr2 r) fun _ _ ez18 pz19 pz20 => ?_; subst ez18
  obtain ⟨t, rfl⟩ := pz19
  obtain ⟨u, rfl⟩ := pz20
  exact PyProof.Rows.eq_int (k _ s.toks rfl)) h
theorem O_ne (h : Q (.bool (a != b)) σ) : JO C n q env m σ [.int a, .int b] (cmpT .NotEq) Q X := JO_pure (fun A h₀ s cs P E F r k => by
  refine ea_EEAA (vr2 r) fun _ _ ez21 pz22 pz23 => ?_; subst ez21
  obtain ⟨t, rfl⟩ := pz22
  obtain ⟨u, rfl⟩ := pz23
  exact PyProof.Rows.ne_int (k _ s.toks rfl)) h
theorem O_seq (h : Q (.bool (x == y)) σ) : JO C n q env m σ [.str x, .str y] (cmpT .Eq) Q X := JO_pure (fun A h₀ s cs P E F r k => by
  refine ea_EEAA (vr2 r) fun _ _ ez24 pz25 pz26 => ?_; subst ez24
  obtain ⟨t, rfl⟩ := pz25
  obtain ⟨u, rfl⟩ := pz26
  exact PyProof.Rows.eq_str (k _ s.toks rfl)) h
theorem O_sne (h : Q (.bool (x != y)) σ) : JO C n q env m σ [.str x, .str y] (cmpT .NotEq) Q X := JO_pure (fun A h₀ s cs P E F r k => by
  refine ea_EEAA (vr2 r) fun _ _ ez27 pz28 pz29 => ?_; subst ez27
  obtain ⟨t, rfl⟩ := pz28
  obtain ⟨u, rfl⟩ := pz29
  exact PyProof.Rows.ne_str (k _ s.toks rfl)) h
end
end
section
variable {C : Cx} {n : Nat} {q : Bool} {env : Env} {m : List (Option Val)} {σ : AH} {X : Addr → AH → Prop}
theorem ARel.get {h : Heap} {name : Str} : ∀ {fs : List (Str × Val)} {es : List DictEntry} {v : Val}, ARel h fs es → fs.lookup name = some v → ∃ cv, getL name es = some (some cv) ∧ VRel h v cv
  | [], _, _, _, e => by cases e
  | (a, b) :: fs, _, v, ⟨e, es, rfl, ⟨t, hk⟩, r, rest⟩, hl => by
    rw [List.lookup_cons] at hl
    unfold getL
    cases hb : name == a with
    | true =>
      rw [hb] at hl; cases hl
      have hs : e.key.isStr name = true := by rw [hk]; show (a == name) = true; rw [eq_of_beq hb]; simp
      rw [List.find?_cons, hs]
      exact ⟨_, rfl, r⟩
    | false =>
      rw [hb] at hl
      have hs : e.key.isStr name = false := by
        rw [hk]; show (a == name) = false
        exact beq_eq_false_iff_ne.mpr fun z => by rw [z] at hb; simp at hb
      have ha : e.refKey = false := by unfold DictEntry.refKey; rw [hk]
      refine ea_EA (rest.get hl) fun cv g rr => ?_
      unfold getL at g
      rw [List.find?_cons, hs, List.any_cons, ha, Bool.false_or]
      exact ⟨cv, g, rr⟩
theorem ARel.isS {h : Heap} {name : Str} : ∀ {fs : List (Str × Val)} {es : List DictEntry}, ARel h fs es → (getL name es).isSome = true
  | [], _, e => by cases e; rfl
  | (a, b) :: fs, _, ⟨e, es, rfl, ⟨t, hk⟩, r, rest⟩ => by
    have ha : e.refKey = false := by unfold DictEntry.refKey; rw [hk]
    have ih := rest.isS (name := name)
    unfold getL at ih ⊢
    rw [List.find?_cons]
    cases hs : e.key.isStr name with
    | true => rfl
    | false => rw [List.any_cons, ha, Bool.false_or]; exact ih
theorem ARel.get_none {h : Heap} {name : Str} : ∀ {fs : List (Str × Val)} {es : List DictEntry}, ARel h fs es → fs.lookup name = none → getL name es = some none
  | [], _, e, _ => by cases e; rfl
  | (a, b) :: fs, _, ⟨e, es, rfl, ⟨t, hk⟩, r, rest⟩, hl => by
    rw [List.lookup_cons] at hl
    cases hb : name == a with
    | true => rw [hb] at hl; cases hl
    | false =>
      rw [hb] at hl
      have hs : e.key.isStr name = false := by
        rw [hk]; show (a == name) = false
        exact beq_eq_false_iff_ne.mpr fun z => by rw [z] at hb; simp at hb
      have ha : e.refKey = false := by unfold DictEntry.refKey; rw [hk]
      have ih := rest.get_none hl
      unfold getL at ih ⊢
      rw [List.find?_cons, hs, List.any_cons, ha, Bool.false_or]
      exact ih
noncomputable def putA : List (Str × Val) → Str → Val → List (Str × Val)
  | [], name, v => [(name, v)]
  | f :: fs, name, v => if f.1 = name then (f.1, v) :: fs else f :: putA fs name v
theorem ARel.put {h : Heap} {name : Str} {v : Val} {cv : Value} {hs : Int} {t : Tok} (rv : VRel h v cv) : ∀ {fs : List (Str × Val)} {es : List DictEntry}, ARel h fs es → ARel h (putA fs name v) (putL name hs (.str name t) cv es)
  | [], _, e => by cases e; exact ⟨_, [], rfl, ⟨t, rfl⟩, rv, rfl⟩
  | (a, b) :: fs, _, ⟨e, es, rfl, ⟨u, hk⟩, r, rest⟩ => by
    unfold putA putL
    by_cases ha : a = name
    · have hs : e.key.isStr name = true := by rw [hk]; show (a == name) = true; rw [ha]; simp
      rw [if_pos hs, if_pos ha]
      exact ⟨_, es, rfl, ⟨u, hk⟩, rv, rest⟩
    · have hs : ¬ e.key.isStr name = true := by rw [hk]; show ¬ (a == name) = true; simpa using ha
      rw [if_neg hs, if_neg ha]
      exact ⟨_, _, rfl, ⟨u, hk⟩, r, rest.put rv⟩
theorem ARel.length {h : Heap} : ∀ {fs : List (Str × Val)} {es : List DictEntry}, ARel h fs es → fs.length = es.length
  | [], _, e => by cases e; rfl
  | _ :: _, _, ⟨e, es, rfl, _, _, rest⟩ => by simp [rest.length]
theorem putA_length (name : Str) (v : Val) : ∀ fs : List (Str × Val), (putA fs name v).length ≤ fs.length + 1
  | [] => Nat.le_refl _
  | f :: fs => by
    unfold putA
    split
    · simp
    · simpa using putA_length name v fs
structure ClsOk (K : Frag) (c : Addr) : Prop where
  ga : findIn K (.ref c) "__getattribute__" = some (some (.builtin "object.__getattribute__"))
  gn : findIn K (.ref c) "__getattr__" = some none
  sa : findIn K (.ref c) "__setattr__" = some (some (.builtin "object.__setattr__"))
  hd : hasDictIn K c = true
noncomputable def NoAttr (K : Frag) (c : Addr) (name : Str) : Prop := findIn K (.ref c) name = some none
noncomputable def Val.handed : Val → Bool
  | .blt _ => false
  | .typ _ => false
  | _ => true
theorem handed_of {h : Heap} {v : Val} {c : Value} (e : v.handed = true) (r : VRel h v c) : handedIn c = true := by
  cases v <;> first | (cases r; rfl) | (obtain ⟨_, rfl⟩ := r; rfl) | (obtain ⟨_, _, rfl, _⟩ := r; rfl) | cases e
noncomputable def InstIs (σ : AH) (x c dx : Addr) : Prop := σ x = some (.inst c dx) ∨ σ x = some (.exc c dx) ∨ σ x = some (.excN c (some dx))
theorem InstIs.obj {h₀ h : Heap} {x c dx : Addr} (S : St C.lo C.prog C.w h₀ env m σ h) (I : InstIs σ x c dx) : ∃ ox, h.get? x = some ox ∧ ox.cls = .ref c ∧ notCls ox = true ∧ ox.dict = some dx := by
  rcases I with I | I | I
  · obtain ⟨⟨co, g, r⟩, _⟩ := S.obj x _ I
    cases r
    exact ⟨_, g, rfl, rfl, rfl⟩
  · obtain ⟨⟨co, g, r⟩, _⟩ := S.obj x _ I
    refine ea_EE r fun vs sl ez1 => ?_; clear r; subst ez1
    exact ⟨_, g, rfl, rfl, rfl⟩
  · obtain ⟨⟨co, g, r⟩, _⟩ := S.obj x _ I
    obtain ⟨t, rfl⟩ := r
    exact ⟨_, g, rfl, rfl, rfl⟩
theorem InstIs.at_ {h₀ h : Heap} {x c dx : Addr} {fs : List (Str × Val)} (S : St C.lo C.prog C.w h₀ env m σ h) (I : InstIs σ x c dx) (hd : σ dx = some (.attrs fs)) :
    ∃ ox es k, InstAt h x ox c (some (dictOf es k)) ∧ ox.dict = some dx ∧ h.get? dx = some (dictOf es k) ∧ ARel h fs es := by
  refine ea_EAAA (I.obj S) fun ox g a b d => ?_
  obtain ⟨⟨co, gd, r⟩, _⟩ := S.obj dx _ hd
  refine ea_EEA r fun es k ez2 rz => ?_; clear r; rename _ => r; subst ez2
  refine ⟨ox, es, k, ⟨g, a, b, ?_⟩, d, gd, r⟩
  rw [d]; exact gd
theorem get_attr {A : Around} {h₀ : Heap} {s : Shared} {x c dx : Addr} {fs : List (Str × Val)} {name : Str} {v : Val} {ex : Bool} (F : Fm C.lo C.K A h₀ env n q) (S : St C.lo C.prog C.w h₀ env m σ s.heap) (I : InstIs σ x c dx) (hd : σ dx = some (.attrs fs))
    (hl : fs.lookup name = some v) (hc : ClsOk C.K c) (hn : NoAttr C.K c name) (hv : v.handed = true) {Q E : Value → Shared → Prop} (h : ∀ cv tk, VRel s.heap v cv → Q cv { s with toks := tk }) :
    wpAny (model C.prog C.w) A (getAttr (.ref x) name ex) Q E s := by
  refine ea_EEEAAA (I.at_ S hd) fun ox es k I' _ _ r => ?_
  refine ea_EA (r.get hl) fun cv g rv => ?_
  exact get_value (F.wd.mono S.keep).inK I' hc.ga (findObj_own hc.hd hn rfl g) (handed_of hv rv) (h cv _ rv)
theorem JE_attr {o : Expr} {name : Str} {pos : Pos} {Q : Val → AH → Prop}
    (h : JE C n q env m σ o (fun ov σ₁ => ∃ x c dx fs v, ov = .ref x ∧ InstIs σ₁ x c dx ∧ σ₁ dx = some (.attrs fs) ∧ fs.lookup name = some v ∧ ClsOk C.K c ∧ NoAttr C.K c name ∧ v.handed = true ∧ Q v σ₁) X)
    (he : ∀ env, eval (.Attribute o name pos) env = (do
      let ov ← eval o env
      standAt pos.atName
      let r ← holding [ov] (getAttr ov name true)
      letTemporaryGo o ov r
      pure r) := by intro _; with_unfolding_all rfl) : JE C n q env m σ (.Attribute o name pos) Q X := fun A h₀ s F S O => by
  refine Attribute_any_ (wpAny_mono (h A h₀ s F S O) (fun ov s₁ z => ?_) fun _ _ x => x) (he env)
  refine ea_AAEEAAEEEEEAAAAAAA z fun O₁ k₁ v₁ σ₁ r₁ S₁ x c dx fs v ez3 I hd hl hc hn hv hQ => ?_; clear z; subst ez3
  cases r₁
  exact get_attr F S₁ I hd hl hc hn hv fun cv tk rv => ⟨O₁, k₁, v, σ₁, rv, S₁, hQ⟩
theorem set_attr {A : Around} {h₀ : Heap} {s : Shared} {x c dx : Addr} {fs : List (Str × Val)} {name : Str} {v : Val} {cv : Value} (F : Fm C.lo C.K A h₀ env n q) (S : St C.lo C.prog C.w h₀ env m σ s.heap) (I : InstIs σ x c dx) (hd : σ dx = some (.attrs fs))
    (hc : ClsOk C.K c) (hp : plainOver C.K c = true) (hn : NoAttr C.K c name) (hz : fs.length ≤ 100) (rv : VRel s.heap v cv) {Q : Unit → Shared → Prop} {E : Value → Shared → Prop}
    (h : ∀ h' tk, St C.lo C.prog C.w h₀ env m (σ.set dx (.attrs (putA fs name v))) h' → TK s.heap h' → Q () { s with heap := h', toks := tk }) :
    wpAny (model C.prog C.w) A (setAttr (.ref x) name cv) Q E s := by
  refine ea_EEEAAA (I.at_ S hd) fun ox es k I' od gd r => ?_
  have XK := (F.wd.mono S.keep).inK
  have ht : takerIn C.K c name = some none := by unfold takerIn; rw [hn]; rfl
  refine set_plain XK I' hc.sa (osa_open (s := { s with toks := s.toks + 1 }) XK I' hp ht fun b => ?_)
  refine ea_EA (any_some hc.hd) fun cd hcd hd' => ?_
  have hs : Heap.SameBut dx s.heap (s.heap.update dx (Obj.putName name (PyData.keyHash C.w.params name) (.str name (s.toks + 1)) cv)) := Heap.SameBut.update ..
  have e := putName_dict name (PyData.keyHash C.w.params name) (.str name (s.toks + 1)) cv es k
  have gd' : (s.heap.update dx (Obj.putName name (PyData.keyHash C.w.params name) (.str name (s.toks + 1)) cv)).get? dx = some (dictOf (putL name (PyData.keyHash C.w.params name) (.str name (s.toks + 1)) cv es) (putN name es k)) := by
    rw [← e]; exact Heap.get?_update_self _ gd (by rw [e]; rfl)
  have ra := r.put (name := name) (hs := PyData.keyHash C.w.params name) (t := s.toks + 1) rv
  have hlen : (putL name (PyData.keyHash C.w.params name) (.str name (s.toks + 1)) cv es).length ≤ 101 := by
    rw [← ra.length]; have := putA_length name v fs; omega
  have S' := S.upd (o := .attrs (putA fs name v)) hd hs ⟨_, gd', ⟨_, _, rfl, ra⟩⟩
  have fin := h _ (s.toks + 1 + 1) S' (TK.but gd (by simp) hs)
  have hx := I'.at_
  obtain ⟨oc, odi, oda, osl⟩ := ox
  have hcl := I'.cls
  dsimp only at hcl od
  subst hcl od
  refine wpAny_bind (wpAny_pure (wpAny_bind (wpAny_bind (wpAny_loadPart hx (wpAny_bind (Looks.here (s := { s with toks := s.toks + 1 }) (looks_clsIn XK hcd) ?_))))))
  rw [hd']
  refine wpAny_pure (a := some dx) (wpAny_bind (wpAny_pure (wpAny_bind ?_)))
  unfold nsSet
  refine wpAny_bind (wpAny_bind (wpAny_askSetting (wpAny_pure (wpAny_bind (wpAny_mkText (wpAny_bind (wpAny_loadPart gd ?_)))))))
  dsimp only
  have hg := r.isS (name := name)
  have cc : (!es.toArray.any (·.key.isStr name) && es.toArray.any (·.refKey)) = false := by
    rw [← Array.any_toList, ← Array.any_toList]
    unfold getL at hg
    split at hg
    · rename_i en he
      rw [List.any_eq_true.mpr ⟨en, List.mem_of_find?_eq_some he, List.find?_some he⟩]; rfl
    · split at hg
      · cases hg
      · rename_i z; rw [Bool.not_eq_true] at z; rw [z, Bool.and_false]
  rw [aRefKeyMayBeTheName_at, cc]
  refine wpAny_updatePart gd ?_
  refine wpAny_bind (wpAny_lookBehind gd' (pastItsLine_dict (by rw [List.size_toArray, sizeLine_eq]; omega)) ?_)
  exact wpAny_pure fin
end
section
variable {lo : Nat}
variable {C : Cx} {n : Nat} {q : Bool} {env : Env} {m : List (Option Val)} {σ : AH} {X : Addr → AH → Prop}
noncomputable def FrOk (lo : Nat) (h : Heap) (l : List Env) : Prop := ∀ e ∈ l, e.scope.kind ≠ .module ∧ ∃ L o es ep, e.frame = some L ∧ h.get? L = some o ∧ o.cls = .type "frame" ∧ o.data = .dict es ep ∧ lo ≤ L
theorem FrOk.fun {h : Heap} : ∀ {l : List Env}, FrOk lo h l → h.FunFrames {} l
  | [], _ => trivial
  | e :: l, x => by
    refine ea_AEEEEAAAA (x e (.head _)) fun hk L o es ep hf ho _ hd _ => ?_
    exact ⟨hk, ⟨L, o, hf, rfl, ho, fun vs q => by rw [hd] at q; cases q⟩, FrOk.fun fun e' he => x e' (.tail _ he)⟩
theorem FrOk.mem {h : Heap} {l : List Env} (x : FrOk lo h l) {b : Addr} (hb : b ∈ l.filterMap (·.frame)) : ∃ o es ep, h.get? b = some o ∧ o.cls = .type "frame" ∧ o.data = .dict es ep ∧ lo ≤ b := by
  refine ea_EA (List.mem_filterMap.mp hb) fun e he hf => ?_
  refine ea_AEEEEA (x e he) fun _ L o es ep hf' r => ?_
  rw [hf'] at hf; cases hf
  exact ⟨o, es, ep, r⟩
structure Noted (lo : Nat) (h h' : Heap) (e c dx : Addr) (vs : Array Value) (sl : Array (Option Value)) (fl : Value) : Prop where
  keep : ∀ b o, h.get? b = some o → b ≠ e → vs[1]? ≠ some (.ref b) → ∃ sl, h'.get? b = some { o with slots := sl } ∧ (o.cls ≠ .type "frame" ∨ b < lo → sl = o.slots)
  exc : ∃ vs' T oT ts, h'.get? e = some ⟨.ref c, some dx, .fields vs', sl⟩ ∧ vs'[1]? = some (.ref T) ∧ h'.get? T = some oT ∧ oT.cls = .type "traceback" ∧ oT.data = .fields ts ∧ ts[3]? = some fl ∧ (h.get? T = none ∨ vs[1]? = some (.ref T))
section
variable {M : Model} {A : Around} {E : Value → Shared → Prop} {s : Shared} {l : List Env} {L e c dx : Addr} {vs : Array Value} {sl : Array (Option Value)} {Q : Unit → Shared → Prop}
theorem entry_exc {head : Value} {hadNext : Bool} (hfr : A.frames = some (env :: l)) (hf : env.frame = some L) (hl : FrOk lo s.heap (env :: l)) (he : s.heap.get? e = some ⟨.ref c, some dx, .fields vs, sl⟩) (hsz : 1 < vs.size)
    (hQ : ∀ h', (∀ b o, s.heap.get? b = some o → b ≠ e → ∃ sl, h'.get? b = some { o with slots := sl } ∧ (o.cls ≠ .type "frame" ∨ b < lo → sl = o.slots)) →
      (∃ vs' T oT ts, h'.get? e = some ⟨.ref c, some dx, .fields vs', sl⟩ ∧ vs'[1]? = some (.ref T) ∧ h'.get? T = some oT ∧ oT.cls = .type "traceback" ∧ oT.data = .fields ts ∧ ts[3]? = some (rawInt L) ∧ s.heap.get? T = none) → Q () { s with heap := h' }) :
    wpAny M A (do let a ← frameOf env; let pl ← entryPlaceOf L hadNext; let b ← EntryCells.newEntry head a .none (rawInt L) .none pl; setField (.ref e) 1 b) Q E s := by
  have hene : e ∉ (env :: l).filterMap (·.frame) := fun hm => by
    refine ea_EEEAAA (hl.mem hm) fun o es ep ho _ hd _ => ?_
    rw [he] at ho; cases ho; cases hd
  refine wpAny_bind (wpAny_frameOf_fun hfr hl.fun hf fun h₁ hs₁ => ?_)
  refine wpAny_bind (wpAny_entryPlaceOf fun pl hpl => ?_)
  unfold EntryCells.newEntry newFields
  refine wpAny_bind (wpAny_newObj_type ?_ (hpl.sizeOk5 _ _ _ _ _))
  have he₁ : h₁.get? e = some ⟨.ref c, some dx, .fields vs, sl⟩ := (hs₁.2.1 e hene).trans he
  generalize hto : ({ cls := .type "traceback", dict := none, data := .fields ([head, .ref L, .none, rawInt L, .none] ++ (if pl.isEmpty then List.replicate 6 Value.none else pl)).toArray } : Obj) = to
  have he₂ := Heap.get?_push_of_some (h := h₁) to he₁
  refine wpAny_setField he₂ rfl hsz (hQ _ (fun b o hb hbe => ?_) ?_)
  · obtain ⟨sl', hb'⟩ := hs₁.2.2 b o hb
    refine ⟨sl', ?_, fun hc => ?_⟩
    · rw [Heap.get?_update_other _ _ (Ne.symm hbe)]
      exact Heap.get?_push_of_some _ hb'
    · have hn : b ∉ (env :: l).filterMap (·.frame) := fun hm => by
        refine ea_EEEAAA (hl.mem hm) fun o' es ep ho hcl _ hlo => ?_
        rw [hb] at ho; cases ho
        rcases hc with hc | hc
        · exact hc hcl
        · exact absurd hlo (Nat.not_le.mpr hc)
      have := (hs₁.2.1 b hn).trans hb
      rw [hb'] at this; exact congrArg Obj.slots (Option.some.inj this)
  · have hTe : h₁.objs.size ≠ e := Nat.ne_of_gt (Heap.lt_size he₁)
    refine ⟨_, h₁.objs.size, to, _, Heap.get?_update_self (Obj.mapFields (·.setIfInBounds 1 (Value.ref h₁.objs.size))) he₂ rfl, by simp [hsz], ?_, by rw [← hto], by rw [← hto], ?_, ?_⟩
    · rw [Heap.get?_update_other _ _ (Ne.symm hTe)]
      exact Heap.get?_push_size _ (by rw [← hto]; rfl)
    · rcases hpl with rfl | ⟨_, _, _, _, _, _, _, rfl⟩ <;> simp
    · cases q : s.heap.get? h₁.objs.size with
      | none => rfl
      | some o => have := Heap.lt_size q; rw [← hs₁.1] at this; exact absurd this (Nat.lt_irrefl _)
theorem note_exc (hfr : A.frames = some (env :: l)) (hf : env.frame = some L) (hl : FrOk lo s.heap (env :: l)) (he : s.heap.get? e = some ⟨.ref c, some dx, .fields vs, sl⟩)
    (hv : vs[1]? = some .none ∨ ∃ T oT ts fl, vs[1]? = some (.ref T) ∧ s.heap.get? T = some oT ∧ oT.cls = .type "traceback" ∧ oT.data = .fields ts ∧ ts[3]? = some fl ∧ (fl = .none ∨ fl = rawInt L))
    (hQ : ∀ h', Noted lo s.heap h' e c dx vs sl (rawInt L) → Q () { s with heap := h' }) : wpAny M A (noteFrame (.ref e) env) Q E s := by
  unfold noteFrame
  simp only [hf]
  rcases hv with h1 | ⟨T, oT, ts, fl, h1, hT, hcT, hdT, h3, hfl⟩
  · refine wpAny_bind (wpAny_field he rfl h1 ?_)
    rw [if_neg (by decide)]
    refine entry_exc hfr hf hl he (Array.getElem?_eq_some_iff.mp h1).1 fun h' k x => hQ h' ⟨fun b o hb hbe _ => k b o hb hbe, ?_⟩
    refine ea_EEEEAAAAAA x fun vs' T oT ts a1 a2 a3 a4 a5 a6 a7 => ?_; clear x
    exact ⟨vs', T, oT, ts, a1, a2, a3, a4, a5, a6, .inl a7⟩
  · refine wpAny_bind (wpAny_field he rfl h1 ?_)
    rw [if_pos (show (Value.ref T != Value.none) = true from by simp)]
    refine wpAny_bind (wpAny_field hT hdT h3 ?_)
    have hTe : T ≠ e := fun z => by subst z; rw [he] at hT; cases hT; cases hcT
    rcases hfl with rfl | rfl
    · rw [if_neg (show ¬ ((Value.none == rawInt L) = true) from by simp [rawInt])]
      have hd' := Obj.data_mapFields hdT (·.setIfInBounds 3 Value.none)
      refine wpAny_bind (wpAny_setField hT hdT (Array.getElem?_eq_some_iff.mp h3).1 ?_)
      have other : ∀ b, b ≠ T → (s.heap.update T (Obj.mapFields (·.setIfInBounds 3 Value.none))).get? b = s.heap.get? b := fun b hb => Heap.get?_update_other _ _ (Ne.symm hb)
      refine entry_exc (s := { s with heap := s.heap.update T (Obj.mapFields (·.setIfInBounds 3 Value.none)) }) hfr hf (fun e' he' => ?_) ((other e (Ne.symm hTe)).trans he) (Array.getElem?_eq_some_iff.mp h1).1 fun h' k x => hQ h' ⟨fun b o hb hbe hbT => k b o ((other b fun z => hbT (by rw [z]; exact h1)).trans hb) hbe, ?_⟩
      · refine ea_AEEEEAAAA (hl e' he') fun hk L' o' es ep a b c' d lw => ?_
        refine ⟨hk, L', o', es, ep, a, (other _ fun z => ?_).trans b, c', d, lw⟩
        subst z; rw [hT] at b; cases b; rw [hcT] at c'; simp at c'
      · refine ea_EEEEAAAAAA x fun vs' T' oT' ts' a1 a2 a3 a4 a5 a6 a7 => ?_; clear x
        refine ⟨vs', T', oT', ts', a1, a2, a3, a4, a5, a6, .inl ?_⟩
        by_cases z : T' = T
        · subst z
          rw [Heap.get?_update_self _ hT (Obj.isFreed_of_fields hd')] at a7; cases a7
        · rw [← other T' z]; exact a7
    · rw [if_pos (by simp)]
      exact wpAny_pure (hQ _ ⟨fun b o hb _ _ => ⟨o.slots, hb, fun _ => rfl⟩, vs, T, oT, ts, he, h1, hT, hcT, hdT, h3, .inr h1⟩)
theorem flight_exc {T : Addr} {oT : Obj} {ts : Array Value} {fr : Option Addr} (he : s.heap.get? e = some ⟨.ref c, some dx, .fields vs, sl⟩) (h1 : vs[1]? = some (.ref T)) (hT : s.heap.get? T = some oT) (hcT : oT.cls = .type "traceback") (hdT : oT.data = .fields ts) (h3 : 3 < ts.size)
    (hQ : ∀ h', Noted lo s.heap h' e c dx vs sl (fr.elim .none fun f => rawInt f) → Q () { s with heap := h' }) : wpAny M A (setFlight (.ref e) fr) Q E s := by
  unfold setFlight
  refine wpAny_bind (wpAny_field he rfl h1 ?_)
  rw [if_pos (show (Value.ref T != Value.none) = true from by simp)]
  have hTe : T ≠ e := fun z => by subst z; rw [he] at hT; cases hT; cases hcT
  refine wpAny_setField hT hdT h3 (hQ _ ⟨fun b o hb hbe hbT => ⟨o.slots, ?_, fun _ => rfl⟩, vs, T, _, _, ?_, h1, Heap.get?_update_self _ hT (Obj.isFreed_of_fields (Obj.data_mapFields hdT _)), (Obj.cls_mapFields ..).trans hcT, Obj.data_mapFields hdT _, by simp [h3], .inr h1⟩)
  · rw [Heap.get?_update_other _ _ (fun z => hbT (by rw [z] at h1; exact h1))]; exact hb
  · rw [Heap.get?_update_other _ _ hTe]; exact he
end
theorem Noted.tk {h h' : Heap} {e c dx : Addr} {vs : Array Value} {sl : Array (Option Value)} {fl : Value} (N : Noted C.lo h h' e c dx vs sl fl) (he : h.get? e = some ⟨.ref c, some dx, .fields vs, sl⟩)
    (hT : ∀ T, vs[1]? = some (.ref T) → ∃ oT ts, h.get? T = some oT ∧ oT.cls = .type "traceback" ∧ oT.data = .fields ts) : TK h h' := fun a xs g => by
  obtain ⟨sl', g', k⟩ := N.keep a _ g (fun z => by subst z; rw [he] at g; cases g) (fun z => by obtain ⟨oT, ts, a, b, _⟩ := hT _ z; rw [a] at g; cases g; simp at b)
  rw [k (.inl (by simp))] at g'; exact g'
theorem Noted.sk {h₀ h h' : Heap} {e c dx : Addr} {vs : Array Value} {sl : Array (Option Value)} {fl : Value} (N : Noted C.lo h h' e c dx vs sl fl) (k : SK C.lo h₀ h) (h1 : h₀.get? e = none)
    (hT : ∀ T, vs[1]? = some (.ref T) → h₀.get? T = none) : SK C.lo h₀ h' := fun b o g => by
  refine ea_EA (k b o g) fun s1 g1 k1 => ?_
  obtain ⟨s2, g2, k2⟩ := N.keep b _ g1 (fun z => by subst z; rw [h1] at g; cases g) (fun z => by rw [hT _ z] at g; cases g)
  exact ⟨s2, g2, fun z => (k2 z).trans (k1 z)⟩
theorem FlyT.noted {h₀ h h' : Heap} {fr : Option Addr} {e c dx : Addr} {vs : Array Value} {sl : Array (Option Value)} {fl : Value} (he : h.get? e = some ⟨.ref c, some dx, .fields vs, sl⟩) (h1 : h₀.get? e = none) (k : SK C.lo h₀ h)
    (hT : ∀ T, vs[1]? = some (.ref T) → h₀.get? T = none) (N : Noted C.lo h h' e c dx vs sl fl) (hfl : fl = .none ∨ ∃ L, fr = some L ∧ fl = rawInt L) : FlyT h₀ h' fr e := by
  refine ea_EEEEAAAAAA N.exc fun vs' T oT ts a1 a2 a3 a4 a5 a6 a7 => ?_
  refine ⟨c, dx, vs', sl, T, oT, ts, fl, a1, h1, a2, ?_, a3, a4, a5, a6, hfl⟩
  rcases a7 with z | z
  · exact k.none z
  · exact hT _ z
theorem St.noted {h₀ h h' : Heap} {e c dx : Addr} {vs : Array Value} {sl : Array (Option Value)} {fl : Value} (S : St C.lo C.prog C.w h₀ env m σ h) (he : h.get? e = some ⟨.ref c, some dx, .fields vs, sl⟩) (hσ : σ e = some (.exc c dx)) (h1 : h₀.get? e = none)
    (hT : ∀ T, vs[1]? = some (.ref T) → h₀.get? T = none ∧ ∃ oT ts, h.get? T = some oT ∧ oT.cls = .type "traceback" ∧ oT.data = .fields ts)
    (N : Noted C.lo h h' e c dx vs sl fl) : St C.lo C.prog C.w h₀ env m σ h' := by
  have tk := N.tk he fun T z => (hT T z).2
  have noT : ∀ a o, σ a = some o → vs[1]? ≠ some (.ref a) := fun a o ha z => by
    refine ea_EEAA ((hT _ z).2) fun oT _ g hc _ => ?_
    obtain ⟨⟨co, g', r⟩, _⟩ := S.obj a o ha
    rw [g] at g'; cases g'
    cases o with
    | list vs => obtain ⟨xs, n, rfl, r⟩ := r; simp at hc
    | dict f n => obtain ⟨kvs, ⟨es, ep, ⟨h1, _⟩, _⟩, _⟩ := r; rw [h1] at hc; simp at hc
    | tdict f n => obtain ⟨xs, ep, rfl, _⟩ := r; simp at hc
    | inst C dx => cases r; simp at hc
    | attrs fs => obtain ⟨es, n, rfl, r⟩ := r; simp at hc
    | exc C dx => obtain ⟨vs, sl, rfl⟩ := r; simp at hc
    | excN C dx => obtain ⟨t, rfl⟩ := r; simp at hc
  refine ⟨S.loc.keep tk fun b o hb g => ?_, N.sk S.keep h1 fun T z => (hT T z).1, fun a o ha => ?_⟩
  · have hbe : b ≠ e := fun z => by
      refine ea_AAAA (S.obj e _ hσ) fun _ _ nl nc _ => ?_
      subst z
      rcases hb with z | ⟨nm, z⟩
      · exact nl z
      · exact nc nm z
    by_cases hbT : vs[1]? = some (.ref b)
    · exfalso
      refine ea_EEAA ((hT _ hbT).2) fun oT ts g' _ hd => ?_
      rw [g] at g'; cases g'
      rcases hb with z | ⟨nm, z⟩
      · refine ea_EA S.loc.ns fun mc pz1 _ => ?_
        refine ea_EEEAA pz1 fun o' es ep ho hd' _ => ?_; clear pz1
        subst z; rw [g] at ho; cases ho; rw [hd] at hd'; cases hd'
      · refine ea_EEA (S.loc.cex _ z) fun o' v ho hd' => ?_
        rw [g] at ho; cases ho; rw [hd] at hd'; cases hd'
    · refine ea_EA (N.keep b o g hbe hbT) fun sl' g' _ => ?_
      exact ⟨sl', g'⟩
  · obtain ⟨⟨co, g, r⟩, z⟩ := S.obj a o ha
    by_cases hae : a = e
    · subst hae
      rw [hσ] at ha; cases ha
      refine ea_EEEEA N.exc fun vs' T oT ts a1 _ => ?_
      exact ⟨⟨_, a1, vs', sl, rfl⟩, z⟩
    · refine ea_EA (N.keep a co g hae (noT a o ha)) fun sl' g' k => ?_
      rw [k (.inl r.noFrame)] at g'
      exact ⟨⟨co, g', r.mono tk⟩, z⟩
theorem Fly.tb {h₀ h : Heap} {fr : Option Addr} {a : Addr} (y : Fly h₀ h fr a) : ∃ c dx vs sl, h.get? a = some ⟨.ref c, some dx, .fields vs, sl⟩ ∧ h₀.get? a = none ∧
    (∀ T, vs[1]? = some (.ref T) → h₀.get? T = none ∧ ∃ oT ts, h.get? T = some oT ∧ oT.cls = .type "traceback" ∧ oT.data = .fields ts) ∧
    (vs[1]? = some .none ∨ ∃ T oT ts fl, vs[1]? = some (.ref T) ∧ h.get? T = some oT ∧ oT.cls = .type "traceback" ∧ oT.data = .fields ts ∧ ts[3]? = some fl ∧ (fl = .none ∨ ∃ L, fr = some L ∧ fl = rawInt L)) := by
  rcases y with ⟨c, dx, vs, sl, g, g0, h1⟩ | ⟨c, dx, vs, sl, T, oT, ts, fl, g, g0, h1, gT, hT, hc, hd, h3, hf⟩
  · exact ⟨c, dx, vs, sl, g, g0, (fun T z => by rw [h1] at z; cases z), .inl h1⟩
  · exact ⟨c, dx, vs, sl, g, g0, (fun T' z => by rw [h1] at z; cases z; exact ⟨gT, oT, ts, hT, hc, hd⟩), .inr ⟨T, oT, ts, fl, h1, hT, hc, hd, h3, hf⟩⟩
theorem exc_same {h₀ h : Heap} {a c dx c' dx' : Addr} {vs : Array Value} {sl : Array (Option Value)} (S : St C.lo C.prog C.w h₀ env m σ h) (hσ : σ a = some (.exc c dx)) (g : h.get? a = some ⟨.ref c', some dx', .fields vs, sl⟩) : c = c' ∧ dx = dx' := by
  obtain ⟨⟨co, g', r⟩, _⟩ := S.obj a _ hσ
  refine ea_EE r fun vs' sl' ez2 => ?_; clear r; subst ez2
  rw [g] at g'; cases g'; exact ⟨rfl, rfl⟩
theorem frOk_of {A : Around} {h₀ h : Heap} (F : Fm C.lo C.K A h₀ env n q) (S : St C.lo C.prog C.w h₀ env m σ h) (hf : env.frame = some env.locals) : ∃ l, A.frames = some (env :: l) ∧ FrOk C.lo h (env :: l) := by
  refine ea_EAA F.frs fun l hl hr hk => ?_
  obtain ⟨r, rfl⟩ := hr hf
  refine ⟨r, hl, fun e he => ?_⟩
  refine ea_AEAA (hk e he) fun km L hfL hlo z => ?_
  refine ⟨km, L, ?_⟩
  rcases z with ⟨rfl, hfr⟩ | ⟨o, es, ep, ho, hc, hd⟩
  · refine ea_EAA S.loc.cls fun o ho _ hcl => ?_
    refine ea_EA S.loc.ns fun mc pz3 _ => ?_
    refine ea_EEEAA pz3 fun o' es ep ho' hd _ => ?_; clear pz3
    rw [ho] at ho'; cases ho'
    exact ⟨o, es, ep, hfL, ho, hcl hfr, hd, hlo⟩
  · refine ea_EA (S.keep L o ho) fun sl g _ => ?_
    exact ⟨_, es, ep, hfL, g, hc, hd, hlo⟩
theorem note_st {A : Around} {h₀ : Heap} {s : Shared} {a : Addr} {c dx : Addr} (F : Fm C.lo C.K A h₀ env n q) (S : St C.lo C.prog C.w h₀ env m σ s.heap) (hf : env.frame = some env.locals) (hσ : σ a = some (.exc c dx)) (y : Fly h₀ s.heap env.frame a)
    {P : Unit → Shared → Prop} {E : Value → Shared → Prop} (k : ∀ h', St C.lo C.prog C.w h₀ env m σ h' → FlyT h₀ h' env.frame a → TK s.heap h' → P () { s with heap := h' }) : wpAny (model C.prog C.w) A (noteFrame (.ref a) env) P E s := by
  refine ea_EA (frOk_of F S hf) fun l hl hk => ?_
  refine ea_EEEEAAA y.tb fun c' dx' vs sl g g0 hT hv => ?_
  obtain ⟨rfl, rfl⟩ := exc_same S hσ g
  refine note_exc hl hf hk g ?_ fun h' N => k h' (S.noted g hσ g0 hT N) (FlyT.noted g g0 S.keep (fun T z => (hT T z).1) N (.inr ⟨_, hf, rfl⟩)) (N.tk g fun T z => (hT T z).2)
  rcases hv with z | ⟨T, oT, ts, fl, z1, z2, z3, z4, z5, z6⟩
  · exact .inl z
  · refine .inr ⟨T, oT, ts, fl, z1, z2, z3, z4, z5, ?_⟩
    rcases z6 with z | ⟨L, z, w⟩
    · exact .inl z
    · rw [hf] at z; cases z; exact .inr w
theorem flight_st {A : Around} {h₀ : Heap} {s : Shared} {a : Addr} {c dx : Addr} {fr : Option Addr} (S : St C.lo C.prog C.w h₀ env m σ s.heap) (hσ : σ a = some (.exc c dx)) (y : FlyT h₀ s.heap env.frame a) (hfr : fr = none ∨ fr = env.frame)
    {P : Unit → Shared → Prop} {E : Value → Shared → Prop} (k : ∀ h', St C.lo C.prog C.w h₀ env m σ h' → FlyT h₀ h' fr a → TK s.heap h' → P () { s with heap := h' }) : wpAny (model C.prog C.w) A (setFlight (.ref a) fr) P E s := by
  refine ea_EEEEEEEEAAAAAAAA (id y) fun c' dx' vs sl T oT ts fl g g0 h1 gT hT hc hd h3 hfl => ?_
  obtain ⟨rfl, rfl⟩ := exc_same S hσ g
  have tb : ∀ T, vs[1]? = some (.ref T) → h₀.get? T = none ∧ ∃ oT ts, s.heap.get? T = some oT ∧ oT.cls = .type "traceback" ∧ oT.data = .fields ts := fun T' z => by
    rw [h1] at z; cases z; exact ⟨gT, oT, ts, hT, hc, hd⟩
  refine flight_exc g h1 hT hc hd (Array.getElem?_eq_some_iff.mp h3).1 fun h' N => k h' (S.noted g hσ g0 tb N) (FlyT.noted g g0 S.keep (fun T z => (tb T z).1) N ?_) (N.tk g fun T z => (tb T z).2)
  cases fr with
  | none => exact .inl rfl
  | some L => exact .inr ⟨L, rfl, rfl⟩
theorem leave_st {A : Around} {h₀ : Heap} {s : Shared} {a : Addr} {c dx : Addr} (F : Fm C.lo C.K A h₀ env n q) (S : St C.lo C.prog C.w h₀ env m σ s.heap) (hf : env.frame = some env.locals) (hσ : σ a = some (.exc c dx)) (y : Fly h₀ s.heap env.frame a)
    {P : Unit → Shared → Prop} {E : Value → Shared → Prop} (k : ∀ h', St C.lo C.prog C.w h₀ env m σ h' → FlyT h₀ h' none a → TK s.heap h' → P () { s with heap := h' }) : wpAny (model C.prog C.w) A (leaving env (.ref a)) P E s := by
  unfold leaving
  refine wpAny_bind (note_st F S hf hσ y fun h' S' y' t => ?_)
  exact flight_st S' hσ y' (.inl rfl) fun h'' S'' y'' t' => k h'' S'' y'' (t.trans t')
end
section
variable {C : Cx} {n : Nat} {q : Bool} {env : Env} {m : List (Option Val)} {σ : AH} {X : Addr → AH → Prop}
theorem putName_shape {name : Str} {hs : Int} {key v : Value} {o : Obj} {es : Array DictEntry} {ep : Nat} (hd : o.data = .dict es ep) :
    ∃ es' ep', Obj.putName name hs key v o = { o with data := .dict es' ep' } ∧ (match es.findIdx? (·.key.isStr name) with
      | some i => es' = es.modify i (fun e => { e with val := v })
      | none => es' = es.push ⟨hs, key, v⟩) := by
  obtain ⟨c, d, dt, sl⟩ := o
  dsimp only at hd
  subst hd
  rw [Obj.putName_eq]
  unfold Obj.putNameByArray
  cases hi : es.findIdx? (·.key.isStr name) with
  | some i => exact ⟨_, _, by dsimp only; rw [hi], rfl⟩
  | none => exact ⟨_, _, by dsimp only; rw [hi], rfl⟩
theorem ns_put {h : Heap} {a : Addr} {mm : Str → Option Value} (hn : h.Ns a mm) {o : Obj} (ho : h.get? a = some o) (name : Str) (hs : Int) (t : Tok) (v : Value) :
    ∃ o', (h.update a (Obj.putName name hs (.str name t) v)).get? a = some o' ∧ o'.cls = o.cls ∧ (h.update a (Obj.putName name hs (.str name t) v)).Ns a (fun x => if x = name then some v else mm x) := by
  refine ea_EEEAAA hn fun o₁ es ep ho₁ hd hk hm => ?_; clear hn
  rw [ho] at ho₁; cases ho₁
  refine ea_EEA (putName_shape (name := name) (hs := hs) (key := .str name t) (v := v) hd) fun es' ep' e1 e2 => ?_
  have g : (h.update a (Obj.putName name hs (.str name t) v)).get? a = some { o with data := .dict es' ep' } := by
    rw [← e1]; exact Heap.get?_update_self _ ho (by rw [e1]; rfl)
  refine ⟨_, g, rfl, _, es', ep', g, rfl, ?_, fun x => ?_⟩
  · cases hi : es.findIdx? (·.key.isStr name) with
    | some i => rw [hi] at e2; subst e2; exact hk.modify i v
    | none => rw [hi] at e2; subst e2; exact hk.push hs name t v
  · show _ = if x = name then some v else mm x
    rw [← hm]
    cases hi : es.findIdx? (·.key.isStr name) with
    | some i => rw [hi] at e2; subst e2; exact findBy_modify (fun n v => v.isStr n) Value.isStr_inj es name x v i hi
    | none =>
      rw [hi] at e2; subst e2
      exact findBy_push (fun n v => v.isStr n) es name x _ _ v (fun y => by
        show (name == y) = decide (y = name)
        by_cases h : y = name
        · subst h; simp
        · have : ¬ name = y := fun e => h e.symm
          simp [h, this]) hi
theorem nsSet_at {M : Model} {A : Around} {E : Value → Shared → Prop} {s : Shared} {a : Addr} {mm : Str → Option Value} {name : Str} {v : Value} {Q : Unit → Shared → Prop} {o : Obj} (hn : s.heap.Ns a mm) (ho : s.heap.get? a = some o)
    (hQ : ∀ h' o', h'.get? a = some o' → o'.cls = o.cls → h'.Ns a (fun x => if x = name then some v else mm x) → Heap.SameBut a s.heap h' → Q () { s with heap := h', toks := s.toks + 1 }) : wpAny M A (nsSet a name v) Q E s := by
  refine ea_EEEAAA (id hn) fun o₁ es ep ho₁ hd hk hm => ?_
  rw [ho] at ho₁; cases ho₁
  have hany : es.any (·.refKey) = false := by
    rw [Array.any_eq_false']; intro e he; obtain ⟨n, t, h⟩ := hk e he; simp [DictEntry.refKey, h]
  unfold nsSet
  refine wpAny_bind (wpAny_bind (wpAny_askSetting (wpAny_pure (wpAny_bind (wpAny_mkText (wpAny_bind (wpAny_loadPart ho ?_)))))))
  rw [hd]
  dsimp only
  have cc : (!es.any (·.key.isStr name) && es.any (·.refKey)) = false := by rw [hany, Bool.and_false]
  rw [aRefKeyMayBeTheName_at, cc]
  refine ea_EAA (ns_put hn ho name (PyData.keyHash M.w.params name) s.toks v) fun o' g hc hn' => ?_
  exact wpAny_updatePart ho (hQ _ o' g hc hn' (Heap.SameBut.update ..))
structure InC (s₀ : Shared) (L : Addr) (lm : Str → Option Value) (cs : List (Str × Addr)) (cm : Str → Option Value) (s : Shared) : Prop where
  base : InCallC s₀ L lm cs cm s
  cls : ∃ o, s.heap.get? L = some o ∧ o.cls = .type "frame"
section
variable {M : Model} {A : Around} {E : Value → Shared → Prop} {s₀ : Shared} {env : Env}
theorem bind_params (f : Str × Value → PUnit → Sem (ForInStep PUnit)) (hf : ∀ n v u, f (n, v) u = (do storeName env n v; pure (.yield ⟨⟩))) (hk : env.scope.kind = .function) :
    ∀ (binds : List (Str × Value)) (lm cm : Str → Option Value) (s : Shared) (Q : PUnit → Shared → Prop), InC s₀ env.locals lm env.cells cm s →
      (∀ x ∈ binds, env.kindOf x.1 = some .local ∨ (env.kindOf x.1 = some .cell ∧ (env.cells.lookup x.1).isSome = true)) →
      (∀ s', InC s₀ env.locals (bindL env.kindOf binds lm) env.cells (bindC env.kindOf binds cm) s' → Q ⟨⟩ s') → wpAny M A (forIn binds ⟨⟩ f) Q E s
  | [], lm, cm, s, Q, x, _, h => by rw [List.forIn_nil]; exact wpAny_pure (h s x)
  | (nm, v) :: r, lm, cm, s, Q, x, hkind, h => by
    rw [List.forIn_cons, hf]
    have hr : ∀ y ∈ r, env.kindOf y.1 = some .local ∨ (env.kindOf y.1 = some .cell ∧ (env.cells.lookup y.1).isSome = true) := fun y hy => hkind y (List.mem_cons_of_mem _ hy)
    obtain ⟨pz1, o, ho, hc⟩ := x
    obtain ⟨pz2, cell, apart, above⟩ := pz1
    obtain ⟨pz3, ns, keep, fresh⟩ := pz2
    refine ea_EE pz3 fun h₁ tk same => ?_; clear pz3
    have kb : ∀ {c : Addr} {h'}, env.locals ≤ c → Heap.SameBut c s.heap h' → ∀ b o, s₀.heap.get? b = some o → h'.get? b = some o := fun hcL hs b o e =>
      hs.extBut b o (Nat.ne_of_lt (Nat.lt_of_lt_of_le (Heap.lt_size e) (Nat.le_trans fresh hcL))) (keep b o e)
    rcases hkind (nm, v) List.mem_cons_self with hl | ⟨hl, hcc⟩
    · rw [storeName_local hl (by rw [hk]; rfl)]
      refine wpAny_bind (wpAny_bind (nsSet_at ns ho fun h' o' ho' hc' hn' hs' => wpAny_pure (bind_params f hf hk r _ _ _ Q ⟨⟨⟨⟨h', s.toks + 1, ?_⟩, hn', kb (Nat.le_refl _) hs', fresh⟩, fun n c hc => (cell n c hc).sameBut hs' (Nat.ne_of_gt (above n c (mem_of_lookup hc))), apart, above⟩, o', ho', hc'.trans hc⟩ hr fun s'' x'' => h s'' ?_)))
      · rw [same]
      · unfold bindL bindC; rw [if_pos hl, if_pos hl]; exact x''
    · obtain ⟨c, hcc⟩ := Option.isSome_iff_exists.mp hcc
      have hLc := above nm c (mem_of_lookup hcc)
      have hnl : ¬ env.kindOf nm = some .local := by rw [hl]; decide
      refine wpAny_bind (wpAny_bind (wpAny_storeName_cell hk hl hcc (cell nm c hcc) fun h' hc' hs' => wpAny_pure (bind_params f hf hk r lm (fun y => if y = nm then some v else cm y) _ Q ⟨⟨⟨⟨h', s.toks, ?_⟩, ns.sameBut hs' (Nat.ne_of_lt hLc), kb (Nat.le_of_lt hLc) hs', fresh⟩, fun k c' hk' => ?_, apart, above⟩, o, (hs'.2 _ (Nat.ne_of_lt hLc)).trans ho, hc⟩ hr fun s'' x'' => h s'' ?_)))
      · rw [same]
      · by_cases hkn : k = nm
        · subst hkn
          rw [hcc] at hk'; cases hk'
          simpa using hc'
        · rw [if_neg hkn]
          exact (cell k c' hk').sameBut hs' fun e => hkn (name_of_addr apart (mem_of_lookup hk') (e ▸ mem_of_lookup hcc))
      · unfold bindL bindC; rw [if_neg hnl, if_neg hnl]; exact x''
theorem new_env {s : Shared} {scope : Scope} {globals : Addr} {binds : List (Str × Value)} {qual : Str} {func : Option Addr} {code : Value} {builtins : Addr} {Q : Env → Shared → Prop}
    (hk : scope.kind = .function)
    (hkind : ∀ x ∈ binds, scope.names.lookup x.1 = some .local ∨ (scope.names.lookup x.1 = some .cell ∧ ((cellsFrom (s.heap.objs.size + 1) scope.names []).lookup x.1).isSome = true))
    (hQ : ∀ s', InC s s.heap.objs.size (bindL (newEnv scope s.heap.objs.size globals (cellsFrom (s.heap.objs.size + 1) scope.names []) qual func code none builtins).kindOf binds fun _ => none) (cellsFrom (s.heap.objs.size + 1) scope.names []) (bindC (newEnv scope s.heap.objs.size globals (cellsFrom (s.heap.objs.size + 1) scope.names []) qual func code none builtins).kindOf binds fun _ => none) s' →
      Q (newEnv scope s.heap.objs.size globals (cellsFrom (s.heap.objs.size + 1) scope.names []) qual func code none builtins) s') :
    wpAny M A (newFunctionEnv scope globals [] binds qual func code none builtins) Q E s := by
  simp only [newFunctionEnv, Option.isSome_none, Bool.false_eq_true, if_false]
  refine wpAny_bind (wpAny_alloc ?_)
  refine wpAny_bind (wpAny_layCells _ (fun name kind cells => by cases hkc : kind == NameKind.cell <;> simp [hkc]) _ _ _ _ ?_)
  have ok := cellsFrom_ok scope.names (s.heap.push { cls := .type "frame", data := .dict #[] }) (s.heap.objs.size + 1) [] ⟨fun _ _ hm => (nomatch hm), List.Pairwise.nil⟩ (by rw [Heap.size_push]; exact Nat.le_refl _)
  rw [Heap.size_push] at ok
  rw [show ({ s with heap := s.heap.push { cls := .type "frame", data := .dict #[] } } : Shared).heap.objs.size = s.heap.objs.size + 1 from Heap.size_push ..]
  refine wpAny_bind (bind_params (s₀ := s) (env := newEnv scope s.heap.objs.size globals (cellsFrom (s.heap.objs.size + 1) scope.names []) qual func code none builtins)
    _ (fun _ _ _ => rfl) hk binds (fun _ => none) (fun _ => none) _ _
    ⟨⟨⟨⟨_, _, rfl⟩, (Heap.Ns.new s.heap (.type "frame")).keeps (pushCells_keeps _ _), fun b o e => pushCells_keeps _ _ b o (Heap.get?_push_of_some _ e), Nat.le_refl _⟩,
      fun n c hc => (ok.empty n c (mem_of_lookup hc)).1, ok.apart, fun n c hm => (ok.empty n c hm).2⟩, _, pushCells_keeps _ _ _ _ (Heap.get?_push_size _ rfl), rfl⟩
    hkind fun s' x => wpAny_pure (hQ s' x))
end
theorem bindL_get {kindOf : Str → Option NameKind} : ∀ {binds : List (Str × Value)} {lm : Str → Option Value} {nm : Str} {v : Value}, (binds.map (·.1)).Nodup → (nm, v) ∈ binds → kindOf nm = some .local → bindL kindOf binds lm nm = some v := by
  have stay : ∀ (binds : List (Str × Value)) (lm : Str → Option Value) (nm : Str), nm ∉ binds.map (·.1) → bindL kindOf binds lm nm = lm nm := by
    intro binds
    induction binds with
    | nil => intro _ _ _; rfl
    | cons b r ih =>
      intro lm nm hn
      obtain ⟨a, v⟩ := b
      simp only [List.map_cons, List.mem_cons, not_or] at hn
      unfold bindL
      rw [ih _ _ hn.2]
      split
      · exact if_neg hn.1
      · rfl
  intro binds
  induction binds with
  | nil => intro _ _ _ _ h; cases h
  | cons b r ih =>
    intro lm nm v nd hm hk
    rw [List.map_cons, List.nodup_cons] at nd
    unfold bindL
    rcases List.mem_cons.mp hm with rfl | hm
    · rw [if_pos hk, stay _ _ _ nd.1, if_pos rfl]
    · exact ih nd.2 hm hk
theorem bindC_get {kindOf : Str → Option NameKind} : ∀ {binds : List (Str × Value)} {lm : Str → Option Value} {nm : Str} {v : Value}, (binds.map (·.1)).Nodup → (nm, v) ∈ binds → kindOf nm ≠ some .local → bindC kindOf binds lm nm = some v := by
  have stay : ∀ (binds : List (Str × Value)) (lm : Str → Option Value) (nm : Str), nm ∉ binds.map (·.1) → bindC kindOf binds lm nm = lm nm := by
    intro binds
    induction binds with
    | nil => intro _ _ _; rfl
    | cons b r ih =>
      intro lm nm hn
      obtain ⟨a, v⟩ := b
      simp only [List.map_cons, List.mem_cons, not_or] at hn
      unfold bindC
      rw [ih _ _ hn.2]
      split
      · rfl
      · exact if_neg hn.1
  intro binds
  induction binds with
  | nil => intro _ _ _ _ h; cases h
  | cons b r ih =>
    intro lm nm v nd hm hk
    rw [List.map_cons, List.nodup_cons] at nd
    unfold bindC
    rcases List.mem_cons.mp hm with rfl | hm
    · rw [if_neg hk, stay _ _ _ nd.1, if_pos rfl]
    · exact ih nd.2 hm hk
theorem cellsFrom_has : ∀ (names : List (Str × NameKind)) (a : Nat) (acc : List (Str × Addr)) (nm : Str), ((nm, NameKind.cell) ∈ names ∨ (acc.lookup nm).isSome = true) → ((cellsFrom a names acc).lookup nm).isSome = true
  | [], _, _, _, h => by rcases h with h | h; cases h; exact h
  | (x, k) :: r, a, acc, nm, h => by
    unfold cellsFrom
    split
    · rename_i hk
      refine cellsFrom_has r _ _ nm ?_
      rcases h with h | h
      · rcases List.mem_cons.mp h with e | h
        · cases e; right; simp
        · exact .inl h
      · right
        rw [List.lookup_cons]
        split
        · rfl
        · exact h
    · rename_i hk
      refine cellsFrom_has r _ _ nm ?_
      rcases h with h | h
      · rcases List.mem_cons.mp h with e | h
        · cases e; simp at hk
        · exact .inl h
      · exact .inr h
theorem cellsFrom_nodup : ∀ (names : List (Str × NameKind)) (a : Nat) (acc : List (Str × Addr)), (names.map (·.1)).Nodup → (acc.map (·.1)).Nodup → (∀ x ∈ names.map (·.1), x ∉ acc.map (·.1)) → ((cellsFrom a names acc).map (·.1)).Nodup
  | [], _, _, _, h, _ => h
  | (x, k) :: r, a, acc, h1, h2, h3 => by
    rw [List.map_cons, List.nodup_cons] at h1
    unfold cellsFrom
    split
    · refine cellsFrom_nodup r _ _ h1.2 (by rw [List.map_cons, List.nodup_cons]; exact ⟨h3 x (by simp), h2⟩) fun y hy hm => ?_
      rcases List.mem_cons.mp hm with rfl | hm
      · exact h1.1 hy
      · exact h3 y (by simp only [List.map_cons, List.mem_cons]; exact .inr hy) hm
    · exact cellsFrom_nodup r _ _ h1.2 h2 fun y hy => h3 y (by simp only [List.map_cons, List.mem_cons]; exact .inr hy)
end
section
inductive MFlow where
  | next | brk | cont | ret (v : Val)
noncomputable def FRel (h : Heap) : MFlow → Flow → Prop
  | .next, f => f = .next
  | .brk, f => f = .brk
  | .cont, f => f = .cont
  | .ret v, f => ∃ c, f = .ret c ∧ VRel h v c
noncomputable def retv : MFlow → Val
  | .ret v => v
  | _ => .none
noncomputable def cret : Flow → Value
  | .ret v => v
  | _ => .none
theorem FRel.retv {h : Heap} {f : MFlow} {c : Flow} (r : FRel h f c) : VRel h (retv f) (cret c) := by
  cases f with
  | ret v => obtain ⟨y, rfl, r⟩ := r; exact r
  | _ => cases r; exact rfl
section
variable (C : Cx)
noncomputable def QS (h₀ : Heap) (env : Env) (Q : MFlow → List (Option Val) → AH → Prop) : Flow → Shared → Prop := fun f s' =>
  Ok C s' ∧ ∃ f' m' σ', FRel s'.heap f' f ∧ St C.lo C.prog C.w h₀ env m' σ' s'.heap ∧ Q f' m' σ'
noncomputable def XS (h₀ : Heap) (env : Env) (X : Addr → List (Option Val) → AH → Prop) : Value → Shared → Prop := fun e s' =>
  Ok C s' ∧ ∃ a m' σ', e = .ref a ∧ St C.lo C.prog C.w h₀ env m' σ' s'.heap ∧ (∃ c dx, σ' a = some (.exc c dx)) ∧ Fly h₀ s'.heap env.frame a ∧ X a m' σ'
noncomputable def JS (n : Nat) (q : Bool) (env : Env) (m : List (Option Val)) (σ : AH) (st : Stmt) (Q : MFlow → List (Option Val) → AH → Prop) (X : Addr → List (Option Val) → AH → Prop) : Prop :=
  ∀ A h₀ s, Fm C.lo C.K A h₀ env n q → St C.lo C.prog C.w h₀ env m σ s.heap → Ok C s → wpAny (model C.prog C.w) A (exec st env) (QS C h₀ env Q) (XS C h₀ env X) s
noncomputable def JSs (n : Nat) (q : Bool) (env : Env) (m : List (Option Val)) (σ : AH) (ss : List Stmt) (Q : MFlow → List (Option Val) → AH → Prop) (X : Addr → List (Option Val) → AH → Prop) : Prop :=
  ∀ A h₀ s, Fm C.lo C.K A h₀ env n q → St C.lo C.prog C.w h₀ env m σ s.heap → Ok C s → wpAny (model C.prog C.w) A (execs ss env) (QS C h₀ env Q) (XS C h₀ env X) s
end
variable {C : Cx} {n : Nat} {q : Bool} {env : Env} {m : List (Option Val)} {σ : AH}
noncomputable def maskOf (σ : AH) (h : Heap) : List Addr := open Classical in (List.range h.objs.size).filter fun a => decide (σ a ≠ none)
noncomputable def mask (σ : AH) (h : Heap) : Heap := hideAll h (maskOf σ h)
theorem mem_mask {σ : AH} {h : Heap} {a : Addr} : a ∈ maskOf σ h ↔ a < h.objs.size ∧ σ a ≠ none := by
  unfold maskOf; simp [List.mem_filter]
theorem mask_get {σ : AH} {h : Heap} {a : Addr} {o : Obj} (e : h.get? a = some o) (n : σ a = none) : (mask σ h).get? a = some o := hideAll_get _ e fun z => (mem_mask.mp z).2 n
theorem mask_none {σ : AH} {h : Heap} {a : Addr} {o : AObj} (e : σ a = some o) (hz : a < h.objs.size) : (mask σ h).get? a = none := hideAll_none _ (mem_mask.mpr ⟨hz, by rw [e]; simp⟩)
theorem of_mask {σ : AH} {h : Heap} {a : Addr} {o : Obj} (e : (mask σ h).get? a = some o) : h.get? a = some o := of_hideAll _ e
theorem St.lt {h₀ h : Heap} (S : St C.lo C.prog C.w h₀ env m σ h) {a : Addr} {o : AObj} (e : σ a = some o) : a < h.objs.size := let ⟨⟨_, g, _⟩, _⟩ := S.obj a o e; Heap.lt_size g
theorem St.maskKeep {h₀ h : Heap} (S : St C.lo C.prog C.w h₀ env m σ h) : SK C.lo h₀ (mask σ h) := fun b o e => by
  refine ea_EA (S.keep b o e) fun sl g k => ?_
  refine ⟨sl, mask_get g ?_, k⟩
  cases z : σ b with
  | none => rfl
  | some x => have := (S.obj b x z).2.1; rw [e] at this; cases this
theorem St.offL {h₀ h : Heap} (S : St C.lo C.prog C.w h₀ env m σ h) : σ env.locals = none := by
  cases z : σ env.locals with
  | none => rfl
  | some x => exact absurd rfl (S.obj _ x z).2.2.1
theorem St.offC {h₀ h : Heap} (S : St C.lo C.prog C.w h₀ env m σ h) {nm : Str} {c : Addr} (hm : (nm, c) ∈ env.cells) : σ c = none := by
  cases z : σ c with
  | none => rfl
  | some x => exact absurd hm ((S.obj _ x z).2.2.2.1 nm)
theorem St.maskTK {h₀ h : Heap} (S : St C.lo C.prog C.w h₀ env m σ h) {h' : Heap} (k : SK C.lo (mask σ h) h') : TK h h' := fun a xs e => by
  refine (k.exact (mask_get e ?_) (by simp))
  cases z : σ a with
  | none => rfl
  | some x =>
    obtain ⟨⟨co, g, r⟩, _⟩ := S.obj a x z
    rw [e] at g; cases g
    exact absurd rfl r.noTup
theorem St.back {h₀ h h' g : Heap} {σ' : AH} (S : St C.lo C.prog C.w h₀ env m σ h) (hg : ∀ b o, h.get? b = some o → σ b = none → g.get? b = some o) (hg0 : SK C.lo h₀ g) (k : SK C.lo g h')
    (S' : ∀ a o, σ' a = some o → (∃ co, h'.get? a = some co ∧ ORel C.prog C.w h' o co) ∧ g.get? a = none ∧ 1 < a) : St C.lo C.prog C.w h₀ env m σ' h' := by
  have tk : TK h h' := fun a xs e => by
    refine (k.exact (hg _ _ e ?_) (by simp))
    cases z : σ a with
    | none => rfl
    | some x =>
      obtain ⟨⟨co, g, r⟩, _⟩ := S.obj a x z
      rw [e] at g; cases g
      exact absurd rfl r.noTup
  refine ⟨S.loc.keep tk fun b o hb e => ?_, hg0.trans k, fun a o e => ?_⟩
  · have hn : σ b = none := by
      rcases hb with rfl | ⟨nm, hm⟩
      · exact S.offL
      · exact S.offC hm
    refine ea_EA (k b o (hg b o e hn)) fun sl e' _ => ?_
    exact ⟨sl, e'⟩
  · refine ea_AA (S' a o e) fun co z big => ?_
    refine ⟨co, hg0.none z, ?_, ?_, big⟩
    · rintro rfl
      refine ea_EA S.loc.cls fun ol gl _ => ?_
      rw [hg _ _ gl S.offL] at z; cases z
    · intro nm hm
      refine ea_EEA (S.loc.cex _ hm) fun oc _ gc _ => ?_
      rw [hg _ _ gc (S.offC hm)] at z; cases z
structure FnOk (K : Frag) (f : Addr) (fd : FuncData) (bd : List Stmt) (pn : List Str) : Prop where
  at_ : ∃ od osl, K.lookup f = some ⟨.type "function", od, .func fd, osl⟩
  body : fd.body = .stmts bd
  clo : fd.closure = []
  glob : fd.globals = mainGlobals
  blt : fd.builtins = builtinsNs
  co : fd.scope.isCoroutine = false
  gen : fd.scope.isGenerator = false
  kind : fd.scope.kind = .function
  code : codeIn K fd.code fd.qualname = true
  nd : (fd.scope.names.map (·.1)).Nodup
  ps : (fd.scope.names.take pn.length).map (·.1) = pn
  pk : ∀ x ∈ fd.scope.names.take pn.length, x.2 = .local ∨ x.2 = .cell
  nof : ∀ x ∈ fd.scope.names, x.2 ≠ .free
noncomputable def Binds (K : Frag) (fd : FuncData) (ps : List Str) (k : Nat) (ds : List Value) : Prop :=
  ∀ (s : Shared) (cs : List Value), K.In s.heap → cs.length = k → BindsTo s fd ⟨cs, []⟩ (ps.zip (cs ++ ds))
noncomputable def frame0 (names : List (Str × NameKind)) (vs : List Val) : List (Option Val) := vs.map some ++ List.replicate (names.length - vs.length) none
theorem zip_keys {α β : Type} : ∀ {a : List α} {b : List β}, a.length = b.length → (a.zip b).map (·.1) = a
  | [], _, _ => by simp
  | x :: a, y :: b, h => by simp [zip_keys (a := a) (b := b) (by simpa using h)]
theorem loc_of_call {K : Frag} {f : Addr} {fd : FuncData} {body : List Stmt} {ps : List Str} (H : FnOk K f fd body ps) {s s' : Shared} {vs : List Val} {cs : List Value} (hlen : ps.length = cs.length) (r : VRels s.heap vs cs) (hbig : 1 < s.heap.objs.size)
    (x : InC s s.heap.objs.size (bindL (callEnvC fd s.heap.objs.size f).kindOf (ps.zip cs) fun _ => none) (callEnvC fd s.heap.objs.size f).cells (bindC (callEnvC fd s.heap.objs.size f).kindOf (ps.zip cs) fun _ => none) s') :
    LocRel (callEnvC fd s.heap.objs.size f) s'.heap (frame0 fd.scope.names vs) := by
  have tk : TK s.heap s'.heap := TK.of_keeps x.base.toInCall.keep
  have keys : ((ps.zip cs).map (·.1)) = ps := zip_keys hlen
  have psnd : ps.Nodup := by rw [← H.ps]; rw [List.map_take]; exact H.nd.sublist (List.take_sublist _ _)
  have hz : vs.length = ps.length := by rw [hlen, r.length]
  have par : ∀ (i : Nat) nm k v, fd.scope.names[i]? = some (nm, k) → (frame0 fd.scope.names vs)[i]? = some (some v) → ∃ c, (nm, c) ∈ ps.zip cs ∧ VRel s'.heap v c := by
    intro i nm k v e hv
    unfold frame0 at hv
    by_cases hi : i < vs.length
    · rw [List.getElem?_append_left (by simpa using hi)] at hv
      rw [List.getElem?_map] at hv
      refine ea_EA (Option.map_eq_some_iff.mp hv) fun v' e' hv' => ?_
      cases hv'
      refine ea_EA (r.get e') fun c ec rc => ?_
      have ep : ps[i]? = some nm := by
        rw [← H.ps, List.getElem?_map, List.getElem?_take, if_pos (by omega), e]; rfl
      refine ⟨c, ?_, rc.mono tk⟩
      exact List.mem_of_getElem? (i := i) (by rw [List.getElem?_zip_eq_some]; exact ⟨ep, ec⟩)
    · rw [List.getElem?_append_right (by simpa using hi)] at hv
      rw [List.getElem?_replicate] at hv
      split at hv <;> simp at hv
  have ndc : ((callEnvC fd s.heap.objs.size f).cells.map (·.1)).Nodup := cellsFrom_nodup _ _ _ H.nd (by simp) (by simp)
  refine ⟨⟨_, x.base.toInCall.ns, fun i nm e v hv => ?_⟩, fun i nm k e hk => ?_, ?_, fun y hy => ?_, hbig⟩
  · refine ea_EA (par i nm _ v e hv) fun c hm rc => ?_
    exact ⟨c, bindL_get (by rw [keys]; exact psnd) hm (lookup_of_get H.nd e), rc⟩
  · rcases hk with rfl | rfl
    · have hs := cellsFrom_has fd.scope.names (s.heap.objs.size + 1) [] nm (.inl (List.mem_of_getElem? e))
      obtain ⟨c, hc⟩ := Option.isSome_iff_exists.mp hs
      refine ⟨c, _, hc, x.base.cell nm c hc, fun v hv => ?_⟩
      refine ea_EA (par i nm _ v e hv) fun y hm ry => ?_
      exact ⟨y, bindC_get (by rw [keys]; exact psnd) hm (by rw [show (callEnvC fd s.heap.objs.size f).kindOf nm = some .cell from lookup_of_get H.nd e]; decide), ry⟩
    · exact absurd rfl (H.nof _ (List.mem_of_getElem? e))
  · refine ea_EA x.cls fun o ho hc => ?_
    exact ⟨o, ho, by rw [hc]; simp, fun _ => hc⟩
  · obtain ⟨nm, c⟩ := y
    refine ea_EA (x.base.cell nm c (lookup_of_mem_nodup ndc hy)) fun o ho hd => ?_
    exact ⟨o, _, ho, hd⟩
end
section
variable {C : Cx} {n : Nat} {q : Bool} {env : Env} {m : List (Option Val)} {σ : AH} {X : Addr → AH → Prop}
theorem lookup_of_mem {α : Type} : ∀ {l : List (Str × α)} {nm : Str} {k : α}, (l.map (·.1)).Nodup → (nm, k) ∈ l → l.lookup nm = some k := fun nd hm =>
  let ⟨i, hi⟩ := List.mem_iff_getElem?.mp hm
  lookup_of_get (i := i) nd hi
theorem FlyT.down {g h₀ h : Heap} {fr : Option Addr} {a : Addr} (y : FlyT g h none a) (k : SK C.lo h₀ g) : FlyT h₀ h fr a := by
  refine ea_EEEEEEEEAAAAAAAA y fun c dx vs sl T oT ts fl z1 z2 z3 z4 z5 z6 z7 z8 z9 => ?_; clear y
  refine ⟨c, dx, vs, sl, T, oT, ts, fl, z1, k.none z2, z3, k.none z4, z5, z6, z7, z8, .inl ?_⟩
  rcases z9 with z | ⟨L, z, _⟩
  · exact z
  · cases z
theorem JK_fn {f : Addr} {fd : FuncData} {body : List Stmt} {pn : List Str} {ds : List Value} {dv vs : List Val} {Q : Val → AH → Prop} (H : FnOk C.K f fd body pn) (hb : Binds C.K fd pn vs.length ds) (hd : ∀ h, VRels h dv ds) (hlen : pn.length = vs.length + dv.length)
    (h : ∀ L, JSs C n true (callEnvC fd L f) (frame0 fd.scope.names (vs ++ dv)) σ body (fun fl _ σ' => Q (retv fl) σ') (fun a _ σ' => X a σ')) : JK C (n + 1) true env m σ (.ref f) vs Q X := fun A h₀ s cs F S O r => by
  have W := F.wd.mono S.keep
  have XK := W.inK
  have hcs : cs.length = vs.length := r.length.symm
  refine ea_EE H.at_ fun od osl hat => ?_
  have r' : VRels s.heap (vs ++ dv) (cs ++ ds) := r.append (hd _)
  have hlen' : pn.length = (cs ++ ds).length := by rw [← r'.length, List.length_append, hlen]
  have hbig : 1 < s.heap.objs.size := Nat.lt_trans S.loc.big S.loc.size
  refine codeAny_call_function (show A.depth < 1000 by have := F.depth; omega) (XK _ _ hat) rfl H.co H.gen H.body (codeRec_of XK H.code) (hb s cs XK hcs _ _ _ _ ?_)
  rw [H.clo]
  refine new_env H.kind (fun x hx => ?_) fun s' x => ?_
  · have hm : x.1 ∈ pn := (List.of_mem_zip hx).1
    rw [← H.ps] at hm
    refine ea_EA (List.mem_map.mp hm) fun pz1 hm' e => ?_
    obtain ⟨nm, k⟩ := pz1
    dsimp only at e
    subst e
    have hm2 := List.mem_of_mem_take hm'
    rcases H.pk _ hm' with z | z
    · dsimp only at z; subst z; exact .inl (lookup_of_mem H.nd hm2)
    · dsimp only at z; subst z; exact .inr ⟨lookup_of_mem H.nd hm2, cellsFrom_has _ _ _ _ (.inl hm2)⟩
  have keepS : ∀ b o, s.heap.get? b = some o → s'.heap.get? b = some o := x.base.toInCall.keep
  have O' : Ok C s' := by obtain ⟨h1, tk, e⟩ := x.base.toInCall.same; rw [e]; exact O
  refine ⟨(W.mono (SK.of_keeps (lo := C.lo) keepS)).lim, codeAny_func ?_⟩
  have hsz : ∀ {b o}, (mask σ s.heap).get? b = some o → b < s.heap.objs.size := fun e => Heap.lt_size (of_mask e)
  have noneAt : ∀ b, s.heap.objs.size ≤ b → (mask σ s.heap).get? b = none := fun b hb => by
    cases e : (mask σ s.heap).get? b with
    | none => rfl
    | some o => exact absurd (hsz e) (Nat.not_lt.mpr hb)
  have hlo' : C.lo ≤ s.heap.objs.size := Nat.le_trans F.low (Nat.le_of_lt S.loc.size)
  have F' : Fm C.lo C.K (A.deeper (callEnvC fd s.heap.objs.size f)) (mask σ s.heap) (callEnvC fd s.heap.objs.size f) n true := by
    refine ⟨H.kind, H.glob, H.blt, H.nd, ?_, ?_, fun _ => ?_, x.base.apart, fun y hy => Nat.ne_of_gt (x.base.above y.1 y.2 hy), noneAt _ (Nat.le_refl _), fun _ y hy => noneAt _ (Nat.le_of_lt (x.base.above y.1 y.2 hy)), F.wd.mono S.maskKeep, ?_, hlo'⟩
    · have := F.depth; show A.depth + 1 + n < 1000; omega
    · have := F.units; show A.units + 3 + 10 * n + 20 < 9900; omega
    · exact F.hand rfl
    · refine ea_EAA F.frs fun l hl _ hk => ?_
      refine ⟨callEnvC fd s.heap.objs.size f :: l, ?_, fun _ => ⟨l, rfl⟩, fun e he => ?_⟩
      · show A.frames.map _ = _
        rw [hl]; rfl
      · rcases List.mem_cons.mp he with rfl | he
        · exact ⟨by show fd.scope.kind ≠ _; rw [H.kind]; decide, s.heap.objs.size, rfl, hlo', .inl ⟨rfl, rfl⟩⟩
        · refine ea_AEAA (hk e he) fun km L hfL hlo z => ?_
          refine ⟨km, L, hfL, hlo, .inr ?_⟩
          rcases z with ⟨rfl, hfr⟩ | ⟨o, es, ep, ho, hc, hdd⟩
          · refine ea_EAA S.loc.cls fun o ho _ hcl => ?_
            refine ea_EA S.loc.ns fun mc pz2 _ => ?_
            refine ea_EEEAA pz2 fun o' es ep ho' hdd _ => ?_; clear pz2
            rw [ho] at ho'; cases ho'
            exact ⟨o, es, ep, mask_get ho S.offL, hcl hfr, hdd⟩
          · refine ea_EA (S.maskKeep L o ho) fun sl g _ => ?_
            exact ⟨_, es, ep, g, hc, hdd⟩
  have S' : St C.lo C.prog C.w (mask σ s.heap) (callEnvC fd s.heap.objs.size f) (frame0 fd.scope.names (vs ++ dv)) σ s'.heap := by
    refine ⟨loc_of_call H hlen' r' hbig x, SK.of_keeps fun b o e => keepS b o (of_mask e), fun a o e => ?_⟩
    refine ea_AAAA (S.obj a o e) fun pz3 _ _ _ big => ?_
    refine ea_EA pz3 fun co g ro => ?_; clear pz3
    have lt := S.lt e
    exact ⟨⟨co, keepS _ _ g, ro.mono (TK.of_keeps keepS)⟩, mask_none e lt, Nat.ne_of_lt lt, fun nm hm => absurd (x.base.above nm a hm) (Nat.not_lt.mpr (Nat.le_of_lt lt)), big⟩
  have back : ∀ {h'' : Heap} {m'' : List (Option Val)} {σ'' : AH}, St C.lo C.prog C.w (mask σ s.heap) (callEnvC fd s.heap.objs.size f) m'' σ'' h'' → St C.lo C.prog C.w h₀ env m σ'' h'' := fun S'' =>
    S.back (fun b o e n => mask_get e n) S.maskKeep S''.keep fun a o e => let ⟨z1, z2, _, _, z5⟩ := S''.obj a o e; ⟨z1, z2, z5⟩
  refine wpAny_mono (h s.heap.objs.size (A.deeper (callEnvC fd s.heap.objs.size f)) (mask σ s.heap) s' F' S' O') (fun fl s'' z => ?_) fun e s'' z => ?_
  · refine ea_AEEEAA z fun O'' f' m' σ' rf S'' hq => ?_; clear z
    exact ⟨O'', S.maskTK S''.keep, retv f', σ', rf.retv, back S'', hq⟩
  · refine ea_AEEEAAAA z fun O'' a m' σ' ez4 S'' pz5 fly hx => ?_; clear z; subst ez4
    refine ea_EE pz5 fun c dx hσ => ?_; clear pz5
    exact leave_st F' S'' rfl hσ fly fun h' S3 y t => ⟨O'', a, σ', rfl, back S3, ⟨c, dx, hσ⟩, .inr (y.down S.maskKeep), hx⟩
end
section
variable {lo : Nat}
variable {C : Cx} {n : Nat} {q : Bool} {env : Env} {m : List (Option Val)} {σ : AH} {X : Addr → AH → Prop}
noncomputable def KeepF (K : Frag) (f : Value) : Prop := keepIn K f = true ∨ (∃ n, f = .type n) ∨ ∃ n, f = .builtin n
theorem KeepF.looks {K : Frag} {M : Model} {f : Value} (k : KeepF K f) (h : Heap) (X : K.In h) : ∃ kk, (kk = Keeper.frame ∨ kk = Keeper.machine ∨ kk = Keeper.boundFrame) ∧ Looks M h (keeperOf f) kk := by
  rcases k with k | ⟨t, rfl⟩ | ⟨t, rfl⟩
  · exact keeps_K k h X
  · exact ⟨.machine, .inr (.inl rfl), Looks.of_pure rfl⟩
  · exact ⟨.machine, .inr (.inl rfl), Looks.of_pure rfl⟩
noncomputable def PlainArgs (args : List Expr) : Prop := (∀ (env : Env) (pos : Pos), (backTo pos (starEach args env)).any (·.1) = false) ∧ (args = [] ∨ ∃ e es, args = e :: es ∧ ∀ env, starEach (e :: es) env = (false, eval e env) :: starEach es env)
theorem args_of {M : Model} {A : Around} {E : Value → Shared → Prop} {s : Shared} {f : Value} {args : List Expr} {pos : Pos} {Q : Args → Shared → Prop} (hp : PlainArgs args)
    (h : wpAny M A (spliced (backTo pos (starEach args env))) (fun vs s' => Q ⟨vs, []⟩ s') E s) : wpAny M A (evalArgs f true (backTo pos (starEach args env)) []) Q E s := by
  rcases hp.2 with rfl | ⟨e, es, rfl, he⟩
  · unfold evalArgs
    show wpAny M A (spliced _ >>= _) Q E s
    refine wpAny_bind (wpAny_mono h (fun vs s' h' => ?_) fun _ _ x => x)
    refine wpAny_holding ?_
    exact wpAny_bind (wpAny_pure (wpAny_bind (wpAny_pure (wpAny_pure h'))))
  · rw [he] at h ⊢
    exact evalArgs_plain h
theorem call_with {A : Around} {h₀ : Heap} {s : Shared} {pos : Pos} {f : Value} {first : List Val} {cf : List Value} {args : List Expr} {Q : Val → AH → Prop} (F : Fm C.lo C.K A h₀ env n q) (S : St C.lo C.prog C.w h₀ env m σ s.heap) (O : Ok C s) (hk : KeepF C.K f) (hp : PlainArgs args) (rf : VRels s.heap first cf)
    (h : JEs C n q env m σ args (fun vs σ₂ => JC C n q env m σ₂ f (first ++ vs) Q X) X) : wpAny (model C.prog C.w) A (callWith pos f cf (backTo pos (starEach args env)) (backToKw pos (keywordEach [] env))) (QE C h₀ env m s.heap Q) (XE C h₀ env m X) s := by
  refine callWith_of (P := fun h => C.K.In h) (by rw [hp.1]; rfl) (fun h X => hk.looks h X) (args_of hp (wpAny_mono (h A h₀ s pos F S O) (fun vs s₁ z => ?_) fun _ _ x => x))
  refine ea_AAEEAA z fun O₁ k₁ vs' σ₁ r₁ S₁ h₁ => ?_; clear z
  exact ⟨(F.wd.mono S₁.keep).inK, wpAny_mono (h₁ A h₀ s₁ _ F S₁ O₁ ((rf.mono k₁).append r₁)) (fun _ _ z => z.up k₁) fun _ _ x => x⟩
theorem JE_call {id : Str} {p pos : Pos} {args : List Expr} {Q : Val → AH → Prop}
    (h : JE C n q env m σ (.Name id p) (fun fv σ₁ => ∃ f, fv.own = some f ∧ KeepF C.K f ∧ JEs C n q env m σ₁ args (fun vs σ₂ => JC C n q env m σ₂ f vs Q X) X) X)
    (hp : PlainArgs args := by exact ⟨fun _ _ => rfl, by first | exact .inl rfl | exact .inr ⟨_, _, rfl, fun _ => rfl⟩⟩) : JE C n q env m σ (.Call (.Name id p) args [] pos) Q X := fun A h₀ s F S O => by
  rw [arm_eval_Call_Name']
  refine wpAny_bind (wpAny_mono (h A h₀ s F S O) (fun fv s₁ z => ?_) fun _ _ x => x)
  refine ea_AAEEAAEAA z fun O₁ k₁ v₁ σ₁ r₁ S₁ f ho hk hJ => ?_; clear z
  rw [r₁.own ho]
  exact wpAny_mono (call_with (first := []) F S₁ O₁ hk hp rfl hJ) (fun _ _ z => z.up k₁) fun _ _ x => x
noncomputable def MethOf (C : Cx) (σ : AH) (x : Addr) (name : Str) (f : Value) : Prop :=
  ∀ A h₀ env m n q (s : Shared) pl (P : Value × List Value → Shared → Prop) E, Fm C.lo C.K A h₀ env n q → St C.lo C.prog C.w h₀ env m σ s.heap → P (f, [.ref x]) s → wpAny (model C.prog C.w) A (getMethod (.ref x) name pl) P E s
theorem meth_inst {x c dx f : Addr} {fs : List (Str × Val)} {name : Str} (I : InstIs σ x c dx) (hd : σ dx = some (.attrs fs)) (hl : fs.lookup name = none) (hc : ClsOk C.K c) (hf : findIn C.K (.ref c) name = some (some (.ref f)))
    (ht : typeIn C.K (.ref f) = some (.type "function")) : MethOf C σ x name (.ref f) := fun A h₀ env m n q s pl P E F S h => by
  refine ea_EEEAAA (I.at_ S hd) fun ox es k I' _ _ r => ?_
  exact method_fn (F.wd.mono S.keep).inK I' hc.ga hc.gn hf ht (by show (lookIn name (dictOf es k)).map _ = _; rw [lookIn_dict, r.get_none hl]; rfl) h
theorem JE_meth {o : Expr} {name : Str} {apos pos : Pos} {args : List Expr} {Q : Val → AH → Prop}
    (h : JE C n q env m σ o (fun ov σ₁ => ∃ x f, ov = .ref x ∧ MethOf C σ₁ x name f ∧ KeepF C.K f ∧ JEs C n q env m σ₁ args (fun vs σ₂ => JC C n q env m σ₂ f (.ref x :: vs) Q X) X) X)
    (hb : ∀ (env : Env) (t : Sem Value), attributeBase o name env t = t := by intro _ _; rfl)
    (hfew : ∀ (env : Env) (pos : Pos), methodCallForm (args.length + ([] : List Keyword).length) (backTo pos (starEach args env)) (backToKw pos (keywordEach [] env)) = true := by intro _ _; rfl)
    (hline : (apos.endLine == pos.line) = true := by rfl)
    (hp : PlainArgs args := by exact ⟨fun _ _ => rfl, by first | exact .inl rfl | exact .inr ⟨_, _, rfl, fun _ => rfl⟩⟩) : JE C n q env m σ (.Call (.Attribute o name apos) args [] pos) Q X := fun A h₀ s F S O => by
  rw [arm_eval_Call, hb]
  refine wpAny_bind (wpAny_mono (h A h₀ s F S O) (fun ov s₁ z => wpAny_bind (wpAny_standAt ?_)) fun _ _ x => x)
  refine ea_AAEEAAEEAAA z fun O₁ k₁ v₁ σ₁ r₁ S₁ x f ez1 hm hk hJ => ?_; clear z; subst ez1
  cases r₁
  have hpos : ∀ env, methodCallPos true o env apos pos = pure pos := fun env => by unfold methodCallPos; simp [hline]
  unfold methodCall
  rw [hfew]
  refine wpAny_bind (wpAny_holding (hm A h₀ env m n q s₁ _ _ _ F S₁ ?_))
  refine wpAny_bind (wpAny_of_eq (hpos env) ?_)
  exact wpAny_mono (call_with (first := [.ref x]) F S₁ O₁ hk hp ⟨_, _, rfl, rfl, rfl⟩ hJ) (fun _ _ z => z.up k₁) fun _ _ x => x
theorem Fm.make {K : Frag} {A : Around} {h₀ : Heap} {c : Addr} {cs : List Value} (F : Fm lo K A h₀ env (n + 1) q) : Fm lo K (A.under (.builtin "type.__call__" ⟨.ref c :: cs, []⟩)) h₀ env n q :=
  ⟨F.kind, F.glob, F.blt, F.nd, by rw [depth_under_make]; have := F.depth; omega, by rw [PyProof.Rows.units_under_make]; have := F.units; omega, F.hand, F.apart, F.offL, F.ownL, F.ownC, F.wd, F.frs, F.low⟩
theorem JK_new {c fI : Addr} {vs : List Val} {Q : Val → AH → Prop} (hm : makesIn C.K c = true) (hi : findIn C.K (.ref c) "__init__" = some (some (.ref fI))) (hf : typeIn C.K (.ref fI) = some (.type "function"))
    (h : ∀ x dx, σ x = none → σ dx = none → x ≠ dx → JK C n q env m ((σ.set dx (.attrs [])).set x (.inst c dx)) (.ref fI) (.ref x :: vs) (fun v σ' => v = .none ∧ Q (.ref x) σ') X) : JK C (n + 1) q env m σ (.ref c) vs Q X := fun A h₀ s cs F S O r => by
  have XK := (F.wd.mono S.keep).inK
  obtain ⟨hh, g, d, t, os⟩ := s
  have S1 := S.addNew (co := emptyDict) (o := .attrs []) rfl ⟨[], 0, rfl, rfl⟩
  have S2 := S1.addNew (co := instObj c hh.objs.size) (o := .inst c hh.objs.size) rfl rfl
  rw [Heap.size_push] at S2
  have hx : σ (hh.objs.size + 1) = none := by
    have := S1.fresh
    rw [Heap.size_push, AH.set_ne (Nat.succ_ne_self _)] at this
    exact this
  have k2 : TK hh ((hh.push emptyDict).push (instObj c hh.objs.size)) := TK.of_keeps fun _ _ e => Heap.get?_push_of_some _ (Heap.get?_push_of_some _ e)
  refine make_core (makes_of XK hm) (looks_findIn XK hi) (fun self => bind_fn XK self hf) (.inl rfl) ?_
  refine codeAny_mono (h (hh.objs.size + 1) hh.objs.size hx S.fresh (Nat.succ_ne_self _) _ h₀ ⟨(hh.push emptyDict).push (instObj c hh.objs.size), g, d, t, os⟩ (.ref (hh.objs.size + 1) :: cs) F.make S2 O ⟨_, _, rfl, rfl, r.mono k2⟩) fun res s' z => ?_
  rcases res with e | (_ | _ | _ | v)
  · exact z
  · exact z
  · exact z
  · exact z
  · refine ea_AAEEAAA z fun O' k' v' σ' rv S' ez2 hQ => ?_; clear z; subst ez2
    cases rv
    exact ⟨rfl, O', k2.trans k', .ref _, σ', rfl, S', hQ⟩
end
section
variable {C : Cx} {n : Nat} {q : Bool} {env : Env} {m : List (Option Val)} {σ : AH}
theorem TK.but' {h h' : Heap} {a : Addr} {o : Obj} (ho : h.get? a = some o) (hc : ∀ xs, o ≠ tupObj xs) (hs : Heap.SameBut a h h') : TK h h' := fun b xs e =>
  (hs.2 b (fun q => by subst q; rw [ho] at e; cases e; exact hc _ rfl)).trans e
theorem store_var {A : Around} {h₀ : Heap} {s : Shared} {nm : Str} {i : Nat} {k : NameKind} {v : Val} {cv : Value} (F : Fm C.lo C.K A h₀ env n q) (S : St C.lo C.prog C.w h₀ env m σ s.heap) (hv : IsVar env nm i k)
    (hk : k = .local ∨ (k = .cell ∧ env.frame = some env.locals)) (hi : i < m.length) (r : VRel s.heap v cv) {P : Unit → Shared → Prop} {E : Value → Shared → Prop}
    (h : ∀ h' tk, St C.lo C.prog C.w h₀ env (m.set i (some v)) σ h' → TK s.heap h' → P () { s with heap := h', toks := tk }) : wpAny (model C.prog C.w) A (storeName env nm cv) P E s := by
  have other : ∀ (j : Nat) nm' k', env.scope.names[j]? = some (nm', k') → j ≠ i → nm' ≠ nm := fun j nm' k' e hj z => by
    subst z
    have h1 : (env.scope.names.map (·.1))[j]? = some nm' := by rw [List.getElem?_map, e]; rfl
    have h2 : (env.scope.names.map (·.1))[i]? = some nm' := by rw [List.getElem?_map, hv.at_]; rfl
    exact hj ((List.getElem?_inj (List.getElem?_eq_some_iff.mp h1).1 F.nd).mp (h1.trans h2.symm))
  have val : ∀ (j : Nat) v', (m.set i (some v))[j]? = some (some v') → (j = i ∧ v' = v) ∨ (j ≠ i ∧ m[j]? = some (some v')) := fun j v' e => by
    by_cases hj : j = i
    · subst hj
      rw [List.getElem?_set_self hi] at e
      cases e; exact .inl ⟨rfl, rfl⟩
    · rw [List.getElem?_set_ne (Ne.symm hj)] at e
      exact .inr ⟨hj, e⟩
  rcases hk with rfl | ⟨rfl, hf⟩
  · rw [storeName_local (hv.kind F.nd) (by rw [F.kind]; rfl)]
    refine ea_EA S.loc.ns fun mc hn rel => ?_
    refine ea_EAA S.loc.cls fun ol hol hnt hfc => ?_
    refine nsSet_at hn hol fun h' o' ho' hc' hn' hs' => ?_
    have tk : TK s.heap h' := TK.but hol hnt hs'
    refine h _ _ ⟨⟨⟨_, hn', fun j nm' e v' hv' => ?_⟩, fun j nm' k' e hk' => ?_, ⟨o', ho', by rw [hc']; exact hnt, by rw [hc']; exact hfc⟩, fun y hy => ?_, S.loc.big⟩, fun b o e => ?_, fun a o e => ?_⟩ tk
    · rcases val j v' hv' with ⟨rfl, rfl⟩ | ⟨hj, hm⟩
      · rw [hv.at_] at e; cases e
        exact ⟨cv, if_pos rfl, r.mono tk⟩
      · refine ea_EA (rel j nm' e v' hm) fun c a b => ?_
        exact ⟨c, (if_neg (other j nm' _ e hj)).trans a, b.mono tk⟩
    · have hj : j ≠ i := fun z => by subst z; rw [hv.at_] at e; cases e; rcases hk' with z | z <;> cases z
      refine ea_EEAA (S.loc.cell j nm' k' e hk') fun c cvv a ic rr => ?_
      refine ⟨c, cvv, a, ic.sameBut hs' (F.offL _ (PySem.mem_of_lookup a)), fun v' hv' => ?_⟩
      rcases val j v' hv' with ⟨rfl, _⟩ | ⟨_, hm⟩
      · exact absurd rfl hj
      · refine ea_EA (rr v' hm) fun y e1 e2 => ?_
        exact ⟨y, e1, e2.mono tk⟩
    · refine ea_EEA (S.loc.cex y hy) fun o v ho hd => ?_
      exact ⟨o, v, (hs'.2 _ (F.offL y hy)).trans ho, hd⟩
    · refine ea_EA (S.keep b o e) fun sl g kk => ?_
      exact ⟨sl, (hs'.2 b fun z => by subst z; rw [F.ownL] at e; cases e).trans g, kk⟩
    · refine ea_AAA (S.obj a o e) fun pz1 z0 z1 z2 => ?_
      refine ea_EA pz1 fun co g ro => ?_; clear pz1
      exact ⟨⟨co, (hs'.2 a z1).trans g, ro.mono tk⟩, z0, z1, z2⟩
  · refine ea_EEAA (S.loc.cell i nm _ hv.at_ (.inl rfl)) fun c cvv hc ic rr => ?_
    have hcm := PySem.mem_of_lookup hc
    refine ea_EA (id ic) fun oc hoc hdc => ?_
    refine wpAny_storeName_cell F.kind (hv.kind F.nd) hc ic fun h' ic' hs' => ?_
    have tk : TK s.heap h' := TK.but' hoc (fun xs z => by rw [z] at hdc; cases hdc) hs'
    refine h _ s.toks ⟨?_, fun b o e => ?_, fun a o e => ?_⟩ tk
    · refine ⟨?_, fun j nm' k' e hk' => ?_, ?_, fun y hy => ?_, S.loc.big⟩
      · refine ea_EA S.loc.ns fun mc hn rel => ?_
        refine ⟨mc, hn.sameBut hs' (Ne.symm (F.offL _ hcm)), fun j nm' e v' hv' => ?_⟩
        rcases val j v' hv' with ⟨rfl, rfl⟩ | ⟨hj, hm⟩
        · rw [hv.at_] at e; cases e
        · refine ea_EA (rel j nm' e v' hm) fun c' a b => ?_
          exact ⟨c', a, b.mono tk⟩
      · refine ea_EEAA (S.loc.cell j nm' k' e hk') fun c' cv' a ic2 rr2 => ?_
        by_cases hj : j = i
        · subst hj
          rw [hv.at_] at e; cases e
          rw [hc] at a; cases a
          refine ⟨c, _, hc, ic', fun v' hv' => ?_⟩
          rcases val j v' hv' with ⟨_, rfl⟩ | ⟨z, _⟩
          · exact ⟨cv, rfl, r.mono tk⟩
          · exact absurd rfl z
        · refine ⟨c', cv', a, ic2.sameBut hs' fun z => ?_, fun v' hv' => ?_⟩
          · subst z
            exact other j nm' k' e hj (name_of_addr F.apart (PySem.mem_of_lookup a) hcm)
          · rcases val j v' hv' with ⟨z, _⟩ | ⟨_, hm⟩
            · exact absurd z hj
            · refine ea_EA (rr2 v' hm) fun y e1 e2 => ?_
              exact ⟨y, e1, e2.mono tk⟩
      · refine ea_EA S.loc.cls fun ol hol z => ?_
        exact ⟨ol, (hs'.2 _ (Ne.symm (F.offL _ hcm))).trans hol, z⟩
      · by_cases z : y.2 = c
        · refine ea_EA ic' fun o2 ho2 hd2 => ?_; clear ic'
          exact ⟨o2, _, by rw [z]; exact ho2, hd2⟩
        · refine ea_EEA (S.loc.cex y hy) fun o v ho hd => ?_
          exact ⟨o, v, (hs'.2 _ z).trans ho, hd⟩
    · refine ea_EA (S.keep b o e) fun sl g kk => ?_
      exact ⟨sl, (hs'.2 b fun z => by subst z; rw [F.ownC hf _ hcm] at e; cases e).trans g, kk⟩
    · refine ea_AAA (S.obj a o e) fun pz2 z0 z1 z2 => ?_
      refine ea_EA pz2 fun co g ro => ?_; clear pz2
      exact ⟨⟨co, (hs'.2 a fun z => by subst z; exact z2.1 _ hcm).trans g, ro.mono tk⟩, z0, z1, z2⟩
section
variable {rest : List Stmt} {Q : MFlow → List (Option Val) → AH → Prop} {X : Addr → List (Option Val) → AH → Prop}
theorem XE.toS {h₀ : Heap} {e : Value} {s : Shared} (x : XE C h₀ env m (fun a σ' => X a m σ') e s) : XS C h₀ env X e s :=
  let ⟨O, a, σ', e1, S, c, f, h⟩ := x; ⟨O, a, m, σ', e1, S, c, f, h⟩
theorem JSs_nil (h : Q .next m σ) : JSs C n q env m σ [] Q X := fun A h₀ s F S O => wpAny_execs_nil ⟨O, .next, m, σ, rfl, S, h⟩
theorem step {st : Stmt} (h : ∀ A h₀ s, Fm C.lo C.K A h₀ env n q → St C.lo C.prog C.w h₀ env m σ s.heap → Ok C s →
      wpAny (model C.prog C.w) A (exec st env) (fun f s' => f = .next ∧ Ok C s' ∧ ∃ m' σ', St C.lo C.prog C.w h₀ env m' σ' s'.heap ∧ JSs C n q env m' σ' rest Q X) (XS C h₀ env X) s) : JSs C n q env m σ (st :: rest) Q X := fun A h₀ s F S O => by
  refine wpAny_execs_cons (wpAny_mono (h A h₀ s F S O) (fun f s' z => ?_) fun _ _ x => x)
  refine ea_AAEEA z fun ez3 O' m' σ' S' hJ => ?_; clear z; subst ez3
  exact hJ A h₀ s' F S' O'
noncomputable def Storable (env : Env) (k : NameKind) : Prop := k = .local ∨ (k = .cell ∧ env.frame = some env.locals)
theorem JSs_assign {nm : Str} {npos pos : Pos} {e : Expr} {i : Nat} {k : NameKind} (hv : IsVar env nm i k) (hk : Storable env k) (hi : i < m.length)
    (h : JE C n q env m σ e (fun v σ₁ => JSs C n q env (m.set i (some v)) σ₁ rest Q X) (fun a σ' => X a m σ')) (hs : ∀ env, swapsWith e (some (.Name nm npos)) pos.line env = pure false := by intro _; rfl) :
    JSs C n q env m σ (.Assign [.Name nm npos] e pos :: rest) Q X := step fun A h₀ s F S O => by
  refine wpAny_Assign_Name (wpAny_mono (h A h₀ s F S O) (fun v s₁ z => ?_) fun _ _ x => x.toS) (hs env)
  refine ea_AAEEAA z fun O₁ k₁ v₁ σ₁ r₁ S₁ hJ => ?_; clear z
  exact store_var F S₁ hv hk hi r₁ fun h' tk S' t => ⟨rfl, O₁, _, σ₁, S', hJ⟩
theorem JSs_ret {e : Expr} {pos : Pos} (h : JE C n q env m σ e (fun v σ₁ => Q (.ret v) m σ₁) (fun a σ' => X a m σ')) : JSs C n q env m σ (.Return (some e) pos :: rest) Q X := fun A h₀ s F S O => by
  refine wpAny_execs_cons (wpAny_Return_some (wpAny_mono (h A h₀ s F S O) (fun v s₁ z => ?_) fun _ _ x => x.toS))
  refine ea_AAEEAA z fun O₁ k₁ v₁ σ₁ r₁ S₁ hJ => ?_; clear z
  exact ⟨O₁, .ret v₁, m, σ₁, ⟨v, rfl, r₁⟩, S₁, hJ⟩
theorem JSs_brk {pos : Pos} (h : Q .brk m σ) : JSs C n q env m σ (.Break pos :: rest) Q X := fun A h₀ s F S O => by
  refine wpAny_execs_cons ?_
  show wpAny _ _ (do standAt pos; pure Flow.brk) _ _ _
  exact wpAny_bind (wpAny_standAt (wpAny_pure ⟨O, .brk, m, σ, rfl, S, h⟩))
theorem JSs_cont {pos : Pos} (h : Q .cont m σ) : JSs C n q env m σ (.Continue pos :: rest) Q X := fun A h₀ s F S O => by
  refine wpAny_execs_cons ?_
  show wpAny _ _ (do standAt pos; pure Flow.cont) _ _ _
  exact wpAny_bind (wpAny_standAt (wpAny_pure ⟨O, .cont, m, σ, rfl, S, h⟩))
theorem execs_append {a b : List Stmt} : execs (a ++ b) env = (do match ← execs a env with | .next => execs b env | f => pure f) := by
  induction a with
  | nil => rw [List.nil_append, execs_nil, pure_bind]
  | cons s r ih =>
    rw [List.cons_append, execs_cons, execs_cons, bind_assoc]
    refine congrArg _ (funext fun f => ?_)
    cases f with
    | next => exact ih
    | _ => rfl
theorem execs_If {t : Expr} {a b : List Stmt} {pos : Pos} : execs (.If t a b pos :: rest) env = (do standAt pos; if ← isTrue t env (eval t env) then execs (a ++ rest) env else execs (b ++ rest) env) := by
  rw [execs_cons, exec_If, bind_assoc]
  refine congrArg _ (funext fun _ => ?_)
  rw [bind_assoc]
  refine congrArg _ (funext fun c => ?_)
  cases c with
  | true => exact execs_append.symm
  | false => exact execs_append.symm
theorem JSs_if {t : Expr} {a b : List Stmt} {pos : Pos} (h : JB C n q env m σ t (fun c σ₁ => if c then JSs C n q env m σ₁ (a ++ rest) Q X else JSs C n q env m σ₁ (b ++ rest) Q X) (fun a σ' => X a m σ')) :
    JSs C n q env m σ (.If t a b pos :: rest) Q X := fun A h₀ s F S O => by
  rw [execs_If]
  refine wpAny_bind (wpAny_standAt (wpAny_bind (wpAny_mono (h A h₀ s F S O) (fun c s₁ z => ?_) fun _ _ x => x.toS)))
  refine ea_AAEA z fun O₁ k₁ σ₁ S₁ hJ => ?_; clear z
  cases c with
  | true => exact hJ A h₀ s₁ F S₁ O₁
  | false => exact hJ A h₀ s₁ F S₁ O₁
theorem JSs_expr {e : Expr} {pos : Pos} (h : JE C n q env m σ e (fun v σ₁ => v = .none ∧ JSs C n q env m σ₁ rest Q X) (fun a σ' => X a m σ')) (hs : ∀ env, swapsWith e none pos.line env = pure false := by intro _; rfl) :
    JSs C n q env m σ (.Expr e pos :: rest) Q X := step fun A h₀ s F S O => by
  refine wpAny_Expr (wpAny_mono (h A h₀ s F S O) (fun v s₁ z => ?_) fun _ _ x => x.toS) (by unfold interactive; rw [F.kind]; rfl) (hs env)
  refine ea_AAEEAAA z fun O₁ k₁ v₁ σ₁ r₁ S₁ ez4 hJ => ?_; clear z; subst ez4
  cases r₁
  exact ⟨rfl, O₁, m, σ₁, S₁, hJ⟩
theorem JSs_aug {nm : Str} {npos pos : Pos} {e : Expr} {i : Nat} {k : NameKind} {a : Int} (hv : IsVar env nm i k) (hk : Storable env k) (hi : m[i]? = some (some (.int a)))
    (h : JE C n q env m σ e (fun v σ₁ => ∃ b, v = .int b ∧ JSs C n q env (m.set i (some (.int (a + b)))) σ₁ rest Q X) (fun a σ' => X a m σ')) :
    JSs C n q env m σ (.AugAssign (.Name nm npos) .Add e pos :: rest) Q X := step fun A h₀ s F S O => by
  have hk' : k = .local ∨ k = .cell := hk.elim .inl fun z => .inr z.1
  refine wpAny_AugAssign_Name (load_var F S hv hk' hi fun c rc => ?_)
  obtain ⟨t, rfl⟩ := rc
  refine wpAny_mono (h A h₀ s F S O) (fun v s₁ z => ?_) fun _ _ x => x.toS
  refine ea_AAEEAAEA z fun O₁ k₁ v₁ σ₁ r₁ S₁ b ez5 hJ => ?_; clear z; subst ez5
  obtain ⟨u, rfl⟩ := r₁
  refine wpAny_iadd_int ?_
  exact store_var (s := { s₁ with toks := s₁.toks + 1 }) (v := .int (a + b)) F S₁ hv hk (List.getElem?_eq_some_iff.mp hi).1 ⟨_, rfl⟩ fun h' tk S' t => ⟨rfl, O₁, _, σ₁, S', hJ⟩
theorem JSs_setattr {o e : Expr} {name : Str} {apos pos : Pos}
    (h : JE C n q env m σ e (fun v σ₁ => JE C n q env m σ₁ o (fun ov σ₂ => ∃ x c dx fs, ov = .ref x ∧ InstIs σ₂ x c dx ∧ σ₂ dx = some (.attrs fs) ∧ ClsOk C.K c ∧ plainOver C.K c = true ∧ NoAttr C.K c name ∧ fs.length ≤ 100 ∧
      JSs C n q env m (σ₂.set dx (.attrs (putA fs name v))) rest Q X) (fun a σ' => X a m σ')) (fun a σ' => X a m σ')) (hs : ∀ env, swapsWith e (some (.Attribute o name apos)) pos.line env = pure false := by intro _; rfl) :
    JSs C n q env m σ (.Assign [.Attribute o name apos] e pos :: rest) Q X := step fun A h₀ s F S O => by
  refine plainObj_wpAny_Assign_Attribute (wpAny_mono (h A h₀ s F S O) (fun v s₁ z => ?_) fun _ _ x => x.toS) (hs env)
  refine ea_AAEEAA z fun O₁ k₁ v₁ σ₁ r₁ S₁ hJ => ?_; clear z
  refine wpAny_mono (hJ A h₀ s₁ F S₁ O₁) (fun ov s₂ z => ?_) fun _ _ x => x.toS
  refine ea_AAEEAAEEEEAAAAAAA z fun O₂ k₂ v₂ σ₂ r₂ S₂ x c dx fs ez6 I hd hc hp hn hz hJ => ?_; clear z; subst ez6
  cases r₂
  exact set_attr F S₂ I hd hc hp hn hz (r₁.mono k₂) fun h' tk S' t => ⟨rfl, O₂, m, _, S', hJ⟩
theorem JSs_augattr {o e : Expr} {name : Str} {apos pos : Pos}
    (h : JE C n q env m σ o (fun ov σ₁ => ∃ x c dx fs a, ov = .ref x ∧ InstIs σ₁ x c dx ∧ σ₁ dx = some (.attrs fs) ∧ fs.lookup name = some (.int a) ∧ ClsOk C.K c ∧ plainOver C.K c = true ∧ NoAttr C.K c name ∧ fs.length ≤ 100 ∧
      JE C n q env m σ₁ e (fun v σ₂ => ∃ b fs', v = .int b ∧ InstIs σ₂ x c dx ∧ σ₂ dx = some (.attrs fs') ∧ fs'.length ≤ 100 ∧ JSs C n q env m (σ₂.set dx (.attrs (putA fs' name (.int (a + b))))) rest Q X) (fun a σ' => X a m σ')) (fun a σ' => X a m σ')) :
    JSs C n q env m σ (.AugAssign (.Attribute o name apos) .Add e pos :: rest) Q X := step fun A h₀ s F S O => by
  refine wpAny_AugAssign_AttributeAny (wpAny_mono (h A h₀ s F S O) (fun ov s₁ z => ?_) fun _ _ x => x.toS)
  refine ea_AAEEAAEEEEEAAAAAAAA z fun O₁ k₁ v₁ σ₁ r₁ S₁ x c dx fs a ez7 I hd hl hc hp hn hz hJ => ?_; clear z; subst ez7
  cases r₁
  refine get_attr F S₁ I hd hl hc hn rfl fun cv tk rc => ?_
  obtain ⟨t, rfl⟩ := rc
  refine wpAny_mono (hJ A h₀ { s₁ with toks := tk } F S₁ O₁) (fun v s₂ z => ?_) fun _ _ x => x.toS
  refine ea_AAEEAAEEAAAA z fun O₂ k₂ v₂ σ₂ r₂ S₂ b fs' ez8 I' hd' hz' hJ => ?_; clear z; subst ez8
  obtain ⟨u, rfl⟩ := r₂
  refine wpAny_iadd_int ?_
  exact set_attr (s := { s₂ with toks := s₂.toks + 1 }) (v := .int (a + b)) F S₂ I' hd' hc hp hn hz' ⟨_, rfl⟩ fun h' tk S' t => ⟨rfl, O₂, m, _, S', hJ⟩
end
noncomputable def JA (C : Cx) (n : Nat) (q : Bool) (env : Env) (m : List (Option Val)) (t : Expr) (v : Val) (m' : List (Option Val)) : Prop :=
  ∀ A h₀ s σ cv (P : Unit → Shared → Prop) E, Fm C.lo C.K A h₀ env n q → St C.lo C.prog C.w h₀ env m σ s.heap → Ok C s → VRel s.heap v cv →
    (∀ s', Ok C s' → St C.lo C.prog C.w h₀ env m' σ s'.heap → TK s.heap s'.heap → P () s') → wpAny (model C.prog C.w) A (assign t env cv) P E s
theorem JA_name {nm : Str} {pos : Pos} {i : Nat} {k : NameKind} {v : Val} (hv : IsVar env nm i k) (hk : Storable env k) (hi : i < m.length) : JA C n q env m (.Name nm pos) v (m.set i (some v)) := fun A h₀ s σ cv P E F S O r h =>
  wpAny_assign_Name (store_var F S hv hk hi r fun h' tk S' t => h { s with heap := h', toks := tk } O S' t)
inductive JAs (D : Cx) (k : Nat) (b : Bool) (ev : Env) : List (Option Val) → List Expr → List Val → List (Option Val) → Prop
  | nil {l : List (Option Val)} : JAs D k b ev l [] [] l
  | cons {l l₁ l' : List (Option Val)} {t : Expr} {ts : List Expr} {v : Val} {vs : List Val} : JA D k b ev l t v l₁ → (∀ ev', assignEach (t :: ts) ev' = (false, assign t ev') :: assignEach ts ev') → JAs D k b ev l₁ ts vs l' → JAs D k b ev l (t :: ts) (v :: vs) l'
theorem JAs.run {ts : List Expr} {vs : List Val} {m m' : List (Option Val)} (J : JAs C n q env m ts vs m') : ∀ {A h₀ s σ cs} {P : Unit → Shared → Prop} {E : Value → Shared → Prop}, Fm C.lo C.K A h₀ env n q → St C.lo C.prog C.w h₀ env m σ s.heap → Ok C s → VRels s.heap vs cs →
    (∀ s', Ok C s' → St C.lo C.prog C.w h₀ env m' σ s'.heap → TK s.heap s'.heap → P () s') → wpAny (model C.prog C.w) A (assignInOrder ((assignEach ts env).map (·.2)) cs) P E s := by
  induction J with
  | nil =>
    intro A h₀ s σ cs P E F S O r h
    cases r
    exact wpAny_pure (h s O S (TK.refl _))
  | cons hJ he _ ih =>
    intro A h₀ s σ cs P E F S O r h
    refine ea_EEAA r fun y ys ez9 r1 r2 => ?_; clear r; subst ez9
    rw [he]
    refine wpAny_assignInOrder_more (hJ A h₀ s σ y _ _ F S O r1 fun s' O' S' t => ?_)
    exact ih F S' O' (r2.mono t) fun s'' O'' S'' t' => h s'' O'' S'' (t.trans t')
theorem JAs.len {ts : List Expr} {vs : List Val} {m m' : List (Option Val)} (J : JAs C n q env m ts vs m') : (∀ env, (assignEach ts env).length = vs.length ∧ (assignEach ts env).findIdx? (·.1) = none) := by
  induction J with
  | nil => intro env; exact ⟨rfl, rfl⟩
  | cons hJ he _ ih =>
    intro env
    rw [he]
    refine ⟨by simp [(ih env).1], ?_⟩
    rw [List.findIdx?_cons]
    simp [(ih env).2]
theorem JA_tuple {ts : List Expr} {k : Nat} {pos : Pos} {vs : List Val} {m' : List (Option Val)} (J : JAs C n true env m ts vs m') : JA C n true env m (.Tuple ts k pos) (.tup vs) m' := fun A h₀ s σ cv P E F S O r h => by
  refine ea_EEAA r fun a xs ez10 g rx => ?_; clear r; subst ez10
  have hl := J.len env
  have ht : s.heap.IsTuple a xs.toArray := ⟨_, g, rfl, 0, rfl⟩
  refine wpAny_assign_Tuple (F.hand rfl) ht (by rw [hl.1, rx.length]; simp) hl.2 fun h' hx => ?_
  have keep : ∀ b o, s.heap.get? b = some o → h'.get? b = some o := fun b o e => hx b o (Nat.ne_of_lt (Heap.lt_size e)) e
  exact J.run (s := { s with heap := h' }) F (S.ext keep) O (rx.mono (TK.of_keeps keep)) fun s' O' S' t => h s' O' S' ((TK.of_keeps keep).trans t)
theorem JSs_tuple {rest : List Stmt} {Q : MFlow → List (Option Val) → AH → Prop} {X : Addr → List (Option Val) → AH → Prop} {ts : List Expr} {k : Nat} {tpos pos : Pos} {e : Expr}
    (h : JE C n true env m σ e (fun v σ₁ => ∃ m', JA C n true env m (.Tuple ts k tpos) v m' ∧ JSs C n true env m' σ₁ rest Q X) (fun a σ' => X a m σ'))
    (hs : ∀ env, swapsWithSole [.Tuple ts k tpos] e pos.line env = pure false := by intro _; rfl) (hw : ∀ env, swappedStores [.Tuple ts k tpos] e env = pure none := by intro _; rfl) :
    JSs C n true env m σ (.Assign [.Tuple ts k tpos] e pos :: rest) Q X := step fun A h₀ s F S O => by
  refine Assign_Tuple (wpAny_mono (h A h₀ s F S O) (fun v s₁ z => ?_) fun _ _ x => x.toS) (hs env) (hw env)
  refine ea_AAEEAAEA z fun O₁ k₁ v₁ σ₁ r₁ S₁ m' hA hJ => ?_; clear z
  exact hA A h₀ s₁ σ₁ v _ _ F S₁ O₁ r₁ fun s' O' S' t => ⟨rfl, O', m', σ₁, S', hJ⟩
end
section
variable {C : Cx} {n : Nat} {q : Bool} {env : Env} {m : List (Option Val)} {σ : AH}
theorem St.weaken {h₀ h₁ h : Heap} (S : St C.lo C.prog C.w h₁ env m σ h) (k : SK C.lo h₀ h₁) : St C.lo C.prog C.w h₀ env m σ h :=
  ⟨S.loc, k.trans S.keep, fun a o e => let ⟨x, z, r⟩ := S.obj a o e; ⟨x, k.none z, r⟩⟩
structure Off (h₀ : Heap) (env : Env) (σ : AH) (it : Addr) : Prop where
  base : h₀.get? it = none
  obj : σ it = none
  loc : it ≠ env.locals
  cell : ∀ nm, (nm, it) ∉ env.cells
theorem Off.new {h₀ h : Heap} (S : St C.lo C.prog C.w h₀ env m σ h) : Off h₀ env σ h.objs.size := by
  refine ⟨S.keep.none ?_, S.fresh, Nat.ne_of_gt S.loc.size, fun nm hm => ?_⟩
  · cases e : h.get? h.objs.size with
    | none => rfl
    | some o => exact absurd (Heap.lt_size e) (Nat.lt_irrefl _)
  · refine ea_EEA (S.loc.cex _ hm) fun o _ e _ => ?_
    exact absurd (Heap.lt_size e) (Nat.lt_irrefl _)
theorem St.touch {h₀ h h' : Heap} {it : Addr} {o : Obj} (S : St C.lo C.prog C.w h₀ env m σ h) (f : Off h₀ env σ it) (ho : h.get? it = some o) (hc : ∀ xs, o ≠ tupObj xs) (hs : ∀ b ob, b ≠ it → h.get? b = some ob → h'.get? b = some ob) : St C.lo C.prog C.w h₀ env m σ h' ∧ TK h h' := by
  have tk : TK h h' := fun b xs e => hs b _ (fun z => by subst z; rw [ho] at e; cases e; exact hc _ rfl) e
  refine ⟨⟨S.loc.keep tk fun b ob hb e => ⟨ob.slots, hs b ob (fun z => ?_) e⟩, fun b ob e => ?_, fun a oa e => ?_⟩, tk⟩
  · subst z
    rcases hb with z | ⟨nm, z⟩
    · exact f.loc z
    · exact f.cell nm z
  · refine ea_EA (S.keep b ob e) fun sl g k => ?_
    exact ⟨sl, hs b _ (fun z => by subst z; rw [f.base] at e; cases e) g, k⟩
  · obtain ⟨⟨co, g, r⟩, z⟩ := S.obj a oa e
    exact ⟨⟨co, hs a _ (fun z => by subst z; rw [f.obj] at e; cases e) g, r.mono tk⟩, z⟩
noncomputable def maskL (σ : AH) (env : Env) (h : Heap) : Heap := hideAll h (maskOf σ h ++ (env.locals :: (if env.frame = some env.locals then env.cells.map (·.2) else [])))
theorem maskL_get {h : Heap} {a : Addr} {o : Obj} (e : h.get? a = some o) (n1 : σ a = none) (n2 : a ≠ env.locals) (n3 : env.frame = some env.locals → ∀ nm, (nm, a) ∉ env.cells) : (maskL σ env h).get? a = some o := hideAll_get _ e fun z => by
  rcases List.mem_append.mp z with z | z
  · exact (mem_mask.mp z).2 n1
  · rcases List.mem_cons.mp z with z | z
    · exact n2 z
    · split at z
      · rename_i hf
        refine ea_EA (List.mem_map.mp z) fun y hy ez1 => ?_; subst ez1
        exact n3 hf y.1 hy
      · cases z
theorem of_maskL {h : Heap} {a : Addr} {o : Obj} (e : (maskL σ env h).get? a = some o) : h.get? a = some o := of_hideAll _ e
theorem maskL_obj {h : Heap} {a : Addr} {o : AObj} (e : σ a = some o) (hz : a < h.objs.size) : (maskL σ env h).get? a = none := hideAll_none _ (List.mem_append_left _ (mem_mask.mpr ⟨hz, by rw [e]; simp⟩))
theorem maskL_loc {h : Heap} : (maskL σ env h).get? env.locals = none := hideAll_none _ (List.mem_append_right _ (.head _))
theorem maskL_cell {h : Heap} {y : Str × Addr} (hf : env.frame = some env.locals) (hy : y ∈ env.cells) : (maskL σ env h).get? y.2 = none := hideAll_none _ (List.mem_append_right _ (.tail _ (by rw [if_pos hf]; exact List.mem_map.mpr ⟨y, hy, rfl⟩)))
theorem maskL_tk {h₀ h h' : Heap} (S : St C.lo C.prog C.w h₀ env m σ h) (k : SK C.lo (maskL σ env h) h') : TK h h' := fun a xs e => by
  refine k.exact (maskL_get e ?_ ?_ ?_) (by simp)
  · cases z : σ a with
    | none => rfl
    | some x =>
      obtain ⟨⟨co, g, r⟩, _⟩ := S.obj a x z
      rw [e] at g; cases g
      exact absurd rfl r.noTup
  · rintro rfl
    refine ea_EAA S.loc.cls fun o ho hn _ => ?_
    rw [e] at ho; cases ho; exact hn rfl
  · intro _ nm hm
    refine ea_EEA (S.loc.cex _ hm) fun o v ho hd => ?_
    rw [e] at ho; cases ho; cases hd
theorem rebase {A : Around} {h₀ h : Heap} (F : Fm C.lo C.K A h₀ env n q) (S : St C.lo C.prog C.w h₀ env m σ h) (hf : env.frame = some env.locals → ∀ y ∈ env.cells, h₀.get? y.2 = none := by intro z; exact Fm.ownC ‹_› z) : Fm C.lo C.K A (maskL σ env h) env n q ∧ St C.lo C.prog C.w (maskL σ env h) env m σ h ∧ SK C.lo h₀ (maskL σ env h) := by
  have k : SK C.lo h₀ (maskL σ env h) := fun b o e => by
    refine ea_EA (S.keep b o e) fun sl g k => ?_
    refine ⟨sl, maskL_get g ?_ ?_ ?_, k⟩
    · cases z : σ b with
      | none => rfl
      | some x => have := (S.obj b x z).2.1; rw [e] at this; cases this
    · rintro rfl; rw [F.ownL] at e; cases e
    · intro z nm hm; rw [hf z _ hm] at e; cases e
  refine ⟨⟨F.kind, F.glob, F.blt, F.nd, F.depth, F.units, F.hand, F.apart, F.offL, maskL_loc, fun z y hy => maskL_cell z hy, F.wd.mono k, ?_, F.low⟩, ⟨S.loc, SK.of_keeps fun b o e => of_maskL e, fun a o e => ?_⟩, k⟩
  · refine ea_EAA F.frs fun l hl hr hk => ?_
    refine ⟨l, hl, hr, fun e he => ?_⟩
    refine ea_AEAA (hk e he) fun km L hfL hlo z => ?_
    refine ⟨km, L, hfL, hlo, ?_⟩
    rcases z with z | ⟨o, es, ep, ho, hc, hd⟩
    · exact .inl z
    · refine ea_EA (k L o ho) fun sl g _ => ?_
      exact .inr ⟨_, es, ep, g, hc, hd⟩
  · refine ea_AA (S.obj a o e) fun x z r => ?_
    exact ⟨x, maskL_obj e (S.lt e), r⟩
theorem pass_exc {A : Around} {h₀ h₁ : Heap} {X : Addr → List (Option Val) → AH → Prop} {e : Value} {s : Shared} (F : Fm C.lo C.K A h₁ env n q) (hf : env.frame = some env.locals) (k : SK C.lo h₀ h₁) (x : XS C h₁ env X e s) :
    notedBy (model C.prog C.w) A env (cameBackBy (model C.prog C.w) A env (XS C h₀ env X)) e s := by
  refine ea_AEEEAAAA x fun O a m' σ' ez2 S pz3 y hx => ?_; clear x; subst ez2
  refine ea_EE pz3 fun c dx hσ => ?_; clear pz3
  unfold notedBy
  refine note_st F S hf hσ y fun h' S' y' t => ?_
  unfold cameBackBy
  refine ea_EEEEEEEEAAAAAAAA (id y') fun c' dx' vs sl T oT ts fl g g0 h1 gT hT hc hd h3 hfl => ?_
  refine wpAny_bind (wpAny_field (s := { s with heap := h' }) g rfl h1 ?_)
  rw [if_neg (show ¬ ((Value.ref T == Value.none) = true) from by simp)]
  refine flight_st (s := { s with heap := h' }) S' hσ y' (.inr rfl) fun h'' S'' y'' t' => ?_
  exact ⟨O, a, m', σ', rfl, S''.weaken k, ⟨c, dx, hσ⟩, .inr (by
    refine ea_EEEEEEEEAAAA y'' fun c dx vs sl T oT ts fl z1 z2 z3 z4 z5 => ?_; clear y''
    exact ⟨c, dx, vs, sl, T, oT, ts, fl, z1, k.none z2, z3, k.none z4, z5⟩), hx⟩
noncomputable def TargetOk (t : Expr) : Prop := (∃ nm pos, t = .Name nm pos) ∨ ∃ es k pos, t = .Tuple es k pos
structure Iter (C : Cx) (it : Addr) (xs : List Val) (src : AH → Prop) (IT : Nat → Heap → Prop) : Prop where
  next : ∀ {i x A s m σ h₀ env n} {P : Option Value → Shared → Prop} {E : Value → Shared → Prop}, xs[i]? = some x → Fm C.lo C.K A h₀ env n true → St C.lo C.prog C.w h₀ env m σ s.heap → src σ → IT i s.heap →
    (∀ h' tk cv, VRel s.heap x cv → IT (i + 1) h' → (∀ b ob, b ≠ it → s.heap.get? b = some ob → h'.get? b = some ob) → P (some cv) { s with heap := h', toks := tk }) → wpAny (model C.prog C.w) A (pyNext (.ref it)) P E s
  stop : ∀ {A s m σ h₀ env n} {P : Option Value → Shared → Prop} {E : Value → Shared → Prop}, Fm C.lo C.K A h₀ env n true → St C.lo C.prog C.w h₀ env m σ s.heap → src σ → IT xs.length s.heap →
    (∀ h', (∀ b ob, b ≠ it → s.heap.get? b = some ob → h'.get? b = some ob) → P none { s with heap := h' }) → wpAny (model C.prog C.w) A (pyNext (.ref it)) P E s
  keep : ∀ {i h h'}, IT i h → (∀ o, h.get? it = some o → h'.get? it = some o) → TK h h' → IT i h'
  at_ : ∀ {i h}, IT i h → ∃ o, h.get? it = some o ∧ (∀ xs, o ≠ tupObj xs) ∧ o.cls ≠ .type "frame"
  self : ∀ {A s i} {P : Value → Shared → Prop} {E : Value → Shared → Prop}, IT i s.heap → P (.ref it) s → wpAny (model C.prog C.w) A (pyIter (.ref it)) P E s
  go : ∀ {t v A s i} {P : Unit → Shared → Prop} {E : Value → Shared → Prop}, TargetOk t → IT i s.heap → P () s → wpAny (model C.prog C.w) A (letOwnedTupleGo t (.ref it) v) P E s
theorem Iter.list {l it : Addr} (hne : it ≠ l) (xs : List Val) : Iter C it xs (fun σ => σ l = some (.list xs)) (fun i h => h.IsListIter it l i) where
  next := fun {i x A s m σ h₀ env n P E} hx F S hs hi k => by
    obtain ⟨⟨co, g, r⟩, _⟩ := S.obj l _ hs
    refine ea_EEA r fun ys u ez4 rz => ?_; clear r; rename _ => r; subst ez4
    refine ea_EA (r.get hx) fun cv hc rc => ?_
    exact wpAny_pyNext_list_item hi ⟨_, g, rfl, u, rfl⟩ (by simpa using hc) fun h' hi' hs' => k h' s.toks cv rc hi' fun b ob hb e => (hs'.2 b hb).trans e
  stop := fun {A s m σ h₀ env n P E} F S hs hi k => by
    obtain ⟨⟨co, g, r⟩, _⟩ := S.obj l _ hs
    refine ea_EEA r fun ys u ez5 rz => ?_; clear r; rename _ => r; subst ez5
    have hl : ys[xs.length]? = none := by
      have := r.length
      rw [Array.getElem?_eq_none_iff]; rw [this]; simp
    exact wpAny_pyNext_list_end (F.hand rfl) hi ⟨_, g, rfl, u, rfl⟩ hl fun h' hx => k h' fun b ob hb e => hx b ob hb e
  keep := fun {i h h'} ⟨o, ho, r⟩ k _ => ⟨o, k o ho, r⟩
  at_ := fun {i h} ⟨o, ho, hc, hd⟩ => ⟨o, ho, fun xs z => by rw [z] at hc; simp at hc, by rw [hc]; simp⟩
  self := fun {A s i P E} hi h => wpAny_pyIter_listiter hi h
  go := fun {t v A s i P E} ht hi h => by
    rcases ht with ⟨nm, pos, rfl⟩ | ⟨es, k, pos, rfl⟩
    · exact wpAny_pure h
    · cases v with
      | ref a => exact wpAny_letOwnedTupleGo_listiter hi h
      | _ => exact wpAny_pure h
theorem tup_go {M : Model} {A : Around} {s : Shared} {es : List Expr} {k : Nat} {pos : Pos} {it t a : Addr} {i : Nat} {P : Unit → Shared → Prop} {E : Value → Shared → Prop} (hi : s.heap.IsTupleIter it t i) (h : P () s) :
    wpAny M A (letOwnedTupleGo (.Tuple es k pos) (.ref it) (.ref a)) P E s := by
  refine ea_EAA hi fun pz6 ho hc hd => ?_; clear hi
  obtain ⟨oc, od, odt, osl⟩ := pz6
  dsimp only at hc hd
  subst hc hd
  unfold letOwnedTupleGo
  refine wpAny_bind (wpAny_load ho ?_)
  show wpAny _ A (if (["enumerate", "zip", "dict_itemiterator", "dict_reverseitemiterator", "odict_iterator", "itertools.zip_longest", "itertools.pairwise"].contains "tuple_iterator" && _) = true then _ else _) P E s
  rw [if_neg (by
    intro h
    rw [show (["enumerate", "zip", "dict_itemiterator", "dict_reverseitemiterator", "odict_iterator", "itertools.zip_longest", "itertools.pairwise"].contains "tuple_iterator") = false from by decide, Bool.false_and] at h
    cases h)]
  exact wpAny_pure h
theorem Iter.tuple {t it : Addr} (hne : it ≠ t) (vs : List Val) (xs : List Value) : Iter C it vs (fun _ => True) (fun i h => h.IsTupleIter it t i ∧ h.get? t = some (tupObj xs) ∧ VRels h vs xs) where
  next := fun {i x A s m σ h₀ env n P E} hx F S hs ⟨hi, ht, r⟩ k => by
    refine ea_EA (r.get hx) fun cv hc rc => ?_
    have hT : s.heap.IsTuple t xs.toArray := ⟨_, ht, rfl, 0, rfl⟩
    refine wpAny_pyNext_tuple_item hi hT (by simpa using hc) fun h' hi' hs' => ?_
    refine ea_EAA (id hi) fun oi hoi hci hdi => ?_
    have tk : TK s.heap h' := TK.but' hoi (fun ys z => by rw [z] at hci; simp at hci) hs'
    exact k h' s.toks cv rc ⟨hi', tk _ _ ht, r.mono tk⟩ fun b ob hb e => (hs'.2 b hb).trans e
  stop := fun {A s m σ h₀ env n P E} F S hs ⟨hi, ht, r⟩ k => by
    have hT : s.heap.IsTuple t xs.toArray := ⟨_, ht, rfl, 0, rfl⟩
    have hl : xs.toArray[vs.length]? = none := by rw [Array.getElem?_eq_none_iff, r.length]; simp
    exact wpAny_pyNext_tuple_end (F.hand rfl) hi hT hl fun h' hx => k h' fun b ob hb e => hx b ob hb e
  keep := fun {i h h'} ⟨⟨o, ho, z⟩, ht, r⟩ k tk => ⟨⟨o, k o ho, z⟩, tk _ _ ht, r.mono tk⟩
  at_ := fun {i h} ⟨⟨o, ho, hc, hd⟩, _⟩ => ⟨o, ho, fun xs z => by rw [z] at hc; simp at hc, by rw [hc]; simp⟩
  self := fun {A s i P E} ⟨hi, _⟩ h => wpAny_pyIter_tupleiter hi h
  go := fun {t v A s i P E} ht ⟨hi, _⟩ h => by
    rcases ht with ⟨nm, pos, rfl⟩ | ⟨es, k, pos, rfl⟩
    · exact wpAny_pure h
    · cases v with
      | ref a => exact tup_go hi h
      | _ => exact wpAny_pure h
theorem range_go {M : Model} {A : Around} {s : Shared} {es : List Expr} {k : Nat} {pos : Pos} {it a : Addr} {x l st : Int} {P : Unit → Shared → Prop} {E : Value → Shared → Prop} (hi : IsRangeIter s.heap it x l st) (h : P () s) :
    wpAny M A (letOwnedTupleGo (.Tuple es k pos) (.ref it) (.ref a)) P E s := by
  unfold letOwnedTupleGo
  refine wpAny_bind (wpAny_load hi ?_)
  show wpAny _ A (if (["enumerate", "zip", "dict_itemiterator", "dict_reverseitemiterator", "odict_iterator", "itertools.zip_longest", "itertools.pairwise"].contains "range_iterator" && _) = true then _ else _) P E s
  rw [if_neg (by
    intro h
    rw [show (["enumerate", "zip", "dict_itemiterator", "dict_reverseitemiterator", "odict_iterator", "itertools.zip_longest", "itertools.pairwise"].contains "range_iterator") = false from by decide, Bool.false_and] at h
    cases h)]
  exact wpAny_pure h
theorem Iter.range {it : Addr} (lo : Int) (k : Nat) (st : Int) : Iter C it ((List.range k).map fun (j : Nat) => .int (lo + j * st)) (fun _ => True) (fun i h => IsRangeIter h it (lo + i * st) ((k : Int) - i) st) where
  next := fun {i x A s m σ h₀ env n P E} hx F S hs hi kk => by
    rw [List.getElem?_map] at hx
    refine ea_EA (Option.map_eq_some_iff.mp hx) fun j hj ez7 => ?_; subst ez7
    have hlt : i < k := by
      rcases Nat.lt_or_ge i k with h | h
      · exact h
      · rw [List.getElem?_eq_none (by simpa using h)] at hj; cases hj
    rw [List.getElem?_range hlt] at hj; cases hj
    refine wpAny_pyNext_range_item hi (by omega) fun h' hi' hs' => kk h' _ _ ⟨_, rfl⟩ ?_ fun b ob hb e => (hs'.2 b hb).trans e
    have e1 : lo + (i : Int) * st + st = lo + ((i + 1 : Nat) : Int) * st := by rw [Int.natCast_add, Int.add_mul]; simp; omega
    have e2 : (k : Int) - i - 1 = (k : Int) - ((i + 1 : Nat) : Int) := by omega
    rw [← e1, ← e2]; exact hi'
  stop := fun {A s m σ h₀ env n P E} F S hs hi kk => by
    refine wpAny_pyNext_range_end (F.hand rfl) hi (by simp) fun h' hx => kk h' fun b ob hb e => hx b ob hb e
  keep := fun {i h h'} hi k _ => by first | exact k _ hi | (obtain ⟨o, ho, r⟩ := hi; exact ⟨o, k o ho, r⟩)
  at_ := fun {i h} hi => by first | exact ⟨_, hi, fun xs z => by simp at z, by simp⟩ | (obtain ⟨o, ho, hc, hd⟩ := hi; exact ⟨o, ho, fun xs z => by rw [z] at hc; simp at hc, by rw [hc]; simp⟩)
  self := fun {A s i P E} hi h => wpAny_pyIter_rangeiter hi h
  go := fun {t v A s i P E} ht hi h => by
    rcases ht with ⟨nm, pos, rfl⟩ | ⟨es, k, pos, rfl⟩
    · exact wpAny_pure h
    · cases v with
      | ref a => exact range_go hi h
      | _ => exact wpAny_pure h
noncomputable def Itb (C : Cx) (x : Value) (s₁ : Shared) (xs : List Val) (src : AH → Prop) : Prop :=
  ∃ IT o, Iter C s₁.heap.objs.size xs src IT ∧ o.isFreed = false ∧ IT 0 (s₁.heap.push o) ∧ ∀ A (P : Value → Shared → Prop) E, P (.ref s₁.heap.objs.size) { s₁ with heap := s₁.heap.push o } → wpAny (model C.prog C.w) A (pyIter x) P E s₁
theorem Itb.list {h₀ : Heap} {s₁ : Shared} {l : Addr} {xs : List Val} (S : St C.lo C.prog C.w h₀ env m σ s₁.heap) (hl : σ l = some (.list xs)) : Itb C (.ref l) s₁ xs (fun σ => σ l = some (.list xs)) := by
  obtain ⟨⟨co, g, r⟩, _⟩ := S.obj l _ hl
  refine ea_EEA r fun ys u ez8 rz => ?_; clear r; rename _ => r; subst ez8
  have hne : s₁.heap.objs.size ≠ l := Nat.ne_of_gt (Heap.lt_size g)
  exact ⟨_, _, Iter.list hne xs, rfl, ⟨_, Heap.get?_push_size _ rfl, rfl, rfl⟩, fun A P E h => wpAny_pyIter_list ⟨_, g, rfl, u, rfl⟩ h⟩
theorem Itb.tup {s₁ : Shared} {x : Value} {xs : List Val} (r : VRel s₁.heap (.tup xs) x) : Itb C x s₁ xs (fun _ => True) := by
  refine ea_EEAA r fun a ys ez9 g rz => ?_; clear r; rename _ => r; subst ez9
  have hne : s₁.heap.objs.size ≠ a := Nat.ne_of_gt (Heap.lt_size g)
  exact ⟨_, _, Iter.tuple hne xs ys, rfl, ⟨⟨_, Heap.get?_push_size _ rfl, rfl, rfl⟩, Heap.get?_push_of_some _ g, r.mono (TK.of_keeps fun _ _ e => Heap.get?_push_of_some _ e)⟩, fun A P E h => wpAny_pyIter_tuple ⟨_, g, rfl, 0, rfl⟩ h⟩
theorem Itb.range {s₁ : Shared} {r : Addr} {a b c : Int} {t u w : Tok} {k : Nat} (hr : IsRange s₁.heap r a b c t u w) (hsm : Builtin.Range.small a b c = true) (hk : Builtin.Range.rangeSize a b c = k) :
    Itb C (.ref r) s₁ ((List.range k).map fun (j : Nat) => .int (a + j * c)) (fun _ => True) := by
  refine ⟨_, _, Iter.range a k c, ?_, ?_, fun A P E h => wpAny_pyIter_range hr hsm (by rw [hk]; exact h)⟩
  · rfl
  · show IsRangeIter _ _ _ _ _
    rw [show a + ((0 : Nat) : Int) * c = a by simp, show (k : Int) - ((0 : Nat) : Int) = k by simp]
    exact Heap.get?_push_size _ rfl
noncomputable def JI (C : Cx) (n : Nat) (q : Bool) (env : Env) (m : List (Option Val)) (σ : AH) (e : Expr) (Q : List Val → (AH → Prop) → AH → Prop) (X : Addr → AH → Prop) : Prop :=
  ∀ A h₀ s, Fm C.lo C.K A h₀ env n q → St C.lo C.prog C.w h₀ env m σ s.heap → Ok C s → wpAny (model C.prog C.w) A (eval e env)
    (fun v s₁ => Ok C s₁ ∧ TK s.heap s₁.heap ∧ ∃ xs src σ₁, Itb C v s₁ xs src ∧ St C.lo C.prog C.w h₀ env m σ₁ s₁.heap ∧ Q xs src σ₁) (XE C h₀ env m X) s
theorem JI_list {e : Expr} {Q : List Val → (AH → Prop) → AH → Prop} {X : Addr → AH → Prop} (h : JE C n q env m σ e (fun v σ₁ => ∃ l xs, v = .ref l ∧ σ₁ l = some (.list xs) ∧ Q xs (fun σ => σ l = some (.list xs)) σ₁) X) : JI C n q env m σ e Q X := fun A h₀ s F S O => by
  refine wpAny_mono (h A h₀ s F S O) (fun v s₁ z => ?_) fun _ _ x => x
  refine ea_AAEEAAEEAA z fun O₁ k₁ v₁ σ₁ r₁ S₁ l xs ez10 hl hQ => ?_; clear z; subst ez10
  cases r₁
  exact ⟨O₁, k₁, xs, _, σ₁, Itb.list S₁ hl, S₁, hQ⟩
theorem JI_tup {e : Expr} {Q : List Val → (AH → Prop) → AH → Prop} {X : Addr → AH → Prop} (h : JE C n q env m σ e (fun v σ₁ => ∃ xs, v = .tup xs ∧ Q xs (fun _ => True) σ₁) X) : JI C n q env m σ e Q X := fun A h₀ s F S O => by
  refine wpAny_mono (h A h₀ s F S O) (fun v s₁ z => ?_) fun _ _ x => x
  refine ea_AAEEAAEA z fun O₁ k₁ v₁ σ₁ r₁ S₁ xs ez11 hQ => ?_; clear z; subst ez11
  exact ⟨O₁, k₁, xs, _, σ₁, Itb.tup r₁, S₁, hQ⟩
theorem call_any {A : Around} {h₀ : Heap} {s : Shared} {pos : Pos} {f : Value} {args : List Expr} {X : Addr → AH → Prop} {Kx : List Val → AH → Prop} {R : Value → Shared → Prop} (F : Fm C.lo C.K A h₀ env n q) (S : St C.lo C.prog C.w h₀ env m σ s.heap) (O : Ok C s) (hk : KeepF C.K f) (hp : PlainArgs args)
    (h : JEs C n q env m σ args Kx X) (hc : ∀ vs σ₂ s₁ cs, TK s.heap s₁.heap → St C.lo C.prog C.w h₀ env m σ₂ s₁.heap → Ok C s₁ → VRels s₁.heap vs cs → Kx vs σ₂ → wpAny (model C.prog C.w) A (call f cs) R (XE C h₀ env m X) s₁) :
    wpAny (model C.prog C.w) A (callWith pos f [] (backTo pos (starEach args env)) (backToKw pos (keywordEach [] env))) R (XE C h₀ env m X) s := by
  refine callWith_of (P := fun h => C.K.In h) (by rw [hp.1]; rfl) (fun h X => hk.looks h X) (args_of hp (wpAny_mono (h A h₀ s pos F S O) (fun vs s₁ z => ?_) fun _ _ x => x))
  refine ea_AAEEAA z fun O₁ k₁ vs' σ₁ r₁ S₁ h₁ => ?_; clear z
  exact ⟨(F.wd.mono S₁.keep).inK, hc _ _ _ _ k₁ S₁ O₁ r₁ h₁⟩
theorem JI_range {id : Str} {p pos : Pos} {args : List Expr} {Q : List Val → (AH → Prop) → AH → Prop} {X : Addr → AH → Prop}
    (h : JE C n q env m σ (.Name id p) (fun fv σ₁ => fv = .typ "range" ∧ JEs C n q env m σ₁ args (fun vs σ₂ => ∃ (a b c : Int) (k : Nat), ((vs = [.int b] ∧ a = 0 ∧ c = 1) ∨ (vs = [.int a, .int b, .int c] ∧ c ≠ 0 ∧ c.natAbs < 1073741824)) ∧
      Builtin.Range.small a b c = true ∧ Builtin.Range.rangeSize a b c = k ∧ Q ((List.range k).map fun (j : Nat) => .int (a + j * c)) (fun _ => True) σ₂) X) X)
    (hp : PlainArgs args := by exact ⟨fun _ _ => rfl, by first | exact .inl rfl | exact .inr ⟨_, _, rfl, fun _ => rfl⟩⟩) : JI C n q env m σ (.Call (.Name id p) args [] pos) Q X := fun A h₀ s F S O => by
  rw [arm_eval_Call_Name']
  refine wpAny_bind (wpAny_mono (h A h₀ s F S O) (fun fv s₁ z => ?_) fun _ _ x => x)
  refine ea_AAEEAAA z fun O₁ k₁ v₁ σ₁ r₁ S₁ ez12 hJ => ?_; clear z; subst ez12
  cases r₁
  refine call_any F S₁ O₁ (.inr (.inl ⟨_, rfl⟩)) hp hJ fun vs σ₂ s₂ cs k₂ S₂ O₂ r hK => ?_
  refine ea_EEEEAAA hK fun a b c k hv hsm hk hQ => ?_; clear hK
  have tk : ∀ o : Obj, TK s₂.heap (s₂.heap.push o) := fun o => TK.of_keeps fun _ _ e => Heap.get?_push_of_some _ e
  rcases hv with ⟨rfl, rfl, rfl⟩ | ⟨rfl, hc, hsmall⟩
  · refine ea_EA (vr1 r) fun _ ez13 pz14 => ?_; subst ez13
    obtain ⟨t, rfl⟩ := pz14
    refine call_range_1 ⟨O₂, k₁.trans (k₂.trans (tk _)), _, _, σ₂, Itb.range (s₁ := { s₂ with heap := _, toks := _ }) (Heap.get?_push_size _ rfl) hsm hk, S₂.push _, hQ⟩
  · refine ea_EEAAEEAAEEAA r fun _ _ ez15 pz16 _ _ ez17 pz18 _ _ ez19 pz20 ez21 => ?_; clear r; subst ez15; subst ez17; subst ez19; subst ez21
    obtain ⟨t, rfl⟩ := pz16
    obtain ⟨u, rfl⟩ := pz18
    obtain ⟨v, rfl⟩ := pz20
    exact call_range_3 hc ⟨O₂, k₁.trans (k₂.trans (tk _)), _, _, σ₂, Itb.range (s₁ := { s₂ with heap := _, toks := _ }) (Heap.get?_push_size _ rfl) hsm hk, S₂.push _, hQ⟩ (.inl (PyProof.noPylong_small hsmall))
end
section
variable {C : Cx} {n : Nat} {q : Bool} {env : Env} {m : List (Option Val)} {σ : AH}
section
variable {rest : List Stmt} {Q : MFlow → List (Option Val) → AH → Prop} {X : Addr → List (Option Val) → AH → Prop}
noncomputable def turnK (C : Cx) (n : Nat) (env : Env) (rest : List Stmt) (Q : MFlow → List (Option Val) → AH → Prop) (X : Addr → List (Option Val) → AH → Prop) (J : List (Option Val) → AH → Prop) : MFlow → List (Option Val) → AH → Prop
  | .next, m, σ => J m σ
  | .cont, m, σ => J m σ
  | .brk, m, σ => JSs C n true env m σ rest Q X
  | .ret v, m, σ => Q (.ret v) m σ
noncomputable def loopR (C : Cx) (A : Around) (h₀ : Heap) (env : Env) (rest : List Stmt) (Q : MFlow → List (Option Val) → AH → Prop) (X : Addr → List (Option Val) → AH → Prop) : Result → Shared → Prop := fun r s' =>
  match r with
  | .ok f => (match f with | .next => wpAny (model C.prog C.w) A (execs rest env) (QS C h₀ env Q) (XS C h₀ env X) s' | f => QS C h₀ env Q f s')
  | .error e => cameBackBy (model C.prog C.w) A env (XS C h₀ env X) e s'
theorem for_loop {A : Around} {h₀ : Heap} {s : Shared} {target : Expr} {body : List Stmt} {it : Addr} {xs : List Val} {src : AH → Prop} {IT : Nat → Heap → Prop} (T : Iter C it xs src IT) (I : Nat → List (Option Val) → AH → Prop)
    (turn : ∀ i x m σ, xs[i]? = some x → I i m σ → src σ ∧ ∃ m₁, JA C n true env m target x m₁ ∧ JSs C n true env m₁ σ body (turnK C n env rest Q X (I (i + 1))) X)
    (done : ∀ m σ, I xs.length m σ → src σ ∧ JSs C n true env m σ rest Q X)
    (F : Fm C.lo C.K A h₀ env n true) (hf : env.frame = some env.locals) (S : St C.lo C.prog C.w h₀ env m σ s.heap) (O : Ok C s) (hI : I 0 m σ) (hi : IT 0 s.heap) (off : Off h₀ env σ it)
    (ht : TargetOk target) :
    codeAny (model C.prog C.w) A (.forLoop target (.ref it) body [] env) (loopR C A h₀ env rest Q X) s := by
  refine codeAny_forLoop_any (fun k s => ∃ i m σ, k = xs.length - i ∧ i ≤ xs.length ∧ I i m σ ∧ IT i s.heap ∧ Off h₀ env σ it ∧ St C.lo C.prog C.w h₀ env m σ s.heap ∧ Ok C s) ?_ xs.length ⟨0, m, σ, rfl, Nat.zero_le _, hI, hi, off, S, O⟩
  intro k s hI0
  refine ea_EEEAAAAAA hI0 fun i m σ ez1 hle hI hi off S O => ?_; clear hI0; subst ez1
  refine ea_EAA (T.at_ hi) fun oi hoi hnt hnf => ?_
  by_cases hlt : i < xs.length
  · have hx : xs[i]? = some xs[i] := List.getElem?_eq_getElem hlt
    refine ea_AEA (turn i _ m σ hx hI) fun hsrc m₁ hA hB => ?_
    refine T.next hx F S hsrc hi fun h' tk cv rc hi' hs => ?_
    obtain ⟨S1, t1⟩ := S.touch off hoi hnt hs
    dsimp only
    refine T.go ht hi' ?_
    refine ea_AA (rebase F S1) fun F1 S1' k1 => ?_
    refine ea_EAA (T.at_ hi') fun oi' hoi' hnt' hnf' => ?_
    have hbase : (maskL σ env h').get? it = some oi' := maskL_get hoi' off.obj off.loc (fun _ => off.cell)
    refine hA A _ { s with heap := h', toks := tk } σ cv _ _ F1 S1' O (rc.mono t1) fun s2 O2 S2 t2 => ?_
    refine wpAny_mono (hB A _ s2 F1 S2 O2) (fun f s3 z => ?_) fun e s3 z => pass_exc F1 hf k1 z
    refine ea_AEEEAA z fun O3 f' m3 σ3 rf S3 hQ => ?_; clear z
    have S3' := S3.weaken k1
    have hI3 : I (i + 1) m3 σ3 → ∃ k', k' < xs.length - i ∧ ∃ i' m' σ', k' = xs.length - i' ∧ i' ≤ xs.length ∧ I i' m' σ' ∧ IT i' s3.heap ∧ Off h₀ env σ' it ∧ St C.lo C.prog C.w h₀ env m' σ' s3.heap ∧ Ok C s3 := fun hI' => by
      refine ⟨xs.length - (i + 1), by omega, i + 1, m3, σ3, rfl, hlt, hI', T.keep hi' (fun o ho => ?_) (maskL_tk S1 S3.keep), ⟨off.base, ?_, off.loc, off.cell⟩, S3', O3⟩
      · rw [hoi'] at ho; cases ho
        exact S3.keep.exact hbase hnf'
      · cases z : σ3 it with
        | none => rfl
        | some x => have := (S3.obj _ _ z).2.1; rw [hbase] at this; cases this
    cases f' with
    | next => cases rf; exact hI3 hQ
    | cont => cases rf; exact hI3 hQ
    | brk => cases rf; exact hQ A h₀ s3 F S3' O3
    | ret v =>
      refine ea_EA rf fun c ez2 rc => ?_; clear rf; subst ez2
      exact ⟨O3, .ret v, m3, σ3, ⟨c, rfl, rc⟩, S3', hQ⟩
  · have hi0 : i = xs.length := by omega
    subst hi0
    obtain ⟨hsrc, hD⟩ := done m σ hI
    refine T.stop F S hsrc hi fun h' hs => ?_
    obtain ⟨S1, t1⟩ := S.touch off hoi hnt hs
    exact wpAny_execs_nil (hD A h₀ { s with heap := h' } F S1 O)
theorem JSs_for {target iter : Expr} {body : List Stmt} {pos : Pos} (hf : env.frame = some env.locals) (ht : TargetOk target)
    (h : JI C n true env m σ iter (fun xs src σ₁ => ∃ I : Nat → List (Option Val) → AH → Prop, I 0 m σ₁ ∧
      (∀ i x m σ, xs[i]? = some x → I i m σ → src σ ∧ ∃ m₁, JA C n true env m target x m₁ ∧ JSs C n true env m₁ σ body (turnK C n env rest Q X (I (i + 1))) X) ∧
      (∀ m σ, I xs.length m σ → src σ ∧ JSs C n true env m σ rest Q X)) (fun a σ' => X a m σ'))
    (hs : ∀ env x, foldedSetIterable iter env x = pure x := by intro _ _; rfl) : JSs C n true env m σ (.For target iter body [] pos :: rest) Q X := fun A h₀ s F S O => by
  refine wpAny_execs_cons (wpAny_For (wpAny_mono (h A h₀ s F S O) (fun v s₁ z => ?_) fun _ _ x => x.toS) (hs env))
  refine ea_AAEEEAAEAA z fun O₁ k₁ xs src σ₁ pz3 S₁ I hI turn done => ?_; clear z
  refine ea_EEAAA pz3 fun IT o T hfr h0 hit => ?_; clear pz3
  refine hit _ _ _ ?_
  exact codeAny_mono (for_loop T I turn done F hf (S₁.push _) O₁ hI h0 (Off.new S₁) ht) fun r s' z => by
    rcases r with e | f
    · exact z
    · exact z
end
theorem JSs_while {rest : List Stmt} {Q : MFlow → List (Option Val) → AH → Prop} {X : Addr → List (Option Val) → AH → Prop} {test : Expr} {body : List Stmt} {pos : Pos} (hf : env.frame = some env.locals) (I : Nat → List (Option Val) → AH → Prop) (k : Nat) (hI : I k m σ)
    (turn : ∀ i m σ, I i m σ → JB C n true env m σ test (fun b σ₁ => if b then JSs C n true env m σ₁ body (turnK C n env rest Q X (fun m' σ' => ∃ j, j < i ∧ I j m' σ')) X else JSs C n true env m σ₁ rest Q X) (fun _ _ => False)) :
    JSs C n true env m σ (.While test body [] pos :: rest) Q X := fun A h₀ s F S O => by
  refine wpAny_execs_cons (wpAny_While ?_)
  refine codeAny_mono (R := loopR C A h₀ env rest Q X) (codeAny_whileLoop (fun i s => ∃ m σ, I i m σ ∧ St C.lo C.prog C.w h₀ env m σ s.heap ∧ Ok C s) ?_ k ⟨m, σ, hI, S, O⟩) (fun r s' z => by
    rcases r with e | f
    · exact z
    · exact z)
  intro i s hI0
  refine ea_EEAA hI0 fun m σ hI S O => ?_; clear hI0
  refine wpAny_mono (turn i m σ hI A h₀ s F S O) (fun b s₁ z => ?_) fun e s' z => by obtain ⟨_, _, _, _, _, _, _, z⟩ := z; exact z.elim
  refine ea_AAEA z fun O₁ k₁ σ₁ S₁ hJ => ?_; clear z
  cases b with
  | false => exact wpAny_execs_nil (hJ A h₀ s₁ F S₁ O₁)
  | true =>
    refine ea_AA (rebase F S₁) fun F1 S1' k1 => ?_
    refine wpAny_mono (hJ A _ s₁ F1 S1' O₁) (fun f s3 z => ?_) fun e s3 z => pass_exc F1 hf k1 z
    refine ea_AEEEAA z fun O3 f' m3 σ3 rf S3 hQ => ?_; clear z
    have S3' := S3.weaken k1
    cases f' with
    | next => cases rf; obtain ⟨j, hj, hI'⟩ := hQ; exact ⟨j, hj, m3, σ3, hI', S3', O3⟩
    | cont => cases rf; obtain ⟨j, hj, hI'⟩ := hQ; exact ⟨j, hj, m3, σ3, hI', S3', O3⟩
    | brk => cases rf; exact hQ A h₀ s3 F S3' O3
    | ret v =>
      refine ea_EA rf fun c ez4 rc => ?_; clear rf; subst ez4
      exact ⟨O3, .ret v, m3, σ3, ⟨c, rfl, rc⟩, S3', hQ⟩
end
section
variable {C : Cx} {n : Nat} {q : Bool} {env : Env} {m : List (Option Val)} {σ : AH}
theorem comp_env {M : Model} {A : Around} {E : Value → Shared → Prop} {s : Shared} {scope : Scope} {cl : List (Str × Addr)} {Q : Env → Shared → Prop} (hc : ∀ x ∈ scope.names, x.2 ≠ .cell)
    (h : Q (newEnv scope s.heap.objs.size env.globals cl env.qual none .none (some env) builtinsNs) { s with heap := s.heap.push { cls := .type "dict", data := .dict #[] } }) :
    wpAny M A (newFunctionEnv scope env.globals cl [] env.qual none .none (some env)) Q E s := by
  simp only [newFunctionEnv, Option.isSome_some, if_true]
  refine wpAny_bind (wpAny_alloc ?_)
  rw [forIn_yield_id cl (fun x hx c => by
    obtain ⟨name, kind⟩ := x
    have : (kind == NameKind.cell) = false := by simpa using hc _ hx
    simp only [this, Bool.false_eq_true, if_false])]
  refine wpAny_bind (wpAny_pure (wpAny_bind ?_))
  rw [List.forIn_nil]
  exact wpAny_pure (wpAny_pure h)
structure CompOk (env : Env) (scope : Scope) (cl : List (Str × Addr)) (m mC : List (Option Val)) : Prop where
  kind : scope.kind = .function
  loc : ∀ x ∈ scope.names, x.2 = .local → scope.names.lookup x.1 = some .local
  noc : ∀ x ∈ scope.names, x.2 ≠ .cell
  nd : (scope.names.map (·.1)).Nodup
  clos : closureFor scope env = pure cl
  sub : ∀ x ∈ cl, x ∈ env.cells
  apart : cl.Pairwise fun x y => x.2 ≠ y.2
  free : ∀ nm, (nm, NameKind.free) ∈ scope.names → env.kindOf nm = some .cell ∧ cl.lookup nm = env.cells.lookup nm
  val : ∀ (i : Nat) (nm : Str) (k : NameKind) (v : Val), scope.names[i]? = some (nm, k) → mC[i]? = some (some v) → k = .free ∧ ∃ j : Nat, env.scope.names[j]? = some (nm, NameKind.cell) ∧ m[j]? = some (some v)
theorem relabel_at {scope : Scope} {i : Nat} {nm : Str} {k : NameKind} (e : (relabel scope env).names[i]? = some (nm, k)) : ∃ k₀, scope.names[i]? = some (nm, k₀) ∧ (k = k₀ ∨ (k₀ = .free ∧ k = .cell)) := by
  unfold relabel at e
  dsimp only at e
  rw [List.getElem?_map] at e
  refine ea_EA (Option.map_eq_some_iff.mp e) fun pz1 e1 e2 => ?_
  obtain ⟨nm', k₀⟩ := pz1
  dsimp only at e2
  split at e2
  · rename_i hc
    cases e2
    refine ⟨k₀, e1, .inr ⟨?_, rfl⟩⟩
    simp only [Bool.and_eq_true, beq_iff_eq] at hc
    exact hc.1.1
  · cases e2; exact ⟨_, e1, .inl rfl⟩
theorem relabel_fst {scope : Scope} : (relabel scope env).names.map (·.1) = scope.names.map (·.1) := by
  unfold relabel
  dsimp only
  rw [List.map_map]
  refine List.map_congr_left fun x _ => ?_
  obtain ⟨a, b⟩ := x
  show (if _ then (a, NameKind.cell) else (a, b)).1 = a
  split <;> rfl
theorem comp_fm {A : Around} {h₀ h h' : Heap} {scope : Scope} {cl : List (Str × Addr)} {mC : List (Option Val)} {Cc : Addr} (K : CompOk env scope cl m mC) (F : Fm C.lo C.K A h₀ env n true) (hf : env.frame = some env.locals) (S : St C.lo C.prog C.w h₀ env m σ h)
    (hC : h.objs.size ≤ Cc) (hk : ∀ b o, h.get? b = some o → h'.get? b = some o) (hC' : h'.get? Cc = some { cls := .type "dict", data := .dict #[] }) :
    Fm C.lo C.K A (mask σ h) (compEnvC scope cl Cc env) n true ∧ St C.lo C.prog C.w (mask σ h) (compEnvC scope cl Cc env) mC σ h' := by
  have hsz : ∀ {b o}, (mask σ h).get? b = some o → b < h.objs.size := fun e => Heap.lt_size (of_mask e)
  have big : 1 < Cc := Nat.lt_of_lt_of_le (Nat.lt_trans S.loc.big S.loc.size) hC
  have hfne : env.frame ≠ some Cc := by
    rw [hf]; intro z; cases z
    exact absurd S.loc.size (Nat.not_lt.mpr hC)
  have cells : ∀ x ∈ cl, x.2 ≠ Cc := fun x hx z => by
    refine ea_EEA (S.loc.cex _ (K.sub x hx)) fun o _ e _ => ?_
    exact absurd (Heap.lt_size e) (Nat.not_lt.mpr (by rw [z]; exact hC))
  refine ⟨⟨K.kind, F.glob, F.blt, ?_, F.depth, F.units, F.hand, K.apart, cells, ?_, fun z => absurd z hfne, F.wd.mono S.maskKeep, ?_, Nat.le_trans F.low (Nat.le_trans (Nat.le_of_lt S.loc.size) hC)⟩, ⟨⟨?_, ?_, ⟨_, hC', by simp, fun z => absurd z hfne⟩, fun x hx => ?_, big⟩, SK.of_keeps fun b o e => hk b o (of_mask e), fun a o e => ?_⟩⟩
  · show ((relabel scope env).names.map (·.1)).Nodup
    rw [relabel_fst]; exact K.nd
  · cases e : (mask σ h).get? (compEnvC scope cl Cc env).locals with
    | none => rfl
    | some o => exact absurd (hsz e) (Nat.not_lt.mpr hC)
  · refine ea_EAA F.frs fun l hl _ hkk => ?_
    refine ⟨l, hl, fun z => absurd z hfne, fun e he => ?_⟩
    refine ea_AEAA (hkk e he) fun km L hfL hlo z => ?_
    refine ⟨km, L, hfL, hlo, .inr ?_⟩
    rcases z with ⟨rfl, hfr⟩ | ⟨o, es, ep, ho, hc, hdd⟩
    · refine ea_EAA S.loc.cls fun o ho _ hcl => ?_
      refine ea_EA S.loc.ns fun mc pz2 _ => ?_
      refine ea_EEEAA pz2 fun o' es ep ho' hdd _ => ?_; clear pz2
      rw [ho] at ho'; cases ho'
      exact ⟨o, es, ep, mask_get ho S.offL, hcl hfr, hdd⟩
    · refine ea_EA (S.maskKeep L o ho) fun sl g _ => ?_
      exact ⟨_, es, ep, g, hc, hdd⟩
  · refine ⟨fun _ => none, ⟨_, #[], 0, hC', rfl, fun e he => by simp at he, fun x => rfl⟩, fun i nm e v hv => ?_⟩
    refine ea_EA (relabel_at e) fun k₀ e0 hk0 => ?_
    obtain ⟨rfl, _⟩ := K.val i nm k₀ v e0 hv
    rcases hk0 with z | ⟨_, z⟩ <;> cases z
  · intro i nm k e hkk
    refine ea_EA (relabel_at e) fun k₀ e0 hk0 => ?_
    have hfree : k₀ = .free := by
      rcases hk0 with rfl | ⟨z, _⟩
      · rcases hkk with rfl | rfl
        · exact absurd rfl (K.noc _ (List.mem_of_getElem? e0))
        · rfl
      · exact z
    subst hfree
    obtain ⟨hkind, hlk⟩ := K.free nm (List.mem_of_getElem? e0)
    obtain ⟨j, hj⟩ := List.mem_iff_getElem?.mp (mem_of_lookup hkind)
    refine ea_EEAA (S.loc.cell j nm _ hj (.inl rfl)) fun c cv hc ic r => ?_
    refine ea_EA (id ic) fun oc hoc hdc => ?_
    refine ⟨c, cv, hlk.trans hc, ⟨oc, hk _ _ hoc, hdc⟩, fun v hv => ?_⟩
    refine ea_AEA (K.val i nm _ v e0 hv) fun _ j' hj' hm => ?_
    refine ea_EEAA (S.loc.cell j' nm _ hj' (.inl rfl)) fun c' cv' hc' ic' r' => ?_
    rw [hc] at hc'; cases hc'
    refine ea_EA ic' fun oc' hoc' hdc' => ?_; clear ic'
    rw [hoc] at hoc'; cases hoc'
    rw [hdc] at hdc'; cases hdc'
    refine ea_EA (r' v hm) fun y hy rr => ?_
    exact ⟨y, hy, rr.mono (TK.of_keeps hk)⟩
  · refine ea_EEA (S.loc.cex x (K.sub x hx)) fun o v ho hd => ?_
    exact ⟨o, v, hk _ _ ho, hd⟩
  · refine ea_AAAA (S.obj a o e) fun pz3 _ _ _ bg => ?_
    refine ea_EA pz3 fun co g ro => ?_; clear pz3
    have lt := S.lt e
    refine ⟨⟨co, hk _ _ g, ro.mono (TK.of_keeps hk)⟩, mask_none e lt, fun z => ?_, fun nm hm => ?_, bg⟩
    · have z' : a = Cc := z
      subst z'; exact absurd lt (Nat.not_lt.mpr hC)
    · exact (S.obj a o e).2.2.2.1 nm (K.sub _ hm)
noncomputable def JT (C : Cx) (n : Nat) (env : Env) (m : List (Option Val)) (ifs : List Expr) (σ : AH) (Q : Bool → AH → Prop) : Prop :=
  match ifs with
  | [] => Q true σ
  | [c] => JB C n true env m σ c Q (fun _ _ => False)
  | _ => False
theorem XE.false {h₀ : Heap} {e : Value} {s : Shared} {P : Prop} (x : XE C h₀ env m (fun _ _ => False) e s) : P := by
  obtain ⟨_, _, _, _, _, _, _, z⟩ := x; exact z.elim
theorem JT.run {ifs : List Expr} {Q : Bool → AH → Prop} (h : JT C n env m ifs σ Q) {A : Around} {h₀ : Heap} {s : Shared} {E : Value → Shared → Prop} (F : Fm C.lo C.K A h₀ env n true) (S : St C.lo C.prog C.w h₀ env m σ s.heap) (O : Ok C s) :
    wpAny (model C.prog C.w) A (forIn ifs true fun c r => if r = true then do let ok ← isTrue c env (eval c env); pure (ForInStep.yield ok) else pure (ForInStep.yield r)) (QB C h₀ env m s.heap Q) E s := by
  match ifs, h with
  | [], h => exact wpAny_tests_nil ⟨O, TK.refl _, σ, S, h⟩
  | [c], h => exact wpAny_tests_one (wpAny_mono (h A h₀ s F S O) (fun _ _ z => z) fun _ _ x => x.false)
  | _ :: _ :: _, h => exact h.elim
theorem append_list_at {A : Around} {s : Shared} {l : Addr} {xs : Array Value} {k : Nat} {v : Value} {prog : Program} {w : World} {Q : Value → Shared → Prop} {E : Value → Shared → Prop} (hl : s.heap.get? l = some (listOf xs k)) (hsz : xs.size ≤ sizeLine)
    (h : ∀ h' k', h'.get? l = some (listOf (xs.push v) k') → Heap.SameBut l s.heap h' → Q .none { s with heap := h' }) : wpAny (model prog w) A (call (.builtin "list.append") [.ref l, v]) Q E s := by
  exact wpAny_list_append_plain (items := xs) ⟨k, hl⟩ (fun h' hp hs => let ⟨k', e⟩ := hp; h h' k' e hs) hsz
theorem comp_loop {A : Around} {h₀ : Heap} {s s₄ : Shared} {elt target iter : Expr} {ifs : List Expr} {scope scope' : Scope} {pos : Pos} {cl : List (Str × Addr)} {it acc : Addr} {xs : List Val} {src : AH → Prop} {IT : Nat → Heap → Prop} {cenv : Env} {mC : List (Option Val)} {g : Heap}
    {R : Result → Shared → Prop} (T : Iter C it xs src IT) (I : Nat → List Val → List (Option Val) → AH → Prop)
    (turn : ∀ i x ys m σ, xs[i]? = some x → I i ys m σ → src σ ∧ ∃ m₁, JA C n true cenv m target x m₁ ∧ JT C n cenv m₁ ifs σ (fun b σ₂ => if b then JE C n true cenv m₁ σ₂ elt (fun y σ₃ => I (i + 1) (ys ++ [y]) m₁ σ₃) (fun _ _ => False) else I (i + 1) ys m₁ σ₂))
    (last : ∀ ys m σ, I xs.length ys m σ → src σ) (hz : xs.length ≤ 10000)
    (done : ∀ ys m σ s', I xs.length ys m σ → (∃ vs k, s'.heap.get? acc = some (listOf vs k) ∧ VRels s'.heap ys vs.toList) → Off g cenv σ acc → St C.lo C.prog C.w g cenv m σ s'.heap → Ok C s' → R (.ok .next) s')
    (F : Fm C.lo C.K A g cenv n true) (hfc : cenv.frame ≠ some cenv.locals) (S : St C.lo C.prog C.w g cenv mC σ s.heap) (O : Ok C s) (hI : I 0 [] mC σ) (hi : IT 0 s.heap) (off : Off g cenv σ it) (hacc : s.heap.get? acc = some (listOf #[] 0)) (offa : Off g cenv σ acc) (hne : it ≠ acc) (ht : TargetOk target) :
    codeAny (model C.prog C.w) A (.compLoop (.ListComp elt [⟨target, iter, ifs, 0⟩] scope' pos) 0 (.ref it) (.ref acc) cenv) R s := by
  refine codeAny_loop rfl (fun k s => ∃ i ys m σ, k = xs.length - i ∧ i ≤ xs.length ∧ ys.length ≤ i ∧ I i ys m σ ∧ IT i s.heap ∧ Off g cenv σ it ∧ (∃ vs k, s.heap.get? acc = some (listOf vs k) ∧ VRels s.heap ys vs.toList) ∧ Off g cenv σ acc ∧ St C.lo C.prog C.w g cenv m σ s.heap ∧ Ok C s) ?_ xs.length
    ⟨0, [], mC, σ, rfl, Nat.zero_le _, Nat.le_refl _, hI, hi, off, ⟨_, _, hacc, rfl⟩, offa, S, O⟩
  intro k s hI0
  refine ea_EEEEAAAAAAAAA hI0 fun i ys m σ ez4 hle hys hI hi off pz5 offa S O => ?_; clear hI0; subst ez4
  refine ea_EEA pz5 fun vs ks hacc rvs => ?_; clear pz5
  show wpAny _ A ((compTurn (.ListComp elt [⟨target, iter, ifs, 0⟩] scope' pos) 0 (.ref it) (.ref acc) cenv).onRaise (fun x => do noteFrame x cenv; theTreesLotGoes x)) _ _ s
  refine wpAny_noted ?_
  rw [compTurn_list]
  refine wpAny_bind (wpAny_standAt (wpAny_bind ?_))
  refine ea_EAA (T.at_ hi) fun oi hoi hnt hnf => ?_
  by_cases hlt : i < xs.length
  · have hx : xs[i]? = some xs[i] := List.getElem?_eq_getElem hlt
    refine ea_AEA (turn i _ ys m σ hx hI) fun hsrc m₁ hA hB => ?_
    refine T.next hx F S hsrc hi fun h' tk cv rc hi' hs => ?_
    obtain ⟨S1, t1⟩ := S.touch off hoi hnt hs
    have hacc1 := hs acc _ (Ne.symm hne) hacc
    dsimp only
    refine wpAny_bind (T.go ht hi' ?_)
    refine ea_AA (rebase F S1) fun F1 S1' k1 => ?_
    refine ea_EAA (T.at_ hi') fun oi' hoi' hnt' hnf' => ?_
    have hbase : (maskL σ cenv h').get? it = some oi' := maskL_get hoi' off.obj off.loc (fun z => absurd z hfc)
    have hbasea : (maskL σ cenv h').get? acc = some (listOf vs ks) := maskL_get hacc1 offa.obj offa.loc (fun z => absurd z hfc)
    refine wpAny_bind (hA A _ { s with heap := h', toks := tk } σ cv _ _ F1 S1' O (rc.mono t1) fun s2 O2 S2 t2 => ?_)
    refine wpAny_bind (wpAny_mono (hB.run (E := fun _ _ => False) F1 S2 O2) (fun ok s3 z => ?_) fun _ _ x => x.elim)
    refine ea_AAEA z fun O3 t3 σ3 S3 hQ => ?_; clear z
    have nob : ∀ {σ' m' hh a o}, St C.lo C.prog C.w (maskL σ cenv h') cenv m' σ' hh → (maskL σ cenv h').get? a = some o → σ' a = none := fun {σ' m' hh a o} S' e => by
      cases z : σ' a with
      | none => rfl
      | some x => have := (S'.obj _ _ z).2.1; rw [e] at this; cases this
    have tk3 : ∀ {hh : Heap}, SK C.lo (maskL σ cenv h') hh → TK s.heap hh := fun k => t1.trans (maskL_tk S1 k)
    cases ok with
    | false =>
      refine wpAny_pure ⟨rfl, xs.length - (i + 1), by omega, i + 1, ys, m₁, σ3, rfl, hlt, Nat.le_succ_of_le hys, hQ, T.keep hi' (fun o ho => ?_) (maskL_tk S1 S3.keep), ⟨off.base, nob S3 hbase, off.loc, off.cell⟩, ⟨vs, ks, S3.keep.exact hbasea (by simp), rvs.mono (tk3 S3.keep)⟩, ⟨offa.base, nob S3 hbasea, offa.loc, offa.cell⟩, S3.weaken k1, O3⟩
      rw [hoi'] at ho; cases ho
      exact S3.keep.exact hbase hnf'
    | true =>
      refine wpAny_bind (wpAny_bind (wpAny_mono (hQ A _ s3 F1 S3 O3) (fun y s4 z => ?_) fun _ _ x => x.false))
      refine ea_AAEEAA z fun O4 t4 y' σ4 ry S4 hQ4 => ?_; clear z
      have hacc4 := S4.keep.exact hbasea (by simp)
      have hvs : vs.toList.length = ys.length := rvs.length.symm
      refine wpAny_bind (append_list_at hacc4 (by unfold sizeLine; rw [Array.length_toList] at hvs; omega) fun h5 k5 hacc5 hs5 => ?_)
      have off5 : Off (maskL σ cenv h') cenv σ4 acc → True := fun _ => trivial
      obtain ⟨S5, t5⟩ := (S4.weaken k1).touch ⟨offa.base, nob S4 hbasea, offa.loc, offa.cell⟩ hacc4 (fun xs z => by simp at z) (fun b ob hb e => (hs5.2 b hb).trans e)
      refine wpAny_pure (wpAny_pure ⟨rfl, xs.length - (i + 1), by omega, i + 1, ys ++ [y'], m₁, σ4, rfl, hlt, by simpa using hys, hQ4, T.keep hi' (fun o ho => ?_) ((maskL_tk S1 S4.keep).trans t5), ⟨off.base, nob S4 hbase, off.loc, off.cell⟩, ⟨vs.push y, k5, hacc5, ?_⟩, ⟨offa.base, nob S4 hbasea, offa.loc, offa.cell⟩, S5, O4⟩)
      · rw [hoi'] at ho; cases ho
        exact (hs5.2 _ hne).trans (S4.keep.exact hbase hnf')
      · rw [Array.toList_push]
        exact (rvs.mono ((tk3 S4.keep).trans t5)).append (VRels.one (ry.mono t5))
  · have hi0 : i = xs.length := by omega
    subst hi0
    refine T.stop F S (last _ _ _ hI) hi fun h' hs => ?_
    obtain ⟨S1, t1⟩ := S.touch off hoi hnt hs
    exact wpAny_pure (done ys m σ _ hI ⟨vs, ks, hs acc _ (Ne.symm hne) hacc, rvs.mono t1⟩ offa S1 O)
theorem nz01 (x : Nat) : x ≠ x + 1 := by omega
theorem nz02 (x : Nat) : x ≠ x + 2 := by omega
theorem nz12 (x : Nat) : x + 1 ≠ x + 2 := by omega
theorem nz21 (x : Nat) : x + 2 ≠ x + 1 := by omega
theorem lz1 {x : Nat} (h : 1 < x) : 1 < x + 1 := by omega
theorem ltne1 {y x : Nat} (h : y < x) : x + 1 ≠ y := by omega
theorem ltne2 {y x : Nat} (h : y < x) : x + 2 ≠ y := by omega
theorem comp_whole {A : Around} {h₀ : Heap} {s₁ : Shared} {x : Value} {elt target iter : Expr} {ifs : List Expr} {scope : Scope} {pos : Pos} {cl : List (Str × Addr)} {xs : List Val} {src : AH → Prop} {mC : List (Option Val)}
    {use : Option (Value → Sem Unit)} {Qc : Value → Shared → Prop} {E : Value → Shared → Prop} (K : CompOk env scope cl m mC) (F : Fm C.lo C.K A h₀ env n true) (hf : env.frame = some env.locals) (S : St C.lo C.prog C.w h₀ env m σ s₁.heap) (O : Ok C s₁) (hx : Itb C x s₁ xs src) (ht : TargetOk target)
    (hz : xs.length ≤ 10000) (I : Nat → List Val → List (Option Val) → AH → Prop) (hI : I 0 [] mC σ)
    (turn : ∀ L i x ys m σ, xs[i]? = some x → I i ys m σ → src σ ∧ ∃ m₁, JA C n true (compEnvC scope cl L env) m target x m₁ ∧ JT C n (compEnvC scope cl L env) m₁ ifs σ (fun b σ₂ => if b then JE C n true (compEnvC scope cl L env) m₁ σ₂ elt (fun y σ₃ => I (i + 1) (ys ++ [y]) m₁ σ₃) (fun _ _ => False) else I (i + 1) ys m₁ σ₂))
    (last : ∀ ys m σ, I xs.length ys m σ → src σ)
    (done : ∀ ys mm σ' s' acc L vs k, I xs.length ys mm σ' → s'.heap.get? acc = some (listOf vs k) → VRels s'.heap ys vs.toList → Off h₀ env σ' acc → 1 < acc → σ acc = none → St C.lo C.prog C.w h₀ env m σ' s'.heap → Ok C s' → TK s₁.heap s'.heap → Off h₀ env σ' L → L ≠ acc → (∃ o, s'.heap.get? L = some o ∧ ∀ xs, o ≠ tupObj xs) → (∃ mm, s'.heap.Ns L mm) → compPost (model C.prog C.w) A E use Qc (.ref acc) L (.ok .next) s') :
    wpAny (model C.prog C.w) A (pyIter x) (fun it s₂ => wpAny (model C.prog C.w) A (newList []) (fun acc s₃ => wpAny (model C.prog C.w) A (newFunctionEnv scope env.globals cl [] env.qual none .none (some env)) (fun cenv s₄ =>
        codeAny (model C.prog C.w) A (.compStart (.ListComp elt [⟨target, iter, ifs, 0⟩] scope pos) 0 it acc { cenv with scope := relabel scope env }) (compPost (model C.prog C.w) A E use Qc acc cenv.locals) s₄) E s₃) E s₂) E s₁ := by
  refine ea_EEAAA hx fun IT o T hfr h0 hit => ?_; clear hx
  refine hit _ _ _ (wpAny_newList ?_ (by decide))
  refine comp_env K.noc ?_
  have z1 : (s₁.heap.push o).objs.size = s₁.heap.objs.size + 1 := Heap.size_push ..
  have z2 : ((s₁.heap.push o).push (listOf #[] 0)).objs.size = s₁.heap.objs.size + 2 := by rw [Heap.size_push, z1]
  have kp : ∀ b ob, s₁.heap.get? b = some ob → (((s₁.heap.push o).push (listOf #[] 0)).push { cls := .type "dict", data := .dict #[] }).get? b = some ob := fun b ob e => Heap.get?_push_of_some _ (Heap.get?_push_of_some _ (Heap.get?_push_of_some _ e))
  have hCC : (((s₁.heap.push o).push (listOf #[] 0)).push { cls := .type "dict", data := .dict #[] }).get? ((s₁.heap.push o).push (listOf #[] 0)).objs.size = some { cls := .type "dict", data := .dict #[] } := Heap.get?_push_size _ rfl
  obtain ⟨F', S'⟩ := comp_fm K F hf S (Cc := ((s₁.heap.push o).push (listOf #[] 0)).objs.size) (by rw [z2]; exact Nat.le_add_right _ _) kp hCC
  have noneAt : ∀ b, s₁.heap.objs.size ≤ b → (mask σ s₁.heap).get? b = none := fun b hb => by
    cases e : (mask σ s₁.heap).get? b with
    | none => rfl
    | some o => exact absurd (Heap.lt_size (of_mask e)) (Nat.not_lt.mpr hb)
  have sNone : ∀ b, s₁.heap.objs.size ≤ b → σ b = none := fun b hb => by
    cases e : σ b with
    | none => rfl
    | some o => exact absurd (S.lt e) (Nat.not_lt.mpr hb)
  have cNone : ∀ b, s₁.heap.objs.size ≤ b → ∀ nm, (nm, b) ∉ env.cells := fun b hb nm hm => by
    refine ea_EEA (S.loc.cex _ hm) fun o _ e _ => ?_
    exact absurd (Heap.lt_size e) (Nat.not_lt.mpr hb)
  have mkOff : ∀ b, s₁.heap.objs.size ≤ b → b ≠ ((s₁.heap.push o).push (listOf #[] 0)).objs.size → Off (mask σ s₁.heap) (compEnvC scope cl ((s₁.heap.push o).push (listOf #[] 0)).objs.size env) σ b := fun b hb hne =>
    ⟨noneAt b hb, sNone b hb, hne, fun nm hm => cNone b hb nm (K.sub _ hm)⟩
  have hh0 : IT 0 (((s₁.heap.push o).push (listOf #[] 0)).push { cls := .type "dict", data := .dict #[] }) := T.keep h0 (fun ob e => Heap.get?_push_of_some _ (Heap.get?_push_of_some _ e)) (TK.of_keeps fun b ob e => Heap.get?_push_of_some _ (Heap.get?_push_of_some _ e))
  have hacc : (((s₁.heap.push o).push (listOf #[] 0)).push { cls := .type "dict", data := .dict #[] }).get? (s₁.heap.push o).objs.size = some (listOf #[] 0) := Heap.get?_push_of_some _ (Heap.get?_push_size _ rfl)
  have hfc : (compEnvC scope cl ((s₁.heap.push o).push (listOf #[] 0)).objs.size env).frame ≠ some (compEnvC scope cl ((s₁.heap.push o).push (listOf #[] 0)).objs.size env).locals := by
    show env.frame ≠ some ((s₁.heap.push o).push (listOf #[] 0)).objs.size
    rw [hf]; intro z
    have hlt := S.loc.size
    have : env.locals = s₁.heap.objs.size + 2 := (Option.some.inj z).trans z2
    exact ltne2 hlt this.symm
  have main : ∀ R : Result → Shared → Prop, (∀ s', (∃ ys mm σ', I xs.length ys mm σ' ∧ (∃ vs k, s'.heap.get? (s₁.heap.push o).objs.size = some (listOf vs k) ∧ VRels s'.heap ys vs.toList) ∧ Off (mask σ s₁.heap) (compEnvC scope cl ((s₁.heap.push o).push (listOf #[] 0)).objs.size env) σ' (s₁.heap.push o).objs.size ∧
        St C.lo C.prog C.w (mask σ s₁.heap) (compEnvC scope cl ((s₁.heap.push o).push (listOf #[] 0)).objs.size env) mm σ' s'.heap ∧ Ok C s') → R (.ok .next) s') →
      codeAny (model C.prog C.w) A (.compLoop (.ListComp elt [⟨target, iter, ifs, 0⟩] scope pos) 0 (.ref s₁.heap.objs.size) (.ref (s₁.heap.push o).objs.size) (compEnvC scope cl ((s₁.heap.push o).push (listOf #[] 0)).objs.size env)) R { s₁ with heap := ((s₁.heap.push o).push (listOf #[] 0)).push { cls := .type "dict", data := .dict #[] } } := fun R hR =>
    comp_loop (s₄ := s₁) (h₀ := h₀) (scope := scope) (cl := cl) T I (turn _) last hz (fun ys mm σ' s' hI' hv ho S2 O2 => hR s' ⟨ys, mm, σ', hI', hv, ho, S2, O2⟩) F' hfc S' O hI hh0 (mkOff _ (Nat.le_refl _) (by rw [z2]; exact nz02 _)) hacc (mkOff _ (by rw [z1]; exact Nat.le_add_right _ _) (by rw [z1, z2]; exact nz12 _)) (by rw [z1]; exact nz01 _) ht
  have fin : ∀ s', (∃ ys mm σ', I xs.length ys mm σ' ∧ (∃ vs k, s'.heap.get? (s₁.heap.push o).objs.size = some (listOf vs k) ∧ VRels s'.heap ys vs.toList) ∧ Off (mask σ s₁.heap) (compEnvC scope cl ((s₁.heap.push o).push (listOf #[] 0)).objs.size env) σ' (s₁.heap.push o).objs.size ∧
        St C.lo C.prog C.w (mask σ s₁.heap) (compEnvC scope cl ((s₁.heap.push o).push (listOf #[] 0)).objs.size env) mm σ' s'.heap ∧ Ok C s') → compPost (model C.prog C.w) A E use Qc (.ref (s₁.heap.push o).objs.size) ((s₁.heap.push o).push (listOf #[] 0)).objs.size (.ok .next) s' := by
    intro s' hI0
    refine ea_EEEAAAA hI0 fun ys mm σ' hI' pz6 ho S2 O2 => ?_; clear hI0
    refine ea_EEA pz6 fun vs k g rv => ?_; clear pz6
    have B : St C.lo C.prog C.w h₀ env m σ' s'.heap := S.back (fun b ob e nn => mask_get e nn) S.maskKeep S2.keep fun a oa e => let ⟨w1, w2, _, _, w5⟩ := S2.obj a oa e; ⟨w1, w2, w5⟩
    have lsz := S.loc.size
    have bigsz : 1 < s₁.heap.objs.size := Nat.lt_trans S.loc.big lsz
    have oa : Off h₀ env σ' (s₁.heap.push o).objs.size := ⟨S.maskKeep.none ho.base, ho.obj, by rw [z1]; exact ltne1 lsz, cNone _ (by rw [z1]; exact Nat.le_add_right _ _)⟩
    have oL : Off h₀ env σ' ((s₁.heap.push o).push (listOf #[] 0)).objs.size := by
      refine ⟨S.maskKeep.none (noneAt _ (by rw [z2]; exact Nat.le_add_right _ _)), ?_, by rw [z2]; exact ltne2 lsz, cNone _ (by rw [z2]; exact Nat.le_add_right _ _)⟩
      cases z : σ' ((s₁.heap.push o).push (listOf #[] 0)).objs.size with
      | none => rfl
      | some x => exact absurd rfl (S2.obj _ x z).2.2.1
    refine ea_EAA S2.loc.cls fun oc hoc hnt _ => ?_
    exact done ys mm σ' s' _ _ vs k hI' g rv oa (by rw [z1]; exact lz1 bigsz) (sNone _ (by rw [z1]; exact Nat.le_add_right _ _)) B O2 (S.maskTK S2.keep) oL (by rw [z1, z2]; exact nz21 _) ⟨oc, hoc, fun xs z => hnt (by rw [z])⟩ (let ⟨mm, z, _⟩ := S2.loc.ns; ⟨mm, z⟩)
  refine codeAny_compStart_list (main _ fin) (T.self hh0 (main _ fin))
theorem comp_done {h₀ h h' : Heap} {σ' : AH} {acc L : Addr} {ys : List Val} {vs : Array Value} {k : Nat} (B : St C.lo C.prog C.w h₀ env m σ' h) (oa : Off h₀ env σ' acc) (big : 1 < acc) (g : h.get? acc = some (listOf vs k)) (rv : VRels h ys vs.toList) (oL : Off h₀ env σ' L) (hne : L ≠ acc)
    (hL : ∃ o, h.get? L = some o ∧ ∀ xs, o ≠ tupObj xs) (hs : Heap.SameBut L h h') : St C.lo C.prog C.w h₀ env m (σ'.set acc (.list ys)) h' ∧ TK h h' := by
  refine ea_EA hL fun o ho hnt => ?_; clear hL
  obtain ⟨B', t⟩ := B.touch oL ho hnt fun b ob hb e => (hs.2 b hb).trans e
  exact ⟨B'.add ⟨_, (hs.2 _ (Ne.symm hne)).trans g, vs, k, rfl, rv.mono t⟩ oa.base oa.loc oa.cell big, t⟩
theorem JE_comp {elt target iter : Expr} {ifs : List Expr} {scope : Scope} {pos : Pos} {Q : Val → AH → Prop} {X : Addr → AH → Prop} (cl : List (Str × Addr)) (mC : List (Option Val)) (hf : env.frame = some env.locals) (ht : TargetOk target) (K : CompOk env scope cl m mC)
    (h : JI C n true env m σ iter (fun xs src σ₁ => xs.length ≤ 10000 ∧ ∃ I : Nat → List Val → List (Option Val) → AH → Prop, I 0 [] mC σ₁ ∧
      (∀ L i x ys m σ, xs[i]? = some x → I i ys m σ → src σ ∧ ∃ m₁, JA C n true (compEnvC scope cl L env) m target x m₁ ∧ JT C n (compEnvC scope cl L env) m₁ ifs σ (fun b σ₂ => if b then JE C n true (compEnvC scope cl L env) m₁ σ₂ elt (fun y σ₃ => I (i + 1) (ys ++ [y]) m₁ σ₃) (fun _ _ => False) else I (i + 1) ys m₁ σ₂)) ∧
      (∀ ys mm σ', I xs.length ys mm σ' → src σ' ∧ ∀ a, σ' a = none → σ₁ a = none → Q (.ref a) (σ'.set a (.list ys)))) X)
    (hs : ∀ env x, foldedSetIterable iter env x = pure x := by intro _ _; rfl) :
    JE C n true env m σ (.ListComp elt [⟨target, iter, ifs, 0⟩] scope pos) Q X := fun A h₀ s F S O => by
  rw [eval_ListComp]
  refine wpAny_comprehension_free (g := ⟨target, iter, ifs, 0⟩) (gs := []) rfl (hs env) K.clos K.kind K.loc ?_
  refine wpAny_mono (h A h₀ s F S O) (fun x s₁ z => ?_) fun _ _ x => x
  refine ea_AAEEEAAAEAA z fun O₁ k₁ xs src σ₁ hx S₁ hz I hI turn last => ?_; clear z
  refine comp_whole K F hf S₁ O₁ hx ht hz I hI turn (fun ys mm σ' z => (last ys mm σ' z).1) fun ys mm σ' s' acc L vs k hI' g rv oa big sn B O' tk oL hne hL ⟨mL, hnL⟩ => ?_
  refine ⟨mL, hnL, fun h' hs' => ?_⟩
  obtain ⟨S3, t3⟩ := comp_done B oa big g rv oL hne hL hs'
  exact ⟨O', k₁.trans (tk.trans t3), .ref acc, _, rfl, S3, (last ys mm σ' hI').2 acc oa.obj sn⟩
theorem JSs_comp {rest : List Stmt} {Q : MFlow → List (Option Val) → AH → Prop} {X : Addr → List (Option Val) → AH → Prop} {nm : Str} {npos pos' : Pos} {i : Nat} {k : NameKind} {elt target iter : Expr} {ifs : List Expr} {scope : Scope} {pos : Pos} (cl : List (Str × Addr)) (mC : List (Option Val))
    (hv : IsVar env nm i k) (hk : Storable env k) (hi : i < m.length) (hf : env.frame = some env.locals) (ht : TargetOk target) (K : CompOk env scope cl m mC)
    (hsw : swapsWith (.ListComp elt [⟨target, iter, ifs, 0⟩] scope pos) (some (.Name nm npos)) pos'.line env = pure true)
    (h : JI C n true env m σ iter (fun xs src σ₁ => xs.length ≤ 10000 ∧ ∃ I : Nat → List Val → List (Option Val) → AH → Prop, I 0 [] mC σ₁ ∧
      (∀ L i x ys m σ, xs[i]? = some x → I i ys m σ → src σ ∧ ∃ m₁, JA C n true (compEnvC scope cl L env) m target x m₁ ∧ JT C n (compEnvC scope cl L env) m₁ ifs σ (fun b σ₂ => if b then JE C n true (compEnvC scope cl L env) m₁ σ₂ elt (fun y σ₃ => I (i + 1) (ys ++ [y]) m₁ σ₃) (fun _ _ => False) else I (i + 1) ys m₁ σ₂)) ∧
      (∀ ys mm σ', I xs.length ys mm σ' → src σ' ∧ ∀ a, σ' a = none → σ₁ a = none → JSs C n true env (m.set i (some (.ref a))) (σ'.set a (.list ys)) rest Q X)) (fun a σ' => X a m σ'))
    (hs : ∀ env x, foldedSetIterable iter env x = pure x := by intro _ _; rfl) :
    JSs C n true env m σ (.Assign [.Name nm npos] (.ListComp elt [⟨target, iter, ifs, 0⟩] scope pos) pos' :: rest) Q X := step fun A h₀ s F S O => by
  rw [exec_Assign_Name_used _ _ _ _ hsw]
  refine wpAny_bind (wpAny_standAt (wpAny_bind ?_))
  rw [arm_evalThenUse_ListComp]
  refine wpAny_bind ?_
  refine wpAny_comprehension_free (g := ⟨target, iter, ifs, 0⟩) (gs := []) rfl (hs env) K.clos K.kind K.loc ?_
  refine wpAny_mono (h A h₀ s F S O) (fun x s₁ z => ?_) fun _ _ x => x.toS
  refine ea_AAEEEAAAEAA z fun O₁ k₁ xs src σ₁ hx S₁ hz I hI turn last => ?_; clear z
  refine comp_whole K F hf S₁ O₁ hx ht hz I hI turn (fun ys mm σ' z => (last ys mm σ' z).1) fun ys mm σ' s' acc L vs k hI' g rv oa big sn B O' tk oL hne hL ⟨mL, hnL⟩ => ?_
  obtain ⟨S3, t3⟩ := comp_done B oa big g rv oL hne hL (Heap.SameBut.refl ..)
  refine ea_AA (rebase F S3) fun Fr Sr kr => ?_
  refine ea_EA hL fun oo ho hnt => ?_; clear hL
  have oL' : (σ'.set acc (.list ys)) L = none := (AH.set_ne hne).trans oL.obj
  have hbase := maskL_get (env := env) ho oL' oL.loc (fun _ => oL.cell)
  refine wpAny_assign_Name (store_var Fr Sr hv hk hi (v := .ref acc) rfl fun h2 tk2 S4 t4 => ?_)
  refine ea_EA (S4.keep L oo hbase) fun sl g2 _ => ?_
  have nsL : h2.Ns L mL := by
    refine ea_EEEAA hnL fun o' es ep ho' hd r => ?_; clear hnL
    rw [ho] at ho'; cases ho'
    exact ⟨_, es, ep, g2, hd, r⟩
  refine ⟨mL, nsL, fun h' hs' => ?_⟩
  obtain ⟨S5, t5⟩ := (S4.weaken kr).touch ⟨oL.base, oL', oL.loc, oL.cell⟩ g2 (fun xs z => by
    obtain ⟨a, b, c, d⟩ := oo
    cases z
    refine ea_EEEAA hnL fun o' es ep ho' hd r => ?_; clear hnL
    rw [ho] at ho'; cases ho'; cases hd) fun b ob hb e => (hs'.2 b hb).trans e
  exact wpAny_pure (wpAny_pure ⟨rfl, O', _, _, S5, (last ys mm σ' hI').2 acc oa.obj sn⟩)
end
section
variable {lo : Nat}
variable {C : Cx} {n : Nat} {q : Bool} {env : Env} {m : List (Option Val)} {σ : AH} {X : Addr → AH → Prop} {Q : Val → AH → Prop}
section
variable {a b : Int} {x y : Str}
theorem O_lt (h : Q (.bool (decide (a < b))) σ) : JO C n q env m σ [.int a, .int b] (cmpT .Lt) Q X := JO_pure (fun A h₀ s cs P E F r k => by
  refine ea_EEAA (vr2 r) fun _ _ ez1 pz2 pz3 => ?_; subst ez1
  obtain ⟨t, rfl⟩ := pz2
  obtain ⟨u, rfl⟩ := pz3
  exact PyProof.Rows.lt_int (k _ s.toks rfl)) h
theorem O_gt (h : Q (.bool (decide (b < a))) σ) : JO C n q env m σ [.int a, .int b] (cmpT .Gt) Q X := JO_pure (fun A h₀ s cs P E F r k => by
  refine ea_EEAA (vr2 r) fun _ _ ez4 pz5 pz6 => ?_; subst ez4
  obtain ⟨t, rfl⟩ := pz5
  obtain ⟨u, rfl⟩ := pz6
  exact PyProof.Rows.gt_int (k _ s.toks rfl)) h
theorem O_ge (h : Q (.bool (decide (b ≤ a))) σ) : JO C n q env m σ [.int a, .int b] (cmpT .GtE) Q X := JO_pure (fun A h₀ s cs P E F r k => by
  refine ea_EEAA (vr2 r) fun _ _ ez7 pz8 pz9 => ?_; subst ez7
  obtain ⟨t, rfl⟩ := pz8
  obtain ⟨u, rfl⟩ := pz9
  exact PyProof.Rows.ge_int (k _ s.toks rfl)) h
theorem O_fdiv (hb : b ≠ 0) (hs : b.natAbs < 1073741824) (h : Q (.int (a.fdiv b)) σ) : JO C n q env m σ [.int a, .int b] (opT .FloorDiv) Q X := JO_pure (fun A h₀ s cs P E F r k => by
  refine ea_EEAA (vr2 r) fun _ _ ez10 pz11 pz12 => ?_; subst ez10
  obtain ⟨t, rfl⟩ := pz11
  obtain ⟨u, rfl⟩ := pz12
  exact PyProof.Rows.floordiv_int hb (k _ _ ⟨_, rfl⟩) (.inl (PyProof.noPylong_small hs))) h
theorem O_pow (hn : 0 ≤ b) (hn2 : b ≤ 1000000) (ha : a.natAbs < 2 ^ 64) (h : Q (.int (a ^ b.toNat)) σ) : JO C n q env m σ [.int a, .int b] (opT .Pow) Q X := JO_pure (fun A h₀ s cs P E F r k => by
  refine ea_EEAA (vr2 r) fun _ _ ez13 pz14 pz15 => ?_; subst ez13
  obtain ⟨t, rfl⟩ := pz14
  obtain ⟨u, rfl⟩ := pz15
  exact PyProof.Rows.pow_int_small hn hn2 ha (k _ _ ⟨_, rfl⟩)) h
theorem O_sadd (hz : x.length + y.length ≤ sizeLine) (h : Q (.str (x ++ y)) σ) : JO C n q env m σ [.str x, .str y] (opT .Add) Q X := JO_pure (fun A h₀ s cs P E F r k => by
  refine ea_EEAA (vr2 r) fun _ _ ez16 pz17 pz18 => ?_; subst ez16
  obtain ⟨t, rfl⟩ := pz17
  obtain ⟨u, rfl⟩ := pz18
  exact PyProof.Rows.add_str (fun t' tk => k _ _ ⟨_, rfl⟩) hz) h
theorem O_isNone_none (h : Q (.bool true) σ) : JO C n q env m σ [.none, .none] (cmpT .Is) Q X := JO_pure (fun A h₀ s cs P E F r k => by
  refine ea_EEAA (vr2 r) fun _ _ ez19 ez20 ez21 => ?_; subst ez19; subst ez20; subst ez21
  exact PySem.is_none (k _ s.toks rfl)) h
theorem O_isNone_int (h : Q (.bool false) σ) : JO C n q env m σ [.int a, .none] (cmpT .Is) Q X := JO_pure (fun A h₀ s cs P E F r k => by
  refine ea_EEAA (vr2 r) fun _ _ ez22 pz23 ez24 => ?_; subst ez22; subst ez24
  obtain ⟨t, rfl⟩ := pz23
  exact PySem.is_none (k _ s.toks rfl)) h
end
theorem JE_neg {e : Expr} {pos : Pos} (h : JE C n q env m σ e (fun v σ₁ => ∃ k, v = .int k ∧ Q (.int (-k)) σ₁) X) : JE C n q env m σ (.UnaryOp .USub e pos) Q X := fun A h₀ s F S O => by
  refine wpAny_UnaryOp (wpAny_mono (h A h₀ s F S O) (fun v s₁ z => ?_) fun _ _ x => x)
  refine ea_AAEEAAEA z fun O₁ k₁ v₁ σ₁ r₁ S₁ k ez25 hQ => ?_; clear z; subst ez25
  obtain ⟨t, rfl⟩ := r₁
  exact PyProof.Rows.neg_int ⟨O₁, k₁, .int (-k), σ₁, ⟨_, rfl⟩, S₁, hQ⟩
theorem JE_and2 {e₁ e₂ : Expr} {pos : Pos} (h : JE C n q env m σ e₁ (fun v σ₁ => ∃ b, v = .bool b ∧ if b then JE C n q env m σ₁ e₂ Q X else Q (.bool false) σ₁) X) : JE C n q env m σ (.BoolOp .And [e₁, e₂] pos) Q X := fun A h₀ s F S O => by
  refine BoolOp_and (wpAny_mono (h A h₀ s F S O) (fun v s₁ z => ?_) fun _ _ x => x)
  refine ea_AAEEAAEA z fun O₁ k₁ v₁ σ₁ r₁ S₁ b ez26 hQ => ?_; clear z; subst ez26
  cases r₁
  refine wpAny_truthy_bool ?_
  cases b with
  | true => exact BoolOp_one (wpAny_mono (hQ A h₀ s₁ F S₁ O₁) (fun _ _ z => z.up k₁) fun _ _ x => x)
  | false => exact ⟨O₁, k₁, .bool false, σ₁, rfl, S₁, hQ⟩
theorem strsAre {h : Heap} : ∀ {ys : List Str} {cs : List Value}, VRels h (ys.map .str) cs → StrsAre cs ys
  | [], _, e => by cases e; exact .nil
  | y :: ys, _, ⟨_, _, rfl, ⟨t, rfl⟩, r⟩ => .cons _ _ (strsAre r)
theorem intsAre {h : Heap} : ∀ {ys : List Int} {cs : List Value}, VRels h (ys.map .int) cs → IntsAre cs ys
  | [], _, e => by cases e; exact .nil
  | y :: ys, _, ⟨_, _, rfl, ⟨t, rfl⟩, r⟩ => .cons _ _ (intsAre r)
theorem O_in_strs {x : Str} {ys : List Str} (h : Q (.bool (ys.any (· == x))) σ) : JO C n q env m σ [.str x, .tup (ys.map .str)] (cmpT .In) Q X := JO_pure (fun A h₀ s cs P E F r k => by
  refine ea_EEAAEEAA (vr2 r) fun _ _ ez27 pz28 a xs ez29 g rr => ?_; subst ez27; subst ez29
  obtain ⟨t, rfl⟩ := pz28
  exact PyProof.Rows.in_tuple_strs ⟨_, g, rfl, 0, rfl⟩ (strsAre rr) (k _ s.toks rfl)) h
theorem O_notin_strs {x : Str} {ys : List Str} (h : Q (.bool (!ys.any (· == x))) σ) : JO C n q env m σ [.str x, .tup (ys.map .str)] (cmpT .NotIn) Q X := JO_pure (fun A h₀ s cs P E F r k => by
  refine ea_EEAAEEAA (vr2 r) fun _ _ ez30 pz31 a xs ez32 g rr => ?_; subst ez30; subst ez32
  obtain ⟨t, rfl⟩ := pz31
  refine PySem.SeqRoads2.notIn_tuple (items := xs.toArray) (n := 0) (fun v => v.isStr x) (fun y hy => ?_) g ?_
  · obtain ⟨i, hi⟩ := List.mem_iff_getElem?.mp (show y ∈ xs by simpa using hy)
    have : ∃ z u, y = .str z u := by
      clear k h
      have H : ∀ {ys : List Str} {xs : List Value}, VRels s.heap (ys.map .str) xs → ∀ y ∈ xs, ∃ z u, y = .str z u := by
        intro ys
        induction ys with
        | nil => intro xs e y hy; cases e; cases hy
        | cons a l ih =>
          rintro _ ⟨_, _, rfl, ⟨t, rfl⟩, r⟩ y hy
          rcases List.mem_cons.mp hy with rfl | hy
          · exact ⟨_, _, rfl⟩
          · exact ih r y hy
      exact H rr y (List.mem_of_getElem? hi)
    refine ea_EE this fun z u ez33 => ?_; clear this; subst ez33
    exact eqGives_str z x u t
  · have e : (xs.toArray.any fun v => v.isStr x) = ys.any (· == x) := by
      rw [List.any_toArray]
      clear h k g r
      induction ys generalizing xs with
      | nil => cases rr; rfl
      | cons a l ih =>
        refine ea_EEAA rr fun _ _ ez34 pz35 r => ?_; clear rr; subst ez34
        obtain ⟨t, rfl⟩ := pz35
        rw [List.any_cons, List.any_cons, ih _ r]; rfl
    rw [e]; exact k _ s.toks rfl) h
theorem atom_is {h : Heap} {k : Atom} {c : Value} (r : VRel h k.val c) : atomIs k c = true := by
  cases k with
  | i n => obtain ⟨t, rfl⟩ := r; simp [atomIs, Value.isInt]
  | s x => obtain ⟨t, rfl⟩ := r; simp [atomIs, Value.isStrOf]
theorem items_are {prog : Program} {w : World} {h : Heap} : ∀ {ks : List Atom} {cs : List Value}, VRels h (ks.map Atom.val) cs → PySem.ItemsAre (atomKind prog w) ks cs
  | [], _, e => by cases e; exact .nil
  | k :: ks, _, ⟨_, _, rfl, r, rr⟩ => .cons (atom_is r) (items_are rr)
theorem St.dict {h₀ h : Heap} (S : St C.lo C.prog C.w h₀ env m σ h) {d : Addr} {f : Atom → Option Val} {k : Nat} (e : σ d = some (.dict f k)) :
    (d == sysModules) = false ∧ ∃ kvs : List (Atom × Value), h.DictOf (atomKind C.prog C.w) d kvs ∧ kvs.length ≤ k ∧ ∀ x, VO h (f x) (valueAt kvs x) := by
  refine ea_AAAA (S.obj d _ e) fun pz36 _ _ _ big => ?_
  refine ea_EAEAA pz36 fun co g kvs r z v => ?_; clear pz36
  exact ⟨beq_eq_false_iff_ne.mpr (Nat.ne_of_gt big), kvs, Heap.dictOf_iff.mpr ⟨co, g, r⟩, z, v⟩
theorem St.tdict {h₀ h : Heap} (S : St C.lo C.prog C.w h₀ env m σ h) {d : Addr} {f : List Atom → Option Val} {k : Nat} (e : σ d = some (.tdict f k)) :
    (d == sysModules) = false ∧ ∃ xs : List (List Atom × Addr × Value), h.DictOfH (tupleKind (atomKind C.prog C.w)) d xs ∧ xs.length ≤ k ∧
      (∀ x ∈ xs, ∃ ys, h.get? x.2.1 = some (tupObj ys) ∧ PySem.ItemsAre (atomKind C.prog C.w) x.1 ys) ∧ ∀ x, VO h (f x) ((atKey xs x).map (·.2)) := by
  refine ea_AAAA (S.obj d _ e) fun pz37 _ _ _ big => ?_
  refine ea_EAEEAAAA pz37 fun co g xs ep ez38 z nd ks v => ?_; clear pz37; subst ez38
  refine ⟨beq_eq_false_iff_ne.mpr (Nat.ne_of_gt big), xs, ⟨_, _, ep, g, ⟨rfl, rfl, rfl⟩, rfl, by simp, fun x hx => ?_, nd⟩, z, ks, v⟩
  refine ea_EA (ks x hx) fun ys gy iy => ?_
  exact ⟨_, _, 0, gy, rfl, rfl, by simpa using iy⟩
theorem tup_key {h : Heap} {ks : List Atom} {c : Value} {prog : Program} {w : World} (r : VRel h (.tup (ks.map Atom.val)) c) : ∃ a ys, c = .ref a ∧ h.get? a = some (tupObj ys) ∧ PySem.ItemsAre (atomKind prog w) ks ys ∧ (tupleKind (atomKind prog w)).is h ks a := by
  refine ea_EEAA r fun a ys ez39 g rr => ?_; clear r; subst ez39
  exact ⟨a, ys, rfl, g, items_are rr, _, _, 0, g, rfl, rfl, by simpa using items_are rr⟩
theorem Fm.room {K : Frag} {A : Around} {h₀ : Heap} (F : Fm lo K A h₀ env n q) : A.in1.units < cLine := by
  have := F.units
  show A.units + 1 < 9900
  omega
section
variable {f : Atom → Option Val} {k : Atom} {d : Addr} {z : Nat} {v : Val} {g : List Atom → Option Val} {ks : List Atom}
theorem O_in (hd : σ d = some (.dict f z)) (h : Q (.bool (f k).isSome) σ) : JO C n q env m σ [k.val, .ref d] (cmpT .In) Q X := fun A h₀ s cs F S O r => by
  refine ea_EEAA (vr2 r) fun _ _ ez40 rk ez41 => ?_; subst ez40; subst ez41
  refine ea_AEAA (S.dict hd) fun ne kvs D _ hv => ?_
  refine wpAny_in_of (knd := atomKind C.prog C.w) (k := k) (atom_is rk) ne D.mapOf ?_
  have e : (valueAt kvs k).isSome = (f k).isSome := by
    have := hv k
    cases hf : f k with
    | none => rw [hf] at this; have t : valueAt kvs k = none := this; rw [t]; rfl
    | some x => rw [hf] at this; obtain ⟨y, e, _⟩ := this; rw [e]; rfl
  rw [e]
  exact ⟨O, TK.refl _, .bool (f k).isSome, σ, rfl, S, h⟩
theorem O_notin (hd : σ d = some (.dict f z)) (h : Q (.bool (!(f k).isSome)) σ) : JO C n q env m σ [k.val, .ref d] (cmpT .NotIn) Q X := fun A h₀ s cs F S O r => by
  refine ea_EEAA (vr2 r) fun _ _ ez42 rk ez43 => ?_; subst ez42; subst ez43
  refine ea_AEAA (S.dict hd) fun ne kvs D _ hv => ?_
  refine wpAny_notIn_of (knd := atomKind C.prog C.w) (k := k) (atom_is rk) ne D.mapOf ?_
  have e : (valueAt kvs k).isSome = (f k).isSome := by
    have := hv k
    cases hf : f k with
    | none => rw [hf] at this; have t : valueAt kvs k = none := this; rw [t]; rfl
    | some x => rw [hf] at this; obtain ⟨y, e, _⟩ := this; rw [e]; rfl
  rw [e]
  exact ⟨O, TK.refl _, .bool (!(f k).isSome), σ, rfl, S, h⟩
theorem VO.isSome {h : Heap} {a : Option Val} {b : Option Value} (r : VO h a b) : b.isSome = a.isSome := by
  cases a with
  | none => have t : b = none := r; rw [t]; rfl
  | some x => obtain ⟨y, e, _⟩ := r; rw [e]; rfl
theorem isSome_map {α β : Type} (x : Option α) (f : α → β) : (x.map f).isSome = x.isSome := by cases x <;> rfl
theorem O_int (hd : σ d = some (.tdict g z)) (h : Q (.bool (g ks).isSome) σ) : JO C n q env m σ [.tup (ks.map Atom.val), .ref d] (cmpT .In) Q X := fun A h₀ s cs F S O r => by
  refine ea_EEAA (vr2 r) fun _ _ ez44 rk ez45 => ?_; subst ez44; subst ez45
  refine ea_AEAAA (S.tdict hd) fun ne xs D _ _ hv => ?_
  refine ea_EEAAA (tup_key (prog := C.prog) (w := C.w) rk) fun a ys ez46 ga ia ka => ?_; subst ez46
  refine wpAny_in_heap (knd := tupleKind (atomKind C.prog C.w)) F.room ka ne D ?_
  have e := VO.isSome (hv ks)
  rw [isSome_map] at e
  rw [e]
  exact ⟨O, TK.refl _, .bool (g ks).isSome, σ, rfl, S, h⟩
theorem O_notint (hd : σ d = some (.tdict g z)) (h : Q (.bool (!(g ks).isSome)) σ) : JO C n q env m σ [.tup (ks.map Atom.val), .ref d] (cmpT .NotIn) Q X := fun A h₀ s cs F S O r => by
  refine ea_EEAA (vr2 r) fun _ _ ez47 rk ez48 => ?_; subst ez47; subst ez48
  refine ea_AEAAA (S.tdict hd) fun ne xs D _ _ hv => ?_
  refine ea_EEAAA (tup_key (prog := C.prog) (w := C.w) rk) fun a ys ez49 ga ia ka => ?_; subst ez49
  refine wpAny_notIn_heap (knd := tupleKind (atomKind C.prog C.w)) F.room ka ne D ?_
  have e := VO.isSome (hv ks)
  rw [isSome_map] at e
  rw [e]
  exact ⟨O, TK.refl _, .bool (!(g ks).isSome), σ, rfl, S, h⟩
theorem C_get (hd : σ d = some (.dict f z)) (h : Q ((f k).getD v) σ) : JC C n q env m σ (.builtin "dict.get") [.ref d, k.val, v] Q X := fun A h₀ s cs F S O r => by
  refine ea_EEAAEEAAEEAA r fun _ _ ez50 ez51 _ _ ez52 rk _ _ ez53 rv ez54 => ?_; clear r; subst ez50; subst ez51; subst ez52; subst ez53; subst ez54
  refine ea_AEAA (S.dict hd) fun ne kvs D _ hv => ?_
  refine call_meetsIn PySem.F.slot_dict_get D.typeIs PySem.F.entry_dict_get (PySem.F.args_dict_get_3 _ _ _) (meets_dict_get_default (atomKind C.prog C.w) d (k := k) (atom_is rk) ne _) ⟨_, D.mapOf, ?_⟩
  refine ⟨O, TK.refl _, (f k).getD v, σ, ?_, S, h⟩
  have := hv k
  cases hf : f k with
  | none => rw [hf] at this; have t : valueAt kvs k = none := this; rw [t]; exact rv
  | some x => rw [hf] at this; obtain ⟨y, e, ry⟩ := this; rw [e]; exact ry
theorem C_gett (hd : σ d = some (.tdict g z)) (h : Q ((g ks).getD v) σ) : JC C n q env m σ (.builtin "dict.get") [.ref d, .tup (ks.map Atom.val), v] Q X := fun A h₀ s cs F S O r => by
  refine ea_EEAAEEAAEEAA r fun _ _ ez55 ez56 _ _ ez57 rk _ _ ez58 rv ez59 => ?_; clear r; subst ez55; subst ez56; subst ez57; subst ez58; subst ez59
  refine ea_AEAAA (S.tdict hd) fun ne xs D _ _ hv => ?_
  refine ea_EEAAA (tup_key (prog := C.prog) (w := C.w) rk) fun a ys ez60 ga ia ka => ?_; subst ez60
  refine call_meetsIn PySem.F.slot_dict_get D.typeIs PySem.F.entry_dict_get (PySem.F.args_dict_get_3 _ _ _) (meetsH_dict_get_default (tupleKind (atomKind C.prog C.w)) d a ne _) ⟨F.room, ks, xs, ka, D, ?_⟩
  refine ⟨O, TK.refl _, (g ks).getD v, σ, ?_, S, h⟩
  have := hv ks
  cases hf : g ks with
  | none => rw [hf] at this; have t : (atKey xs ks).map (·.2) = none := this; rw [t]; exact rv
  | some x => rw [hf] at this; obtain ⟨y, e, ry⟩ := this; rw [e]; exact ry
end
end
section
variable {C : Cx} {n : Nat} {q : Bool} {env : Env} {m : List (Option Val)} {σ : AH} {X : Addr → AH → Prop} {Q : Val → AH → Prop}
theorem St.list {h₀ h : Heap} (S : St C.lo C.prog C.w h₀ env m σ h) {l : Addr} {vs : List Val} (e : σ l = some (.list vs)) : ∃ xs k, h.get? l = some (listOf xs k) ∧ VRels h vs xs.toList ∧ h.IsList l xs ∧ xs.size = vs.length := by
  obtain ⟨⟨co, g, xs, k, rfl, r⟩, _⟩ := S.obj l _ e
  exact ⟨xs, k, g, r, ⟨_, g, rfl, k, rfl⟩, by have := r.length; simpa using this.symm⟩
theorem St.newList {h₀ h : Heap} (S : St C.lo C.prog C.w h₀ env m σ h) {vs : List Val} {xs : Array Value} {k : Nat} (r : VRels h vs xs.toList) : St C.lo C.prog C.w h₀ env m (σ.set h.objs.size (.list vs)) (h.push (listOf xs k)) ∧ TK h (h.push (listOf xs k)) := by
  have tk : TK h (h.push (listOf xs k)) := TK.of_keeps fun _ _ e => Heap.get?_push_of_some _ e
  exact ⟨S.addNew rfl ⟨xs, k, rfl, r.mono tk⟩, tk⟩
theorem JE_list {es : List Expr} {pos : Pos} (h : JEs C n q env m σ es (fun vs σ₁ => vs.length ≤ sizeLine ∧ ∀ a, σ₁ a = none → Q (.ref a) (σ₁.set a (.list vs))) X) : JE C n q env m σ (.List es pos) Q X := fun A h₀ s F S O => by
  refine wpAny_List_spliced (wpAny_mono (h A h₀ s pos F S O) (fun vs s₁ z => ?_) fun _ _ x => x)
  refine ea_AAEEAAA z fun O₁ k₁ v₁ σ₁ r₁ S₁ hz hQ => ?_; clear z
  obtain ⟨S2, t2⟩ := S₁.newList (xs := vs.toArray) (k := 0) (by simpa using r₁)
  exact ⟨by rw [← r₁.length]; exact hz, O₁, k₁.trans t2, .ref _, _, rfl, S2, hQ _ S₁.fresh⟩
theorem JE_tuple {es : List Expr} {kk : Nat} {pos : Pos} (h : JEs C n q env m σ es (fun vs σ₁ => vs.length ≤ sizeLine ∧ Q (.tup vs) σ₁) X) : JE C n q env m σ (.Tuple es kk pos) Q X := fun A h₀ s F S O => by
  refine wpAny_Tuple_spliced (wpAny_mono (h A h₀ s pos F S O) (fun vs s₁ z => ?_) fun _ _ x => x)
  refine ea_AAEEAAA z fun O₁ k₁ v₁ σ₁ r₁ S₁ hz hQ => ?_; clear z
  have tk : TK s₁.heap (s₁.heap.push (tupObj vs)) := TK.of_keeps fun _ _ e => Heap.get?_push_of_some _ e
  exact ⟨by rw [← r₁.length]; exact hz, O₁, k₁.trans tk, .tup v₁, σ₁, ⟨_, vs, rfl, Heap.get?_push_size _ rfl, r₁.mono tk⟩, S₁.push _, hQ⟩
theorem JE_dict0 {pos : Pos} (h : ∀ a, σ a = none → Q (.ref a) (σ.set a (.dict (fun _ => none) 0))) : JE C n q env m σ (.Dict [] [] pos) Q X := fun A h₀ s F S O => by
  refine wpAny_Dict_empty ?_
  exact ⟨O, TK.of_keeps fun _ _ e => Heap.get?_push_of_some _ e, .ref _, _, rfl, S.addNew (o := .dict (fun _ => Option.none) 0) rfl ⟨[], ⟨#[], 0, ⟨rfl, rfl, rfl⟩, rfl, (fun e he => by simp at he), .nil, List.nodup_nil⟩, Nat.le_refl _, fun _ => rfl⟩, h _ S.fresh⟩
theorem JE_tdict0 {pos : Pos} (h : ∀ a, σ a = none → Q (.ref a) (σ.set a (.tdict (fun _ => none) 0))) : JE C n q env m σ (.Dict [] [] pos) Q X := fun A h₀ s F S O => by
  refine wpAny_Dict_empty ?_
  exact ⟨O, TK.of_keeps fun _ _ e => Heap.get?_push_of_some _ e, .ref _, _, rfl, S.addNew (o := .tdict (fun _ => Option.none) 0) rfl ⟨[], 0, rfl, Nat.le_refl _, List.nodup_nil, (fun e he => by simp at he), fun _ => rfl⟩, h _ S.fresh⟩
theorem O_ladd {l b : Addr} {vs ws : List Val} (hl : σ l = some (.list vs)) (hb : σ b = some (.list ws)) (hz : vs.length + ws.length ≤ sizeLine) (h : ∀ a, σ a = none → Q (.ref a) (σ.set a (.list (vs ++ ws)))) : JO C n q env m σ [.ref l, .ref b] (opT .Add) Q X := fun A h₀ s cs F S O r => by
  refine ea_EEAA (vr2 r) fun _ _ ez1 ez2 ez3 => ?_; subst ez1; subst ez2; subst ez3
  refine ea_EEAAA (S.list hl) fun xs k g rx _ zx => ?_
  refine ea_EEAAA (S.list hb) fun ys k' g' ry _ zy => ?_
  obtain ⟨S2, t2⟩ := S.newList (vs := vs ++ ws) (xs := xs ++ ys) (k := 0) (by rw [Array.toList_append]; exact rx.append ry)
  exact PySem.P.add_list (items := xs) (items2 := ys) (n := k) (n2 := k') g g' ⟨O, t2, .ref _, _, rfl, S2, h _ S.fresh⟩ (by rw [zx, zy]; exact hz)
theorem C_append {l : Addr} {vs : List Val} {v : Val} (hl : σ l = some (.list vs)) (hz : vs.length ≤ sizeLine) (h : Q .none (σ.set l (.list (vs ++ [v])))) : JC C n q env m σ (.builtin "list.append") [.ref l, v] Q X := fun A h₀ s cs F S O r => by
  refine ea_EEAA (vr2 r) fun _ _ ez4 ez5 rv => ?_; subst ez4; subst ez5
  refine ea_EEAAA (S.list hl) fun xs k g rx _ zx => ?_
  refine append_list_at g (by rw [zx]; exact hz) fun h' k' g' hs => ?_
  have tk : TK s.heap h' := TK.but g (by simp) hs
  exact ⟨O, tk, .none, _, rfl, S.upd (o := .list (vs ++ [v])) hl hs ⟨_, g', _, _, rfl, by rw [Array.toList_push]; exact rx.append (VRels.one rv)⟩, h⟩
theorem C_count {l : Addr} {ns : List Int} {k : Int} (hl : σ l = some (.list (ns.map .int))) (h : Q (.int (ns.count k : Nat)) σ) : JC C n q env m σ (.builtin "list.count") [.ref l, .int k] Q X := fun A h₀ s cs F S O r => by
  refine ea_EEAA (vr2 r) fun _ _ ez6 ez7 pz8 => ?_; subst ez6; subst ez7
  obtain ⟨t, rfl⟩ := pz8
  refine ea_EEAAA (S.list hl) fun xs kk g rx il zx => ?_
  exact PyProof.Rows.count_list_ints (vs := xs.toList) (by simpa using il) (intsAre rx) ⟨O, TK.refl _, .int _, σ, ⟨_, rfl⟩, S, h⟩
theorem C_len {l : Addr} {vs : List Val} (hl : σ l = some (.list vs)) (hz : vs.length ≤ sizeLine) (h : Q (.int vs.length) σ) : JC C n q env m σ (.builtin "len") [.ref l] Q X := fun A h₀ s cs F S O r => by
  refine ea_EA (vr1 r) fun _ ez9 ez10 => ?_; subst ez9; subst ez10
  refine ea_EEAAA (S.list hl) fun xs k g rx il zx => ?_
  exact call_len_list il (by rw [zx]; unfold sizeLine at hz; omega) ⟨O, TK.refl _, .int vs.length, σ, ⟨_, by rw [zx]⟩, S, h⟩
theorem C_list {l : Addr} {vs : List Val} (hl : σ l = some (.list vs)) (hz : vs.length ≤ sizeLine) (h : ∀ a, σ a = none → Q (.ref a) (σ.set a (.list vs))) : JC C n q env m σ (.type "list") [.ref l] Q X := fun A h₀ s cs F S O r => by
  refine ea_EA (vr1 r) fun _ ez11 ez12 => ?_; subst ez11; subst ez12
  refine ea_EEAAA (S.list hl) fun xs k g rx il zx => ?_
  refine call_list_seq l (.inl rfl) g rfl rfl (fun h' c' hk hD => ?_) (by rw [zx]; exact hz)
  have tk : TK s.heap h' := TK.of_keeps hk
  have S' := S.ext hk
  refine ⟨O, tk, .ref _, _, rfl, S'.add (o := .list vs) ⟨_, hD, xs, c', rfl, rx.mono tk⟩ (Off.new S).base (Off.new S).loc (Off.new S).cell (Nat.lt_trans S.loc.big S.loc.size), h _ S.fresh⟩
theorem C_tuple {vs : List Val} (h : Q (.tup vs) σ) : JC C n q env m σ (.type "tuple") [.tup vs] Q X := fun A h₀ s cs F S O r => by
  refine ea_EAEEAA (vr1 r) fun _ ez13 a xs ez14 g rx => ?_; subst ez13; subst ez14
  exact call_tuple_same ⟨_, g, rfl, 0, rfl⟩ ⟨O, TK.refl _, .tup vs, σ, ⟨a, xs, rfl, g, rx⟩, S, h⟩
theorem C_str {k : Int} (hk : k.natAbs.log2 < 1920) (h : Q (.str (toString k)) σ) : JC C n q env m σ (.type "str") [.int k] Q X := fun A h₀ s cs F S O r => by
  refine ea_EA (vr1 r) fun _ ez15 pz16 => ?_; subst ez15
  obtain ⟨t, rfl⟩ := pz16
  exact PySem.P.str_of_int hk ⟨O, TK.refl _, .str _, σ, ⟨_, rfl⟩, S, h⟩
theorem C_min2 {a b : Int} (h : Q (.int (min a b)) σ) : JC C n true env m σ (.builtin "min") [.int a, .int b] Q X := fun A h₀ s cs F S O r => by
  refine ea_EEAA (vr2 r) fun _ _ ez17 pz18 pz19 => ?_; subst ez17
  obtain ⟨t, rfl⟩ := pz18
  obtain ⟨u, rfl⟩ := pz19
  refine min_two_ints (F.hand rfl) fun h' tk hk => ?_
  have e : ∃ t', (if b < a then Value.int b u else Value.int a t) = .int (min a b) t' := by
    split
    · exact ⟨u, by rw [show min a b = b by omega]⟩
    · exact ⟨t, by rw [show min a b = a by omega]⟩
  exact ⟨O, TK.of_keeps hk, .int _, σ, e, S.ext hk, h⟩
theorem C_max2 {a b : Int} (h : Q (.int (max a b)) σ) : JC C n true env m σ (.builtin "max") [.int a, .int b] Q X := fun A h₀ s cs F S O r => by
  refine ea_EEAA (vr2 r) fun _ _ ez20 pz21 pz22 => ?_; subst ez20
  obtain ⟨t, rfl⟩ := pz21
  obtain ⟨u, rfl⟩ := pz22
  refine max_two_ints (F.hand rfl) fun h' tk hk => ?_
  have e : ∃ t', (if b > a then Value.int b u else Value.int a t) = .int (max a b) t' := by
    split
    · exact ⟨u, by rw [show max a b = b by omega]⟩
    · exact ⟨t, by rw [show max a b = a by omega]⟩
  exact ⟨O, TK.of_keeps hk, .int _, σ, e, S.ext hk, h⟩
theorem C_minl {l : Addr} {ns : List Int} (hl : σ l = some (.list (ns.map .int))) (hne : 0 < ns.length) (h : ∀ M, M ∈ ns → (∀ a ∈ ns, M ≤ a) → Q (.int M) σ) : JC C n true env m σ (.builtin "min") [.ref l] Q X := fun A h₀ s cs F S O r => by
  refine ea_EA (vr1 r) fun _ ez23 ez24 => ?_; subst ez23; subst ez24
  refine ea_EEAAA (S.list hl) fun ys k g rx il zx => ?_
  have hi := intsAre rx
  obtain ⟨xs, e⟩ := hi.allInts.items
  have hns : ns = xs.toList.map (·.1) := by rw [← hi.numsOf, ← nums_intItems, ← e]
  have hsz : 0 < xs.size := by have h3 := hne; rw [hns, List.length_map, Array.length_toList] at h3; exact h3
  have il' : s.heap.IsList l (intItems xs) := by rw [← e]; simpa using il
  refine min_intList (F.hand rfl) il' hsz fun v h' tk hv hk => ?_
  obtain ⟨t, rfl⟩ := intItems_at hv
  obtain ⟨h1, h2⟩ := argBest_lt (numAt xs) (xs.size - 1)
  refine ⟨O, TK.of_keeps hk, .int _, σ, ⟨_, rfl⟩, S.ext hk, h _ ?_ fun a ha => ?_⟩
  · rw [hns, numAt_eq]; exact getD_mem (by rw [List.length_map, Array.length_toList]; omega)
  · rw [hns] at ha
    refine ea_EA (mem_getD ha) fun j hj ez25 => ?_; subst ez25
    rw [List.length_map, Array.length_toList] at hj
    rw [← numAt_eq]; exact h2 j (by omega)
theorem C_maxl {l : Addr} {ns : List Int} (hl : σ l = some (.list (ns.map .int))) (hne : 0 < ns.length) (h : ∀ M, M ∈ ns → (∀ a ∈ ns, a ≤ M) → Q (.int M) σ) : JC C n true env m σ (.builtin "max") [.ref l] Q X := fun A h₀ s cs F S O r => by
  refine ea_EA (vr1 r) fun _ ez26 ez27 => ?_; subst ez26; subst ez27
  refine ea_EEAAA (S.list hl) fun ys k g rx il zx => ?_
  have hi := intsAre rx
  obtain ⟨xs, e⟩ := hi.allInts.items
  have hns : ns = xs.toList.map (·.1) := by rw [← hi.numsOf, ← nums_intItems, ← e]
  have hsz : 0 < xs.size := by have h3 := hne; rw [hns, List.length_map, Array.length_toList] at h3; exact h3
  have il' : s.heap.IsList l (intItems xs) := by rw [← e]; simpa using il
  refine max_intList (F.hand rfl) il' hsz fun v h' tk hv hk => ?_
  obtain ⟨t, rfl⟩ := intItems_at hv
  obtain ⟨h1, h2⟩ := argBest_gt (numAt xs) (xs.size - 1)
  refine ⟨O, TK.of_keeps hk, .int _, σ, ⟨_, rfl⟩, S.ext hk, h _ ?_ fun a ha => ?_⟩
  · rw [hns, numAt_eq]; exact getD_mem (by rw [List.length_map, Array.length_toList]; omega)
  · rw [hns] at ha
    refine ea_EA (mem_getD ha) fun j hj ez28 => ?_; subst ez28
    rw [List.length_map, Array.length_toList] at hj
    rw [← numAt_eq]; exact h2 j (by omega)
theorem meth_list {l : Addr} {vs : List Val} {name : Str} {id : String} (hl : σ l = some (.list vs)) (slot : Slot "list" name id) (hty : typeOf (.builtin id) = pure (.type "method_descriptor")) : MethOf C σ l name (.builtin id) := fun A h₀ env m n q s pl P E F S h => by
  refine ea_EEAAA (S.list hl) fun xs k g rx il zx => ?_
  exact getMethod_list_of slot hty il ⟨_, g, rfl⟩ h
theorem meth_dict {d : Addr} {f : Atom → Option Val} {z : Nat} (hd : σ d = some (.dict f z)) : MethOf C σ d "get" (.builtin "dict.get") := fun A h₀ env m n q s pl P E F S h => by
  refine ea_AEAA (S.dict hd) fun ne kvs D _ hv => ?_
  exact getMethod_builtin D.typeIs PySem.F.plainAttrs_dict PySem.F.slot_dict_get PySem.F.type_dict_get D.mapOf.noDict h
theorem meth_tdict {d : Addr} {f : List Atom → Option Val} {z : Nat} (hd : σ d = some (.tdict f z)) : MethOf C σ d "get" (.builtin "dict.get") := fun A h₀ env m n q s pl P E F S h => by
  obtain ⟨⟨co, g, xs, ep, rfl, _⟩, _⟩ := S.obj d _ hd
  refine ea_AEA (S.tdict hd) fun ne xs D _ => ?_
  exact getMethod_builtin D.typeIs PySem.F.plainAttrs_dict PySem.F.slot_dict_get PySem.F.type_dict_get (fun a e => by cases e; exact ⟨_, g, rfl⟩) h
end
section
variable {C : Cx} {n : Nat} {q : Bool} {env : Env} {m : List (Option Val)} {σ : AH} {X : Addr → AH → Prop} {Q : Val → AH → Prop}
noncomputable abbrev subT (value slice : Expr) : List Value → Sem Value := fun cs => subscriptTail value slice (cs.getD 0 .none) (cs.getD 1 .none)
theorem JE_sub {value slice : Expr} {pos : Pos} (h : JE C n q env m σ value (fun a σ₁ => JE C n q env m σ₁ slice (fun b σ₂ => JO C n q env m σ₂ [a, b] (subT value slice) Q X) X) X) : JE C n q env m σ (.Subscript value slice pos) Q X := fun A h₀ s F S O =>
  Subscript_ (two F S O h)
noncomputable def PlainSub (slice : Expr) : Prop := ∀ o i, subscripted slice false o i = operate [o, i] (getItem o i)
section
variable {value slice : Expr} {f : Atom → Option Val} {k : Atom} {d : Addr} {z : Nat} {v : Val} {g : List Atom → Option Val} {ks : List Atom} {vs : List Val} {i : Int}
theorem T_list (hs : PlainSub slice) (hl : σ d = some (.list vs)) (h0 : 0 ≤ i) (hi : i < 2 ^ 63) (hv : vs[i.toNat]? = some v) (h : Q v σ) : JO C n q env m σ [.ref d, .int i] (subT value slice) Q X := fun A h₀ s cs F S O r => by
  refine ea_EEAA (vr2 r) fun _ _ ez1 ez2 pz3 => ?_; subst ez1; subst ez2
  obtain ⟨t, rfl⟩ := pz3
  refine ea_EEAAA (S.list hl) fun xs kk g rx il zx => ?_
  refine ea_EA (rx.get hv) fun y e ry => ?_
  exact tail_any il.typeIs slot_list_getitem.lookup (wpAny_getItem_list il h0 hi (by simpa using e) ⟨O, TK.refl _, v, σ, ry, S, h⟩) (hs _ _)
theorem T_neg1 (hs : PlainSub slice) (hl : σ d = some (.list vs)) (hv : vs.getLast? = some v) (h : Q v σ) : JO C n q env m σ [.ref d, .int (-1)] (subT value slice) Q X := fun A h₀ s cs F S O r => by
  refine ea_EEAA (vr2 r) fun _ _ ez4 ez5 pz6 => ?_; subst ez4; subst ez5
  obtain ⟨t, rfl⟩ := pz6
  refine ea_EEAAA (S.list hl) fun xs kk g rx il zx => ?_
  have hne : 0 < vs.length := by cases vs with | nil => simp at hv | cons _ _ => simp
  rw [List.getLast?_eq_getElem?] at hv
  refine ea_EA (rx.get hv) fun y e ry => ?_
  refine tail_any il.typeIs slot_list_getitem.lookup (wpAny_getItem_list_neg il (by omega) (by rw [zx]; omega) (by omega) (x := y) ?_ ⟨O, TK.refl _, v, σ, ry, S, h⟩) (hs _ _)
  rw [zx, show ((-1 : Int) + (vs.length : Int)).toNat = vs.length - 1 by omega]
  simpa using e
theorem T_tup (hs : PlainSub slice) (h0 : 0 ≤ i) (hi : i < 2 ^ 63) (hv : vs[i.toNat]? = some v) (h : Q v σ) : JO C n q env m σ [.tup vs, .int i] (subT value slice) Q X := fun A h₀ s cs F S O r => by
  refine ea_EEAA (vr2 r) fun _ _ ez7 pz8 pz9 => ?_; subst ez7
  refine ea_EEAA pz8 fun a xs ez10 g rx => ?_; clear pz8; subst ez10
  obtain ⟨t, rfl⟩ := pz9
  refine ea_EA (rx.get hv) fun y e ry => ?_
  have hlt : i.toNat < vs.length := (List.getElem?_eq_some_iff.mp hv).1
  refine item_tupleT (l := xs) (j := i.toNat) ⟨_, g, rfl, 0, rfl⟩ (by omega) hi ?_ e ⟨O, TK.refl _, v, σ, ry, S, h⟩ (hs _ _)
  have hj : ¬ i < 0 := by omega
  unfold seqIndex?
  simp only [if_neg hj, ← rx.length]
  rw [if_pos (by simp; omega)]
theorem T_dict (hs : PlainSub slice) (hd : σ d = some (.dict f z)) (hv : f k = some v) (h : Q v σ) : JO C n q env m σ [.ref d, k.val] (subT value slice) Q X := fun A h₀ s cs F S O r => by
  refine ea_EEAA (vr2 r) fun _ _ ez11 ez12 rk => ?_; subst ez11; subst ez12
  refine ea_AEAA (S.dict hd) fun ne kvs D _ hvv => ?_
  have := hvv k
  rw [hv] at this
  refine ea_EA this fun y e ry => ?_; clear this
  exact tail_any D.typeIs slot_dict_getitem.lookup (wpAny_getItem_of (knd := atomKind C.prog C.w) (k := k) (atom_is rk) D.mapOf e ⟨O, TK.refl _, v, σ, ry, S, h⟩) (hs _ _)
theorem T_tdict (hs : PlainSub slice) (hd : σ d = some (.tdict g z)) (hv : g ks = some v) (h : Q v σ) : JO C n q env m σ [.ref d, .tup (ks.map Atom.val)] (subT value slice) Q X := fun A h₀ s cs F S O r => by
  refine ea_EEAA (vr2 r) fun _ _ ez13 ez14 rk => ?_; subst ez13; subst ez14
  refine ea_AEAAA (S.tdict hd) fun ne xs D _ _ hvv => ?_
  refine ea_EEAAA (tup_key (prog := C.prog) (w := C.w) rk) fun a ys ez15 ga ia ka => ?_; subst ez15
  have := hvv ks
  rw [hv] at this
  refine ea_EA this fun y e ry => ?_; clear this
  refine ea_EA (Option.map_eq_some_iff.mp e) fun p ep ez16 => ?_; subst ez16
  exact tail_any D.typeIs slot_dict_getitem.lookup (wpAny_getItem_heap (knd := tupleKind (atomKind C.prog C.w)) F.room ka D ep ⟨O, TK.refl _, v, σ, ry, S, h⟩) (hs _ _)
end
theorem JE_slice {value : Expr} {lower upper : Option Expr} {p pos : Pos}
    (h : JE C n q env m σ value (fun a σ₁ => ∃ l vs, a = .ref l ∧ vs.length ≤ sizeLine ∧
      ((∃ e, lower = some e ∧ upper = none ∧ JE C n q env m σ₁ e (fun b σ₂ => ∃ k : Nat, b = .int k ∧ σ₂ l = some (.list vs) ∧ ∀ x, σ₂ x = none → Q (.ref x) (σ₂.set x (.list (vs.drop k)))) X) ∨
       (∃ e, lower = none ∧ upper = some e ∧ JE C n q env m σ₁ e (fun b σ₂ => ∃ k : Nat, b = .int k ∧ σ₂ l = some (.list vs) ∧ ∀ x, σ₂ x = none → Q (.ref x) (σ₂.set x (.list (vs.take k)))) X))) X) :
    JE C n q env m σ (.Subscript value (.Slice lower upper none p) pos) Q X := fun A h₀ s F S O => by
  refine Subscript_ (wpAny_mono (h A h₀ s F S O) (fun ov s₁ z => ?_) fun _ _ x => x)
  refine ea_AAEEAAEEAA z fun O₁ k₁ v₁ σ₁ r₁ S₁ l vs ez17 hz hc => ?_; clear z; subst ez17
  cases r₁
  have fin : ∀ (s₂ : Shared) σ₂ lo hi vl vu (ws : List Val), St C.lo C.prog C.w h₀ env m σ₂ s₂.heap → Ok C s₂ → TK s₁.heap s₂.heap → σ₂ l = some (.list vs) → IsPart vl lo → IsPart vu hi → (∀ items : Array Value, slicePick items lo hi none = ((fun l : List Value => (match lo, hi with | some a, none => l.drop a.toNat | none, some b => l.take b.toNat | _, _ => l)) items.toList).toArray) →
      ws = (match lo, hi with | some a, none => vs.drop a.toNat | none, some b => vs.take b.toNat | _, _ => vs) → (∀ x, σ₂ x = none → Q (.ref x) (σ₂.set x (.list ws))) →
      wpAny (model C.prog C.w) A (subscriptTail value (.Slice lower upper none p) (.ref l) (.ref s₂.heap.objs.size)) (QE C h₀ env m s.heap Q) (XE C h₀ env m X) { s₂ with heap := s₂.heap.push { cls := .type "slice", data := .fields #[vl, vu, .none] } } := fun s₂ σ₂ lo hi vl vu ws S₂ O₂ k₂ hl pl pu hp hw hQ => by
    refine ea_EEAAA (S₂.list hl) fun xs kk g rx il zx => ?_
    have S3 := S₂.push { cls := .type "slice", data := .fields #[vl, vu, .none] }
    have tk : TK s₂.heap (s₂.heap.push { cls := .type "slice", data := .fields #[vl, vu, .none] }) := TK.of_keeps fun _ _ e => Heap.get?_push_of_some _ e
    refine tail_any (Heap.IsList.typeIs (s := { s₂ with heap := s₂.heap.push { cls := .type "slice", data := .fields #[vl, vu, .none] } }) (il.push _)) slot_list_getitem.lookup
      (wpAny_getItem_list_slice (s := { s₂ with heap := s₂.heap.push { cls := .type "slice", data := .fields #[vl, vu, .none] } }) (il.push _) (Heap.IsSliceOf.new ..) pl pu .none (by simp) ?_ (by rw [zx]; exact hz)) rfl
    have rws : VRels (s₂.heap.push { cls := .type "slice", data := .fields #[vl, vu, .none] }) ws (slicePick xs lo hi none).toList := by
      rw [hp, hw]
      dsimp only
      split
      · exact (rx.mono tk).drop _
      · exact (rx.mono tk).take _
      · exact rx.mono tk
    obtain ⟨S4, t4⟩ := S3.newList (k := 0) rws
    exact ⟨O₂, k₁.trans (k₂.trans (tk.trans t4)), .ref _, _, rfl, S4, hQ _ S3.fresh⟩
  rcases hc with ⟨e, rfl, rfl, hJ⟩ | ⟨e, rfl, rfl, hJ⟩
  · refine wpAny_Slice (wpAny_mono (hJ A h₀ s₁ F S₁ O₁) (fun b s₂ z => wpAny_pure (wpAny_pure ?_)) fun _ _ x => x)
    refine ea_AAEEAAEAA z fun O₂ k₂ v₂ σ₂ r₂ S₂ k ez18 hl hQ => ?_; clear z; subst ez18
    obtain ⟨t, rfl⟩ := r₂
    exact fin s₂ σ₂ (some k) none _ _ _ S₂ O₂ k₂ hl (.int _ _) .none (fun items => by rw [slicePick_from']; rfl) rfl hQ
  · refine wpAny_Slice (wpAny_pure (wpAny_mono (hJ A h₀ s₁ F S₁ O₁) (fun b s₂ z => wpAny_pure ?_) fun _ _ x => x))
    refine ea_AAEEAAEAA z fun O₂ k₂ v₂ σ₂ r₂ S₂ k ez19 hl hQ => ?_; clear z; subst ez19
    obtain ⟨t, rfl⟩ := r₂
    exact fin s₂ σ₂ none (some k) _ _ _ S₂ O₂ k₂ hl .none (.int _ _) (fun items => by rw [slicePick_upto']; rfl) rfl hQ
theorem set_list_at {prog : Program} {w : World} {A : Around} {s : Shared} {l : Addr} {xs : Array Value} {kk : Nat} {k : Int} {t : Tok} {v : Value} {Q : Unit → Shared → Prop} {E : Value → Shared → Prop} (ho : s.heap.get? l = some (listOf xs kk))
    (h0 : 0 ≤ k) (hfit : k < 2 ^ 63) (hn : k.toNat < xs.size)
    (hQ : ∀ h' k', h'.get? l = some (listOf (xs.setIfInBounds k.toNat v) k') → Heap.SameBut l s.heap h' → Q () { s with heap := h' }) : wpAny (model prog w) A (setItem (.ref l) (.int k t) v) Q E s := by
  have hl : s.heap.IsList l xs := ⟨_, ho, rfl, kk, rfl⟩
  unfold setItem
  try with_reducible refine wpAny_holding ?_
  first | refine wpAny_bind (wpAny_pure ?_) | skip
  refine wpAny_bind (wpAny_sequenceKey hl.typeIs (by decide) ?_)
  refine wpAny_bind (wpAny_callSpecial?_slot (name := Str.ofString "__setitem__") hl.typeIs slot_list_setitem (wpAny_call_entry slot_list_setitem hl.typeIs entry_list_setitem ?_ (args_list_setitem _ _ _)))
  show wpAny _ _ (Builtin.List.listSubscript? (.int k t) >>= _) _ _ s
  refine wpAny_bind (wpAny_listSubscript_int (fitsIndex_of h0 hfit) ?_)
  clear hfit
  obtain ⟨j, rfl⟩ := Int.eq_ofNat_of_zero_le h0
  have hj : j < xs.size := hn
  have hx' : xs[j]? = some xs[j] := Array.getElem?_eq_getElem hj
  show wpAny _ _ ((seqItemAt l j >>= fun r => pure (r.map (j, ·))) >>= _) _ _ s
  refine wpAny_bind (wpAny_bind (wpAny_seqItemAt ho rfl (wpAny_pure ?_)))
  rw [hx']
  show wpAny _ _ (setSeqItemAt l j v >>= _) _ _ s
  have hS := Heap.get?_update_self (Obj.mapSeq (·.setIfInBounds j v)) ho rfl
  refine wpAny_bind (wpAny_setSeqItemAt ho rfl ?_)
  have fin := hQ _ _ (by simpa [Obj.mapSeq] using hS) (Heap.SameBut.update ..)
  first
    | exact wpAny_bind (wpAny_pure (wpAny_pure ⟨.none, rfl, wpAny_pure fin⟩))
    | exact wpAny_pure ⟨.none, rfl, wpAny_pure fin⟩
theorem valueAt_stored {K : Type} [DecidableEq K] (kvs : List (K × Value)) (k : K) (v : Value) (x : K) : valueAt (stored kvs k v) x = if x = k then some v else valueAt kvs x := by
  unfold stored
  by_cases ha : (kvs.any fun kv => decide (kv.1 = k)) = true
  · rw [if_pos ha]
    induction kvs with
    | nil => simp at ha
    | cons a r ih =>
      unfold valueAt at ih ⊢
      rw [List.map_cons, List.find?_cons, List.find?_cons]
      by_cases h1 : a.1 = k
      · rw [if_pos h1]
        by_cases h2 : x = k
        · subst h2; simp [h1]
        · have : ¬ a.1 = x := fun z => h2 (z.symm.trans h1)
          rw [if_neg h2]
          simp only [decide_eq_false this]
          have e : ∀ l : List (K × Value), (List.find? (fun kv => decide (kv.1 = x)) (l.map fun kv => if kv.1 = k then (kv.1, v) else kv)).map (·.2) = (List.find? (fun kv => decide (kv.1 = x)) l).map (·.2) := by
            intro l
            induction l with
            | nil => rfl
            | cons b l ih2 =>
              rw [List.map_cons, List.find?_cons, List.find?_cons]
              by_cases h3 : b.1 = x
              · have h4 : ¬ b.1 = k := fun z => h2 (h3.symm.trans z)
                rw [if_neg h4]; simp [h3]
              · have : decide ((if b.1 = k then (b.1, v) else b).1 = x) = false := by
                  split <;> simp [h3]
                rw [this, decide_eq_false h3]; exact ih2
          exact e r
      · rw [if_neg h1]
        have ha' : (r.any fun kv => decide (kv.1 = k)) = true := by simpa [h1] using ha
        by_cases h3 : a.1 = x
        · have h4 : ¬ x = k := fun z => h1 (h3.trans z)
          rw [if_neg h4]; simp [h3]
        · simp only [decide_eq_false h3]; exact ih ha'
  · rw [if_neg ha]
    unfold valueAt
    rw [List.find?_append]
    by_cases h2 : x = k
    · subst h2
      have : List.find? (fun kv => decide (kv.1 = x)) kvs = none := by
        rw [List.find?_eq_none]
        intro y hy hd
        exact ha (List.any_eq_true.mpr ⟨y, hy, hd⟩)
      rw [this]; simp
    · rw [if_neg h2]
      have : List.find? (fun kv : K × Value => decide (kv.1 = x)) [(k, v)] = none := by
        simp [Ne.symm h2]
      rw [this]; simp
theorem atKey_stored {K : Type} [DecidableEq K] (xs : List (K × Addr × Value)) (k : K) (a : Addr) (v : Value) (x : K) : (atKey (storedH xs k a v) x).map (·.2) = if x = k then some v else (atKey xs x).map (·.2) := by
  have H : ∀ (l : List (K × Addr × Value)), (atKey (l.map (putAt k v)) x).map (·.2) = if x = k then (atKey l x).map fun _ => v else (atKey l x).map (·.2) := by
    intro l
    induction l with
    | nil => simp [atKey]
    | cons b l ih =>
      unfold atKey at ih ⊢
      rw [List.map_cons, List.find?_cons, List.find?_cons]
      have e1 : (putAt k v b).1 = b.1 := by unfold putAt; split <;> rfl
      rw [e1]
      by_cases h1 : b.1 = x
      · rw [decide_eq_true h1]
        by_cases h2 : x = k
        · rw [if_pos h2]; simp [putAt, h1, h2]
        · rw [if_neg h2]; simp [putAt, h1, h2]
      · rw [decide_eq_false h1]; exact ih
  unfold storedH
  split
  · rename_i hs
    rw [H]
    split
    · rename_i e; subst e
      cases hh : atKey xs x with
      | none => rw [hh] at hs; cases hs
      | some p => rfl
    · rfl
  · rename_i hs
    have hn : atKey xs k = none := by simpa using hs
    unfold atKey at hn ⊢
    rw [List.find?_append]
    by_cases h2 : x = k
    · subst h2
      have h3 : List.find? (fun x_1 => decide (x_1.1 = x)) xs = none := by simpa using hn
      rw [h3]; simp
    · rw [if_neg h2]
      simp [Ne.symm h2]
theorem storedH_len {K : Type} [DecidableEq K] (xs : List (K × Addr × Value)) (k : K) (a : Addr) (v : Value) : (storedH xs k a v).length ≤ xs.length + 1 := by
  unfold storedH; split <;> simp
theorem storedH_mem {K : Type} [DecidableEq K] {xs : List (K × Addr × Value)} {k : K} {a : Addr} {v : Value} {y : K × Addr × Value} (h : y ∈ storedH xs k a v) : (y.1 = k ∧ y.2.1 = a) ∨ ∃ z ∈ xs, y.1 = z.1 ∧ y.2.1 = z.2.1 := by
  unfold storedH at h
  split at h
  · refine ea_EA (List.mem_map.mp h) fun z hz ez20 => ?_; subst ez20
    refine .inr ⟨z, hz, ?_⟩
    unfold putAt; split <;> exact ⟨rfl, rfl⟩
  · rcases List.mem_append.mp h with h | h
    · exact .inr ⟨y, h, rfl, rfl⟩
    · rw [List.mem_singleton] at h; subst h; exact .inl ⟨rfl, rfl⟩
end
section
variable {C : Cx} {n : Nat} {q : Bool} {env : Env} {m : List (Option Val)} {σ : AH} {X : Addr → AH → Prop} {Q : Val → AH → Prop}
inductive SetK (σ : AH) : Val → Val → Val → AH → Prop
  | list {l : Addr} {vs : List Val} {i : Int} {v : Val} : σ l = some (.list vs) → 0 ≤ i → i < 2 ^ 63 → i.toNat < vs.length → SetK σ (.ref l) (.int i) v (σ.set l (.list (vs.set i.toNat v)))
  | dict {d : Addr} {f : Atom → Option Val} {z : Nat} (k : Atom) {v : Val} : σ d = some (.dict f z) → z ≤ sizeLine → SetK σ (.ref d) k.val v (σ.set d (.dict (fun x => if x = k then some v else f x) (z + 1)))
  | tdict {d : Addr} {g : List Atom → Option Val} {z : Nat} (ks : List Atom) {v : Val} : σ d = some (.tdict g z) → z ≤ sizeLine → SetK σ (.ref d) (.tup (ks.map Atom.val)) v (σ.set d (.tdict (fun x => if x = ks then some v else g x) (z + 1)))
theorem dict_put {h h' : Heap} {h₀ : Heap} {d : Addr} {f : Atom → Option Val} {z : Nat} {kvs : List (Atom × Value)} {k : Atom} {v : Val} {c : Value} (S : St C.lo C.prog C.w h₀ env m σ h) (hd : σ d = some (.dict f z)) (hs : Heap.SameBut d h h')
    (D : h'.DictOf (atomKind C.prog C.w) d (stored kvs k c)) (hl : kvs.length ≤ z) (hv : ∀ x, VO h (f x) (valueAt kvs x)) (rv : VRel h v c) :
    St C.lo C.prog C.w h₀ env m (σ.set d (.dict (fun x => if x = k then some v else f x) (z + 1))) h' ∧ TK h h' := by
  obtain ⟨⟨co, g, ro⟩, _⟩ := S.obj d _ hd
  refine ea_EA (Heap.dictOf_iff.mp D) fun o ho r => ?_
  refine ⟨S.upd (o := .dict (fun x => if x = k then some v else f x) (z + 1)) hd hs ⟨o, ho, _, r, ?_, fun x => ?_⟩, TK.but g ro.noTup hs⟩
  · have := stored_length_le kvs k c; omega
  · rw [valueAt_stored]
    dsimp only
    by_cases e : x = k
    · rw [if_pos e, if_pos e]; exact ⟨c, rfl, rv⟩
    · rw [if_neg e, if_neg e]; exact hv x
theorem SetK.run {a b v : Val} {σ' : AH} (K : SetK σ a b v σ') {A : Around} {h₀ : Heap} {s : Shared} {ca cb cv : Value} {P : Unit → Shared → Prop} {E : Value → Shared → Prop} (F : Fm C.lo C.K A h₀ env n q) (S : St C.lo C.prog C.w h₀ env m σ s.heap) (O : Ok C s)
    (ra : VRel s.heap a ca) (rb : VRel s.heap b cb) (rv : VRel s.heap v cv) (h : ∀ s', Ok C s' → St C.lo C.prog C.w h₀ env m σ' s'.heap → TK s.heap s'.heap → P () s') : wpAny (model C.prog C.w) A (setItem ca cb cv) P E s := by
  cases K with
  | @list l vs i v hl h0 hi hlt =>
    cases ra
    obtain ⟨t, rfl⟩ := rb
    refine ea_EEAAA (S.list hl) fun xs k g rx il zx => ?_
    refine set_list_at g h0 hi (by rw [zx]; exact hlt) fun h' k' g' hs => ?_
    have tk : TK s.heap h' := TK.but g (by simp) hs
    refine h { s with heap := h' } O (S.upd (o := .list (vs.set i.toNat v)) hl hs ⟨_, g', _, _, rfl, ?_⟩) tk
    rw [Array.toList_setIfInBounds]; exact rx.set _ rv
  | @dict d f z k v hd hz =>
    cases ra
    refine ea_AEAA (S.dict hd) fun ne kvs D hl hv => ?_
    refine wpAny_setItem_pairs (knd := atomKind C.prog C.w) (k := k) (atom_is rb) D (fun h' D' hs => ?_) (by omega)
    obtain ⟨S', t⟩ := dict_put S hd hs D' hl hv rv
    exact h { s with heap := h', toks := _ } O S' t
  | @tdict d g z ks v hd hz =>
    cases ra
    refine ea_AEAAA (S.tdict hd) fun ne xs D hl hk hv => ?_
    refine ea_EEAAA (tup_key (prog := C.prog) (w := C.w) rb) fun a ys ez1 ga ia ka => ?_; subst ez1
    obtain ⟨⟨co, gd, ro⟩, _⟩ := S.obj d _ hd
    refine wpAny_setItem_heap (knd := tupleKind (atomKind C.prog C.w)) F.room ka D (fun h' D' hs => ?_) (by omega)
    have tk : TK s.heap h' := TK.but gd ro.noTup hs
    refine ea_EEEAAAAA D' fun o es ep ho pz2 ed el ek nd => ?_; clear D'
    refine ea_AA pz2 fun e1 e2 e3 => ?_; clear pz2
    refine h { s with heap := h', toks := _ } O (S.upd (o := .tdict (fun x => if x = ks then some v else g x) (z + 1)) hd hs ⟨o, ho, storedH xs ks a cv, ep, ?_, ?_, nd, fun x hx => ?_, fun x => ?_⟩) tk
    · obtain ⟨c1, c2, c3, c4⟩ := o
      dsimp only at e1 e2 e3 ed
      subst e1 e2 e3 ed
      rw [← el]
    · have := storedH_len xs ks a cv; omega
    · rcases storedH_mem hx with ⟨e, e'⟩ | ⟨y, hy, e, e'⟩
      · rw [e, e']; exact ⟨ys, ga, ia⟩
      · rw [e, e']; exact hk y hy
    · rw [atKey_stored]
      dsimp only
      by_cases e : x = ks
      · rw [if_pos e, if_pos e]; exact ⟨cv, rfl, rv⟩
      · rw [if_neg e, if_neg e]; exact hv x
theorem JSs_setitem {rest : List Stmt} {Q : MFlow → List (Option Val) → AH → Prop} {X : Addr → List (Option Val) → AH → Prop} {o i e : Expr} {spos pos : Pos}
    (h : JE C n q env m σ e (fun v σ₁ => JE C n q env m σ₁ o (fun ov σ₂ => JE C n q env m σ₂ i (fun iv σ₃ => ∃ σ', SetK σ₃ ov iv v σ' ∧ JSs C n q env m σ' rest Q X) (fun a σ' => X a m σ')) (fun a σ' => X a m σ')) (fun a σ' => X a m σ'))
    (hs : ∀ env, swapsWith e (some (.Subscript o i spos)) pos.line env = pure false := by intro _; rfl) :
    JSs C n q env m σ (.Assign [.Subscript o i spos] e pos :: rest) Q X := step fun A h₀ s F S O => by
  refine wpAny_Assign_Subscript (wpAny_mono (h A h₀ s F S O) (fun v s₁ z => ?_) fun _ _ x => x.toS) (hs env)
  refine ea_AAEEAA z fun O₁ k₁ v₁ σ₁ r₁ S₁ h₁ => ?_; clear z
  refine wpAny_mono (h₁ A h₀ s₁ F S₁ O₁) (fun ov s₂ z => ?_) fun _ _ x => x.toS
  refine ea_AAEEAA z fun O₂ k₂ v₂ σ₂ r₂ S₂ h₂ => ?_; clear z
  refine wpAny_mono (h₂ A h₀ s₂ F S₂ O₂) (fun iv s₃ z => ?_) fun _ _ x => x.toS
  refine ea_AAEEAAEA z fun O₃ k₃ v₃ σ₃ r₃ S₃ σ' K hJ => ?_; clear z
  exact K.run F S₃ O₃ (r₂.mono k₃) r₃ (r₁.mono (k₂.trans k₃)) fun s' O' S' t => ⟨rfl, O', m, σ', S', hJ⟩
theorem JE_dict01 {a b c d : Int} {p1 p2 p3 p4 pos : Pos} {n1 n2 n3 n4 : Nat} (hne : a ≠ c) (h : ∀ x, σ x = none → Q (.ref x) (σ.set x (.dict (fun y => if y = .i c then some (.int d) else if y = .i a then some (.int b) else none) 2))) :
    JE C n q env m σ (.Dict [some (.Constant (.int a) n1 p1), some (.Constant (.int c) n2 p2)] [.Constant (.int b) n3 p3, .Constant (.int d) n4 p4] pos) Q X := fun A h₀ s F S O => by
  refine wpAny_Dict_pairs (knd := atomKind C.prog C.w) (pairs := [(eval (.Constant (.int a) n1 p1) env, do let x ← eval (.Constant (.int b) n3 p3) env; standAt pos; pure x), (eval (.Constant (.int c) n2 p2) env, do let x ← eval (.Constant (.int d) n4 p4) env; standAt pos; pure x)]) rfl (by simp) (by show 2 ≤ 15; decide) ?_
  refine evalPairs_cons (wpAny_Constant_int (wpAny_bind (wpAny_Constant_int (wpAny_bind (wpAny_standAt (wpAny_pure ?_))))))
  refine evalPairs_cons (wpAny_Constant_int (wpAny_bind (wpAny_Constant_int (wpAny_bind (wpAny_standAt (wpAny_pure (evalPairs_nil ?_)))))))
  refine ⟨[(.i a, _), (.i c, _)], ⟨by simp [atomKind, atomIs, Value.isInt], rfl, by simp [atomKind, atomIs, Value.isInt], rfl, trivial⟩, ⟨_, #[], 0, Heap.get?_push_size _ rfl, ⟨rfl, rfl, rfl⟩, rfl, (fun e he => by simp at he), .nil, List.nodup_nil⟩, fun h' D hs => ?_⟩
  have S1 : St C.lo C.prog C.w h₀ env m (σ.set s.heap.objs.size (.dict (fun _ => Option.none) 0)) (s.heap.push { cls := .type "dict", data := .dict #[] }) := S.addNew (o := .dict (fun _ => Option.none) 0) rfl ⟨[], ⟨#[], 0, ⟨rfl, rfl, rfl⟩, rfl, (fun e he => by simp at he), .nil, List.nodup_nil⟩, Nat.le_refl _, fun _ => rfl⟩
  refine ea_EA (Heap.dictOf_iff.mp D) fun o ho r => ?_
  have tk : TK (s.heap.push { cls := .type "dict", data := .dict #[] }) h' := TK.but (Heap.get?_push_size _ rfl) (by simp) hs
  have S2 := S1.upd (o := .dict (fun y => if y = .i c then some (.int d) else if y = .i a then some (.int b) else Option.none) 2) (AH.set_self _ _ _) hs ⟨o, ho, _, r, ?_, fun x => ?_⟩
  · have e : (σ.set s.heap.objs.size (.dict (fun _ => Option.none) 0)).set s.heap.objs.size (.dict (fun y => if y = .i c then some (.int d) else if y = .i a then some (.int b) else Option.none) 2) = σ.set s.heap.objs.size (.dict (fun y => if y = .i c then some (.int d) else if y = .i a then some (.int b) else Option.none) 2) := by
      funext y; unfold AH.set; split <;> rfl
    rw [e] at S2
    exact ⟨O, TK.trans (TK.of_keeps fun _ _ e => Heap.get?_push_of_some _ e) tk, .ref _, _, rfl, S2, h _ S.fresh⟩
  · simp [merged, stored]; split <;> simp
  · have hca : ¬ (Atom.i a = Atom.i c) := fun z => hne (Atom.i.inj z)
    simp only [merged, List.foldl_cons, List.foldl_nil, valueAt_stored]
    by_cases e1 : x = .i c
    · rw [if_pos e1, if_pos e1]; exact ⟨_, rfl, _, rfl⟩
    · rw [if_neg e1, if_neg e1]
      by_cases e2 : x = .i a
      · rw [if_pos e2, if_pos e2]; exact ⟨_, rfl, _, rfl⟩
      · rw [if_neg e2, if_neg e2]; rfl
theorem all_ints {xs ys : List Int} (hl : xs.length = ys.length) : ((List.range xs.length).all fun j => xs[j]?.getD 0 == ys[j]?.getD 0) = (xs == ys) := by
  rw [Bool.eq_iff_iff, List.all_eq_true, beq_iff_eq]
  constructor
  · intro h
    refine List.ext_getElem hl fun i h1 h2 => ?_
    have := h i (List.mem_range.mpr h1)
    rw [List.getElem?_eq_getElem h1, List.getElem?_eq_getElem h2] at this
    exact beq_iff_eq.mp this
  · rintro rfl i _
    simp
theorem item_int {h : Heap} {xs : List Int} {cs : Array Value} (r : VRels h (xs.map .int) cs.toList) {j : Nat} (hj : j < cs.size) : ∃ t, cs[j] = .int (xs[j]?.getD 0) t := by
  have hl := r.length
  have hj' : j < xs.length := by simp at hl; omega
  obtain ⟨y, e, ⟨t, rfl⟩⟩ := r.get (i := j) (x := .int xs[j]) (by rw [List.getElem?_map, List.getElem?_eq_getElem hj']; rfl)
  refine ⟨t, ?_⟩
  rw [Array.getElem?_toList, Array.getElem?_eq_getElem hj] at e
  rw [List.getElem?_eq_getElem hj']
  exact Option.some.inj e
theorem O_leq {l b : Addr} {xs ys : List Int} (hl : σ l = some (.list (xs.map .int))) (hb : σ b = some (.list (ys.map .int))) (h : Q (.bool (xs == ys)) σ) : JO C n q env m σ [.ref l, .ref b] (cmpT .Eq) Q X := fun A h₀ s cs F S O r => by
  refine ea_EEAA (vr2 r) fun _ _ ez3 ez4 ez5 => ?_; subst ez3; subst ez4; subst ez5
  refine ea_EEAAA (S.list hl) fun cx k g rx ilx zx => ?_
  refine ea_EEAAA (S.list hb) fun cy k' g' ry ily zy => ?_
  rw [List.length_map] at zx zy
  have hu : A.units < cLine := by have := F.room; show A.units < 9900; have : A.units + 1 < 9900 := this; omega
  by_cases hz : cx.size = cy.size
  · refine PySem.SeqAt.eq_listAt (e := fun j => xs[j]?.getD 0 == ys[j]?.getD 0) ilx ily hz hu (fun j h1 h2 => ?_) ?_
    · obtain ⟨t, e⟩ := item_int rx h1
      obtain ⟨u, e'⟩ := item_int ry h2
      rw [e, e']; exact PySem.SeqAt.EqAt.int_int _ _ _ _
    · rw [zx, all_ints (by omega)]
      exact ⟨O, TK.refl _, .bool (xs == ys), σ, rfl, S, h⟩
  · refine PySem.P.eq_list_lengths (items := cx) (n := k) (items2 := cy) (n2 := k') g g' (by simpa using hz) hu ?_
    have e : (xs == ys) = false := beq_eq_false_iff_ne.mpr fun z => hz (by rw [zx, zy, z])
    rw [e] at h
    exact ⟨O, TK.refl _, .bool false, σ, rfl, S, h⟩
theorem O_lne {l b : Addr} {xs ys : List Int} (hl : σ l = some (.list (xs.map .int))) (hb : σ b = some (.list (ys.map .int))) (h : Q (.bool (xs != ys)) σ) : JO C n q env m σ [.ref l, .ref b] (cmpT .NotEq) Q X := fun A h₀ s cs F S O r => by
  refine ea_EEAA (vr2 r) fun _ _ ez6 ez7 ez8 => ?_; subst ez6; subst ez7; subst ez8
  refine ea_EEAAA (S.list hl) fun cx k g rx ilx zx => ?_
  refine ea_EEAAA (S.list hb) fun cy k' g' ry ily zy => ?_
  rw [List.length_map] at zx zy
  have hu : A.units < cLine := by have := F.room; show A.units < 9900; have : A.units + 1 < 9900 := this; omega
  show wpAny _ A (richCompare .NotEq (.ref l) (.ref b)) _ _ s
  by_cases hz : cx.size = cy.size
  · refine PySem.SeqAt.RcNeAt.lists (e := fun j => xs[j]?.getD 0 == ys[j]?.getD 0) ilx ily hz hu (fun j h1 h2 => ?_) _ _ _ _ ?_
    · obtain ⟨t, e⟩ := item_int rx h1
      obtain ⟨u, e'⟩ := item_int ry h2
      rw [e, e']; exact PySem.SeqAt.EqAt.int_int _ _ _ _
    · rw [zx, all_ints (by omega)]
      exact ⟨O, TK.refl _, .bool (xs != ys), σ, rfl, S, h⟩
  · refine PySem.SeqAt.RcNeAt.lists_lengths ilx ily (by simpa using hz) hu _ _ _ _ ?_
    have e : (xs != ys) = true := bne_iff_ne.mpr fun z => hz (by rw [zx, zy, z])
    rw [e] at h
    exact ⟨O, TK.refl _, .bool true, σ, rfl, S, h⟩
end
section
variable {C : Cx} {n : Nat} {q : Bool} {env : Env} {m : List (Option Val)} {σ : AH}
theorem drop_shape {name : Str} {o : Obj} {es : Array DictEntry} {ep : Nat} (hd : o.data = .dict es ep) (hk : ∀ e ∈ es, ∃ n t, e.key = .str n t) :
    ∃ es' ep', Obj.dropName name o = { o with data := .dict es' ep' } ∧ (∀ e ∈ es', ∃ n t, e.key = .str n t) ∧ ∃ u, ∀ x, nsFind es' x = if x = name then u else nsFind es x := by
  obtain ⟨c, d, dt, sl⟩ := o
  dsimp only at hd
  subst hd
  rw [Obj.dropName_eq]
  unfold Obj.dropNameByArray
  cases hi : es.findIdx? (·.key.isStr name) with
  | some i =>
    refine ⟨_, _, by dsimp only; rw [hi], fun e he => ?_, nsFind (es.eraseIdxIfInBounds i) name, fun x => ?_⟩
    · refine hk e ?_
      have := Array.mem_toList_iff.mpr he
      rw [Array.toList_eraseIdxIfInBounds] at this
      exact Array.mem_toList_iff.mp (List.mem_of_mem_eraseIdx this)
    · by_cases hx : x = name
      · rw [if_pos hx, hx]
      · rw [if_neg hx, nsFind_erase_other hi hx]
  | none => exact ⟨_, _, by dsimp only; rw [hi], hk, nsFind es name, fun x => by by_cases hx : x = name <;> simp [hx]⟩
theorem nsDel_at {M : Model} {A : Around} {E : Value → Shared → Prop} {s : Shared} {a : Addr} {mm : Str → Option Value} {name : Str} {Q : Bool → Shared → Prop} {o : Obj} (hn : s.heap.Ns a mm) (ho : s.heap.get? a = some o) (hv : (mm name).isSome = true)
    (hQ : ∀ h' o' u, h'.get? a = some o' → o'.cls = o.cls → h'.Ns a (fun x => if x = name then u else mm x) → Heap.SameBut a s.heap h' → Q true { s with heap := h' }) : wpAny M A (nsDel a name) Q E s := by
  refine ea_EEEAAA (id hn) fun o₁ es ep ho₁ hd hk hm => ?_
  rw [ho] at ho₁; cases ho₁
  have hhas : nsHas name o = pure true := by
    have h1 : es.any (fun x => x.key.isStr name) = true := by
      rw [← hm name] at hv
      unfold nsFind findBy at hv
      rw [Option.isSome_map] at hv
      rw [Array.any_eq_true]
      refine ea_EA (Array.find?_isSome.mp hv) fun e he hp => ?_
      obtain ⟨i, hi, rfl⟩ := Array.mem_iff_getElem.mp he
      exact ⟨i, hi, hp⟩
    rw [nsHas_eq]; unfold nsHasByArray; rw [hd]
    show (if (es.any fun x => x.key.isStr name) = true then _ else _) = _
    rw [h1]; rfl
  unfold nsDel
  refine wpAny_bind (wpAny_loadPart ho ?_)
  rw [hhas]
  refine wpAny_bind (wpAny_pure ?_)
  rw [if_pos rfl]
  refine ea_EEAAE (drop_shape (name := name) hd hk) fun es' ep' e1 hk' u hf => ?_
  have g : (s.heap.update a (Obj.dropName name)).get? a = some { o with data := .dict es' ep' } := by
    rw [← e1]; exact Heap.get?_update_self _ ho (by rw [e1]; rfl)
  refine wpAny_bind (wpAny_updatePart ho (wpAny_pure ?_))
  exact hQ _ _ u g rfl ⟨_, es', ep', g, rfl, hk', fun x => by show nsFind es' x = _; rw [hf]; by_cases hx : x = name <;> simp [hx, ← hm]⟩ (Heap.SameBut.update ..)
theorem unbind_var {A : Around} {h₀ : Heap} {s : Shared} {nm : Str} {i : Nat} {v : Val} (F : Fm C.lo C.K A h₀ env n q) (S : St C.lo C.prog C.w h₀ env m σ s.heap) (hv : IsVar env nm i .local) (hm : m[i]? = some (some v)) {P : Unit → Shared → Prop} {E : Value → Shared → Prop}
    (h : ∀ h', St C.lo C.prog C.w h₀ env (m.set i Option.none) σ h' → TK s.heap h' → P () { s with heap := h' }) : wpAny (model C.prog C.w) A (unbindName env nm) P E s := by
  refine ea_EA S.loc.ns fun mc hn rel => ?_
  refine ea_EA (rel i nm hv.at_ v hm) fun cv hc _ => ?_
  refine ea_EAA S.loc.cls fun ol hol hnt hfc => ?_
  have hp : (env.scope.kind == .class || (env.scope.kind == .module && env.locals != env.globals)) = false := by rw [F.kind]; rfl
  have hkd := hv.kind F.nd
  unfold unbindName
  refine wpAny_bind (wpAny_point (wpAny_bind ?_))
  unfold deleteName
  simp only [hkd, hp]
  rw [if_neg (by decide)]
  refine wpAny_bind (nsDel_at hn hol (by rw [hc]; rfl) fun h' o' u ho' hc' hn' hs' => ?_)
  simp only [Bool.not_true, Bool.false_eq_true, if_false]
  have tk : TK s.heap h' := TK.but hol hnt hs'
  refine wpAny_pure (wpAny_point (h h' ?_ tk))
  have val : ∀ (j : Nat) v', (m.set i Option.none)[j]? = some (some v') → j ≠ i ∧ m[j]? = some (some v') := fun j v' e => by
    by_cases hj : j = i
    · subst hj
      rw [List.getElem?_set_self (List.getElem?_eq_some_iff.mp hm).1] at e
      cases e
    · rw [List.getElem?_set_ne (Ne.symm hj)] at e
      exact ⟨hj, e⟩
  have other : ∀ (j : Nat) nm' k', env.scope.names[j]? = some (nm', k') → j ≠ i → nm' ≠ nm := fun j nm' k' e hj z => by
    subst z
    have h1 : (env.scope.names.map (·.1))[j]? = some nm' := by rw [List.getElem?_map, e]; rfl
    have h2 : (env.scope.names.map (·.1))[i]? = some nm' := by rw [List.getElem?_map, hv.at_]; rfl
    exact hj ((List.getElem?_inj (List.getElem?_eq_some_iff.mp h1).1 F.nd).mp (h1.trans h2.symm))
  refine ⟨⟨⟨_, hn', fun j nm' e v' hv' => ?_⟩, fun j nm' k' e hk' => ?_, ⟨o', ho', by rw [hc']; exact hnt, by rw [hc']; exact hfc⟩, fun y hy => ?_, S.loc.big⟩, fun b o e => ?_, fun a o e => ?_⟩
  · obtain ⟨hj, hm'⟩ := val j v' hv'
    refine ea_EA (rel j nm' e v' hm') fun c a b => ?_
    exact ⟨c, (if_neg (other j nm' _ e hj)).trans a, b.mono tk⟩
  · refine ea_EEAA (S.loc.cell j nm' k' e hk') fun c cvv a ic rr => ?_
    refine ⟨c, cvv, a, ic.sameBut hs' (F.offL _ (PySem.mem_of_lookup a)), fun v' hv' => ?_⟩
    obtain ⟨_, hm'⟩ := val j v' hv'
    refine ea_EA (rr v' hm') fun y e1 e2 => ?_
    exact ⟨y, e1, e2.mono tk⟩
  · refine ea_EEA (S.loc.cex y hy) fun o v ho hd => ?_
    exact ⟨o, v, (hs'.2 _ (F.offL y hy)).trans ho, hd⟩
  · refine ea_EA (S.keep b o e) fun sl g kk => ?_
    exact ⟨sl, (hs'.2 b fun z => by subst z; rw [F.ownL] at e; cases e).trans g, kk⟩
  · refine ea_AAA (S.obj a o e) fun pz1 z0 z1 z2 => ?_
    refine ea_EA pz1 fun co g ro => ?_; clear pz1
    exact ⟨⟨co, (hs'.2 a z1).trans g, ro.mono tk⟩, z0, z1, z2⟩
structure ExcCls (K : Frag) (c fI : Addr) : Prop where
  obj : ∃ nm qn N bs bm hdct sn sub ab col dd k0 k1 k2 k3 k5, K.lookup c = some (excClassObj nm qn c N bs bm hdct sn sub ab col dd k0 k1 k2 k3 k5 "Exception.__new__") ∧ bm.contains (.type "Exception") = true ∧ bm.contains (.type "BaseException") = true ∧
    bm.contains (.type "AttributeError") = false ∧ bm.contains (.type "NameError") = false
  init : findIn K (.ref c) "__init__" = some (some (.ref fI))
  initT : typeIn K (.ref fI) = some (.type "function")
theorem exc_new {prog : Program} {w : World} {A : Around} {R : Result → Shared → Prop} {h : Heap} {g : Array GenState} {d : Drawn} {t : Nat} {os : OsState} {nm q : Str} {C N : Addr} {bs bm : List Value} {hdct : Bool} {sn : List Str} {sub : List Value} {ab : Bool} {col : Option Bool} {dd : Option Addr} {k0 k1 k2 k3 k5 : Option Value} {rest : List Value}
    (hC : h.get? C = some (excClassObj nm q C N bs bm hdct sn sub ab col dd k0 k1 k2 k3 k5 "Exception.__new__")) (h1 : bm.contains (.type "Exception") = true) (h2 : bm.contains (.type "AttributeError") = false) (h3 : bm.contains (.type "NameError") = false) (hrest : rest.length ≤ sizeLine)
    (hq : R (.ok (.ret (.ref (h.objs.size + 1)))) ⟨(h.push (tupObj rest)).push { cls := .ref C, data := .fields #[.ref h.objs.size, .none, .none, .none, .bool false, .none] }, g, d, t, os⟩) :
    codeAny (model prog w) A (.builtin "Exception.__new__" ⟨.ref C :: rest, []⟩) R ⟨h, g, d, t, os⟩ := by
  have F := PySem.F.excBase_Exception
  have hends := F.ends
  have hcB : (Value.ref C :: bm).contains (.type "Exception") = true := by rw [List.contains_cons, h1, Bool.or_true]
  have hcA : (Value.ref C :: bm).contains (.type "AttributeError") = false := by rw [List.contains_cons, h2]; rfl
  have hcN : (Value.ref C :: bm).contains (.type "NameError") = false := by rw [List.contains_cons, h3]; rfl
  refine codeAny_builtinAt F.entry ?_
  unfold Builtin.«BaseException.__new__»
  refine PySem.wpAt_bind ?_
  show PySem.wpAt _ _ _ (stack >>= _) _ _ _
  refine PySem.wpAt_bind (PySem.wpAt_stack fun p below => PySem.wpAt_of_wpAny ?_)
  wp_walk
  refine PySem.wpAt_of_wpAny ?_
  rw [F.owner]
  repeat (first | with_reducible refine wpAny_madeHere_exc F.canon hC ?_ | with_reducible refine wpAny_loadPart_at hC ?_ | (with_reducible refine wpAny_isSubtype_exc hC ?_; first | rw [hcB] | rw [hcA] | rw [hcN]) | wp_step)
  show R _ _
  rw [Heap.size_push]
  exact hq
theorem exc_check_new {M : Model} {A : Around} {E : Value → Shared → Prop} {h : Heap} {g : Array GenState} {d : Drawn} {t : Nat} {os : OsState} {nm q : Str} {C N : Addr} {bs bm : List Value} {hdct : Bool} {sn : List Str} {sub : List Value} {ab : Bool} {col : Option Bool} {dd : Option Addr} {k0 k1 k2 k3 k5 : Option Value} {rest : List Value} {Q : Unit → Shared → Prop}
    (hC : h.get? C = some (excClassObj nm q C N bs bm hdct sn sub ab col dd k0 k1 k2 k3 k5 "Exception.__new__")) (h1 : bm.contains (.type "Exception") = true) (hq : Q () ⟨h, g, d, t, os⟩) :
    wpAny M A (checkBuiltinCall "Exception.__new__" ⟨.ref C :: rest, []⟩) Q E ⟨h, g, d, t, os⟩ := by
  have F := PySem.F.excBase_Exception
  have hcont : (Value.ref C :: bm).contains (.type "Exception") = true := by rw [List.contains_cons, h1, Bool.or_true]
  have hstar := F.noStar
  simp only [checkBuiltinCall, F.newKind, F.newSplit, F.newRow]
  repeat (first | refine wpAny_loadPart_at hC ?_ | (refine wpAny_isSubtype_exc hC ?_; rw [hcont]) | refine wpAny_staticBase_exc hC ?_ | refine wpAny_madeBy_exc hC ?_ | simp only [bne_self_eq_false, Bool.false_eq_true, if_false] | wp_step)
  exact hq
theorem exc_make {prog : Program} {w : World} {A : Around} {E : Value → Shared → Prop} {h : Heap} {g : Array GenState} {d : Drawn} {t : Nat} {os : OsState} {K : Frag} {c fI : Addr} {rest : List Value} {Q : Value → Shared → Prop} (XK : K.In h) (H : ExcCls K c fI) (hrest : rest.length ≤ sizeLine)
    (hq : wpAny (model prog w) (A.under (.builtin "type.__call__" ⟨.ref c :: rest, []⟩)) (call (.ref fI) (.ref (h.objs.size + 1) :: rest)) (fun r s' => r = .none ∧ Q (.ref (h.objs.size + 1)) s') E
      ⟨(h.push (tupObj rest)).push { cls := .ref c, data := .fields #[.ref h.objs.size, .none, .none, .none, .bool false, .none] }, g, d, t, os⟩) :
    wpAny (model prog w) A (call (.ref c) rest) Q E ⟨h, g, d, t, os⟩ := by
  refine ea_EEEEEEEEEEEEEEEEAAAA H.obj fun nm qn N bs bm hdct sn sub ab col dd k0 k1 k2 k3 k5 hK b1 b2 b3 b4 => ?_
  have hC := XK _ _ hK
  have f1 := tc_lookup
  have f2 := tc_bind (.ref c)
  have hT : (⟨h, g, d, t, os⟩ : Shared).TypeIs (.ref c) "type" := ⟨_, hC, rfl⟩
  refine wpAny_call (codeAny_of_tree ?_)
  show wpAny _ _ (callAny (.ref c) _) _ _ _
  repeat (any_goals (first | assumption | with_reducible refine wpAny_loadPart_at hC ?_ | wp_step))
  refine ⟨rfl, ?_⟩
  refine codeAny_call_builtin_at (Code.quiet_builtin _ (by decide +kernel)) entry_typeCall (wpAny_check_type_call_sub hC ?_)
  repeat (first | with_reducible refine wpAny_loadPart_at hC ?_ | with_reducible refine wpAny_madeBy_exc hC ?_ | wp_step)
  refine codeAny_call_builtin_code (Code.quiet_builtin _ PySem.F.excBase_Exception.quiet) (exc_check_new hC b1 ?_)
  refine exc_new hC b1 b3 b4 hrest ?_
  show wpAny _ _ _ _ _ _
  have kp : ∀ b o, h.get? b = some o → ((h.push (tupObj rest)).push { cls := .ref c, data := .fields #[.ref h.objs.size, .none, .none, .none, .bool false, .none] }).get? b = some o := fun b o e => Heap.get?_push_of_some _ (Heap.get?_push_of_some _ e)
  have hC₁ := kp _ _ hC
  have hget : ((h.push (tupObj rest)).push { cls := .ref c, data := .fields #[.ref h.objs.size, .none, .none, .none, .bool false, .none] }).get? (h.objs.size + 1) = some { cls := .ref c, data := .fields #[.ref h.objs.size, .none, .none, .none, .bool false, .none] } := by heap_get
  have hcC : (Value.ref c :: bm).contains (.ref c) = true := by simp
  have XK' : K.In ((h.push (tupObj rest)).push { cls := .ref c, data := .fields #[.ref h.objs.size, .none, .none, .none, .bool false, .none] }) := fun a o e => kp a o (XK a o e)
  unfold isInstance
  repeat (first | with_reducible refine wpAny_loadPart_at hget ?_ | (dsimp only; refine wpAny_isSubtype_exc hC₁ ?_; rw [hcC]) | wp_step)
  show wpAny _ _ (typeLookup (.ref c) _) _ _ _
  refine (looks_findIn (M := model prog w) XK' H.init).here (s := ⟨(h.push (tupObj rest)).push { cls := .ref c, data := .fields #[.ref h.objs.size, .none, .none, .none, .bool false, .none] }, g, d, t, os⟩) ?_
  refine wpAny_holding (wpAny_bind ?_)
  refine (bind_fn (M := model prog w) XK' (.ref (h.objs.size + 1)) H.initT).here (s := ⟨(h.push (tupObj rest)).push { cls := .ref c, data := .fields #[.ref h.objs.size, .none, .none, .none, .bool false, .none] }, g, d, t, os⟩) ?_
  refine wpAny_bind (wpAny_mono hq (fun r s' hr => ?_) fun _ _ x => x)
  obtain ⟨rfl, hQ⟩ := hr
  wp_walk
  exact hQ
end
section
variable {C : Cx} {n : Nat} {q : Bool} {env : Env} {m : List (Option Val)} {σ : AH}
structure ExcSet (K : Frag) (c : Addr) : Prop where
  ga : findIn K (.ref c) "__getattribute__" = some (some (.builtin "BaseException.__getattribute__"))
  gn : findIn K (.ref c) "__getattr__" = some none
  sa : findIn K (.ref c) "__setattr__" = some (some (.builtin "object.__setattr__"))
  cls : ∃ cd, clsIn K c = some cd ∧ cd.hasDict = true ∧ cd.mro.contains (.type "object") = true ∧ cd.mro.isEmpty = false ∧ (∀ self, refuseLoop self "__setattr__" cd.mro = pure ()) ∧ cd.mro.contains (.type "BaseException") = true
theorem osa_exc {prog : Program} {w : World} {A : Around} {R : Result → Shared → Prop} {s : Shared} {K : Frag} {c x : Addr} {ox : Obj} {od : Option Obj} {name : Str} {tk : Tok} {v : Value} (X : K.In s.heap) (I : InstAt s.heap x ox c od) (H : ExcSet K c) (ht : findIn K (.ref c) name = some none)
    (h : wpAny (model prog w) A.in1 (Builtin.ObjectAttr.storeInOwnDict (.ref x) (.ref c) (.str name tk) name v false)
      (fun fin s' => match fin with | .done f => R (.ok f) s' | .again c' => c'.quiet = true ∧ codeAny (model prog w) A c' R s') (fun e s' => R (.error e) s') s) :
    codeAny (model prog w) A (.call (.builtin "object.__setattr__") ⟨[.ref x, .str name tk, v], []⟩) R s := by
  have SF := PySem.F.store_object
  refine ea_EAAAAA H.cls fun cd hc _ ho ne hr _ => ?_
  have sub : Looks (model prog w) s.heap (isInstance (.ref x) (.type "object")) true := I.type.andThen (looks_mroIn X (by unfold mroIn; rw [hc, Option.bind_some, if_neg (by rw [ne]; decide), ho]))
  refine codeAny_call_builtin SF.slot.plain SF.entry (@check_slot (model prog w) _ _ s "object.__setattr__" "object" "__setattr__" (.ref x) [.str name tk, v] [] _ SF.kind SF.split sub (SF.args (.ref x) (.str name tk) v) ?_)
  have hm : Looks (model prog w) s.heap (mroOf (.ref c)) cd.mro := (looks_clsIn X hc).andThen .now
  rw [osa_eq, refuse_eq]
  refine wpAny_bind (wpAny_bind (I.type.here (wpAny_bind (hm.here ?_))))
  rw [hr]
  refine wpAny_pure (wpAny_bind (I.type.here (wpAny_bind ((looks_findIn X ht).here (wpAny_bind ?_)))))
  exact wpAny_pure h
theorem put_step {M : Model} {A : Around} {h₀ : Heap} {s : Shared} {dx : Addr} {fs : List (Str × Val)} {name : Str} {tk : Tok} {v : Val} {cv : Value} (S : St C.lo C.prog C.w h₀ env m σ s.heap) (hd : σ dx = some (.attrs fs)) (hz : fs.length ≤ 100) (rv : VRel s.heap v cv) {Q : PySem.Fin → Shared → Prop} {E : Value → Shared → Prop}
    (h : ∀ h' tk, St C.lo C.prog C.w h₀ env m (σ.set dx (.attrs (putA fs name v))) h' → TK s.heap h' → Q (.done (.ret .none)) { s with heap := h', toks := tk }) :
    wpAny M A (Builtin.ObjectAttr.storeInDict dx (.str name tk) name cv) Q E s := by
  obtain ⟨⟨co, gd, r⟩, _⟩ := S.obj dx _ hd
  refine ea_EEA r fun es k ez1 rz => ?_; clear r; rename _ => r; subst ez1
  have hs : Heap.SameBut dx s.heap (s.heap.update dx (Obj.putName name (PyData.keyHash M.w.params name) (.str name s.toks) cv)) := Heap.SameBut.update ..
  have e := putName_dict name (PyData.keyHash M.w.params name) (.str name s.toks) cv es k
  have gd' : (s.heap.update dx (Obj.putName name (PyData.keyHash M.w.params name) (.str name s.toks) cv)).get? dx = some (dictOf (putL name (PyData.keyHash M.w.params name) (.str name s.toks) cv es) (putN name es k)) := by
    rw [← e]; exact Heap.get?_update_self _ gd (by rw [e]; rfl)
  have ra := r.put (name := name) (hs := PyData.keyHash M.w.params name) (t := s.toks) rv
  have hlen : (putL name (PyData.keyHash M.w.params name) (.str name s.toks) cv es).length ≤ 101 := by
    rw [← ra.length]; have := putA_length name v fs; omega
  have S' := S.upd (o := .attrs (putA fs name v)) hd hs ⟨_, gd', ⟨_, _, rfl, ra⟩⟩
  have fin := h _ (s.toks + 1) S' (TK.but gd (by simp) hs)
  unfold Builtin.ObjectAttr.storeInDict Builtin.ObjectAttr.newKeyGuard
  refine wpAny_bind (wpAny_pure (wpAny_bind ?_))
  unfold nsSet
  refine wpAny_bind (wpAny_bind (wpAny_askSetting (wpAny_pure (wpAny_bind (wpAny_mkText (wpAny_bind (wpAny_loadPart gd ?_)))))))
  dsimp only
  have hg := r.isS (name := name)
  have cc : (!es.toArray.any (·.key.isStr name) && es.toArray.any (·.refKey)) = false := by
    rw [← Array.any_toList, ← Array.any_toList]
    unfold getL at hg
    split at hg
    · rename_i en he
      rw [List.any_eq_true.mpr ⟨en, List.mem_of_find?_eq_some he, List.find?_some he⟩]; rfl
    · split at hg
      · cases hg
      · rename_i z; rw [Bool.not_eq_true] at z; rw [z, Bool.and_false]
  rw [aRefKeyMayBeTheName_at, cc]
  refine wpAny_updatePart gd ?_
  refine wpAny_bind (wpAny_lookBehind gd' (pastItsLine_dict (by rw [List.size_toArray, sizeLine_eq]; omega)) ?_)
  exact wpAny_pure fin
theorem set_exc {A : Around} {h₀ : Heap} {s : Shared} {x c dx : Addr} {fs : List (Str × Val)} {name : Str} {v : Val} {cv : Value} (F : Fm C.lo C.K A h₀ env n q) (S : St C.lo C.prog C.w h₀ env m σ s.heap) (I : InstIs σ x c dx) (hd : σ dx = some (.attrs fs))
    (hc : ExcSet C.K c) (hn : NoAttr C.K c name) (hz : fs.length ≤ 100) (rv : VRel s.heap v cv) {Q : Unit → Shared → Prop} {E : Value → Shared → Prop}
    (h : ∀ h' tk, St C.lo C.prog C.w h₀ env m (σ.set dx (.attrs (putA fs name v))) h' → TK s.heap h' → Q () { s with heap := h', toks := tk }) :
    wpAny (model C.prog C.w) A (setAttr (.ref x) name cv) Q E s := by
  refine ea_EEEAAA (I.at_ S hd) fun ox es k I' od gd r => ?_
  have XK := (F.wd.mono S.keep).inK
  refine set_plain XK I' hc.sa (osa_exc (s := { s with toks := s.toks + 1 }) XK I' hc hn ?_)
  refine ea_EAA hc.cls fun cd hcd hd' _ => ?_
  have hx := I'.at_
  obtain ⟨oc, odi, oda, osl⟩ := ox
  have hcl := I'.cls
  dsimp only at hcl od
  subst hcl od
  refine wpAny_bind (wpAny_pure (wpAny_bind (wpAny_bind (wpAny_loadPart hx (wpAny_bind (Looks.here (s := { s with toks := s.toks + 1 }) (looks_clsIn XK hcd) ?_))))))
  rw [hd']
  refine wpAny_pure (a := some dx) ?_
  exact put_step (s := { s with toks := s.toks + 1 }) S hd hz rv fun h' tk S' t => h h' tk S' t
theorem set_exc0 {A : Around} {h₀ : Heap} {s : Shared} {x c : Addr} {name : Str} {v : Val} {cv : Value} (F : Fm C.lo C.K A h₀ env n q) (S : St C.lo C.prog C.w h₀ env m σ s.heap) (I : σ x = some (.excN c Option.none))
    (hc : ExcSet C.K c) (hn : NoAttr C.K c name) (rv : VRel s.heap v cv) {Q : Unit → Shared → Prop} {E : Value → Shared → Prop}
    (h : ∀ h' tk d, σ d = Option.none → St C.lo C.prog C.w h₀ env m ((σ.set x (.excN c (some d))).set d (.attrs [(name, v)])) h' → TK s.heap h' → Q () { s with heap := h', toks := tk }) :
    wpAny (model C.prog C.w) A (setAttr (.ref x) name cv) Q E s := by
  obtain ⟨⟨co, hx, t, rfl⟩, _⟩ := S.obj x _ I
  have XK := (F.wd.mono S.keep).inK
  have I' : InstAt s.heap x ⟨.ref c, Option.none, .fields #[.ref t, .none, .none, .none, .bool false, .none], #[]⟩ c Option.none := ⟨hx, rfl, rfl, trivial⟩
  refine set_plain XK I' hc.sa (osa_exc (s := { s with toks := s.toks + 1 }) XK I' hc hn ?_)
  refine ea_EAA hc.cls fun cd hcd hd' _ => ?_
  refine wpAny_bind (wpAny_pure (wpAny_bind (wpAny_bind (wpAny_loadPart hx (wpAny_bind (Looks.here (s := { s with toks := s.toks + 1 }) (looks_clsIn XK hcd) ?_))))))
  rw [hd']
  have hxs : x ≠ s.heap.objs.size := Nat.ne_of_lt (Heap.lt_size hx)
  have S1 := S.addNew (co := emptyDict) (o := .attrs []) rfl ⟨[], 0, rfl, rfl⟩
  have hx1 : (s.heap.push emptyDict).get? x = some ⟨.ref c, Option.none, .fields #[.ref t, .none, .none, .none, .bool false, .none], #[]⟩ := Heap.get?_push_of_some _ hx
  have g2 := Heap.get?_update_self (fun o : Obj => { o with dict := some s.heap.objs.size }) hx1 rfl
  have S2 := S1.upd (a := x) (o := .excN c (some s.heap.objs.size)) (by rw [AH.set_ne hxs]; exact I) (Heap.SameBut.update (s.heap.push emptyDict) x (fun o : Obj => { o with dict := some s.heap.objs.size })) ⟨_, g2, t, rfl⟩
  have t1 : TK s.heap (s.heap.push emptyDict) := TK.of_keeps fun _ _ e => Heap.get?_push_of_some _ e
  have t2 : TK (s.heap.push emptyDict) ((s.heap.push emptyDict).update x (fun o : Obj => { o with dict := some s.heap.objs.size })) := TK.but hx1 (by simp) (Heap.SameBut.update ..)
  refine wpAny_bind (wpAny_alloc ?_)
  refine wpAny_bind (wpAny_update (show ({ s with heap := s.heap.push emptyDict, toks := s.toks + 1 } : Shared).heap.get? x = _ from hx1) ?_)
  refine wpAny_pure ?_
  refine put_step (s := { s with heap := (s.heap.push emptyDict).update x (fun o : Obj => { o with dict := some s.heap.objs.size }), toks := s.toks + 1 }) S2 (fs := []) (by rw [AH.set_ne (Ne.symm hxs), AH.set_self]) (by simp) (rv.mono (t1.trans t2)) fun h' tk S' t => ?_
  refine h h' tk s.heap.objs.size S.fresh ?_ (t1.trans (t2.trans t))
  have e : ((σ.set s.heap.objs.size (.attrs [])).set x (.excN c (some s.heap.objs.size))).set s.heap.objs.size (.attrs (putA [] name v)) = (σ.set x (.excN c (some s.heap.objs.size))).set s.heap.objs.size (.attrs [(name, v)]) := by
    funext y
    unfold AH.set
    by_cases h1 : y = s.heap.objs.size
    · simp [h1, putA]
    · simp [h1]
  rw [e] at S'
  exact S'
end
section
variable {C : Cx} {n : Nat} {q : Bool} {env : Env} {m : List (Option Val)} {σ : AH}
theorem exc_getx {prog : Program} {w : World} {A : Around} {E : Value → Shared → Prop} {hh : Heap} {g : Array GenState} {d : Drawn} {t : Nat} {os : OsState} {K : Frag} {x c : Addr} {ox : Obj} {od : Option Obj} {name : Str} {v : Value} {ex : Bool} {Q : Value → Shared → Prop} (X : K.In hh) (I : InstAt hh x ox c od) (H : ExcSet K c)
    (hf : findObj K c od name = some (.value v)) (hv : handedIn v = true) (h : Q v ⟨hh, g, d, t + 1, os⟩) : wpAny (model prog w) A (getAttr (.ref x) name ex) Q E ⟨hh, g, d, t, os⟩ := by
  refine ea_EAAAAA H.cls fun cd hc _ _ ne _ hb => ?_
  have L0 := I.type (M := model prog w)
  have L1 := looks_findIn (M := model prog w) X H.ga
  have Lh : Looks (model prog w) hh (hookBefore (.ref c)) none := looks_hook X (by show findIn K (.ref c) "__getattr__" = _; exact H.gn)
  have L2 := looks_find (M := model prog w) X I hf
  have sub : Looks (model prog w) hh (isInstance (.ref x) (.type "BaseException")) true := L0.andThen (looks_mroIn X (by unfold mroIn; rw [hc, Option.bind_some, if_neg (by rw [ne]; decide), hb]))
  have hx0 : (ex && onTheHeap (Value.builtin "BaseException.__getattribute__")) = false := by cases ex <;> rfl
  have hx2 : (Value.builtin "BaseException.__getattribute__" == Value.builtin "object.__getattribute__") = false := by decide +kernel
  have hx1 : ¬ ((onTheHeap (Value.ref c) && Value.builtin "BaseException.__getattribute__" == Value.builtin "object.__getattribute__") = true) := by rw [hx2]; simp
  unfold getAttr getAttrBy
  refine wpAny_bind (wpAny_mkText (wpAny_holding (wpAny_bind (L0.at (wpAny_bind (L1.at ?_))))))
  dsimp only
  rw [if_neg hx1]
  unfold getAttrByItsOwn
  refine wpAny_bind (Lh.at (wpAny_bind (wpAny_attempt (wpAny_holding ?_))))
  unfold callGetattribute
  rw [if_neg (by rw [hx0]; simp)]
  unfold boundAndCalled
  rw [PySem.F.attr_Exception.ga.bind]
  refine wpAny_bind (wpAny_pure ?_)
  have hk : builtinKind "BaseException.__getattribute__" = some .slot := by decide +kernel
  have hs : splitId "BaseException.__getattribute__" = some ("BaseException", "__getattribute__") := by decide +kernel
  refine wpAny_call ?_
  show codeAny _ _ (.call (.builtin "BaseException.__getattribute__") ⟨[.ref x, .str name t], []⟩) _ _
  refine codeAny_call_builtin PySem.F.attr_Exception.ga.plain PySem.F.entry_bexc_ga (@check_slot (model prog w) _ _ _ "BaseException.__getattribute__" "BaseException" "__getattribute__" (.ref x) [.str name t] [] _ hk hs sub (PySem.F.args_bexc_ga (.ref x) (.str name t)) ?_)
  refine wpAny_bind (wpAny_pure (wpAny_bind (wpAny_pure (wpAny_bind (L0.at (wpAny_bind (L2.at ?_)))))))
  refine wpAny_pure ?_
  show wpAny _ _ (handedOut v) _ _ _
  rw [handedOut_of hv]; exact wpAny_pure h
theorem JE_excattr {o : Expr} {name : Str} {pos : Pos} {Q : Val → AH → Prop} {X : Addr → AH → Prop}
    (h : JE C n q env m σ o (fun ov σ₁ => ∃ x c dx fs v, ov = .ref x ∧ InstIs σ₁ x c dx ∧ σ₁ dx = some (.attrs fs) ∧ fs.lookup name = some v ∧ ExcSet C.K c ∧ hasDictIn C.K c = true ∧ NoAttr C.K c name ∧ v.handed = true ∧ Q v σ₁) X)
    (he : ∀ env, eval (.Attribute o name pos) env = (do
      let ov ← eval o env
      standAt pos.atName
      let r ← holding [ov] (getAttr ov name true)
      letTemporaryGo o ov r
      pure r) := by intro _; with_unfolding_all rfl) : JE C n q env m σ (.Attribute o name pos) Q X := fun A h₀ s F S O => by
  refine Attribute_any_ (wpAny_mono (h A h₀ s F S O) (fun ov s₁ z => ?_) fun _ _ x => x) (he env)
  refine ea_AAEEAAEEEEEAAAAAAAA z fun O₁ k₁ v₁ σ₁ r₁ S₁ x c dx fs v ez1 I hd hl hc hD hn hv hQ => ?_; clear z; subst ez1
  cases r₁
  refine ea_EEEAAA (I.at_ S₁ hd) fun ox es k I' _ _ r => ?_
  refine ea_EA (r.get hl) fun cv g rv => ?_
  obtain ⟨hh, gg, d, t, os⟩ := s₁
  exact exc_getx (F.wd.mono S₁.keep).inK I' hc (findObj_own hD hn rfl g) (handed_of hv rv) ⟨O₁, k₁, v, σ₁, rv, S₁, hQ⟩
theorem JSs_setexc0 {rest : List Stmt} {Q : MFlow → List (Option Val) → AH → Prop} {X : Addr → List (Option Val) → AH → Prop} {o e : Expr} {name : Str} {apos pos : Pos}
    (h : JE C n q env m σ e (fun v σ₁ => JE C n q env m σ₁ o (fun ov σ₂ => ∃ x c, ov = .ref x ∧ σ₂ x = some (.excN c Option.none) ∧ ExcSet C.K c ∧ NoAttr C.K c name ∧
      ∀ d, σ₂ d = Option.none → JSs C n q env m ((σ₂.set x (.excN c (some d))).set d (.attrs [(name, v)])) rest Q X) (fun a σ' => X a m σ')) (fun a σ' => X a m σ')) (hs : ∀ env, swapsWith e (some (.Attribute o name apos)) pos.line env = pure false := by intro _; rfl) :
    JSs C n q env m σ (.Assign [.Attribute o name apos] e pos :: rest) Q X := step fun A h₀ s F S O => by
  refine plainObj_wpAny_Assign_Attribute (wpAny_mono (h A h₀ s F S O) (fun v s₁ z => ?_) fun _ _ x => x.toS) (hs env)
  refine ea_AAEEAA z fun O₁ k₁ v₁ σ₁ r₁ S₁ hJ => ?_; clear z
  refine wpAny_mono (hJ A h₀ s₁ F S₁ O₁) (fun ov s₂ z => ?_) fun _ _ x => x.toS
  refine ea_AAEEAAEEAAAA z fun O₂ k₂ v₂ σ₂ r₂ S₂ x c ez2 I hc hn hJ => ?_; clear z; subst ez2
  cases r₂
  exact set_exc0 F S₂ I hc hn (r₁.mono k₂) fun h' tk d hd S' t => ⟨rfl, O₂, m, _, S', hJ d hd⟩
theorem JSs_setexc {rest : List Stmt} {Q : MFlow → List (Option Val) → AH → Prop} {X : Addr → List (Option Val) → AH → Prop} {o e : Expr} {name : Str} {apos pos : Pos}
    (h : JE C n q env m σ e (fun v σ₁ => JE C n q env m σ₁ o (fun ov σ₂ => ∃ x c dx fs, ov = .ref x ∧ InstIs σ₂ x c dx ∧ σ₂ dx = some (.attrs fs) ∧ ExcSet C.K c ∧ NoAttr C.K c name ∧ fs.length ≤ 100 ∧
      JSs C n q env m (σ₂.set dx (.attrs (putA fs name v))) rest Q X) (fun a σ' => X a m σ')) (fun a σ' => X a m σ')) (hs : ∀ env, swapsWith e (some (.Attribute o name apos)) pos.line env = pure false := by intro _; rfl) :
    JSs C n q env m σ (.Assign [.Attribute o name apos] e pos :: rest) Q X := step fun A h₀ s F S O => by
  refine plainObj_wpAny_Assign_Attribute (wpAny_mono (h A h₀ s F S O) (fun v s₁ z => ?_) fun _ _ x => x.toS) (hs env)
  refine ea_AAEEAA z fun O₁ k₁ v₁ σ₁ r₁ S₁ hJ => ?_; clear z
  refine wpAny_mono (hJ A h₀ s₁ F S₁ O₁) (fun ov s₂ z => ?_) fun _ _ x => x.toS
  refine ea_AAEEAAEEEEAAAAAA z fun O₂ k₂ v₂ σ₂ r₂ S₂ x c dx fs ez3 I hd hc hn hz hJ => ?_; clear z; subst ez3
  cases r₂
  exact set_exc F S₂ I hd hc hn hz (r₁.mono k₂) fun h' tk S' t => ⟨rfl, O₂, m, _, S', hJ⟩
theorem JC_exc {c fI : Addr} {vs : List Val} {Q : Val → AH → Prop} {X : Addr → AH → Prop} (H : ExcCls C.K c fI) (hz : vs.length ≤ sizeLine)
    (h : ∀ x, σ x = none → JK C n q env m (σ.set x (.excN c Option.none)) (.ref fI) (.ref x :: vs) (fun v σ' => v = .none ∧ Q (.ref x) σ') X) : JC C (n + 1) q env m σ (.ref c) vs Q X := fun A h₀ s cs F S O r => by
  have XK := (F.wd.mono S.keep).inK
  obtain ⟨hh, g, d, t, os⟩ := s
  have S2 := (S.push (tupObj cs)).addNew (co := { cls := .ref c, data := .fields #[.ref hh.objs.size, .none, .none, .none, .bool false, .none] }) (o := .excN c Option.none) rfl ⟨_, rfl⟩
  rw [Heap.size_push] at S2
  have hx : σ (hh.objs.size + 1) = none := by
    cases e : σ (hh.objs.size + 1) with
    | none => rfl
    | some o => exact absurd (S.lt e) (Nat.not_lt.mpr (Nat.le_succ _))
  have k2 : TK hh ((hh.push (tupObj cs)).push { cls := .ref c, data := .fields #[.ref hh.objs.size, .none, .none, .none, .bool false, .none] }) := TK.of_keeps fun _ _ e => Heap.get?_push_of_some _ (Heap.get?_push_of_some _ e)
  refine exc_make XK H (by rw [← r.length]; exact hz) ?_
  refine wpAny_mono ((h _ hx).call _ h₀ ⟨(hh.push (tupObj cs)).push { cls := .ref c, data := .fields #[.ref hh.objs.size, .none, .none, .none, .bool false, .none] }, g, d, t, os⟩ (.ref (hh.objs.size + 1) :: cs) F.make S2 O ⟨_, _, rfl, rfl, r.mono k2⟩) (fun v s' z => ?_) fun _ _ x => x
  refine ea_AAEEAAA z fun O' k' v' σ' rv S' ez4 hQ => ?_; clear z; subst ez4
  cases rv
  exact ⟨rfl, O', k2.trans k', .ref _, σ', rfl, S', hQ⟩
theorem JSs_raise {rest : List Stmt} {Q : MFlow → List (Option Val) → AH → Prop} {X : Addr → List (Option Val) → AH → Prop} {e : Expr} {pos : Pos}
    (h : JE C n true env m σ e (fun v σ₁ => ∃ x c dx fI, v = .ref x ∧ σ₁ x = some (.excN c (some dx)) ∧ ExcCls C.K c fI ∧ X x m (σ₁.set x (.exc c dx))) (fun a σ' => X a m σ')) : JSs C n true env m σ (.Raise (some e) none pos :: rest) Q X := fun A h₀ s F S O => by
  refine wpAny_execs_cons ?_
  rw [arm_exec_Raise]
  have main : wpAny (model C.prog C.w) A (raiseStmt env (some (do let v ← eval e env; standAt pos; pure v)) none) (fun f s' => match f with | .next => wpAny (model C.prog C.w) A (execs rest env) (QS C h₀ env Q) (XS C h₀ env X) s' | f => QS C h₀ env Q f s') (XS C h₀ env X) s := by
    unfold raiseStmt
    refine wpAny_bind (wpAny_bind (wpAny_mono (h A h₀ s F S O) (fun v s₁ z => wpAny_bind (wpAny_standAt (wpAny_pure ?_))) fun _ _ x => x.toS))
    refine ea_AAEEAAEEEEAAA z fun O₁ k₁ v₁ σ₁ r₁ S₁ x c dx fI ez5 hσ H hX => ?_; clear z; subst ez5
    cases r₁
    refine ea_EEEEEEEEEEEEEEEEAAAA H.obj fun nm qn N bs bm hdct sn sub ab col dd k0 k1 k2 k3 k5 hK b1 b2 b3 b4 => ?_
    have hC := (F.wd.mono S₁.keep).inK _ _ hK
    refine ea_AA (S₁.obj x _ hσ) fun pz6 h0 _ => ?_
    refine ea_EAE pz6 fun co he t ez7 => ?_; clear pz6; subst ez7
    have hcB : (Value.ref c :: bm).contains (.type "BaseException") = true := by rw [List.contains_cons, b2, Bool.or_true]
    have S₂ := S₁.upd (o := .exc c dx) hσ (Heap.SameBut.refl ..) ⟨_, he, _, _, rfl⟩
    have fin : XS C h₀ env X (.ref x) s₁ := ⟨O₁, x, m, _, rfl, S₂, ⟨c, dx, AH.set_self _ _ _⟩, .inl ⟨c, dx, _, _, he, h0, rfl⟩, hX⟩
    obtain ⟨hp, g, d, tk, os⟩ := s₁
    repeat (first | with_reducible refine wpAny_loadPart_at he ?_ | with_reducible refine wpAny_loadPart_at hC ?_ | (dsimp only; refine wpAny_isSubtype_exc hC ?_; rw [hcB]) | wp_step)
    exact wpAny_raiseNew_none (F.hand rfl) fin
  first
    | exact wpAny_bind (wpAny_standAt main)
    | (simp only [evalOpt, Option.map]; exact wpAny_bind (wpAny_standAt main))
end
section
variable {lo : Nat}
variable {C : Cx} {n : Nat} {q : Bool} {env : Env} {m : List (Option Val)} {σ : AH}
theorem Fm.mark {K : Frag} {A : Around} {h₀ : Heap} {e : Option Value} (F : Fm lo K A h₀ env n q) : Fm lo K (A.mark e) h₀ env n false :=
  ⟨F.kind, F.glob, F.blt, F.nd, F.depth, F.units, (fun z => by cases z), F.apart, F.offL, F.ownL, F.ownC, F.wd, F.frs, F.low⟩
theorem FRel.mono {h h' : Heap} (k : TK h h') {f : MFlow} {c : Flow} (r : FRel h f c) : FRel h' f c := by
  cases f with
  | ret v => obtain ⟨y, rfl, r⟩ := r; exact ⟨y, rfl, r.mono k⟩
  | _ => exact r
theorem load_glob {M : Model} {A : Around} {E : Value → Shared → Prop} {s : Shared} {h₀ : Heap} {nm : Str} {i : Nat} {c : Value} {K : Frag} {Q : Value → Shared → Prop} {pos : Pos} (F : Fm lo K A h₀ env n q) (W : Wd K s.heap) (hv : IsVar env nm i .globalImplicit) (hg : GlobIs K nm c) (h : Q c s) : wpAny M A (eval (.Name nm pos) env) Q E s := by
  refine wpAny_Name ?_ hv.nd
  have hk : env.kindOf nm = some .globalImplicit := hv.kind F.nd
  have hb : env.blockKind = .function := by unfold Env.blockKind; rw [F.kind]; rfl
  have e : loadName env nm = loadGlobal env nm := by
    unfold loadName
    rw [hb, hk, F.kind]
    rfl
  rw [e]
  unfold loadGlobal
  rw [F.glob]
  rcases hg with hg | ⟨hg, hn, hb⟩
  · exact wpAny_bind ((looks_nsIn W.inK hg).here (wpAny_pure h))
  · refine wpAny_bind ((looks_nsIn W.inK hg).here ?_)
    dsimp only
    rw [F.blt]
    refine ea_EA W.bns fun mb nb eb => ?_
    refine wpAny_bind (wpAny_nsGet nb ?_)
    rw [eb nm hn, hb]
    exact wpAny_pure h
theorem JSs_try {rest body hbody : List Stmt} {b₀ : Stmt} {Q : MFlow → List (Option Val) → AH → Prop} {X : Addr → List (Option Val) → AH → Prop} {tn nm : Str} {tpos hpos pos : Pos} {i j : Nat} {c fI : Addr} (hf : env.frame = some env.locals) (hv : IsVar env nm i .local)
    (ht : IsVar env tn j .globalImplicit) (hg : GlobIs C.K tn (.ref c)) (H : ExcCls C.K c fI)
    (h : JSs C n true env m σ body (fun f m' σ' => match f with | .next => JSs C n true env m' σ' rest Q X | f => Q f m' σ')
      (fun a m' σ' => ∃ dx, σ' a = some (.exc c dx) ∧ i < m'.length ∧
        JSs C n false env (m'.set i (some (.ref a))) σ' (b₀ :: hbody)
          (fun f m3 σ3 => (∃ v, m3[i]? = some (some v)) ∧ match f with | .next => JSs C n true env (m3.set i Option.none) σ3 rest Q X | f => Q f (m3.set i Option.none) σ3) (fun _ _ _ => False))) :
    JSs C n true env m σ (.Try body [.ExceptHandler (some (.Name tn tpos)) (some nm) (b₀ :: hbody) hpos] [] [] pos :: rest) Q X := fun A h₀ s F S O => by
  refine wpAny_execs_cons (wpAny_Try_except (wpAny_mono (h A h₀ s F S O) (fun f s₁ z => ?_) fun e s₁ z => ?_))
  · refine ea_AEEEAA z fun O₁ f' m₁ σ₁ rf S₁ hQ => ?_; clear z
    cases f' with
    | next => cases rf; exact wpAny_execs_nil (hQ A h₀ s₁ F S₁ O₁)
    | brk => cases rf; exact ⟨O₁, .brk, m₁, σ₁, rfl, S₁, hQ⟩
    | cont => cases rf; exact ⟨O₁, .cont, m₁, σ₁, rfl, S₁, hQ⟩
    | ret v => obtain ⟨c, rfl, rc⟩ := rf; exact ⟨O₁, .ret v, m₁, σ₁, ⟨c, rfl, rc⟩, S₁, hQ⟩
  · refine ea_AEEEAAAAEAA z fun O₁ a m₁ σ₁ ez1 S₁ _ y dx hσ hi hB => ?_; clear z; subst ez1
    refine note_st F S₁ hf hσ y fun h₂ S₂ y₂ t₂ => ?_
    refine flight_st (s := { s₁ with heap := h₂ }) (fr := none) S₂ hσ y₂ (.inl rfl) fun h₃ S₃ y₃ t₃ => ?_
    refine ea_EEEEEEEEEEEEEEEEAAAA H.obj fun nn qn N bs bm hdct sn sub ab col dd k0 k1 k2 k3 k5 hK b1 b2 b3 b4 => ?_
    have hC := (F.wd.mono S₃.keep).inK _ _ hK
    obtain ⟨⟨co, he, vs, sl, rfl⟩, _⟩ := S₃.obj a _ hσ
    refine wpAny_handleBy_cons (codeAny_handlers_test (load_glob (F.mark (e := some (.ref a))) (F.wd.mono S₃.keep) ht hg ?_)) (by intro q; cases q)
    refine wpAny_excMatches_sub_self hC he rfl b2 (codeAny_handlers_suite_as ?_)
    have y₃' : FlyT h₀ h₃ env.frame a := by
      refine ea_EEEEEEEEAAAAAAAA y₃ fun c dx vs sl T oT ts fl z1 z2 z3 z4 z5 z6 z7 z8 z9 => ?_; clear y₃
      refine ⟨c, dx, vs, sl, T, oT, ts, fl, z1, z2, z3, z4, z5, z6, z7, z8, .inl ?_⟩
      rcases z9 with z | ⟨L, z, _⟩
      · exact z
      · cases z
    refine flight_st (s := { s₁ with heap := h₃ }) (fr := none) S₃ hσ y₃' (.inl rfl) fun h₄ S₄ y₄ t₄ => ?_
    refine store_var (s := { s₁ with heap := h₄ }) (v := .ref a) (F.mark (e := some (.ref a))) S₄ hv (.inl rfl) hi rfl fun h₅ tk₅ S₅ t₅ => ?_
    refine wpAny_mono (hB _ h₀ { s₁ with heap := h₅, toks := tk₅ } (F.mark (e := some (.ref a))) S₅ O₁) (fun f s₆ z => ?_) fun _ _ z => by obtain ⟨_, _, _, _, _, _, _, _, z⟩ := z; exact z.elim
    refine ea_AEEEAAA z fun O₆ f' m₆ σ₆ rf S₆ pz2 hQ => ?_; clear z
    obtain ⟨v, hm⟩ := pz2
    dsimp only
    refine wpAny_bind (wpAny_bindName (store_var (v := .none) F S₆ hv (.inl rfl) (List.getElem?_eq_some_iff.mp hm).1 rfl fun h₇ tk₇ S₇ t₇ => ?_))
    unfold unbindBehindTheSuite
    refine wpAny_onRaise (unbind_var (s := { s₆ with heap := h₇, toks := tk₇ }) F S₇ hv (List.getElem?_set_self (List.getElem?_eq_some_iff.mp hm).1) fun h₈ S₈ t₈ => ?_)
    have S₈' : St C.lo C.prog C.w h₀ env (m₆.set i Option.none) σ₆ h₈ := by
      have e : (m₆.set i (some Val.none)).set i Option.none = m₆.set i Option.none := List.set_set ..
      rw [e] at S₈; exact S₈
    have rf' : FRel h₈ f' f := rf.mono (t₇.trans t₈)
    have O₈ : Ok C { s₆ with heap := h₈, toks := tk₇ } := O₆
    cases f' with
    | next => cases rf; exact hQ A h₀ _ F S₈' O₈
    | brk => cases rf; exact ⟨O₈, .brk, _, σ₆, rfl, S₈', hQ⟩
    | cont => cases rf; exact ⟨O₈, .cont, _, σ₆, rfl, S₈', hQ⟩
    | ret v => obtain ⟨c, rfl, rc⟩ := rf'; exact ⟨O₈, .ret v, _, σ₆, ⟨c, rfl, rc⟩, S₈', hQ⟩
end
section
variable {C : Cx} {n : Nat} {q : Bool} {env : Env} {m : List (Option Val)} {σ : AH} {X : Addr → AH → Prop} {Q : Val → AH → Prop}
structure EnvIs (env : Env) (names : List (Str × NameKind)) : Prop where
  nms : env.scope.names = names
  frame : env.frame = some env.locals
  kind : env.scope.kind = .function
  cells : ∀ nm, (nm, NameKind.cell) ∈ names → ∃ c, env.cells.lookup nm = some c
structure Nms (env : Env) (names : List (Str × NameKind)) : Prop where
  eq : env.scope.names = names
theorem JK_def {f : Addr} {fd : FuncData} {body : List Stmt} {ds : List Value} {dv vs : List Val} (pn : List Str) {names : List (Str × NameKind)} (H : FnOk C.K f fd body pn) (hb : Binds C.K fd pn vs.length ds) (hd : ∀ h, VRels h dv ds) (hlen : pn.length = vs.length + dv.length) (hn : fd.scope.names = names)
    (h : ∀ env, EnvIs env names → Nms env names → JSs C n true env (frame0 names (vs ++ dv)) σ body (fun fl _ σ' => Q (retv fl) σ') (fun a _ σ' => X a σ')) : JK C (n + 1) true env m σ (.ref f) vs Q X := by
  refine JK_fn H hb hd hlen fun L => ?_
  rw [hn]
  exact h _ ⟨hn, rfl, H.kind, fun nm hm => Option.isSome_iff_exists.mp (cellsFrom_has _ _ _ _ (.inl (by rw [hn]; exact hm)))⟩ ⟨hn⟩
theorem EnvIs.var {names : List (Str × NameKind)} (e : EnvIs env names) {nm : Str} {i : Nat} {k : NameKind} (h : names[i]? = some (nm, k)) (nd : (nm == ("__debug__" : Str)) = false) : IsVar env nm i k := ⟨by rw [e.nms]; exact h, nd⟩
theorem EnvIs.sto {names : List (Str × NameKind)} (e : EnvIs env names) {k : NameKind} (h : k = .local ∨ k = .cell) : Storable env k := h.elim .inl fun z => .inr ⟨z, e.frame⟩
theorem JEv {names : List (Str × NameKind)} {nm : Str} {pos : Pos} {v : Val} {k : NameKind} (i : Nat) (e : Nms env names) (hn : names[i]? = some (nm, k)) (nd : (nm == ("__debug__" : Str)) = false) (hk : k = .local ∨ k = .cell) (hm : m[i]? = some (some v)) (h : Q v σ) : JE C n q env m σ (.Name nm pos) Q X :=
  JE_var ⟨by rw [e.eq]; exact hn, nd⟩ hm h hk
theorem JEg {names : List (Str × NameKind)} {nm : Str} {pos : Pos} {v : Val} {c : Value} (i : Nat) (e : Nms env names) (hn : names[i]? = some (nm, .globalImplicit)) (nd : (nm == ("__debug__" : Str)) = false) (hg : GlobIs C.K nm c) (ho : v.own = some c) (h : Q v σ) : JE C n q env m σ (.Name nm pos) Q X :=
  JE_glob ⟨by rw [e.eq]; exact hn, nd⟩ hg ho h
theorem JSv {names : List (Str × NameKind)} {rest : List Stmt} {Q : MFlow → List (Option Val) → AH → Prop} {X : Addr → List (Option Val) → AH → Prop} {nm : Str} {npos pos : Pos} {ex : Expr} {k : NameKind} (i : Nat) (e : EnvIs env names) (hn : names[i]? = some (nm, k)) (nd : (nm == ("__debug__" : Str)) = false) (hk : k = .local ∨ k = .cell) (hi : Nat.ble (i + 1) m.length = true)
    (h : JE C n q env m σ ex (fun v σ₁ => JSs C n q env (m.set i (some v)) σ₁ rest Q X) (fun a σ' => X a m σ')) (hs : ∀ env, swapsWith ex (some (.Name nm npos)) pos.line env = pure false := by intro _; rfl) :
    JSs C n q env m σ (.Assign [.Name nm npos] ex pos :: rest) Q X := JSs_assign (e.var hn nd) (e.sto hk) (Nat.le_of_ble_eq_true hi) h hs
theorem binds0 {K : Frag} {fd : FuncData} (h : ∀ s : Shared, BindsTo s fd ⟨[], []⟩ []) : Binds K fd [] 0 [] := fun s cs _ hl => by
  match cs, hl with
  | [], _ => exact h s
theorem binds1 {K : Frag} {fd : FuncData} {p : Str} (h : ∀ (s : Shared) a, BindsTo s fd ⟨[a], []⟩ [(p, a)]) : Binds K fd [p] 1 [] := fun s cs _ hl => by
  match cs, hl with
  | [a], _ => exact h s a
theorem binds2 {K : Frag} {fd : FuncData} {p p2 : Str} (h : ∀ (s : Shared) a b, BindsTo s fd ⟨[a, b], []⟩ [(p, a), (p2, b)]) : Binds K fd [p, p2] 2 [] := fun s cs _ hl => by
  match cs, hl with
  | [a, b], _ => exact h s a b
theorem binds3 {K : Frag} {fd : FuncData} {p p2 p3 : Str} (h : ∀ (s : Shared) a b c, BindsTo s fd ⟨[a, b, c], []⟩ [(p, a), (p2, b), (p3, c)]) : Binds K fd [p, p2, p3] 3 [] := fun s cs _ hl => by
  match cs, hl with
  | [a, b, c], _ => exact h s a b c
theorem binds4 {K : Frag} {fd : FuncData} {p p2 p3 p4 : Str} (h : ∀ (s : Shared) a b c d, BindsTo s fd ⟨[a, b, c, d], []⟩ [(p, a), (p2, b), (p3, c), (p4, d)]) : Binds K fd [p, p2, p3, p4] 4 [] := fun s cs _ hl => by
  match cs, hl with
  | [a, b, c, d], _ => exact h s a b c d
theorem binds8 {K : Frag} {fd : FuncData} {p p2 p3 p4 p5 p6 p7 p8 : Str} (h : ∀ (s : Shared) a b c d e f g i, BindsTo s fd ⟨[a, b, c, d, e, f, g, i], []⟩ [(p, a), (p2, b), (p3, c), (p4, d), (p5, e), (p6, f), (p7, g), (p8, i)]) : Binds K fd [p, p2, p3, p4, p5, p6, p7, p8] 8 [] := fun s cs _ hl => by
  match cs, hl with
  | [a, b, c, d, e, f, g, i], _ => exact h s a b c d e f g i
theorem bindsD4 {K : Frag} {fd : FuncData} {p p2 p3 p4 p5 : Str} {dv : Value} (h : ∀ (s : Shared) a b c d, K.In s.heap → BindsTo s fd ⟨[a, b, c, d], []⟩ [(p, a), (p2, b), (p3, c), (p4, d), (p5, dv)]) : Binds K fd [p, p2, p3, p4, p5] 4 [dv] := fun s cs X hl => by
  match cs, hl with
  | [a, b, c, d], _ => exact h s a b c d X
theorem bindsD3 {K : Frag} {fd : FuncData} {p p2 p3 p4 : Str} {dv : Value} (h : ∀ (s : Shared) a b c, K.In s.heap → BindsTo s fd ⟨[a, b, c], []⟩ [(p, a), (p2, b), (p3, c), (p4, dv)]) : Binds K fd [p, p2, p3, p4] 3 [dv] := fun s cs X hl => by
  match cs, hl with
  | [a, b, c], _ => exact h s a b c X
theorem bindsX5 {K : Frag} {fd : FuncData} {p p2 p3 p4 p5 : Str} (h : ∀ (s : Shared) a b c d e, K.In s.heap → BindsTo s fd ⟨[a, b, c, d, e], []⟩ [(p, a), (p2, b), (p3, c), (p4, d), (p5, e)]) : Binds K fd [p, p2, p3, p4, p5] 5 [] := fun s cs X hl => by
  match cs, hl with
  | [a, b, c, d, e], _ => exact h s a b c d e X
theorem bindsX4 {K : Frag} {fd : FuncData} {p p2 p3 p4 : Str} (h : ∀ (s : Shared) a b c d, K.In s.heap → BindsTo s fd ⟨[a, b, c, d], []⟩ [(p, a), (p2, b), (p3, c), (p4, d)]) : Binds K fd [p, p2, p3, p4] 4 [] := fun s cs X hl => by
  match cs, hl with
  | [a, b, c, d], _ => exact h s a b c d X
theorem comp_ok {names : List (Str × NameKind)} {scope : Scope} (ns : List (Str × NameKind)) {fn : Str} {c : Addr} (j : Nat) {v : Val} {mC : List (Option Val)} (e : EnvIs env names) (hk : scope.kind = .function) (hn : scope.names = ns)
    (hl : ∀ x ∈ ns, x.2 = .local → ns.lookup x.1 = some .local) (hc : ∀ x ∈ ns, x.2 ≠ .cell) (nd : (ns.map (·.1)).Nodup) (hf : ∀ x ∈ ns, x.2 = .free → x.1 = fn) (clos : closureFor scope env = pure [(fn, c)]) (hcl : env.cells.lookup fn = some c)
    (hj : names[j]? = some (fn, .cell)) (nd' : (names.map (·.1)).Nodup) (hm : m[j]? = some (some v)) (hv : ∀ (i : Nat) x k v', ns[i]? = some (x, k) → mC[i]? = some (some v') → k = .free ∧ v' = v) : CompOk env scope [(fn, c)] m mC where
  kind := hk
  loc := by rw [hn]; exact hl
  noc := by rw [hn]; exact hc
  nd := by rw [hn]; exact nd
  clos := clos
  sub := fun x hx => by rw [List.mem_singleton.mp hx]; exact PySem.mem_of_lookup hcl
  apart := List.pairwise_singleton ..
  free := fun nm h => by
    rw [hn] at h
    have : nm = fn := hf _ h rfl
    subst this
    refine ⟨?_, by rw [hcl]; simp⟩
    show env.scope.names.lookup nm = some .cell
    rw [e.nms]; exact lookup_of_get nd' hj
  val := fun i nm k v' h1 h2 => by
    rw [hn] at h1
    obtain ⟨rfl, rfl⟩ := hv i nm k v' h1 h2
    have : nm = fn := hf _ (List.mem_of_getElem? h1) rfl
    subst this
    exact ⟨rfl, j, by rw [e.nms]; exact hj, hm⟩
theorem compEnv_names {names : List (Str × NameKind)} {scope : Scope} {cl : List (Str × Addr)} {L : Addr} {ns ns' : List (Str × NameKind)} (e : EnvIs env names) (hn : scope.names = ns)
    (h : (ns.map fun (n, k) => if (k == .free && names.lookup n == some .cell) then (n, NameKind.cell) else (n, k)) = ns') : Nms (compEnvC scope cl L env) ns' := by
  refine ⟨?_⟩
  show (relabel scope env).names = ns'
  unfold relabel
  dsimp only
  rw [hn, ← h]
  refine List.map_congr_left fun x _ => ?_
  obtain ⟨a, b⟩ := x
  have : env.kindOf a = names.lookup a := by show env.scope.names.lookup a = _; rw [e.nms]
  dsimp only
  rw [this, e.kind]
  cases b <;> simp
end
section
variable {C : Cx} {n : Nat} {q : Bool} {env : Env} {m : List (Option Val)} {σ : AH}
theorem JE.mono {X : Addr → AH → Prop} {e : Expr} {P Q : Val → AH → Prop} (h : JE C n q env m σ e P X) (k : ∀ v σ', P v σ' → Q v σ') : JE C n q env m σ e Q X := fun A h₀ s F S O =>
  wpAny_mono (h A h₀ s F S O) (fun v s' z => let ⟨O₁, k₁, v₁, σ₁, r₁, S₁, h₁⟩ := z; ⟨O₁, k₁, v₁, σ₁, r₁, S₁, k _ _ h₁⟩) fun _ _ x => x
section
variable {rest : List Stmt} {Q : MFlow → List (Option Val) → AH → Prop} {X : Addr → List (Option Val) → AH → Prop}
theorem JSs_append {a : List Stmt} (h : JSs C n q env m σ a (fun f m' σ' => f = .next ∧ JSs C n q env m' σ' rest Q X) X) : JSs C n q env m σ (a ++ rest) Q X := fun A h₀ s F S O => by
  rw [execs_append]
  refine wpAny_bind (wpAny_mono (h A h₀ s F S O) (fun f s' z => ?_) fun _ _ x => x)
  refine ea_AEEEAAA z fun O' f' m' σ' r S' ez1 h' => ?_; clear z; subst ez1
  cases r
  exact h' A h₀ s' F S' O'
theorem JSs_ifJ {t : Expr} {a b : List Stmt} {pos : Pos} (J : List (Option Val) → AH → Prop) (h : JB C n q env m σ t (fun c σ₁ => if c then JSs C n q env m σ₁ a (fun f m' σ' => f = .next ∧ J m' σ') X else JSs C n q env m σ₁ b (fun f m' σ' => f = .next ∧ J m' σ') X) (fun a σ' => X a m σ'))
    (hr : ∀ m' σ', J m' σ' → JSs C n q env m' σ' rest Q X) : JSs C n q env m σ (.If t a b pos :: rest) Q X := by
  have mono : ∀ {σ₁ : AH} {c : List Stmt}, JSs C n q env m σ₁ c (fun f m' σ' => f = .next ∧ J m' σ') X → JSs C n q env m σ₁ (c ++ rest) Q X := fun {σ₁ c} h => JSs_append fun A h₀ s F S O =>
    wpAny_mono (h A h₀ s F S O) (fun f s' z => let ⟨O₁, f₁, m₁, σ₁, r₁, S₁, e, h₁⟩ := z; ⟨O₁, f₁, m₁, σ₁, r₁, S₁, e, hr _ _ h₁⟩) fun _ _ x => x
  refine JSs_if fun A h₀ s F S O => wpAny_mono (h A h₀ s F S O) (fun c s' z => ?_) fun _ _ x => x
  refine ea_AAEA z fun O₁ k₁ σ₁ S₁ h₁ => ?_; clear z
  refine ⟨O₁, k₁, σ₁, S₁, ?_⟩
  cases c with
  | true => exact mono h₁
  | false => exact mono h₁
end
theorem JE_sliceK {value e : Expr} {p pos : Pos} {Q : Val → AH → Prop} {X : Addr → AH → Prop}
    (h : JE C n q env m σ value (fun a σ₁ => ∃ l vs xs kk, a = .ref l ∧ C.K.lookup l = some (listOf xs kk) ∧ (∀ h, VRels h vs xs.toList) ∧ vs.length ≤ sizeLine ∧
      JE C n q env m σ₁ e (fun b σ₂ => ∃ k : Nat, b = .int k ∧ ∀ x, σ₂ x = none → Q (.ref x) (σ₂.set x (.list (vs.take k)))) X) X) :
    JE C n q env m σ (.Subscript value (.Slice none (some e) none p) pos) Q X := fun A h₀ s F S O => by
  refine Subscript_ (wpAny_mono (h A h₀ s F S O) (fun ov s₁ z => ?_) fun _ _ x => x)
  refine ea_AAEEAAEEEEAAAA z fun O₁ k₁ v₁ σ₁ r₁ S₁ l vs xs kk ez2 hK hv hz hJ => ?_; clear z; subst ez2
  cases r₁
  refine wpAny_Slice (wpAny_pure (wpAny_mono (hJ A h₀ s₁ F S₁ O₁) (fun b s₂ z => wpAny_pure ?_) fun _ _ x => x))
  refine ea_AAEEAAEA z fun O₂ k₂ v₂ σ₂ r₂ S₂ k ez3 hQ => ?_; clear z; subst ez3
  obtain ⟨t, rfl⟩ := r₂
  have g : s₂.heap.get? l = some (listOf xs kk) := (F.wd.mono S₂.keep).inK l _ hK
  have il : s₂.heap.IsList l xs := ⟨_, g, rfl, kk, rfl⟩
  have zx : xs.size = vs.length := by have := (hv s₂.heap).length; simp at this; exact this.symm
  have S3 := S₂.push { cls := .type "slice", data := .fields #[.none, .int k t, .none] }
  have tk : TK s₂.heap (s₂.heap.push { cls := .type "slice", data := .fields #[.none, .int k t, .none] }) := TK.of_keeps fun _ _ e => Heap.get?_push_of_some _ e
  refine tail_any (Heap.IsList.typeIs (s := { s₂ with heap := s₂.heap.push { cls := .type "slice", data := .fields #[.none, .int k t, .none] } }) (il.push _)) slot_list_getitem.lookup
    (wpAny_getItem_list_slice (s := { s₂ with heap := s₂.heap.push { cls := .type "slice", data := .fields #[.none, .int k t, .none] } }) (il.push _) (Heap.IsSliceOf.new ..) .none (.int _ _) .none (by simp) ?_ (by rw [zx]; exact hz)) rfl
  have rws : VRels (s₂.heap.push { cls := .type "slice", data := .fields #[.none, .int k t, .none] }) (vs.take k) (slicePick xs none (some (k : Int)) none).toList := by
    rw [slicePick_upto']
    simpa using (hv _).take k
  obtain ⟨S4, t4⟩ := S3.newList (k := 0) rws
  exact ⟨O₂, k₁.trans (k₂.trans (tk.trans t4)), .ref _, _, rfl, S4, hQ _ S3.fresh⟩
theorem comp_ok0 {names : List (Str × NameKind)} {scope : Scope} (ns : List (Str × NameKind)) {mC : List (Option Val)} (e : EnvIs env names) (hk : scope.kind = .function) (hn : scope.names = ns)
    (hl : ∀ x ∈ ns, x.2 = .local → ns.lookup x.1 = some .local) (hc : ∀ x ∈ ns, x.2 ≠ .cell) (nd : (ns.map (·.1)).Nodup) (hf : ∀ x ∈ ns, x.2 ≠ .free) (clos : closureFor scope env = pure []) (hv : ∀ (i : Nat) v', mC[i]? ≠ some (some v')) : CompOk env scope [] m mC where
  kind := hk
  loc := by rw [hn]; exact hl
  noc := by rw [hn]; exact hc
  nd := by rw [hn]; exact nd
  clos := clos
  sub := fun x h => by cases h
  apart := .nil
  free := fun nm h => by rw [hn] at h; exact absurd rfl (hf _ h)
  val := fun i nm k v h1 h2 => absurd h2 (hv i v)
end
section
variable {C : Cx} {n : Nat}
theorem top_call {f : Addr} {fd : FuncData} {body : List Stmt} {vs : List Val} {cs : List Value} {s : Shared} {P : Val → Prop} {Q E : Value → Shared → Prop} (pn : List Str) {names : List (Str × NameKind)} (H : FnOk C.K f fd body pn) (hb : Binds C.K fd pn vs.length [])
    (hlen : pn.length = vs.length) (hn : fd.scope.names = names) (W : Wd C.K s.heap) (O : Ok C s) (r : VRels s.heap vs cs) (hbig : 1 < s.heap.objs.size) (hlo : C.lo = s.heap.objs.size) (hd : callerA.depth + 1 + n < 1000) (hu : callerA.units + 3 + 10 * n + 20 < 9900)
    (h : ∀ env, EnvIs env names → Nms env names → JSs C n true env (frame0 names vs) (fun _ => none) body (fun fl _ _ => P (retv fl)) (fun _ _ _ => False))
    (hQ : ∀ v c s', P v → VRel s'.heap v c → Ok C s' → (∀ b o, s.heap.get? b = some o → s'.heap.get? b = some o) → Q c s') : wpAny (model C.prog C.w) callerA (call (.ref f) cs) Q E s := by
  have XK := W.inK
  have hcs : cs.length = vs.length := r.length.symm
  refine ea_EE H.at_ fun od osl hat => ?_
  have hlen' : pn.length = cs.length := by rw [hlen, hcs]
  refine wpAny_call (codeAny_call_function (show callerA.depth < 1000 by omega) (XK _ _ hat) rfl H.co H.gen H.body (codeRec_of XK H.code) (hb s cs XK hcs _ _ _ _ ?_))
  rw [H.clo, List.append_nil]
  refine new_env H.kind (fun x hx => ?_) fun s' x => ?_
  · have hm : x.1 ∈ pn := (List.of_mem_zip hx).1
    rw [← H.ps] at hm
    refine ea_EA (List.mem_map.mp hm) fun pz1 hm' e => ?_
    obtain ⟨nm, k⟩ := pz1
    dsimp only at e
    subst e
    have hm2 := List.mem_of_mem_take hm'
    rcases H.pk _ hm' with z | z
    · dsimp only at z; subst z; exact .inl (lookup_of_mem H.nd hm2)
    · dsimp only at z; subst z; exact .inr ⟨lookup_of_mem H.nd hm2, cellsFrom_has _ _ _ _ (.inl hm2)⟩
  have keepS : ∀ b o, s.heap.get? b = some o → s'.heap.get? b = some o := x.base.toInCall.keep
  have O' : Ok C s' := by obtain ⟨h1, tk, e⟩ := x.base.toInCall.same; rw [e]; exact O
  refine ⟨(W.mono (SK.of_keeps (lo := C.lo) keepS)).lim, codeAny_func ?_⟩
  have noneAt : ∀ b, s.heap.objs.size ≤ b → s.heap.get? b = none := fun b hb => by
    cases e : s.heap.get? b with
    | none => rfl
    | some o => exact absurd (Heap.lt_size e) (Nat.not_lt.mpr hb)
  have F' : Fm C.lo C.K (callerA.deeper (callEnvC fd s.heap.objs.size f)) s.heap (callEnvC fd s.heap.objs.size f) n true := by
    refine ⟨H.kind, H.glob, H.blt, H.nd, ?_, ?_, fun _ => rfl, x.base.apart, fun y hy => Nat.ne_of_gt (x.base.above y.1 y.2 hy), noneAt _ (Nat.le_refl _), fun _ y hy => noneAt _ (Nat.le_of_lt (x.base.above y.1 y.2 hy)), W, ?_, Nat.le_of_eq hlo⟩
    · show callerA.depth + 1 + n < 1000; omega
    · show callerA.units + 3 + 10 * n + 20 < 9900; omega
    · refine ⟨[callEnvC fd s.heap.objs.size f], rfl, fun _ => ⟨[], rfl⟩, fun e he => ?_⟩
      rw [List.mem_singleton.mp he]
      exact ⟨by show fd.scope.kind ≠ _; rw [H.kind]; decide, s.heap.objs.size, rfl, Nat.le_of_eq hlo, .inl ⟨rfl, rfl⟩⟩
  have S' : St C.lo C.prog C.w s.heap (callEnvC fd s.heap.objs.size f) (frame0 fd.scope.names vs) (fun _ => none) s'.heap :=
    ⟨loc_of_call H hlen' r hbig x, SK.of_keeps keepS, fun a o e => by cases e⟩
  have he : EnvIs (callEnvC fd s.heap.objs.size f) names := ⟨hn, rfl, H.kind, fun nm hm => Option.isSome_iff_exists.mp (cellsFrom_has _ _ _ _ (.inl (by rw [hn]; exact hm)))⟩
  have hj := h _ he ⟨hn⟩ (callerA.deeper (callEnvC fd s.heap.objs.size f)) s.heap s' F' (by rw [hn] at S'; exact S') O'
  refine wpAny_mono hj (fun fl s'' z => ?_) fun e s'' z => ?_
  · refine ea_AEEEAA z fun O'' f' m' σ' rf S'' hq => ?_; clear z
    refine hQ (retv f') (cret fl) s'' hq rf.retv O'' fun b o e => ?_
    refine ea_EA (S''.keep b o e) fun sl g k => ?_
    rw [k (.inr (by rw [hlo]; exact Heap.lt_size e))] at g
    exact g
  · refine ea_AEEEAAAA z fun _ a m' σ' _ _ _ _ hx => ?_; clear z
    exact hx.elim
section
variable {C : Cx} {σ : AH}
theorem atI {x c dx : Addr} {fs : List (Str × Val)} {name : Str} {v : Val} {Q : Val → Prop} (I : InstIs σ x c dx) (hd : σ dx = some (.attrs fs)) (hl : fs.lookup name = some v) (hc : ClsOk C.K c) (hn : NoAttr C.K c name) (hv : v.handed = true) (h : Q v) :
    ∃ x' c dx fs v', Val.ref x = .ref x' ∧ InstIs σ x' c dx ∧ σ dx = some (.attrs fs) ∧ fs.lookup name = some v' ∧ ClsOk C.K c ∧ NoAttr C.K c name ∧ v'.handed = true ∧ Q v' := ⟨_, _, _, _, _, rfl, I, hd, hl, hc, hn, hv, h⟩
theorem bI {b : Bool} {Q : Bool → Prop} (h : Q b) : ∃ b', Val.bool b = .bool b' ∧ Q b' := ⟨_, rfl, h⟩
theorem mtI {x : Addr} {f : Value} {name : Str} {Q : Addr → Value → Prop} (m : MethOf C σ x name f) (k : KeepF C.K f) (h : Q x f) : ∃ x' f', Val.ref x = .ref x' ∧ MethOf C σ x' name f' ∧ KeepF C.K f' ∧ Q x' f' := ⟨_, _, rfl, m, k, h⟩
theorem saI {x c dx : Addr} {fs : List (Str × Val)} {name : Str} {Q : Addr → List (Str × Val) → Prop} (I : InstIs σ x c dx) (hd : σ dx = some (.attrs fs)) (hc : ClsOk C.K c) (hp : plainOver C.K c = true) (hn : NoAttr C.K c name) (hz : fs.length ≤ 100) (h : Q dx fs) :
    ∃ x' c dx fs, Val.ref x = .ref x' ∧ InstIs σ x' c dx ∧ σ dx = some (.attrs fs) ∧ ClsOk C.K c ∧ plainOver C.K c = true ∧ NoAttr C.K c name ∧ fs.length ≤ 100 ∧ Q dx fs := ⟨_, _, _, _, rfl, I, hd, hc, hp, hn, hz, h⟩
end
section
variable {C : Cx} {n : Nat} {q : Bool} {env : Env} {m : List (Option Val)} {σ : AH}
end
theorem ifT {A B : Prop} (k : A) : if true = true then A else B := k
theorem ifF {A B : Prop} (k : B) : if false = true then A else B := k
theorem ifD {p A B : Prop} {i : Decidable p} (h : p) (k : A) : if decide p = true then A else B := by rw [decide_eq_true h]; exact k
theorem ifDn {p A B : Prop} {i : Decidable p} (h : ¬ p) (k : B) : if decide p = true then A else B := by rw [decide_eq_false h]; exact k
theorem ifEq {α : Type} {i : BEq α} [LawfulBEq α] {a b : α} {A B : Prop} (h : a = b) (k : A) : if (a == b) = true then A else B := by rw [beq_iff_eq.mpr h]; exact k
theorem ifNe {α : Type} {i : BEq α} [LawfulBEq α] {a b : α} {A B : Prop} (h : ¬ a = b) (k : B) : if (a == b) = true then A else B := by rw [beq_eq_false_iff_ne.mpr h]; exact k
theorem ifB {b : Bool} {A B : Prop} (h : b = true) (k : A) : if b = true then A else B := by rw [if_pos h]; exact k
theorem ifBn {b : Bool} {A B : Prop} (h : ¬ b = true) (k : B) : if b = true then A else B := by rw [if_neg h]; exact k
end
namespace Hd
section
noncomputable abbrev pw : Program := PySem.Challenge.pw_on0124_01
noncomputable def nthS : List Stmt → Nat → Stmt
  | s :: _, 0 => s
  | _ :: r, n + 1 => nthS r n
  | [], _ => .Pass ⟨0, 0, 0, 0⟩
noncomputable def bodyS : Stmt → List Stmt
  | .FunctionDef _ _ b _ _ _ _ _ _ _ => b
  | .ClassDef _ _ _ b _ _ _ _ _ _ _ => b
  | _ => []
noncomputable def argsS : Stmt → Arguments
  | .FunctionDef _ a _ _ _ _ _ _ _ _ => a
  | _ => ⟨[], [], none, [], [], none, []⟩
noncomputable def scopeS : Stmt → Scope
  | .FunctionDef _ _ _ _ _ _ s _ _ _ => s
  | _ => ⟨.module, [], false, false, []⟩
noncomputable abbrev fb (i : Nat) := bodyS (nthS pw.main.body i)
noncomputable abbrev fa (i : Nat) := argsS (nthS pw.main.body i)
noncomputable abbrev fs (i : Nat) := scopeS (nthS pw.main.body i)
noncomputable abbrev mb (i j : Nat) := bodyS (nthS (bodyS (nthS pw.main.body i)) j)
noncomputable abbrev ma (i j : Nat) := argsS (nthS (bodyS (nthS pw.main.body i)) j)
noncomputable abbrev ms (i j : Nat) := scopeS (nthS (bodyS (nthS pw.main.body i)) j)
noncomputable abbrev kh := PyData.keyHash
noncomputable abbrev en (P : Params) (s : Str) (t : Nat) (v : Value) : DictEntry := .mk (PyData.keyHash P s) (.str s t) v
noncomputable def lf : Life := (.mk [] [] [] 0 [] [] false #[] [] 0 false false false 0 [2000,10,10] false 0 true [] [] 0 false)
noncomputable abbrev N := BT.node
noncomputable abbrev Z := BT.nil
noncomputable def o0 (P : Params) : Obj := (.mk (.type "tuple") none (.seq #[] 0) #[])
noncomputable def o1 (P : Params) : Obj := (.mk .none none (.fields #[]) #[])
noncomputable def o2 (P : Params) : Obj := (.mk (.type "code") none (.fields #[(.str "<module>" 182),(.str "<module>" 183),(.str "/claim/cut.py" 184),(.int 1 0),(.int 0 0),(.int 0 0),(.int 0 0),(.int 0 0),(.ref 11),(.bool false),(.int 181 0),(.ref 12),.none,.none,.none,.none,(.int 185 0),(.int 1 0),(.str "/claim/cut.py" 186)]) #[])
noncomputable def o3 (P : Params) : Obj := (.mk (.type "frame") none .plain #[(some (.ref 13)),(some (.ref 3)),(some (.ref 3)),none,(some (.str "__main__" 164)),none,(some (.ref 0))])
noncomputable def tA (P : Params) : BT := (N (boot_o_0 P) (N (boot_o_1 P) (N (boot_o_3 P) (N (boot_o_7 P) Z Z) (N (o0 P) Z Z)) (N (boot_o_5 P) (N (boot_o_9 P) Z Z) (N (o2 P) Z Z))) (N (boot_o_2 P) (N (boot_o_4 P) (N (boot_o_8 P) Z Z) (N (o1 P) Z Z)) (N (boot_o_6 P) (N (boot_o_10 P) Z Z) (N (o3 P) Z Z))))
noncomputable abbrev sA (w : World) (os : OsState) : SharedT := ⟨tA w.params, 15, lf, Array.mk [], (.mk 0 0 0 0), 187, os⟩
noncomputable abbrev qA : Pos := ⟨0,0,0,0⟩
noncomputable def tB (P : Params) : BT := (N (boot_o_0 P) (N (boot_o_1 P) (N (boot_o_3 P) (N (boot_o_7 P) Z Z) (N (o0 P) Z Z)) (N (boot_o_5 P) (N (boot_o_9 P) Z Z) (N (o2 P) Z Z))) (N (boot_o_2 P) (N (boot_o_4 P) (N (boot_o_8 P) Z Z) (N (o1 P) Z Z)) (N (boot_o_6 P) (N (boot_o_10 P) Z Z) (N (o3 P) Z Z))))
noncomputable abbrev sB (w : World) (os : OsState) : SharedT := ⟨tB w.params, 15, lf, Array.mk [], (.mk 0 0 0 0), 187, os⟩
noncomputable abbrev qB : Pos := ⟨0,0,0,0⟩
noncomputable def o4 (P : Params) : Obj := (.mk .none none (.dict #[(en P "type.__subclasses__.Exception.0" 228 (.int 39 0)),(en P "type.__subclasses__.Exception.n" 229 (.int 1 0))] 2) #[])
noncomputable def o5 (P : Params) : Obj := (.mk (.type "dict") none (.dict #[(en P "__name__" 165 (.str "gateloom.wordgates" 248)),(en P "__doc__" 166 .none),(en P "__package__" 167 .none),(en P "__loader__" 168 (.builtin "__main__.__loader__#opaque")),(en P "__spec__" 169 .none),(en P "__annotations__" 170 (.ref 6)),(en P "__builtins__" 171 (.ref 4)),(en P "__file__" 173 (.str "/claim/cut.py" 172)),(en P "__cached__" 174 .none),(en P "_wall" 193 (.ref 21)),(en P "GateloomError" 231 (.ref 39)),(en P "SynthError" 247 (.ref 52))] 12) #[])
noncomputable def o6 (P : Params) : Obj := (.mk .none none (.fields #[(.int 1 0),(.int 0 0),(.ref 20),(.int 5 0),(.int 0 0),(.ref 27),(.int 11 0),(.int 0 0),(.ref 48)]) #[])
noncomputable def o7 (P : Params) : Obj := (.mk (.type "tuple") none (.seq #[] 0) #[])
noncomputable def o8 (P : Params) : Obj := (.mk .none none (.fields #[]) #[])
noncomputable def o9 (P : Params) : Obj := (.mk (.type "tuple") none (.seq #[(.str "k" 190)] 0) #[])
noncomputable def o10 (P : Params) : Obj := (.mk (.type "tuple") none (.seq #[] 0) #[])
noncomputable def o11 (P : Params) : Obj := (.mk .none none (.func (.mk "_wall" "_wall" (fa 0) (.stmts (fb 0)) (fs 0) 0 [] .none .none .none .none none .none .none 0)) #[])
noncomputable def o12 (P : Params) : Obj := (.mk (.type "code") none (.fields #[(.str "_wall" 187),(.str "_wall" 188),(.str "/claim/cut.py" 189),(.int 1 0),(.int 1 0),(.int 0 0),(.int 0 0),(.int 3 0),(.ref 15),(.bool true),(.int 181 0),(.ref 16),.none,(.ref 17),(.ref 18),(.ref 19),(.int 191 0),(.int 1 0),(.str "/claim/cut.py" 192)]) #[])
noncomputable def o13 (P : Params) : Obj := (.mk (.type "function") none (.func (.mk "_wall" "_wall" (fa 0) (.stmts (fb 0)) (fs 0) 3 [] .none .none .none (.str "__main__" 164) none (.ref 20) .none 0)) #[])
noncomputable def o14 (P : Params) : Obj := (.mk (.type "tuple") none (.seq #[(.type "Exception")] 0) #[])
noncomputable def o15 (P : Params) : Obj := (.mk (.type "builtin_function_or_method") none (.fields #[(.builtin "type.__prepare__"),(.type "type")]) #[])
noncomputable def o16 (P : Params) : Obj := (.mk (.type "dict") none (.dict #[(en P "__module__" 203 (.str "gateloom.errors" 194)),(en P "__qualname__" 205 (.str "GateloomError" 204)),(en P "__firstlineno__" 207 (.int 5 206)),(en P "__init__" 220 (.ref 36)),(en P "__static_attributes__" 224 (.ref 37))] 5) #[])
noncomputable def o17 (P : Params) : Obj := (.mk (.type "tuple") none (.seq #[] 0) #[])
noncomputable def o18 (P : Params) : Obj := (.mk .none none (.fields #[(.int 7 0),(.int 4 0),(.ref 35)]) #[])
noncomputable def o19 (P : Params) : Obj := (.mk (.type "code") none (.fields #[(.str "GateloomError" 198),(.str "GateloomError" 199),(.str "/claim/cut.py" 200),(.int 5 0),(.int 0 0),(.int 0 0),(.int 0 0),(.int 0 0),(.ref 25),(.bool false),(.int 181 0),(.ref 26),.none,.none,.none,.none,(.int 201 0),(.int 5 0),(.str "/claim/cut.py" 202)]) #[])
noncomputable def o20 (P : Params) : Obj := (.mk (.type "frame") none .plain #[(some (.ref 27)),(some (.ref 3)),(some (.ref 24)),none,(some (.str "gateloom.errors" 194)),none,(some (.ref 0))])
noncomputable def o21 (P : Params) : Obj := (.mk (.type "tuple") none (.seq #[(.int (-1) 209),(.str "" 210)] 0) #[])
noncomputable def o22 (P : Params) : Obj := (.mk (.type "tuple") none (.seq #[] 0) #[])
noncomputable def o23 (P : Params) : Obj := (.mk .none none (.fields #[]) #[])
noncomputable def o24 (P : Params) : Obj := (.mk (.type "tuple") none (.seq #[(.str "self" 214),(.str "kind" 215),(.str "at" 216),(.str "detail" 217)] 0) #[])
noncomputable def o25 (P : Params) : Obj := (.mk (.type "tuple") none (.seq #[] 0) #[])
noncomputable def o26 (P : Params) : Obj := (.mk .none none (.func (.mk "__init__" "GateloomError.__init__" (ma 2 0) (.stmts (mb 2 0)) (ms 2 0) 0 [] .none .none .none .none none .none .none 0)) #[])
noncomputable def o27 (P : Params) : Obj := (.mk (.type "code") none (.fields #[(.str "__init__" 211),(.str "GateloomError.__init__" 212),(.str "/claim/cut.py" 213),(.int 7 0),(.int 4 0),(.int 0 0),(.int 0 0),(.int 3 0),(.ref 30),(.bool true),(.int 181 0),(.ref 31),.none,(.ref 32),(.ref 33),(.ref 34),(.int 218 0),(.int 7 0),(.str "/claim/cut.py" 219)]) #[])
noncomputable def o28 (P : Params) : Obj := (.mk (.type "function") none (.func (.mk "__init__" "GateloomError.__init__" (ma 2 0) (.stmts (mb 2 0)) (ms 2 0) 3 [] (.ref 29) .none .none (.str "gateloom.errors" 194) none (.ref 35) .none 0)) #[])
noncomputable def o29 (P : Params) : Obj := (.mk (.type "tuple") none (.seq #[(.str "at" 221),(.str "detail" 222),(.str "kind" 223)] 0) #[])
noncomputable def o30 (P : Params) : Obj := (.mk (.type "dict") none (.dict #[(en P "__module__" 203 (.str "gateloom.errors" 194)),(en P "__firstlineno__" 207 (.int 5 206)),(en P "__init__" 220 (.ref 36)),(en P "__static_attributes__" 224 (.ref 37)),(en P "__weakref__" 226 (.ref 40)),(en P "__doc__" 227 .none)] 3) #[])
noncomputable def o31 (P : Params) : Obj := (.mk (.type "type") none (.cls (.mk "GateloomError" [(.type "Exception")] [(.ref 39),(.type "Exception"),(.type "BaseException"),(.type "object")] 38 "GateloomError" true [] [(.ref 52)] false none false)) #[(some (.ref 22)),none,(some (.str "GateloomError" 196)),(some (.str "GateloomError" 204)),(some (.builtin "Exception.__new__")),(some (.bool true))])
noncomputable def o32 (P : Params) : Obj := (.mk (.type "getset_descriptor") none (.fields #[(.str "__weakref__" 225),(.ref 39),(.builtin "ExceptionGroup.__weakref__"),.none]) #[])
noncomputable def o33 (P : Params) : Obj := (.mk (.type "super") none (.fields #[(.ref 39),(.ref 39),(.ref 39)]) #[])
noncomputable def o34 (P : Params) : Obj := (.mk (.type "builtin_function_or_method") none (.fields #[(.builtin "object.__init_subclass__"),(.ref 39)]) #[])
noncomputable def o35 (P : Params) : Obj := (.mk (.type "tuple") none (.seq #[(.ref 39)] 0) #[])
noncomputable def o36 (P : Params) : Obj := (.mk (.type "builtin_function_or_method") none (.fields #[(.builtin "type.__prepare__"),(.type "type")]) #[])
noncomputable def o37 (P : Params) : Obj := (.mk (.type "dict") none (.dict #[(en P "__module__" 239 (.str "gateloom.errors" 194)),(en P "__qualname__" 241 (.str "SynthError" 240)),(en P "__firstlineno__" 243 (.int 11 242)),(en P "__static_attributes__" 244 (.ref 50))] 4) #[])
noncomputable def o38 (P : Params) : Obj := (.mk (.type "tuple") none (.seq #[] 0) #[])
noncomputable def o39 (P : Params) : Obj := (.mk .none none (.fields #[]) #[])
noncomputable def o40 (P : Params) : Obj := (.mk (.type "code") none (.fields #[(.str "SynthError" 234),(.str "SynthError" 235),(.str "/claim/cut.py" 236),(.int 11 0),(.int 0 0),(.int 0 0),(.int 0 0),(.int 0 0),(.ref 46),(.bool false),(.int 181 0),(.ref 47),.none,.none,.none,.none,(.int 237 0),(.int 11 0),(.str "/claim/cut.py" 238)]) #[])
noncomputable def o41 (P : Params) : Obj := (.mk (.type "frame") none .plain #[(some (.ref 48)),(some (.ref 3)),(some (.ref 45)),none,(some (.str "gateloom.errors" 194)),none,(some (.ref 0))])
noncomputable def o42 (P : Params) : Obj := (.mk (.type "tuple") none (.seq #[] 0) #[])
noncomputable def o43 (P : Params) : Obj := (.mk (.type "dict") none (.dict #[(en P "__module__" 239 (.str "gateloom.errors" 194)),(en P "__firstlineno__" 243 (.int 11 242)),(en P "__static_attributes__" 244 (.ref 50)),(en P "__doc__" 245 .none)] 2) #[])
noncomputable def o44 (P : Params) : Obj := (.mk (.type "type") none (.cls (.mk "SynthError" [(.ref 39)] [(.ref 52),(.ref 39),(.type "Exception"),(.type "BaseException"),(.type "object")] 51 "SynthError" true [] [] false none false)) #[(some (.ref 43)),none,(some (.str "SynthError" 232)),(some (.str "SynthError" 240)),(some (.builtin "Exception.__new__")),(some (.bool true))])
noncomputable def o45 (P : Params) : Obj := (.mk (.type "super") none (.fields #[(.ref 52),(.ref 52),(.ref 52)]) #[])
noncomputable def o46 (P : Params) : Obj := (.mk (.type "builtin_function_or_method") none (.fields #[(.builtin "object.__init_subclass__"),(.ref 52)]) #[])
noncomputable def tC0 (P : Params) : BT := (N (boot_o_0 P) (N (boot_o_1 P) (N (o5 P) (N (boot_o_7 P) (N (o7 P) (N (o23 P) Z Z) (N (o39 P) Z Z)) (N (o15 P) (N (o31 P) Z Z) Z)) (N (o0 P) (N (o11 P) (N (o27 P) Z Z) (N (o43 P) Z Z)) (N (o19 P) (N (o35 P) Z Z) Z))) (N (boot_o_5 P) (N (boot_o_9 P) (N (o9 P) (N (o25 P) Z Z) (N (o41 P) Z Z)) (N (o17 P) (N (o33 P) Z Z) Z)) (N (o2 P) (N (o13 P) (N (o29 P) Z Z) (N (o45 P) Z Z)) (N (o21 P) (N (o37 P) Z Z) Z)))) (N (o4 P) (N (boot_o_4 P) (N (boot_o_8 P) (N (o8 P) (N (o24 P) Z Z) (N (o40 P) Z Z)) (N (o16 P) (N (o32 P) Z Z) Z)) (N (o6 P) (N (o12 P) (N (o28 P) Z Z) (N (o44 P) Z Z)) (N (o20 P) (N (o36 P) Z Z) Z))) (N (boot_o_6 P) (N (boot_o_10 P) (N (o10 P) (N (o26 P) Z Z) (N (o42 P) Z Z)) (N (o18 P) (N (o34 P) Z Z) Z)) (N (o3 P) (N (o14 P) (N (o30 P) Z Z) (N (o46 P) Z Z)) (N (o22 P) (N (o38 P) Z Z) Z)))))
noncomputable abbrev sC0 (w : World) (os : OsState) : SharedT := ⟨tC0 w.params, 55, lf, Array.mk [], (.mk 0 0 0 0), 250, os⟩
noncomputable abbrev qC0 : Pos := ⟨13,0,13,8⟩
noncomputable def o47 (P : Params) : Obj := (.mk (.type "dict") none (.dict #[(en P "__name__" 165 (.str "gateloom.wordgates" 248)),(en P "__doc__" 166 .none),(en P "__package__" 167 .none),(en P "__loader__" 168 (.builtin "__main__.__loader__#opaque")),(en P "__spec__" 169 .none),(en P "__annotations__" 170 (.ref 6)),(en P "__builtins__" 171 (.ref 4)),(en P "__file__" 173 (.str "/claim/cut.py" 172)),(en P "__cached__" 174 .none),(en P "_wall" 193 (.ref 21)),(en P "GateloomError" 231 (.ref 39)),(en P "SynthError" 247 (.ref 52)),(en P "Gates" 357 (.ref 127)),(en P "word_not" 363 (.ref 136))] 14) #[])
noncomputable def o48 (P : Params) : Obj := (.mk .none none (.fields #[(.int 1 0),(.int 0 0),(.ref 20),(.int 5 0),(.int 0 0),(.ref 27),(.int 11 0),(.int 0 0),(.ref 48),(.int 14 0),(.int 0 0),(.ref 60),(.int 61 0),(.int 0 0),(.ref 135)]) #[])
noncomputable def o49 (P : Params) : Obj := (.mk (.type "tuple") none (.seq #[] 0) #[])
noncomputable def o50 (P : Params) : Obj := (.mk (.type "builtin_function_or_method") none (.fields #[(.builtin "type.__prepare__"),(.type "type")]) #[])
noncomputable def o51 (P : Params) : Obj := (.mk (.type "dict") none (.dict #[(en P "__module__" 257 (.str "gateloom.wordgates" 248)),(en P "__qualname__" 259 (.str "Gates" 258)),(en P "__firstlineno__" 261 (.int 14 260)),(en P "__init__" 269 (.ref 68)),(en P "pair" 282 (.ref 75)),(en P "are_opposite" 291 (.ref 82)),(en P "inv" 300 (.ref 89)),(en P "both" 309 (.ref 96)),(en P "either" 318 (.ref 103)),(en P "differ" 327 (.ref 110)),(en P "same" 336 (.ref 117)),(en P "mux" 346 (.ref 124)),(en P "__static_attributes__" 350 (.ref 125))] 13) #[])
noncomputable def o52 (P : Params) : Obj := (.mk (.type "tuple") none (.seq #[] 0) #[])
noncomputable def o53 (P : Params) : Obj := (.mk .none none (.fields #[(.int 16 0),(.int 4 0),(.ref 67),(.int 21 0),(.int 4 0),(.ref 74),(.int 29 0),(.int 4 0),(.ref 81),(.int 32 0),(.int 4 0),(.ref 88),(.int 41 0),(.int 4 0),(.ref 95),(.int 50 0),(.int 4 0),(.ref 102),(.int 53 0),(.int 4 0),(.ref 109),(.int 56 0),(.int 4 0),(.ref 116),(.int 59 0),(.int 4 0),(.ref 123)]) #[])
noncomputable def o54 (P : Params) : Obj := (.mk (.type "code") none (.fields #[(.str "Gates" 252),(.str "Gates" 253),(.str "/claim/cut.py" 254),(.int 14 0),(.int 0 0),(.int 0 0),(.int 0 0),(.int 0 0),(.ref 58),(.bool false),(.int 181 0),(.ref 59),.none,.none,.none,.none,(.int 255 0),(.int 14 0),(.str "/claim/cut.py" 256)]) #[])
noncomputable def o55 (P : Params) : Obj := (.mk (.type "frame") none .plain #[(some (.ref 60)),(some (.ref 3)),(some (.ref 57)),none,(some (.str "gateloom.wordgates" 248)),none,(some (.ref 0))])
noncomputable def o56 (P : Params) : Obj := (.mk (.type "tuple") none (.seq #[] 0) #[])
noncomputable def o57 (P : Params) : Obj := (.mk .none none (.fields #[]) #[])
noncomputable def o58 (P : Params) : Obj := (.mk (.type "tuple") none (.seq #[(.str "self" 265),(.str "netlist" 266)] 0) #[])
noncomputable def o59 (P : Params) : Obj := (.mk (.type "tuple") none (.seq #[] 0) #[])
noncomputable def o60 (P : Params) : Obj := (.mk .none none (.func (.mk "__init__" "Gates.__init__" (ma 5 0) (.stmts (mb 5 0)) (ms 5 0) 0 [] .none .none .none .none none .none .none 0)) #[])
noncomputable def o61 (P : Params) : Obj := (.mk (.type "code") none (.fields #[(.str "__init__" 262),(.str "Gates.__init__" 263),(.str "/claim/cut.py" 264),(.int 16 0),(.int 2 0),(.int 0 0),(.int 0 0),(.int 3 0),(.ref 62),(.bool true),(.int 181 0),(.ref 63),.none,(.ref 64),(.ref 65),(.ref 66),(.int 267 0),(.int 16 0),(.str "/claim/cut.py" 268)]) #[])
noncomputable def o62 (P : Params) : Obj := (.mk (.type "function") none (.func (.mk "__init__" "Gates.__init__" (ma 5 0) (.stmts (mb 5 0)) (ms 5 0) 3 [] .none .none .none (.str "gateloom.wordgates" 248) none (.ref 67) .none 0)) #[])
noncomputable def o63 (P : Params) : Obj := (.mk (.type "tuple") none (.seq #[] 0) #[])
noncomputable def o64 (P : Params) : Obj := (.mk .none none (.fields #[]) #[])
noncomputable def o65 (P : Params) : Obj := (.mk (.type "tuple") none (.seq #[(.str "self" 273),(.str "kind" 274),(.str "first" 275),(.str "second" 276),(.str "low" 277),(.str "high" 278),(.str "key" 279)] 0) #[])
noncomputable def o66 (P : Params) : Obj := (.mk (.type "tuple") none (.seq #[] 0) #[])
noncomputable def o67 (P : Params) : Obj := (.mk .none none (.func (.mk "pair" "Gates.pair" (ma 5 1) (.stmts (mb 5 1)) (ms 5 1) 0 [] .none .none .none .none none .none .none 0)) #[])
noncomputable def o68 (P : Params) : Obj := (.mk (.type "code") none (.fields #[(.str "pair" 270),(.str "Gates.pair" 271),(.str "/claim/cut.py" 272),(.int 21 0),(.int 4 0),(.int 0 0),(.int 0 0),(.int 3 0),(.ref 69),(.bool true),(.int 181 0),(.ref 70),.none,(.ref 71),(.ref 72),(.ref 73),(.int 280 0),(.int 21 0),(.str "/claim/cut.py" 281)]) #[])
noncomputable def o69 (P : Params) : Obj := (.mk (.type "function") none (.func (.mk "pair" "Gates.pair" (ma 5 1) (.stmts (mb 5 1)) (ms 5 1) 3 [] .none .none .none (.str "gateloom.wordgates" 248) none (.ref 74) .none 0)) #[])
noncomputable def o70 (P : Params) : Obj := (.mk (.type "tuple") none (.seq #[] 0) #[])
noncomputable def o71 (P : Params) : Obj := (.mk .none none (.fields #[]) #[])
noncomputable def o72 (P : Params) : Obj := (.mk (.type "tuple") none (.seq #[(.str "self" 286),(.str "first" 287),(.str "second" 288)] 0) #[])
noncomputable def o73 (P : Params) : Obj := (.mk (.type "tuple") none (.seq #[] 0) #[])
noncomputable def o74 (P : Params) : Obj := (.mk .none none (.func (.mk "are_opposite" "Gates.are_opposite" (ma 5 2) (.stmts (mb 5 2)) (ms 5 2) 0 [] .none .none .none .none none .none .none 0)) #[])
noncomputable def o75 (P : Params) : Obj := (.mk (.type "code") none (.fields #[(.str "are_opposite" 283),(.str "Gates.are_opposite" 284),(.str "/claim/cut.py" 285),(.int 29 0),(.int 3 0),(.int 0 0),(.int 0 0),(.int 3 0),(.ref 76),(.bool true),(.int 181 0),(.ref 77),.none,(.ref 78),(.ref 79),(.ref 80),(.int 289 0),(.int 29 0),(.str "/claim/cut.py" 290)]) #[])
noncomputable def o76 (P : Params) : Obj := (.mk (.type "function") none (.func (.mk "are_opposite" "Gates.are_opposite" (ma 5 2) (.stmts (mb 5 2)) (ms 5 2) 3 [] .none .none .none (.str "gateloom.wordgates" 248) none (.ref 81) .none 0)) #[])
noncomputable def o77 (P : Params) : Obj := (.mk (.type "tuple") none (.seq #[] 0) #[])
noncomputable def o78 (P : Params) : Obj := (.mk .none none (.fields #[]) #[])
noncomputable def o79 (P : Params) : Obj := (.mk (.type "tuple") none (.seq #[(.str "self" 295),(.str "a" 296),(.str "out" 297)] 0) #[])
noncomputable def o80 (P : Params) : Obj := (.mk (.type "tuple") none (.seq #[] 0) #[])
noncomputable def o81 (P : Params) : Obj := (.mk .none none (.func (.mk "inv" "Gates.inv" (ma 5 3) (.stmts (mb 5 3)) (ms 5 3) 0 [] .none .none .none .none none .none .none 0)) #[])
noncomputable def o82 (P : Params) : Obj := (.mk (.type "code") none (.fields #[(.str "inv" 292),(.str "Gates.inv" 293),(.str "/claim/cut.py" 294),(.int 32 0),(.int 2 0),(.int 0 0),(.int 0 0),(.int 3 0),(.ref 83),(.bool true),(.int 181 0),(.ref 84),.none,(.ref 85),(.ref 86),(.ref 87),(.int 298 0),(.int 32 0),(.str "/claim/cut.py" 299)]) #[])
noncomputable def o83 (P : Params) : Obj := (.mk (.type "function") none (.func (.mk "inv" "Gates.inv" (ma 5 3) (.stmts (mb 5 3)) (ms 5 3) 3 [] .none .none .none (.str "gateloom.wordgates" 248) none (.ref 88) .none 0)) #[])
noncomputable def o84 (P : Params) : Obj := (.mk (.type "tuple") none (.seq #[] 0) #[])
noncomputable def o85 (P : Params) : Obj := (.mk .none none (.fields #[]) #[])
noncomputable def o86 (P : Params) : Obj := (.mk (.type "tuple") none (.seq #[(.str "self" 304),(.str "a" 305),(.str "b" 306)] 0) #[])
noncomputable def o87 (P : Params) : Obj := (.mk (.type "tuple") none (.seq #[] 0) #[])
noncomputable def o88 (P : Params) : Obj := (.mk .none none (.func (.mk "both" "Gates.both" (ma 5 4) (.stmts (mb 5 4)) (ms 5 4) 0 [] .none .none .none .none none .none .none 0)) #[])
noncomputable def o89 (P : Params) : Obj := (.mk (.type "code") none (.fields #[(.str "both" 301),(.str "Gates.both" 302),(.str "/claim/cut.py" 303),(.int 41 0),(.int 3 0),(.int 0 0),(.int 0 0),(.int 3 0),(.ref 90),(.bool true),(.int 181 0),(.ref 91),.none,(.ref 92),(.ref 93),(.ref 94),(.int 307 0),(.int 41 0),(.str "/claim/cut.py" 308)]) #[])
noncomputable def o90 (P : Params) : Obj := (.mk (.type "function") none (.func (.mk "both" "Gates.both" (ma 5 4) (.stmts (mb 5 4)) (ms 5 4) 3 [] .none .none .none (.str "gateloom.wordgates" 248) none (.ref 95) .none 0)) #[])
noncomputable def o91 (P : Params) : Obj := (.mk (.type "tuple") none (.seq #[] 0) #[])
noncomputable def o92 (P : Params) : Obj := (.mk .none none (.fields #[]) #[])
noncomputable def o93 (P : Params) : Obj := (.mk (.type "tuple") none (.seq #[(.str "self" 313),(.str "a" 314),(.str "b" 315)] 0) #[])
noncomputable def o94 (P : Params) : Obj := (.mk (.type "tuple") none (.seq #[] 0) #[])
noncomputable def o95 (P : Params) : Obj := (.mk .none none (.func (.mk "either" "Gates.either" (ma 5 5) (.stmts (mb 5 5)) (ms 5 7) 0 [] .none .none .none .none none .none .none 0)) #[])
noncomputable def o96 (P : Params) : Obj := (.mk (.type "code") none (.fields #[(.str "either" 310),(.str "Gates.either" 311),(.str "/claim/cut.py" 312),(.int 50 0),(.int 3 0),(.int 0 0),(.int 0 0),(.int 3 0),(.ref 97),(.bool true),(.int 181 0),(.ref 98),.none,(.ref 99),(.ref 100),(.ref 101),(.int 316 0),(.int 50 0),(.str "/claim/cut.py" 317)]) #[])
noncomputable def o97 (P : Params) : Obj := (.mk (.type "function") none (.func (.mk "either" "Gates.either" (ma 5 5) (.stmts (mb 5 5)) (ms 5 7) 3 [] .none .none .none (.str "gateloom.wordgates" 248) none (.ref 102) .none 0)) #[])
noncomputable def o98 (P : Params) : Obj := (.mk (.type "tuple") none (.seq #[] 0) #[])
noncomputable def o99 (P : Params) : Obj := (.mk .none none (.fields #[]) #[])
noncomputable def o100 (P : Params) : Obj := (.mk (.type "tuple") none (.seq #[(.str "self" 322),(.str "a" 323),(.str "b" 324)] 0) #[])
noncomputable def o101 (P : Params) : Obj := (.mk (.type "tuple") none (.seq #[] 0) #[])
noncomputable def o102 (P : Params) : Obj := (.mk .none none (.func (.mk "differ" "Gates.differ" (ma 5 6) (.stmts (mb 5 6)) (ms 5 7) 0 [] .none .none .none .none none .none .none 0)) #[])
noncomputable def o103 (P : Params) : Obj := (.mk (.type "code") none (.fields #[(.str "differ" 319),(.str "Gates.differ" 320),(.str "/claim/cut.py" 321),(.int 53 0),(.int 3 0),(.int 0 0),(.int 0 0),(.int 3 0),(.ref 104),(.bool true),(.int 181 0),(.ref 105),.none,(.ref 106),(.ref 107),(.ref 108),(.int 325 0),(.int 53 0),(.str "/claim/cut.py" 326)]) #[])
noncomputable def o104 (P : Params) : Obj := (.mk (.type "function") none (.func (.mk "differ" "Gates.differ" (ma 5 6) (.stmts (mb 5 6)) (ms 5 7) 3 [] .none .none .none (.str "gateloom.wordgates" 248) none (.ref 109) .none 0)) #[])
noncomputable def o105 (P : Params) : Obj := (.mk (.type "tuple") none (.seq #[] 0) #[])
noncomputable def o106 (P : Params) : Obj := (.mk .none none (.fields #[]) #[])
noncomputable def o107 (P : Params) : Obj := (.mk (.type "tuple") none (.seq #[(.str "self" 331),(.str "a" 332),(.str "b" 333)] 0) #[])
noncomputable def o108 (P : Params) : Obj := (.mk (.type "tuple") none (.seq #[] 0) #[])
noncomputable def o109 (P : Params) : Obj := (.mk .none none (.func (.mk "same" "Gates.same" (ma 5 7) (.stmts (mb 5 7)) (ms 5 7) 0 [] .none .none .none .none none .none .none 0)) #[])
noncomputable def o110 (P : Params) : Obj := (.mk (.type "code") none (.fields #[(.str "same" 328),(.str "Gates.same" 329),(.str "/claim/cut.py" 330),(.int 56 0),(.int 3 0),(.int 0 0),(.int 0 0),(.int 3 0),(.ref 111),(.bool true),(.int 181 0),(.ref 112),.none,(.ref 113),(.ref 114),(.ref 115),(.int 334 0),(.int 56 0),(.str "/claim/cut.py" 335)]) #[])
noncomputable def o111 (P : Params) : Obj := (.mk (.type "function") none (.func (.mk "same" "Gates.same" (ma 5 7) (.stmts (mb 5 7)) (ms 5 7) 3 [] .none .none .none (.str "gateloom.wordgates" 248) none (.ref 116) .none 0)) #[])
noncomputable def o112 (P : Params) : Obj := (.mk (.type "tuple") none (.seq #[] 0) #[])
noncomputable def o113 (P : Params) : Obj := (.mk .none none (.fields #[]) #[])
noncomputable def o114 (P : Params) : Obj := (.mk (.type "tuple") none (.seq #[(.str "self" 340),(.str "s" 341),(.str "a" 342),(.str "b" 343)] 0) #[])
noncomputable def o115 (P : Params) : Obj := (.mk (.type "tuple") none (.seq #[] 0) #[])
noncomputable def o116 (P : Params) : Obj := (.mk .none none (.func (.mk "mux" "Gates.mux" (ma 5 8) (.stmts (mb 5 8)) (ms 5 8) 0 [] .none .none .none .none none .none .none 0)) #[])
noncomputable def o117 (P : Params) : Obj := (.mk (.type "code") none (.fields #[(.str "mux" 337),(.str "Gates.mux" 338),(.str "/claim/cut.py" 339),(.int 59 0),(.int 4 0),(.int 0 0),(.int 0 0),(.int 3 0),(.ref 118),(.bool true),(.int 181 0),(.ref 119),.none,(.ref 120),(.ref 121),(.ref 122),(.int 344 0),(.int 59 0),(.str "/claim/cut.py" 345)]) #[])
noncomputable def o118 (P : Params) : Obj := (.mk (.type "function") none (.func (.mk "mux" "Gates.mux" (ma 5 8) (.stmts (mb 5 8)) (ms 5 8) 3 [] .none .none .none (.str "gateloom.wordgates" 248) none (.ref 123) .none 0)) #[])
noncomputable def o119 (P : Params) : Obj := (.mk (.type "tuple") none (.seq #[(.str "made" 347),(.str "netlist" 348),(.str "opposite" 349)] 0) #[])
noncomputable def o120 (P : Params) : Obj := (.mk (.type "dict") none (.dict #[(en P "__module__" 257 (.str "gateloom.wordgates" 248)),(en P "__firstlineno__" 261 (.int 14 260)),(en P "__init__" 269 (.ref 68)),(en P "pair" 282 (.ref 75)),(en P "are_opposite" 291 (.ref 82)),(en P "inv" 300 (.ref 89)),(en P "both" 309 (.ref 96)),(en P "either" 318 (.ref 103)),(en P "differ" 327 (.ref 110)),(en P "same" 336 (.ref 117)),(en P "mux" 346 (.ref 124)),(en P "__static_attributes__" 350 (.ref 125)),(en P "__dict__" 352 (.ref 128)),(en P "__weakref__" 354 (.ref 129)),(en P "__doc__" 355 .none)] 4) #[])
noncomputable def o121 (P : Params) : Obj := (.mk (.type "type") none (.cls (.mk "Gates" [(.type "object")] [(.ref 127),(.type "object")] 126 "Gates" true [] [] false none false)) #[none,none,(some (.str "Gates" 250)),(some (.str "Gates" 258)),(some (.builtin "object.__new__")),(some (.bool true))])
noncomputable def o122 (P : Params) : Obj := (.mk (.type "getset_descriptor") none (.fields #[(.str "__dict__" 351),(.ref 127),(.builtin "function.__dict__"),(.builtin "function.__dict__#set")]) #[])
noncomputable def o123 (P : Params) : Obj := (.mk (.type "getset_descriptor") none (.fields #[(.str "__weakref__" 353),(.ref 127),(.builtin "ExceptionGroup.__weakref__"),.none]) #[])
noncomputable def o124 (P : Params) : Obj := (.mk (.type "super") none (.fields #[(.ref 127),(.ref 127),(.ref 127)]) #[])
noncomputable def o125 (P : Params) : Obj := (.mk (.type "builtin_function_or_method") none (.fields #[(.builtin "object.__init_subclass__"),(.ref 127)]) #[])
noncomputable def o126 (P : Params) : Obj := (.mk (.type "tuple") none (.seq #[] 0) #[])
noncomputable def o127 (P : Params) : Obj := (.mk .none none (.fields #[]) #[])
noncomputable def o128 (P : Params) : Obj := (.mk .none none (.func (.mk "word_not" "word_not" (fa 6) (.stmts (fb 6)) (fs 6) 0 [] .none .none .none .none none .none .none 0)) #[])
noncomputable def o129 (P : Params) : Obj := (.mk (.type "code") none (.fields #[(.str "word_not" 358),(.str "word_not" 359),(.str "/claim/cut.py" 360),(.int 61 0),(.int 2 0),(.int 0 0),(.int 0 0),(.int 3 0),(.ref 132),(.bool true),(.int 181 0),(.ref 133),.none,.none,.none,(.ref 134),(.int 361 0),(.int 61 0),(.str "/claim/cut.py" 362)]) #[])
noncomputable def o130 (P : Params) : Obj := (.mk (.type "function") none (.func (.mk "word_not" "word_not" (fa 6) (.stmts (fb 6)) (fs 6) 3 [] .none .none .none (.str "gateloom.wordgates" 248) none (.ref 135) .none 0)) #[])
noncomputable def tC1 (P : Params) : BT := (N (boot_o_0 P) (N (boot_o_1 P) (N (o47 P) (N (boot_o_7 P) (N (o7 P) (N (o23 P) (N (o57 P) (N (o121 P) Z Z) Z) (N (o89 P) Z Z)) (N (o39 P) (N (o73 P) Z Z) (N (o105 P) Z Z))) (N (o15 P) (N (o31 P) (N (o65 P) (N (o129 P) Z Z) Z) (N (o97 P) Z Z)) (N (o49 P) (N (o81 P) Z Z) (N (o113 P) Z Z)))) (N (o0 P) (N (o11 P) (N (o27 P) (N (o61 P) (N (o125 P) Z Z) Z) (N (o93 P) Z Z)) (N (o43 P) (N (o77 P) Z Z) (N (o109 P) Z Z))) (N (o19 P) (N (o35 P) (N (o69 P) Z Z) (N (o101 P) Z Z)) (N (o53 P) (N (o85 P) Z Z) (N (o117 P) Z Z))))) (N (boot_o_5 P) (N (boot_o_9 P) (N (o9 P) (N (o25 P) (N (o59 P) (N (o123 P) Z Z) Z) (N (o91 P) Z Z)) (N (o41 P) (N (o75 P) Z Z) (N (o107 P) Z Z))) (N (o17 P) (N (o33 P) (N (o67 P) Z Z) (N (o99 P) Z Z)) (N (o51 P) (N (o83 P) Z Z) (N (o115 P) Z Z)))) (N (o2 P) (N (o13 P) (N (o29 P) (N (o63 P) (N (o127 P) Z Z) Z) (N (o95 P) Z Z)) (N (o45 P) (N (o79 P) Z Z) (N (o111 P) Z Z))) (N (o21 P) (N (o37 P) (N (o71 P) Z Z) (N (o103 P) Z Z)) (N (o55 P) (N (o87 P) Z Z) (N (o119 P) Z Z)))))) (N (o4 P) (N (boot_o_4 P) (N (boot_o_8 P) (N (o8 P) (N (o24 P) (N (o58 P) (N (o122 P) Z Z) Z) (N (o90 P) Z Z)) (N (o40 P) (N (o74 P) Z Z) (N (o106 P) Z Z))) (N (o16 P) (N (o32 P) (N (o66 P) (N (o130 P) Z Z) Z) (N (o98 P) Z Z)) (N (o50 P) (N (o82 P) Z Z) (N (o114 P) Z Z)))) (N (o48 P) (N (o12 P) (N (o28 P) (N (o62 P) (N (o126 P) Z Z) Z) (N (o94 P) Z Z)) (N (o44 P) (N (o78 P) Z Z) (N (o110 P) Z Z))) (N (o20 P) (N (o36 P) (N (o70 P) Z Z) (N (o102 P) Z Z)) (N (o54 P) (N (o86 P) Z Z) (N (o118 P) Z Z))))) (N (boot_o_6 P) (N (boot_o_10 P) (N (o10 P) (N (o26 P) (N (o60 P) (N (o124 P) Z Z) Z) (N (o92 P) Z Z)) (N (o42 P) (N (o76 P) Z Z) (N (o108 P) Z Z))) (N (o18 P) (N (o34 P) (N (o68 P) Z Z) (N (o100 P) Z Z)) (N (o52 P) (N (o84 P) Z Z) (N (o116 P) Z Z)))) (N (o3 P) (N (o14 P) (N (o30 P) (N (o64 P) (N (o128 P) Z Z) Z) (N (o96 P) Z Z)) (N (o46 P) (N (o80 P) Z Z) (N (o112 P) Z Z))) (N (o22 P) (N (o38 P) (N (o72 P) Z Z) (N (o104 P) Z Z)) (N (o56 P) (N (o88 P) Z Z) (N (o120 P) Z Z)))))))
noncomputable abbrev sC1 (w : World) (os : OsState) : SharedT := ⟨tC1 w.params, 137, lf, Array.mk [], (.mk 0 0 0 0), 364, os⟩
noncomputable abbrev qC1 : Pos := ⟨61,0,62,36⟩
noncomputable def o131 (P : Params) : Obj := (.mk (.type "dict") none (.dict #[(en P "__name__" 165 (.str "gateloom.design" 480)),(en P "__doc__" 166 .none),(en P "__package__" 167 .none),(en P "__loader__" 168 (.builtin "__main__.__loader__#opaque")),(en P "__spec__" 169 .none),(en P "__annotations__" 170 (.ref 6)),(en P "__builtins__" 171 (.ref 4)),(en P "__file__" 173 (.str "/claim/cut.py" 172)),(en P "__cached__" 174 .none),(en P "_wall" 193 (.ref 21)),(en P "GateloomError" 231 (.ref 39)),(en P "SynthError" 247 (.ref 52)),(en P "Gates" 357 (.ref 127)),(en P "word_not" 363 (.ref 136)),(en P "all_of" 374 (.ref 143)),(en P "any_of" 382 (.ref 150)),(en P "Wires" 427 (.ref 174)),(en P "input_keys" 438 (.ref 185)),(en P "resting_bit" 447 (.ref 192)),(en P "several" 454 (.ref 199)),(en P "joined_net" 466 (.ref 206)),(en P "connect_wires" 479 (.ref 213))] 22) #[])
noncomputable def o132 (P : Params) : Obj := (.mk .none none (.fields #[(.int 1 0),(.int 0 0),(.ref 20),(.int 5 0),(.int 0 0),(.ref 27),(.int 11 0),(.int 0 0),(.ref 48),(.int 14 0),(.int 0 0),(.ref 60),(.int 61 0),(.int 0 0),(.ref 135),(.int 63 0),(.int 0 0),(.ref 142),(.int 73 0),(.int 0 0),(.ref 149),(.int 76 0),(.int 0 0),(.ref 156),(.int 90 0),(.int 0 0),(.ref 184),(.int 96 0),(.int 0 0),(.ref 191),(.int 102 0),(.int 0 0),(.ref 198),(.int 104 0),(.int 0 0),(.ref 205),(.int 124 0),(.int 0 0),(.ref 212)]) #[])
noncomputable def o133 (P : Params) : Obj := (.mk (.type "tuple") none (.seq #[] 0) #[])
noncomputable def o134 (P : Params) : Obj := (.mk .none none (.fields #[]) #[])
noncomputable def o135 (P : Params) : Obj := (.mk (.type "tuple") none (.seq #[(.str "g" 367),(.str "u" 368),(.str "rows" 369),(.str "joined" 370),(.str "place" 371)] 0) #[])
noncomputable def o136 (P : Params) : Obj := (.mk (.type "tuple") none (.seq #[] 0) #[])
noncomputable def o137 (P : Params) : Obj := (.mk .none none (.func (.mk "all_of" "all_of" (fa 7) (.stmts (fb 7)) (fs 7) 0 [] .none .none .none .none none .none .none 0)) #[])
noncomputable def o138 (P : Params) : Obj := (.mk (.type "code") none (.fields #[(.str "all_of" 364),(.str "all_of" 365),(.str "/claim/cut.py" 366),(.int 63 0),(.int 2 0),(.int 0 0),(.int 0 0),(.int 3 0),(.ref 137),(.bool true),(.int 181 0),(.ref 138),.none,(.ref 139),(.ref 140),(.ref 141),(.int 372 0),(.int 63 0),(.str "/claim/cut.py" 373)]) #[])
noncomputable def o139 (P : Params) : Obj := (.mk (.type "function") none (.func (.mk "all_of" "all_of" (fa 7) (.stmts (fb 7)) (fs 7) 3 [] .none .none .none (.str "gateloom.wordgates" 248) none (.ref 142) .none 0)) #[])
noncomputable def o140 (P : Params) : Obj := (.mk (.type "tuple") none (.seq #[] 0) #[])
noncomputable def o141 (P : Params) : Obj := (.mk .none none (.fields #[]) #[])
noncomputable def o142 (P : Params) : Obj := (.mk (.type "tuple") none (.seq #[(.str "g" 378),(.str "u" 379)] 0) #[])
noncomputable def o143 (P : Params) : Obj := (.mk (.type "tuple") none (.seq #[] 0) #[])
noncomputable def o144 (P : Params) : Obj := (.mk .none none (.func (.mk "any_of" "any_of" (fa 8) (.stmts (fb 8)) (fs 8) 0 [] .none .none .none .none none .none .none 0)) #[])
noncomputable def o145 (P : Params) : Obj := (.mk (.type "code") none (.fields #[(.str "any_of" 375),(.str "any_of" 376),(.str "/claim/cut.py" 377),(.int 73 0),(.int 2 0),(.int 0 0),(.int 0 0),(.int 3 0),(.ref 144),(.bool true),(.int 181 0),(.ref 145),.none,(.ref 146),(.ref 147),(.ref 148),(.int 380 0),(.int 73 0),(.str "/claim/cut.py" 381)]) #[])
noncomputable def o146 (P : Params) : Obj := (.mk (.type "function") none (.func (.mk "any_of" "any_of" (fa 8) (.stmts (fb 8)) (fs 8) 3 [] .none .none .none (.str "gateloom.wordgates" 248) none (.ref 149) .none 0)) #[])
noncomputable def o147 (P : Params) : Obj := (.mk (.type "tuple") none (.seq #[] 0) #[])
noncomputable def o148 (P : Params) : Obj := (.mk (.type "builtin_function_or_method") none (.fields #[(.builtin "type.__prepare__"),(.type "type")]) #[])
noncomputable def o149 (P : Params) : Obj := (.mk (.type "dict") none (.dict #[(en P "__module__" 392 (.str "gateloom.synthwires" 383)),(en P "__qualname__" 394 (.str "Wires" 393)),(en P "__firstlineno__" 396 (.int 76 395)),(en P "__init__" 403 (.ref 164)),(en P "drive" 414 (.ref 171)),(en P "__static_attributes__" 420 (.ref 172))] 6) #[])
noncomputable def o150 (P : Params) : Obj := (.mk (.type "tuple") none (.seq #[] 0) #[])
noncomputable def o151 (P : Params) : Obj := (.mk .none none (.fields #[(.int 78 0),(.int 4 0),(.ref 163),(.int 85 0),(.int 4 0),(.ref 170)]) #[])
noncomputable def o152 (P : Params) : Obj := (.mk (.type "code") none (.fields #[(.str "Wires" 387),(.str "Wires" 388),(.str "/claim/cut.py" 389),(.int 76 0),(.int 0 0),(.int 0 0),(.int 0 0),(.int 0 0),(.ref 154),(.bool false),(.int 181 0),(.ref 155),.none,.none,.none,.none,(.int 390 0),(.int 76 0),(.str "/claim/cut.py" 391)]) #[])
noncomputable def o153 (P : Params) : Obj := (.mk (.type "frame") none .plain #[(some (.ref 156)),(some (.ref 3)),(some (.ref 153)),none,(some (.str "gateloom.synthwires" 383)),none,(some (.ref 0))])
noncomputable def o154 (P : Params) : Obj := (.mk (.type "tuple") none (.seq #[] 0) #[])
noncomputable def o155 (P : Params) : Obj := (.mk .none none (.fields #[]) #[])
noncomputable def o156 (P : Params) : Obj := (.mk (.type "tuple") none (.seq #[(.str "self" 400)] 0) #[])
noncomputable def o157 (P : Params) : Obj := (.mk (.type "tuple") none (.seq #[] 0) #[])
noncomputable def o158 (P : Params) : Obj := (.mk .none none (.func (.mk "__init__" "Wires.__init__" (ma 10 0) (.stmts (mb 10 0)) (ms 19 0) 0 [] .none .none .none .none none .none .none 0)) #[])
noncomputable def o159 (P : Params) : Obj := (.mk (.type "code") none (.fields #[(.str "__init__" 397),(.str "Wires.__init__" 398),(.str "/claim/cut.py" 399),(.int 78 0),(.int 1 0),(.int 0 0),(.int 0 0),(.int 3 0),(.ref 158),(.bool true),(.int 181 0),(.ref 159),.none,(.ref 160),(.ref 161),(.ref 162),(.int 401 0),(.int 78 0),(.str "/claim/cut.py" 402)]) #[])
noncomputable def o160 (P : Params) : Obj := (.mk (.type "function") none (.func (.mk "__init__" "Wires.__init__" (ma 10 0) (.stmts (mb 10 0)) (ms 19 0) 3 [] .none .none .none (.str "gateloom.synthwires" 383) none (.ref 163) .none 0)) #[])
noncomputable def o161 (P : Params) : Obj := (.mk (.type "tuple") none (.seq #[] 0) #[])
noncomputable def o162 (P : Params) : Obj := (.mk .none none (.fields #[]) #[])
noncomputable def o163 (P : Params) : Obj := (.mk (.type "tuple") none (.seq #[(.str "self" 407),(.str "key" 408),(.str "bit" 409),(.str "net" 410),(.str "place" 411)] 0) #[])
noncomputable def o164 (P : Params) : Obj := (.mk (.type "tuple") none (.seq #[] 0) #[])
noncomputable def o165 (P : Params) : Obj := (.mk .none none (.func (.mk "drive" "Wires.drive" (ma 10 1) (.stmts (mb 10 1)) (ms 10 1) 0 [] .none .none .none .none none .none .none 0)) #[])
noncomputable def o166 (P : Params) : Obj := (.mk (.type "code") none (.fields #[(.str "drive" 404),(.str "Wires.drive" 405),(.str "/claim/cut.py" 406),(.int 85 0),(.int 4 0),(.int 0 0),(.int 0 0),(.int 3 0),(.ref 165),(.bool true),(.int 181 0),(.ref 166),.none,(.ref 167),(.ref 168),(.ref 169),(.int 412 0),(.int 85 0),(.str "/claim/cut.py" 413)]) #[])
noncomputable def o167 (P : Params) : Obj := (.mk (.type "function") none (.func (.mk "drive" "Wires.drive" (ma 10 1) (.stmts (mb 10 1)) (ms 10 1) 3 [] .none .none .none (.str "gateloom.synthwires" 383) none (.ref 170) .none 0)) #[])
noncomputable def o168 (P : Params) : Obj := (.mk (.type "tuple") none (.seq #[(.str "drivers" 415),(.str "initial" 416),(.str "nets" 417),(.str "pulls" 418),(.str "uneven" 419)] 0) #[])
noncomputable def o169 (P : Params) : Obj := (.mk (.type "dict") none (.dict #[(en P "__module__" 392 (.str "gateloom.synthwires" 383)),(en P "__firstlineno__" 396 (.int 76 395)),(en P "__init__" 403 (.ref 164)),(en P "drive" 414 (.ref 171)),(en P "__static_attributes__" 420 (.ref 172)),(en P "__dict__" 422 (.ref 175)),(en P "__weakref__" 424 (.ref 176)),(en P "__doc__" 425 .none)] 4) #[])
noncomputable def o170 (P : Params) : Obj := (.mk (.type "type") none (.cls (.mk "Wires" [(.type "object")] [(.ref 174),(.type "object")] 173 "Wires" true [] [] false none false)) #[none,none,(some (.str "Wires" 385)),(some (.str "Wires" 393)),(some (.builtin "object.__new__")),(some (.bool true))])
noncomputable def o171 (P : Params) : Obj := (.mk (.type "getset_descriptor") none (.fields #[(.str "__dict__" 421),(.ref 174),(.builtin "function.__dict__"),(.builtin "function.__dict__#set")]) #[])
noncomputable def o172 (P : Params) : Obj := (.mk (.type "getset_descriptor") none (.fields #[(.str "__weakref__" 423),(.ref 174),(.builtin "ExceptionGroup.__weakref__"),.none]) #[])
noncomputable def o173 (P : Params) : Obj := (.mk (.type "super") none (.fields #[(.ref 174),(.ref 174),(.ref 174)]) #[])
noncomputable def o174 (P : Params) : Obj := (.mk (.type "builtin_function_or_method") none (.fields #[(.builtin "object.__init_subclass__"),(.ref 174)]) #[])
noncomputable def o175 (P : Params) : Obj := (.mk (.type "tuple") none (.seq #[] 0) #[])
noncomputable def o176 (P : Params) : Obj := (.mk .none none (.fields #[]) #[])
noncomputable def o177 (P : Params) : Obj := (.mk (.type "tuple") none (.seq #[(.str "design" 431),(.str "keys" 432),(.str "direction" 433),(.str "name" 434),(.str "key" 435)] 0) #[])
noncomputable def o178 (P : Params) : Obj := (.mk (.type "tuple") none (.seq #[] 0) #[])
noncomputable def o179 (P : Params) : Obj := (.mk .none none (.func (.mk "input_keys" "input_keys" (fa 11) (.stmts (fb 11)) (fs 11) 0 [] .none .none .none .none none .none .none 0)) #[])
noncomputable def o180 (P : Params) : Obj := (.mk (.type "code") none (.fields #[(.str "input_keys" 428),(.str "input_keys" 429),(.str "/claim/cut.py" 430),(.int 90 0),(.int 1 0),(.int 0 0),(.int 0 0),(.int 3 0),(.ref 179),(.bool true),(.int 181 0),(.ref 180),.none,(.ref 181),(.ref 182),(.ref 183),(.int 436 0),(.int 90 0),(.str "/claim/cut.py" 437)]) #[])
noncomputable def o181 (P : Params) : Obj := (.mk (.type "function") none (.func (.mk "input_keys" "input_keys" (fa 11) (.stmts (fb 11)) (fs 11) 3 [] .none .none .none (.str "gateloom.synthwires" 383) none (.ref 184) .none 0)) #[])
noncomputable def o182 (P : Params) : Obj := (.mk (.type "tuple") none (.seq #[] 0) #[])
noncomputable def o183 (P : Params) : Obj := (.mk .none none (.fields #[]) #[])
noncomputable def o184 (P : Params) : Obj := (.mk (.type "tuple") none (.seq #[(.str "wires" 442),(.str "signal" 443),(.str "bit" 444)] 0) #[])
noncomputable def o185 (P : Params) : Obj := (.mk (.type "tuple") none (.seq #[] 0) #[])
noncomputable def o186 (P : Params) : Obj := (.mk .none none (.func (.mk "resting_bit" "resting_bit" (fa 12) (.stmts (fb 12)) (fs 12) 0 [] .none .none .none .none none .none .none 0)) #[])
noncomputable def o187 (P : Params) : Obj := (.mk (.type "code") none (.fields #[(.str "resting_bit" 439),(.str "resting_bit" 440),(.str "/claim/cut.py" 441),(.int 96 0),(.int 3 0),(.int 0 0),(.int 0 0),(.int 3 0),(.ref 186),(.bool true),(.int 181 0),(.ref 187),.none,(.ref 188),(.ref 189),(.ref 190),(.int 445 0),(.int 96 0),(.str "/claim/cut.py" 446)]) #[])
noncomputable def o188 (P : Params) : Obj := (.mk (.type "function") none (.func (.mk "resting_bit" "resting_bit" (fa 12) (.stmts (fb 12)) (fs 12) 3 [] .none .none .none (.str "gateloom.synthwires" 383) none (.ref 191) .none 0)) #[])
noncomputable def o189 (P : Params) : Obj := (.mk (.type "tuple") none (.seq #[] 0) #[])
noncomputable def o190 (P : Params) : Obj := (.mk .none none (.fields #[]) #[])
noncomputable def o191 (P : Params) : Obj := (.mk (.type "tuple") none (.seq #[(.str "signal" 451)] 0) #[])
noncomputable def o192 (P : Params) : Obj := (.mk (.type "tuple") none (.seq #[] 0) #[])
noncomputable def o193 (P : Params) : Obj := (.mk .none none (.func (.mk "several" "several" (fa 13) (.stmts (fb 13)) (fs 13) 0 [] .none .none .none .none none .none .none 0)) #[])
noncomputable def o194 (P : Params) : Obj := (.mk (.type "code") none (.fields #[(.str "several" 448),(.str "several" 449),(.str "/claim/cut.py" 450),(.int 102 0),(.int 1 0),(.int 0 0),(.int 0 0),(.int 3 0),(.ref 193),(.bool true),(.int 181 0),(.ref 194),.none,(.ref 195),(.ref 196),(.ref 197),(.int 452 0),(.int 102 0),(.str "/claim/cut.py" 453)]) #[])
noncomputable def o195 (P : Params) : Obj := (.mk (.type "function") none (.func (.mk "several" "several" (fa 13) (.stmts (fb 13)) (fs 13) 3 [] .none .none .none (.str "gateloom.synthwires" 383) none (.ref 198) .none 0)) #[])
noncomputable def o196 (P : Params) : Obj := (.mk (.type "tuple") none (.seq #[] 0) #[])
noncomputable def o197 (P : Params) : Obj := (.mk .none none (.fields #[]) #[])
noncomputable def o198 (P : Params) : Obj := (.mk (.type "tuple") none (.seq #[(.str "wires" 458),(.str "g" 459),(.str "signal" 460),(.str "bit" 461),(.str "found" 462),(.str "net" 463)] 0) #[])
noncomputable def o199 (P : Params) : Obj := (.mk (.type "tuple") none (.seq #[] 0) #[])
noncomputable def o200 (P : Params) : Obj := (.mk .none none (.func (.mk "joined_net" "joined_net" (fa 14) (.stmts (fb 14)) (fs 14) 0 [] .none .none .none .none none .none .none 0)) #[])
noncomputable def o201 (P : Params) : Obj := (.mk (.type "code") none (.fields #[(.str "joined_net" 455),(.str "joined_net" 456),(.str "/claim/cut.py" 457),(.int 104 0),(.int 4 0),(.int 0 0),(.int 0 0),(.int 3 0),(.ref 200),(.bool true),(.int 181 0),(.ref 201),.none,(.ref 202),(.ref 203),(.ref 204),(.int 464 0),(.int 104 0),(.str "/claim/cut.py" 465)]) #[])
noncomputable def o202 (P : Params) : Obj := (.mk (.type "function") none (.func (.mk "joined_net" "joined_net" (fa 14) (.stmts (fb 14)) (fs 14) 3 [] .none .none .none (.str "gateloom.synthwires" 383) none (.ref 205) .none 0)) #[])
noncomputable def o203 (P : Params) : Obj := (.mk (.type "tuple") none (.seq #[] 0) #[])
noncomputable def o204 (P : Params) : Obj := (.mk .none none (.fields #[]) #[])
noncomputable def o205 (P : Params) : Obj := (.mk (.type "tuple") none (.seq #[(.str "wires" 470),(.str "g" 471),(.str "design" 472),(.str "inputs" 473),(.str "signal" 474),(.str "nets" 475),(.str "bit" 476)] 0) #[])
noncomputable def o206 (P : Params) : Obj := (.mk (.type "tuple") none (.seq #[] 0) #[])
noncomputable def o207 (P : Params) : Obj := (.mk .none none (.func (.mk "connect_wires" "connect_wires" (fa 15) (.stmts (fb 15)) (fs 15) 0 [] .none .none .none .none none .none .none 0)) #[])
noncomputable def o208 (P : Params) : Obj := (.mk (.type "code") none (.fields #[(.str "connect_wires" 467),(.str "connect_wires" 468),(.str "/claim/cut.py" 469),(.int 124 0),(.int 3 0),(.int 0 0),(.int 0 0),(.int 3 0),(.ref 207),(.bool true),(.int 181 0),(.ref 208),.none,(.ref 209),(.ref 210),(.ref 211),(.int 477 0),(.int 124 0),(.str "/claim/cut.py" 478)]) #[])
noncomputable def o209 (P : Params) : Obj := (.mk (.type "function") none (.func (.mk "connect_wires" "connect_wires" (fa 15) (.stmts (fb 15)) (fs 15) 3 [] .none .none .none (.str "gateloom.synthwires" 383) none (.ref 212) .none 0)) #[])
noncomputable def tC2 (P : Params) : BT := (N (boot_o_0 P) (N (boot_o_1 P) (N (o131 P) (N (boot_o_7 P) (N (o7 P) (N (o23 P) (N (o57 P) (N (o121 P) Z Z) (N (o187 P) Z Z)) (N (o89 P) (N (o155 P) Z Z) Z)) (N (o39 P) (N (o73 P) (N (o139 P) Z Z) (N (o203 P) Z Z)) (N (o105 P) (N (o171 P) Z Z) Z))) (N (o15 P) (N (o31 P) (N (o65 P) (N (o129 P) Z Z) (N (o195 P) Z Z)) (N (o97 P) (N (o163 P) Z Z) Z)) (N (o49 P) (N (o81 P) (N (o147 P) Z Z) Z) (N (o113 P) (N (o179 P) Z Z) Z)))) (N (o0 P) (N (o11 P) (N (o27 P) (N (o61 P) (N (o125 P) Z Z) (N (o191 P) Z Z)) (N (o93 P) (N (o159 P) Z Z) Z)) (N (o43 P) (N (o77 P) (N (o143 P) Z Z) (N (o207 P) Z Z)) (N (o109 P) (N (o175 P) Z Z) Z))) (N (o19 P) (N (o35 P) (N (o69 P) (N (o135 P) Z Z) (N (o199 P) Z Z)) (N (o101 P) (N (o167 P) Z Z) Z)) (N (o53 P) (N (o85 P) (N (o151 P) Z Z) Z) (N (o117 P) (N (o183 P) Z Z) Z))))) (N (boot_o_5 P) (N (boot_o_9 P) (N (o9 P) (N (o25 P) (N (o59 P) (N (o123 P) Z Z) (N (o189 P) Z Z)) (N (o91 P) (N (o157 P) Z Z) Z)) (N (o41 P) (N (o75 P) (N (o141 P) Z Z) (N (o205 P) Z Z)) (N (o107 P) (N (o173 P) Z Z) Z))) (N (o17 P) (N (o33 P) (N (o67 P) (N (o133 P) Z Z) (N (o197 P) Z Z)) (N (o99 P) (N (o165 P) Z Z) Z)) (N (o51 P) (N (o83 P) (N (o149 P) Z Z) Z) (N (o115 P) (N (o181 P) Z Z) Z)))) (N (o2 P) (N (o13 P) (N (o29 P) (N (o63 P) (N (o127 P) Z Z) (N (o193 P) Z Z)) (N (o95 P) (N (o161 P) Z Z) Z)) (N (o45 P) (N (o79 P) (N (o145 P) Z Z) (N (o209 P) Z Z)) (N (o111 P) (N (o177 P) Z Z) Z))) (N (o21 P) (N (o37 P) (N (o71 P) (N (o137 P) Z Z) (N (o201 P) Z Z)) (N (o103 P) (N (o169 P) Z Z) Z)) (N (o55 P) (N (o87 P) (N (o153 P) Z Z) Z) (N (o119 P) (N (o185 P) Z Z) Z)))))) (N (o4 P) (N (boot_o_4 P) (N (boot_o_8 P) (N (o8 P) (N (o24 P) (N (o58 P) (N (o122 P) Z Z) (N (o188 P) Z Z)) (N (o90 P) (N (o156 P) Z Z) Z)) (N (o40 P) (N (o74 P) (N (o140 P) Z Z) (N (o204 P) Z Z)) (N (o106 P) (N (o172 P) Z Z) Z))) (N (o16 P) (N (o32 P) (N (o66 P) (N (o130 P) Z Z) (N (o196 P) Z Z)) (N (o98 P) (N (o164 P) Z Z) Z)) (N (o50 P) (N (o82 P) (N (o148 P) Z Z) Z) (N (o114 P) (N (o180 P) Z Z) Z)))) (N (o132 P) (N (o12 P) (N (o28 P) (N (o62 P) (N (o126 P) Z Z) (N (o192 P) Z Z)) (N (o94 P) (N (o160 P) Z Z) Z)) (N (o44 P) (N (o78 P) (N (o144 P) Z Z) (N (o208 P) Z Z)) (N (o110 P) (N (o176 P) Z Z) Z))) (N (o20 P) (N (o36 P) (N (o70 P) (N (o136 P) Z Z) (N (o200 P) Z Z)) (N (o102 P) (N (o168 P) Z Z) Z)) (N (o54 P) (N (o86 P) (N (o152 P) Z Z) Z) (N (o118 P) (N (o184 P) Z Z) Z))))) (N (boot_o_6 P) (N (boot_o_10 P) (N (o10 P) (N (o26 P) (N (o60 P) (N (o124 P) Z Z) (N (o190 P) Z Z)) (N (o92 P) (N (o158 P) Z Z) Z)) (N (o42 P) (N (o76 P) (N (o142 P) Z Z) (N (o206 P) Z Z)) (N (o108 P) (N (o174 P) Z Z) Z))) (N (o18 P) (N (o34 P) (N (o68 P) (N (o134 P) Z Z) (N (o198 P) Z Z)) (N (o100 P) (N (o166 P) Z Z) Z)) (N (o52 P) (N (o84 P) (N (o150 P) Z Z) Z) (N (o116 P) (N (o182 P) Z Z) Z)))) (N (o3 P) (N (o14 P) (N (o30 P) (N (o64 P) (N (o128 P) Z Z) (N (o194 P) Z Z)) (N (o96 P) (N (o162 P) Z Z) Z)) (N (o46 P) (N (o80 P) (N (o146 P) Z Z) Z) (N (o112 P) (N (o178 P) Z Z) Z))) (N (o22 P) (N (o38 P) (N (o72 P) (N (o138 P) Z Z) (N (o202 P) Z Z)) (N (o104 P) (N (o170 P) Z Z) Z)) (N (o56 P) (N (o88 P) (N (o154 P) Z Z) Z) (N (o120 P) (N (o186 P) Z Z) Z)))))))
noncomputable abbrev sC2 (w : World) (os : OsState) : SharedT := ⟨tC2 w.params, 214, lf, Array.mk [], (.mk 0 0 0 0), 482, os⟩
noncomputable abbrev qC2 : Pos := ⟨134,0,134,8⟩
noncomputable def o210 (P : Params) : Obj := (.mk (.type "dict") none (.dict #[(en P "__name__" 165 (.str "gateloom.design" 480)),(en P "__doc__" 166 .none),(en P "__package__" 167 .none),(en P "__loader__" 168 (.builtin "__main__.__loader__#opaque")),(en P "__spec__" 169 .none),(en P "__annotations__" 170 (.ref 6)),(en P "__builtins__" 171 (.ref 4)),(en P "__file__" 173 (.str "/claim/cut.py" 172)),(en P "__cached__" 174 .none),(en P "_wall" 193 (.ref 21)),(en P "GateloomError" 231 (.ref 39)),(en P "SynthError" 247 (.ref 52)),(en P "Gates" 357 (.ref 127)),(en P "word_not" 363 (.ref 136)),(en P "all_of" 374 (.ref 143)),(en P "any_of" 382 (.ref 150)),(en P "Wires" 427 (.ref 174)),(en P "input_keys" 438 (.ref 185)),(en P "resting_bit" 447 (.ref 192)),(en P "several" 454 (.ref 199)),(en P "joined_net" 466 (.ref 206)),(en P "connect_wires" 479 (.ref 213)),(en P "net_kinds" 487 (.ref 220)),(en P "Signal" 572 (.ref 272))] 24) #[])
noncomputable def o211 (P : Params) : Obj := (.mk .none none (.fields #[(.int 1 0),(.int 0 0),(.ref 20),(.int 5 0),(.int 0 0),(.ref 27),(.int 11 0),(.int 0 0),(.ref 48),(.int 14 0),(.int 0 0),(.ref 60),(.int 61 0),(.int 0 0),(.ref 135),(.int 63 0),(.int 0 0),(.ref 142),(.int 73 0),(.int 0 0),(.ref 149),(.int 76 0),(.int 0 0),(.ref 156),(.int 90 0),(.int 0 0),(.ref 184),(.int 96 0),(.int 0 0),(.ref 191),(.int 102 0),(.int 0 0),(.ref 198),(.int 104 0),(.int 0 0),(.ref 205),(.int 124 0),(.int 0 0),(.ref 212),(.int 135 0),(.int 0 0),(.ref 219),(.int 137 0),(.int 0 0),(.ref 226)]) #[])
noncomputable def o212 (P : Params) : Obj := (.mk (.type "tuple") none (.seq #[] 0) #[])
noncomputable def o213 (P : Params) : Obj := (.mk .none none (.fields #[]) #[])
noncomputable def o214 (P : Params) : Obj := (.mk (.type "tuple") none (.seq #[] 0) #[])
noncomputable def o215 (P : Params) : Obj := (.mk (.type "tuple") none (.seq #[] 0) #[])
noncomputable def o216 (P : Params) : Obj := (.mk .none none (.func (.mk "net_kinds" "net_kinds" (fa 17) (.stmts (fb 17)) (fs 17) 0 [] .none .none .none .none none .none .none 0)) #[])
noncomputable def o217 (P : Params) : Obj := (.mk (.type "code") none (.fields #[(.str "net_kinds" 482),(.str "net_kinds" 483),(.str "/claim/cut.py" 484),(.int 135 0),(.int 0 0),(.int 0 0),(.int 0 0),(.int 3 0),(.ref 214),(.bool true),(.int 181 0),(.ref 215),.none,(.ref 216),(.ref 217),(.ref 218),(.int 485 0),(.int 135 0),(.str "/claim/cut.py" 486)]) #[])
noncomputable def o218 (P : Params) : Obj := (.mk (.type "function") none (.func (.mk "net_kinds" "net_kinds" (fa 17) (.stmts (fb 17)) (fs 17) 3 [] .none .none .none (.str "gateloom.design" 480) none (.ref 219) .none 0)) #[])
noncomputable def o219 (P : Params) : Obj := (.mk (.type "tuple") none (.seq #[] 0) #[])
noncomputable def o220 (P : Params) : Obj := (.mk (.type "builtin_function_or_method") none (.fields #[(.builtin "type.__prepare__"),(.type "type")]) #[])
noncomputable def o221 (P : Params) : Obj := (.mk (.type "dict") none (.dict #[(en P "__module__" 495 (.str "gateloom.design" 480)),(en P "__qualname__" 497 (.str "Signal" 496)),(en P "__firstlineno__" 499 (.int 137 498)),(en P "__init__" 513 (.ref 234)),(en P "is_net" 520 (.ref 241)),(en P "is_memory" 527 (.ref 248)),(en P "words" 534 (.ref 255)),(en P "offset" 543 (.ref 262)),(en P "place" 552 (.ref 269)),(en P "__static_attributes__" 565 (.ref 270))] 10) #[])
noncomputable def o222 (P : Params) : Obj := (.mk (.type "tuple") none (.seq #[] 0) #[])
noncomputable def o223 (P : Params) : Obj := (.mk .none none (.fields #[(.int 139 0),(.int 4 0),(.ref 233),(.int 153 0),(.int 4 0),(.ref 240),(.int 156 0),(.int 4 0),(.ref 247),(.int 159 0),(.int 4 0),(.ref 254),(.int 164 0),(.int 4 0),(.ref 261),(.int 173 0),(.int 4 0),(.ref 268)]) #[])
noncomputable def o224 (P : Params) : Obj := (.mk (.type "code") none (.fields #[(.str "Signal" 490),(.str "Signal" 491),(.str "/claim/cut.py" 492),(.int 137 0),(.int 0 0),(.int 0 0),(.int 0 0),(.int 0 0),(.ref 224),(.bool false),(.int 181 0),(.ref 225),.none,.none,.none,.none,(.int 493 0),(.int 137 0),(.str "/claim/cut.py" 494)]) #[])
noncomputable def o225 (P : Params) : Obj := (.mk (.type "frame") none .plain #[(some (.ref 226)),(some (.ref 3)),(some (.ref 223)),none,(some (.str "gateloom.design" 480)),none,(some (.ref 0))])
noncomputable def o226 (P : Params) : Obj := (.mk (.type "tuple") none (.seq #[] 0) #[])
noncomputable def o227 (P : Params) : Obj := (.mk .none none (.fields #[]) #[])
noncomputable def o228 (P : Params) : Obj := (.mk (.type "tuple") none (.seq #[(.str "self" 503),(.str "key" 504),(.str "path" 505),(.str "kind" 506),(.str "width" 507),(.str "signed" 508),(.str "msb" 509),(.str "lsb" 510)] 0) #[])
noncomputable def o229 (P : Params) : Obj := (.mk (.type "tuple") none (.seq #[] 0) #[])
noncomputable def o230 (P : Params) : Obj := (.mk .none none (.func (.mk "__init__" "Signal.__init__" (ma 18 0) (.stmts (mb 18 0)) (ms 18 0) 0 [] .none .none .none .none none .none .none 0)) #[])
noncomputable def o231 (P : Params) : Obj := (.mk (.type "code") none (.fields #[(.str "__init__" 500),(.str "Signal.__init__" 501),(.str "/claim/cut.py" 502),(.int 139 0),(.int 8 0),(.int 0 0),(.int 0 0),(.int 3 0),(.ref 228),(.bool true),(.int 181 0),(.ref 229),.none,(.ref 230),(.ref 231),(.ref 232),(.int 511 0),(.int 139 0),(.str "/claim/cut.py" 512)]) #[])
noncomputable def o232 (P : Params) : Obj := (.mk (.type "function") none (.func (.mk "__init__" "Signal.__init__" (ma 18 0) (.stmts (mb 18 0)) (ms 18 0) 3 [] .none .none .none (.str "gateloom.design" 480) none (.ref 233) .none 0)) #[])
noncomputable def o233 (P : Params) : Obj := (.mk (.type "tuple") none (.seq #[] 0) #[])
noncomputable def o234 (P : Params) : Obj := (.mk .none none (.fields #[]) #[])
noncomputable def o235 (P : Params) : Obj := (.mk (.type "tuple") none (.seq #[(.str "self" 517)] 0) #[])
noncomputable def o236 (P : Params) : Obj := (.mk (.type "tuple") none (.seq #[] 0) #[])
noncomputable def o237 (P : Params) : Obj := (.mk .none none (.func (.mk "is_net" "Signal.is_net" (ma 18 1) (.stmts (mb 18 1)) (ms 18 1) 0 [] .none .none .none .none none .none .none 0)) #[])
noncomputable def o238 (P : Params) : Obj := (.mk (.type "code") none (.fields #[(.str "is_net" 514),(.str "Signal.is_net" 515),(.str "/claim/cut.py" 516),(.int 153 0),(.int 1 0),(.int 0 0),(.int 0 0),(.int 3 0),(.ref 235),(.bool true),(.int 181 0),(.ref 236),.none,(.ref 237),(.ref 238),(.ref 239),(.int 518 0),(.int 153 0),(.str "/claim/cut.py" 519)]) #[])
noncomputable def o239 (P : Params) : Obj := (.mk (.type "function") none (.func (.mk "is_net" "Signal.is_net" (ma 18 1) (.stmts (mb 18 1)) (ms 18 1) 3 [] .none .none .none (.str "gateloom.design" 480) none (.ref 240) .none 0)) #[])
noncomputable def o240 (P : Params) : Obj := (.mk (.type "tuple") none (.seq #[] 0) #[])
noncomputable def o241 (P : Params) : Obj := (.mk .none none (.fields #[]) #[])
noncomputable def o242 (P : Params) : Obj := (.mk (.type "tuple") none (.seq #[(.str "self" 524)] 0) #[])
noncomputable def o243 (P : Params) : Obj := (.mk (.type "tuple") none (.seq #[] 0) #[])
noncomputable def o244 (P : Params) : Obj := (.mk .none none (.func (.mk "is_memory" "Signal.is_memory" (ma 18 2) (.stmts (mb 18 2)) (ms 21 8) 0 [] .none .none .none .none none .none .none 0)) #[])
noncomputable def o245 (P : Params) : Obj := (.mk (.type "code") none (.fields #[(.str "is_memory" 521),(.str "Signal.is_memory" 522),(.str "/claim/cut.py" 523),(.int 156 0),(.int 1 0),(.int 0 0),(.int 0 0),(.int 3 0),(.ref 242),(.bool true),(.int 181 0),(.ref 243),.none,(.ref 244),(.ref 245),(.ref 246),(.int 525 0),(.int 156 0),(.str "/claim/cut.py" 526)]) #[])
noncomputable def o246 (P : Params) : Obj := (.mk (.type "function") none (.func (.mk "is_memory" "Signal.is_memory" (ma 18 2) (.stmts (mb 18 2)) (ms 21 8) 3 [] .none .none .none (.str "gateloom.design" 480) none (.ref 247) .none 0)) #[])
noncomputable def o247 (P : Params) : Obj := (.mk (.type "tuple") none (.seq #[] 0) #[])
noncomputable def o248 (P : Params) : Obj := (.mk .none none (.fields #[]) #[])
noncomputable def o249 (P : Params) : Obj := (.mk (.type "tuple") none (.seq #[(.str "self" 531)] 0) #[])
noncomputable def o250 (P : Params) : Obj := (.mk (.type "tuple") none (.seq #[] 0) #[])
noncomputable def o251 (P : Params) : Obj := (.mk .none none (.func (.mk "words" "Signal.words" (ma 18 3) (.stmts (mb 18 3)) (ms 18 3) 0 [] .none .none .none .none none .none .none 0)) #[])
noncomputable def o252 (P : Params) : Obj := (.mk (.type "code") none (.fields #[(.str "words" 528),(.str "Signal.words" 529),(.str "/claim/cut.py" 530),(.int 159 0),(.int 1 0),(.int 0 0),(.int 0 0),(.int 3 0),(.ref 249),(.bool true),(.int 181 0),(.ref 250),.none,(.ref 251),(.ref 252),(.ref 253),(.int 532 0),(.int 159 0),(.str "/claim/cut.py" 533)]) #[])
noncomputable def o253 (P : Params) : Obj := (.mk (.type "function") none (.func (.mk "words" "Signal.words" (ma 18 3) (.stmts (mb 18 3)) (ms 18 3) 3 [] .none .none .none (.str "gateloom.design" 480) none (.ref 254) .none 0)) #[])
noncomputable def o254 (P : Params) : Obj := (.mk (.type "tuple") none (.seq #[] 0) #[])
noncomputable def o255 (P : Params) : Obj := (.mk .none none (.fields #[]) #[])
noncomputable def o256 (P : Params) : Obj := (.mk (.type "tuple") none (.seq #[(.str "self" 538),(.str "index" 539),(.str "place" 540)] 0) #[])
noncomputable def o257 (P : Params) : Obj := (.mk (.type "tuple") none (.seq #[] 0) #[])
noncomputable def o258 (P : Params) : Obj := (.mk .none none (.func (.mk "offset" "Signal.offset" (ma 18 4) (.stmts (mb 18 4)) (ms 18 5) 0 [] .none .none .none .none none .none .none 0)) #[])
noncomputable def o259 (P : Params) : Obj := (.mk (.type "code") none (.fields #[(.str "offset" 535),(.str "Signal.offset" 536),(.str "/claim/cut.py" 537),(.int 164 0),(.int 2 0),(.int 0 0),(.int 0 0),(.int 3 0),(.ref 256),(.bool true),(.int 181 0),(.ref 257),.none,(.ref 258),(.ref 259),(.ref 260),(.int 541 0),(.int 164 0),(.str "/claim/cut.py" 542)]) #[])
noncomputable def o260 (P : Params) : Obj := (.mk (.type "function") none (.func (.mk "offset" "Signal.offset" (ma 18 4) (.stmts (mb 18 4)) (ms 18 5) 3 [] .none .none .none (.str "gateloom.design" 480) none (.ref 261) .none 0)) #[])
noncomputable def o261 (P : Params) : Obj := (.mk (.type "tuple") none (.seq #[] 0) #[])
noncomputable def o262 (P : Params) : Obj := (.mk .none none (.fields #[]) #[])
noncomputable def o263 (P : Params) : Obj := (.mk (.type "tuple") none (.seq #[(.str "self" 547),(.str "index" 548),(.str "place" 549)] 0) #[])
noncomputable def o264 (P : Params) : Obj := (.mk (.type "tuple") none (.seq #[] 0) #[])
noncomputable def o265 (P : Params) : Obj := (.mk .none none (.func (.mk "place" "Signal.place" (ma 18 5) (.stmts (mb 18 5)) (ms 18 5) 0 [] .none .none .none .none none .none .none 0)) #[])
noncomputable def o266 (P : Params) : Obj := (.mk (.type "code") none (.fields #[(.str "place" 544),(.str "Signal.place" 545),(.str "/claim/cut.py" 546),(.int 173 0),(.int 2 0),(.int 0 0),(.int 0 0),(.int 3 0),(.ref 263),(.bool true),(.int 181 0),(.ref 264),.none,(.ref 265),(.ref 266),(.ref 267),(.int 550 0),(.int 173 0),(.str "/claim/cut.py" 551)]) #[])
noncomputable def o267 (P : Params) : Obj := (.mk (.type "function") none (.func (.mk "place" "Signal.place" (ma 18 5) (.stmts (mb 18 5)) (ms 18 5) 3 [] .none .none .none (.str "gateloom.design" 480) none (.ref 268) .none 0)) #[])
noncomputable def o268 (P : Params) : Obj := (.mk (.type "tuple") none (.seq #[(.str "at" 553),(.str "first" 554),(.str "init" 555),(.str "key" 556),(.str "kind" 557),(.str "last" 558),(.str "lsb" 559),(.str "msb" 560),(.str "path" 561),(.str "scalar" 562),(.str "signed" 563),(.str "width" 564)] 0) #[])
noncomputable def o269 (P : Params) : Obj := (.mk (.type "dict") none (.dict #[(en P "__module__" 495 (.str "gateloom.design" 480)),(en P "__firstlineno__" 499 (.int 137 498)),(en P "__init__" 513 (.ref 234)),(en P "is_net" 520 (.ref 241)),(en P "is_memory" 527 (.ref 248)),(en P "words" 534 (.ref 255)),(en P "offset" 543 (.ref 262)),(en P "place" 552 (.ref 269)),(en P "__static_attributes__" 565 (.ref 270)),(en P "__dict__" 567 (.ref 273)),(en P "__weakref__" 569 (.ref 274)),(en P "__doc__" 570 .none)] 4) #[])
noncomputable def o270 (P : Params) : Obj := (.mk (.type "type") none (.cls (.mk "Signal" [(.type "object")] [(.ref 272),(.type "object")] 271 "Signal" true [] [] false none false)) #[none,none,(some (.str "Signal" 488)),(some (.str "Signal" 496)),(some (.builtin "object.__new__")),(some (.bool true))])
noncomputable def o271 (P : Params) : Obj := (.mk (.type "getset_descriptor") none (.fields #[(.str "__dict__" 566),(.ref 272),(.builtin "function.__dict__"),(.builtin "function.__dict__#set")]) #[])
noncomputable def o272 (P : Params) : Obj := (.mk (.type "getset_descriptor") none (.fields #[(.str "__weakref__" 568),(.ref 272),(.builtin "ExceptionGroup.__weakref__"),.none]) #[])
noncomputable def o273 (P : Params) : Obj := (.mk (.type "super") none (.fields #[(.ref 272),(.ref 272),(.ref 272)]) #[])
noncomputable def o274 (P : Params) : Obj := (.mk (.type "builtin_function_or_method") none (.fields #[(.builtin "object.__init_subclass__"),(.ref 272)]) #[])
noncomputable def tC3 (P : Params) : BT := (N (boot_o_0 P) (N (boot_o_1 P) (N (o210 P) (N (boot_o_7 P) (N (o7 P) (N (o23 P) (N (o57 P) (N (o121 P) (N (o253 P) Z Z) Z) (N (o187 P) Z Z)) (N (o89 P) (N (o155 P) Z Z) (N (o221 P) Z Z))) (N (o39 P) (N (o73 P) (N (o139 P) (N (o269 P) Z Z) Z) (N (o203 P) Z Z)) (N (o105 P) (N (o171 P) Z Z) (N (o237 P) Z Z)))) (N (o15 P) (N (o31 P) (N (o65 P) (N (o129 P) (N (o261 P) Z Z) Z) (N (o195 P) Z Z)) (N (o97 P) (N (o163 P) Z Z) (N (o229 P) Z Z))) (N (o49 P) (N (o81 P) (N (o147 P) Z Z) (N (o213 P) Z Z)) (N (o113 P) (N (o179 P) Z Z) (N (o245 P) Z Z))))) (N (o0 P) (N (o11 P) (N (o27 P) (N (o61 P) (N (o125 P) (N (o257 P) Z Z) Z) (N (o191 P) Z Z)) (N (o93 P) (N (o159 P) Z Z) (N (o225 P) Z Z))) (N (o43 P) (N (o77 P) (N (o143 P) (N (o273 P) Z Z) Z) (N (o207 P) Z Z)) (N (o109 P) (N (o175 P) Z Z) (N (o241 P) Z Z)))) (N (o19 P) (N (o35 P) (N (o69 P) (N (o135 P) (N (o265 P) Z Z) Z) (N (o199 P) Z Z)) (N (o101 P) (N (o167 P) Z Z) (N (o233 P) Z Z))) (N (o53 P) (N (o85 P) (N (o151 P) Z Z) (N (o217 P) Z Z)) (N (o117 P) (N (o183 P) Z Z) (N (o249 P) Z Z)))))) (N (boot_o_5 P) (N (boot_o_9 P) (N (o9 P) (N (o25 P) (N (o59 P) (N (o123 P) (N (o255 P) Z Z) Z) (N (o189 P) Z Z)) (N (o91 P) (N (o157 P) Z Z) (N (o223 P) Z Z))) (N (o41 P) (N (o75 P) (N (o141 P) (N (o271 P) Z Z) Z) (N (o205 P) Z Z)) (N (o107 P) (N (o173 P) Z Z) (N (o239 P) Z Z)))) (N (o17 P) (N (o33 P) (N (o67 P) (N (o133 P) (N (o263 P) Z Z) Z) (N (o197 P) Z Z)) (N (o99 P) (N (o165 P) Z Z) (N (o231 P) Z Z))) (N (o51 P) (N (o83 P) (N (o149 P) Z Z) (N (o215 P) Z Z)) (N (o115 P) (N (o181 P) Z Z) (N (o247 P) Z Z))))) (N (o2 P) (N (o13 P) (N (o29 P) (N (o63 P) (N (o127 P) (N (o259 P) Z Z) Z) (N (o193 P) Z Z)) (N (o95 P) (N (o161 P) Z Z) (N (o227 P) Z Z))) (N (o45 P) (N (o79 P) (N (o145 P) Z Z) (N (o209 P) Z Z)) (N (o111 P) (N (o177 P) Z Z) (N (o243 P) Z Z)))) (N (o21 P) (N (o37 P) (N (o71 P) (N (o137 P) (N (o267 P) Z Z) Z) (N (o201 P) Z Z)) (N (o103 P) (N (o169 P) Z Z) (N (o235 P) Z Z))) (N (o55 P) (N (o87 P) (N (o153 P) Z Z) (N (o219 P) Z Z)) (N (o119 P) (N (o185 P) Z Z) (N (o251 P) Z Z))))))) (N (o4 P) (N (boot_o_4 P) (N (boot_o_8 P) (N (o8 P) (N (o24 P) (N (o58 P) (N (o122 P) (N (o254 P) Z Z) Z) (N (o188 P) Z Z)) (N (o90 P) (N (o156 P) Z Z) (N (o222 P) Z Z))) (N (o40 P) (N (o74 P) (N (o140 P) (N (o270 P) Z Z) Z) (N (o204 P) Z Z)) (N (o106 P) (N (o172 P) Z Z) (N (o238 P) Z Z)))) (N (o16 P) (N (o32 P) (N (o66 P) (N (o130 P) (N (o262 P) Z Z) Z) (N (o196 P) Z Z)) (N (o98 P) (N (o164 P) Z Z) (N (o230 P) Z Z))) (N (o50 P) (N (o82 P) (N (o148 P) Z Z) (N (o214 P) Z Z)) (N (o114 P) (N (o180 P) Z Z) (N (o246 P) Z Z))))) (N (o211 P) (N (o12 P) (N (o28 P) (N (o62 P) (N (o126 P) (N (o258 P) Z Z) Z) (N (o192 P) Z Z)) (N (o94 P) (N (o160 P) Z Z) (N (o226 P) Z Z))) (N (o44 P) (N (o78 P) (N (o144 P) (N (o274 P) Z Z) Z) (N (o208 P) Z Z)) (N (o110 P) (N (o176 P) Z Z) (N (o242 P) Z Z)))) (N (o20 P) (N (o36 P) (N (o70 P) (N (o136 P) (N (o266 P) Z Z) Z) (N (o200 P) Z Z)) (N (o102 P) (N (o168 P) Z Z) (N (o234 P) Z Z))) (N (o54 P) (N (o86 P) (N (o152 P) Z Z) (N (o218 P) Z Z)) (N (o118 P) (N (o184 P) Z Z) (N (o250 P) Z Z)))))) (N (boot_o_6 P) (N (boot_o_10 P) (N (o10 P) (N (o26 P) (N (o60 P) (N (o124 P) (N (o256 P) Z Z) Z) (N (o190 P) Z Z)) (N (o92 P) (N (o158 P) Z Z) (N (o224 P) Z Z))) (N (o42 P) (N (o76 P) (N (o142 P) (N (o272 P) Z Z) Z) (N (o206 P) Z Z)) (N (o108 P) (N (o174 P) Z Z) (N (o240 P) Z Z)))) (N (o18 P) (N (o34 P) (N (o68 P) (N (o134 P) (N (o264 P) Z Z) Z) (N (o198 P) Z Z)) (N (o100 P) (N (o166 P) Z Z) (N (o232 P) Z Z))) (N (o52 P) (N (o84 P) (N (o150 P) Z Z) (N (o216 P) Z Z)) (N (o116 P) (N (o182 P) Z Z) (N (o248 P) Z Z))))) (N (o3 P) (N (o14 P) (N (o30 P) (N (o64 P) (N (o128 P) (N (o260 P) Z Z) Z) (N (o194 P) Z Z)) (N (o96 P) (N (o162 P) Z Z) (N (o228 P) Z Z))) (N (o46 P) (N (o80 P) (N (o146 P) Z Z) (N (o212 P) Z Z)) (N (o112 P) (N (o178 P) Z Z) (N (o244 P) Z Z)))) (N (o22 P) (N (o38 P) (N (o72 P) (N (o138 P) (N (o268 P) Z Z) Z) (N (o202 P) Z Z)) (N (o104 P) (N (o170 P) Z Z) (N (o236 P) Z Z))) (N (o56 P) (N (o88 P) (N (o154 P) Z Z) (N (o220 P) Z Z)) (N (o120 P) (N (o186 P) Z Z) (N (o252 P) Z Z))))))))
noncomputable abbrev sC3 (w : World) (os : OsState) : SharedT := ⟨tC3 w.params, 277, lf, Array.mk [], (.mk 0 0 0 0), 573, os⟩
noncomputable abbrev qC3 : Pos := ⟨137,0,182,20⟩
noncomputable def o275 (P : Params) : Obj := (.mk (.type "dict") none (.dict #[(en P "__name__" 165 (.str "gateloom.netlist" 672)),(en P "__doc__" 166 .none),(en P "__package__" 167 .none),(en P "__loader__" 168 (.builtin "__main__.__loader__#opaque")),(en P "__spec__" 169 .none),(en P "__annotations__" 170 (.ref 6)),(en P "__builtins__" 171 (.ref 4)),(en P "__file__" 173 (.str "/claim/cut.py" 172)),(en P "__cached__" 174 .none),(en P "_wall" 193 (.ref 21)),(en P "GateloomError" 231 (.ref 39)),(en P "SynthError" 247 (.ref 52)),(en P "Gates" 357 (.ref 127)),(en P "word_not" 363 (.ref 136)),(en P "all_of" 374 (.ref 143)),(en P "any_of" 382 (.ref 150)),(en P "Wires" 427 (.ref 174)),(en P "input_keys" 438 (.ref 185)),(en P "resting_bit" 447 (.ref 192)),(en P "several" 454 (.ref 199)),(en P "joined_net" 466 (.ref 206)),(en P "connect_wires" 479 (.ref 213)),(en P "net_kinds" 487 (.ref 220)),(en P "Signal" 572 (.ref 272)),(en P "Design" 671 (.ref 335))] 25) #[])
noncomputable def o276 (P : Params) : Obj := (.mk .none none (.fields #[(.int 1 0),(.int 0 0),(.ref 20),(.int 5 0),(.int 0 0),(.ref 27),(.int 11 0),(.int 0 0),(.ref 48),(.int 14 0),(.int 0 0),(.ref 60),(.int 61 0),(.int 0 0),(.ref 135),(.int 63 0),(.int 0 0),(.ref 142),(.int 73 0),(.int 0 0),(.ref 149),(.int 76 0),(.int 0 0),(.ref 156),(.int 90 0),(.int 0 0),(.ref 184),(.int 96 0),(.int 0 0),(.ref 191),(.int 102 0),(.int 0 0),(.ref 198),(.int 104 0),(.int 0 0),(.ref 205),(.int 124 0),(.int 0 0),(.ref 212),(.int 135 0),(.int 0 0),(.ref 219),(.int 137 0),(.int 0 0),(.ref 226),(.int 183 0),(.int 0 0),(.ref 282)]) #[])
noncomputable def o277 (P : Params) : Obj := (.mk (.type "tuple") none (.seq #[] 0) #[])
noncomputable def o278 (P : Params) : Obj := (.mk (.type "builtin_function_or_method") none (.fields #[(.builtin "type.__prepare__"),(.type "type")]) #[])
noncomputable def o279 (P : Params) : Obj := (.mk (.type "dict") none (.dict #[(en P "__module__" 580 (.str "gateloom.design" 480)),(en P "__qualname__" 582 (.str "Design" 581)),(en P "__firstlineno__" 584 (.int 183 583)),(en P "__init__" 591 (.ref 290)),(en P "add_signal" 606 (.ref 297)),(en P "add_scope" 614 (.ref 304)),(en P "add_routine" 625 (.ref 311)),(en P "add_process" 636 (.ref 318)),(en P "find" 644 (.ref 325)),(en P "routine" 652 (.ref 332)),(en P "__static_attributes__" 664 (.ref 333))] 11) #[])
noncomputable def o280 (P : Params) : Obj := (.mk (.type "tuple") none (.seq #[] 0) #[])
noncomputable def o281 (P : Params) : Obj := (.mk .none none (.fields #[(.int 185 0),(.int 4 0),(.ref 289),(.int 198 0),(.int 4 0),(.ref 296),(.int 205 0),(.int 4 0),(.ref 303),(.int 208 0),(.int 4 0),(.ref 310),(.int 211 0),(.int 4 0),(.ref 317),(.int 214 0),(.int 4 0),(.ref 324),(.int 217 0),(.int 4 0),(.ref 331)]) #[])
noncomputable def o282 (P : Params) : Obj := (.mk (.type "code") none (.fields #[(.str "Design" 575),(.str "Design" 576),(.str "/claim/cut.py" 577),(.int 183 0),(.int 0 0),(.int 0 0),(.int 0 0),(.int 0 0),(.ref 280),(.bool false),(.int 181 0),(.ref 281),.none,.none,.none,.none,(.int 578 0),(.int 183 0),(.str "/claim/cut.py" 579)]) #[])
noncomputable def o283 (P : Params) : Obj := (.mk (.type "frame") none .plain #[(some (.ref 282)),(some (.ref 3)),(some (.ref 279)),none,(some (.str "gateloom.design" 480)),none,(some (.ref 0))])
noncomputable def o284 (P : Params) : Obj := (.mk (.type "tuple") none (.seq #[] 0) #[])
noncomputable def o285 (P : Params) : Obj := (.mk .none none (.fields #[]) #[])
noncomputable def o286 (P : Params) : Obj := (.mk (.type "tuple") none (.seq #[(.str "self" 588)] 0) #[])
noncomputable def o287 (P : Params) : Obj := (.mk (.type "tuple") none (.seq #[] 0) #[])
noncomputable def o288 (P : Params) : Obj := (.mk .none none (.func (.mk "__init__" "Design.__init__" (ma 19 0) (.stmts (mb 19 0)) (ms 19 0) 0 [] .none .none .none .none none .none .none 0)) #[])
noncomputable def o289 (P : Params) : Obj := (.mk (.type "code") none (.fields #[(.str "__init__" 585),(.str "Design.__init__" 586),(.str "/claim/cut.py" 587),(.int 185 0),(.int 1 0),(.int 0 0),(.int 0 0),(.int 3 0),(.ref 284),(.bool true),(.int 181 0),(.ref 285),.none,(.ref 286),(.ref 287),(.ref 288),(.int 589 0),(.int 185 0),(.str "/claim/cut.py" 590)]) #[])
noncomputable def o290 (P : Params) : Obj := (.mk (.type "function") none (.func (.mk "__init__" "Design.__init__" (ma 19 0) (.stmts (mb 19 0)) (ms 19 0) 3 [] .none .none .none (.str "gateloom.design" 480) none (.ref 289) .none 0)) #[])
noncomputable def o291 (P : Params) : Obj := (.mk (.type "tuple") none (.seq #[] 0) #[])
noncomputable def o292 (P : Params) : Obj := (.mk .none none (.fields #[]) #[])
noncomputable def o293 (P : Params) : Obj := (.mk (.type "tuple") none (.seq #[(.str "self" 595),(.str "path" 596),(.str "kind" 597),(.str "width" 598),(.str "signed" 599),(.str "msb" 600),(.str "lsb" 601),(.str "at" 602),(.str "signal" 603)] 0) #[])
noncomputable def o294 (P : Params) : Obj := (.mk (.type "tuple") none (.seq #[] 0) #[])
noncomputable def o295 (P : Params) : Obj := (.mk .none none (.func (.mk "add_signal" "Design.add_signal" (ma 19 1) (.stmts (mb 19 1)) (ms 19 1) 0 [] .none .none .none .none none .none .none 0)) #[])
noncomputable def o296 (P : Params) : Obj := (.mk (.type "code") none (.fields #[(.str "add_signal" 592),(.str "Design.add_signal" 593),(.str "/claim/cut.py" 594),(.int 198 0),(.int 8 0),(.int 0 0),(.int 0 0),(.int 3 0),(.ref 291),(.bool true),(.int 181 0),(.ref 292),.none,(.ref 293),(.ref 294),(.ref 295),(.int 604 0),(.int 198 0),(.str "/claim/cut.py" 605)]) #[])
noncomputable def o297 (P : Params) : Obj := (.mk (.type "function") none (.func (.mk "add_signal" "Design.add_signal" (ma 19 1) (.stmts (mb 19 1)) (ms 19 1) 3 [] .none .none .none (.str "gateloom.design" 480) none (.ref 296) .none 0)) #[])
noncomputable def o298 (P : Params) : Obj := (.mk (.type "tuple") none (.seq #[] 0) #[])
noncomputable def o299 (P : Params) : Obj := (.mk .none none (.fields #[]) #[])
noncomputable def o300 (P : Params) : Obj := (.mk (.type "tuple") none (.seq #[(.str "self" 610),(.str "path" 611)] 0) #[])
noncomputable def o301 (P : Params) : Obj := (.mk (.type "tuple") none (.seq #[] 0) #[])
noncomputable def o302 (P : Params) : Obj := (.mk .none none (.func (.mk "add_scope" "Design.add_scope" (ma 19 2) (.stmts (mb 19 2)) (ms 19 5) 0 [] .none .none .none .none none .none .none 0)) #[])
noncomputable def o303 (P : Params) : Obj := (.mk (.type "code") none (.fields #[(.str "add_scope" 607),(.str "Design.add_scope" 608),(.str "/claim/cut.py" 609),(.int 205 0),(.int 2 0),(.int 0 0),(.int 0 0),(.int 3 0),(.ref 298),(.bool true),(.int 181 0),(.ref 299),.none,(.ref 300),(.ref 301),(.ref 302),(.int 612 0),(.int 205 0),(.str "/claim/cut.py" 613)]) #[])
noncomputable def o304 (P : Params) : Obj := (.mk (.type "function") none (.func (.mk "add_scope" "Design.add_scope" (ma 19 2) (.stmts (mb 19 2)) (ms 19 5) 3 [] .none .none .none (.str "gateloom.design" 480) none (.ref 303) .none 0)) #[])
noncomputable def o305 (P : Params) : Obj := (.mk (.type "tuple") none (.seq #[] 0) #[])
noncomputable def o306 (P : Params) : Obj := (.mk .none none (.fields #[]) #[])
noncomputable def o307 (P : Params) : Obj := (.mk (.type "tuple") none (.seq #[(.str "self" 618),(.str "path" 619),(.str "is_function" 620),(.str "automatic" 621),(.str "at" 622)] 0) #[])
noncomputable def o308 (P : Params) : Obj := (.mk (.type "tuple") none (.seq #[] 0) #[])
noncomputable def o309 (P : Params) : Obj := (.mk .none none (.func (.mk "add_routine" "Design.add_routine" (ma 19 3) (.stmts (mb 19 3)) (ms 19 3) 0 [] .none .none .none .none none .none .none 0)) #[])
noncomputable def o310 (P : Params) : Obj := (.mk (.type "code") none (.fields #[(.str "add_routine" 615),(.str "Design.add_routine" 616),(.str "/claim/cut.py" 617),(.int 208 0),(.int 5 0),(.int 0 0),(.int 0 0),(.int 3 0),(.ref 305),(.bool true),(.int 181 0),(.ref 306),.none,(.ref 307),(.ref 308),(.ref 309),(.int 623 0),(.int 208 0),(.str "/claim/cut.py" 624)]) #[])
noncomputable def o311 (P : Params) : Obj := (.mk (.type "function") none (.func (.mk "add_routine" "Design.add_routine" (ma 19 3) (.stmts (mb 19 3)) (ms 19 3) 3 [] .none .none .none (.str "gateloom.design" 480) none (.ref 310) .none 0)) #[])
noncomputable def o312 (P : Params) : Obj := (.mk (.type "tuple") none (.seq #[] 0) #[])
noncomputable def o313 (P : Params) : Obj := (.mk .none none (.fields #[]) #[])
noncomputable def o314 (P : Params) : Obj := (.mk (.type "tuple") none (.seq #[(.str "self" 629),(.str "kind" 630),(.str "body" 631),(.str "path" 632),(.str "at" 633)] 0) #[])
noncomputable def o315 (P : Params) : Obj := (.mk (.type "tuple") none (.seq #[] 0) #[])
noncomputable def o316 (P : Params) : Obj := (.mk .none none (.func (.mk "add_process" "Design.add_process" (ma 19 4) (.stmts (mb 19 4)) (ms 19 4) 0 [] .none .none .none .none none .none .none 0)) #[])
noncomputable def o317 (P : Params) : Obj := (.mk (.type "code") none (.fields #[(.str "add_process" 626),(.str "Design.add_process" 627),(.str "/claim/cut.py" 628),(.int 211 0),(.int 5 0),(.int 0 0),(.int 0 0),(.int 3 0),(.ref 312),(.bool true),(.int 181 0),(.ref 313),.none,(.ref 314),(.ref 315),(.ref 316),(.int 634 0),(.int 211 0),(.str "/claim/cut.py" 635)]) #[])
noncomputable def o318 (P : Params) : Obj := (.mk (.type "function") none (.func (.mk "add_process" "Design.add_process" (ma 19 4) (.stmts (mb 19 4)) (ms 19 4) 3 [] .none .none .none (.str "gateloom.design" 480) none (.ref 317) .none 0)) #[])
noncomputable def o319 (P : Params) : Obj := (.mk (.type "tuple") none (.seq #[] 0) #[])
noncomputable def o320 (P : Params) : Obj := (.mk .none none (.fields #[]) #[])
noncomputable def o321 (P : Params) : Obj := (.mk (.type "tuple") none (.seq #[(.str "self" 640),(.str "path" 641)] 0) #[])
noncomputable def o322 (P : Params) : Obj := (.mk (.type "tuple") none (.seq #[] 0) #[])
noncomputable def o323 (P : Params) : Obj := (.mk .none none (.func (.mk "find" "Design.find" (ma 19 5) (.stmts (mb 19 5)) (ms 19 5) 0 [] .none .none .none .none none .none .none 0)) #[])
noncomputable def o324 (P : Params) : Obj := (.mk (.type "code") none (.fields #[(.str "find" 637),(.str "Design.find" 638),(.str "/claim/cut.py" 639),(.int 214 0),(.int 2 0),(.int 0 0),(.int 0 0),(.int 3 0),(.ref 319),(.bool true),(.int 181 0),(.ref 320),.none,(.ref 321),(.ref 322),(.ref 323),(.int 642 0),(.int 214 0),(.str "/claim/cut.py" 643)]) #[])
noncomputable def o325 (P : Params) : Obj := (.mk (.type "function") none (.func (.mk "find" "Design.find" (ma 19 5) (.stmts (mb 19 5)) (ms 19 5) 3 [] .none .none .none (.str "gateloom.design" 480) none (.ref 324) .none 0)) #[])
noncomputable def o326 (P : Params) : Obj := (.mk (.type "tuple") none (.seq #[] 0) #[])
noncomputable def o327 (P : Params) : Obj := (.mk .none none (.fields #[]) #[])
noncomputable def o328 (P : Params) : Obj := (.mk (.type "tuple") none (.seq #[(.str "self" 648),(.str "n" 649)] 0) #[])
noncomputable def o329 (P : Params) : Obj := (.mk (.type "tuple") none (.seq #[] 0) #[])
noncomputable def o330 (P : Params) : Obj := (.mk .none none (.func (.mk "routine" "Design.routine" (ma 19 6) (.stmts (mb 19 6)) (ms 19 6) 0 [] .none .none .none .none none .none .none 0)) #[])
noncomputable def o331 (P : Params) : Obj := (.mk (.type "code") none (.fields #[(.str "routine" 645),(.str "Design.routine" 646),(.str "/claim/cut.py" 647),(.int 217 0),(.int 2 0),(.int 0 0),(.int 0 0),(.int 3 0),(.ref 326),(.bool true),(.int 181 0),(.ref 327),.none,(.ref 328),(.ref 329),(.ref 330),(.int 650 0),(.int 217 0),(.str "/claim/cut.py" 651)]) #[])
noncomputable def o332 (P : Params) : Obj := (.mk (.type "function") none (.func (.mk "routine" "Design.routine" (ma 19 6) (.stmts (mb 19 6)) (ms 19 6) 3 [] .none .none .none (.str "gateloom.design" 480) none (.ref 331) .none 0)) #[])
noncomputable def o333 (P : Params) : Obj := (.mk (.type "tuple") none (.seq #[(.str "assigns" 653),(.str "by_path" 654),(.str "gates" 655),(.str "maker" 656),(.str "ports" 657),(.str "processes" 658),(.str "routines" 659),(.str "scopes" 660),(.str "signals" 661),(.str "tops" 662),(.str "udps" 663)] 0) #[])
noncomputable def o334 (P : Params) : Obj := (.mk (.type "dict") none (.dict #[(en P "__module__" 580 (.str "gateloom.design" 480)),(en P "__firstlineno__" 584 (.int 183 583)),(en P "__init__" 591 (.ref 290)),(en P "add_signal" 606 (.ref 297)),(en P "add_scope" 614 (.ref 304)),(en P "add_routine" 625 (.ref 311)),(en P "add_process" 636 (.ref 318)),(en P "find" 644 (.ref 325)),(en P "routine" 652 (.ref 332)),(en P "__static_attributes__" 664 (.ref 333)),(en P "__dict__" 666 (.ref 336)),(en P "__weakref__" 668 (.ref 337)),(en P "__doc__" 669 .none)] 4) #[])
noncomputable def o335 (P : Params) : Obj := (.mk (.type "type") none (.cls (.mk "Design" [(.type "object")] [(.ref 335),(.type "object")] 334 "Design" true [] [] false none false)) #[none,none,(some (.str "Design" 573)),(some (.str "Design" 581)),(some (.builtin "object.__new__")),(some (.bool true))])
noncomputable def o336 (P : Params) : Obj := (.mk (.type "getset_descriptor") none (.fields #[(.str "__dict__" 665),(.ref 335),(.builtin "function.__dict__"),(.builtin "function.__dict__#set")]) #[])
noncomputable def o337 (P : Params) : Obj := (.mk (.type "getset_descriptor") none (.fields #[(.str "__weakref__" 667),(.ref 335),(.builtin "ExceptionGroup.__weakref__"),.none]) #[])
noncomputable def o338 (P : Params) : Obj := (.mk (.type "super") none (.fields #[(.ref 335),(.ref 335),(.ref 335)]) #[])
noncomputable def o339 (P : Params) : Obj := (.mk (.type "builtin_function_or_method") none (.fields #[(.builtin "object.__init_subclass__"),(.ref 335)]) #[])
noncomputable def tC4 (P : Params) : BT := (N (boot_o_0 P) (N (boot_o_1 P) (N (o275 P) (N (boot_o_7 P) (N (o7 P) (N (o23 P) (N (o57 P) (N (o121 P) (N (o253 P) Z Z) Z) (N (o187 P) (N (o319 P) Z Z) Z)) (N (o89 P) (N (o155 P) (N (o287 P) Z Z) Z) (N (o221 P) Z Z))) (N (o39 P) (N (o73 P) (N (o139 P) (N (o269 P) Z Z) Z) (N (o203 P) (N (o335 P) Z Z) Z)) (N (o105 P) (N (o171 P) (N (o303 P) Z Z) Z) (N (o237 P) Z Z)))) (N (o15 P) (N (o31 P) (N (o65 P) (N (o129 P) (N (o261 P) Z Z) Z) (N (o195 P) (N (o327 P) Z Z) Z)) (N (o97 P) (N (o163 P) (N (o295 P) Z Z) Z) (N (o229 P) Z Z))) (N (o49 P) (N (o81 P) (N (o147 P) (N (o279 P) Z Z) Z) (N (o213 P) Z Z)) (N (o113 P) (N (o179 P) (N (o311 P) Z Z) Z) (N (o245 P) Z Z))))) (N (o0 P) (N (o11 P) (N (o27 P) (N (o61 P) (N (o125 P) (N (o257 P) Z Z) Z) (N (o191 P) (N (o323 P) Z Z) Z)) (N (o93 P) (N (o159 P) (N (o291 P) Z Z) Z) (N (o225 P) Z Z))) (N (o43 P) (N (o77 P) (N (o143 P) (N (o273 P) Z Z) Z) (N (o207 P) (N (o339 P) Z Z) Z)) (N (o109 P) (N (o175 P) (N (o307 P) Z Z) Z) (N (o241 P) Z Z)))) (N (o19 P) (N (o35 P) (N (o69 P) (N (o135 P) (N (o265 P) Z Z) Z) (N (o199 P) (N (o331 P) Z Z) Z)) (N (o101 P) (N (o167 P) (N (o299 P) Z Z) Z) (N (o233 P) Z Z))) (N (o53 P) (N (o85 P) (N (o151 P) (N (o283 P) Z Z) Z) (N (o217 P) Z Z)) (N (o117 P) (N (o183 P) (N (o315 P) Z Z) Z) (N (o249 P) Z Z)))))) (N (boot_o_5 P) (N (boot_o_9 P) (N (o9 P) (N (o25 P) (N (o59 P) (N (o123 P) (N (o255 P) Z Z) Z) (N (o189 P) (N (o321 P) Z Z) Z)) (N (o91 P) (N (o157 P) (N (o289 P) Z Z) Z) (N (o223 P) Z Z))) (N (o41 P) (N (o75 P) (N (o141 P) (N (o271 P) Z Z) Z) (N (o205 P) (N (o337 P) Z Z) Z)) (N (o107 P) (N (o173 P) (N (o305 P) Z Z) Z) (N (o239 P) Z Z)))) (N (o17 P) (N (o33 P) (N (o67 P) (N (o133 P) (N (o263 P) Z Z) Z) (N (o197 P) (N (o329 P) Z Z) Z)) (N (o99 P) (N (o165 P) (N (o297 P) Z Z) Z) (N (o231 P) Z Z))) (N (o51 P) (N (o83 P) (N (o149 P) (N (o281 P) Z Z) Z) (N (o215 P) Z Z)) (N (o115 P) (N (o181 P) (N (o313 P) Z Z) Z) (N (o247 P) Z Z))))) (N (o2 P) (N (o13 P) (N (o29 P) (N (o63 P) (N (o127 P) (N (o259 P) Z Z) Z) (N (o193 P) (N (o325 P) Z Z) Z)) (N (o95 P) (N (o161 P) (N (o293 P) Z Z) Z) (N (o227 P) Z Z))) (N (o45 P) (N (o79 P) (N (o145 P) (N (o277 P) Z Z) Z) (N (o209 P) Z Z)) (N (o111 P) (N (o177 P) (N (o309 P) Z Z) Z) (N (o243 P) Z Z)))) (N (o21 P) (N (o37 P) (N (o71 P) (N (o137 P) (N (o267 P) Z Z) Z) (N (o201 P) (N (o333 P) Z Z) Z)) (N (o103 P) (N (o169 P) (N (o301 P) Z Z) Z) (N (o235 P) Z Z))) (N (o55 P) (N (o87 P) (N (o153 P) (N (o285 P) Z Z) Z) (N (o219 P) Z Z)) (N (o119 P) (N (o185 P) (N (o317 P) Z Z) Z) (N (o251 P) Z Z))))))) (N (o4 P) (N (boot_o_4 P) (N (boot_o_8 P) (N (o8 P) (N (o24 P) (N (o58 P) (N (o122 P) (N (o254 P) Z Z) Z) (N (o188 P) (N (o320 P) Z Z) Z)) (N (o90 P) (N (o156 P) (N (o288 P) Z Z) Z) (N (o222 P) Z Z))) (N (o40 P) (N (o74 P) (N (o140 P) (N (o270 P) Z Z) Z) (N (o204 P) (N (o336 P) Z Z) Z)) (N (o106 P) (N (o172 P) (N (o304 P) Z Z) Z) (N (o238 P) Z Z)))) (N (o16 P) (N (o32 P) (N (o66 P) (N (o130 P) (N (o262 P) Z Z) Z) (N (o196 P) (N (o328 P) Z Z) Z)) (N (o98 P) (N (o164 P) (N (o296 P) Z Z) Z) (N (o230 P) Z Z))) (N (o50 P) (N (o82 P) (N (o148 P) (N (o280 P) Z Z) Z) (N (o214 P) Z Z)) (N (o114 P) (N (o180 P) (N (o312 P) Z Z) Z) (N (o246 P) Z Z))))) (N (o276 P) (N (o12 P) (N (o28 P) (N (o62 P) (N (o126 P) (N (o258 P) Z Z) Z) (N (o192 P) (N (o324 P) Z Z) Z)) (N (o94 P) (N (o160 P) (N (o292 P) Z Z) Z) (N (o226 P) Z Z))) (N (o44 P) (N (o78 P) (N (o144 P) (N (o274 P) Z Z) Z) (N (o208 P) Z Z)) (N (o110 P) (N (o176 P) (N (o308 P) Z Z) Z) (N (o242 P) Z Z)))) (N (o20 P) (N (o36 P) (N (o70 P) (N (o136 P) (N (o266 P) Z Z) Z) (N (o200 P) (N (o332 P) Z Z) Z)) (N (o102 P) (N (o168 P) (N (o300 P) Z Z) Z) (N (o234 P) Z Z))) (N (o54 P) (N (o86 P) (N (o152 P) (N (o284 P) Z Z) Z) (N (o218 P) Z Z)) (N (o118 P) (N (o184 P) (N (o316 P) Z Z) Z) (N (o250 P) Z Z)))))) (N (boot_o_6 P) (N (boot_o_10 P) (N (o10 P) (N (o26 P) (N (o60 P) (N (o124 P) (N (o256 P) Z Z) Z) (N (o190 P) (N (o322 P) Z Z) Z)) (N (o92 P) (N (o158 P) (N (o290 P) Z Z) Z) (N (o224 P) Z Z))) (N (o42 P) (N (o76 P) (N (o142 P) (N (o272 P) Z Z) Z) (N (o206 P) (N (o338 P) Z Z) Z)) (N (o108 P) (N (o174 P) (N (o306 P) Z Z) Z) (N (o240 P) Z Z)))) (N (o18 P) (N (o34 P) (N (o68 P) (N (o134 P) (N (o264 P) Z Z) Z) (N (o198 P) (N (o330 P) Z Z) Z)) (N (o100 P) (N (o166 P) (N (o298 P) Z Z) Z) (N (o232 P) Z Z))) (N (o52 P) (N (o84 P) (N (o150 P) (N (o282 P) Z Z) Z) (N (o216 P) Z Z)) (N (o116 P) (N (o182 P) (N (o314 P) Z Z) Z) (N (o248 P) Z Z))))) (N (o3 P) (N (o14 P) (N (o30 P) (N (o64 P) (N (o128 P) (N (o260 P) Z Z) Z) (N (o194 P) (N (o326 P) Z Z) Z)) (N (o96 P) (N (o162 P) (N (o294 P) Z Z) Z) (N (o228 P) Z Z))) (N (o46 P) (N (o80 P) (N (o146 P) (N (o278 P) Z Z) Z) (N (o212 P) Z Z)) (N (o112 P) (N (o178 P) (N (o310 P) Z Z) Z) (N (o244 P) Z Z)))) (N (o22 P) (N (o38 P) (N (o72 P) (N (o138 P) (N (o268 P) Z Z) Z) (N (o202 P) (N (o334 P) Z Z) Z)) (N (o104 P) (N (o170 P) (N (o302 P) Z Z) Z) (N (o236 P) Z Z))) (N (o56 P) (N (o88 P) (N (o154 P) (N (o286 P) Z Z) Z) (N (o220 P) Z Z)) (N (o120 P) (N (o186 P) (N (o318 P) Z Z) Z) (N (o252 P) Z Z))))))))
noncomputable abbrev sC4 (w : World) (os : OsState) : SharedT := ⟨tC4 w.params, 340, lf, Array.mk [], (.mk 0 0 0 0), 674, os⟩
noncomputable abbrev qC4 : Pos := ⟨219,0,219,8⟩
noncomputable def o340 (P : Params) : Obj := (.mk (.type "dict") none (.dict #[(en P "__name__" 165 (.str "law_on0124_01" 776)),(en P "__doc__" 166 .none),(en P "__package__" 167 .none),(en P "__loader__" 168 (.builtin "__main__.__loader__#opaque")),(en P "__spec__" 169 .none),(en P "__annotations__" 170 (.ref 6)),(en P "__builtins__" 171 (.ref 4)),(en P "__file__" 173 (.str "/claim/cut.py" 172)),(en P "__cached__" 174 .none),(en P "_wall" 193 (.ref 21)),(en P "GateloomError" 231 (.ref 39)),(en P "SynthError" 247 (.ref 52)),(en P "Gates" 357 (.ref 127)),(en P "word_not" 363 (.ref 136)),(en P "all_of" 374 (.ref 143)),(en P "any_of" 382 (.ref 150)),(en P "Wires" 427 (.ref 174)),(en P "input_keys" 438 (.ref 185)),(en P "resting_bit" 447 (.ref 192)),(en P "several" 454 (.ref 199)),(en P "joined_net" 466 (.ref 206)),(en P "connect_wires" 479 (.ref 213)),(en P "net_kinds" 487 (.ref 220)),(en P "Signal" 572 (.ref 272)),(en P "Design" 671 (.ref 335)),(en P "Netlist" 775 (.ref 412))] 26) #[])
noncomputable def o341 (P : Params) : Obj := (.mk .none none (.fields #[(.int 1 0),(.int 0 0),(.ref 20),(.int 5 0),(.int 0 0),(.ref 27),(.int 11 0),(.int 0 0),(.ref 48),(.int 14 0),(.int 0 0),(.ref 60),(.int 61 0),(.int 0 0),(.ref 135),(.int 63 0),(.int 0 0),(.ref 142),(.int 73 0),(.int 0 0),(.ref 149),(.int 76 0),(.int 0 0),(.ref 156),(.int 90 0),(.int 0 0),(.ref 184),(.int 96 0),(.int 0 0),(.ref 191),(.int 102 0),(.int 0 0),(.ref 198),(.int 104 0),(.int 0 0),(.ref 205),(.int 124 0),(.int 0 0),(.ref 212),(.int 135 0),(.int 0 0),(.ref 219),(.int 137 0),(.int 0 0),(.ref 226),(.int 183 0),(.int 0 0),(.ref 282),(.int 220 0),(.int 0 0),(.ref 345)]) #[])
noncomputable def o342 (P : Params) : Obj := (.mk (.type "tuple") none (.seq #[] 0) #[])
noncomputable def o343 (P : Params) : Obj := (.mk (.type "builtin_function_or_method") none (.fields #[(.builtin "type.__prepare__"),(.type "type")]) #[])
noncomputable def o344 (P : Params) : Obj := (.mk (.type "dict") none (.dict #[(en P "__module__" 681 (.str "gateloom.netlist" 672)),(en P "__qualname__" 683 (.str "Netlist" 682)),(en P "__firstlineno__" 685 (.int 220 684)),(en P "__init__" 693 (.ref 353)),(en P "new_net" 701 (.ref 360)),(en P "new_nets" 707 (.ref 365)),(en P "add_input" 717 (.ref 372)),(en P "add_output" 726 (.ref 379)),(en P "add_cell" 737 (.ref 387)),(en P "drive" 748 (.ref 395)),(en P "sources" 755 (.ref 402)),(en P "sinks" 762 (.ref 409)),(en P "__static_attributes__" 768 (.ref 410))] 13) #[])
noncomputable def o345 (P : Params) : Obj := (.mk (.type "tuple") none (.seq #[] 0) #[])
noncomputable def o346 (P : Params) : Obj := (.mk .none none (.fields #[(.int 222 0),(.int 4 0),(.ref 352),(.int 229 0),(.int 4 0),(.ref 359),(.int 234 0),(.int 4 0),(.ref 364),(.int 237 0),(.int 4 0),(.ref 371),(.int 242 0),(.int 4 0),(.ref 378),(.int 245 0),(.int 4 0),(.ref 386),(.int 250 0),(.int 4 0),(.ref 394),(.int 253 0),(.int 4 0),(.ref 401),(.int 256 0),(.int 4 0),(.ref 408)]) #[])
noncomputable def o347 (P : Params) : Obj := (.mk (.type "code") none (.fields #[(.str "Netlist" 676),(.str "Netlist" 677),(.str "/claim/cut.py" 678),(.int 220 0),(.int 0 0),(.int 0 0),(.int 0 0),(.int 0 0),(.ref 343),(.bool false),(.int 181 0),(.ref 344),.none,.none,.none,.none,(.int 679 0),(.int 220 0),(.str "/claim/cut.py" 680)]) #[])
noncomputable def o348 (P : Params) : Obj := (.mk (.type "frame") none .plain #[(some (.ref 345)),(some (.ref 3)),(some (.ref 342)),none,(some (.str "gateloom.netlist" 672)),none,(some (.ref 0))])
noncomputable def o349 (P : Params) : Obj := (.mk (.type "tuple") none (.seq #[] 0) #[])
noncomputable def o350 (P : Params) : Obj := (.mk .none none (.fields #[]) #[])
noncomputable def o351 (P : Params) : Obj := (.mk (.type "tuple") none (.seq #[(.str "self" 689),(.str "name" 690)] 0) #[])
noncomputable def o352 (P : Params) : Obj := (.mk (.type "tuple") none (.seq #[] 0) #[])
noncomputable def o353 (P : Params) : Obj := (.mk .none none (.func (.mk "__init__" "Netlist.__init__" (ma 21 0) (.stmts (mb 21 0)) (ms 21 0) 0 [] .none .none .none .none none .none .none 0)) #[])
noncomputable def o354 (P : Params) : Obj := (.mk (.type "code") none (.fields #[(.str "__init__" 686),(.str "Netlist.__init__" 687),(.str "/claim/cut.py" 688),(.int 222 0),(.int 2 0),(.int 0 0),(.int 0 0),(.int 3 0),(.ref 347),(.bool true),(.int 181 0),(.ref 348),.none,(.ref 349),(.ref 350),(.ref 351),(.int 691 0),(.int 222 0),(.str "/claim/cut.py" 692)]) #[])
noncomputable def o355 (P : Params) : Obj := (.mk (.type "function") none (.func (.mk "__init__" "Netlist.__init__" (ma 21 0) (.stmts (mb 21 0)) (ms 21 0) 3 [] .none .none .none (.str "gateloom.netlist" 672) none (.ref 352) .none 0)) #[])
noncomputable def o356 (P : Params) : Obj := (.mk (.type "tuple") none (.seq #[] 0) #[])
noncomputable def o357 (P : Params) : Obj := (.mk .none none (.fields #[]) #[])
noncomputable def o358 (P : Params) : Obj := (.mk (.type "tuple") none (.seq #[(.str "self" 697),(.str "net" 698)] 0) #[])
noncomputable def o359 (P : Params) : Obj := (.mk (.type "tuple") none (.seq #[] 0) #[])
noncomputable def o360 (P : Params) : Obj := (.mk .none none (.func (.mk "new_net" "Netlist.new_net" (ma 21 1) (.stmts (mb 21 1)) (ms 21 1) 0 [] .none .none .none .none none .none .none 0)) #[])
noncomputable def o361 (P : Params) : Obj := (.mk (.type "code") none (.fields #[(.str "new_net" 694),(.str "Netlist.new_net" 695),(.str "/claim/cut.py" 696),(.int 229 0),(.int 1 0),(.int 0 0),(.int 0 0),(.int 3 0),(.ref 354),(.bool true),(.int 181 0),(.ref 355),.none,(.ref 356),(.ref 357),(.ref 358),(.int 699 0),(.int 229 0),(.str "/claim/cut.py" 700)]) #[])
noncomputable def o362 (P : Params) : Obj := (.mk (.type "function") none (.func (.mk "new_net" "Netlist.new_net" (ma 21 1) (.stmts (mb 21 1)) (ms 21 1) 3 [] .none .none .none (.str "gateloom.netlist" 672) none (.ref 359) .none 0)) #[])
noncomputable def o363 (P : Params) : Obj := (.mk (.type "tuple") none (.seq #[] 0) #[])
noncomputable def o364 (P : Params) : Obj := (.mk .none none (.fields #[]) #[])
noncomputable def o365 (P : Params) : Obj := (.mk .none none (.func (.mk "new_nets" "Netlist.new_nets" (ma 21 2) (.stmts (mb 21 2)) (ms 21 2) 0 [] .none .none .none .none none .none .none 0)) #[])
noncomputable def o366 (P : Params) : Obj := (.mk (.type "code") none (.fields #[(.str "new_nets" 702),(.str "Netlist.new_nets" 703),(.str "/claim/cut.py" 704),(.int 234 0),(.int 2 0),(.int 0 0),(.int 0 0),(.int 3 0),(.ref 361),(.bool true),(.int 181 0),(.ref 362),.none,.none,.none,(.ref 363),(.int 705 0),(.int 234 0),(.str "/claim/cut.py" 706)]) #[])
noncomputable def o367 (P : Params) : Obj := (.mk (.type "function") none (.func (.mk "new_nets" "Netlist.new_nets" (ma 21 2) (.stmts (mb 21 2)) (ms 21 2) 3 [] .none .none .none (.str "gateloom.netlist" 672) none (.ref 364) .none 0)) #[])
noncomputable def o368 (P : Params) : Obj := (.mk (.type "tuple") none (.seq #[] 0) #[])
noncomputable def o369 (P : Params) : Obj := (.mk .none none (.fields #[]) #[])
noncomputable def o370 (P : Params) : Obj := (.mk (.type "tuple") none (.seq #[(.str "self" 711),(.str "name" 712),(.str "width" 713),(.str "nets" 714)] 0) #[])
noncomputable def o371 (P : Params) : Obj := (.mk (.type "tuple") none (.seq #[] 0) #[])
noncomputable def o372 (P : Params) : Obj := (.mk .none none (.func (.mk "add_input" "Netlist.add_input" (ma 21 3) (.stmts (mb 21 3)) (ms 21 3) 0 [] .none .none .none .none none .none .none 0)) #[])
noncomputable def o373 (P : Params) : Obj := (.mk (.type "code") none (.fields #[(.str "add_input" 708),(.str "Netlist.add_input" 709),(.str "/claim/cut.py" 710),(.int 237 0),(.int 3 0),(.int 0 0),(.int 0 0),(.int 3 0),(.ref 366),(.bool true),(.int 181 0),(.ref 367),.none,(.ref 368),(.ref 369),(.ref 370),(.int 715 0),(.int 237 0),(.str "/claim/cut.py" 716)]) #[])
noncomputable def o374 (P : Params) : Obj := (.mk (.type "function") none (.func (.mk "add_input" "Netlist.add_input" (ma 21 3) (.stmts (mb 21 3)) (ms 21 3) 3 [] .none .none .none (.str "gateloom.netlist" 672) none (.ref 371) .none 0)) #[])
noncomputable def o375 (P : Params) : Obj := (.mk (.type "tuple") none (.seq #[] 0) #[])
noncomputable def o376 (P : Params) : Obj := (.mk .none none (.fields #[]) #[])
noncomputable def o377 (P : Params) : Obj := (.mk (.type "tuple") none (.seq #[(.str "self" 721),(.str "name" 722),(.str "nets" 723)] 0) #[])
noncomputable def o378 (P : Params) : Obj := (.mk (.type "tuple") none (.seq #[] 0) #[])
noncomputable def o379 (P : Params) : Obj := (.mk .none none (.func (.mk "add_output" "Netlist.add_output" (ma 21 4) (.stmts (mb 21 4)) (ms 21 4) 0 [] .none .none .none .none none .none .none 0)) #[])
noncomputable def o380 (P : Params) : Obj := (.mk (.type "code") none (.fields #[(.str "add_output" 718),(.str "Netlist.add_output" 719),(.str "/claim/cut.py" 720),(.int 242 0),(.int 3 0),(.int 0 0),(.int 0 0),(.int 3 0),(.ref 373),(.bool true),(.int 181 0),(.ref 374),.none,(.ref 375),(.ref 376),(.ref 377),(.int 724 0),(.int 242 0),(.str "/claim/cut.py" 725)]) #[])
noncomputable def o381 (P : Params) : Obj := (.mk (.type "function") none (.func (.mk "add_output" "Netlist.add_output" (ma 21 4) (.stmts (mb 21 4)) (ms 21 4) 3 [] .none .none .none (.str "gateloom.netlist" 672) none (.ref 378) .none 0)) #[])
noncomputable def o382 (P : Params) : Obj := (.mk (.type "tuple") none (.seq #[.none] 0) #[])
noncomputable def o383 (P : Params) : Obj := (.mk (.type "tuple") none (.seq #[] 0) #[])
noncomputable def o384 (P : Params) : Obj := (.mk .none none (.fields #[]) #[])
noncomputable def o385 (P : Params) : Obj := (.mk (.type "tuple") none (.seq #[(.str "self" 730),(.str "kind" 731),(.str "ins" 732),(.str "param" 733),(.str "out" 734)] 0) #[])
noncomputable def o386 (P : Params) : Obj := (.mk (.type "tuple") none (.seq #[] 0) #[])
noncomputable def o387 (P : Params) : Obj := (.mk .none none (.func (.mk "add_cell" "Netlist.add_cell" (ma 21 5) (.stmts (mb 21 5)) (ms 21 5) 0 [] .none .none .none .none none .none .none 0)) #[])
noncomputable def o388 (P : Params) : Obj := (.mk (.type "code") none (.fields #[(.str "add_cell" 727),(.str "Netlist.add_cell" 728),(.str "/claim/cut.py" 729),(.int 245 0),(.int 4 0),(.int 0 0),(.int 0 0),(.int 3 0),(.ref 381),(.bool true),(.int 181 0),(.ref 382),.none,(.ref 383),(.ref 384),(.ref 385),(.int 735 0),(.int 245 0),(.str "/claim/cut.py" 736)]) #[])
noncomputable def o389 (P : Params) : Obj := (.mk (.type "function") none (.func (.mk "add_cell" "Netlist.add_cell" (ma 21 5) (.stmts (mb 21 5)) (ms 21 5) 3 [] (.ref 380) .none .none (.str "gateloom.netlist" 672) none (.ref 386) .none 0)) #[])
noncomputable def o390 (P : Params) : Obj := (.mk (.type "tuple") none (.seq #[.none] 0) #[])
noncomputable def o391 (P : Params) : Obj := (.mk (.type "tuple") none (.seq #[] 0) #[])
noncomputable def o392 (P : Params) : Obj := (.mk .none none (.fields #[]) #[])
noncomputable def o393 (P : Params) : Obj := (.mk (.type "tuple") none (.seq #[(.str "self" 741),(.str "out" 742),(.str "kind" 743),(.str "ins" 744),(.str "param" 745)] 0) #[])
noncomputable def o394 (P : Params) : Obj := (.mk (.type "tuple") none (.seq #[] 0) #[])
noncomputable def o395 (P : Params) : Obj := (.mk .none none (.func (.mk "drive" "Netlist.drive" (ma 21 6) (.stmts (mb 21 6)) (ms 21 6) 0 [] .none .none .none .none none .none .none 0)) #[])
noncomputable def o396 (P : Params) : Obj := (.mk (.type "code") none (.fields #[(.str "drive" 738),(.str "Netlist.drive" 739),(.str "/claim/cut.py" 740),(.int 250 0),(.int 5 0),(.int 0 0),(.int 0 0),(.int 3 0),(.ref 389),(.bool true),(.int 181 0),(.ref 390),.none,(.ref 391),(.ref 392),(.ref 393),(.int 746 0),(.int 250 0),(.str "/claim/cut.py" 747)]) #[])
noncomputable def o397 (P : Params) : Obj := (.mk (.type "function") none (.func (.mk "drive" "Netlist.drive" (ma 21 6) (.stmts (mb 21 6)) (ms 21 6) 3 [] (.ref 388) .none .none (.str "gateloom.netlist" 672) none (.ref 394) .none 0)) #[])
noncomputable def o398 (P : Params) : Obj := (.mk (.type "tuple") none (.seq #[] 0) #[])
noncomputable def o399 (P : Params) : Obj := (.mk .none none (.fields #[]) #[])
noncomputable def o400 (P : Params) : Obj := (.mk (.type "tuple") none (.seq #[(.str "self" 752)] 0) #[])
noncomputable def o401 (P : Params) : Obj := (.mk (.type "tuple") none (.seq #[] 0) #[])
noncomputable def o402 (P : Params) : Obj := (.mk .none none (.func (.mk "sources" "Netlist.sources" (ma 21 7) (.stmts (mb 21 7)) (ms 21 8) 0 [] .none .none .none .none none .none .none 0)) #[])
noncomputable def o403 (P : Params) : Obj := (.mk (.type "code") none (.fields #[(.str "sources" 749),(.str "Netlist.sources" 750),(.str "/claim/cut.py" 751),(.int 253 0),(.int 1 0),(.int 0 0),(.int 0 0),(.int 3 0),(.ref 396),(.bool true),(.int 181 0),(.ref 397),.none,(.ref 398),(.ref 399),(.ref 400),(.int 753 0),(.int 253 0),(.str "/claim/cut.py" 754)]) #[])
noncomputable def o404 (P : Params) : Obj := (.mk (.type "function") none (.func (.mk "sources" "Netlist.sources" (ma 21 7) (.stmts (mb 21 7)) (ms 21 8) 3 [] .none .none .none (.str "gateloom.netlist" 672) none (.ref 401) .none 0)) #[])
noncomputable def o405 (P : Params) : Obj := (.mk (.type "tuple") none (.seq #[] 0) #[])
noncomputable def o406 (P : Params) : Obj := (.mk .none none (.fields #[]) #[])
noncomputable def o407 (P : Params) : Obj := (.mk (.type "tuple") none (.seq #[(.str "self" 759)] 0) #[])
noncomputable def o408 (P : Params) : Obj := (.mk (.type "tuple") none (.seq #[] 0) #[])
noncomputable def o409 (P : Params) : Obj := (.mk .none none (.func (.mk "sinks" "Netlist.sinks" (ma 21 8) (.stmts (mb 21 8)) (ms 21 8) 0 [] .none .none .none .none none .none .none 0)) #[])
noncomputable def o410 (P : Params) : Obj := (.mk (.type "code") none (.fields #[(.str "sinks" 756),(.str "Netlist.sinks" 757),(.str "/claim/cut.py" 758),(.int 256 0),(.int 1 0),(.int 0 0),(.int 0 0),(.int 3 0),(.ref 403),(.bool true),(.int 181 0),(.ref 404),.none,(.ref 405),(.ref 406),(.ref 407),(.int 760 0),(.int 256 0),(.str "/claim/cut.py" 761)]) #[])
noncomputable def o411 (P : Params) : Obj := (.mk (.type "function") none (.func (.mk "sinks" "Netlist.sinks" (ma 21 8) (.stmts (mb 21 8)) (ms 21 8) 3 [] .none .none .none (.str "gateloom.netlist" 672) none (.ref 408) .none 0)) #[])
noncomputable def o412 (P : Params) : Obj := (.mk (.type "tuple") none (.seq #[(.str "cells" 763),(.str "count" 764),(.str "inputs" 765),(.str "name" 766),(.str "outputs" 767)] 0) #[])
noncomputable def o413 (P : Params) : Obj := (.mk (.type "dict") none (.dict #[(en P "__module__" 681 (.str "gateloom.netlist" 672)),(en P "__firstlineno__" 685 (.int 220 684)),(en P "__init__" 693 (.ref 353)),(en P "new_net" 701 (.ref 360)),(en P "new_nets" 707 (.ref 365)),(en P "add_input" 717 (.ref 372)),(en P "add_output" 726 (.ref 379)),(en P "add_cell" 737 (.ref 387)),(en P "drive" 748 (.ref 395)),(en P "sources" 755 (.ref 402)),(en P "sinks" 762 (.ref 409)),(en P "__static_attributes__" 768 (.ref 410)),(en P "__dict__" 770 (.ref 413)),(en P "__weakref__" 772 (.ref 414)),(en P "__doc__" 773 .none)] 4) #[])
noncomputable def o414 (P : Params) : Obj := (.mk (.type "type") none (.cls (.mk "Netlist" [(.type "object")] [(.ref 412),(.type "object")] 411 "Netlist" true [] [] false none false)) #[none,none,(some (.str "Netlist" 674)),(some (.str "Netlist" 682)),(some (.builtin "object.__new__")),(some (.bool true))])
noncomputable def o415 (P : Params) : Obj := (.mk (.type "getset_descriptor") none (.fields #[(.str "__dict__" 769),(.ref 412),(.builtin "function.__dict__"),(.builtin "function.__dict__#set")]) #[])
noncomputable def o416 (P : Params) : Obj := (.mk (.type "getset_descriptor") none (.fields #[(.str "__weakref__" 771),(.ref 412),(.builtin "ExceptionGroup.__weakref__"),.none]) #[])
noncomputable def o417 (P : Params) : Obj := (.mk (.type "super") none (.fields #[(.ref 412),(.ref 412),(.ref 412)]) #[])
noncomputable def o418 (P : Params) : Obj := (.mk (.type "builtin_function_or_method") none (.fields #[(.builtin "object.__init_subclass__"),(.ref 412)]) #[])
noncomputable def tC5 (P : Params) : BT := (N (boot_o_0 P) (N (boot_o_1 P) (N (o340 P) (N (boot_o_7 P) (N (o7 P) (N (o23 P) (N (o57 P) (N (o121 P) (N (o253 P) Z Z) (N (o385 P) Z Z)) (N (o187 P) (N (o319 P) Z Z) Z)) (N (o89 P) (N (o155 P) (N (o287 P) Z Z) (N (o417 P) Z Z)) (N (o221 P) (N (o353 P) Z Z) Z))) (N (o39 P) (N (o73 P) (N (o139 P) (N (o269 P) Z Z) (N (o401 P) Z Z)) (N (o203 P) (N (o335 P) Z Z) Z)) (N (o105 P) (N (o171 P) (N (o303 P) Z Z) Z) (N (o237 P) (N (o369 P) Z Z) Z)))) (N (o15 P) (N (o31 P) (N (o65 P) (N (o129 P) (N (o261 P) Z Z) (N (o393 P) Z Z)) (N (o195 P) (N (o327 P) Z Z) Z)) (N (o97 P) (N (o163 P) (N (o295 P) Z Z) Z) (N (o229 P) (N (o361 P) Z Z) Z))) (N (o49 P) (N (o81 P) (N (o147 P) (N (o279 P) Z Z) (N (o409 P) Z Z)) (N (o213 P) (N (o345 P) Z Z) Z)) (N (o113 P) (N (o179 P) (N (o311 P) Z Z) Z) (N (o245 P) (N (o377 P) Z Z) Z))))) (N (o0 P) (N (o11 P) (N (o27 P) (N (o61 P) (N (o125 P) (N (o257 P) Z Z) (N (o389 P) Z Z)) (N (o191 P) (N (o323 P) Z Z) Z)) (N (o93 P) (N (o159 P) (N (o291 P) Z Z) Z) (N (o225 P) (N (o357 P) Z Z) Z))) (N (o43 P) (N (o77 P) (N (o143 P) (N (o273 P) Z Z) (N (o405 P) Z Z)) (N (o207 P) (N (o339 P) Z Z) Z)) (N (o109 P) (N (o175 P) (N (o307 P) Z Z) Z) (N (o241 P) (N (o373 P) Z Z) Z)))) (N (o19 P) (N (o35 P) (N (o69 P) (N (o135 P) (N (o265 P) Z Z) (N (o397 P) Z Z)) (N (o199 P) (N (o331 P) Z Z) Z)) (N (o101 P) (N (o167 P) (N (o299 P) Z Z) Z) (N (o233 P) (N (o365 P) Z Z) Z))) (N (o53 P) (N (o85 P) (N (o151 P) (N (o283 P) Z Z) (N (o413 P) Z Z)) (N (o217 P) (N (o349 P) Z Z) Z)) (N (o117 P) (N (o183 P) (N (o315 P) Z Z) Z) (N (o249 P) (N (o381 P) Z Z) Z)))))) (N (boot_o_5 P) (N (boot_o_9 P) (N (o9 P) (N (o25 P) (N (o59 P) (N (o123 P) (N (o255 P) Z Z) (N (o387 P) Z Z)) (N (o189 P) (N (o321 P) Z Z) Z)) (N (o91 P) (N (o157 P) (N (o289 P) Z Z) Z) (N (o223 P) (N (o355 P) Z Z) Z))) (N (o41 P) (N (o75 P) (N (o141 P) (N (o271 P) Z Z) (N (o403 P) Z Z)) (N (o205 P) (N (o337 P) Z Z) Z)) (N (o107 P) (N (o173 P) (N (o305 P) Z Z) Z) (N (o239 P) (N (o371 P) Z Z) Z)))) (N (o17 P) (N (o33 P) (N (o67 P) (N (o133 P) (N (o263 P) Z Z) (N (o395 P) Z Z)) (N (o197 P) (N (o329 P) Z Z) Z)) (N (o99 P) (N (o165 P) (N (o297 P) Z Z) Z) (N (o231 P) (N (o363 P) Z Z) Z))) (N (o51 P) (N (o83 P) (N (o149 P) (N (o281 P) Z Z) (N (o411 P) Z Z)) (N (o215 P) (N (o347 P) Z Z) Z)) (N (o115 P) (N (o181 P) (N (o313 P) Z Z) Z) (N (o247 P) (N (o379 P) Z Z) Z))))) (N (o2 P) (N (o13 P) (N (o29 P) (N (o63 P) (N (o127 P) (N (o259 P) Z Z) (N (o391 P) Z Z)) (N (o193 P) (N (o325 P) Z Z) Z)) (N (o95 P) (N (o161 P) (N (o293 P) Z Z) Z) (N (o227 P) (N (o359 P) Z Z) Z))) (N (o45 P) (N (o79 P) (N (o145 P) (N (o277 P) Z Z) (N (o407 P) Z Z)) (N (o209 P) (N (o343 P) Z Z) Z)) (N (o111 P) (N (o177 P) (N (o309 P) Z Z) Z) (N (o243 P) (N (o375 P) Z Z) Z)))) (N (o21 P) (N (o37 P) (N (o71 P) (N (o137 P) (N (o267 P) Z Z) (N (o399 P) Z Z)) (N (o201 P) (N (o333 P) Z Z) Z)) (N (o103 P) (N (o169 P) (N (o301 P) Z Z) Z) (N (o235 P) (N (o367 P) Z Z) Z))) (N (o55 P) (N (o87 P) (N (o153 P) (N (o285 P) Z Z) (N (o415 P) Z Z)) (N (o219 P) (N (o351 P) Z Z) Z)) (N (o119 P) (N (o185 P) (N (o317 P) Z Z) Z) (N (o251 P) (N (o383 P) Z Z) Z))))))) (N (o4 P) (N (boot_o_4 P) (N (boot_o_8 P) (N (o8 P) (N (o24 P) (N (o58 P) (N (o122 P) (N (o254 P) Z Z) (N (o386 P) Z Z)) (N (o188 P) (N (o320 P) Z Z) Z)) (N (o90 P) (N (o156 P) (N (o288 P) Z Z) (N (o418 P) Z Z)) (N (o222 P) (N (o354 P) Z Z) Z))) (N (o40 P) (N (o74 P) (N (o140 P) (N (o270 P) Z Z) (N (o402 P) Z Z)) (N (o204 P) (N (o336 P) Z Z) Z)) (N (o106 P) (N (o172 P) (N (o304 P) Z Z) Z) (N (o238 P) (N (o370 P) Z Z) Z)))) (N (o16 P) (N (o32 P) (N (o66 P) (N (o130 P) (N (o262 P) Z Z) (N (o394 P) Z Z)) (N (o196 P) (N (o328 P) Z Z) Z)) (N (o98 P) (N (o164 P) (N (o296 P) Z Z) Z) (N (o230 P) (N (o362 P) Z Z) Z))) (N (o50 P) (N (o82 P) (N (o148 P) (N (o280 P) Z Z) (N (o410 P) Z Z)) (N (o214 P) (N (o346 P) Z Z) Z)) (N (o114 P) (N (o180 P) (N (o312 P) Z Z) Z) (N (o246 P) (N (o378 P) Z Z) Z))))) (N (o341 P) (N (o12 P) (N (o28 P) (N (o62 P) (N (o126 P) (N (o258 P) Z Z) (N (o390 P) Z Z)) (N (o192 P) (N (o324 P) Z Z) Z)) (N (o94 P) (N (o160 P) (N (o292 P) Z Z) Z) (N (o226 P) (N (o358 P) Z Z) Z))) (N (o44 P) (N (o78 P) (N (o144 P) (N (o274 P) Z Z) (N (o406 P) Z Z)) (N (o208 P) (N (o342 P) Z Z) Z)) (N (o110 P) (N (o176 P) (N (o308 P) Z Z) Z) (N (o242 P) (N (o374 P) Z Z) Z)))) (N (o20 P) (N (o36 P) (N (o70 P) (N (o136 P) (N (o266 P) Z Z) (N (o398 P) Z Z)) (N (o200 P) (N (o332 P) Z Z) Z)) (N (o102 P) (N (o168 P) (N (o300 P) Z Z) Z) (N (o234 P) (N (o366 P) Z Z) Z))) (N (o54 P) (N (o86 P) (N (o152 P) (N (o284 P) Z Z) (N (o414 P) Z Z)) (N (o218 P) (N (o350 P) Z Z) Z)) (N (o118 P) (N (o184 P) (N (o316 P) Z Z) Z) (N (o250 P) (N (o382 P) Z Z) Z)))))) (N (boot_o_6 P) (N (boot_o_10 P) (N (o10 P) (N (o26 P) (N (o60 P) (N (o124 P) (N (o256 P) Z Z) (N (o388 P) Z Z)) (N (o190 P) (N (o322 P) Z Z) Z)) (N (o92 P) (N (o158 P) (N (o290 P) Z Z) Z) (N (o224 P) (N (o356 P) Z Z) Z))) (N (o42 P) (N (o76 P) (N (o142 P) (N (o272 P) Z Z) (N (o404 P) Z Z)) (N (o206 P) (N (o338 P) Z Z) Z)) (N (o108 P) (N (o174 P) (N (o306 P) Z Z) Z) (N (o240 P) (N (o372 P) Z Z) Z)))) (N (o18 P) (N (o34 P) (N (o68 P) (N (o134 P) (N (o264 P) Z Z) (N (o396 P) Z Z)) (N (o198 P) (N (o330 P) Z Z) Z)) (N (o100 P) (N (o166 P) (N (o298 P) Z Z) Z) (N (o232 P) (N (o364 P) Z Z) Z))) (N (o52 P) (N (o84 P) (N (o150 P) (N (o282 P) Z Z) (N (o412 P) Z Z)) (N (o216 P) (N (o348 P) Z Z) Z)) (N (o116 P) (N (o182 P) (N (o314 P) Z Z) Z) (N (o248 P) (N (o380 P) Z Z) Z))))) (N (o3 P) (N (o14 P) (N (o30 P) (N (o64 P) (N (o128 P) (N (o260 P) Z Z) (N (o392 P) Z Z)) (N (o194 P) (N (o326 P) Z Z) Z)) (N (o96 P) (N (o162 P) (N (o294 P) Z Z) Z) (N (o228 P) (N (o360 P) Z Z) Z))) (N (o46 P) (N (o80 P) (N (o146 P) (N (o278 P) Z Z) (N (o408 P) Z Z)) (N (o212 P) (N (o344 P) Z Z) Z)) (N (o112 P) (N (o178 P) (N (o310 P) Z Z) Z) (N (o244 P) (N (o376 P) Z Z) Z)))) (N (o22 P) (N (o38 P) (N (o72 P) (N (o138 P) (N (o268 P) Z Z) (N (o400 P) Z Z)) (N (o202 P) (N (o334 P) Z Z) Z)) (N (o104 P) (N (o170 P) (N (o302 P) Z Z) Z) (N (o236 P) (N (o368 P) Z Z) Z))) (N (o56 P) (N (o88 P) (N (o154 P) (N (o286 P) Z Z) (N (o416 P) Z Z)) (N (o220 P) (N (o352 P) Z Z) Z)) (N (o120 P) (N (o186 P) (N (o318 P) Z Z) Z) (N (o252 P) (N (o384 P) Z Z) Z))))))))
noncomputable abbrev sC5 (w : World) (os : OsState) : SharedT := ⟨tC5 w.params, 417, lf, Array.mk [], (.mk 0 0 0 0), 778, os⟩
noncomputable abbrev qC5 : Pos := ⟨258,0,258,8⟩
noncomputable def o419 (P : Params) : Obj := (.mk (.type "dict") none (.dict #[(en P "__name__" 165 (.str "law_on0124_01" 776)),(en P "__doc__" 166 .none),(en P "__package__" 167 .none),(en P "__loader__" 168 (.builtin "__main__.__loader__#opaque")),(en P "__spec__" 169 .none),(en P "__annotations__" 170 (.ref 6)),(en P "__builtins__" 171 (.ref 4)),(en P "__file__" 173 (.str "/claim/cut.py" 172)),(en P "__cached__" 174 .none),(en P "_wall" 193 (.ref 21)),(en P "GateloomError" 231 (.ref 39)),(en P "SynthError" 247 (.ref 52)),(en P "Gates" 357 (.ref 127)),(en P "word_not" 363 (.ref 136)),(en P "all_of" 374 (.ref 143)),(en P "any_of" 382 (.ref 150)),(en P "Wires" 427 (.ref 174)),(en P "input_keys" 438 (.ref 185)),(en P "resting_bit" 447 (.ref 192)),(en P "several" 454 (.ref 199)),(en P "joined_net" 466 (.ref 206)),(en P "connect_wires" 479 (.ref 213)),(en P "net_kinds" 487 (.ref 220)),(en P "Signal" 572 (.ref 272)),(en P "Design" 671 (.ref 335)),(en P "Netlist" 775 (.ref 412)),(en P "_law_chain" 787 (.ref 423)),(en P "_law_link" 796 (.ref 430)),(en P "_law_values" 802 (.ref 435)),(en P "_law_world" 808 (.ref 440)),(en P "_law_due" 814 (.ref 445)),(en P "_law_spots" 824 (.ref 452)),(en P "_law_joined" 841 (.ref 459)),(en P "law" 847 (.ref 464))] 34) #[])
noncomputable def o420 (P : Params) : Obj := (.mk .none none (.fields #[(.int 1 0),(.int 0 0),(.ref 20),(.int 5 0),(.int 0 0),(.ref 27),(.int 11 0),(.int 0 0),(.ref 48),(.int 14 0),(.int 0 0),(.ref 60),(.int 61 0),(.int 0 0),(.ref 135),(.int 63 0),(.int 0 0),(.ref 142),(.int 73 0),(.int 0 0),(.ref 149),(.int 76 0),(.int 0 0),(.ref 156),(.int 90 0),(.int 0 0),(.ref 184),(.int 96 0),(.int 0 0),(.ref 191),(.int 102 0),(.int 0 0),(.ref 198),(.int 104 0),(.int 0 0),(.ref 205),(.int 124 0),(.int 0 0),(.ref 212),(.int 135 0),(.int 0 0),(.ref 219),(.int 137 0),(.int 0 0),(.ref 226),(.int 183 0),(.int 0 0),(.ref 282),(.int 220 0),(.int 0 0),(.ref 345),(.int 259 0),(.int 0 0),(.ref 422),(.int 269 0),(.int 0 0),(.ref 429),(.int 273 0),(.int 0 0),(.ref 434),(.int 289 0),(.int 0 0),(.ref 439),(.int 316 0),(.int 0 0),(.ref 444),(.int 331 0),(.int 0 0),(.ref 451),(.int 337 0),(.int 0 0),(.ref 458),(.int 354 0),(.int 0 0),(.ref 463)]) #[])
noncomputable def o421 (P : Params) : Obj := (.mk (.type "tuple") none (.seq #[] 0) #[])
noncomputable def o422 (P : Params) : Obj := (.mk .none none (.fields #[]) #[])
noncomputable def o423 (P : Params) : Obj := (.mk (.type "tuple") none (.seq #[(.str "script" 781),(.str "chain" 782),(.str "cell" 783),(.str "rest" 784)] 0) #[])
noncomputable def o424 (P : Params) : Obj := (.mk (.type "tuple") none (.seq #[] 0) #[])
noncomputable def o425 (P : Params) : Obj := (.mk .none none (.func (.mk "_law_chain" "_law_chain" (fa 23) (.stmts (fb 23)) (fs 23) 0 [] .none .none .none .none none .none .none 0)) #[])
noncomputable def o426 (P : Params) : Obj := (.mk (.type "code") none (.fields #[(.str "_law_chain" 778),(.str "_law_chain" 779),(.str "/claim/cut.py" 780),(.int 259 0),(.int 1 0),(.int 0 0),(.int 0 0),(.int 3 0),(.ref 417),(.bool true),(.int 181 0),(.ref 418),.none,(.ref 419),(.ref 420),(.ref 421),(.int 785 0),(.int 259 0),(.str "/claim/cut.py" 786)]) #[])
noncomputable def o427 (P : Params) : Obj := (.mk (.type "function") none (.func (.mk "_law_chain" "_law_chain" (fa 23) (.stmts (fb 23)) (fs 23) 3 [] .none .none .none (.str "law_on0124_01" 776) none (.ref 422) .none 0)) #[])
noncomputable def o428 (P : Params) : Obj := (.mk (.type "tuple") none (.seq #[] 0) #[])
noncomputable def o429 (P : Params) : Obj := (.mk .none none (.fields #[]) #[])
noncomputable def o430 (P : Params) : Obj := (.mk (.type "tuple") none (.seq #[(.str "chain" 791),(.str "many" 792),(.str "spot" 793)] 0) #[])
noncomputable def o431 (P : Params) : Obj := (.mk (.type "tuple") none (.seq #[] 0) #[])
noncomputable def o432 (P : Params) : Obj := (.mk .none none (.func (.mk "_law_link" "_law_link" (fa 24) (.stmts (fb 24)) (fs 24) 0 [] .none .none .none .none none .none .none 0)) #[])
noncomputable def o433 (P : Params) : Obj := (.mk (.type "code") none (.fields #[(.str "_law_link" 788),(.str "_law_link" 789),(.str "/claim/cut.py" 790),(.int 269 0),(.int 2 0),(.int 0 0),(.int 0 0),(.int 3 0),(.ref 424),(.bool true),(.int 181 0),(.ref 425),.none,(.ref 426),(.ref 427),(.ref 428),(.int 794 0),(.int 269 0),(.str "/claim/cut.py" 795)]) #[])
noncomputable def o434 (P : Params) : Obj := (.mk (.type "function") none (.func (.mk "_law_link" "_law_link" (fa 24) (.stmts (fb 24)) (fs 24) 3 [] .none .none .none (.str "law_on0124_01" 776) none (.ref 429) .none 0)) #[])
noncomputable def o435 (P : Params) : Obj := (.mk (.type "tuple") none (.seq #[] 0) #[])
noncomputable def o436 (P : Params) : Obj := (.mk .none none (.fields #[]) #[])
noncomputable def o437 (P : Params) : Obj := (.mk .none none (.func (.mk "_law_values" "_law_values" (fa 25) (.stmts (fb 25)) (fs 25) 0 [] .none .none .none .none none .none .none 0)) #[])
noncomputable def o438 (P : Params) : Obj := (.mk (.type "code") none (.fields #[(.str "_law_values" 797),(.str "_law_values" 798),(.str "/claim/cut.py" 799),(.int 273 0),(.int 2 0),(.int 0 0),(.int 0 0),(.int 3 0),(.ref 431),(.bool true),(.int 181 0),(.ref 432),.none,.none,.none,(.ref 433),(.int 800 0),(.int 273 0),(.str "/claim/cut.py" 801)]) #[])
noncomputable def o439 (P : Params) : Obj := (.mk (.type "function") none (.func (.mk "_law_values" "_law_values" (fa 25) (.stmts (fb 25)) (fs 25) 3 [] .none .none .none (.str "law_on0124_01" 776) none (.ref 434) .none 0)) #[])
noncomputable def o440 (P : Params) : Obj := (.mk (.type "tuple") none (.seq #[] 0) #[])
noncomputable def o441 (P : Params) : Obj := (.mk .none none (.fields #[]) #[])
noncomputable def o442 (P : Params) : Obj := (.mk .none none (.func (.mk "_law_world" "_law_world" (fa 26) (.stmts (fb 26)) (fs 26) 0 [] .none .none .none .none none .none .none 0)) #[])
noncomputable def o443 (P : Params) : Obj := (.mk (.type "code") none (.fields #[(.str "_law_world" 803),(.str "_law_world" 804),(.str "/claim/cut.py" 805),(.int 289 0),(.int 1 0),(.int 0 0),(.int 0 0),(.int 3 0),(.ref 436),(.bool true),(.int 181 0),(.ref 437),.none,.none,.none,(.ref 438),(.int 806 0),(.int 289 0),(.str "/claim/cut.py" 807)]) #[])
noncomputable def o444 (P : Params) : Obj := (.mk (.type "function") none (.func (.mk "_law_world" "_law_world" (fa 26) (.stmts (fb 26)) (fs 26) 3 [] .none .none .none (.str "law_on0124_01" 776) none (.ref 439) .none 0)) #[])
noncomputable def o445 (P : Params) : Obj := (.mk (.type "tuple") none (.seq #[] 0) #[])
noncomputable def o446 (P : Params) : Obj := (.mk .none none (.fields #[]) #[])
noncomputable def o447 (P : Params) : Obj := (.mk .none none (.func (.mk "_law_due" "_law_due" (fa 27) (.stmts (fb 27)) (fs 27) 0 [] .none .none .none .none none .none .none 0)) #[])
noncomputable def o448 (P : Params) : Obj := (.mk (.type "code") none (.fields #[(.str "_law_due" 809),(.str "_law_due" 810),(.str "/claim/cut.py" 811),(.int 316 0),(.int 4 0),(.int 0 0),(.int 0 0),(.int 3 0),(.ref 441),(.bool true),(.int 181 0),(.ref 442),.none,.none,.none,(.ref 443),(.int 812 0),(.int 316 0),(.str "/claim/cut.py" 813)]) #[])
noncomputable def o449 (P : Params) : Obj := (.mk (.type "function") none (.func (.mk "_law_due" "_law_due" (fa 27) (.stmts (fb 27)) (fs 27) 3 [] .none .none .none (.str "law_on0124_01" 776) none (.ref 444) .none 0)) #[])
noncomputable def o450 (P : Params) : Obj := (.mk (.type "tuple") none (.seq #[] 0) #[])
noncomputable def o451 (P : Params) : Obj := (.mk .none none (.fields #[]) #[])
noncomputable def o452 (P : Params) : Obj := (.mk (.type "tuple") none (.seq #[(.str "design" 818),(.str "found" 819),(.str "made" 820),(.str "spot" 821)] 0) #[])
noncomputable def o453 (P : Params) : Obj := (.mk (.type "tuple") none (.seq #[] 0) #[])
noncomputable def o454 (P : Params) : Obj := (.mk .none none (.func (.mk "_law_spots" "_law_spots" (fa 28) (.stmts (fb 28)) (fs 28) 0 [] .none .none .none .none none .none .none 0)) #[])
noncomputable def o455 (P : Params) : Obj := (.mk (.type "code") none (.fields #[(.str "_law_spots" 815),(.str "_law_spots" 816),(.str "/claim/cut.py" 817),(.int 331 0),(.int 1 0),(.int 0 0),(.int 0 0),(.int 3 0),(.ref 446),(.bool true),(.int 181 0),(.ref 447),.none,(.ref 448),(.ref 449),(.ref 450),(.int 822 0),(.int 331 0),(.str "/claim/cut.py" 823)]) #[])
noncomputable def o456 (P : Params) : Obj := (.mk (.type "function") none (.func (.mk "_law_spots" "_law_spots" (fa 28) (.stmts (fb 28)) (fs 28) 3 [] .none .none .none (.str "law_on0124_01" 776) none (.ref 451) .none 0)) #[])
noncomputable def o457 (P : Params) : Obj := (.mk (.type "tuple") none (.seq #[] 0) #[])
noncomputable def o458 (P : Params) : Obj := (.mk .none none (.fields #[]) #[])
noncomputable def o459 (P : Params) : Obj := (.mk (.type "tuple") none (.seq #[(.str "design" 828),(.str "netlist" 829),(.str "wires" 830),(.str "g" 831),(.str "made" 832),(.str "spot" 833),(.str "refused" 834),(.str "net" 835),(.str "fault" 836),(.str "line" 837),(.str "held" 838)] 0) #[])
noncomputable def o460 (P : Params) : Obj := (.mk (.type "tuple") none (.seq #[] 0) #[])
noncomputable def o461 (P : Params) : Obj := (.mk .none none (.func (.mk "_law_joined" "_law_joined" (fa 29) (.stmts (fb 29)) (fs 29) 0 [] .none .none .none .none none .none .none 0)) #[])
noncomputable def o462 (P : Params) : Obj := (.mk (.type "code") none (.fields #[(.str "_law_joined" 825),(.str "_law_joined" 826),(.str "/claim/cut.py" 827),(.int 337 0),(.int 3 0),(.int 0 0),(.int 0 0),(.int 3 0),(.ref 453),(.bool true),(.int 181 0),(.ref 454),.none,(.ref 455),(.ref 456),(.ref 457),(.int 839 0),(.int 337 0),(.str "/claim/cut.py" 840)]) #[])
noncomputable def o463 (P : Params) : Obj := (.mk (.type "function") none (.func (.mk "_law_joined" "_law_joined" (fa 29) (.stmts (fb 29)) (fs 29) 3 [] .none .none .none (.str "law_on0124_01" 776) none (.ref 458) .none 0)) #[])
noncomputable def o464 (P : Params) : Obj := (.mk (.type "tuple") none (.seq #[] 0) #[])
noncomputable def o465 (P : Params) : Obj := (.mk .none none (.fields #[]) #[])
noncomputable def o466 (P : Params) : Obj := (.mk .none none (.func (.mk "law" "law" (fa 30) (.stmts (fb 30)) (fs 30) 0 [] .none .none .none .none none .none .none 0)) #[])
noncomputable def o467 (P : Params) : Obj := (.mk (.type "code") none (.fields #[(.str "law" 842),(.str "law" 843),(.str "/claim/cut.py" 844),(.int 354 0),(.int 1 0),(.int 0 0),(.int 0 0),(.int 3 0),(.ref 460),(.bool true),(.int 181 0),(.ref 461),.none,.none,.none,(.ref 462),(.int 845 0),(.int 354 0),(.str "/claim/cut.py" 846)]) #[])
noncomputable def o468 (P : Params) : Obj := (.mk (.type "function") none (.func (.mk "law" "law" (fa 30) (.stmts (fb 30)) (fs 30) 3 [] .none .none .none (.str "law_on0124_01" 776) none (.ref 463) .none 0)) #[])
noncomputable def tC6 (P : Params) : BT := (N (boot_o_0 P) (N (boot_o_1 P) (N (o419 P) (N (boot_o_7 P) (N (o7 P) (N (o23 P) (N (o57 P) (N (o121 P) (N (o253 P) Z Z) (N (o385 P) Z Z)) (N (o187 P) (N (o319 P) Z Z) (N (o451 P) Z Z))) (N (o89 P) (N (o155 P) (N (o287 P) Z Z) (N (o417 P) Z Z)) (N (o221 P) (N (o353 P) Z Z) Z))) (N (o39 P) (N (o73 P) (N (o139 P) (N (o269 P) Z Z) (N (o401 P) Z Z)) (N (o203 P) (N (o335 P) Z Z) (N (o467 P) Z Z))) (N (o105 P) (N (o171 P) (N (o303 P) Z Z) (N (o435 P) Z Z)) (N (o237 P) (N (o369 P) Z Z) Z)))) (N (o15 P) (N (o31 P) (N (o65 P) (N (o129 P) (N (o261 P) Z Z) (N (o393 P) Z Z)) (N (o195 P) (N (o327 P) Z Z) (N (o459 P) Z Z))) (N (o97 P) (N (o163 P) (N (o295 P) Z Z) (N (o427 P) Z Z)) (N (o229 P) (N (o361 P) Z Z) Z))) (N (o49 P) (N (o81 P) (N (o147 P) (N (o279 P) Z Z) (N (o409 P) Z Z)) (N (o213 P) (N (o345 P) Z Z) Z)) (N (o113 P) (N (o179 P) (N (o311 P) Z Z) (N (o443 P) Z Z)) (N (o245 P) (N (o377 P) Z Z) Z))))) (N (o0 P) (N (o11 P) (N (o27 P) (N (o61 P) (N (o125 P) (N (o257 P) Z Z) (N (o389 P) Z Z)) (N (o191 P) (N (o323 P) Z Z) (N (o455 P) Z Z))) (N (o93 P) (N (o159 P) (N (o291 P) Z Z) (N (o423 P) Z Z)) (N (o225 P) (N (o357 P) Z Z) Z))) (N (o43 P) (N (o77 P) (N (o143 P) (N (o273 P) Z Z) (N (o405 P) Z Z)) (N (o207 P) (N (o339 P) Z Z) Z)) (N (o109 P) (N (o175 P) (N (o307 P) Z Z) (N (o439 P) Z Z)) (N (o241 P) (N (o373 P) Z Z) Z)))) (N (o19 P) (N (o35 P) (N (o69 P) (N (o135 P) (N (o265 P) Z Z) (N (o397 P) Z Z)) (N (o199 P) (N (o331 P) Z Z) (N (o463 P) Z Z))) (N (o101 P) (N (o167 P) (N (o299 P) Z Z) (N (o431 P) Z Z)) (N (o233 P) (N (o365 P) Z Z) Z))) (N (o53 P) (N (o85 P) (N (o151 P) (N (o283 P) Z Z) (N (o413 P) Z Z)) (N (o217 P) (N (o349 P) Z Z) Z)) (N (o117 P) (N (o183 P) (N (o315 P) Z Z) (N (o447 P) Z Z)) (N (o249 P) (N (o381 P) Z Z) Z)))))) (N (boot_o_5 P) (N (boot_o_9 P) (N (o9 P) (N (o25 P) (N (o59 P) (N (o123 P) (N (o255 P) Z Z) (N (o387 P) Z Z)) (N (o189 P) (N (o321 P) Z Z) (N (o453 P) Z Z))) (N (o91 P) (N (o157 P) (N (o289 P) Z Z) (N (o421 P) Z Z)) (N (o223 P) (N (o355 P) Z Z) Z))) (N (o41 P) (N (o75 P) (N (o141 P) (N (o271 P) Z Z) (N (o403 P) Z Z)) (N (o205 P) (N (o337 P) Z Z) Z)) (N (o107 P) (N (o173 P) (N (o305 P) Z Z) (N (o437 P) Z Z)) (N (o239 P) (N (o371 P) Z Z) Z)))) (N (o17 P) (N (o33 P) (N (o67 P) (N (o133 P) (N (o263 P) Z Z) (N (o395 P) Z Z)) (N (o197 P) (N (o329 P) Z Z) (N (o461 P) Z Z))) (N (o99 P) (N (o165 P) (N (o297 P) Z Z) (N (o429 P) Z Z)) (N (o231 P) (N (o363 P) Z Z) Z))) (N (o51 P) (N (o83 P) (N (o149 P) (N (o281 P) Z Z) (N (o411 P) Z Z)) (N (o215 P) (N (o347 P) Z Z) Z)) (N (o115 P) (N (o181 P) (N (o313 P) Z Z) (N (o445 P) Z Z)) (N (o247 P) (N (o379 P) Z Z) Z))))) (N (o2 P) (N (o13 P) (N (o29 P) (N (o63 P) (N (o127 P) (N (o259 P) Z Z) (N (o391 P) Z Z)) (N (o193 P) (N (o325 P) Z Z) (N (o457 P) Z Z))) (N (o95 P) (N (o161 P) (N (o293 P) Z Z) (N (o425 P) Z Z)) (N (o227 P) (N (o359 P) Z Z) Z))) (N (o45 P) (N (o79 P) (N (o145 P) (N (o277 P) Z Z) (N (o407 P) Z Z)) (N (o209 P) (N (o343 P) Z Z) Z)) (N (o111 P) (N (o177 P) (N (o309 P) Z Z) (N (o441 P) Z Z)) (N (o243 P) (N (o375 P) Z Z) Z)))) (N (o21 P) (N (o37 P) (N (o71 P) (N (o137 P) (N (o267 P) Z Z) (N (o399 P) Z Z)) (N (o201 P) (N (o333 P) Z Z) (N (o465 P) Z Z))) (N (o103 P) (N (o169 P) (N (o301 P) Z Z) (N (o433 P) Z Z)) (N (o235 P) (N (o367 P) Z Z) Z))) (N (o55 P) (N (o87 P) (N (o153 P) (N (o285 P) Z Z) (N (o415 P) Z Z)) (N (o219 P) (N (o351 P) Z Z) Z)) (N (o119 P) (N (o185 P) (N (o317 P) Z Z) (N (o449 P) Z Z)) (N (o251 P) (N (o383 P) Z Z) Z))))))) (N (o4 P) (N (boot_o_4 P) (N (boot_o_8 P) (N (o8 P) (N (o24 P) (N (o58 P) (N (o122 P) (N (o254 P) Z Z) (N (o386 P) Z Z)) (N (o188 P) (N (o320 P) Z Z) (N (o452 P) Z Z))) (N (o90 P) (N (o156 P) (N (o288 P) Z Z) (N (o418 P) Z Z)) (N (o222 P) (N (o354 P) Z Z) Z))) (N (o40 P) (N (o74 P) (N (o140 P) (N (o270 P) Z Z) (N (o402 P) Z Z)) (N (o204 P) (N (o336 P) Z Z) (N (o468 P) Z Z))) (N (o106 P) (N (o172 P) (N (o304 P) Z Z) (N (o436 P) Z Z)) (N (o238 P) (N (o370 P) Z Z) Z)))) (N (o16 P) (N (o32 P) (N (o66 P) (N (o130 P) (N (o262 P) Z Z) (N (o394 P) Z Z)) (N (o196 P) (N (o328 P) Z Z) (N (o460 P) Z Z))) (N (o98 P) (N (o164 P) (N (o296 P) Z Z) (N (o428 P) Z Z)) (N (o230 P) (N (o362 P) Z Z) Z))) (N (o50 P) (N (o82 P) (N (o148 P) (N (o280 P) Z Z) (N (o410 P) Z Z)) (N (o214 P) (N (o346 P) Z Z) Z)) (N (o114 P) (N (o180 P) (N (o312 P) Z Z) (N (o444 P) Z Z)) (N (o246 P) (N (o378 P) Z Z) Z))))) (N (o420 P) (N (o12 P) (N (o28 P) (N (o62 P) (N (o126 P) (N (o258 P) Z Z) (N (o390 P) Z Z)) (N (o192 P) (N (o324 P) Z Z) (N (o456 P) Z Z))) (N (o94 P) (N (o160 P) (N (o292 P) Z Z) (N (o424 P) Z Z)) (N (o226 P) (N (o358 P) Z Z) Z))) (N (o44 P) (N (o78 P) (N (o144 P) (N (o274 P) Z Z) (N (o406 P) Z Z)) (N (o208 P) (N (o342 P) Z Z) Z)) (N (o110 P) (N (o176 P) (N (o308 P) Z Z) (N (o440 P) Z Z)) (N (o242 P) (N (o374 P) Z Z) Z)))) (N (o20 P) (N (o36 P) (N (o70 P) (N (o136 P) (N (o266 P) Z Z) (N (o398 P) Z Z)) (N (o200 P) (N (o332 P) Z Z) (N (o464 P) Z Z))) (N (o102 P) (N (o168 P) (N (o300 P) Z Z) (N (o432 P) Z Z)) (N (o234 P) (N (o366 P) Z Z) Z))) (N (o54 P) (N (o86 P) (N (o152 P) (N (o284 P) Z Z) (N (o414 P) Z Z)) (N (o218 P) (N (o350 P) Z Z) Z)) (N (o118 P) (N (o184 P) (N (o316 P) Z Z) (N (o448 P) Z Z)) (N (o250 P) (N (o382 P) Z Z) Z)))))) (N (boot_o_6 P) (N (boot_o_10 P) (N (o10 P) (N (o26 P) (N (o60 P) (N (o124 P) (N (o256 P) Z Z) (N (o388 P) Z Z)) (N (o190 P) (N (o322 P) Z Z) (N (o454 P) Z Z))) (N (o92 P) (N (o158 P) (N (o290 P) Z Z) (N (o422 P) Z Z)) (N (o224 P) (N (o356 P) Z Z) Z))) (N (o42 P) (N (o76 P) (N (o142 P) (N (o272 P) Z Z) (N (o404 P) Z Z)) (N (o206 P) (N (o338 P) Z Z) Z)) (N (o108 P) (N (o174 P) (N (o306 P) Z Z) (N (o438 P) Z Z)) (N (o240 P) (N (o372 P) Z Z) Z)))) (N (o18 P) (N (o34 P) (N (o68 P) (N (o134 P) (N (o264 P) Z Z) (N (o396 P) Z Z)) (N (o198 P) (N (o330 P) Z Z) (N (o462 P) Z Z))) (N (o100 P) (N (o166 P) (N (o298 P) Z Z) (N (o430 P) Z Z)) (N (o232 P) (N (o364 P) Z Z) Z))) (N (o52 P) (N (o84 P) (N (o150 P) (N (o282 P) Z Z) (N (o412 P) Z Z)) (N (o216 P) (N (o348 P) Z Z) Z)) (N (o116 P) (N (o182 P) (N (o314 P) Z Z) (N (o446 P) Z Z)) (N (o248 P) (N (o380 P) Z Z) Z))))) (N (o3 P) (N (o14 P) (N (o30 P) (N (o64 P) (N (o128 P) (N (o260 P) Z Z) (N (o392 P) Z Z)) (N (o194 P) (N (o326 P) Z Z) (N (o458 P) Z Z))) (N (o96 P) (N (o162 P) (N (o294 P) Z Z) (N (o426 P) Z Z)) (N (o228 P) (N (o360 P) Z Z) Z))) (N (o46 P) (N (o80 P) (N (o146 P) (N (o278 P) Z Z) (N (o408 P) Z Z)) (N (o212 P) (N (o344 P) Z Z) Z)) (N (o112 P) (N (o178 P) (N (o310 P) Z Z) (N (o442 P) Z Z)) (N (o244 P) (N (o376 P) Z Z) Z)))) (N (o22 P) (N (o38 P) (N (o72 P) (N (o138 P) (N (o268 P) Z Z) (N (o400 P) Z Z)) (N (o202 P) (N (o334 P) Z Z) (N (o466 P) Z Z))) (N (o104 P) (N (o170 P) (N (o302 P) Z Z) (N (o434 P) Z Z)) (N (o236 P) (N (o368 P) Z Z) Z))) (N (o56 P) (N (o88 P) (N (o154 P) (N (o286 P) Z Z) (N (o416 P) Z Z)) (N (o220 P) (N (o352 P) Z Z) Z)) (N (o120 P) (N (o186 P) (N (o318 P) Z Z) (N (o450 P) Z Z)) (N (o252 P) (N (o384 P) Z Z) Z))))))))
noncomputable abbrev sC6 (w : World) (os : OsState) : SharedT := ⟨tC6 w.params, 465, lf, Array.mk [], (.mk 0 0 0 0), 848, os⟩
noncomputable abbrev qC6 : Pos := ⟨354,0,379,15⟩
noncomputable def hF (P : Params) : Heap := ⟨⟨[boot_o_0 P,boot_o_1 P,o4 P,o419 P,boot_o_4 P,boot_o_5 P,boot_o_6 P,boot_o_7 P,boot_o_8 P,boot_o_9 P,boot_o_10 P,o0 P,o420 P,o2 P,o3 P,o7 P,o8 P,o9 P,o10 P,o11 P,o12 P,o13 P,o14 P,o15 P,o16 P,o17 P,o18 P,o19 P,o20 P,o21 P,o22 P,o23 P,o24 P,o25 P,o26 P,o27 P,o28 P,o29 P,o30 P,o31 P,o32 P,o33 P,o34 P,o35 P,o36 P,o37 P,o38 P,o39 P,o40 P,o41 P,o42 P,o43 P,o44 P,o45 P,o46 P,o49 P,o50 P,o51 P,o52 P,o53 P,o54 P,o55 P,o56 P,o57 P,o58 P,o59 P,o60 P,o61 P,o62 P,o63 P,o64 P,o65 P,o66 P,o67 P,o68 P,o69 P,o70 P,o71 P,o72 P,o73 P,o74 P,o75 P,o76 P,o77 P,o78 P,o79 P,o80 P,o81 P,o82 P,o83 P,o84 P,o85 P,o86 P,o87 P,o88 P,o89 P,o90 P,o91 P,o92 P,o93 P,o94 P,o95 P,o96 P,o97 P,o98 P,o99 P,o100 P,o101 P,o102 P,o103 P,o104 P,o105 P,o106 P,o107 P,o108 P,o109 P,o110 P,o111 P,o112 P,o113 P,o114 P,o115 P,o116 P,o117 P,o118 P,o119 P,o120 P,o121 P,o122 P,o123 P,o124 P,o125 P,o126 P,o127 P,o128 P,o129 P,o130 P,o133 P,o134 P,o135 P,o136 P,o137 P,o138 P,o139 P,o140 P,o141 P,o142 P,o143 P,o144 P,o145 P,o146 P,o147 P,o148 P,o149 P,o150 P,o151 P,o152 P,o153 P,o154 P,o155 P,o156 P,o157 P,o158 P,o159 P,o160 P,o161 P,o162 P,o163 P,o164 P,o165 P,o166 P,o167 P,o168 P,o169 P,o170 P,o171 P,o172 P,o173 P,o174 P,o175 P,o176 P,o177 P,o178 P,o179 P,o180 P,o181 P,o182 P,o183 P,o184 P,o185 P,o186 P,o187 P,o188 P,o189 P,o190 P,o191 P,o192 P,o193 P,o194 P,o195 P,o196 P,o197 P,o198 P,o199 P,o200 P,o201 P,o202 P,o203 P,o204 P,o205 P,o206 P,o207 P,o208 P,o209 P,o212 P,o213 P,o214 P,o215 P,o216 P,o217 P,o218 P,o219 P,o220 P,o221 P,o222 P,o223 P,o224 P,o225 P,o226 P,o227 P,o228 P,o229 P,o230 P,o231 P,o232 P,o233 P,o234 P,o235 P,o236 P,o237 P,o238 P,o239 P,o240 P,o241 P,o242 P,o243 P,o244 P,o245 P,o246 P,o247 P,o248 P,o249 P,o250 P,o251 P,o252 P,o253 P,o254 P,o255 P,o256 P,o257 P,o258 P,o259 P,o260 P,o261 P,o262 P,o263 P,o264 P,o265 P,o266 P,o267 P,o268 P,o269 P,o270 P,o271 P,o272 P,o273 P,o274 P,o277 P,o278 P,o279 P,o280 P,o281 P,o282 P,o283 P,o284 P,o285 P,o286 P,o287 P,o288 P,o289 P,o290 P,o291 P,o292 P,o293 P,o294 P,o295 P,o296 P,o297 P,o298 P,o299 P,o300 P,o301 P,o302 P,o303 P,o304 P,o305 P,o306 P,o307 P,o308 P,o309 P,o310 P,o311 P,o312 P,o313 P,o314 P,o315 P,o316 P,o317 P,o318 P,o319 P,o320 P,o321 P,o322 P,o323 P,o324 P,o325 P,o326 P,o327 P,o328 P,o329 P,o330 P,o331 P,o332 P,o333 P,o334 P,o335 P,o336 P,o337 P,o338 P,o339 P,o342 P,o343 P,o344 P,o345 P,o346 P,o347 P,o348 P,o349 P,o350 P,o351 P,o352 P,o353 P,o354 P,o355 P,o356 P,o357 P,o358 P,o359 P,o360 P,o361 P,o362 P,o363 P,o364 P,o365 P,o366 P,o367 P,o368 P,o369 P,o370 P,o371 P,o372 P,o373 P,o374 P,o375 P,o376 P,o377 P,o378 P,o379 P,o380 P,o381 P,o382 P,o383 P,o384 P,o385 P,o386 P,o387 P,o388 P,o389 P,o390 P,o391 P,o392 P,o393 P,o394 P,o395 P,o396 P,o397 P,o398 P,o399 P,o400 P,o401 P,o402 P,o403 P,o404 P,o405 P,o406 P,o407 P,o408 P,o409 P,o410 P,o411 P,o412 P,o413 P,o414 P,o415 P,o416 P,o417 P,o418 P,o421 P,o422 P,o423 P,o424 P,o425 P,o426 P,o427 P,o428 P,o429 P,o430 P,o431 P,o432 P,o433 P,o434 P,o435 P,o436 P,o437 P,o438 P,o439 P,o440 P,o441 P,o442 P,o443 P,o444 P,o445 P,o446 P,o447 P,o448 P,o449 P,o450 P,o451 P,o452 P,o453 P,o454 P,o455 P,o456 P,o457 P,o458 P,o459 P,o460 P,o461 P,o462 P,o463 P,o464 P,o465 P,o466 P,o467 P,o468 P]⟩, lf⟩
noncomputable def K0 (P : Params) : Frag := [(2,o4 P),(3,o419 P),(15,o7 P),(17,o9 P),(18,o10 P),(20,o12 P),(21,o13 P),(22,o14 P),(29,o21 P),(30,o22 P),(32,o24 P),(33,o25 P),(35,o27 P),(36,o28 P),(37,o29 P),(38,o30 P),(39,o31 P),(40,o32 P),(43,o35 P),(50,o42 P),(51,o43 P),(52,o44 P),(62,o56 P),(64,o58 P),(65,o59 P),(67,o61 P),(68,o62 P),(69,o63 P),(71,o65 P),(72,o66 P),(74,o68 P),(75,o69 P),(76,o70 P),(78,o72 P),(79,o73 P),(81,o75 P),(82,o76 P),(83,o77 P),(85,o79 P),(86,o80 P),(88,o82 P),(89,o83 P),(90,o84 P),(92,o86 P),(93,o87 P),(95,o89 P),(96,o90 P),(97,o91 P),(99,o93 P),(100,o94 P),(102,o96 P),(103,o97 P),(104,o98 P),(106,o100 P),(107,o101 P),(109,o103 P),(110,o104 P),(111,o105 P),(113,o107 P),(114,o108 P),(116,o110 P),(117,o111 P),(118,o112 P),(120,o114 P),(121,o115 P),(123,o117 P),(124,o118 P),(125,o119 P),(126,o120 P),(127,o121 P),(128,o122 P),(129,o123 P),(132,o126 P),(135,o129 P),(136,o130 P),(137,o133 P),(139,o135 P),(140,o136 P),(142,o138 P),(143,o139 P),(144,o140 P),(146,o142 P),(147,o143 P),(149,o145 P),(150,o146 P),(158,o154 P),(160,o156 P),(161,o157 P),(163,o159 P),(164,o160 P),(165,o161 P),(167,o163 P),(168,o164 P),(170,o166 P),(171,o167 P),(172,o168 P),(173,o169 P),(174,o170 P),(175,o171 P),(176,o172 P),(179,o175 P),(181,o177 P),(182,o178 P),(184,o180 P),(185,o181 P),(186,o182 P),(188,o184 P),(189,o185 P),(191,o187 P),(192,o188 P),(193,o189 P),(195,o191 P),(196,o192 P),(198,o194 P),(199,o195 P),(200,o196 P),(202,o198 P),(203,o199 P),(205,o201 P),(206,o202 P),(207,o203 P),(209,o205 P),(210,o206 P),(212,o208 P),(213,o209 P),(214,o212 P),(216,o214 P),(217,o215 P),(219,o217 P),(220,o218 P),(228,o226 P),(230,o228 P),(231,o229 P),(233,o231 P),(234,o232 P),(235,o233 P),(237,o235 P),(238,o236 P),(240,o238 P),(241,o239 P),(242,o240 P),(244,o242 P),(245,o243 P),(247,o245 P),(248,o246 P),(249,o247 P),(251,o249 P),(252,o250 P),(254,o252 P),(255,o253 P),(256,o254 P),(258,o256 P),(259,o257 P),(261,o259 P),(262,o260 P),(263,o261 P),(265,o263 P),(266,o264 P),(268,o266 P),(269,o267 P),(270,o268 P),(271,o269 P),(272,o270 P),(273,o271 P),(274,o272 P),(284,o284 P),(286,o286 P),(287,o287 P),(289,o289 P),(290,o290 P),(291,o291 P),(293,o293 P),(294,o294 P),(296,o296 P),(297,o297 P),(298,o298 P),(300,o300 P),(301,o301 P),(303,o303 P),(304,o304 P),(305,o305 P),(307,o307 P),(308,o308 P),(310,o310 P),(311,o311 P),(312,o312 P),(314,o314 P),(315,o315 P),(317,o317 P),(318,o318 P),(319,o319 P),(321,o321 P),(322,o322 P),(324,o324 P),(325,o325 P),(326,o326 P),(328,o328 P),(329,o329 P),(331,o331 P),(332,o332 P),(333,o333 P),(334,o334 P),(335,o335 P),(336,o336 P),(337,o337 P),(347,o349 P),(349,o351 P),(350,o352 P),(352,o354 P),(353,o355 P),(354,o356 P),(356,o358 P),(357,o359 P),(359,o361 P),(360,o362 P),(361,o363 P),(364,o366 P),(365,o367 P),(366,o368 P),(368,o370 P),(369,o371 P),(371,o373 P),(372,o374 P),(373,o375 P),(375,o377 P),(376,o378 P),(378,o380 P),(379,o381 P),(380,o382 P),(381,o383 P),(383,o385 P),(384,o386 P),(386,o388 P),(387,o389 P),(388,o390 P),(389,o391 P),(391,o393 P),(392,o394 P),(394,o396 P),(395,o397 P),(396,o398 P),(398,o400 P),(399,o401 P),(401,o403 P),(402,o404 P),(403,o405 P),(405,o407 P),(406,o408 P),(408,o410 P),(409,o411 P),(410,o412 P),(411,o413 P),(412,o414 P),(413,o415 P),(414,o416 P),(417,o421 P),(419,o423 P),(420,o424 P),(422,o426 P),(423,o427 P),(424,o428 P),(426,o430 P),(427,o431 P),(429,o433 P),(430,o434 P),(431,o435 P),(434,o438 P),(435,o439 P),(436,o440 P),(439,o443 P),(440,o444 P),(441,o445 P),(444,o448 P),(445,o449 P),(446,o450 P),(448,o452 P),(449,o453 P),(451,o455 P),(452,o456 P),(453,o457 P),(455,o459 P),(456,o460 P),(458,o462 P),(459,o463 P),(460,o464 P),(463,o467 P),(464,o468 P)]
noncomputable def A0 : List Addr := [2,3,15,17,18,20,21,22,29,30,32,33,35,36,37,38,39,40,43,50,51,52,62,64,65,67,68,69,71,72,74,75,76,78,79,81,82,83,85,86,88,89,90,92,93,95,96,97,99,100,102,103,104,106,107,109,110,111,113,114,116,117,118,120,121,123,124,125,126,127,128,129,132,135,136,137,139,140,142,143,144,146,147,149,150,158,160,161,163,164,165,167,168,170,171,172,173,174,175,176,179,181,182,184,185,186,188,189,191,192,193,195,196,198,199,200,202,203,205,206,207,209,210,212,213,214,216,217,219,220,228,230,231,233,234,235,237,238,240,241,242,244,245,247,248,249,251,252,254,255,256,258,259,261,262,263,265,266,268,269,270,271,272,273,274,284,286,287,289,290,291,293,294,296,297,298,300,301,303,304,305,307,308,310,311,312,314,315,317,318,319,321,322,324,325,326,328,329,331,332,333,334,335,336,337,347,349,350,352,353,354,356,357,359,360,361,364,365,366,368,369,371,372,373,375,376,378,379,380,381,383,384,386,387,388,389,391,392,394,395,396,398,399,401,402,403,405,406,408,409,410,411,412,413,414,417,419,420,422,423,424,426,427,429,430,431,434,435,436,439,440,441,444,445,446,448,449,451,452,453,455,456,458,459,460,463,464]
noncomputable abbrev an : Option Value := some (.ref 6)
noncomputable abbrev ev : Env := { scope := pw.main.scope, locals := mainNs, globals := mainNs, cells := [], code := .ref 13, frame := some 14 }
noncomputable abbrev fq : Pos := ⟨0, 0, 0, 0⟩
noncomputable abbrev bd : List Stmt := behindTheImports pw
noncomputable abbrev cE : Code := .body bd ev
noncomputable abbrev S0 (w : World) (os : OsState) : Shared := ⟨boot_heap w.params, Array.mk [], boot_drawn, boot_toks, os⟩
noncomputable def hA (P : Params) : Heap := ⟨⟨[boot_o_0 P,boot_o_1 P,boot_o_2 P,boot_o_3 P,boot_o_4 P,boot_o_5 P,boot_o_6 P,boot_o_7 P,boot_o_8 P,boot_o_9 P,boot_o_10 P,o0 P,o1 P,o2 P,o3 P]⟩, lf⟩
noncomputable abbrev SA (w : World) (os : OsState) : Shared := ⟨hA w.params, Array.mk [], (.mk 0 0 0 0), 187, os⟩
theorem r_pre (w : World) (os : OsState) : topGo treeTable pw w 11 an 12 (S0 w os) (topStub pw) = some (SA w os, ⟨denote treeTable cE, cE, qA, [topFrame fq]⟩) := by kernel_rfl
theorem r_A (P : Params) : absHeap (tB P) 15 lf = hA P := by kernel_rfl
theorem r_blk (w : World) (os : OsState) : segRun treeTable pw w 11 an 1 1 (SA w os) (blockOf bd ev cE qA [topFrame fq]) = some (.next, SA w os, cE, qB) := by kernel_rfl
noncomputable abbrev g0 : List Stmt := (bd.drop 0).take 5
theorem r_0 (w : World) (os : OsState) : segRunT treeTable pw w 11 an 1 501 (sB w os) (piecesOf g0 ev cE qB [topFrame fq]) = some (.next, sC0 w os, cE, qC0) := by kernel_rfl
noncomputable abbrev g1 : List Stmt := (bd.drop 5).take 2
theorem r_1 (w : World) (os : OsState) : segRunT treeTable pw w 11 an 1 520 (sC0 w os) (piecesOf g1 ev cE qC0 [topFrame fq]) = some (.next, sC1 w os, cE, qC1) := by kernel_rfl
noncomputable abbrev g2 : List Stmt := (bd.drop 7).take 10
theorem r_2 (w : World) (os : OsState) : segRunT treeTable pw w 11 an 1 504 (sC1 w os) (piecesOf g2 ev cE qC1 [topFrame fq]) = some (.next, sC2 w os, cE, qC2) := by kernel_rfl
noncomputable abbrev g3 : List Stmt := (bd.drop 17).take 2
theorem r_3 (w : World) (os : OsState) : segRunT treeTable pw w 11 an 1 427 (sC2 w os) (piecesOf g3 ev cE qC2 [topFrame fq]) = some (.next, sC3 w os, cE, qC3) := by kernel_rfl
noncomputable abbrev g4 : List Stmt := (bd.drop 19).take 2
theorem r_4 (w : World) (os : OsState) : segRunT treeTable pw w 11 an 1 446 (sC3 w os) (piecesOf g4 ev cE qC3 [topFrame fq]) = some (.next, sC4 w os, cE, qC4) := by kernel_rfl
noncomputable abbrev g5 : List Stmt := (bd.drop 21).take 2
theorem r_5 (w : World) (os : OsState) : segRunT treeTable pw w 11 an 1 497 (sC4 w os) (piecesOf g5 ev cE qC4 [topFrame fq]) = some (.next, sC5 w os, cE, qC5) := by kernel_rfl
noncomputable abbrev g6 : List Stmt := (bd.drop 23).take 8
theorem r_6 (w : World) (os : OsState) : segRunT treeTable pw w 11 an 1 239 (sC5 w os) (piecesOf g6 ev cE qC5 [topFrame fq]) = some (.next, sC6 w os, cE, qC6) := by kernel_rfl
theorem r_F (P : Params) : absHeap (tC6 P) 465 lf = hF P := by kernel_rfl
theorem r_fin (w : World) (os : OsState) : topRun treeTable pw w 11 an 2 (sC6 w os).abs ⟨doneF .next, cE, qC6, [topFrame fq]⟩ = some (sC6 w os).abs := by kernel_rfl
theorem bd_eq : bd = g0 ++ (g1 ++ (g2 ++ (g3 ++ (g4 ++ (g5 ++ (g6 ++ [])))))) := by kernel_rfl
end
section
noncomputable abbrev SF (w : World) (os : OsState) : Shared := ⟨hF w.params, Array.mk [], (.mk 0 0 0 0), 848, os⟩
theorem run_all (w : World) (os : OsState) : topRun treeTable pw w 11 an (12 + (1 + (501 + (520 + (504 + (427 + (446 + (497 + (239 + 2))))))))) (S0 w os) (topStub pw) = some (SF w os) := by
  refine go_top (r_pre w os) (piece_block (r_blk w os) ?_)
  have e : restOf bd ev cE qB [topFrame fq] = restOf (g0 ++ (g1 ++ (g2 ++ (g3 ++ (g4 ++ (g5 ++ (g6 ++ []))))))) ev cE qB [topFrame fq] := congrArg (fun l => restOf l ev cE qB [topFrame fq]) bd_eq
  have eA : SA w os = (sB w os).abs := by show Shared.mk (hA w.params) _ _ _ _ = Shared.mk (absHeap (tB w.params) 15 lf) _ _ _ _; rw [r_A]
  have eF : (sC6 w os).abs = SF w os := by show Shared.mk (absHeap (tC6 w.params) 465 lf) _ _ _ _ = Shared.mk (hF w.params) _ _ _ _; rw [r_F]
  rw [e, eA, ← eF]
  exact piece_app (segRun_of (r_0 w os)) (piece_app (segRun_of (r_1 w os)) (piece_app (segRun_of (r_2 w os)) (piece_app (segRun_of (r_3 w os)) (piece_app (segRun_of (r_4 w os)) (piece_app (segRun_of (r_5 w os)) (piece_app (segRun_of (r_6 w os)) (piece_nil (r_fin w os))))))))
def keepS : Stmt → Bool
  | .Assign .. => false
  | _ => true
noncomputable def vw : Program := { pw with main := { pw.main with body := pw.main.body.filter keepS } }
noncomputable abbrev lo1 : List Str := ["GateloomError"]
theorem A0_eq (P : Params) : A0 = (K0 P).map (·.1) := by kernel_rfl
noncomputable abbrev hk : Hook := kHook K0 A0 A0_eq
noncomputable abbrev rw1 : RowW := PySem.Challenge.rw_on0124_01.row.toRowW
theorem b_size (w : World) : ((boot_heap w.params).isNs mainGlobals && (Array.mk [] : Array GenState).size == 0, (boot_heap w.params).objs.size, (boot_heap w.params).nsMap mainGlobals "__annotations__") = (true, 11, an) := by kernel_rfl
theorem looks1 (w : World) (os : OsState) : (staticsOk (importedModules pw.main.body) (boot_heap w.params) (hF w.params) && namesBound pw (hF w.params) && gensDone (SF w os) && laidKept (boot_heap w.params) (hF w.params)) = true := by kernel_rfl
theorem looks3 (w : World) (os : OsState) : hk.obs (SF w os) = hk.val w := by kernel_rfl
theorem looks2 (w : World) (os : OsState) : openSeen vw lo1 (importedModules pw.main.body) (fun s => xlAt vw [] s && recOk (RowW.records rw1) s) true (SF w os) = openGood vw lo1 := by kernel_rfl
theorem left : LeftO pw vw lo1 (fun s => xlAt vw [] s && recOk (RowW.records rw1) s) hk.obs hk.val 6380 :=
  LeftO.of_pieces (boot_open rfl rfl fun _ => rfl) b_size run_all rfl fun w => funext fun os => by rw [looks1 w os, looks2 w os, looks3 w os]
end
section
theorem sa1 : namesResolve pw = true := by kernel_rfl
theorem sa2 : noRoadLSs { strict := !(importedModules pw.main.body).all cThrough.contains, foot := none, bare := (["vars", "dir", "locals"] : List Str).filter (readsOut pw pw.main.body) } pw.main.body = true := by kernel_rfl
theorem sa : looksOpen pw = true := by unfold looksOpen; rw [sa1, sa2]; kernel_rfl
theorem sb : OpenRow.partSaid PySem.Challenge.rw_on0124_01.row = true := by unfold OpenRow.partSaid; rw [show looksOpen PySem.Challenge.rw_on0124_01.row.prog = true from sa]; kernel_rfl
theorem sc : PySem.Challenge.rw_on0124_01.row.wellSaid = true := by unfold OpenRow.wellSaid; rw [sb]; kernel_rfl
theorem said : PySem.Challenge.rw_on0124_01.wellSaid = true := by unfold OpenLaw.wellSaid; rw [sc]; kernel_rfl
end
end Hd
section
noncomputable def KK (P : Params) (E : Frag) : Frag := Hd.K0 P ++ E
noncomputable def CC (w : World) (E : Frag) (os : OsState × Nat) : Cx := ⟨Hd.pw, w, KK w.params E, os.1, os.2⟩
structure Callee (K : Frag) (nm : Str) (v : Val) (f : Value) : Prop where
  glob : GlobIs K nm f
  keep : KeepF K f
  own : v.own = some f
theorem JEc {C : Cx} {n : Nat} {q : Bool} {env : Env} {m : List (Option Val)} {σ : AH} {X : Addr → AH → Prop} {Q : Val → AH → Prop} {names : List (Str × NameKind)} {id : Str} {p pos : Pos} {args : List Expr} {v : Val} {f : Value} (c : Callee C.K id v f) (e : Nms env names)
    (hn : names.lookup id = some .globalImplicit) (nd : (id == ("__debug__" : Str)) = false) (hp : PlainArgs args) (h : JEs C n q env m σ args (fun vs σ₂ => JC C n q env m σ₂ f vs Q X) X) : JE C n q env m σ (.Call (.Name id p) args [] pos) Q X := by
  obtain ⟨i, hi⟩ := List.mem_iff_getElem?.mp (PySem.mem_of_lookup hn)
  exact JE_call (JEg i e hi nd c.glob c.own ⟨f, c.own, c.keep, h⟩) hp
theorem JEr {C : Cx} {n : Nat} {q : Bool} {env : Env} {m : List (Option Val)} {σ : AH} {X : Addr → AH → Prop} {Q : List Val → (AH → Prop) → AH → Prop} {names : List (Str × NameKind)} {id : Str} {p pos : Pos} {args : List Expr} (c : GlobIs C.K id (.type "range")) (e : Nms env names)
    (hn : names.lookup id = some .globalImplicit) (nd : (id == ("__debug__" : Str)) = false) (hp : PlainArgs args) (h : JEs C n q env m σ args (fun vs σ₂ => ∃ (a b c : Int) (k : Nat), ((vs = [.int b] ∧ a = 0 ∧ c = 1) ∨ (vs = [.int a, .int b, .int c] ∧ c ≠ 0 ∧ c.natAbs < 1073741824)) ∧
      Builtin.Range.small a b c = true ∧ Builtin.Range.rangeSize a b c = k ∧ Q ((List.range k).map fun (j : Nat) => .int (a + j * c)) (fun _ => True) σ₂) X) : JI C n q env m σ (.Call (.Name id p) args [] pos) Q X := by
  obtain ⟨i, hi⟩ := List.mem_iff_getElem?.mp (PySem.mem_of_lookup hn)
  exact JI_range (JEg i e hi nd c rfl ⟨rfl, h⟩) hp
section
variable {w : World} {E : Frag} {os : OsState × Nat}
theorem gg_len : Callee (CC w E os).K "len" (.blt "len") (.builtin "len") := ⟨.inr ⟨rfl, by decide, by decide +kernel⟩, .inr (.inr ⟨_, rfl⟩), rfl⟩
theorem gg_min : Callee (CC w E os).K "min" (.blt "min") (.builtin "min") := ⟨.inr ⟨rfl, by decide, by decide +kernel⟩, .inr (.inr ⟨_, rfl⟩), rfl⟩
theorem gg_max : Callee (CC w E os).K "max" (.blt "max") (.builtin "max") := ⟨.inr ⟨rfl, by decide, by decide +kernel⟩, .inr (.inr ⟨_, rfl⟩), rfl⟩
theorem gg_str : Callee (CC w E os).K "str" (.typ "str") (.type "str") := ⟨.inr ⟨rfl, by decide, by decide +kernel⟩, .inr (.inl ⟨_, rfl⟩), rfl⟩
theorem gg_list : Callee (CC w E os).K "list" (.typ "list") (.type "list") := ⟨.inr ⟨rfl, by decide, by decide +kernel⟩, .inr (.inl ⟨_, rfl⟩), rfl⟩
theorem gg_tuple : Callee (CC w E os).K "tuple" (.typ "tuple") (.type "tuple") := ⟨.inr ⟨rfl, by decide, by decide +kernel⟩, .inr (.inl ⟨_, rfl⟩), rfl⟩
theorem gg_range : Callee (CC w E os).K "range" (.typ "range") (.type "range") := ⟨.inr ⟨rfl, by decide, by decide +kernel⟩, .inr (.inl ⟨_, rfl⟩), rfl⟩
theorem gg_law_link : Callee (CC w E os).K "_law_link" (.ref 430) (.ref 430) := ⟨.inl rfl, .inl rfl, rfl⟩
theorem gg_law_values : Callee (CC w E os).K "_law_values" (.ref 435) (.ref 435) := ⟨.inl rfl, .inl rfl, rfl⟩
theorem gg_law_due : Callee (CC w E os).K "_law_due" (.ref 445) (.ref 445) := ⟨.inl rfl, .inl rfl, rfl⟩
theorem gg_law_spots : Callee (CC w E os).K "_law_spots" (.ref 452) (.ref 452) := ⟨.inl rfl, .inl rfl, rfl⟩
theorem gg_law_joined : Callee (CC w E os).K "_law_joined" (.ref 459) (.ref 459) := ⟨.inl rfl, .inl rfl, rfl⟩
theorem gg_law_world : Callee (CC w E os).K "_law_world" (.ref 440) (.ref 440) := ⟨.inl rfl, .inl rfl, rfl⟩
theorem gg_law_chain : Callee (CC w E os).K "_law_chain" (.ref 423) (.ref 423) := ⟨.inl rfl, .inl rfl, rfl⟩
theorem gg_joined_net : Callee (CC w E os).K "joined_net" (.ref 206) (.ref 206) := ⟨.inl rfl, .inl rfl, rfl⟩
theorem gg_connect_wires : Callee (CC w E os).K "connect_wires" (.ref 213) (.ref 213) := ⟨.inl rfl, .inl rfl, rfl⟩
theorem gg_all_of : Callee (CC w E os).K "all_of" (.ref 143) (.ref 143) := ⟨.inl rfl, .inl rfl, rfl⟩
theorem gg_any_of : Callee (CC w E os).K "any_of" (.ref 150) (.ref 150) := ⟨.inl rfl, .inl rfl, rfl⟩
theorem gg_word_not : Callee (CC w E os).K "word_not" (.ref 136) (.ref 136) := ⟨.inl rfl, .inl rfl, rfl⟩
theorem gg_resting_bit : Callee (CC w E os).K "resting_bit" (.ref 192) (.ref 192) := ⟨.inl rfl, .inl rfl, rfl⟩
theorem gg_several : Callee (CC w E os).K "several" (.ref 199) (.ref 199) := ⟨.inl rfl, .inl rfl, rfl⟩
theorem gg_input_keys : Callee (CC w E os).K "input_keys" (.ref 185) (.ref 185) := ⟨.inl rfl, .inl rfl, rfl⟩
theorem gg_net_kinds : Callee (CC w E os).K "net_kinds" (.ref 220) (.ref 220) := ⟨.inl rfl, .inl rfl, rfl⟩
theorem gg_Design : Callee (CC w E os).K "Design" (.ref 335) (.ref 335) := ⟨.inl rfl, .inl rfl, rfl⟩
theorem gg_Netlist : Callee (CC w E os).K "Netlist" (.ref 412) (.ref 412) := ⟨.inl rfl, .inl rfl, rfl⟩
theorem gg_Wires : Callee (CC w E os).K "Wires" (.ref 174) (.ref 174) := ⟨.inl rfl, .inl rfl, rfl⟩
theorem gg_Signal : Callee (CC w E os).K "Signal" (.ref 272) (.ref 272) := ⟨.inl rfl, .inl rfl, rfl⟩
theorem gg_Gates : Callee (CC w E os).K "Gates" (.ref 127) (.ref 127) := ⟨.inl rfl, .inl rfl, rfl⟩
theorem gg_SynthError : Callee (CC w E os).K "SynthError" (.ref 52) (.ref 52) := ⟨.inl rfl, .inl rfl, rfl⟩
theorem cls_Gates : ClsOk (CC w E os).K 127 := ⟨rfl, rfl, rfl, rfl⟩
theorem po_Gates : plainOver (CC w E os).K 127 = true := rfl
theorem mk_Gates : makesIn (CC w E os).K 127 = true := rfl
theorem in_Gates : findIn (CC w E os).K (.ref 127) "__init__" = some (some (.ref 68)) := rfl
theorem it_Gates : typeIn (CC w E os).K (.ref 68) = some (.type "function") := rfl
theorem na_Gates_netlist : NoAttr (CC w E os).K 127 "netlist" := rfl
theorem na_Gates_made : NoAttr (CC w E os).K 127 "made" := rfl
theorem na_Gates_opposite : NoAttr (CC w E os).K 127 "opposite" := rfl
theorem mm_Gates_pair {σ : AH} {x dx : Addr} {fs : List (Str × Val)} (I : σ x = some (.inst 127 dx)) (hd : σ dx = some (.attrs fs)) (hl : fs.lookup ("pair" : Str) = none) : MethOf (CC w E os) σ x "pair" (.ref 75) := meth_inst (.inl I) hd hl cls_Gates rfl rfl
theorem mk_Gates_pair : KeepF (CC w E os).K (.ref 75) := .inl rfl
theorem mm_Gates_are_opposite {σ : AH} {x dx : Addr} {fs : List (Str × Val)} (I : σ x = some (.inst 127 dx)) (hd : σ dx = some (.attrs fs)) (hl : fs.lookup ("are_opposite" : Str) = none) : MethOf (CC w E os) σ x "are_opposite" (.ref 82) := meth_inst (.inl I) hd hl cls_Gates rfl rfl
theorem mk_Gates_are_opposite : KeepF (CC w E os).K (.ref 82) := .inl rfl
theorem mm_Gates_inv {σ : AH} {x dx : Addr} {fs : List (Str × Val)} (I : σ x = some (.inst 127 dx)) (hd : σ dx = some (.attrs fs)) (hl : fs.lookup ("inv" : Str) = none) : MethOf (CC w E os) σ x "inv" (.ref 89) := meth_inst (.inl I) hd hl cls_Gates rfl rfl
theorem mk_Gates_inv : KeepF (CC w E os).K (.ref 89) := .inl rfl
theorem mm_Gates_both {σ : AH} {x dx : Addr} {fs : List (Str × Val)} (I : σ x = some (.inst 127 dx)) (hd : σ dx = some (.attrs fs)) (hl : fs.lookup ("both" : Str) = none) : MethOf (CC w E os) σ x "both" (.ref 96) := meth_inst (.inl I) hd hl cls_Gates rfl rfl
theorem mk_Gates_both : KeepF (CC w E os).K (.ref 96) := .inl rfl
theorem cls_Wires : ClsOk (CC w E os).K 174 := ⟨rfl, rfl, rfl, rfl⟩
theorem po_Wires : plainOver (CC w E os).K 174 = true := rfl
theorem mk_Wires : makesIn (CC w E os).K 174 = true := rfl
theorem in_Wires : findIn (CC w E os).K (.ref 174) "__init__" = some (some (.ref 164)) := rfl
theorem it_Wires : typeIn (CC w E os).K (.ref 164) = some (.type "function") := rfl
theorem na_Wires_nets : NoAttr (CC w E os).K 174 "nets" := rfl
theorem na_Wires_drivers : NoAttr (CC w E os).K 174 "drivers" := rfl
theorem na_Wires_initial : NoAttr (CC w E os).K 174 "initial" := rfl
theorem na_Wires_pulls : NoAttr (CC w E os).K 174 "pulls" := rfl
theorem na_Wires_uneven : NoAttr (CC w E os).K 174 "uneven" := rfl
theorem mm_Wires_drive {σ : AH} {x dx : Addr} {fs : List (Str × Val)} (I : σ x = some (.inst 174 dx)) (hd : σ dx = some (.attrs fs)) (hl : fs.lookup ("drive" : Str) = none) : MethOf (CC w E os) σ x "drive" (.ref 171) := meth_inst (.inl I) hd hl cls_Wires rfl rfl
theorem mk_Wires_drive : KeepF (CC w E os).K (.ref 171) := .inl rfl
theorem cls_Signal : ClsOk (CC w E os).K 272 := ⟨rfl, rfl, rfl, rfl⟩
theorem po_Signal : plainOver (CC w E os).K 272 = true := rfl
theorem mk_Signal : makesIn (CC w E os).K 272 = true := rfl
theorem in_Signal : findIn (CC w E os).K (.ref 272) "__init__" = some (some (.ref 234)) := rfl
theorem it_Signal : typeIn (CC w E os).K (.ref 234) = some (.type "function") := rfl
theorem na_Signal_key : NoAttr (CC w E os).K 272 "key" := rfl
theorem na_Signal_path : NoAttr (CC w E os).K 272 "path" := rfl
theorem na_Signal_kind : NoAttr (CC w E os).K 272 "kind" := rfl
theorem na_Signal_width : NoAttr (CC w E os).K 272 "width" := rfl
theorem na_Signal_signed : NoAttr (CC w E os).K 272 "signed" := rfl
theorem na_Signal_msb : NoAttr (CC w E os).K 272 "msb" := rfl
theorem na_Signal_lsb : NoAttr (CC w E os).K 272 "lsb" := rfl
theorem na_Signal_first : NoAttr (CC w E os).K 272 "first" := rfl
theorem na_Signal_last : NoAttr (CC w E os).K 272 "last" := rfl
theorem na_Signal_init : NoAttr (CC w E os).K 272 "init" := rfl
theorem na_Signal_at : NoAttr (CC w E os).K 272 "at" := rfl
theorem na_Signal_scalar : NoAttr (CC w E os).K 272 "scalar" := rfl
theorem mm_Signal_is_net {σ : AH} {x dx : Addr} {fs : List (Str × Val)} (I : σ x = some (.inst 272 dx)) (hd : σ dx = some (.attrs fs)) (hl : fs.lookup ("is_net" : Str) = none) : MethOf (CC w E os) σ x "is_net" (.ref 241) := meth_inst (.inl I) hd hl cls_Signal rfl rfl
theorem mk_Signal_is_net : KeepF (CC w E os).K (.ref 241) := .inl rfl
theorem cls_Design : ClsOk (CC w E os).K 335 := ⟨rfl, rfl, rfl, rfl⟩
theorem po_Design : plainOver (CC w E os).K 335 = true := rfl
theorem mk_Design : makesIn (CC w E os).K 335 = true := rfl
theorem in_Design : findIn (CC w E os).K (.ref 335) "__init__" = some (some (.ref 290)) := rfl
theorem it_Design : typeIn (CC w E os).K (.ref 290) = some (.type "function") := rfl
theorem na_Design_signals : NoAttr (CC w E os).K 335 "signals" := rfl
theorem na_Design_assigns : NoAttr (CC w E os).K 335 "assigns" := rfl
theorem na_Design_gates : NoAttr (CC w E os).K 335 "gates" := rfl
theorem na_Design_udps : NoAttr (CC w E os).K 335 "udps" := rfl
theorem na_Design_processes : NoAttr (CC w E os).K 335 "processes" := rfl
theorem na_Design_routines : NoAttr (CC w E os).K 335 "routines" := rfl
theorem na_Design_scopes : NoAttr (CC w E os).K 335 "scopes" := rfl
theorem na_Design_tops : NoAttr (CC w E os).K 335 "tops" := rfl
theorem na_Design_ports : NoAttr (CC w E os).K 335 "ports" := rfl
theorem na_Design_maker : NoAttr (CC w E os).K 335 "maker" := rfl
theorem na_Design_by_path : NoAttr (CC w E os).K 335 "by_path" := rfl
theorem mm_Design_add_signal {σ : AH} {x dx : Addr} {fs : List (Str × Val)} (I : σ x = some (.inst 335 dx)) (hd : σ dx = some (.attrs fs)) (hl : fs.lookup ("add_signal" : Str) = none) : MethOf (CC w E os) σ x "add_signal" (.ref 297) := meth_inst (.inl I) hd hl cls_Design rfl rfl
theorem mk_Design_add_signal : KeepF (CC w E os).K (.ref 297) := .inl rfl
theorem cls_Netlist : ClsOk (CC w E os).K 412 := ⟨rfl, rfl, rfl, rfl⟩
theorem po_Netlist : plainOver (CC w E os).K 412 = true := rfl
theorem mk_Netlist : makesIn (CC w E os).K 412 = true := rfl
theorem in_Netlist : findIn (CC w E os).K (.ref 412) "__init__" = some (some (.ref 353)) := rfl
theorem it_Netlist : typeIn (CC w E os).K (.ref 353) = some (.type "function") := rfl
theorem na_Netlist_name : NoAttr (CC w E os).K 412 "name" := rfl
theorem na_Netlist_count : NoAttr (CC w E os).K 412 "count" := rfl
theorem na_Netlist_inputs : NoAttr (CC w E os).K 412 "inputs" := rfl
theorem na_Netlist_outputs : NoAttr (CC w E os).K 412 "outputs" := rfl
theorem na_Netlist_cells : NoAttr (CC w E os).K 412 "cells" := rfl
theorem mm_Netlist_new_net {σ : AH} {x dx : Addr} {fs : List (Str × Val)} (I : σ x = some (.inst 412 dx)) (hd : σ dx = some (.attrs fs)) (hl : fs.lookup ("new_net" : Str) = none) : MethOf (CC w E os) σ x "new_net" (.ref 360) := meth_inst (.inl I) hd hl cls_Netlist rfl rfl
theorem mk_Netlist_new_net : KeepF (CC w E os).K (.ref 360) := .inl rfl
theorem mm_Netlist_new_nets {σ : AH} {x dx : Addr} {fs : List (Str × Val)} (I : σ x = some (.inst 412 dx)) (hd : σ dx = some (.attrs fs)) (hl : fs.lookup ("new_nets" : Str) = none) : MethOf (CC w E os) σ x "new_nets" (.ref 365) := meth_inst (.inl I) hd hl cls_Netlist rfl rfl
theorem mk_Netlist_new_nets : KeepF (CC w E os).K (.ref 365) := .inl rfl
theorem mm_Netlist_add_input {σ : AH} {x dx : Addr} {fs : List (Str × Val)} (I : σ x = some (.inst 412 dx)) (hd : σ dx = some (.attrs fs)) (hl : fs.lookup ("add_input" : Str) = none) : MethOf (CC w E os) σ x "add_input" (.ref 372) := meth_inst (.inl I) hd hl cls_Netlist rfl rfl
theorem mk_Netlist_add_input : KeepF (CC w E os).K (.ref 372) := .inl rfl
theorem mm_Netlist_add_cell {σ : AH} {x dx : Addr} {fs : List (Str × Val)} (I : σ x = some (.inst 412 dx)) (hd : σ dx = some (.attrs fs)) (hl : fs.lookup ("add_cell" : Str) = none) : MethOf (CC w E os) σ x "add_cell" (.ref 387) := meth_inst (.inl I) hd hl cls_Netlist rfl rfl
theorem mk_Netlist_add_cell : KeepF (CC w E os).K (.ref 387) := .inl rfl
theorem mm_Netlist_drive {σ : AH} {x dx : Addr} {fs : List (Str × Val)} (I : σ x = some (.inst 412 dx)) (hd : σ dx = some (.attrs fs)) (hl : fs.lookup ("drive" : Str) = none) : MethOf (CC w E os) σ x "drive" (.ref 395) := meth_inst (.inl I) hd hl cls_Netlist rfl rfl
theorem mk_Netlist_drive : KeepF (CC w E os).K (.ref 395) := .inl rfl
theorem ec : ExcCls (CC w E os).K 52 36 := ⟨⟨_, _, _, _, _, _, _, _, _, _, _, _, _, _, _, _, rfl, by decide, by decide, by decide, by decide⟩, rfl, rfl⟩
theorem es : ExcSet (CC w E os).K 52 := ⟨rfl, rfl, rfl, _, rfl, rfl, by decide, rfl, fun self => by rw [refuseLoop_ref, refuseLoop_ref]; exact PySem.F.store_Exception.passes self, by decide⟩
theorem eh : hasDictIn (CC w E os).K 52 = true := rfl
theorem na_exc_kind : NoAttr (CC w E os).K 52 "kind" := rfl
theorem na_exc_at : NoAttr (CC w E os).K 52 "at" := rfl
theorem na_exc_detail : NoAttr (CC w E os).K 52 "detail" := rfl
end
end
section
structure Cell where
  kind : Str
  out : Int
  ins : List Int
noncomputable abbrev Env0 := Int → Option Int
noncomputable def minI : List Int → Int
  | [] => 0
  | [a] => a
  | a :: l => min a (minI l)
noncomputable def maxI : List Int → Int
  | [] => 0
  | [a] => a
  | a :: l => max a (maxI l)
noncomputable def evC (f : Env0) (c : Cell) : Int :=
  if c.kind = "not" then 1 - (f (c.ins.headD 0)).getD 0 else if c.kind = "buf" then (f (c.ins.headD 0)).getD 0 else if c.kind = "and" then minI (c.ins.map fun i => (f i).getD 0) else maxI (c.ins.map fun i => (f i).getD 0)
noncomputable def stepF (f : Env0) (c : Cell) : Env0 := fun x => if x = c.out then some (evC f c) else f x
noncomputable def ev (f : Env0) (cs : List Cell) : Env0 := cs.foldl stepF f
noncomputable def WFc (f : Env0) : List Cell → Prop
  | [] => True
  | c :: cs => (∀ i ∈ c.ins, (f i).isSome = true) ∧ c.ins ≠ [] ∧ WFc (stepF f c) cs
theorem ev_snoc (f : Env0) (cs : List Cell) (c : Cell) : ev f (cs ++ [c]) = stepF (ev f cs) c := by simp [ev]
theorem WFc_snoc : ∀ {f : Env0} {cs : List Cell} {c : Cell}, WFc f cs → (∀ i ∈ c.ins, (ev f cs i).isSome = true) → c.ins ≠ [] → WFc f (cs ++ [c])
  | _, [], _, _, h, hn => ⟨h, hn, trivial⟩
  | _, _ :: _, _, ⟨a, b, r⟩, h, hn => ⟨a, b, WFc_snoc r h hn⟩
theorem minI_eq : ∀ {l : List Int} {M : Int}, M ∈ l → (∀ a ∈ l, M ≤ a) → minI l = M
  | [a], M, hm, _ => by simp at hm; simp [minI, hm]
  | a :: b :: l, M, hm, hl => by
    have ha := hl a (.head _)
    rcases List.mem_cons.mp hm with rfl | hm
    · have hb : M ≤ minI (b :: l) := by
        have H : ∀ {l : List Int} (b : Int), (∀ x ∈ b :: l, M ≤ x) → M ≤ minI (b :: l) := by
          intro l
          induction l with
          | nil => intro b h; simpa [minI] using h
          | cons c l ih =>
            intro b h
            have h1 := ih c fun x hx => h x (List.mem_cons_of_mem _ hx)
            have h2 := h b (.head _)
            show M ≤ min b (minI (c :: l))
            omega
        exact H b fun x hx => hl x (List.mem_cons_of_mem _ hx)
      show min M (minI (b :: l)) = M
      omega
    · have := minI_eq hm fun x hx => hl x (List.mem_cons_of_mem _ hx)
      show min a (minI (b :: l)) = M
      omega
theorem maxI_eq : ∀ {l : List Int} {M : Int}, M ∈ l → (∀ a ∈ l, a ≤ M) → maxI l = M
  | [a], M, hm, _ => by simp at hm; simp [maxI, hm]
  | a :: b :: l, M, hm, hl => by
    have ha := hl a (.head _)
    rcases List.mem_cons.mp hm with rfl | hm
    · have hb : maxI (b :: l) ≤ M := by
        have H : ∀ {l : List Int} (b : Int), (∀ x ∈ b :: l, x ≤ M) → maxI (b :: l) ≤ M := by
          intro l
          induction l with
          | nil => intro b h; simpa [maxI] using h
          | cons c l ih =>
            intro b h
            have h1 := ih c fun x hx => h x (List.mem_cons_of_mem _ hx)
            have h2 := h b (.head _)
            show max b (maxI (c :: l)) ≤ M
            omega
        exact H b fun x hx => hl x (List.mem_cons_of_mem _ hx)
      show max M (maxI (b :: l)) = M
      omega
    · have := maxI_eq hm fun x hx => hl x (List.mem_cons_of_mem _ hx)
      show max a (maxI (b :: l)) = M
      omega
theorem minI_mem : ∀ {l : List Int}, l ≠ [] → minI l ∈ l
  | [a], _ => by simp [minI]
  | a :: b :: l, _ => by
    have := minI_mem (l := b :: l) (by simp)
    show min a (minI (b :: l)) ∈ _
    by_cases h : a ≤ minI (b :: l)
    · rw [Int.min_eq_left h]; exact .head _
    · rw [Int.min_eq_right (by omega)]; exact .tail _ this
noncomputable def base (line : Int) : Env0 := fun x => if x = 0 then some 0 else if x = 1 then some 1 else if 2 ≤ x ∧ x < 8 then some ((line.fdiv (2 ^ (x - 2).toNat)).fmod 2) else none
noncomputable def evl (cells : List Cell) (line : Int) : Env0 := ev (base line) cells
noncomputable def Valid (cells : List Cell) (x : Int) : Prop := ∀ line, ∃ v, evl cells line x = some v
structure NInv (cnt : Int) (cells : List Cell) : Prop where
  c8 : 8 ≤ cnt
  wf : ∀ line, WFc (base line) cells
  fresh : ∀ line x, cnt ≤ x → evl cells line x = none
  pos : ∀ line x v, evl cells line x = some v → 0 ≤ x
  bit : ∀ line x v, evl cells line x = some v → v = 0 ∨ v = 1
  one : ∀ c ∈ cells, (c.kind = "and" ∧ ∃ i j, c.ins = [i, j]) ∨ (c.kind = "not" ∧ ∃ i, c.ins = [i]) ∨ (c.kind = "buf" ∧ ∃ i, c.ins = [i])
  uni : ∀ line line' x, (evl cells line x).isSome = (evl cells line' x).isSome
  inp : ∀ line x, x < 8 → evl cells line x = base line x
theorem bit_fmod (k : Int) : k.fmod 2 = 0 ∨ k.fmod 2 = 1 := by
  have h1 := Int.fmod_nonneg_of_pos k (b := 2) (by decide)
  have h2 := Int.fmod_lt_of_pos k (b := 2) (by decide)
  omega
theorem base_none {line x : Int} (h : 8 ≤ x) : base line x = none := by unfold base; rw [if_neg (by omega), if_neg (by omega), if_neg (by omega)]
theorem base_bit {line x v : Int} (h : base line x = some v) : 0 ≤ x ∧ x < 8 ∧ (v = 0 ∨ v = 1) := by
  unfold base at h
  split at h
  · cases h; subst x; decide
  · split at h
    · cases h; subst x; decide
    · split at h
      · rename_i hx
        cases h
        exact ⟨by omega, hx.2, bit_fmod _⟩
      · cases h
theorem base_some {line x : Int} (h0 : 0 ≤ x) (h : x < 8) : ∃ v, base line x = some v := by
  unfold base
  split
  · exact ⟨_, rfl⟩
  · split
    · exact ⟨_, rfl⟩
    · rw [if_pos (by omega)]; exact ⟨_, rfl⟩
theorem NInv.start {cnt : Int} (h : 8 ≤ cnt) : NInv cnt [] where
  c8 := h
  wf := fun _ => trivial
  fresh := fun line x hx => base_none (by omega)
  pos := fun line x v e => (base_bit e).1
  bit := fun line x v e => (base_bit e).2.2
  one := fun c hc => by cases hc
  uni := fun line line' x => by
    show (base line x).isSome = (base line' x).isSome
    unfold base
    split
    · rfl
    · split
      · rfl
      · split <;> rfl
  inp := fun line x _ => rfl
theorem NInv.snoc {cnt cnt' : Int} {cells : List Cell} {c : Cell} (I : NInv cnt cells) (h1 : cnt ≤ cnt') (h2 : c.out < cnt') (h0 : 0 ≤ c.out) (hn : ∀ line, evl cells line c.out = none) (hv : ∀ i ∈ c.ins, Valid cells i)
    (hk : (c.kind = "and" ∧ ∃ i j, c.ins = [i, j]) ∨ (c.kind = "not" ∧ ∃ i, c.ins = [i]) ∨ (c.kind = "buf" ∧ ∃ i, c.ins = [i])) :
    NInv cnt' (cells ++ [c]) ∧ ∀ line x, evl (cells ++ [c]) line x = if x = c.out then some (evC (evl cells line) c) else evl cells line x := by
  have key : ∀ line x, evl (cells ++ [c]) line x = if x = c.out then some (evC (evl cells line) c) else evl cells line x := fun line x => by
    show ev (base line) (cells ++ [c]) x = _
    rw [ev_snoc]; rfl
  have hne : c.ins ≠ [] := by
    rcases hk with ⟨_, i, j, h⟩ | ⟨_, i, h⟩ | ⟨_, i, h⟩
    · rw [h]; simp
    · rw [h]; simp
    · rw [h]; simp
  have vb : ∀ line i, i ∈ c.ins → ∃ v, evl cells line i = some v ∧ (v = 0 ∨ v = 1) := fun line i hi => let ⟨v, e⟩ := hv i hi line; ⟨v, e, I.bit _ _ _ e⟩
  have eb : ∀ line, evC (evl cells line) c = 0 ∨ evC (evl cells line) c = 1 := fun line => by
    have hd : ∀ i, c.ins = [i] → ((evl cells line (c.ins.headD 0)).getD 0 = 0 ∨ (evl cells line (c.ins.headD 0)).getD 0 = 1) := fun i e => by
      obtain ⟨v, e1, e2⟩ := vb line i (by rw [e]; exact .head _)
      rw [e]; show (evl cells line i).getD 0 = 0 ∨ (evl cells line i).getD 0 = 1
      rw [e1]; exact e2
    unfold evC
    rcases hk with ⟨k, _, _, _⟩ | ⟨k, i, h⟩ | ⟨k, i, h⟩
    · rw [if_neg (by rw [k]; decide), if_neg (by rw [k]; decide), if_pos k]
      have hm := minI_mem (l := c.ins.map fun i => (evl cells line i).getD 0) (by simpa using hne)
      refine ea_EA (List.mem_map.mp hm) fun i hi e => ?_
      refine ea_EA (vb line i hi) fun v e1 e2 => ?_
      rw [← e, e1]; exact e2
    · rw [if_pos k]
      rcases hd i h with e | e <;> rw [e] <;> decide
    · rw [if_neg (by rw [k]; decide), if_pos k]; exact hd i h
  refine ⟨⟨by have := I.c8; omega, fun line => WFc_snoc (I.wf line) (fun i hi => ?_) hne, fun line x hx => ?_, fun line x v e => ?_, fun line x v e => ?_, fun d hd => ?_, fun line line' x => ?_, fun line x hx => ?_⟩, key⟩
  · refine ea_EA (vb line i hi) fun v e _ => ?_
    show (evl cells line i).isSome = true
    rw [e]; rfl
  · rw [key, if_neg (by omega)]; exact I.fresh line x (by omega)
  · rw [key] at e
    split at e
    · rename_i hx; rw [hx]; exact h0
    · exact I.pos _ _ _ e
  · rw [key] at e
    split at e
    · cases e; exact eb line
    · exact I.bit _ _ _ e
  · rcases List.mem_append.mp hd with hd | hd
    · exact I.one d hd
    · rw [List.mem_singleton.mp hd]; exact hk
  · rw [key, key]
    split
    · rfl
    · exact I.uni line line' x
  · rw [key, if_neg, I.inp line x hx]
    intro z
    have h3 := hn line
    rw [← z, I.inp line x hx] at h3
    obtain ⟨v, e⟩ := base_some (line := line) (x := x) (by omega) hx
    rw [e] at h3; cases h3
theorem NInv.few {cnt : Int} {cells : List Cell} (I : NInv cnt cells) : ∀ c ∈ cells, c.ins.length ≤ 1000 := fun c hc => by
  rcases I.one c hc with ⟨_, i, j, h⟩ | ⟨_, i, h⟩ | ⟨_, i, h⟩ <;> rw [h] <;> simp
theorem NInv.zero {cnt : Int} {cells : List Cell} (I : NInv cnt cells) (line : Int) : evl cells line 0 = some 0 := I.inp line 0 (by decide)
theorem NInv.one' {cnt : Int} {cells : List Cell} (I : NInv cnt cells) (line : Int) : evl cells line 1 = some 1 := I.inp line 1 (by decide)
end
section
noncomputable abbrev netFs (cnt : Int) (il ol cl : Addr) : List (Str × Val) := [("name", .str "m"), ("count", .int cnt), ("inputs", .ref il), ("outputs", .ref ol), ("cells", .ref cl)]
noncomputable abbrev cellV (k : Str) (out : Int) (ins : List Int) : Val := .tup [.str k, .int out, .tup (ins.map .int), .none]
noncomputable def cellsV (cs : List Cell) : List Val := cs.map fun c => cellV c.kind c.out c.ins
theorem cellsV_snoc (cs : List Cell) (k : Str) (o : Int) (i : List Int) : cellsV (cs ++ [⟨k, o, i⟩]) = cellsV cs ++ [cellV k o i] := by simp [cellsV]
theorem cellsV_len (cs : List Cell) : (cellsV cs).length = cs.length := by simp [cellsV]
structure GAd where
  G : Addr
  dG : Addr
  N : Addr
  dN : Addr
  il : Addr
  ol : Addr
  cl : Addr
  md : Addr
  op : Addr
structure GSt where
  cnt : Int
  cells : List Cell
  f : List Atom → Option Val
  zf : Nat
  g : Atom → Option Val
  zg : Nat
structure GAt (σ : AH) (ad : GAd) (st : GSt) : Prop where
  G : σ ad.G = some (.inst 127 ad.dG)
  dG : σ ad.dG = some (.attrs [("netlist", .ref ad.N), ("made", .ref ad.md), ("opposite", .ref ad.op)])
  N : σ ad.N = some (.inst 412 ad.dN)
  dN : σ ad.dN = some (.attrs (netFs st.cnt ad.il ad.ol ad.cl))
  cl : σ ad.cl = some (.list (cellsV st.cells))
  md : σ ad.md = some (.tdict st.f st.zf)
  op : σ ad.op = some (.dict st.g st.zg)
structure GInv (st : GSt) : Prop where
  net : NInv st.cnt st.cells
  made : ∀ ks v, st.f ks = some v → ∃ lo hi out, ks = [.s "and", .i lo, .i hi] ∧ v = .int out ∧ ∀ line, ∃ a b, evl st.cells line lo = some a ∧ evl st.cells line hi = some b ∧ evl st.cells line out = some (min a b)
  opp : ∀ k v, st.g k = some v → ∃ a b, k = .i a ∧ v = .int b ∧ ∀ line, ∃ x, evl st.cells line a = some x ∧ evl st.cells line b = some (1 - x)
  zf : st.zf ≤ st.cells.length
  zg : st.zg ≤ 2 * st.cells.length
noncomputable def Frm (ad : GAd) (σ σ' : AH) : Prop := ∀ a o, σ a = some o → a ≠ ad.dN → a ≠ ad.cl → a ≠ ad.md → a ≠ ad.op → σ' a = some o
structure Ext (k : Nat) (st st' : GSt) : Prop where
  cnt : st.cnt ≤ st'.cnt
  old : ∀ line x, x < st.cnt → evl st'.cells line x = evl st.cells line x
  cells : ∃ extra, st'.cells = st.cells ++ extra ∧ extra.length ≤ k ∧ ∀ c ∈ extra, c.kind ≠ "buf"
theorem Frm.refl {ad : GAd} {σ : AH} : Frm ad σ σ := fun _ _ e _ _ _ _ => e
theorem Frm.trans {ad : GAd} {σ σ' σ'' : AH} (a : Frm ad σ σ') (b : Frm ad σ' σ'') : Frm ad σ σ'' := fun x o e h1 h2 h3 h4 => b x o (a x o e h1 h2 h3 h4) h1 h2 h3 h4
theorem Ext.refl {st : GSt} : Ext 0 st st := ⟨Int.le_refl _, fun _ _ _ => rfl, [], by simp, Nat.le_refl _, fun _ h => by cases h⟩
theorem Ext.trans {j k : Nat} {a b c : GSt} (x : Ext j a b) (y : Ext k b c) : Ext (j + k) a c := by
  refine ⟨Int.le_trans x.cnt y.cnt, fun line z h => (y.old line z (Int.lt_of_lt_of_le h x.cnt)).trans (x.old line z h), ?_⟩
  refine ea_EAA x.cells fun e1 h1 l1 k1 => ?_
  refine ea_EAA y.cells fun e2 h2 l2 k2 => ?_
  refine ⟨e1 ++ e2, by rw [h2, h1, List.append_assoc], by rw [List.length_append]; omega, fun c hc => ?_⟩
  rcases List.mem_append.mp hc with h | h
  · exact k1 c h
  · exact k2 c h
theorem Ext.le {j k : Nat} {a b : GSt} (x : Ext j a b) (h : j ≤ k) : Ext k a b := ⟨x.cnt, x.old, let ⟨e, h1, h2, h3⟩ := x.cells; ⟨e, h1, by omega, h3⟩⟩
theorem Ext.len {k : Nat} {a b : GSt} (x : Ext k a b) : b.cells.length ≤ a.cells.length + k := by
  refine ea_EAA x.cells fun e h1 h2 _ => ?_
  rw [h1, List.length_append]; omega
theorem NInv.lt {cnt : Int} {cells : List Cell} (I : NInv cnt cells) {line x v : Int} (e : evl cells line x = some v) : x < cnt := by
  rcases Int.lt_or_le x cnt with h | h
  · exact h
  · rw [I.fresh line x h] at e; cases e
theorem Ext.mono {k : Nat} {a b : GSt} (x : Ext k a b) (I : NInv a.cnt a.cells) {line y v : Int} (e : evl a.cells line y = some v) : evl b.cells line y = some v := (x.old line y (I.lt e)).trans e
theorem Ext.valid {k : Nat} {a b : GSt} (x : Ext k a b) (I : NInv a.cnt a.cells) {y : Int} (e : Valid a.cells y) : Valid b.cells y := fun line => let ⟨v, h⟩ := e line; ⟨v, x.mono I h⟩
theorem ne_of {σ : AH} {a b : Addr} {o o' : AObj} (h : σ a = some o) (h' : σ b = some o') (hn : o ≠ o') : a ≠ b := fun e => by
  subst e; rw [h] at h'; exact hn (Option.some.inj h')
theorem evC_and2 {f : Env0} {o a b x y : Int} (h1 : f a = some x) (h2 : f b = some y) : evC f ⟨"and", o, [a, b]⟩ = min x y := by
  unfold evC
  dsimp only
  rw [if_neg (by decide), if_neg (by decide), if_pos rfl]
  simp [minI, h1, h2]
theorem evC_not {f : Env0} {o a x : Int} (h1 : f a = some x) : evC f ⟨"not", o, [a]⟩ = 1 - x := by
  unfold evC
  dsimp only
  rw [if_pos rfl]
  simp [h1]
theorem evC_buf {f : Env0} {o a x : Int} (h1 : f a = some x) : evC f ⟨"buf", o, [a]⟩ = x := by
  unfold evC
  dsimp only
  rw [if_neg (by decide), if_pos rfl]
  simp [h1]
theorem GInv.add {st : GSt} (I : GInv st) {kd : Str} {ins : List Int} (hv : ∀ i ∈ ins, Valid st.cells i) (hk : (kd = "and" ∧ ∃ i j, ins = [i, j]) ∨ (kd = "not" ∧ ∃ i, ins = [i])) :
    NInv (st.cnt + 1) (st.cells ++ [⟨kd, st.cnt, ins⟩]) ∧ (∀ line x, evl (st.cells ++ [⟨kd, st.cnt, ins⟩]) line x = if x = st.cnt then some (evC (evl st.cells line) ⟨kd, st.cnt, ins⟩) else evl st.cells line x) :=
  I.net.snoc (c := ⟨kd, st.cnt, ins⟩) (by omega) (show st.cnt < st.cnt + 1 by omega) (show 0 ≤ st.cnt by have := I.net.c8; omega) (fun line => I.net.fresh line _ (Int.le_refl _)) hv (by rcases hk with h | h; exact .inl h; exact .inr (.inl h))
theorem Ext.one {st : GSt} (I : GInv st) {kd : Str} {ins : List Int} {f g zf zg} (hkd : kd ≠ "buf") (hev : ∀ line x, evl (st.cells ++ [⟨kd, st.cnt, ins⟩]) line x = if x = st.cnt then some (evC (evl st.cells line) ⟨kd, st.cnt, ins⟩) else evl st.cells line x) :
    Ext 1 st ⟨st.cnt + 1, st.cells ++ [⟨kd, st.cnt, ins⟩], f, zf, g, zg⟩ :=
  ⟨show st.cnt ≤ st.cnt + 1 by omega, fun line x hx => (hev line x).trans (if_neg (by omega)), [_], rfl, Nat.le_refl _, fun c hc => by rw [List.mem_singleton.mp hc]; exact hkd⟩
theorem set_old {σ : AH} {a b : Addr} {o : AObj} {o' : AObj} (h : σ b = some o) (hn : σ a = none) : (σ.set a o') b = some o := (AH.set_ne (fun e => by subst e; rw [h] at hn; cases hn)).trans h
theorem GAt.fresh {σ : AH} {ad : GAd} {st : GSt} {a : Addr} {o : AObj} (H : GAt σ ad st) (hn : σ a = none) : GAt (σ.set a o) ad st :=
  ⟨set_old H.G hn, set_old H.dG hn, set_old H.N hn, set_old H.dN hn, set_old H.cl hn, set_old H.md hn, set_old H.op hn⟩
theorem Frm.fresh {ad : GAd} {σ σ' : AH} {a : Addr} {o : AObj} (F : Frm ad σ σ') (hn : σ' a = none) : Frm ad σ (σ'.set a o) := fun x o e h1 h2 h3 h4 => set_old (F x o e h1 h2 h3 h4) hn
theorem GAt.own {σ : AH} {ad : GAd} {st : GSt} {a : Addr} {vs ws : List Val} (H : GAt σ ad st) (ha : σ a = some (.list vs)) (hc : a ≠ ad.cl) : GAt (σ.set a (.list ws)) ad st :=
  ⟨(AH.set_ne (ne_of H.G ha (by simp))).trans H.G, (AH.set_ne (ne_of H.dG ha (by simp))).trans H.dG, (AH.set_ne (ne_of H.N ha (by simp))).trans H.N, (AH.set_ne (ne_of H.dN ha (by simp))).trans H.dN,
    (AH.set_ne (Ne.symm hc)).trans H.cl, (AH.set_ne (ne_of H.md ha (by simp))).trans H.md, (AH.set_ne (ne_of H.op ha (by simp))).trans H.op⟩
theorem Frm.list {σ σ' : AH} {ad : GAd} {st : GSt} {a : Addr} {vs : List Val} (F : Frm ad σ σ') (H : GAt σ ad st) (ha : σ a = some (.list vs)) (hc : a ≠ ad.cl) : σ' a = some (.list vs) :=
  F a _ ha (ne_of ha H.dN (by simp)) hc (ne_of ha H.md (by simp)) (ne_of ha H.op (by simp))
end
section
noncomputable def VL (cs : List Cell) (line : Int) (us : List Int) : List Int := us.map fun u => (evl cs line u).getD 0
theorem VL_append (cs : List Cell) (line : Int) (a b : List Int) : VL cs line (a ++ b) = VL cs line a ++ VL cs line b := by simp [VL]
theorem VL_len (cs : List Cell) (line : Int) (a : List Int) : (VL cs line a).length = a.length := by simp [VL]
theorem Ext.vl {k : Nat} {a b : GSt} (x : Ext k a b) (I : NInv a.cnt a.cells) {us : List Int} (hv : ∀ u ∈ us, Valid a.cells u) (line : Int) : VL b.cells line us = VL a.cells line us := by
  unfold VL
  refine List.map_congr_left fun u hu => ?_
  obtain ⟨v, e⟩ := hv u hu line
  rw [e, x.mono I e]
theorem minI_cons {a : Int} {l : List Int} (h : l ≠ []) : minI (a :: l) = min a (minI l) := by
  cases l with
  | nil => exact absurd rfl h
  | cons b l => rfl
theorem maxI_cons {a : Int} {l : List Int} (h : l ≠ []) : maxI (a :: l) = max a (maxI l) := by
  cases l with
  | nil => exact absurd rfl h
  | cons b l => rfl
theorem minI_pair : ∀ {l : List Int} {a b : Int} {t : List Int}, minI (l ++ a :: b :: t) = minI (l ++ min a b :: t)
  | [], a, b, [] => rfl
  | [], a, b, c :: t => by
    show min a (min b (minI (c :: t))) = min (min a b) (minI (c :: t))
    omega
  | x :: l, a, b, t => by
    rw [List.cons_append, List.cons_append, minI_cons (by simp), minI_cons (by simp), minI_pair]
theorem minI_not : ∀ {l : List Int}, l ≠ [] → 1 - minI (l.map fun v => 1 - v) = maxI l
  | [a], _ => by simp [minI, maxI]; omega
  | a :: b :: l, _ => by
    have ih := minI_not (l := b :: l) (by simp)
    rw [List.map_cons, minI_cons (by simp), maxI_cons (by simp), ← ih]
    omega
theorem range_odd {len : Nat} (h : 2 ≤ len) : Builtin.Range.rangeSize 0 ((len : Int) - 1) 2 = ((len / 2 : Nat) : Int) := by
  unfold Builtin.Range.rangeSize
  rw [if_pos (by decide), if_pos (by omega)]
  omega
theorem size_1 {k : Nat} : Builtin.Range.rangeSize 0 (k : Int) 1 = (k : Int) := by
  unfold Builtin.Range.rangeSize
  rw [if_pos (by decide)]
  split <;> omega
theorem small_1 {k : Nat} (h : k ≤ 100000) : Builtin.Range.small 0 (k : Int) 1 = true := by
  unfold Builtin.Range.small
  rw [size_1]
  unfold Builtin.Range.rangeFitsLong
  simp
  omega
theorem small_2 {len : Nat} (h : 2 ≤ len) (h2 : len ≤ 100000) : Builtin.Range.small 0 ((len : Int) - 1) 2 = true := by
  unfold Builtin.Range.small
  rw [range_odd h]
  unfold Builtin.Range.rangeFitsLong
  simp
  omega
theorem range_at {k i : Nat} {c : Int} {a : Int} {v : Val} (h : ((List.range k).map fun (j : Nat) => Val.int (a + j * c))[i]? = some v) : i < k ∧ v = .int (a + i * c) := by
  rw [List.getElem?_map] at h
  refine ea_EA (Option.map_eq_some_iff.mp h) fun j hj ez1 => ?_; subst ez1
  have hlt : i < k := by
    rcases Nat.lt_or_ge i k with h | h
    · exact h
    · rw [List.getElem?_eq_none (by simpa using h)] at hj; cases hj
  rw [List.getElem?_range hlt] at hj; cases hj
  exact ⟨hlt, rfl⟩
end
section
noncomputable def Old (σ σ' : AH) : Prop := ∀ a o, σ a = some o → σ' a = some o
theorem Old.refl {σ : AH} : Old σ σ := fun _ _ e => e
theorem Old.trans {σ σ' σ'' : AH} (x : Old σ σ') (y : Old σ' σ'') : Old σ σ'' := fun a o e => y a o (x a o e)
theorem Old.fresh {σ σ' : AH} {a : Addr} {o : AObj} (x : Old σ σ') (h : σ' a = none) : Old σ (σ'.set a o) := fun b ob e => set_old (x b ob e) h
theorem Old.none {σ σ' : AH} (x : Old σ σ') {a : Addr} (h : σ' a = none) : σ a = none := by
  cases e : σ a with
  | none => rfl
  | some o => rw [x a o e] at h; cases h
theorem Old.gat {σ σ' : AH} {ad : GAd} {st : GSt} (x : Old σ σ') (H : GAt σ ad st) : GAt σ' ad st := ⟨x _ _ H.G, x _ _ H.dG, x _ _ H.N, x _ _ H.dN, x _ _ H.cl, x _ _ H.md, x _ _ H.op⟩
structure Sg where
  a : Addr
  d : Addr
  path : Str
  kind : Str
  width : Nat
  nA : Addr
  nL : List Int
  iA : Addr
  iL : List Int
  uneven : Bool
  pull : Nat → Option Int
  drv : Nat → Option (Addr × List Int)
noncomputable abbrev sigFs (key : Int) (path kind : Str) (width : Int) : List (Str × Val) :=
  [("key", .int key), ("path", .str path), ("kind", .str kind), ("width", .int width), ("signed", .bool false), ("msb", .int (width - 1)), ("lsb", .int 0), ("first", .none), ("last", .none), ("init", .none), ("at", .int (-1)), ("scalar", .bool false)]
structure DAd where
  D : Addr
  dD : Addr
  sl : Addr
  as : Addr
  gs : Addr
  us : Addr
  ps : Addr
  rs : Addr
  ss : Addr
  ts : Addr
  pl : Addr
  bp : Addr
  W : Addr
  dW : Addr
  nd : Addr
  dd : Addr
  id : Addr
  pd : Addr
  ud : Addr
noncomputable abbrev desFs (x : DAd) : List (Str × Val) :=
  [("signals", .ref x.sl), ("assigns", .ref x.as), ("gates", .ref x.gs), ("udps", .ref x.us), ("processes", .ref x.ps), ("routines", .ref x.rs), ("scopes", .ref x.ss), ("tops", .ref x.ts), ("ports", .ref x.pl), ("maker", .none), ("by_path", .ref x.bp)]
noncomputable abbrev wirFs (x : DAd) : List (Str × Val) := [("nets", .ref x.nd), ("drivers", .ref x.dd), ("initial", .ref x.id), ("pulls", .ref x.pd), ("uneven", .ref x.ud)]
noncomputable def kinds9 : List Str := ["wire", "wand", "wor", "reg", "tri1", "tri0", "supply0", "supply1", "event"]
structure SgOk (s : Sg) : Prop where
  kind : s.kind ∈ kinds9
  w1 : 1 ≤ s.width
  w2 : s.width ≤ 2
  nl : s.nL.length = s.width
  il : s.iL.length = s.width
  bits : ∀ v ∈ s.iL, v = 0 ∨ v = 1
  pull : ∀ b v, s.pull b = some v → v = 0 ∨ v = 1
  drv : ∀ b p, s.drv b = some p → p.2 ≠ [] ∧ p.2.length ≤ 3 ∧ ∀ v ∈ p.2, 0 ≤ v ∧ v < 6
structure WAt (κ : AH) (x : DAd) (ss : List Sg) : Prop where
  D : κ x.D = some (.inst 335 x.dD)
  dD : κ x.dD = some (.attrs (desFs x))
  sl : κ x.sl = some (.list (ss.map fun s => .ref s.a))
  pl : κ x.pl = some (.list [.tup [.str "input", .str "i", .int 0]])
  W : κ x.W = some (.inst 174 x.dW)
  dW : κ x.dW = some (.attrs (wirFs x))
  sg : ∀ (i : Nat) s, ss[i]? = some s → κ s.a = some (.inst 272 s.d) ∧ κ s.d = some (.attrs (sigFs i s.path s.kind s.width)) ∧ κ s.nA = some (.list (s.nL.map .int)) ∧ κ s.iA = some (.list (s.iL.map .int))
  nd : ∃ f z, κ x.nd = some (.dict f z) ∧ ∀ (i : Nat) s, ss[i]? = some s → f (.i i) = some (.ref s.nA)
  id : ∃ f z, κ x.id = some (.dict f z) ∧ ∀ (i : Nat) s, ss[i]? = some s → f (.i i) = some (.ref s.iA)
  ud : ∃ f z, κ x.ud = some (.dict f z) ∧ ∀ (i : Nat) s, ss[i]? = some s → (f (.i i)).isSome = s.uneven
  pd : ∃ f z, κ x.pd = some (.tdict f z) ∧ ∀ (i : Nat) s (b : Nat), ss[i]? = some s → f [.i i, .i b] = (s.pull b).map .int
  dd : ∃ f z, κ x.dd = some (.tdict f z) ∧ ∀ (i : Nat) s (b : Nat), ss[i]? = some s → f [.i i, .i b] = (s.drv b).map fun p => .ref p.1
  dl : ∀ (i : Nat) s (b : Nat) p, ss[i]? = some s → s.drv b = some p → κ p.1 = some (.list (p.2.map .int))
theorem WAt.old {κ σ : AH} {x : DAd} {ss : List Sg} (H : WAt κ x ss) (k : Old κ σ) : WAt σ x ss where
  D := k _ _ H.D
  dD := k _ _ H.dD
  sl := k _ _ H.sl
  pl := k _ _ H.pl
  W := k _ _ H.W
  dW := k _ _ H.dW
  sg := fun i s h => let ⟨a, b, c, d⟩ := H.sg i s h; ⟨k _ _ a, k _ _ b, k _ _ c, k _ _ d⟩
  nd := let ⟨f, z, a, b⟩ := H.nd; ⟨f, z, k _ _ a, b⟩
  id := let ⟨f, z, a, b⟩ := H.id; ⟨f, z, k _ _ a, b⟩
  ud := let ⟨f, z, a, b⟩ := H.ud; ⟨f, z, k _ _ a, b⟩
  pd := let ⟨f, z, a, b⟩ := H.pd; ⟨f, z, k _ _ a, b⟩
  dd := let ⟨f, z, a, b⟩ := H.dd; ⟨f, z, k _ _ a, b⟩
  dl := fun i s b p h e => k _ _ (H.dl i s b p h e)
structure Apart (κ : AH) (ad : GAd) : Prop where
  a1 : κ ad.dN = none
  a2 : κ ad.cl = none
  a3 : κ ad.md = none
  a4 : κ ad.op = none
theorem Apart.old {κ σ σ' : AH} {ad : GAd} (A : Apart κ ad) (k : Old κ σ) (F : Frm ad σ σ') : Old κ σ' := fun a o e =>
  F a o (k a o e) (fun z => by rw [z, A.a1] at e; cases e) (fun z => by rw [z, A.a2] at e; cases e) (fun z => by rw [z, A.a3] at e; cases e) (fun z => by rw [z, A.a4] at e; cases e)
noncomputable def rest (s : Sg) (b : Nat) : Int := if s.kind = "reg" ∨ s.kind = "event" then s.iL.getD b 0 else (s.pull b).getD (if s.kind = "tri1" then 1 else 0)
noncomputable def due (s : Sg) (b : Nat) (f : Env0) : Int :=
  if s.kind = "supply0" then 0 else if s.kind = "supply1" then 1 else match s.drv b with
  | none => rest s b
  | some p => if s.kind = "wor" then maxI (p.2.map fun u => (f u).getD 0) else minI (p.2.map fun u => (f u).getD 0)
noncomputable def Refused (s : Sg) (b : Nat) : Prop := s.kind ≠ "supply0" ∧ s.kind ≠ "supply1" ∧ ∃ p, s.drv b = some p ∧ 1 < p.2.length ∧ (s.uneven = true ∨ (s.kind ≠ "wand" ∧ s.kind ≠ "wor" ∧ ∃ v ∈ p.2, v ≠ p.2.headD 0))
end
section
variable {env : Env}
noncomputable def mkD (e : Env0) : Atom → Option Val
  | .i x => (e x).map .int
  | .s _ => none
theorem mkD_put (e : Env0) (k v : Int) : (fun y => if y = Atom.i k then some (Val.int v) else mkD e y) = mkD (fun x => if x = k then some v else e x) := by
  funext y
  cases y with
  | i x =>
    show _ = (if x = k then some v else e x).map Val.int
    by_cases h : x = k
    · subst h; simp
    · rw [if_neg (fun z => h (Atom.i.inj z)), if_neg h]; rfl
  | s x => rw [if_neg (by simp)]; rfl
noncomputable def baseN (k : Nat) (line : Int) : Env0 := fun x => if x = 0 then some 0 else if x = 1 then some 1 else if 2 ≤ x ∧ x < 2 + k then some ((line.fdiv (2 ^ (x - 2).toNat)).fmod 2) else none
theorem baseN_6 (line : Int) : baseN 6 line = base line := rfl
theorem baseN_step (k : Nat) (line : Int) : (fun x => if x = 2 + (k : Int) then some ((line.fdiv (2 ^ k)).fmod 2) else baseN k line x) = baseN (k + 1) line := by
  funext x
  unfold baseN
  by_cases h : x = 2 + (k : Int)
  · rw [if_pos h, if_neg (by omega), if_neg (by omega), if_pos (by omega)]
    have : (x - 2).toNat = k := by omega
    rw [this]
  · rw [if_neg h]
    split
    · rfl
    · split
      · rfl
      · by_cases h2 : 2 ≤ x ∧ x < 2 + (k : Int)
        · rw [if_pos h2, if_pos (by omega)]
        · rw [if_neg h2, if_neg (by omega)]
theorem start_d : (fun y => if y = Atom.i 1 then some (Val.int 1) else if y = Atom.i 0 then some (Val.int 0) else none) = mkD (baseN 0 line) := by
  funext y
  cases y with
  | i x =>
    show _ = (baseN 0 line x).map Val.int
    unfold baseN
    by_cases h1 : x = 1
    · subst h1; rfl
    · rw [if_neg (fun z => h1 (Atom.i.inj z))]
      by_cases h0 : x = 0
      · subst h0; rfl
      · rw [if_neg (fun z => h0 (Atom.i.inj z)), if_neg h0, if_neg h1, if_neg (by omega)]; rfl
  | s x => rfl
theorem WFc_at : ∀ {f : Env0} {cs : List Cell} {i : Nat} {c : Cell}, WFc f cs → cs[i]? = some c → ∀ x ∈ c.ins, (ev f (cs.take i) x).isSome = true
  | _, _ :: _, 0, _, ⟨a, _, _⟩, e, x, hx => by simp at e; subst e; exact a x hx
  | f, d :: cs, i + 1, c, ⟨_, _, r⟩, e, x, hx => by
    simp at e
    show (ev f (d :: cs.take i) x).isSome = true
    exact WFc_at r e x hx
theorem ev_take {f : Env0} {cs : List Cell} {i : Nat} {c : Cell} (e : cs[i]? = some c) : ev f (cs.take (i + 1)) = stepF (ev f (cs.take i)) c := by
  rw [List.take_add_one, e]
  exact ev_snoc f _ c
theorem swaps_true {names : List (Str × NameKind)} (he : EnvIs env names) {elt : Expr} {gens : List Comprehension} {scope : Scope} {pos npos : Pos} {nm : Str} {line : Nat} (h1 : names.lookup nm = some .local) (h2 : (npos.line == pos.line) = true)
    (h3 : (scope.names.any fun (n, k) => n == nm && (k == .local || k == .cell)) = false) : swapsWith (.ListComp elt gens scope pos) (some (.Name nm npos)) line env = pure true := by
  show (pure (env.blockKind == .function && env.kindOf nm == some .local && npos.line == pos.line && !(scope.names.any fun (n, k) => n == nm && (k == .local || k == .cell))) : Sem Bool) = pure true
  have hb : env.blockKind = .function := by unfold Env.blockKind; rw [he.kind]; rfl
  have hk : env.kindOf nm = some .local := by show env.scope.names.lookup nm = _; rw [he.nms]; exact h1
  rw [hb, hk, h2, h3]; rfl
theorem two_pow_small {k : Nat} (h : k ≤ 10) : (2 : Int) ^ k ≠ 0 ∧ ((2 : Int) ^ k).natAbs < 1073741824 := by
  have : k = 0 ∨ k = 1 ∨ k = 2 ∨ k = 3 ∨ k = 4 ∨ k = 5 ∨ k = 6 ∨ k = 7 ∨ k = 8 ∨ k = 9 ∨ k = 10 := by omega
  rcases this with h | h | h | h | h | h | h | h | h | h | h <;> subst h <;> decide
end
section
structure Spot where
  i : Nat
  s : Sg
  b : Nat
noncomputable def rowOf (i : Nat) (s : Sg) (k : Nat) : List Spot := (List.range k).map fun b => ⟨i, s, b⟩
noncomputable def spotsFrom : Nat → List Sg → List Spot
  | _, [] => []
  | i, s :: r => rowOf i s s.width ++ spotsFrom (i + 1) r
noncomputable def spotV (p : Spot) : Val := .tup [.ref p.s.a, .int p.b]
theorem spotsFrom_snoc : ∀ (i : Nat) (l : List Sg) (s : Sg), spotsFrom i (l ++ [s]) = spotsFrom i l ++ rowOf (i + l.length) s s.width
  | i, [], s => by simp [spotsFrom]
  | i, a :: l, s => by
    show rowOf i a a.width ++ spotsFrom (i + 1) (l ++ [s]) = _
    rw [spotsFrom_snoc (i + 1) l s]
    show _ = rowOf i a a.width ++ spotsFrom (i + 1) l ++ _
    rw [List.append_assoc, List.length_cons, show i + 1 + l.length = i + (l.length + 1) by omega]
theorem spots_mem : ∀ {i : Nat} {l : List Sg} {p : Spot}, p ∈ spotsFrom i l → i ≤ p.i ∧ l[p.i - i]? = some p.s ∧ p.b < p.s.width
  | _, [], _, h => by cases h
  | i, a :: l, p, h => by
    rcases List.mem_append.mp h with h | h
    · refine ea_EA (List.mem_map.mp h) fun b hb ez1 => ?_; subst ez1
      exact ⟨Nat.le_refl _, by simp, List.mem_range.mp hb⟩
    · refine ea_AA (spots_mem h) fun h1 h2 h3 => ?_
      refine ⟨by omega, ?_, h3⟩
      have e : p.i - i = (p.i - (i + 1)) + 1 := by omega
      rw [e, List.getElem?_cons_succ]; exact h2
theorem mem_spots : ∀ {i : Nat} {l : List Sg} {j b : Nat} {s : Sg}, l[j]? = some s → b < s.width → (⟨i + j, s, b⟩ : Spot) ∈ spotsFrom i l
  | _, [], _, _, _, h, _ => by simp at h
  | i, a :: l, 0, b, s, h, hb => by
    simp at h; subst h
    exact List.mem_append_left _ (List.mem_map.mpr ⟨b, List.mem_range.mpr hb, rfl⟩)
  | i, a :: l, j + 1, b, s, h, hb => by
    simp at h
    have := mem_spots (i := i + 1) h hb
    rw [show i + (j + 1) = i + 1 + j by omega]
    exact List.mem_append_right _ this
theorem spots_len : ∀ {i : Nat} {l : List Sg}, (∀ s ∈ l, s.width ≤ 2) → (spotsFrom i l).length ≤ 2 * l.length
  | _, [], _ => by simp [spotsFrom]
  | i, a :: l, h => by
    have h1 := h a (.head _)
    have h2 := spots_len (i := i + 1) (l := l) fun s hs => h s (.tail _ hs)
    simp [spotsFrom, rowOf]; omega
end
section
noncomputable def netOf (p : Spot) : Int := p.s.nL.getD p.b 0
noncomputable def nonev (p : Spot) : Bool := decide (p.s.kind ≠ "event")
noncomputable def isBuf (c : Cell) : Bool := decide (c.kind = "buf")
structure CI (cnt0 : Int) (cells0 : List Cell) (ps : List Spot) (st : GSt) : Prop where
  inv : GInv st
  cnt : cnt0 ≤ st.cnt
  cells : ∃ extra, st.cells = cells0 ++ extra ∧ extra.length ≤ 11 * ps.length ∧ (extra.filter isBuf).map (·.out) = (ps.filter nonev).map netOf
  old : ∀ line x, x < cnt0 → x ∉ (ps.filter nonev).map netOf → evl st.cells line x = evl cells0 line x
  val : ∀ p ∈ ps, nonev p = true → ¬ Refused p.s p.b ∧ ∀ line, evl st.cells line (netOf p) = some (due p.s p.b (base line))
theorem CI.event {cnt0 : Int} {cells0 : List Cell} {ps : List Spot} {st : GSt} {p : Spot} (C : CI cnt0 cells0 ps st) (h : nonev p = false) : CI cnt0 cells0 (ps ++ [p]) st := by
  have e : (ps ++ [p]).filter nonev = ps.filter nonev := by rw [List.filter_append]; simp [h]
  refine ⟨C.inv, C.cnt, ?_, ?_, fun q hq hn => ?_⟩
  · rw [e]
    refine ea_EAA C.cells fun x h1 h2 h3 => ?_
    exact ⟨x, h1, by rw [List.length_append]; omega, h3⟩
  · rw [e]; exact C.old
  · rcases List.mem_append.mp hq with hq | hq
    · exact C.val q hq hn
    · rw [List.mem_singleton.mp hq, h] at hn; cases hn
theorem due_base {s : Sg} (ok : SgOk s) {b : Nat} {cnt : Int} {cells : List Cell} (I : NInv cnt cells) (line : Int) : due s b (evl cells line) = due s b (base line) := by
  unfold due
  split
  · rfl
  · split
    · rfl
    · cases hd : s.drv b with
      | none => rfl
      | some p =>
        refine ea_AA (ok.drv b p hd) fun _ _ hv => ?_
        have e : (p.2.map fun u => (evl cells line u).getD 0) = p.2.map fun u => (base line u).getD 0 := List.map_congr_left fun u hu => by rw [I.inp line u (by have := (hv u hu).2; omega)]
        dsimp only
        rw [e]
theorem CI.buf {cnt0 : Int} {cells0 : List Cell} {ps : List Spot} {st st2 : GSt} {p : Spot} {r : Int} (C : CI cnt0 cells0 ps st) (ok : SgOk p.s) (I2 : GInv st2) (X : Ext 10 st st2) (nr : ¬ Refused p.s p.b) (hr : ∀ line, evl st2.cells line r = some (due p.s p.b (evl st.cells line)))
    (h8 : 8 ≤ netOf p) (hlt : netOf p < cnt0) (hn : ∀ line, evl cells0 line (netOf p) = none) (hfresh : netOf p ∉ (ps.filter nonev).map netOf) (hp : nonev p = true) :
    CI cnt0 cells0 (ps ++ [p]) ⟨st2.cnt, st2.cells ++ [⟨"buf", netOf p, [r]⟩], st2.f, st2.zf, st2.g, st2.zg⟩ := by
  have hc2 : cnt0 ≤ st2.cnt := Int.le_trans C.cnt X.cnt
  have none2 : ∀ line, evl st2.cells line (netOf p) = none := fun line => by
    rw [X.old line _ (Int.lt_of_lt_of_le hlt C.cnt), C.old line _ hlt hfresh]; exact hn line
  obtain ⟨NI, hev⟩ := I2.net.snoc (c := ⟨"buf", netOf p, [r]⟩) (Int.le_refl _) (show netOf p < st2.cnt by omega) (show 0 ≤ netOf p by omega) none2 (fun i hi => by rw [List.mem_singleton.mp hi]; exact fun line => ⟨_, hr line⟩) (.inr (.inr ⟨rfl, _, rfl⟩))
  have keep : ∀ {line x v}, evl st2.cells line x = some v → evl (st2.cells ++ [⟨"buf", netOf p, [r]⟩]) line x = some v := fun {line x v} e => by
    rw [hev, if_neg (fun z => by have := none2 line; rw [show x = netOf p from z] at e; rw [e] at this; cases this)]; exact e
  have e : (ps ++ [p]).filter nonev = ps.filter nonev ++ [p] := by rw [List.filter_append]; simp [hp]
  refine ⟨⟨NI, fun ks v e => ?_, fun k v e => ?_, ?_, ?_⟩, hc2, ?_, fun line x hx hm => ?_, fun q hq hnq => ?_⟩
  · refine ea_EEEAA (I2.made ks v e) fun lo hi out e1 e2 e3 => ?_
    exact ⟨lo, hi, out, e1, e2, fun line => let ⟨a, b, h1, h2, h3⟩ := e3 line; ⟨a, b, keep h1, keep h2, keep h3⟩⟩
  · refine ea_EEAA (I2.opp k v e) fun a b e1 e2 e3 => ?_
    exact ⟨a, b, e1, e2, fun line => let ⟨x, h1, h2⟩ := e3 line; ⟨x, keep h1, keep h2⟩⟩
  · have := I2.zf; simp only [List.length_append, List.length_singleton]; omega
  · have := I2.zg; simp only [List.length_append, List.length_singleton]; omega
  · refine ea_EAA C.cells fun x1 h1 h2 h3 => ?_
    refine ea_EAA X.cells fun x2 g1 g2 g3 => ?_
    refine ⟨x1 ++ x2 ++ [⟨"buf", netOf p, [r]⟩], by dsimp only; rw [g1, h1]; simp, by simp only [List.length_append, List.length_singleton]; omega, ?_⟩
    have f2 : x2.filter isBuf = [] := List.filter_eq_nil_iff.mpr fun c hc => by simpa [isBuf] using g3 c hc
    rw [e, List.filter_append, List.filter_append, f2, List.map_append, List.map_append, List.map_append, h3]
    simp [isBuf]
  · rw [e, List.map_append] at hm
    have h1 : x ∉ (ps.filter nonev).map netOf := fun z => hm (List.mem_append_left _ z)
    have h2 : x ≠ netOf p := fun z => hm (List.mem_append_right _ (by simp [z]))
    show evl (st2.cells ++ [⟨"buf", netOf p, [r]⟩]) line x = _
    rw [hev, if_neg h2, X.old line x (Int.lt_of_lt_of_le hx C.cnt)]
    exact C.old line x hx h1
  · rcases List.mem_append.mp hq with hq | hq
    · obtain ⟨a, b⟩ := C.val q hq hnq
      exact ⟨a, fun line => keep (X.mono C.inv.net (b line))⟩
    · rw [List.mem_singleton.mp hq]
      refine ⟨nr, fun line => ?_⟩
      show evl (st2.cells ++ [⟨"buf", netOf p, [r]⟩]) line (netOf p) = _
      rw [hev, if_pos rfl, evC_buf (hr line), due_base ok C.inv.net]
end
section
theorem spotsFrom_append : ∀ (i : Nat) (l r : List Sg), spotsFrom i (l ++ r) = spotsFrom i l ++ spotsFrom (i + l.length) r
  | i, [], r => rfl
  | i, a :: l, r => by
    show rowOf i a a.width ++ spotsFrom (i + 1) (l ++ r) = _
    rw [spotsFrom_append (i + 1) l r]
    show _ = rowOf i a a.width ++ spotsFrom (i + 1) l ++ _
    rw [List.append_assoc, List.length_cons, show i + 1 + l.length = i + (l.length + 1) by omega]
theorem spots_split {ss : List Sg} {i j : Nat} {s : Sg} (hi : i ≠ 0) (hs : ss[i]? = some s) (hj : j < s.width) :
    ∃ r, spotsFrom 1 (ss.drop 1) = (spotsFrom 1 ((ss.drop 1).take (i - 1)) ++ rowOf i s j) ++ ⟨i, s, j⟩ :: r := by
  have hlt : i < ss.length := (List.getElem?_eq_some_iff.mp hs).1
  have h1 : (ss.drop 1)[i - 1]? = some s := by rw [List.getElem?_drop, show 1 + (i - 1) = i by omega]; exact hs
  have hl1 : i - 1 < (ss.drop 1).length := (List.getElem?_eq_some_iff.mp h1).1
  have e : ss.drop 1 = (ss.drop 1).take (i - 1) ++ s :: (ss.drop 1).drop i := by
    have e1 := (List.take_append_drop (i - 1) (ss.drop 1)).symm
    rw [List.drop_eq_getElem_cons hl1, (List.getElem?_eq_some_iff.mp h1).2, show i - 1 + 1 = i by omega] at e1
    exact e1
  have hlen : ((ss.drop 1).take (i - 1)).length = i - 1 := by rw [List.length_take]; omega
  have er : rowOf i s s.width = rowOf i s j ++ ⟨i, s, j⟩ :: ((List.range s.width).drop (j + 1)).map fun b => ⟨i, s, b⟩ := by
    unfold rowOf
    have hjl : j < (List.range s.width).length := by rw [List.length_range]; exact hj
    have e2 := (List.take_append_drop j (List.range s.width)).symm
    rw [List.drop_eq_getElem_cons hjl, List.getElem_range, List.take_range, Nat.min_eq_left (by omega)] at e2
    have e4 := congrArg (List.map fun b => (⟨i, s, b⟩ : Spot)) e2
    rw [List.map_append, List.map_cons] at e4
    exact e4
  refine ⟨(((List.range s.width).drop (j + 1)).map fun b => ⟨i, s, b⟩) ++ spotsFrom (i + 1) ((ss.drop 1).drop i), ?_⟩
  have e3 : spotsFrom 1 (ss.drop 1) = spotsFrom 1 ((ss.drop 1).take (i - 1)) ++ spotsFrom (1 + (i - 1)) (s :: (ss.drop 1).drop i) := by
    have := congrArg (spotsFrom 1) e
    rw [spotsFrom_append, hlen] at this
    exact this
  rw [e3, show 1 + (i - 1) = i by omega]
  show _ ++ (rowOf i s s.width ++ spotsFrom (i + 1) _) = _
  rw [er]
  simp
theorem fresh_net {ss : List Sg} {i j : Nat} {s : Sg} (nd : ((spotsFrom 1 (ss.drop 1)).map netOf).Nodup) (hi : i ≠ 0) (hs : ss[i]? = some s) (hj : j < s.width) :
    netOf ⟨i, s, j⟩ ∉ ((spotsFrom 1 ((ss.drop 1).take (i - 1)) ++ rowOf i s j).filter nonev).map netOf := by
  obtain ⟨r, e⟩ := spots_split hi hs hj
  rw [e, List.map_append, List.map_cons] at nd
  intro h
  refine ea_EA (List.mem_map.mp h) fun q hq e2 => ?_
  have hq' := (List.mem_filter.mp hq).1
  exact (List.nodup_append.mp nd).2.2 (netOf q) (List.mem_map.mpr ⟨q, hq', rfl⟩) (netOf ⟨i, s, j⟩) (.head _) e2
theorem spots_row {ss : List Sg} {i : Nat} {s : Sg} (hi : i ≠ 0) (hs : ss[i]? = some s) : spotsFrom 1 ((ss.drop 1).take (i + 1 - 1)) = spotsFrom 1 ((ss.drop 1).take (i - 1)) ++ rowOf i s s.width := by
  have h1 : (ss.drop 1)[i - 1]? = some s := by rw [List.getElem?_drop, show 1 + (i - 1) = i by omega]; exact hs
  have hl1 : i - 1 < (ss.drop 1).length := (List.getElem?_eq_some_iff.mp h1).1
  have e : (ss.drop 1).take (i + 1 - 1) = (ss.drop 1).take (i - 1) ++ [s] := by
    rw [show i + 1 - 1 = (i - 1) + 1 by omega, List.take_add_one, h1]; rfl
  rw [e, spotsFrom_snoc, List.length_take, Nat.min_eq_left (by omega), show 1 + (i - 1) = i by omega]
end
section
noncomputable abbrev Ent := Addr × AObj
structure Has (σ : AH) (L : List Ent) : Prop where
  at_ : ∀ p ∈ L, σ p.1 = some p.2
  nd : (L.map (·.1)).Nodup
theorem Has.nil {σ : AH} : Has σ [] := ⟨(fun _ h => by cases h), List.nodup_nil⟩
theorem Has.get {σ : AH} {L : List Ent} (H : Has σ L) (k : Nat) {a : Addr} {o : AObj} (e : L[k]? = some (a, o)) : σ a = some o := H.at_ _ (List.mem_of_getElem? e)
theorem Has.mem {σ : AH} {L : List Ent} (H : Has σ L) {a : Addr} {o : AObj} (e : (a, o) ∈ L) : σ a = some o := H.at_ _ e
theorem Has.skip {σ : AH} {L : List Ent} {a : Addr} {o : AObj} (H : Has σ L) (h : σ a = none) : Has (σ.set a o) L := ⟨fun p hp => set_old (H.at_ p hp) h, H.nd⟩
theorem Has.new {σ : AH} {L : List Ent} {a : Addr} {o : AObj} (H : Has σ L) (h : σ a = none) : Has (σ.set a o) ((a, o) :: L) := by
  refine ⟨fun p hp => ?_, ?_⟩
  · rcases List.mem_cons.mp hp with rfl | hp
    · exact AH.set_self _ _ _
    · exact set_old (H.at_ p hp) h
  · rw [List.map_cons, List.nodup_cons]
    refine ⟨fun hm => ?_, H.nd⟩
    refine ea_EA (List.mem_map.mp hm) fun p hp e => ?_
    have := H.at_ p hp
    rw [e, h] at this; cases this
theorem Has.perm {σ : AH} {L L' : List Ent} (H : Has σ L) (p : L.Perm L') : Has σ L' := ⟨fun q hq => H.at_ q (p.mem_iff.mpr hq), (p.map _).nodup_iff.mp H.nd⟩
theorem Has.sub {σ : AH} {L L' : List Ent} (H : Has σ L) (s : L'.Sublist L) : Has σ L' := ⟨fun q hq => H.at_ q (s.mem hq), (s.map _).nodup H.nd⟩
theorem set_keys : ∀ {L : List Ent} {k : Nat} {a : Addr} {o o' : AObj}, L[k]? = some (a, o) → (L.set k (a, o')).map (·.1) = L.map (·.1)
  | [], _, _, _, _, h => by simp at h
  | _ :: _, 0, _, _, _, h => by simp at h; subst h; rfl
  | p :: L, k + 1, a, o, o', h => by
    simp at h
    show p.1 :: (L.set k (a, o')).map (·.1) = p.1 :: L.map (·.1)
    rw [set_keys h]
theorem set_mem : ∀ {L : List Ent} {k : Nat} {a : Addr} {o o' : AObj} {q : Ent}, (L.map (·.1)).Nodup → L[k]? = some (a, o) → q ∈ L.set k (a, o') → q = (a, o') ∨ (q ∈ L ∧ q.1 ≠ a)
  | [], _, _, _, _, _, _, h, _ => by simp at h
  | p :: L, 0, a, o, o', q, nd, h, hq => by
    simp at h; subst h
    rw [List.map_cons, List.nodup_cons] at nd
    rcases List.mem_cons.mp hq with rfl | hq
    · exact .inl rfl
    · exact .inr ⟨.tail _ hq, fun e => nd.1 (by rw [← e]; exact List.mem_map.mpr ⟨q, hq, rfl⟩)⟩
  | p :: L, k + 1, a, o, o', q, nd, h, hq => by
    simp at h
    rw [List.map_cons, List.nodup_cons] at nd
    rcases List.mem_cons.mp hq with rfl | hq
    · refine .inr ⟨.head _, fun e => nd.1 ?_⟩
      rw [e]; exact List.mem_map.mpr ⟨(a, o), List.mem_of_getElem? h, rfl⟩
    · rcases set_mem nd.2 h hq with e | ⟨e1, e2⟩
      · exact .inl e
      · exact .inr ⟨.tail _ e1, e2⟩
theorem Has.upd {σ : AH} {L : List Ent} (H : Has σ L) (k : Nat) {a : Addr} {o o' : AObj} (e : L[k]? = some (a, o)) : Has (σ.set a o') (L.set k (a, o')) := by
  refine ⟨fun q hq => ?_, by rw [set_keys e]; exact H.nd⟩
  rcases set_mem H.nd e hq with rfl | ⟨h1, h2⟩
  · exact AH.set_self _ _ _
  · exact (AH.set_ne h2).trans (H.at_ q h1)
structure WA where
  x : DAd
  N : Addr
  dN : Addr
  il : Addr
  ol : Addr
  cl : Addr
  ch : Addr
  c0 : Addr
  xs : List Int
structure WS where
  cnt : Int
  ins : List Val
  pts : List Val
  sgs : List Val
  nf : Atom → Option Val
  nz : Nat
  df : List Atom → Option Val
  dz : Nat
  jf : Atom → Option Val
  jz : Nat
  pf : List Atom → Option Val
  pz : Nat
  uf : Atom → Option Val
  uz : Nat
  bf : Atom → Option Val
  bz : Nat
noncomputable def main (A : WA) (sp : Int) (s : WS) : List Ent :=
  [(A.x.ud, .dict s.uf s.uz), (A.x.pd, .tdict s.pf s.pz), (A.x.id, .dict s.jf s.jz), (A.x.dd, .tdict s.df s.dz), (A.x.nd, .dict s.nf s.nz), (A.x.W, .inst 174 A.x.dW), (A.x.dW, .attrs (wirFs A.x)),
   (A.cl, .list []), (A.il, .list s.ins), (A.N, .inst 412 A.dN), (A.dN, .attrs (netFs s.cnt A.il A.ol A.cl)),
   (A.x.bp, .dict s.bf s.bz), (A.x.pl, .list s.pts), (A.x.sl, .list s.sgs), (A.x.D, .inst 335 A.x.dD), (A.x.dD, .attrs (desFs A.x)),
   (A.ch, .list [.ref A.c0, .int sp]), (A.c0, .list (A.xs.map .int))]
example (A : WA) (sp : Int) (s : WS) (R : List Ent) (σ : AH) (H : Has σ (main A sp s ++ R)) : σ A.x.dd = some (.tdict s.df s.dz) := H.get 3 rfl
example (A : WA) (sp : Int) (s : WS) (R : List Ent) (σ : AH) (H : Has σ (main A sp s ++ R)) : Has (σ.set A.dN (.attrs (netFs (s.cnt + 1) A.il A.ol A.cl))) (main A sp { s with cnt := s.cnt + 1 } ++ R) := H.upd 10 rfl
theorem Has.new2 {σ : AH} {M R : List Ent} {a : Addr} {o : AObj} (H : Has σ (M ++ R)) (h : σ a = none) : Has (σ.set a o) (M ++ (a, o) :: R) := (H.new h).perm List.perm_middle.symm
noncomputable def dE : Option (Addr × List Int) → List Ent
  | none => []
  | some p => [(p.1, .list (p.2.map .int))]
end
section
theorem Has.ne {σ : AH} {L : List Ent} (H : Has σ L) {i j : Nat} {a b : Addr} {o o' : AObj} (hij : i ≠ j) (e : L[i]? = some (a, o)) (e' : L[j]? = some (b, o')) : a ≠ b := by
  intro h
  subst h
  have h1 : (L.map (·.1))[i]? = some a := by rw [List.getElem?_map, e]; rfl
  have h2 : (L.map (·.1))[j]? = some a := by rw [List.getElem?_map, e']; rfl
  obtain ⟨l1, e1⟩ := List.getElem?_eq_some_iff.mp h1
  obtain ⟨l2, e2⟩ := List.getElem?_eq_some_iff.mp h2
  exact hij ((List.getElem_inj (h₀ := l1) (h₁ := l2) H.nd).mp (e1.trans e2.symm))
noncomputable def netRow (p : Sg) : List Int := (List.range p.width).map fun b => p.nL.getD b 0
noncomputable def netsOf (ss : List Sg) : List Int := ((ss.map netRow).drop 1).flatten
theorem spots_nets : ∀ (i : Nat) (l : List Sg), (spotsFrom i l).map netOf = (l.map netRow).flatten
  | _, [] => rfl
  | i, s :: r => by
    show (rowOf i s s.width ++ spotsFrom (i + 1) r).map netOf = netRow s ++ (r.map netRow).flatten
    rw [List.map_append, spots_nets (i + 1) r]
    congr 1
    simp [rowOf, netRow, netOf, Function.comp_def]
theorem netsOf_spots (ss : List Sg) : (spotsFrom 1 (ss.drop 1)).map netOf = netsOf ss := by rw [spots_nets, List.map_drop]; rfl
structure WOk (s : WS) (ss : List Sg) (R : List Ent) (B : Nat) : Prop where
  sgs : s.sgs = ss.map fun p => .ref p.a
  ent : ∀ (i : Nat) p, ss[i]? = some p → (p.a, AObj.inst 272 p.d) ∈ R ∧ (p.d, AObj.attrs (sigFs i p.path p.kind p.width)) ∈ R ∧ (p.nA, AObj.list (p.nL.map .int)) ∈ R ∧ (p.iA, AObj.list (p.iL.map .int)) ∈ R
  nf : ∀ (i : Nat) p, ss[i]? = some p → s.nf (.i i) = some (.ref p.nA)
  jf : ∀ (i : Nat) p, ss[i]? = some p → s.jf (.i i) = some (.ref p.iA)
  uf : ∀ (i : Nat) p, ss[i]? = some p → (s.uf (.i i)).isSome = p.uneven
  pf : ∀ (i : Nat) p (b : Nat), ss[i]? = some p → s.pf [.i i, .i b] = (p.pull b).map .int
  df : ∀ (i : Nat) p (b : Nat), ss[i]? = some p → s.df [.i i, .i b] = (p.drv b).map fun q => .ref q.1
  dl : ∀ (i : Nat) p (b : Nat) q, ss[i]? = some p → p.drv b = some q → (q.1, AObj.list (q.2.map .int)) ∈ R
  uN : ∀ i : Nat, ss.length ≤ i → s.uf (.i i) = none
  pN : ∀ i b : Nat, ss.length ≤ i → s.pf [.i i, .i b] = none
  dN : ∀ i b : Nat, ss.length ≤ i → s.df [.i i, .i b] = none
  ok : ∀ p ∈ ss, SgOk p
  c8 : 8 ≤ s.cnt
  net : ∀ v ∈ netsOf ss, 8 ≤ v ∧ v < s.cnt
  nnd : (netsOf ss).Nodup
  bd : s.nz ≤ B ∧ s.dz ≤ B ∧ s.jz ≤ B ∧ s.pz ≤ B ∧ s.uz ≤ B ∧ s.bz ≤ B
theorem WOk.le {s : WS} {ss : List Sg} {R : List Ent} {B B' : Nat} (W : WOk s ss R B) (h : B ≤ B') : WOk s ss R B' :=
  { W with bd := by have := W.bd; omega }
structure Alike (p p' : Sg) : Prop where
  a : p'.a = p.a
  d : p'.d = p.d
  path : p'.path = p.path
  kind : p'.kind = p.kind
  width : p'.width = p.width
  nA : p'.nA = p.nA
  nL : p'.nL = p.nL
  iA : p'.iA = p.iA
  iL : p'.iL = p.iL
theorem set_get {ss : List Sg} {i j : Nat} {p p' q : Sg} (hi : ss[i]? = some p) (h : (ss.set i p')[j]? = some q) : (j = i ∧ q = p') ∨ (j ≠ i ∧ ss[j]? = some q) := by
  by_cases e : j = i
  · subst e
    rw [List.getElem?_set_self (List.getElem?_eq_some_iff.mp hi).1] at h
    exact .inl ⟨rfl, (Option.some.inj h).symm⟩
  · rw [List.getElem?_set_ne (Ne.symm e)] at h
    exact .inr ⟨e, h⟩
theorem map_alike {α : Type} {g : Sg → α} {ss : List Sg} {i : Nat} {p p' : Sg} (hi : ss[i]? = some p) (h : g p' = g p) : (ss.set i p').map g = ss.map g := by
  obtain ⟨hl, e⟩ := List.getElem?_eq_some_iff.mp hi
  rw [List.map_set, h, ← e]
  refine List.ext_getElem (by simp) fun j h1 h2 => ?_
  by_cases hj : i = j
  · subst hj; simp
  · rw [List.getElem_set_ne hj]
theorem Alike.row {p p' : Sg} (L : Alike p p') : netRow p' = netRow p := by unfold netRow; rw [L.width, L.nL]
theorem WOk.alter {s s' : WS} {ss : List Sg} {R R' : List Ent} {B B' i : Nat} {p p' : Sg} (W : WOk s ss R B) (hi : ss[i]? = some p) (L : Alike p p') (h1 : s'.sgs = s.sgs) (h2 : s'.cnt = s.cnt) (h3 : s'.nf = s.nf) (h4 : s'.jf = s.jf)
    (hu : ∀ j : Nat, j ≠ i → s'.uf (.i j) = s.uf (.i j)) (hp : ∀ j b : Nat, j ≠ i → s'.pf [.i j, .i b] = s.pf [.i j, .i b]) (hd : ∀ j b : Nat, j ≠ i → s'.df [.i j, .i b] = s.df [.i j, .i b])
    (hu' : (s'.uf (.i i)).isSome = p'.uneven) (hp' : ∀ b : Nat, s'.pf [.i i, .i b] = (p'.pull b).map .int) (hd' : ∀ b : Nat, s'.df [.i i, .i b] = (p'.drv b).map fun q => .ref q.1)
    (hR : ∀ e ∈ R, e ∈ R') (hl : ∀ b q, p'.drv b = some q → (q.1, AObj.list (q.2.map .int)) ∈ R') (ok : SgOk p') (bd : s'.nz ≤ B' ∧ s'.dz ≤ B' ∧ s'.jz ≤ B' ∧ s'.pz ≤ B' ∧ s'.uz ≤ B' ∧ s'.bz ≤ B') : WOk s' (ss.set i p') R' B' where
  sgs := by rw [h1, W.sgs, map_alike (g := fun p => Val.ref p.a) hi (by rw [L.a])]
  ent := fun j q hq => by
    rcases set_get hi hq with ⟨rfl, rfl⟩ | ⟨_, hq⟩
    · refine ea_AAA (W.ent _ _ hi) fun a b c d => ?_
      rw [L.a, L.d, L.path, L.kind, L.width, L.nA, L.nL, L.iA, L.iL]
      exact ⟨hR _ a, hR _ b, hR _ c, hR _ d⟩
    · refine ea_AAA (W.ent _ _ hq) fun a b c d => ?_
      exact ⟨hR _ a, hR _ b, hR _ c, hR _ d⟩
  nf := fun j q hq => by
    rw [h3]
    rcases set_get hi hq with ⟨rfl, rfl⟩ | ⟨_, hq⟩
    · rw [L.nA]; exact W.nf _ _ hi
    · exact W.nf _ _ hq
  jf := fun j q hq => by
    rw [h4]
    rcases set_get hi hq with ⟨rfl, rfl⟩ | ⟨_, hq⟩
    · rw [L.iA]; exact W.jf _ _ hi
    · exact W.jf _ _ hq
  uf := fun j q hq => by
    rcases set_get hi hq with ⟨rfl, rfl⟩ | ⟨hne, hq⟩
    · exact hu'
    · rw [hu j hne]; exact W.uf _ _ hq
  pf := fun j q b hq => by
    rcases set_get hi hq with ⟨rfl, rfl⟩ | ⟨hne, hq⟩
    · exact hp' b
    · rw [hp j b hne]; exact W.pf _ _ _ hq
  df := fun j q b hq => by
    rcases set_get hi hq with ⟨rfl, rfl⟩ | ⟨hne, hq⟩
    · exact hd' b
    · rw [hd j b hne]; exact W.df _ _ _ hq
  dl := fun j q b r hq hr => by
    rcases set_get hi hq with ⟨rfl, rfl⟩ | ⟨hne, hq⟩
    · exact hl b r hr
    · exact hR _ (W.dl _ _ _ _ hq hr)
  uN := fun j hj => by
    rw [List.length_set] at hj
    rw [hu j (by have := (List.getElem?_eq_some_iff.mp hi).1; omega)]; exact W.uN j hj
  pN := fun j b hj => by
    rw [List.length_set] at hj
    rw [hp j b (by have := (List.getElem?_eq_some_iff.mp hi).1; omega)]; exact W.pN j b hj
  dN := fun j b hj => by
    rw [List.length_set] at hj
    rw [hd j b (by have := (List.getElem?_eq_some_iff.mp hi).1; omega)]; exact W.dN j b hj
  ok := fun q hq => by
    rcases List.mem_or_eq_of_mem_set hq with h | rfl
    · exact W.ok q h
    · exact ok
  c8 := by rw [h2]; exact W.c8
  net := by
    have : netsOf (ss.set i p') = netsOf ss := by unfold netsOf; rw [map_alike hi L.row]
    rw [this, h2]; exact W.net
  nnd := by
    have : netsOf (ss.set i p') = netsOf ss := by unfold netsOf; rw [map_alike hi L.row]
    rw [this]; exact W.nnd
  bd := bd
end
section
theorem key1 {i j : Nat} (h : j ≠ i) : Atom.i (j : Int) ≠ Atom.i (i : Int) := fun e => h (by have := Atom.i.inj e; omega)
theorem key2 {i j a b : Nat} (h : ¬ (j = i ∧ b = a)) : [Atom.i (j : Int), .i (b : Int)] ≠ [Atom.i (i : Int), .i (a : Int)] := fun e => by
  injection e with e1 e2
  injection e2 with e2 _
  exact h ⟨by have := Atom.i.inj e1; omega, by have := Atom.i.inj e2; omega⟩
theorem WOk.mark {s : WS} {ss : List Sg} {R : List Ent} {B i : Nat} {p : Sg} {v : Val} (W : WOk s ss R B) (hi : ss[i]? = some p) :
    WOk { s with uf := fun x => if x = .i i then some v else s.uf x, uz := s.uz + 1 } (ss.set i { p with uneven := true }) R (B + 1) := by
  have ok := W.ok p (List.mem_of_getElem? hi)
  refine W.alter hi ⟨rfl, rfl, rfl, rfl, rfl, rfl, rfl, rfl, rfl⟩ rfl rfl rfl rfl (fun j hj => if_neg (key1 hj)) (fun _ _ _ => rfl) (fun _ _ _ => rfl) ?_ (fun b => W.pf i p b hi) (fun b => W.df i p b hi) (fun _ h => h) (fun b q h => W.dl i p b q hi h) ⟨ok.kind, ok.w1, ok.w2, ok.nl, ok.il, ok.bits, ok.pull, ok.drv⟩ ?_
  · simp
  · have := W.bd; dsimp only; omega
theorem WOk.pullAt {s : WS} {ss : List Sg} {R : List Ent} {B i j : Nat} {p : Sg} {v : Int} (W : WOk s ss R B) (hi : ss[i]? = some p) (hv : v = 0 ∨ v = 1) :
    WOk { s with pf := fun x => if x = [.i i, .i j] then some (.int v) else s.pf x, pz := s.pz + 1 } (ss.set i { p with pull := fun b => if b = j then some v else p.pull b }) R (B + 1) := by
  have ok := W.ok p (List.mem_of_getElem? hi)
  refine W.alter hi ⟨rfl, rfl, rfl, rfl, rfl, rfl, rfl, rfl, rfl⟩ rfl rfl rfl rfl (fun _ _ => rfl) (fun k b hk => if_neg (key2 fun z => hk z.1)) (fun _ _ _ => rfl) (W.uf i p hi) (fun b => ?_) (fun b => W.df i p b hi) (fun _ h => h) (fun b q h => W.dl i p b q hi h) ⟨ok.kind, ok.w1, ok.w2, ok.nl, ok.il, ok.bits, fun b u h => ?_, ok.drv⟩ ?_
  · dsimp only
    by_cases hb : b = j
    · subst hb; rw [if_pos rfl, if_pos rfl]; rfl
    · rw [if_neg (key2 fun z => hb z.2), if_neg hb]; exact W.pf i p b hi
  · dsimp only at h
    split at h
    · cases h; exact hv
    · exact ok.pull b u h
  · have := W.bd; dsimp only; omega
structure DrvW (s : WS) (i j t : Nat) (cur : Option (Addr × List Int)) (f : List Atom → Option Val) (z : Nat) : Prop where
  f : ∀ x, f x = if x = [.i i, .i j] then cur.map fun p => .ref p.1 else s.df x
  z : z ≤ s.dz + t
  len : (cur.elim [] (·.2)).length = t
  ne : ∀ p, cur = some p → p.2 ≠ []
  v : ∀ p, cur = some p → ∀ v ∈ p.2, 0 ≤ v ∧ v < 6
theorem DrvW.start {s : WS} {i j : Nat} (h : s.df [.i i, .i j] = none) : DrvW s i j 0 none s.df s.dz := ⟨fun x => by
  by_cases e : x = [.i i, .i j]
  · rw [if_pos e, e, h]; rfl
  · rw [if_neg e], Nat.le_refl _, rfl, (fun p h => by cases h), (fun p h => by cases h)⟩
theorem DrvW.step {s : WS} {i j t z' : Nat} {cur : Option (Addr × List Int)} {f : List Atom → Option Val} {z : Nat} {v : Int} {p' : Addr × List Int} (D : DrvW s i j t cur f z) (hv : 0 ≤ v ∧ v < 6) (hp : p'.2 = cur.elim [] (·.2) ++ [v]) (hz : z' ≤ z + 1) :
    DrvW s i j (t + 1) (some p') (fun x => if x = [.i i, .i j] then some (.ref p'.1) else f x) z' := by
  refine ⟨fun x => ?_, by have := D.z; omega, ?_, fun p e => ?_, fun p e u hu => ?_⟩
  · by_cases e : x = [.i i, .i j]
    · rw [if_pos e, if_pos e]; rfl
    · rw [if_neg e, if_neg e, D.f, if_neg e]
  · show p'.2.length = _
    rw [hp, List.length_append, D.len]; rfl
  · cases e; rw [hp]; simp
  · cases e
    rw [hp] at hu
    rcases List.mem_append.mp hu with h | h
    · cases cur with
      | none => cases h
      | some q => exact D.v q rfl u h
    · rw [List.mem_singleton.mp h]; exact hv
theorem WOk.drvAt {s : WS} {ss : List Sg} {R : List Ent} {B i j t z : Nat} {p : Sg} {cur : Option (Addr × List Int)} {f : List Atom → Option Val} (W : WOk s ss R B) (hi : ss[i]? = some p) (D : DrvW s i j t cur f z) (ht : t ≤ 3) :
    WOk { s with df := f, dz := z } (ss.set i { p with drv := fun b => if b = j then cur else p.drv b }) (dE cur ++ R) (B + 3) := by
  have ok := W.ok p (List.mem_of_getElem? hi)
  refine W.alter hi ⟨rfl, rfl, rfl, rfl, rfl, rfl, rfl, rfl, rfl⟩ rfl rfl rfl rfl (fun _ _ => rfl) (fun _ _ _ => rfl) (fun k b hk => (D.f _).trans (if_neg (key2 fun z => hk z.1))) (W.uf i p hi) (fun b => W.pf i p b hi) (fun b => ?_) (fun _ h => List.mem_append_right _ h) (fun b q h => ?_) ⟨ok.kind, ok.w1, ok.w2, ok.nl, ok.il, ok.bits, ok.pull, fun b q h => ?_⟩ ?_
  · dsimp only
    rw [D.f]
    by_cases hb : b = j
    · subst hb; rw [if_pos rfl, if_pos rfl]
    · rw [if_neg (key2 fun z => hb z.2), if_neg hb]; exact W.df i p b hi
  · dsimp only at h
    split at h
    · rw [h]; exact List.mem_append_left _ (.head _)
    · exact List.mem_append_right _ (W.dl i p b q hi h)
  · dsimp only at h
    split at h
    · refine ⟨D.ne q h, ?_, D.v q h⟩
      have := D.len
      rw [h] at this
      dsimp only [Option.elim] at this
      omega
    · exact ok.drv b q h
  · have := W.bd; have := D.z; dsimp only; omega
theorem netsOf_snoc {ss : List Sg} {p : Sg} (h : 1 ≤ ss.length) : netsOf (ss ++ [p]) = netsOf ss ++ netRow p := by
  unfold netsOf
  rw [List.map_append, List.drop_append_of_le_length (by rw [List.length_map]; exact h), List.flatten_append]
  simp
theorem get_snoc {ss : List Sg} {p q : Sg} {i : Nat} (h : (ss ++ [p])[i]? = some q) : (i = ss.length ∧ q = p) ∨ (i < ss.length ∧ ss[i]? = some q) := by
  rcases Nat.lt_trichotomy i ss.length with hl | hl | hl
  · rw [List.getElem?_append_left hl] at h; exact .inr ⟨hl, h⟩
  · subst hl
    rw [List.getElem?_append_right (Nat.le_refl _)] at h
    simp at h; exact .inl ⟨rfl, h.symm⟩
  · rw [List.getElem?_append_right (by omega), List.getElem?_eq_none (by simp; omega)] at h; cases h
theorem WOk.snoc {s s' : WS} {ss : List Sg} {R R' : List Ent} {B B' : Nat} {p : Sg} (W : WOk s ss R B) (h1 : s'.sgs = s.sgs ++ [.ref p.a]) (hl : 1 ≤ ss.length)
    (hn : s'.nf = fun x => if x = .i ss.length then some (.ref p.nA) else s.nf x) (hj : s'.jf = fun x => if x = .i ss.length then some (.ref p.iA) else s.jf x) (hu : s'.uf = s.uf) (hp : s'.pf = s.pf) (hd : s'.df = s.df)
    (hR : ∀ e ∈ R, e ∈ R') (he : (p.a, AObj.inst 272 p.d) ∈ R' ∧ (p.d, AObj.attrs (sigFs ss.length p.path p.kind p.width)) ∈ R' ∧ (p.nA, AObj.list (p.nL.map .int)) ∈ R' ∧ (p.iA, AObj.list (p.iL.map .int)) ∈ R')
    (ok : SgOk p) (e1 : p.uneven = false) (e2 : ∀ b, p.pull b = none) (e3 : ∀ b, p.drv b = none) (hc : s.cnt ≤ s'.cnt) (hnet : ∀ v ∈ netRow p, s.cnt ≤ v ∧ v < s'.cnt) (hnd : (netRow p).Nodup)
    (bd : s'.nz ≤ B' ∧ s'.dz ≤ B' ∧ s'.jz ≤ B' ∧ s'.pz ≤ B' ∧ s'.uz ≤ B' ∧ s'.bz ≤ B') : WOk s' (ss ++ [p]) R' B' where
  sgs := by rw [h1, W.sgs, List.map_append]; rfl
  ent := fun j q hq => by
    rcases get_snoc hq with ⟨rfl, rfl⟩ | ⟨_, hq⟩
    · exact he
    · refine ea_AAA (W.ent _ _ hq) fun a b c d => ?_
      exact ⟨hR _ a, hR _ b, hR _ c, hR _ d⟩
  nf := fun j q hq => by
    rw [hn]
    rcases get_snoc hq with ⟨rfl, rfl⟩ | ⟨hj, hq⟩
    · exact if_pos rfl
    · exact (if_neg (key1 (by omega))).trans (W.nf _ _ hq)
  jf := fun j q hq => by
    rw [hj]
    rcases get_snoc hq with ⟨rfl, rfl⟩ | ⟨hj, hq⟩
    · exact if_pos rfl
    · exact (if_neg (key1 (by omega))).trans (W.jf _ _ hq)
  uf := fun j q hq => by
    rw [hu]
    rcases get_snoc hq with ⟨rfl, rfl⟩ | ⟨_, hq⟩
    · rw [W.uN _ (Nat.le_refl _), e1]; rfl
    · exact W.uf _ _ hq
  pf := fun j q b hq => by
    rw [hp]
    rcases get_snoc hq with ⟨rfl, rfl⟩ | ⟨_, hq⟩
    · rw [W.pN _ _ (Nat.le_refl _), e2]; rfl
    · exact W.pf _ _ _ hq
  df := fun j q b hq => by
    rw [hd]
    rcases get_snoc hq with ⟨rfl, rfl⟩ | ⟨_, hq⟩
    · rw [W.dN _ _ (Nat.le_refl _), e3]; rfl
    · exact W.df _ _ _ hq
  dl := fun j q b r hq hr => by
    rcases get_snoc hq with ⟨rfl, rfl⟩ | ⟨_, hq⟩
    · rw [e3] at hr; cases hr
    · exact hR _ (W.dl _ _ _ _ hq hr)
  uN := fun j hj => by rw [List.length_append] at hj; rw [hu]; exact W.uN j (by omega)
  pN := fun j b hj => by rw [List.length_append] at hj; rw [hp]; exact W.pN j b (by omega)
  dN := fun j b hj => by rw [List.length_append] at hj; rw [hd]; exact W.dN j b (by omega)
  ok := fun q hq => by
    rcases List.mem_append.mp hq with h | h
    · exact W.ok q h
    · rw [List.mem_singleton.mp h]; exact ok
  c8 := Int.le_trans W.c8 hc
  net := fun v hv => by
    rw [netsOf_snoc hl] at hv
    rcases List.mem_append.mp hv with h | h
    · have := W.net v h; omega
    · have := hnet v h; have := W.c8; omega
  nnd := by
    rw [netsOf_snoc hl]
    refine List.nodup_append.mpr ⟨W.nnd, hnd, fun a ha b hb e => ?_⟩
    have := W.net a ha; have := hnet b hb; omega
  bd := bd
end
section
structure LapI (A : WA) (n1 b1 b2 : Addr) (p0 : Sg) (k B : Nat) (σ : AH) (sp : Int) (s : WS) (ss : List Sg) (R : List Ent) : Prop where
  sp0 : 0 ≤ sp
  H : Has σ (main A sp s ++ R)
  W : WOk s ss R B
  len : ss.length = k
  ins : s.ins = [.tup [.str "s", .ref b1], .tup [.str "i", .ref b2]]
  pts : s.pts = [.tup [.str "input", .str "i", .int 0]]
  r1 : (n1, AObj.list [.int 2, .int 3, .int 4, .int 5]) ∈ R
  r2 : (b1, AObj.list [.int 2, .int 3, .int 4, .int 5]) ∈ R
  r3 : (b2, AObj.list [.int 6, .int 7]) ∈ R
  z : ss[0]? = some p0
noncomputable abbrev sg0 (a d nA iA : Addr) : Sg := ⟨a, d, "m.i", "wire", 2, nA, [6, 7], iA, [0, 0], false, fun _ => none, fun _ => none⟩
theorem WOk.first {a d nA iA : Addr} {s : WS} {R : List Ent} {B : Nat} (h : s.sgs = [.ref a]) (hn : s.nf = fun x => if x = .i 0 then some (.ref nA) else none) (hj : s.jf = fun x => if x = .i 0 then some (.ref iA) else none)
    (hu : s.uf = fun _ => none) (hp : s.pf = fun _ => none) (hd : s.df = fun _ => none) (hc : s.cnt = 8)
    (he : (a, AObj.inst 272 d) ∈ R ∧ (d, AObj.attrs (sigFs 0 "m.i" "wire" 2)) ∈ R ∧ (nA, AObj.list [.int 6, .int 7]) ∈ R ∧ (iA, AObj.list [.int 0, .int 0]) ∈ R)
    (bd : s.nz ≤ B ∧ s.dz ≤ B ∧ s.jz ≤ B ∧ s.pz ≤ B ∧ s.uz ≤ B ∧ s.bz ≤ B) : WOk s [sg0 a d nA iA] R B := by
  have g : ∀ {i : Nat} {p : Sg}, [sg0 a d nA iA][i]? = some p → i = 0 ∧ p = sg0 a d nA iA := fun {i p} e => by
    cases i with
    | zero => simp at e; exact ⟨rfl, e.symm⟩
    | succ i => simp at e
  refine ⟨h, ?_, ?_, ?_, ?_, ?_, ?_, ?_, ?_, ?_, ?_, ?_, by rw [hc]; exact Int.le_refl _, ?_, ?_, bd⟩
  · intro i p e; obtain ⟨rfl, rfl⟩ := g e; exact he
  · intro i p e; obtain ⟨rfl, rfl⟩ := g e; rw [hn]; rfl
  · intro i p e; obtain ⟨rfl, rfl⟩ := g e; rw [hj]; rfl
  · intro i p e; obtain ⟨rfl, rfl⟩ := g e; rw [hu]; rfl
  · intro i p b e; obtain ⟨rfl, rfl⟩ := g e; rw [hp]; rfl
  · intro i p b e; obtain ⟨rfl, rfl⟩ := g e; rw [hd]; rfl
  · intro i p b q e e2; obtain ⟨rfl, rfl⟩ := g e; cases e2
  · intro i _; rw [hu]
  · intro i b _; rw [hp]
  · intro i b _; rw [hd]
  · intro p hp
    rw [List.mem_singleton.mp hp]
    refine ⟨.head _, (by show 1 ≤ 2; decide), (by show 2 ≤ 2; decide), rfl, rfl, (fun v hv => ?_), (fun b v e => by cases e), (fun b p e => by cases e)⟩
    simp at hv; exact .inl hv
  · intro v hv; cases hv
  · exact List.nodup_nil
theorem pick_kind {r : Int} (h0 : 0 ≤ r) (h9 : r < 9) : ∃ kd, kd ∈ kinds9 ∧ (kinds9.map Val.str)[r.toNat]? = some (.str kd) := by
  have hl : r.toNat < kinds9.length := by show r.toNat < 9; omega
  exact ⟨kinds9[r.toNat], List.getElem_mem hl, by rw [List.getElem?_map, List.getElem?_eq_getElem hl]; rfl⟩
noncomputable abbrev six : List Int := [0, 1, 2, 3, 4, 5]
theorem pick_net {r : Int} (h0 : 0 ≤ r) (h6 : r < 6) : (six.map Val.int)[r.toNat]? = some (.int r) := by
  have : r = 0 ∨ r = 1 ∨ r = 2 ∨ r = 3 ∨ r = 4 ∨ r = 5 := by omega
  rcases this with h | h | h | h | h | h <;> subst h <;> rfl
theorem pick_wide {r : Int} (h0 : 0 ≤ r) (h2 : r < 2) : ∃ wd : Nat, 1 + r = wd ∧ 1 ≤ wd ∧ wd ≤ 2 := ⟨(1 + r).toNat, by omega, by omega, by omega⟩
theorem bit_of {r : Int} (h0 : 0 ≤ r) (h2 : r < 2) : r = 0 ∨ r = 1 := by omega
theorem lap_log {i : Nat} (h : i < 6) : ((i : Int)).natAbs.log2 < 1920 := by
  have : i = 0 ∨ i = 1 ∨ i = 2 ∨ i = 3 ∨ i = 4 ∨ i = 5 := by omega
  rcases this with h | h | h | h | h | h <;> subst h <;> decide
theorem lap_str {i : Nat} (h : i < 6) : ("m.x" : Str).length + ((toString (i : Int) : String) : Str).length ≤ sizeLine := by
  have : i = 0 ∨ i = 1 ∨ i = 2 ∨ i = 3 ∨ i = 4 ∨ i = 5 := by omega
  rcases this with h | h | h | h | h | h <;> subst h <;> decide
section
variable {A : WA} {n1 b1 b2 : Addr} {p0 : Sg} {k B : Nat} {σ σ' : AH} {sp sp' : Int} {s : WS} {ss : List Sg} {R : List Ent} {i j t z : Nat} {p : Sg} {v : Int}
theorem LapI.to (L : LapI A n1 b1 b2 p0 k B σ sp s ss R) (h0 : 0 ≤ sp') (M : Has σ' (main A sp' s ++ R)) : LapI A n1 b1 b2 p0 k B σ' sp' s ss R := { L with sp0 := h0, H := M }
theorem LapI.le (L : LapI A n1 b1 b2 p0 k B σ sp s ss R) {B' : Nat} (h : B ≤ B') : LapI A n1 b1 b2 p0 k B' σ sp s ss R := { L with W := L.W.le h }
theorem LapI.sg (L : LapI A n1 b1 b2 p0 k B σ sp s ss R) (hi : ss[i]? = some p) {ma : Addr} (ha : p.a = ma) {kd : Str} (hk : p.kind = kd) {wd : Nat} (hw : p.width = wd) : ∃ d path, σ ma = some (.inst 272 d) ∧ σ d = some (.attrs (sigFs i path kd wd)) := by
  subst ha hk hw
  refine ea_AAA (L.W.ent _ _ hi) fun a b _ _ => ?_
  exact ⟨_, _, L.H.mem (List.mem_append_right _ a), L.H.mem (List.mem_append_right _ b)⟩
theorem LapI.mark (L : LapI A n1 b1 b2 p0 k B σ sp s ss R) (hi : ss[i]? = some p) (h0 : i ≠ 0) {v : Val} :
    LapI A n1 b1 b2 p0 k (B + 1) (σ.set A.x.ud (.dict (fun x => if x = .i i then some v else s.uf x) (s.uz + 1))) sp { s with uf := fun x => if x = .i i then some v else s.uf x, uz := s.uz + 1 } (ss.set i { p with uneven := true }) R :=
  ⟨L.sp0, L.H.upd 0 rfl, L.W.mark hi, by rw [List.length_set]; exact L.len, L.ins, L.pts, L.r1, L.r2, L.r3, by rw [List.getElem?_set_ne h0]; exact L.z⟩
theorem LapI.pullAt (L : LapI A n1 b1 b2 p0 k B σ sp s ss R) (hi : ss[i]? = some p) (h0 : i ≠ 0) (hv : v = 0 ∨ v = 1) :
    LapI A n1 b1 b2 p0 k (B + 1) (σ.set A.x.pd (.tdict (fun x => if x = [.i i, .i j] then some (.int v) else s.pf x) (s.pz + 1))) sp { s with pf := fun x => if x = [.i i, .i j] then some (.int v) else s.pf x, pz := s.pz + 1 } (ss.set i { p with pull := fun b => if b = j then some v else p.pull b }) R :=
  ⟨L.sp0, L.H.upd 1 rfl, L.W.pullAt hi hv, by rw [List.length_set]; exact L.len, L.ins, L.pts, L.r1, L.r2, L.r3, by rw [List.getElem?_set_ne h0]; exact L.z⟩
theorem LapI.drvAt {cur : Option (Addr × List Int)} {f : List Atom → Option Val} (L : LapI A n1 b1 b2 p0 k B σ sp s ss R) (hi : ss[i]? = some p) {q0 : Sg} (h0 : (ss.set i { p with drv := fun b => if b = j then cur else p.drv b })[0]? = some q0) (D : DrvW s i j t cur f z) (ht : t ≤ 3) (hs : 0 ≤ sp') (M : Has σ' (main A sp' { s with df := f, dz := z } ++ (dE cur ++ R))) :
    LapI A n1 b1 b2 q0 k (B + 3) σ' sp' { s with df := f, dz := z } (ss.set i { p with drv := fun b => if b = j then cur else p.drv b }) (dE cur ++ R) :=
  ⟨hs, M, L.W.drvAt hi D ht, by rw [List.length_set]; exact L.len, L.ins, L.pts, List.mem_append_right _ L.r1, List.mem_append_right _ L.r2, List.mem_append_right _ L.r3, h0⟩
end
end
section
set_option hygiene false
local macro_rules | `(tactic| walk_at "fn") => `(tactic| exact ⟨⟨_, _, rfl⟩, congrArg FuncBody.stmts (by conv => lhs; whnf), rfl, rfl, rfl, rfl, rfl, rfl, rfl, by decide, rfl, by decide, by decide⟩)
local macro_rules | `(tactic| walk_at "nm") => `(tactic| conv => lhs; whnf)
local macro_rules | `(tactic| walk_at "vt") => `(tactic| ((case hn => exact rfl); (case nd => exact rfl); (case hk => decide); (case hm => exact rfl)))
local macro_rules | `(tactic| walk_at "st") => `(tactic| (case hs => intro _; rfl); walk_at "vt")
local macro_rules | `(tactic| walk_at "pl") => `(tactic| ((case hn => exact rfl); (case nd => exact rfl); (case hp => exact ⟨fun _ _ => rfl, by first | exact .inl rfl | exact .inr ⟨_, _, rfl, fun _ => rfl⟩⟩)))
local macro_rules | `(tactic| walk_at "v") => `(tactic| first
  | ((with_reducible refine' JEv 0 ‹Nms _ _› ?hn ?nd ?hk ?hm ?_); walk_at "vt")
  | ((with_reducible refine' JEv 1 ‹Nms _ _› ?hn ?nd ?hk ?hm ?_); walk_at "vt")
  | ((with_reducible refine' JEv 2 ‹Nms _ _› ?hn ?nd ?hk ?hm ?_); walk_at "vt")
  | ((with_reducible refine' JEv 3 ‹Nms _ _› ?hn ?nd ?hk ?hm ?_); walk_at "vt")
  | ((with_reducible refine' JEv 4 ‹Nms _ _› ?hn ?nd ?hk ?hm ?_); walk_at "vt")
  | ((with_reducible refine' JEv 5 ‹Nms _ _› ?hn ?nd ?hk ?hm ?_); walk_at "vt")
  | ((with_reducible refine' JEv 6 ‹Nms _ _› ?hn ?nd ?hk ?hm ?_); walk_at "vt")
  | ((with_reducible refine' JEv 7 ‹Nms _ _› ?hn ?nd ?hk ?hm ?_); walk_at "vt")
  | ((with_reducible refine' JEv 8 ‹Nms _ _› ?hn ?nd ?hk ?hm ?_); walk_at "vt")
  | ((with_reducible refine' JEv 9 ‹Nms _ _› ?hn ?nd ?hk ?hm ?_); walk_at "vt")
  | ((with_reducible refine' JEv 10 ‹Nms _ _› ?hn ?nd ?hk ?hm ?_); walk_at "vt")
  | ((with_reducible refine' JEv 11 ‹Nms _ _› ?hn ?nd ?hk ?hm ?_); walk_at "vt")
  | ((with_reducible refine' JEv 12 ‹Nms _ _› ?hn ?nd ?hk ?hm ?_); walk_at "vt")
  | ((with_reducible refine' JEv 13 ‹Nms _ _› ?hn ?nd ?hk ?hm ?_); walk_at "vt")
  | ((with_reducible refine' JEv 14 ‹Nms _ _› ?hn ?nd ?hk ?hm ?_); walk_at "vt")
  | ((with_reducible refine' JEv 15 ‹Nms _ _› ?hn ?nd ?hk ?hm ?_); walk_at "vt"))
local macro_rules | `(tactic| walk_at "s") => `(tactic| first
  | ((with_reducible refine' JSv 0 ‹EnvIs _ _› ?hn ?nd ?hk ?hm ?_ ?hs); walk_at "st")
  | ((with_reducible refine' JSv 1 ‹EnvIs _ _› ?hn ?nd ?hk ?hm ?_ ?hs); walk_at "st")
  | ((with_reducible refine' JSv 2 ‹EnvIs _ _› ?hn ?nd ?hk ?hm ?_ ?hs); walk_at "st")
  | ((with_reducible refine' JSv 3 ‹EnvIs _ _› ?hn ?nd ?hk ?hm ?_ ?hs); walk_at "st")
  | ((with_reducible refine' JSv 4 ‹EnvIs _ _› ?hn ?nd ?hk ?hm ?_ ?hs); walk_at "st")
  | ((with_reducible refine' JSv 5 ‹EnvIs _ _› ?hn ?nd ?hk ?hm ?_ ?hs); walk_at "st")
  | ((with_reducible refine' JSv 6 ‹EnvIs _ _› ?hn ?nd ?hk ?hm ?_ ?hs); walk_at "st")
  | ((with_reducible refine' JSv 7 ‹EnvIs _ _› ?hn ?nd ?hk ?hm ?_ ?hs); walk_at "st")
  | ((with_reducible refine' JSv 8 ‹EnvIs _ _› ?hn ?nd ?hk ?hm ?_ ?hs); walk_at "st")
  | ((with_reducible refine' JSv 9 ‹EnvIs _ _› ?hn ?nd ?hk ?hm ?_ ?hs); walk_at "st")
  | ((with_reducible refine' JSv 10 ‹EnvIs _ _› ?hn ?nd ?hk ?hm ?_ ?hs); walk_at "st")
  | ((with_reducible refine' JSv 11 ‹EnvIs _ _› ?hn ?nd ?hk ?hm ?_ ?hs); walk_at "st")
  | ((with_reducible refine' JSv 12 ‹EnvIs _ _› ?hn ?nd ?hk ?hm ?_ ?hs); walk_at "st")
  | ((with_reducible refine' JSv 13 ‹EnvIs _ _› ?hn ?nd ?hk ?hm ?_ ?hs); walk_at "st")
  | ((with_reducible refine' JSv 14 ‹EnvIs _ _› ?hn ?nd ?hk ?hm ?_ ?hs); walk_at "st")
  | ((with_reducible refine' JSv 15 ‹EnvIs _ _› ?hn ?nd ?hk ?hm ?_ ?hs); walk_at "st"))
local macro_rules | `(tactic| walk_at "c") => `(tactic| first
  | ((with_reducible refine' JEc gg_len ‹Nms _ _› ?hn ?nd ?hp ?_); walk_at "pl")
  | ((with_reducible refine' JEc gg_min ‹Nms _ _› ?hn ?nd ?hp ?_); walk_at "pl")
  | ((with_reducible refine' JEc gg_max ‹Nms _ _› ?hn ?nd ?hp ?_); walk_at "pl")
  | ((with_reducible refine' JEc gg_str ‹Nms _ _› ?hn ?nd ?hp ?_); walk_at "pl")
  | ((with_reducible refine' JEc gg_list ‹Nms _ _› ?hn ?nd ?hp ?_); walk_at "pl")
  | ((with_reducible refine' JEc gg_tuple ‹Nms _ _› ?hn ?nd ?hp ?_); walk_at "pl")
  | ((with_reducible refine' JEc gg_law_link ‹Nms _ _› ?hn ?nd ?hp ?_); walk_at "pl")
  | ((with_reducible refine' JEc gg_law_values ‹Nms _ _› ?hn ?nd ?hp ?_); walk_at "pl")
  | ((with_reducible refine' JEc gg_law_due ‹Nms _ _› ?hn ?nd ?hp ?_); walk_at "pl")
  | ((with_reducible refine' JEc gg_law_spots ‹Nms _ _› ?hn ?nd ?hp ?_); walk_at "pl")
  | ((with_reducible refine' JEc gg_law_joined ‹Nms _ _› ?hn ?nd ?hp ?_); walk_at "pl")
  | ((with_reducible refine' JEc gg_law_world ‹Nms _ _› ?hn ?nd ?hp ?_); walk_at "pl")
  | ((with_reducible refine' JEc gg_law_chain ‹Nms _ _› ?hn ?nd ?hp ?_); walk_at "pl")
  | ((with_reducible refine' JEc gg_joined_net ‹Nms _ _› ?hn ?nd ?hp ?_); walk_at "pl")
  | ((with_reducible refine' JEc gg_connect_wires ‹Nms _ _› ?hn ?nd ?hp ?_); walk_at "pl")
  | ((with_reducible refine' JEc gg_all_of ‹Nms _ _› ?hn ?nd ?hp ?_); walk_at "pl")
  | ((with_reducible refine' JEc gg_any_of ‹Nms _ _› ?hn ?nd ?hp ?_); walk_at "pl")
  | ((with_reducible refine' JEc gg_word_not ‹Nms _ _› ?hn ?nd ?hp ?_); walk_at "pl")
  | ((with_reducible refine' JEc gg_resting_bit ‹Nms _ _› ?hn ?nd ?hp ?_); walk_at "pl")
  | ((with_reducible refine' JEc gg_several ‹Nms _ _› ?hn ?nd ?hp ?_); walk_at "pl")
  | ((with_reducible refine' JEc gg_input_keys ‹Nms _ _› ?hn ?nd ?hp ?_); walk_at "pl")
  | ((with_reducible refine' JEc gg_net_kinds ‹Nms _ _› ?hn ?nd ?hp ?_); walk_at "pl")
  | ((with_reducible refine' JEc gg_Design ‹Nms _ _› ?hn ?nd ?hp ?_); walk_at "pl")
  | ((with_reducible refine' JEc gg_Netlist ‹Nms _ _› ?hn ?nd ?hp ?_); walk_at "pl")
  | ((with_reducible refine' JEc gg_Wires ‹Nms _ _› ?hn ?nd ?hp ?_); walk_at "pl")
  | ((with_reducible refine' JEc gg_Signal ‹Nms _ _› ?hn ?nd ?hp ?_); walk_at "pl")
  | ((with_reducible refine' JEc gg_Gates ‹Nms _ _› ?hn ?nd ?hp ?_); walk_at "pl")
  | ((with_reducible refine' JEc gg_SynthError ‹Nms _ _› ?hn ?nd ?hp ?_); walk_at "pl"))
local macro_rules | `(tactic| walk_at "e") => `(tactic| first
  | (with_reducible change JE (e := .Name ..) ..); (first | walk_at "v")
  | (with_reducible change JE ..); (first | with_reducible refine JE_int ?_ | with_reducible refine JE_str ?_ | with_reducible refine JE_none ?_ | with_reducible refine JE_bool ?_ | with_reducible refine JE_bin ?_ | with_reducible refine JE_sub ?_ | with_reducible refine JE_if ?_ | with_reducible refine JE_neg ?_ | with_reducible refine JE_list ?_ | with_reducible refine JE_tuple ?_ | (with_reducible refine JE_cmp ?_ ?hm); (case hm => with_unfolding_all rfl) | (with_reducible refine JE_attr ?_ ?hm); (case hm => intro _; with_unfolding_all rfl) | (with_reducible refine JE_meth ?_ ?h1 ?h2 ?h3 ?h4); (case h1 => intro _ _; rfl); (case h2 => intro _ _; rfl); (case h3 => rfl); (case h4 => exact ⟨fun _ _ => rfl, by first | exact .inl rfl | exact .inr ⟨_, _, rfl, fun _ => rfl⟩⟩) | walk_at "c")
  | (with_reducible change JEs ..); (first | with_reducible refine JEs_nil ?_ | (with_reducible refine JEs_cons ?_ ?hm); (case hm => intro _; rfl))
  | (with_reducible change JB ..); (first | with_reducible refine JB_not ?_ | with_reducible refine JB_bool ?_ | (with_reducible refine JB_cmp ?_ ?hm); (case hm => with_unfolding_all rfl) | (with_reducible refine JB_val ?_ ?hm); (case hm => intro _ _; rfl))
  | (with_reducible change JBs ..); (first | with_reducible refine JBs_and ?_ | with_reducible refine JBs_or ?_ | with_reducible refine JBs_and_nil ?_ | with_reducible refine JBs_or_nil ?_)
  | (with_reducible change JSs ..); (first | with_reducible refine JSs_ret ?_ | with_reducible refine JSs_nil ?_ | (with_reducible refine JSs_setitem ?_ ?hm); (case hm => intro _; rfl) | (with_reducible refine JSs_setattr ?_ ?hm); (case hm => intro _; rfl) | (with_reducible refine JSs_expr ?_ ?hm); (case hm => intro _; rfl) | ((with_reducible refine JSs_if ?_); simp only [List.cons_append, List.nil_append]) | with_reducible refine JSs_augattr ?_ | walk_at "s"))
local macro_rules | `(tactic| walk_at "if") => `(tactic| first
  | with_reducible refine ifT ?_
  | with_reducible refine ifF ?_
  | ((with_reducible refine ifD ?hh ?_); (case hh => assumption))
  | ((with_reducible refine ifDn ?hh ?_); (case hh => assumption))
  | ((with_reducible refine ifEq ?hh ?_); (case hh => assumption))
  | ((with_reducible refine ifNe ?hh ?_); (case hh => assumption))
  | ((with_reducible refine ifB ?hh ?_); (case hh => assumption))
  | ((with_reducible refine ifBn ?hh ?_); (case hh => assumption)))
local macro_rules | `(tactic| walk_at "es") => `(tactic| repeat walk_at "e")
local macro_rules | `(tactic| walk_at "look") => `(tactic| first | assumption | exact AH.set_self _ _ _ | (refine (AH.set_ne (by first | assumption | exact Ne.symm (by assumption))).trans ?_; walk_at "look"))
section
variable {w : World} {E : Frag} {os : OsState × Nat} {n : Nat} {q : Bool} {env : Env} {m : List (Option Val)} {σ : AH} {X : Addr → AH → Prop} {Q : Val → AH → Prop}
theorem link_ok {ch c0 : Addr} {sp many : Int} {xs : List Int} (hch : σ ch = some (.list [.ref c0, .int sp])) (hc0 : σ c0 = some (.list (xs.map .int))) (hne : c0 ≠ ch) (hsp : 0 ≤ sp) (hm : 0 < many) (hz : xs.length ≤ 10000)
    (h : ∀ r, 0 ≤ r → r < many → Q (.int r) (σ.set ch (.list [.ref c0, .int (sp + 1)]))) : JK (CC w E os) (n + 1) true env m σ (.ref 430) [.ref ch, .int many] Q X := by
  refine JK_def (ds := []) (dv := []) ["chain", "many"] (by walk_at "fn") (binds2 fun s a b => BindsTo.of_eq rfl) (fun h => rfl) rfl (by walk_at "nm") fun env he hn => ?_
  change JSs _ _ _ _ [some (.ref ch), some (.int many), none, none] _ _ _ _
  walk_at "es"
  refine T_list (fun _ _ => rfl) hch (by decide) (by decide) rfl ?_
  walk_at "es"
  refine O_add ?_
  walk_at "es"
  refine ⟨_, .list (i := 1) hch (by decide) (by decide) (by decide : 1 < 2), ?_⟩
  walk_at "es"
  refine T_list (fun _ _ => rfl) (AH.set_self _ _ _) (by decide) (by decide) rfl ?_
  walk_at "es"
  have hc0' : (σ.set ch (.list ([Val.ref c0, Val.int sp].set (Int.toNat 1) (Val.int (sp + 1))))) c0 = some (.list (xs.map .int)) := (AH.set_ne hne).trans hc0
  refine C_len hc0' (by unfold sizeLine; rw [List.length_map]; omega) ?_
  refine O_lt (bI ?_)
  rw [List.length_map]
  by_cases hlt : sp < (xs.length : Int)
  · first | (walk_at "if") | rw [if_pos (by simpa using hlt)]
    walk_at "es"
    refine T_list (fun _ _ => rfl) (AH.set_self _ _ _) (by decide) (by decide) rfl ?_
    walk_at "es"
    have hi : sp.toNat < xs.length := by omega
    refine T_list (v := .int xs[sp.toNat]) (fun _ _ => rfl) hc0' hsp (by omega) (by rw [List.getElem?_map, List.getElem?_eq_getElem hi]; rfl) ?_
    walk_at "es"
    refine O_mod (by omega) ?_
    exact h _ (Int.fmod_nonneg_of_pos _ hm) (Int.fmod_lt_of_pos _ hm)
  · first | (walk_at "if") | rw [if_neg (by simpa using hlt)]
    walk_at "es"
    exact h 0 (by decide) hm
end
section
variable {w : World} {E : Frag} {os : OsState × Nat} {n : Nat} {q : Bool} {env : Env} {m : List (Option Val)} {σ : AH} {X : Addr → AH → Prop} {Q : Val → AH → Prop}
theorem new_net_ok {N dN il ol cl : Addr} {cnt : Int} (I : σ N = some (.inst 412 dN)) (hd : σ dN = some (.attrs (netFs cnt il ol cl))) (h : Q (.int cnt) (σ.set dN (.attrs (netFs (cnt + 1) il ol cl)))) (hne : N ≠ dN) :
    JK (CC w E os) (n + 1) true env m σ (.ref 360) [.ref N] Q X := by
  refine JK_def (ds := []) (dv := []) ["self"] (by walk_at "fn") (binds1 fun s a => BindsTo.of_eq rfl) (fun h => rfl) rfl (by walk_at "nm") fun env he hn => ?_
  change JSs _ _ _ _ [some (.ref N), none] _ _ _ _
  walk_at "es"
  refine atI (.inl I) hd rfl cls_Netlist na_Netlist_count rfl ?_
  walk_at "es"
  refine ⟨_, _, _, _, _, rfl, .inl I, hd, rfl, cls_Netlist, po_Netlist, na_Netlist_count, (by show 5 ≤ 100; decide), ?_⟩
  walk_at "es"
  refine ⟨_, _, rfl, .inl I, hd, (by show 5 ≤ 100; decide), ?_⟩
  walk_at "es"
  exact h
theorem drive_ok {N dN il ol cl : Addr} {cnt out : Int} {kd : Str} {ins : List Int} {cells : List Val} (I : σ N = some (.inst 412 dN)) (hd : σ dN = some (.attrs (netFs cnt il ol cl))) (hc : σ cl = some (.list cells)) (hz : cells.length ≤ sizeLine)
    (h : Q .none (σ.set cl (.list (cells ++ [cellV kd out ins])))) {vs : List Val} (hv : vs = [.ref N, .int out, .str kd, .tup (ins.map .int)] ∨ vs = [.ref N, .int out, .str kd, .tup (ins.map .int), .none]) :
    JK (CC w E os) (n + 1) true env m σ (.ref 395) vs Q X := by
  rcases hv with rfl | rfl
  · refine JK_def (ds := [.none]) (dv := [.none]) ["self", "out", "kind", "ins", "param"] (by walk_at "fn") (bindsD4 fun s a b c d X => binds_K X rfl rfl rfl rfl rfl) (fun h => ⟨_, _, rfl, rfl, rfl⟩) rfl (by walk_at "nm") fun env he hn => ?_
    change JSs _ _ _ _ [some (.ref N), some (.int out), some (.str kd), some (.tup (ins.map .int)), some .none, none] _ _ _ _
    walk_at "es"
    refine atI (.inl I) hd rfl cls_Netlist na_Netlist_cells rfl ?_
    refine mtI (meth_list hc PySem.F.slot_list_append PySem.F.type_list_append) (.inr (.inr ⟨_, rfl⟩)) ?_
    walk_at "es"
    refine C_tuple ?_
    walk_at "es"
    refine ⟨(by show 4 ≤ sizeLine; decide), ?_⟩
    walk_at "es"
    refine C_append hc hz ⟨rfl, ?_⟩
    walk_at "es"
    exact h
  · refine JK_def (ds := []) (dv := []) ["self", "out", "kind", "ins", "param"] (by walk_at "fn") (bindsX5 fun s a b c d e X => binds_K X rfl rfl rfl rfl rfl) (fun h => rfl) rfl (by walk_at "nm") fun env he hn => ?_
    change JSs _ _ _ _ [some (.ref N), some (.int out), some (.str kd), some (.tup (ins.map .int)), some .none, none] _ _ _ _
    walk_at "es"
    refine atI (.inl I) hd rfl cls_Netlist na_Netlist_cells rfl ?_
    refine mtI (meth_list hc PySem.F.slot_list_append PySem.F.type_list_append) (.inr (.inr ⟨_, rfl⟩)) ?_
    walk_at "es"
    refine C_tuple ?_
    walk_at "es"
    refine ⟨(by show 4 ≤ sizeLine; decide), ?_⟩
    walk_at "es"
    refine C_append hc hz ⟨rfl, ?_⟩
    walk_at "es"
    exact h
theorem add_cell_ok {N dN il ol cl : Addr} {cnt : Int} {kd : Str} {ins : List Int} {cells : List Val} (I : σ N = some (.inst 412 dN)) (hd : σ dN = some (.attrs (netFs cnt il ol cl))) (hc : σ cl = some (.list cells)) (hz : cells.length ≤ sizeLine) (h1 : N ≠ dN) (h2 : cl ≠ dN) (h3 : N ≠ cl)
    (h : Q (.int cnt) ((σ.set dN (.attrs (netFs (cnt + 1) il ol cl))).set cl (.list (cells ++ [cellV kd cnt ins])))) :
    JK (CC w E os) (n + 2) true env m σ (.ref 387) [.ref N, .str kd, .tup (ins.map .int)] Q X := by
  refine JK_def (ds := [.none]) (dv := [.none]) ["self", "kind", "ins", "param"] (by walk_at "fn") (bindsD3 fun s a b c X => binds_K X rfl rfl rfl rfl rfl) (fun h => ⟨_, _, rfl, rfl, rfl⟩) rfl (by walk_at "nm") fun env he hn => ?_
  change JSs _ _ _ _ [some (.ref N), some (.str kd), some (.tup (ins.map .int)), some .none, none] _ _ _ _
  walk_at "es"
  refine mtI (mm_Netlist_new_net I hd rfl) mk_Netlist_new_net ?_
  walk_at "es"
  refine (new_net_ok I hd ?_ h1).call
  walk_at "es"
  have I' : (σ.set dN (.attrs (netFs (cnt + 1) il ol cl))) N = some (.inst 412 dN) := (AH.set_ne h1).trans I
  have hc' : (σ.set dN (.attrs (netFs (cnt + 1) il ol cl))) cl = some (.list cells) := (AH.set_ne h2).trans hc
  refine mtI (mm_Netlist_drive I' (AH.set_self _ _ _) rfl) mk_Netlist_drive ?_
  walk_at "es"
  refine (drive_ok (kd := kd) (ins := ins) I' (AH.set_self _ _ _) hc' hz ?_ (.inr rfl)).call
  refine ⟨rfl, ?_⟩
  walk_at "es"
  exact h
end
section
variable {w : World} {E : Frag} {os : OsState × Nat} {n : Nat} {q : Bool} {env : Env} {m : List (Option Val)} {σ : AH} {X : Addr → AH → Prop} {Q : Val → AH → Prop}
theorem pair_ok {ad : GAd} {st : GSt} {a b : Int} (H : GAt σ ad st) (I : GInv st) (va : Valid st.cells a) (vb : Valid st.cells b) (hz : st.cells.length ≤ 100000)
    (h : ∀ r st' σ', GAt σ' ad st' → GInv st' → Ext 1 st st' → Frm ad σ σ' → (∀ line x y, evl st.cells line a = some x → evl st.cells line b = some y → evl st'.cells line r = some (min x y)) → Q (.int r) σ') :
    JK (CC w E os) (n + 3) true env m σ (.ref 75) [.ref ad.G, .str "and", .int a, .int b] Q X := by
  refine JK_def (ds := []) (dv := []) ["self", "kind", "first", "second"] (by walk_at "fn") (binds4 fun s a b c d => BindsTo.of_eq rfl) (fun h => rfl) rfl (by walk_at "nm") fun env he hn => ?_
  change JSs _ _ _ _ [some (.ref ad.G), some (.str "and"), some (.int a), some (.int b), none, none, none, none, none] _ _ _ _
  walk_at "es"
  refine C_min2 ?_
  walk_at "es"
  refine C_max2 ?_
  walk_at "es"
  refine ⟨(by show 3 ≤ sizeLine; decide), ?_⟩
  walk_at "es"
  have vlo : Valid st.cells (min a b) := by
    by_cases hab : a ≤ b
    · rw [Int.min_eq_left hab]; exact va
    · rw [Int.min_eq_right (by omega)]; exact vb
  have vhi : Valid st.cells (max a b) := by
    by_cases hab : a ≤ b
    · rw [Int.max_eq_right hab]; exact vb
    · rw [Int.max_eq_left (by omega)]; exact va
  have mm : ∀ {line : Int} {x y : Int}, evl st.cells line a = some x → evl st.cells line b = some y → ∃ u v, evl st.cells line (min a b) = some u ∧ evl st.cells line (max a b) = some v ∧ min u v = min x y := fun {line x y} e1 e2 => by
    by_cases hab : a ≤ b
    · rw [Int.min_eq_left hab, Int.max_eq_right hab]; exact ⟨x, y, e1, e2, rfl⟩
    · rw [Int.min_eq_right (by omega), Int.max_eq_left (by omega)]; exact ⟨y, x, e2, e1, Int.min_comm ..⟩
  have key : ∀ (vv : Val), Val.tup [Val.str "and", .int (min a b), .int (max a b)] = Val.tup (([Atom.s "and", .i (min a b), .i (max a b)] : List Atom).map Atom.val) := fun _ => rfl
  refine atI (.inl H.G) H.dG rfl cls_Gates na_Gates_made rfl ?_
  refine O_notint (ks := [.s "and", .i (min a b), .i (max a b)]) H.md (bI ?_)
  cases hf : st.f [.s "and", .i (min a b), .i (max a b)] with
  | some v =>
    first | (walk_at "if") | rw [if_neg (by simp)]
    walk_at "es"
    refine atI (.inl H.G) H.dG rfl cls_Gates na_Gates_made rfl ?_
    walk_at "es"
    refine T_tdict (ks := [.s "and", .i (min a b), .i (max a b)]) (fun _ _ => rfl) H.md hf ?_
    refine ea_EEEAA (I.made _ _ hf) fun lo hi out e1 ez1 hm => ?_; subst ez1
    cases e1
    refine h out st σ H I (Ext.refl.le (Nat.zero_le _)) Frm.refl fun line x y e1 e2 => ?_
    refine ea_EEAA (hm line) fun u v e3 e4 e5 => ?_
    refine ea_EEAA (mm e1 e2) fun u' v' e6 e7 e8 => ?_
    rw [e3] at e6; rw [e4] at e7
    cases e6; cases e7
    rw [e5, e8]
  | none =>
    first | (walk_at "if") | rw [if_pos (by simp)]
    walk_at "es"
    refine atI (.inl H.G) H.dG rfl cls_Gates na_Gates_netlist rfl ?_
    refine mtI (mm_Netlist_add_cell H.N H.dN rfl) mk_Netlist_add_cell ?_
    walk_at "es"
    refine ⟨(by show 2 ≤ sizeLine; decide), ?_⟩
    walk_at "es"
    refine (add_cell_ok (ins := [min a b, max a b]) H.N H.dN H.cl (by rw [cellsV_len]; unfold sizeLine; omega) (ne_of H.N H.dN (by simp)) (ne_of H.cl H.dN (by simp)) (ne_of H.N H.cl (by simp)) ?_).call
    obtain ⟨NI, hev⟩ := I.add (kd := "and") (ins := [min a b, max a b]) (fun i hi => by
      rcases List.mem_cons.mp hi with rfl | hi
      · exact vlo
      · rw [List.mem_singleton.mp hi]; exact vhi) (.inl ⟨rfl, _, _, rfl⟩)
    have n1 : ad.G ≠ ad.dN := ne_of H.G H.dN (by simp)
    have n2 : ad.G ≠ ad.cl := ne_of H.G H.cl (by simp)
    have n3 : ad.dG ≠ ad.dN := ne_of H.dG H.dN (by simp)
    have n4 : ad.dG ≠ ad.cl := ne_of H.dG H.cl (by simp)
    have n5 : ad.md ≠ ad.dN := ne_of H.md H.dN (by simp)
    have n6 : ad.md ≠ ad.cl := ne_of H.md H.cl (by simp)
    have n7 : ad.op ≠ ad.dN := ne_of H.op H.dN (by simp)
    have n8 : ad.op ≠ ad.cl := ne_of H.op H.cl (by simp)
    have n9 : ad.N ≠ ad.dN := ne_of H.N H.dN (by simp)
    have n10 : ad.N ≠ ad.cl := ne_of H.N H.cl (by simp)
    have n11 : ad.cl ≠ ad.dN := ne_of H.cl H.dN (by simp)
    have n12 : ad.G ≠ ad.md := ne_of H.G H.md (by simp)
    have n13 : ad.dG ≠ ad.md := ne_of H.dG H.md (by simp)
    have n14 : ad.N ≠ ad.md := ne_of H.N H.md (by simp)
    have n15 : ad.op ≠ ad.md := ne_of H.op H.md (by simp)
    have g1 := H.G; have g2 := H.dG; have g3 := H.N; have g4 := H.dN; have g5 := H.cl; have g6 := H.md; have g7 := H.op
    walk_at "es"
    refine atI (.inl (by walk_at "look")) ((by walk_at "look")) rfl cls_Gates na_Gates_made rfl ?_
    walk_at "es"
    have hmd : ((σ.set ad.dN (.attrs (netFs (st.cnt + 1) ad.il ad.ol ad.cl))).set ad.cl (.list (cellsV st.cells ++ [cellV "and" st.cnt [min a b, max a b]]))) ad.md = some (.tdict st.f st.zf) := by walk_at "look"
    refine ⟨_, .tdict [.s "and", .i (min a b), .i (max a b)] hmd (by have := I.zf; unfold sizeLine; omega), ?_⟩
    walk_at "es"
    refine atI (.inl (by walk_at "look")) ((by walk_at "look")) rfl cls_Gates na_Gates_made rfl ?_
    walk_at "es"
    refine T_tdict (ks := [.s "and", .i (min a b), .i (max a b)]) (fun _ _ => rfl) (AH.set_self _ _ _) (if_pos rfl) ?_
    refine h st.cnt ⟨st.cnt + 1, st.cells ++ [⟨"and", st.cnt, [min a b, max a b]⟩], fun x => if x = [.s "and", .i (min a b), .i (max a b)] then some (.int st.cnt) else st.f x, st.zf + 1, st.g, st.zg⟩ _
      ⟨by walk_at "look", by walk_at "look", by walk_at "look", by walk_at "look", by rw [cellsV_snoc]; walk_at "look", by walk_at "look", by walk_at "look"⟩ ⟨NI, fun ks v e => ?_, fun k v e => ?_, ?_, ?_⟩ (Ext.one I (by decide) hev) (fun x o e h1 h2 h3 h4 => ?_) fun line x y e1 e2 => ?_
    · dsimp only at e
      split at e
      · rename_i hk
        cases e
        refine ⟨_, _, _, hk, rfl, fun line => ?_⟩
        obtain ⟨x, e1⟩ := va line
        obtain ⟨y, e2⟩ := vb line
        refine ea_EEAA (mm e1 e2) fun u v e3 e4 e5 => ?_
        refine ⟨u, v, ?_, ?_, ?_⟩
        · rw [hev, if_neg (fun z => by have := I.net.lt e3; omega)]; exact e3
        · rw [hev, if_neg (fun z => by have := I.net.lt e4; omega)]; exact e4
        · rw [hev, if_pos rfl]
          rw [evC_and2 e3 e4]
      · refine ea_EEEAA (I.made _ _ e) fun lo hi out e1 e2 e3 => ?_
        refine ⟨lo, hi, out, e1, e2, fun line => ?_⟩
        refine ea_EEAA (e3 line) fun a1 b1 h1 h2 h3 => ?_
        exact ⟨a1, b1, (by rw [hev, if_neg (fun z => by have := I.net.lt h1; omega)]; exact h1), (by rw [hev, if_neg (fun z => by have := I.net.lt h2; omega)]; exact h2), (by rw [hev, if_neg (fun z => by have := I.net.lt h3; omega)]; exact h3)⟩
    · refine ea_EEAA (I.opp _ _ e) fun a1 b1 e1 e2 e3 => ?_
      refine ⟨a1, b1, e1, e2, fun line => ?_⟩
      refine ea_EA (e3 line) fun x h1 h2 => ?_
      exact ⟨x, (by rw [hev, if_neg (fun z => by have := I.net.lt h1; omega)]; exact h1), (by rw [hev, if_neg (fun z => by have := I.net.lt h2; omega)]; exact h2)⟩
    · have := I.zf; simp only [List.length_append, List.length_singleton]; omega
    · have := I.zg; simp only [List.length_append, List.length_singleton]; omega
    · rw [AH.set_ne h3, AH.set_ne h2, AH.set_ne h1]; exact e
    · rw [hev, if_pos rfl]
      refine ea_EEAA (mm e1 e2) fun u v e3 e4 e5 => ?_
      rw [evC_and2 e3 e4, e5]
end
section
variable {w : World} {E : Frag} {os : OsState × Nat} {n : Nat} {q : Bool} {env : Env} {m : List (Option Val)} {σ : AH} {X : Addr → AH → Prop} {Q : Val → AH → Prop}
theorem inv_ok {ad : GAd} {st : GSt} {a : Int} (H : GAt σ ad st) (I : GInv st) (va : Valid st.cells a) (hz : st.cells.length ≤ 100000)
    (h : ∀ r st' σ', GAt σ' ad st' → GInv st' → Ext 1 st st' → Frm ad σ σ' → (∀ line x, evl st.cells line a = some x → evl st'.cells line r = some (1 - x)) → Q (.int r) σ') :
    JK (CC w E os) (n + 3) true env m σ (.ref 89) [.ref ad.G, .int a] Q X := by
  refine JK_def (ds := []) (dv := []) ["self", "a"] (by walk_at "fn") (binds2 fun s a b => BindsTo.of_eq rfl) (fun h => rfl) rfl (by walk_at "nm") fun env he hn => ?_
  change JSs _ _ _ _ [some (.ref ad.G), some (.int a), none] _ _ _ _
  walk_at "es"
  refine O_eq (bI ?_)
  by_cases a0 : a = 0
  · first | (walk_at "if"; walk_at "if") | rw [if_pos (by simp [a0]), if_pos rfl]
    walk_at "es"
    refine O_sub ?_
    refine h (1 - a) st σ H I (Ext.refl.le (Nat.zero_le _)) Frm.refl fun line x e => ?_
    rw [a0, I.net.zero] at e; cases e
    rw [a0]; exact I.net.one' line
  first | (walk_at "if") | rw [if_neg (by simp [a0])]
  walk_at "es"
  refine O_eq (bI ?_)
  by_cases a1 : a = 1
  · first | (walk_at "if"; walk_at "if") | rw [if_pos (by simp [a1]), if_pos rfl]
    walk_at "es"
    refine O_sub ?_
    refine h (1 - a) st σ H I (Ext.refl.le (Nat.zero_le _)) Frm.refl fun line x e => ?_
    rw [a1, I.net.one'] at e; cases e
    rw [a1]; exact I.net.zero line
  first | (walk_at "if") | rw [if_neg (by simp [a1])]
  walk_at "es"
  first | (walk_at "if") | rw [if_neg (by decide)]
  walk_at "es"
  refine atI (.inl H.G) H.dG rfl cls_Gates na_Gates_opposite rfl ?_
  refine O_notin (k := .i a) H.op (bI ?_)
  cases hf : st.g (.i a) with
  | some v =>
    first | (walk_at "if") | rw [if_neg (by simp)]
    walk_at "es"
    refine atI (.inl H.G) H.dG rfl cls_Gates na_Gates_opposite rfl ?_
    walk_at "es"
    refine T_dict (k := .i a) (fun _ _ => rfl) H.op hf ?_
    refine ea_EEAA (I.opp _ _ hf) fun a' b e1 ez1 hm => ?_; subst ez1
    cases e1
    refine h b st σ H I (Ext.refl.le (Nat.zero_le _)) Frm.refl fun line x e1 => ?_
    refine ea_EA (hm line) fun u e3 e4 => ?_
    rw [e3] at e1; cases e1
    exact e4
  | none =>
    first | (walk_at "if") | rw [if_pos (by simp)]
    walk_at "es"
    refine atI (.inl H.G) H.dG rfl cls_Gates na_Gates_netlist rfl ?_
    refine mtI (mm_Netlist_add_cell H.N H.dN rfl) mk_Netlist_add_cell ?_
    walk_at "es"
    refine ⟨(by show 1 ≤ sizeLine; decide), ?_⟩
    walk_at "es"
    refine (add_cell_ok (ins := [a]) H.N H.dN H.cl (by rw [cellsV_len]; unfold sizeLine; omega) (ne_of H.N H.dN (by simp)) (ne_of H.cl H.dN (by simp)) (ne_of H.N H.cl (by simp)) ?_).call
    obtain ⟨NI, hev⟩ := I.add (kd := "not") (ins := [a]) (fun i hi => by rw [List.mem_singleton.mp hi]; exact va) (.inr ⟨rfl, _, rfl⟩)
    have n1 : ad.G ≠ ad.dN := ne_of H.G H.dN (by simp)
    have n2 : ad.G ≠ ad.cl := ne_of H.G H.cl (by simp)
    have n3 : ad.dG ≠ ad.dN := ne_of H.dG H.dN (by simp)
    have n4 : ad.dG ≠ ad.cl := ne_of H.dG H.cl (by simp)
    have n5 : ad.md ≠ ad.dN := ne_of H.md H.dN (by simp)
    have n6 : ad.md ≠ ad.cl := ne_of H.md H.cl (by simp)
    have n7 : ad.op ≠ ad.dN := ne_of H.op H.dN (by simp)
    have n8 : ad.op ≠ ad.cl := ne_of H.op H.cl (by simp)
    have n9 : ad.N ≠ ad.dN := ne_of H.N H.dN (by simp)
    have n10 : ad.N ≠ ad.cl := ne_of H.N H.cl (by simp)
    have n11 : ad.cl ≠ ad.dN := ne_of H.cl H.dN (by simp)
    have n12 : ad.G ≠ ad.op := ne_of H.G H.op (by simp)
    have n13 : ad.dG ≠ ad.op := ne_of H.dG H.op (by simp)
    have n14 : ad.N ≠ ad.op := ne_of H.N H.op (by simp)
    have n15 : ad.op ≠ ad.md := ne_of H.op H.md (by simp)
    have g1 := H.G; have g2 := H.dG; have g3 := H.N; have g4 := H.dN; have g5 := H.cl; have g6 := H.md; have g7 := H.op
    walk_at "es"
    refine atI (.inl (by walk_at "look")) ((by walk_at "look")) rfl cls_Gates na_Gates_opposite rfl ?_
    walk_at "es"
    have hop : ((σ.set ad.dN (.attrs (netFs (st.cnt + 1) ad.il ad.ol ad.cl))).set ad.cl (.list (cellsV st.cells ++ [cellV "not" st.cnt [a]]))) ad.op = some (.dict st.g st.zg) := by walk_at "look"
    refine ⟨_, .dict (.i a) hop (by have := I.zg; unfold sizeLine; omega), ?_⟩
    walk_at "es"
    refine atI (.inl (by walk_at "look")) ((by walk_at "look")) rfl cls_Gates na_Gates_opposite rfl ?_
    walk_at "es"
    refine ⟨_, .dict (.i st.cnt) (AH.set_self _ _ _) (by have := I.zg; unfold sizeLine; omega), ?_⟩
    walk_at "es"
    refine atI (.inl (by walk_at "look")) ((by walk_at "look")) rfl cls_Gates na_Gates_opposite rfl ?_
    walk_at "es"
    have hac : ¬ (a = st.cnt) := fun z => by obtain ⟨v, e⟩ := va 0; have := I.net.lt e; omega
    refine T_dict (k := .i a) (v := .int st.cnt) (fun _ _ => rfl) (AH.set_self _ _ _) (by rw [if_neg (fun z => hac (Atom.i.inj z)), if_pos rfl]) ?_
    refine h st.cnt ⟨st.cnt + 1, st.cells ++ [⟨"not", st.cnt, [a]⟩], st.f, st.zf, fun x => if x = .i st.cnt then some (.int a) else if x = .i a then some (.int st.cnt) else st.g x, st.zg + 1 + 1⟩ _
      ⟨by walk_at "look", by walk_at "look", by walk_at "look", by walk_at "look", by rw [cellsV_snoc]; walk_at "look", by walk_at "look", by walk_at "look"⟩ ⟨NI, fun ks v e => ?_, fun k v e => ?_, ?_, ?_⟩ (Ext.one I (by decide) hev) (fun x o e h1 h2 h3 h4 => ?_) fun line x e1 => ?_
    · refine ea_EEEAA (I.made _ _ e) fun lo hi out e1 e2 e3 => ?_
      refine ⟨lo, hi, out, e1, e2, fun line => ?_⟩
      refine ea_EEAA (e3 line) fun a1 b1 h1 h2 h3 => ?_
      exact ⟨a1, b1, (by rw [hev, if_neg (fun z => by have := I.net.lt h1; omega)]; exact h1), (by rw [hev, if_neg (fun z => by have := I.net.lt h2; omega)]; exact h2), (by rw [hev, if_neg (fun z => by have := I.net.lt h3; omega)]; exact h3)⟩
    · dsimp only at e
      split at e
      · rename_i hk
        cases e
        refine ⟨_, _, hk, rfl, fun line => ?_⟩
        obtain ⟨x, e1⟩ := va line
        refine ⟨1 - x, ?_, ?_⟩
        · rw [hev, if_pos rfl, evC_not e1]
        · rw [hev, if_neg hac, e1]; congr 1; omega
      · split at e
        · rename_i hk
          cases e
          refine ⟨_, _, hk, rfl, fun line => ?_⟩
          obtain ⟨x, e1⟩ := va line
          refine ⟨x, ?_, ?_⟩
          · rw [hev, if_neg hac, e1]
          · rw [hev, if_pos rfl, evC_not e1]
        · refine ea_EEAA (I.opp _ _ e) fun a1 b1 e1 e2 e3 => ?_
          refine ⟨a1, b1, e1, e2, fun line => ?_⟩
          refine ea_EA (e3 line) fun x h1 h2 => ?_
          exact ⟨x, (by rw [hev, if_neg (fun z => by have := I.net.lt h1; omega)]; exact h1), (by rw [hev, if_neg (fun z => by have := I.net.lt h2; omega)]; exact h2)⟩
    · have := I.zf; simp only [List.length_append, List.length_singleton]; omega
    · have := I.zg; simp only [List.length_append, List.length_singleton]; omega
    · rw [AH.set_ne h4, AH.set_ne h4, AH.set_ne h2, AH.set_ne h1]; exact e
    · rw [hev, if_pos rfl, evC_not e1]
theorem are_opposite_ok {ad : GAd} {st : GSt} {a b : Int} (H : GAt σ ad st) (I : GInv st) (vb : Valid st.cells b)
    (h : ∀ c, (c = true → ∀ line x y, evl st.cells line a = some x → evl st.cells line b = some y → y = 1 - x) → Q (.bool c) σ) :
    JK (CC w E os) (n + 1) true env m σ (.ref 82) [.ref ad.G, .int a, .int b] Q X := by
  refine JK_def (ds := []) (dv := []) ["self", "first", "second"] (by walk_at "fn") (binds3 fun s a b c => BindsTo.of_eq rfl) (fun h => rfl) rfl (by walk_at "nm") fun env he hn => ?_
  change JSs _ _ _ _ [some (.ref ad.G), some (.int a), some (.int b)] _ _ _ _
  walk_at "es"
  refine atI (.inl H.G) H.dG rfl cls_Gates na_Gates_opposite rfl ?_
  refine mtI (meth_dict H.op) (.inr (.inr ⟨_, rfl⟩)) ?_
  walk_at "es"
  refine ⟨_, rfl, ?_⟩
  walk_at "es"
  refine C_get (k := .i a) (v := .int (-1)) H.op ?_
  cases hf : st.g (.i a) with
  | some v =>
    refine ea_EEAA (I.opp _ _ hf) fun a' b' e1 ez2 hm => ?_; subst ez2
    cases e1
    show JE _ _ _ _ _ _ _ _ _
    walk_at "es"
    refine O_eq (h _ fun hc line x y e1 e2 => ?_)
    have hb : b' = b := by simpa using hc
    subst hb
    refine ea_EA (hm line) fun u e3 e4 => ?_
    rw [e3] at e1; cases e1
    rw [e4] at e2; cases e2
    rfl
  | none =>
    show JE _ _ _ _ _ _ _ _ _
    walk_at "es"
    refine O_eq (h _ fun hc line x y e1 e2 => ?_)
    have hb : -1 = b := by simpa using hc
    have := I.net.pos _ _ _ e2
    omega
end
section
variable {w : World} {E : Frag} {os : OsState × Nat} {n : Nat} {q : Bool} {env : Env} {m : List (Option Val)} {σ : AH} {X : Addr → AH → Prop} {Q : Val → AH → Prop}
theorem both_ok {ad : GAd} {st : GSt} {a b : Int} (H : GAt σ ad st) (I : GInv st) (va : Valid st.cells a) (vb : Valid st.cells b) (hz : st.cells.length ≤ 100000)
    (h : ∀ r st' σ', GAt σ' ad st' → GInv st' → Ext 1 st st' → Frm ad σ σ' → (∀ line x y, evl st.cells line a = some x → evl st.cells line b = some y → evl st'.cells line r = some (min x y)) → Q (.int r) σ') :
    JK (CC w E os) (n + 4) true env m σ (.ref 96) [.ref ad.G, .int a, .int b] Q X := by
  refine JK_def (ds := []) (dv := []) ["self", "a", "b"] (by walk_at "fn") (binds3 fun s a b c => BindsTo.of_eq rfl) (fun h => rfl) rfl (by walk_at "nm") fun env he hn => ?_
  change JSs _ _ _ _ [some (.ref ad.G), some (.int a), some (.int b)] _ _ _ _
  have zero : (∀ line x y, evl st.cells line a = some x → evl st.cells line b = some y → x = 0 ∨ y = 0 ∨ y = 1 - x) → Q (.int 0) σ := fun hh =>
    h 0 st σ H I (Ext.refl.le (Nat.zero_le _)) Frm.refl fun line x y e1 e2 => by
      rw [I.net.zero]
      congr 1
      rcases I.net.bit _ _ _ e1 with h1 | h1 <;> rcases I.net.bit _ _ _ e2 with h2 | h2 <;> rcases hh line x y e1 e2 with h3 | h3 | h3 <;> subst_vars <;> omega
  walk_at "es"
  refine O_eq (bI ?_)
  by_cases a0 : a = 0
  · first | (walk_at "if"; walk_at "if") | rw [if_pos (by simp [a0]), if_pos rfl]
    walk_at "es"
    exact zero fun line x y e1 e2 => by rw [a0, I.net.zero] at e1; cases e1; exact .inl rfl
  first | (walk_at "if") | rw [if_neg (by simp [a0])]
  walk_at "es"
  refine O_eq (bI ?_)
  by_cases b0 : b = 0
  · first | (walk_at "if"; walk_at "if") | rw [if_pos (by simp [b0]), if_pos rfl]
    walk_at "es"
    exact zero fun line x y e1 e2 => by rw [b0, I.net.zero] at e2; cases e2; exact .inr (.inl rfl)
  first | (walk_at "if") | rw [if_neg (by simp [b0])]
  walk_at "es"
  refine mtI (mm_Gates_are_opposite H.G H.dG rfl) mk_Gates_are_opposite ?_
  walk_at "es"
  refine (are_opposite_ok H I vb fun c hc => ?_).call
  refine ⟨c, rfl, ?_⟩
  cases c with
  | true =>
    first | (walk_at "if"; walk_at "if") | rw [if_pos rfl, if_pos rfl]
    walk_at "es"
    exact zero fun line x y e1 e2 => .inr (.inr (hc rfl line x y e1 e2))
  | false =>
    first | (walk_at "if") | rw [if_neg (by decide)]
    walk_at "es"
    first | (walk_at "if") | rw [if_neg (by decide)]
    walk_at "es"
    refine O_eq (bI ?_)
    have retb : (∀ line x y, evl st.cells line a = some x → evl st.cells line b = some y → min x y = y) → Q (.int b) σ := fun hh =>
      h b st σ H I (Ext.refl.le (Nat.zero_le _)) Frm.refl fun line x y e1 e2 => by rw [hh line x y e1 e2]; exact e2
    by_cases a1 : a = 1
    · first | (walk_at "if"; walk_at "if") | rw [if_pos (by simp [a1]), if_pos rfl]
      walk_at "es"
      exact retb fun line x y e1 e2 => by
        rw [a1, I.net.one'] at e1; cases e1
        rcases I.net.bit _ _ _ e2 with h2 | h2 <;> subst h2 <;> decide
    first | (walk_at "if") | rw [if_neg (by simp [a1])]
    walk_at "es"
    refine O_eq (bI ?_)
    by_cases ab : a = b
    · first | (walk_at "if"; walk_at "if") | rw [if_pos (by simp [ab]), if_pos rfl]
      walk_at "es"
      exact retb fun line x y e1 e2 => by rw [ab, e2] at e1; cases e1; omega
    first | (walk_at "if") | rw [if_neg (by simp [ab])]
    walk_at "es"
    first | (walk_at "if") | rw [if_neg (by decide)]
    walk_at "es"
    refine O_eq (bI ?_)
    by_cases b1 : b = 1
    · first | (walk_at "if") | rw [if_pos (by simp [b1])]
      walk_at "es"
      refine h a st σ H I (Ext.refl.le (Nat.zero_le _)) Frm.refl fun line x y e1 e2 => ?_
      rw [b1, I.net.one'] at e2; cases e2
      rw [e1]; congr 1
      rcases I.net.bit _ _ _ e1 with h2 | h2 <;> subst h2 <;> decide
    first | (walk_at "if") | rw [if_neg (by simp [b1])]
    walk_at "es"
    refine mtI (mm_Gates_pair H.G H.dG rfl) mk_Gates_pair ?_
    walk_at "es"
    exact (pair_ok H I va vb hz fun r st' σ' h1 h2 h3 h4 h5 => h r st' σ' h1 h2 h3 h4 h5).call
theorem JT.nil {C : Cx} {cenv : Env} {m₁ : List (Option Val)} {elt : Expr} {Q1 : Val → AH → Prop} {X1 : Addr → AH → Prop} {R : AH → Prop} (h : JE C n true cenv m₁ σ elt Q1 X1) : JT C n cenv m₁ [] σ (fun b σ₂ => if b = true then JE C n true cenv m₁ σ₂ elt Q1 X1 else R σ₂) := by
  show (if true = true then JE C n true cenv m₁ σ elt Q1 X1 else R σ)
  rw [if_pos rfl]; exact h
theorem word_not_ok {ad : GAd} {st : GSt} {l : Addr} {us : List Int} (H : GAt σ ad st) (I : GInv st) (hl : σ l = some (.list (us.map .int))) (hlc : l ≠ ad.cl) (vu : ∀ u ∈ us, Valid st.cells u) (hz : st.cells.length + us.length ≤ 100000) (hus : us.length ≤ 1000)
    (h : ∀ (l' : Addr) (us' : List Int) (st' : GSt) (σ' : AH), GAt σ' ad st' → GInv st' → Ext us.length st st' → Frm ad σ σ' → σ' l' = some (.list (us'.map .int)) → σ l' = none → us'.length = us.length → (∀ (i : Nat) u, us[i]? = some u → ∃ r, us'[i]? = some r ∧ ∀ line x, evl st.cells line u = some x → evl st'.cells line r = some (1 - x)) → Q (.ref l') σ') :
    JK (CC w E os) (n + 4) true env m σ (.ref 136) [.ref ad.G, .ref l] Q X := by
  refine JK_def (ds := []) (dv := []) ["g", "u"] (by walk_at "fn") (binds2 fun s a b => BindsTo.of_eq rfl) (fun h => rfl) rfl (by walk_at "nm") fun env he hn => ?_
  change JSs _ _ _ _ [some (.ref ad.G), some (.ref l)] _ _ _ _
  obtain ⟨c, hc⟩ := he.cells "g" (by simp)
  walk_at "es"
  have K : CompOk env { kind := ScopeKind.function, names := [(".0", NameKind.local), ("bit", NameKind.local), ("g", NameKind.free)], isGenerator := false, isCoroutine := false, more := [] } [("g", c)] [some (.ref ad.G), some (.ref l)] [none, none, some (.ref ad.G)] := by
    refine comp_ok _ 0 he rfl rfl (by decide) (by decide) (by decide) (by decide) ?_ hc rfl (by decide) rfl ?_
    · simp only [closureFor, List.forIn_cons, List.forIn_nil, show (NameKind.local == NameKind.free) = false from rfl, show (NameKind.free == NameKind.free) = true from rfl, Bool.false_eq_true, if_false, if_true, cellOf, hc, pure_bind]
    · intro i x k v' h1 h2
      match i, h1, h2 with
      | 0, h1, h2 => cases h2
      | 1, h1, h2 => cases h2
      | 2, h1, h2 => cases h1; cases h2; exact ⟨rfl, rfl⟩
  refine JE_comp [("g", c)] [none, none, some (.ref ad.G)] he.frame (.inl ⟨_, _, rfl⟩) K (JI_list ?_) (by intro _ _; rfl)
  walk_at "es"
  refine ⟨l, us.map .int, rfl, hl, by simpa using (by omega : us.length ≤ 10000), ?_⟩
  let J1 : Nat → List Val → List (Option Val) → AH → Prop := fun i ys mm σ' => ∃ (o : Option Val) (us' : List Int) (st' : GSt), mm = [none, o, some (.ref ad.G)] ∧ ys = us'.map .int ∧ us'.length = i ∧ i ≤ us.length ∧ GAt σ' ad st' ∧ GInv st' ∧ Ext i st st' ∧ Frm ad σ σ' ∧ (∀ (j : Nat) u, j < i → us[j]? = some u → ∃ r, us'[j]? = some r ∧ ∀ line x, evl st.cells line u = some x → evl st'.cells line r = some (1 - x))
  refine ⟨J1,
    ⟨none, [], st, rfl, rfl, rfl, Nat.zero_le _, H, I, Ext.refl, Frm.refl, fun j u hj => absurd hj (Nat.not_lt_zero _)⟩, ?_, ?_⟩
  · intro L i x ys mm σ' hx hI0
    refine ea_EEEAAAAAAAA hI0 fun o us' st' ez1 ez2 hlen hi H' I' X' F' S' => ?_; clear hI0; subst ez1; subst ez2
    rw [List.getElem?_map] at hx
    refine ea_EA (Option.map_eq_some_iff.mp hx) fun u hu ez3 => ?_; subst ez3
    have hlt : i < us.length := (List.getElem?_eq_some_iff.mp hu).1
    have hnm : Nms (compEnvC { kind := ScopeKind.function, names := [(".0", NameKind.local), ("bit", NameKind.local), ("g", NameKind.free)], isGenerator := false, isCoroutine := false, more := [] } [("g", c)] L env) [(".0", .local), ("bit", .local), ("g", .cell)] := compEnv_names he rfl rfl
    refine ⟨F'.list H hl hlc, [none, some (.int u), some (.ref ad.G)], JA_name (i := 1) ⟨by rw [hnm.eq]; rfl, rfl⟩ (.inl rfl) (by show 1 < 3; decide), ?_⟩
    refine JT.nil ?_
    walk_at "es"
    refine mtI (mm_Gates_inv H'.G H'.dG rfl) mk_Gates_inv ?_
    walk_at "es"
    refine (inv_ok H' I' (X'.valid I.net (vu u (List.mem_of_getElem? hu))) (by have := X'.len; omega) fun r st2 σ2 H2 I2 X2 F2 S2 => ?_).call
    refine ⟨some (.int u), us' ++ [r], st2, rfl, by simp, by simp [hlen], hlt, H2, I2, X'.trans X2, F'.trans F2, fun j v hj hv => ?_⟩
    rcases Nat.lt_succ_iff_lt_or_eq.mp hj with hj | rfl
    · refine ea_EA (S' j v hj hv) fun r' e1 e2 => ?_
      exact ⟨r', by rw [List.getElem?_append_left (by omega)]; exact e1, fun line x e => X2.mono I'.net (e2 line x e)⟩
    · rw [hu] at hv; cases hv
      exact ⟨r, by rw [List.getElem?_append_right (by omega), hlen]; simp, fun line x e => S2 line x (X'.mono I.net e)⟩
  · intro ys mm σ' hI0
    refine ea_EEEAAAAAAAA hI0 fun o us' st' ez4 ez5 hlen hi H' I' X' F' S' => ?_; clear hI0; subst ez4; subst ez5
    rw [List.length_map] at hlen X' S'
    refine ⟨F'.list H hl hlc, fun a h1 h2 => ?_⟩
    exact h a us' st' _ (H'.fresh h1) I' X' (F'.fresh h1) (AH.set_self _ _ _) h2 hlen fun i u hu => S' i u (List.getElem?_eq_some_iff.mp hu).1 hu
end
section
variable {w : World} {E : Frag} {os : OsState × Nat} {n : Nat} {q : Bool} {env : Env} {m : List (Option Val)} {σ : AH} {X : Addr → AH → Prop} {Q : Val → AH → Prop}
theorem all_of_ok {ad : GAd} {st : GSt} {l : Addr} {us : List Int} (H : GAt σ ad st) (I : GInv st) (hl : σ l = some (.list (us.map .int))) (hlc : l ≠ ad.cl) (vu : ∀ u ∈ us, Valid st.cells u) (hne : us ≠ []) (hz : st.cells.length + us.length ≤ 100000) (hus : us.length ≤ 1000)
    (h : ∀ r st' σ', GAt σ' ad st' → GInv st' → Ext us.length st st' → Frm ad σ σ' → (∀ line, evl st'.cells line r = some (minI (VL st.cells line us))) → Q (.int r) σ') :
    JK (CC w E os) (n + 5) true env m σ (.ref 143) [.ref ad.G, .ref l] Q X := by
  refine JK_def (ds := []) (dv := []) ["g", "u"] (by walk_at "fn") (binds2 fun s a b => BindsTo.of_eq rfl) (fun h => rfl) rfl (by walk_at "nm") fun env he hn => ?_
  change JSs _ _ _ _ [some (.ref ad.G), some (.ref l), none, none, none, none, none, none] _ _ _ _
  walk_at "es"
  refine C_list hl (by rw [List.length_map]; unfold sizeLine; omega) fun rl hrl => ?_
  let J : Nat → List (Option Val) → AH → Prop := (fun k m σ' => ∃ (rl : Addr) (rs : List Int) (st' : GSt) (o1 o2 : Option Val), m = [some (.ref ad.G), some (.ref l), some (.ref rl), o1, o2, none, none, none] ∧ k = rs.length ∧ rs ≠ [] ∧ rs.length ≤ us.length ∧ σ' rl = some (.list (rs.map .int)) ∧ rl ≠ ad.cl ∧ σ rl = none ∧
      GAt σ' ad st' ∧ GInv st' ∧ Ext (us.length - rs.length) st st' ∧ Frm ad σ σ' ∧ (∀ r ∈ rs, Valid st'.cells r) ∧ ∀ line, minI (VL st'.cells line rs) = minI (VL st.cells line us))
  refine JSs_while he.frame J us.length
    ⟨rl, us, st, none, none, rfl, rfl, hne, Nat.le_refl _, AH.set_self _ _ _, (fun e => by rw [e, H.cl] at hrl; cases hrl), hrl, H.fresh hrl, I, Ext.refl.le (Nat.zero_le _), Frm.refl.fresh hrl, vu, fun _ => rfl⟩ ?_
  intro k m σ' hI0
  refine ea_EEEEEAAAAAAAAAAAA hI0 fun rl rs st' o1 o2 ez1 ez2 hne' hle hr hrc hrn H' I' X' F' V' M' => ?_; clear hI0; subst ez1; subst ez2
  walk_at "es"
  refine C_len hr (by rw [List.length_map]; unfold sizeLine; omega) ?_
  walk_at "es"
  refine O_gt (bI ?_)
  rw [List.length_map]
  by_cases h1 : 1 < rs.length
  · first | (walk_at "if") | rw [if_pos (by simp; omega)]
    walk_at "es"
    refine ⟨by decide, fun jl hjl => ?_⟩
    refine JSs_for he.frame (.inl ⟨_, _, rfl⟩) (JEr gg_range.glob ‹Nms _ _› rfl rfl ⟨fun _ _ => rfl, .inr ⟨_, _, rfl, fun _ => rfl⟩⟩ ?_) (by intro _ _; rfl)
    have hjc : jl ≠ ad.cl := fun e => by rw [e, H'.cl] at hjl; cases hjl
    have hjr : rl ≠ jl := fun e => by rw [← e, hr] at hjl; cases hjl
    walk_at "es"
    refine C_len (set_old hr hjl) (by rw [List.length_map]; unfold sizeLine; omega) ?_
    walk_at "es"
    refine O_sub ?_
    walk_at "es"
    rw [List.length_map]
    refine ⟨0, (rs.length : Int) - 1, 2, rs.length / 2, .inr ⟨rfl, by decide, by decide⟩, ?_, range_odd (by omega), ?_⟩
    · exact small_2 (by omega) (by omega)
    let J2 : Nat → List (Option Val) → AH → Prop := fun i m σ2 => ∃ (js : List Int) (st2 : GSt) (o1 : Option Val), m = [some (.ref ad.G), some (.ref l), some (.ref rl), some (.ref jl), o1, none, none, none] ∧ js.length = i ∧ σ2 jl = some (.list (js.map .int)) ∧ σ2 rl = some (.list (rs.map .int)) ∧
        GAt σ2 ad st2 ∧ GInv st2 ∧ Ext i st' st2 ∧ Frm ad σ σ2 ∧ (∀ r ∈ js, Valid st2.cells r) ∧ ∀ line, minI (VL st2.cells line (js ++ rs.drop (2 * i))) = minI (VL st'.cells line rs)
    refine ⟨J2,
      ⟨[], st', o2, rfl, rfl, AH.set_self _ _ _, set_old hr hjl, H'.fresh hjl, I', Ext.refl, F'.fresh hjl, (fun r hr => by cases hr), fun line => by simp⟩, ?_, ?_⟩
    · intro i x m σ2 hx hI0
      refine ea_EEEAAAAAAAAA hI0 fun js st2 o1 ez3 hlen hj hr2 H2 I2 X2 F2 V2 M2 => ?_; clear hI0; subst ez3
      obtain ⟨hlt, rfl⟩ := range_at hx
      have e2 : (0 : Int) + (i : Int) * 2 = ((2 * i : Nat) : Int) := by omega
      have e3 : (0 : Int) + (i : Int) * 2 + 1 = ((2 * i + 1 : Nat) : Int) := by omega
      have l1 : 2 * i < rs.length := by omega
      have l2 : 2 * i + 1 < rs.length := by omega
      refine ⟨trivial, [some (.ref ad.G), some (.ref l), some (.ref rl), some (.ref jl), some (.int (0 + i * 2)), none, none, none], JA_name (he.var (i := 4) rfl rfl) (.inl rfl) (by show 4 < 8; decide), ?_⟩
      walk_at "es"
      refine mtI (meth_list hj PySem.F.slot_list_append PySem.F.type_list_append) (.inr (.inr ⟨_, rfl⟩)) ?_
      walk_at "es"
      refine mtI (mm_Gates_both H2.G H2.dG rfl) mk_Gates_both ?_
      walk_at "es"
      refine T_list (v := .int rs[2 * i]) (fun _ _ => rfl) hr2 (by omega) (by omega) (by rw [e2, Int.toNat_natCast, List.getElem?_map, List.getElem?_eq_getElem l1]; rfl) ?_
      walk_at "es"
      refine O_add ?_
      refine T_list (v := .int rs[2 * i + 1]) (fun _ _ => rfl) hr2 (by omega) (by omega) (by rw [e3, Int.toNat_natCast, List.getElem?_map, List.getElem?_eq_getElem l2]; rfl) ?_
      walk_at "es"
      have v1 := X2.valid I'.net (V' _ (List.getElem_mem l1))
      have v2 := X2.valid I'.net (V' _ (List.getElem_mem l2))
      refine (both_ok H2 I2 v1 v2 (by have := X'.len; have := X2.len; omega) fun r st3 σ3 H3 I3 X3 F3 S3 => ?_).call
      walk_at "es"
      have hj3 := F3.list H2 hj hjc
      have hr3 := F3.list H2 hr2 hrc
      refine C_append hj3 (by rw [List.length_map]; unfold sizeLine; omega) ⟨rfl, ?_⟩
      walk_at "es"
      have hjr' : rl ≠ jl := hjr
      refine ⟨js ++ [r], st3, _, rfl, by simp [hlen], (by rw [List.map_append]; exact AH.set_self _ _ _), (AH.set_ne hjr').trans hr3, H3.own hj3 hjc, I3, X2.trans X3, ?_, ?_, fun line => ?_⟩
      · intro a o e1 e2 e3 e4 e5
        refine (AH.set_ne ?_).trans ((F2.trans F3) a o e1 e2 e3 e4 e5)
        rintro rfl
        have hjn : σ' a = none := hjl
        by_cases z : a = a
        · have := F' a o e1 e2 e3 e4 e5; rw [this] at hjn; cases hjn
        · exact absurd rfl z
      · intro x hx
        rcases List.mem_append.mp hx with hx | hx
        · exact X3.valid I2.net (V2 x hx)
        · rw [List.mem_singleton.mp hx]
          intro line
          obtain ⟨x1, e1⟩ := v1 line
          obtain ⟨y1, e2⟩ := v2 line
          exact ⟨_, S3 line x1 y1 e1 e2⟩
      · rw [← M2 line]
        obtain ⟨x1, e1⟩ := v1 line
        obtain ⟨y1, e2⟩ := v2 line
        have vj : ∀ u ∈ js, Valid st2.cells u := V2
        have vd : ∀ u ∈ rs.drop (2 * (i + 1)), Valid st2.cells u := fun u hu => X2.valid I'.net (V' u (List.mem_of_mem_drop hu))
        have ed : rs.drop (2 * i) = rs[2 * i] :: rs[2 * i + 1] :: rs.drop (2 * (i + 1)) := by
          rw [List.drop_eq_getElem_cons l1, List.drop_eq_getElem_cons l2]; rfl
        have h5 : VL st2.cells line (rs[2 * i] :: rs[2 * i + 1] :: rs.drop (2 * (i + 1))) = x1 :: y1 :: VL st2.cells line (rs.drop (2 * (i + 1))) := by
          simp [VL, e1, e2]
        have h6 : VL st3.cells line [r] = [min x1 y1] := by simp [VL, S3 line x1 y1 e1 e2]
        rw [ed, VL_append, VL_append, VL_append, X3.vl I2.net vj, X3.vl I2.net vd, h5, h6, List.append_assoc]
        exact minI_pair.symm
    · intro m σ2 hI0
      refine ea_EEEAAAAAAAAA hI0 fun js st2 o1 ez4 hlen hj hr2 H2 I2 X2 F2 V2 M2 => ?_; clear hI0; subst ez4
      rw [List.length_map, List.length_range] at hlen X2 M2
      refine ⟨trivial, ?_⟩
      walk_at "es"
      refine C_len hr2 (by rw [List.length_map]; unfold sizeLine; omega) ?_
      walk_at "es"
      rw [List.length_map]
      refine O_mod (by decide) ?_
      walk_at "es"
      refine O_eq (bI ?_)
      have Vj : ∀ r ∈ js ++ rs.drop (2 * (rs.length / 2)), Valid st2.cells r := fun r hr => by
        rcases List.mem_append.mp hr with hr | hr
        · exact V2 r hr
        · exact X2.valid I'.net (V' r (List.mem_of_mem_drop hr))
      have hjn : σ jl = none := by
        cases z : σ jl with
        | none => rfl
        | some o =>
          have hx : σ' jl = none := hjl
          by_cases z1 : jl = ad.dN
          · rw [z1, H'.dN] at hx; cases hx
          by_cases z3 : jl = ad.md
          · rw [z3, H'.md] at hx; cases hx
          by_cases z4 : jl = ad.op
          · rw [z4, H'.op] at hx; cases hx
          rw [F' jl o z z1 hjc z3 z4] at hx; cases hx
      by_cases hodd : rs.length % 2 = 1
      · have he1 : ((rs.length : Int).fmod 2 == 1) = true := by
          have : (rs.length : Int).fmod 2 = ((rs.length % 2 : Nat) : Int) := by rw [Int.fmod_eq_emod_of_nonneg _ (by decide)]; rfl
          rw [this, hodd]; rfl
        first | (walk_at "if") | rw [if_pos he1]
        walk_at "es"
        refine mtI (meth_list hj PySem.F.slot_list_append PySem.F.type_list_append) (.inr (.inr ⟨_, rfl⟩)) ?_
        walk_at "es"
        refine ⟨_, rfl, ?_⟩
        have hl1 : rs.length - 1 < rs.length := by omega
        refine T_neg1 (v := .int rs[rs.length - 1]) (fun _ _ => rfl) hr2 (by rw [List.getLast?_eq_getElem?, List.length_map, List.getElem?_map, List.getElem?_eq_getElem hl1]; rfl) ?_
        walk_at "es"
        refine C_append hj (by rw [List.length_map]; unfold sizeLine; omega) ⟨rfl, ?_⟩
        walk_at "es"
        have ed : rs.drop (2 * (rs.length / 2)) = [rs[rs.length - 1]] := by
          have : 2 * (rs.length / 2) = rs.length - 1 := by omega
          rw [this, List.drop_eq_getElem_cons hl1, List.drop_eq_nil_of_le (by omega)]
        refine ⟨(js ++ [rs[rs.length - 1]]).length, by simp [hlen]; omega, jl, js ++ [rs[rs.length - 1]], st2, _, _, rfl, rfl, by simp, by simp [hlen]; omega, (by rw [List.map_append]; exact AH.set_self _ _ _), hjc, hjn, H2.own hj hjc, I2, (X'.trans X2).le (by simp [hlen]; omega), ?_, ?_, ?_⟩
        · intro a o e1 e2 e3 e4 e5
          refine (AH.set_ne ?_).trans (F2 a o e1 e2 e3 e4 e5)
          rintro rfl
          rw [hjn] at e1; cases e1
        · rw [← ed]; exact Vj
        · intro line
          rw [← ed, M2 line, M' line]
      · have he1 : ¬ (((rs.length : Int).fmod 2 == 1) = true) := by
          have : (rs.length : Int).fmod 2 = ((rs.length % 2 : Nat) : Int) := by rw [Int.fmod_eq_emod_of_nonneg _ (by decide)]; rfl
          rw [this, show rs.length % 2 = 0 by omega]; decide
        first | (walk_at "if") | rw [if_neg he1]
        walk_at "es"
        have ed : rs.drop (2 * (rs.length / 2)) = [] := List.drop_eq_nil_of_le (by omega)
        rw [ed, List.append_nil] at Vj
        refine ⟨js.length, by omega, jl, js, st2, _, _, rfl, rfl, (fun z => by rw [z] at hlen; simp at hlen; omega), by omega, hj, hjc, hjn, H2, I2, (X'.trans X2).le (by omega), F2, Vj, fun line => ?_⟩
        rw [← M' line, ← M2 line, ed, List.append_nil]
  · first | (walk_at "if") | rw [if_neg (by simp; omega)]
    walk_at "es"
    have hl1 : rs.length = 1 := by
      cases rs with
      | nil => exact absurd rfl hne'
      | cons a r => simp at h1 ⊢; omega
    match rs, hl1 with
    | [r], _ =>
    refine C_len hr (by show 1 ≤ sizeLine; decide) ?_
    walk_at "es"
    refine O_eq (bI ?_)
    first | (walk_at "if") | rw [if_pos (by simp)]
    walk_at "es"
    refine T_list (v := .int r) (fun _ _ => rfl) hr (by decide) (by decide) rfl ?_
    refine h r st' σ' H' I' (X'.le (Nat.sub_le _ _)) F' fun line => ?_
    obtain ⟨v, e⟩ := V' r (.head _) line
    rw [← M' line]
    simp [VL, minI, e]
theorem any_of_ok {ad : GAd} {st : GSt} {l : Addr} {us : List Int} (H : GAt σ ad st) (I : GInv st) (hl : σ l = some (.list (us.map .int))) (hlc : l ≠ ad.cl) (vu : ∀ u ∈ us, Valid st.cells u) (hne : us ≠ []) (hz : st.cells.length + 3 * us.length ≤ 90000) (hus : us.length ≤ 1000)
    (h : ∀ r st' σ', GAt σ' ad st' → GInv st' → Ext (us.length + us.length + 1) st st' → Frm ad σ σ' → (∀ line, evl st'.cells line r = some (maxI (VL st.cells line us))) → Q (.int r) σ') :
    JK (CC w E os) (n + 6) true env m σ (.ref 150) [.ref ad.G, .ref l] Q X := by
  refine JK_def (ds := []) (dv := []) ["g", "u"] (by walk_at "fn") (binds2 fun s a b => BindsTo.of_eq rfl) (fun h => rfl) rfl (by walk_at "nm") fun env he hn => ?_
  change JSs _ _ _ _ [some (.ref ad.G), some (.ref l), none, none] _ _ _ _
  walk_at "es"
  refine mtI (mm_Gates_inv H.G H.dG rfl) mk_Gates_inv ?_
  walk_at "es"
  refine (word_not_ok H I hl hlc vu (by omega) hus fun l' us' st' σ' H' I' X' F' hl' hn' hlen S' => ?_).call
  walk_at "es"
  have hlc' : l' ≠ ad.cl := fun e => by rw [e, H.cl] at hn'; cases hn'
  have ga : ∀ i (hi : i < us'.length), ∃ u, us[i]? = some u ∧ ∀ line x, evl st.cells line u = some x → evl st'.cells line us'[i] = some (1 - x) := fun i hi => by
    have hi2 : i < us.length := by omega
    refine ea_EA (S' i us[i] (List.getElem?_eq_getElem hi2)) fun r e1 e2 => ?_
    rw [List.getElem?_eq_getElem hi] at e1; cases e1
    exact ⟨_, List.getElem?_eq_getElem hi2, e2⟩
  have vu' : ∀ u ∈ us', Valid st'.cells u := fun u hu line => by
    obtain ⟨i, hi, rfl⟩ := List.getElem_of_mem hu
    refine ea_EA (ga i hi) fun v e1 e2 => ?_
    obtain ⟨x, e⟩ := vu v (List.mem_of_getElem? e1) line
    exact ⟨_, e2 line x e⟩
  have hne' : us' ≠ [] := fun e => by rw [e] at hlen; exact hne (List.length_eq_zero_iff.mp hlen.symm)
  refine (all_of_ok H' I' hl' hlc' vu' hne' (by have := X'.len; omega) (by omega) fun r st2 σ2 H2 I2 X2 F2 S2 => ?_).call
  walk_at "es"
  have vr : Valid st2.cells r := fun line => ⟨_, S2 line⟩
  refine (inv_ok H2 I2 vr (by have := X'.len; have := X2.len; omega) fun r3 st3 σ3 H3 I3 X3 F3 S3 => ?_).call
  refine h r3 st3 σ3 H3 I3 (((X'.trans X2).trans X3).le (by omega)) ((F'.trans F2).trans F3) fun line => ?_
  rw [S3 line _ (S2 line)]
  have e : VL st'.cells line us' = (VL st.cells line us).map fun v => 1 - v := by
    refine List.ext_getElem (by simp [VL, hlen]) fun i h1 h2 => ?_
    rw [VL_len] at h1
    refine ea_EA (ga i h1) fun u e1 e2 => ?_
    have hi2 : i < us.length := by omega
    rw [List.getElem?_eq_getElem hi2] at e1; cases e1
    obtain ⟨x, e⟩ := vu _ (List.getElem_mem hi2) line
    simp [VL, e, e2 line x e]
  rw [e, minI_not (by intro z; exact hne (List.map_eq_nil_iff.mp z))]
end
section
variable {w : World} {E : Frag} {os : OsState × Nat} {n : Nat} {q : Bool} {env : Env} {m : List (Option Val)} {σ : AH} {X : Addr → AH → Prop} {Q : Val → AH → Prop}
noncomputable def netkinds : List Str := ["wire", "tri", "wand", "wor", "tri0", "tri1", "trireg", "supply0", "supply1"]
theorem net_kinds_ok (h : Q (.tup (netkinds.map .str)) σ) : JK (CC w E os) (n + 1) true env m σ (.ref 220) [] Q X := by
  refine JK_def (ds := []) (dv := []) [] (by walk_at "fn") (binds0 fun s => BindsTo.of_eq rfl) (fun h => rfl) rfl (by walk_at "nm") fun env he hn => ?_
  change JSs _ _ _ _ [] _ _ _ _
  walk_at "es"
  exact ⟨(by show 9 ≤ sizeLine; decide), h⟩
theorem is_net_ok {s d : Addr} {key : Int} {path kind : Str} {width : Int} (hs : σ s = some (.inst 272 d)) (hd : σ d = some (.attrs (sigFs key path kind width))) (h : Q (.bool (netkinds.any (· == kind))) σ) : JK (CC w E os) (n + 2) true env m σ (.ref 241) [.ref s] Q X := by
  refine JK_def (ds := []) (dv := []) ["self"] (by walk_at "fn") (binds1 fun s a => BindsTo.of_eq rfl) (fun h => rfl) rfl (by walk_at "nm") fun env he hn => ?_
  change JSs _ _ _ _ [some (.ref s), none] _ _ _ _
  walk_at "es"
  refine atI (.inl hs) hd rfl cls_Signal na_Signal_kind rfl ?_
  walk_at "es"
  refine (net_kinds_ok ?_).call
  exact O_in_strs h
theorem exc_init_ok {x : Addr} {k p : Str} {at_ : Int} (hx : σ x = some (.excN 52 none)) (h : ∀ σ' d, σ' x = some (.excN 52 (some d)) → σ' d = some (.attrs [("kind", .str k), ("at", .int at_), ("detail", .str p)]) → (∀ b o, σ b = some o → b ≠ x → σ' b = some o) → Q .none σ') :
    JK (CC w E os) (n + 1) true env m σ (.ref 36) [.ref x, .str k, .int at_, .str p] Q X := by
  refine JK_def (ds := []) (dv := []) ["self", "kind", "at", "detail"] (by walk_at "fn") (bindsX4 fun s a b c d X => binds_K X rfl rfl rfl rfl rfl) (fun h => rfl) rfl (by walk_at "nm") fun env he hn => ?_
  change JSs _ _ _ _ [some (.ref x), some (.str k), some (.int at_), some (.str p)] _ _ _ _
  refine JSs_setexc0 ?_ (by intro _; rfl)
  walk_at "es"
  refine ⟨_, _, rfl, hx, es, na_exc_kind, fun d hd => ?_⟩
  have hne : x ≠ d := fun e => by rw [e, hd] at hx; cases hx
  refine JSs_setexc ?_ (by intro _; rfl)
  walk_at "es"
  refine ⟨_, _, _, _, rfl, .inr (.inr ((AH.set_ne hne).trans (AH.set_self _ _ _))), AH.set_self _ _ _, es, na_exc_at, (by show 1 ≤ 100; decide), ?_⟩
  refine JSs_setexc ?_ (by intro _; rfl)
  walk_at "es"
  refine ⟨_, _, _, _, rfl, .inr (.inr ((AH.set_ne hne).trans ((AH.set_ne hne).trans (AH.set_self _ _ _)))), AH.set_self _ _ _, es, na_exc_detail, (by show 2 ≤ 100; decide), ?_⟩
  walk_at "es"
  refine h _ d ((AH.set_ne hne).trans ((AH.set_ne hne).trans ((AH.set_ne hne).trans (AH.set_self _ _ _)))) (AH.set_self _ _ _) fun b o e hb => ?_
  have hbd : b ≠ d := fun z => by rw [z, hd] at e; cases e
  exact (AH.set_ne hbd).trans ((AH.set_ne hbd).trans ((AH.set_ne hbd).trans ((AH.set_ne hb).trans e)))
theorem several_ok {s d : Addr} {key : Int} {path kind : Str} {width : Int} (hs : σ s = some (.inst 272 d)) (hd : σ d = some (.attrs (sigFs key path kind width)))
    (h : ∀ σ' x d, σ' x = some (.excN 52 (some d)) → σ' d = some (.attrs [("kind", .str "several_drivers"), ("at", .int (-1)), ("detail", .str path)]) → σ x = none → Old σ σ' → Q (.ref x) σ') :
    JK (CC w E os) (n + 3) true env m σ (.ref 199) [.ref s] Q X := by
  refine JK_def (ds := []) (dv := []) ["signal"] (by walk_at "fn") (binds1 fun s a => BindsTo.of_eq rfl) (fun h => rfl) rfl (by walk_at "nm") fun env he hn => ?_
  change JSs _ _ _ _ [some (.ref s), none] _ _ _ _
  walk_at "es"
  refine atI (.inl hs) hd rfl cls_Signal na_Signal_at rfl ?_
  walk_at "es"
  refine atI (.inl hs) hd rfl cls_Signal na_Signal_path rfl ?_
  walk_at "es"
  refine JC_exc ec (by show 3 ≤ sizeLine; decide) fun x hx => exc_init_ok (AH.set_self _ _ _) fun σ' d h1 h2 h3 => ⟨rfl, ?_⟩
  exact h σ' x d h1 h2 hx fun b o e => h3 b o (set_old e hx) fun z => by rw [z, hx] at e; cases e
end
section
variable {w : World} {E : Frag} {os : OsState × Nat} {n : Nat} {q : Bool} {env : Env} {m : List (Option Val)} {σ : AH} {X : Addr → AH → Prop} {Q : Val → AH → Prop}
theorem net9 : ∀ k ∈ kinds9, netkinds.any (· == k) = !(k == "reg" || k == "event") := by decide
theorem resting_ok {κ : AH} {x : DAd} {ss : List Sg} {i b : Nat} {s : Sg} (Wk : WAt κ x ss) (O : Old κ σ) (hs : ss[i]? = some s) (ok : SgOk s) (hb : b < s.width) (h : Q (.int (rest s b)) σ) :
    JK (CC w E os) (n + 3) true env m σ (.ref 192) [.ref x.W, .ref s.a, .int b] Q X := by
  have W := Wk.old O
  refine ea_AAA (W.sg i s hs) fun hsa hsd hsn hsi => ?_
  refine JK_def (ds := []) (dv := []) ["wires", "signal", "bit"] (by walk_at "fn") (binds3 fun s a b c => BindsTo.of_eq rfl) (fun h => rfl) rfl (by walk_at "nm") fun env he hn => ?_
  change JSs _ _ _ _ [some (.ref x.W), some (.ref s.a), some (.int b)] _ _ _ _
  walk_at "es"
  refine mtI (mm_Signal_is_net hsa hsd rfl) mk_Signal_is_net ?_
  walk_at "es"
  refine (is_net_ok hsa hsd ?_).call
  refine ⟨_, rfl, ?_⟩
  rw [net9 _ ok.kind]
  by_cases hk : s.kind = "reg" ∨ s.kind = "event"
  · have e : (!!(s.kind == "reg" || s.kind == "event")) = true := by simpa using hk
    first | (walk_at "if") | rw [if_pos e]
    walk_at "es"
    refine atI (.inl W.W) W.dW rfl cls_Wires na_Wires_initial rfl ?_
    walk_at "es"
    refine atI (.inl hsa) hsd rfl cls_Signal na_Signal_key rfl ?_
    refine ea_EEA W.id fun f z hf hff => ?_
    refine T_dict (k := .i i) (fun _ _ => rfl) hf (hff i s hs) ?_
    walk_at "es"
    have hbl : b < s.iL.length := by rw [ok.il]; exact hb
    refine T_list (v := .int s.iL[b]) (fun _ _ => rfl) hsi (by omega) (by have := ok.w2; omega) (by rw [Int.toNat_natCast, List.getElem?_map, List.getElem?_eq_getElem hbl]; rfl) ?_
    have : rest s b = s.iL[b] := by unfold rest; rw [if_pos hk]; simp [hbl]
    rw [this] at h; exact h
  · have e : ¬ ((!!(s.kind == "reg" || s.kind == "event")) = true) := by simpa using hk
    first | (walk_at "if") | rw [if_neg e]
    walk_at "es"
    refine atI (.inl hsa) hsd rfl cls_Signal na_Signal_key rfl ?_
    walk_at "es"
    refine ⟨(by show 2 ≤ sizeLine; decide), ?_⟩
    walk_at "es"
    refine atI (.inl W.W) W.dW rfl cls_Wires na_Wires_pulls rfl ?_
    refine ea_EEA W.pd fun f z hf hff => ?_
    have hp := hff i s b hs
    refine O_int (ks := [.i i, .i b]) hf (bI ?_)
    rw [hp]
    cases hpl : s.pull b with
    | some v =>
      first | (walk_at "if") | rw [if_pos (by simp)]
      walk_at "es"
      refine atI (.inl W.W) W.dW rfl cls_Wires na_Wires_pulls rfl ?_
      walk_at "es"
      refine atI (.inl hsa) hsd rfl cls_Signal na_Signal_key rfl ?_
      walk_at "es"
      refine ⟨(by show 2 ≤ sizeLine; decide), ?_⟩
      refine T_tdict (ks := [.i i, .i b]) (v := .int v) (fun _ _ => rfl) hf (by rw [hp, hpl]; rfl) ?_
      have : rest s b = v := by unfold rest; rw [if_neg hk, hpl]; rfl
      rw [this] at h; exact h
    | none =>
      first | (walk_at "if") | rw [if_neg (by simp)]
      walk_at "es"
      refine atI (.inl hsa) hsd rfl cls_Signal na_Signal_kind rfl ?_
      walk_at "es"
      refine O_seq (bI ?_)
      have : rest s b = if s.kind = "tri1" then 1 else 0 := by unfold rest; rw [if_neg hk, hpl]; rfl
      rw [this] at h
      by_cases ht : s.kind = "tri1"
      · first | (walk_at "if") | rw [if_pos (by simpa using ht)]
        walk_at "es"
        rw [if_pos ht] at h; exact h
      · first | (walk_at "if") | rw [if_neg (by simpa using ht)]
        walk_at "es"
        rw [if_neg ht] at h; exact h
theorem minI_single (a : Int) : minI [a] = a := rfl
theorem minI_all {l : List Int} {v : Int} (hne : l ≠ []) (h : ∀ a ∈ l, a = v) : minI l = v := h _ (minI_mem hne)
theorem joined_ok {κ : AH} {x : DAd} {ss : List Sg} {ad : GAd} {st : GSt} {i b : Nat} {s : Sg} (Wk : WAt κ x ss) (O : Old κ σ) (A : Apart κ ad) (hs : ss[i]? = some s) (ok : SgOk s) (hb : b < s.width) (H : GAt σ ad st) (I : GInv st) (hz : st.cells.length ≤ 50000)
    (h : ∀ r st' σ', GAt σ' ad st' → GInv st' → Ext 10 st st' → Frm ad σ σ' → ¬ Refused s b → (∀ line, evl st'.cells line r = some (due s b (evl st.cells line))) → Q (.int r) σ')
    (hx : ∀ a d σ' fs, σ' a = some (.exc 52 d) → σ' d = some (.attrs (("kind", .str "several_drivers") :: fs)) → Old σ σ' → Refused s b → X a σ') :
    JK (CC w E os) (n + 7) true env m σ (.ref 206) [.ref x.W, .ref ad.G, .ref s.a, .int b] Q X := by
  have W := Wk.old O
  refine ea_AAA (W.sg i s hs) fun hsa hsd hsn hsi => ?_
  refine JK_def (ds := []) (dv := []) ["wires", "g", "signal", "bit"] (by walk_at "fn") (binds4 fun s a b c d => BindsTo.of_eq rfl) (fun h => rfl) rfl (by walk_at "nm") fun env he hn => ?_
  change JSs _ _ _ _ [some (.ref x.W), some (.ref ad.G), some (.ref s.a), some (.int b), none, none, none, none, none, none, none] _ _ _ _
  walk_at "es"
  refine atI (.inl hsa) hsd rfl cls_Signal na_Signal_kind rfl ?_
  walk_at "es"
  refine O_seq (bI ?_)
  by_cases k0 : s.kind = "supply0"
  · first | (walk_at "if") | rw [if_pos (by simpa using k0)]
    walk_at "es"
    refine h 0 st σ H I (Ext.refl.le (by decide)) Frm.refl (fun z => z.1 k0) fun line => ?_
    rw [I.net.zero]; unfold due; rw [if_pos k0]
  first | (walk_at "if") | rw [if_neg (by simpa using k0)]
  walk_at "es"
  refine atI (.inl hsa) hsd rfl cls_Signal na_Signal_kind rfl ?_
  walk_at "es"
  refine O_seq (bI ?_)
  by_cases k1 : s.kind = "supply1"
  · first | (walk_at "if") | rw [if_pos (by simpa using k1)]
    walk_at "es"
    refine h 1 st σ H I (Ext.refl.le (by decide)) Frm.refl (fun z => z.2.1 k1) fun line => ?_
    rw [I.net.one']; unfold due; rw [if_neg k0, if_pos k1]
  first | (walk_at "if") | rw [if_neg (by simpa using k1)]
  walk_at "es"
  refine atI (.inl W.W) W.dW rfl cls_Wires na_Wires_drivers rfl ?_
  refine ea_EEA W.dd fun f z hf hff => ?_
  refine mtI (meth_tdict hf) (.inr (.inr ⟨_, rfl⟩)) ?_
  walk_at "es"
  refine atI (.inl hsa) hsd rfl cls_Signal na_Signal_key rfl ?_
  walk_at "es"
  refine ⟨(by show 2 ≤ sizeLine; decide), ?_⟩
  walk_at "es"
  refine ⟨by decide, fun a ha => ?_⟩
  walk_at "es"
  have hp := hff i s b hs
  refine C_gett (ks := [.i i, .i b]) (set_old hf ha) ?_
  rw [hp]
  have hdue : ∀ line, due s b (evl st.cells line) = match s.drv b with | none => rest s b | some p => if s.kind = "wor" then maxI (VL st.cells line p.2) else minI (VL st.cells line p.2) := fun line => by
    unfold due; rw [if_neg k0, if_neg k1]; rfl
  cases hd : s.drv b with
  | none =>
    have O' : Old κ (σ.set a (.list [])) := O.fresh ha
    dsimp only [Option.map, Option.getD]
    walk_at "es"
    refine C_len (AH.set_self _ _ _) (by decide) ?_
    walk_at "es"
    refine O_eq (bI ?_)
    first | (walk_at "if") | rw [if_pos (by simp)]
    walk_at "es"
    refine (resting_ok Wk O' hs ok hb ?_).call
    have hr : rest s b = 0 ∨ rest s b = 1 := by
      unfold rest
      split
      · have hbl : b < s.iL.length := by rw [ok.il]; exact hb
        rw [List.getD_eq_getElem?_getD, List.getElem?_eq_getElem hbl]
        exact ok.bits _ (List.getElem_mem hbl)
      · cases hpl : s.pull b with
        | none => show (if s.kind = "tri1" then (1 : Int) else 0) = 0 ∨ _; split <;> simp
        | some v => exact ok.pull b v hpl
    refine h _ st _ (H.fresh ha) I (Ext.refl.le (by decide)) (Frm.refl.fresh ha) (fun z => by obtain ⟨_, _, p, hp2, _⟩ := z; rw [hd] at hp2; cases hp2) fun line => ?_
    rw [hdue, hd]
    rcases hr with e | e
    · rw [e, I.net.zero]
    · rw [e, I.net.one']
  | some p =>
    refine ea_AA (ok.drv b p hd) fun hpn hp3 hpv => ?_
    have hpl := W.dl i s b p hs hd
    have hpl' : (σ.set a (.list [])) p.1 = some (.list (p.2.map .int)) := set_old hpl ha
    have H' : GAt (σ.set a (.list [])) ad st := H.fresh ha
    have hκ := Wk.dl i s b p hs hd
    have hpc : p.1 ≠ ad.cl := fun e => by have := A.a2; rw [← e, hκ] at this; cases this
    have vp : ∀ u ∈ p.2, Valid st.cells u := fun u hu line => by
      obtain ⟨h0, h6⟩ := hpv u hu
      rw [I.net.inp line u (by omega)]
      exact base_some h0 (by omega)
    dsimp only [Option.map, Option.getD]
    walk_at "es"
    refine C_len hpl' (by rw [List.length_map]; unfold sizeLine; omega) ?_
    rw [List.length_map]
    walk_at "es"
    refine O_eq (bI ?_)
    have hl0 : p.2.length ≠ 0 := fun e => hpn (List.length_eq_zero_iff.mp e)
    rw [if_neg (by simp; exact hpn)]
    walk_at "es"
    refine C_len hpl' (by rw [List.length_map]; unfold sizeLine; omega) ?_
    rw [List.length_map]
    walk_at "es"
    refine O_eq (bI ?_)
    have hd0 : ∃ v t, p.2 = v :: t := by cases e : p.2 with | nil => exact absurd e hpn | cons v t => exact ⟨v, t, rfl⟩
    refine ea_EE hd0 fun v0 t0 ep => ?_; clear hd0
    by_cases hl1 : p.2.length = 1
    · first | (walk_at "if") | rw [if_pos (by simp [hl1])]
      walk_at "es"
      have et : t0 = [] := by rw [ep] at hl1; simpa using hl1
      refine T_list (v := .int v0) (fun _ _ => rfl) hpl' (by decide) (by decide) (by rw [ep]; rfl) ?_
      refine h v0 st _ H' I (Ext.refl.le (by decide)) (Frm.refl.fresh ha) (fun z => by obtain ⟨_, _, p', hp2, hlt, _⟩ := z; rw [hd] at hp2; cases hp2; omega) fun line => ?_
      obtain ⟨v, e⟩ := vp v0 (by rw [ep]; exact .head _) line
      rw [hdue, hd]
      simp [ep, et, VL, e, minI, maxI]
    have h2 : 1 < p.2.length := by omega
    first | (walk_at "if") | rw [if_neg (by simp; omega)]
    walk_at "es"
    refine atI (.inl (set_old hsa ha)) (set_old hsd ha) rfl cls_Signal na_Signal_key rfl ?_
    walk_at "es"
    refine atI (.inl (set_old W.W ha)) (set_old W.dW ha) rfl cls_Wires na_Wires_uneven rfl ?_
    refine ea_EEA W.ud fun fu zu hfu hfuu => ?_
    refine O_in (k := .i i) (set_old hfu ha) (bI ?_)
    rw [hfuu i s hs]
    by_cases hu : s.uneven = true
    · first | (walk_at "if") | rw [if_pos hu]
      refine JSs_raise ?_
      walk_at "es"
      refine (several_ok (set_old hsa ha) (set_old hsd ha) fun σ' xa d h1 h2' h3 h4 => ?_).call
      refine ⟨xa, _, d, 36, rfl, h1, ec, ?_⟩
      have hne : d ≠ xa := ne_of h2' h1 (by simp)
      refine hx xa d _ _ (AH.set_self _ _ _) ((AH.set_ne hne).trans h2') ?_ ⟨k0, k1, p, hd, h2, .inl hu⟩
      exact fun b' o e => (AH.set_ne (fun z => by have e2 := set_old (o' := .list []) e ha; rw [z, h3] at e2; cases e2)).trans (h4 b' o (set_old e ha))
    first | (walk_at "if") | rw [if_neg hu]
    walk_at "es"
    refine atI (.inl (set_old hsa ha)) (set_old hsd ha) rfl cls_Signal na_Signal_kind rfl ?_
    walk_at "es"
    refine O_seq (bI ?_)
    by_cases kwand : s.kind = "wand"
    · first | (walk_at "if") | rw [if_pos (by simpa using kwand)]
      walk_at "es"
      refine (all_of_ok H' I hpl' hpc vp hpn (by omega) (by omega) fun r st' σ' h1 h2' h3 h4 h5 => ?_).call
      refine h r st' σ' h1 h2' (h3.le (by omega)) ((Frm.refl.fresh ha).trans h4) (fun z => ?_) fun line => ?_
      · refine ea_AAEAA z fun _ _ p' hp2 _ rz => ?_; clear z; rename _ => z
        rcases z with z | ⟨z, _⟩
        · exact hu z
        · exact z kwand
      · rw [h5, hdue, hd]; dsimp only; rw [if_neg (by rw [kwand]; decide)]
    first | (walk_at "if") | rw [if_neg (by simpa using kwand)]
    walk_at "es"
    refine atI (.inl (set_old hsa ha)) (set_old hsd ha) rfl cls_Signal na_Signal_kind rfl ?_
    walk_at "es"
    refine O_seq (bI ?_)
    by_cases kwor : s.kind = "wor"
    · first | (walk_at "if") | rw [if_pos (by simpa using kwor)]
      walk_at "es"
      refine (any_of_ok H' I hpl' hpc vp hpn (by omega) (by omega) fun r st' σ' h1 h2' h3 h4 h5 => ?_).call
      refine h r st' σ' h1 h2' (h3.le (by omega)) ((Frm.refl.fresh ha).trans h4) (fun z => ?_) fun line => ?_
      · refine ea_AAEAA z fun _ _ p' hp2 _ rz => ?_; clear z; rename _ => z
        rcases z with z | ⟨_, z, _⟩
        · exact hu z
        · exact z kwor
      · rw [h5, hdue, hd]; dsimp only; rw [if_pos kwor]
    first | (walk_at "if") | rw [if_neg (by simpa using kwor)]
    refine JSs_for he.frame (.inl ⟨_, _, rfl⟩) (JI_list ?_) (by intro _ _; rfl)
    walk_at "es"
    let J11 : Nat → List (Option Val) → AH → Prop := fun j m σ' => (∃ o, m = [some (.ref x.W), some (.ref ad.G), some (.ref s.a), some (.int b), some (.ref p.1), o, none, none, none, none, none]) ∧ σ' = σ.set a (.list []) ∧ ∀ k v, k < j → p.2[k]? = some v → v = v0
    refine ⟨p.1, p.2.map .int, rfl, hpl', J11, ⟨⟨_, rfl⟩, rfl, fun k v hk => absurd hk (Nat.not_lt_zero _)⟩, ?_, ?_⟩
    · intro j v m σ' hv hI0
      refine ea_AA hI0 fun pz1 ez2 hall => ?_; clear hI0; subst ez2
      obtain ⟨o, rfl⟩ := pz1
      rw [List.getElem?_map] at hv
      refine ea_EA (Option.map_eq_some_iff.mp hv) fun u hu' ez3 => ?_; subst ez3
      refine ⟨hpl', [some (.ref x.W), some (.ref ad.G), some (.ref s.a), some (.int b), some (.ref p.1), some (.int u), none, none, none, none, none], JA_name (he.var (i := 5) rfl rfl) (.inl rfl) (by show 5 < 11; decide), ?_⟩
      walk_at "es"
      refine T_list (v := .int v0) (fun _ _ => rfl) hpl' (by decide) (by decide) (by rw [ep]; rfl) ?_
      refine O_ne (bI ?_)
      by_cases huv : u = v0
      · first | (walk_at "if") | rw [if_neg (by simpa using huv)]
        walk_at "es"
        refine ⟨⟨_, rfl⟩, rfl, fun k v hk e => ?_⟩
        rcases Nat.lt_succ_iff_lt_or_eq.mp hk with hk | rfl
        · exact hall k v hk e
        · rw [hu'] at e; cases e; exact huv
      · first | (walk_at "if") | rw [if_pos (by simpa using huv)]
        refine JSs_raise ?_
        walk_at "es"
        refine (several_ok (set_old hsa ha) (set_old hsd ha) fun σ' xa d h1 h2' h3 h4 => ?_).call
        refine ⟨xa, _, d, 36, rfl, h1, ec, ?_⟩
        have hne : d ≠ xa := ne_of h2' h1 (by simp)
        refine hx xa d _ _ (AH.set_self _ _ _) ((AH.set_ne hne).trans h2') ?_ ⟨k0, k1, p, hd, h2, .inr ⟨kwand, kwor, u, List.mem_of_getElem? hu', by rw [ep]; exact huv⟩⟩
        exact fun b' o e => (AH.set_ne (fun z => by have e2 := set_old (o' := .list []) e ha; rw [z, h3] at e2; cases e2)).trans (h4 b' o (set_old e ha))
    · intro m σ' hI0
      refine ea_AA hI0 fun pz4 ez5 hall => ?_; clear hI0; subst ez5
      obtain ⟨o, rfl⟩ := pz4
      rw [List.length_map] at hall
      have hall' : ∀ v ∈ p.2, v = v0 := fun v hv => by
        obtain ⟨k, hk⟩ := List.mem_iff_getElem?.mp hv
        exact hall k v (List.getElem?_eq_some_iff.mp hk).1 hk
      refine ⟨hpl', ?_⟩
      walk_at "es"
      refine T_list (v := .int v0) (fun _ _ => rfl) hpl' (by decide) (by decide) (by rw [ep]; rfl) ?_
      refine h v0 st _ H' I (Ext.refl.le (by decide)) (Frm.refl.fresh ha) (fun z => ?_) fun line => ?_
      · refine ea_AAEAA z fun _ _ p' hp2 _ rz => ?_; clear z; rename _ => z
        rw [hd] at hp2; cases hp2
        rcases z with z | ⟨_, _, v, hv, hne⟩
        · exact hu z
        · rw [ep] at hne; exact hne (hall' v (by rw [ep]; rw [ep] at hv; exact hv))
      · obtain ⟨v, e⟩ := vp v0 (by rw [ep]; exact .head _) line
        rw [hdue, hd]
        simp only [if_neg kwor]
        rw [e]; congr 1
        refine (minI_all (by simpa [VL] using hpn) fun y hy => ?_).symm
        refine ea_EA (List.mem_map.mp hy) fun u hu' ez6 => ?_; subst ez6
        rw [hall' u hu', e]; rfl
end
section
variable {w : World} {E : Frag} {os : OsState × Nat} {n : Nat} {q : Bool} {env : Env} {m : List (Option Val)} {σ : AH} {X : Addr → AH → Prop} {Q : Val → AH → Prop}
structure NetAt (σ : AH) (N dN il ol cl : Addr) (cnt : Int) (cells : List Cell) : Prop where
  N : σ N = some (.inst 412 dN)
  dN : σ dN = some (.attrs (netFs cnt il ol cl))
  il : ∃ i1 i2 s1 s2, σ il = some (.list [.tup [.str s1, .ref i1], .tup [.str s2, .ref i2]]) ∧ σ i1 = some (.list [.int 2, .int 3, .int 4, .int 5]) ∧ σ i2 = some (.list [.int 6, .int 7])
  cl : σ cl = some (.list (cellsV cells))
theorem values_ok {N dN il ol cl : Addr} {cnt line : Int} {cells : List Cell} (H : NetAt σ N dN il ol cl cnt cells) (I : NInv cnt cells) (hz : cells.length ≤ 100000)
    (h : ∀ σ' d z, σ' d = some (.dict (mkD (evl cells line)) z) → σ d = none → Old σ σ' → Q (.ref d) σ') : JK (CC w E os) (n + 1) true env m σ (.ref 435) [.ref N, .int line] Q X := by
  refine JK_def (ds := []) (dv := []) ["netlist", "line"] (by walk_at "fn") (binds2 fun s a b => BindsTo.of_eq rfl) (fun h => rfl) rfl (by walk_at "nm") fun env he hn => ?_
  change JSs _ _ _ _ [some (.ref N), some (.int line), none, none, none, none, none, none, none, none, none, none, none, none] _ _ _ _
  obtain ⟨ca, hca⟩ := he.cells "held" (by simp)
  walk_at "s"
  refine JE_dict01 (by decide) fun hd hhd => ?_
  walk_at "es"
  refine ea_EEEEAA H.il fun i1 i2 s1 s2 hil hi1 hi2 => ?_
  rw [start_d (line := line)]
  refine JSs_for he.frame (.inr ⟨_, _, _, rfl⟩) (JI_list ?_) (by intro _ _; rfl)
  walk_at "es"
  refine atI (.inl (set_old H.N hhd)) (set_old H.dN hhd) rfl cls_Netlist na_Netlist_inputs rfl ?_
  let J1 : Nat → List (Option Val) → AH → Prop := fun i m σ' => ∃ (k z : Nat) (o4 o5 o6 : Option Val), m = [some (.ref N), some (.int line), some (.ref hd), some (.int k), o4, o5, o6, none, none, none, none, none, none, none] ∧ ((i = 0 ∧ k = 0) ∨ (i = 1 ∧ k = 4) ∨ (i = 2 ∧ k = 6)) ∧ σ' hd = some (.dict (mkD (baseN k line)) z) ∧ z ≤ 2 + k ∧ Old σ σ'
  refine ⟨il, _, rfl, set_old hil hhd, J1,
    ⟨0, 2, none, none, none, rfl, .inl ⟨rfl, rfl⟩, AH.set_self _ _ _, by decide, Old.refl.fresh hhd⟩, ?_, ?_⟩
  · intro i x m σ' hx hI0
    refine ea_EEEEEAAAA hI0 fun k z o4 o5 o6 ez1 hk hh hz' O' => ?_; clear hI0; subst ez1
    refine ⟨O' _ _ hil, ?_⟩
    obtain ⟨sx, lx, ns, rfl, hl, hlen, hns⟩ : ∃ (sx : Str) (lx : Addr) (len : Nat), x = .tup [.str sx, .ref lx] ∧ σ lx = some (.list ((List.range len).map fun (j : Nat) => Val.int (2 + (k : Int) + (j : Int)))) ∧ k + len ≤ 6 ∧ ((i + 1 = 1 ∧ k + len = 4) ∨ (i + 1 = 2 ∧ k + len = 6)) := by
      rcases hk with ⟨rfl, rfl⟩ | ⟨rfl, rfl⟩ | ⟨rfl, rfl⟩
      · simp at hx; subst hx; exact ⟨s1, i1, 4, rfl, hi1, by decide, .inl ⟨rfl, rfl⟩⟩
      · simp at hx; subst hx; exact ⟨s2, i2, 2, rfl, hi2, by decide, .inr ⟨rfl, rfl⟩⟩
      · simp at hx
    refine ⟨_, JA_tuple (.cons (JA_name (he.var (i := 4) rfl rfl) (.inl rfl) (by show 4 < 14; decide)) (by intro _; rfl) (.cons (JA_name (he.var (i := 5) rfl rfl) (.inl rfl) (by show 5 < 14; decide)) (by intro _; rfl) .nil)), ?_⟩
    refine JSs_for he.frame (.inl ⟨_, _, rfl⟩) (JI_list ?_) (by intro _ _; rfl)
    walk_at "es"
    let J2 : Nat → List (Option Val) → AH → Prop := fun j m σ' => ∃ (z : Nat) (o6 : Option Val), m = [some (.ref N), some (.int line), some (.ref hd), some (.int ((k + j : Nat) : Int)), some (.str sx), some (.ref lx), o6, none, none, none, none, none, none, none] ∧ σ' hd = some (.dict (mkD (baseN (k + j) line)) z) ∧ z ≤ 2 + (k + j) ∧ Old σ σ'
    refine ⟨lx, _, rfl, O' _ _ hl, J2,
      ⟨z, o6, rfl, hh, hz', O'⟩, ?_, ?_⟩
    · intro j y m σ2 hy hI0
      refine ea_EEAAA hI0 fun z2 o6' ez2 hh2 hz2 O2 => ?_; clear hI0; subst ez2
      refine ⟨O2 _ _ hl, ?_⟩
      rw [List.getElem?_map] at hy
      refine ea_EA (Option.map_eq_some_iff.mp hy) fun j' hj' ez3 => ?_; subst ez3
      have hlt : j < ns := by
        rcases Nat.lt_or_ge j ns with h | h
        · exact h
        · rw [List.getElem?_eq_none (by simpa using h)] at hj'; cases hj'
      rw [List.getElem?_range hlt] at hj'; cases hj'
      refine ⟨_, JA_name (he.var (i := 6) rfl rfl) (.inl rfl) (by show 6 < 14; decide), ?_⟩
      walk_at "es"
      refine O_pow (by omega) (by omega) (by decide) ?_
      obtain ⟨p1, p2⟩ := two_pow_small (k := k + j) (by omega)
      rw [Int.toNat_natCast]
      refine O_fdiv p1 p2 ?_
      walk_at "es"
      refine O_mod (by decide) ?_
      walk_at "es"
      refine ⟨_, .dict (.i (2 + (k : Int) + j)) hh2 (by unfold sizeLine; omega), ?_⟩
      rw [mkD_put, show 2 + (k : Int) + (j : Int) = 2 + ((k + j : Nat) : Int) by omega, baseN_step]
      refine JSs_aug (he.var (i := 3) (k := .local) rfl rfl) (.inl rfl) (a := ((k + j : Nat) : Int)) rfl ?_
      walk_at "es"
      refine ⟨1, rfl, ?_⟩
      walk_at "es"
      refine ⟨z2 + 1, some (.int (2 + ((k + j : Nat) : Int))), ?_, AH.set_self _ _ _, by omega, fun a o e => (AH.set_ne (fun z => by rw [z, hhd] at e; cases e)).trans (O2 a o e)⟩
      have : ((k + j : Nat) : Int) + 1 = ((k + (j + 1) : Nat) : Int) := by omega
      rw [← this]; rfl
    · intro m σ2 hI0
      refine ea_EEAAA hI0 fun z2 o6' ez4 hh2 hz2 O2 => ?_; clear hI0; subst ez4
      rw [List.length_map, List.length_range] at hh2 hz2
      refine ⟨O2 _ _ hl, ?_⟩
      walk_at "es"
      refine ⟨k + ns, z2, _, _, _, by rw [List.length_map, List.length_range], ?_, hh2, by omega, O2⟩
      rcases hns with ⟨h1, h2⟩ | ⟨h1, h2⟩
      · exact .inr (.inl ⟨h1, h2⟩)
      · exact .inr (.inr ⟨h1, h2⟩)
  · intro m σ' hI0
    refine ea_EEEEEAAAA hI0 fun k z o4 o5 o6 ez5 hk hh hz' O' => ?_; clear hI0; subst ez5
    have hk6 : k = 6 := by rcases hk with ⟨h1, _⟩ | ⟨h1, _⟩ | ⟨_, h2⟩; cases h1; cases h1; exact h2
    subst hk6
    rw [baseN_6] at hh
    refine ⟨O' _ _ hil, ?_⟩
    refine JSs_for he.frame (.inr ⟨_, _, _, rfl⟩) (JI_list ?_) (by intro _ _; rfl)
    walk_at "es"
    refine atI (.inl (O' _ _ H.N)) (O' _ _ H.dN) rfl cls_Netlist na_Netlist_cells rfl ?_
    let J3 : Nat → List (Option Val) → AH → Prop := fun i m σ' => ∃ (z : Nat) (o4 o5 o6 o7 o8 o9 o10 o11 : Option Val), m = [some (.ref N), some (.int line), some (.ref hd), some (.int 6), o4, o5, o6, o7, o8, o9, o10, o11, none, none] ∧ i ≤ cells.length ∧ σ' hd = some (.dict (mkD (ev (base line) (cells.take i))) z) ∧ z ≤ 8 + i ∧ Old σ σ'
    refine ⟨cl, _, rfl, O' _ _ H.cl, J3,
      ⟨z, _, _, _, _, _, _, _, _, rfl, Nat.zero_le _, hh, by omega, O'⟩, ?_, ?_⟩
    · intro i x m σ2 hx hI0
      refine ea_EEEEEEEEEAAAA hI0 fun z2 o4 o5 o6 o7 o8 o9 o10 o11 ez6 hle hh2 hz2 O2 => ?_; clear hI0; subst ez6
      refine ⟨O2 _ _ H.cl, ?_⟩
      unfold cellsV at hx
      rw [List.getElem?_map] at hx
      refine ea_EA (Option.map_eq_some_iff.mp hx) fun c hc ez7 => ?_; subst ez7
      have hlt : i < cells.length := (List.getElem?_eq_some_iff.mp hc).1
      refine ⟨_, JA_tuple (.cons (JA_name (he.var (i := 7) rfl rfl) (.inl rfl) (by show 7 < 14; decide)) (by intro _; rfl) (.cons (JA_name (he.var (i := 8) rfl rfl) (.inl rfl) (by show 8 < 14; decide)) (by intro _; rfl)
        (.cons (JA_name (he.var (i := 9) rfl rfl) (.inl rfl) (by show 9 < 14; decide)) (by intro _; rfl) (.cons (JA_name (he.var (i := 10) rfl rfl) (.inl rfl) (by show 10 < 14; decide)) (by intro _; rfl) .nil)))), ?_⟩
      change JSs _ _ _ _ [some (.ref N), some (.int line), some (.ref hd), some (.int 6), o4, o5, o6, some (.str c.kind), some (.int c.out), some (.tup (c.ins.map .int)), some .none, o11, none, none] _ _ _ _
      have c1 := I.one c (List.mem_of_getElem? hc)
      have hv : ∀ u ∈ c.ins, ∃ v, ev (base line) (cells.take i) u = some v := fun u hu => Option.isSome_iff_exists.mp (WFc_at (I.wf line) hc u hu)
      have K : CompOk env { kind := ScopeKind.function, names := [(".0", NameKind.local), ("net", NameKind.local), ("held", NameKind.free)], isGenerator := false, isCoroutine := false, more := [] } [("held", ca)]
          [some (.ref N), some (.int line), some (.ref hd), some (.int 6), o4, o5, o6, some (.str c.kind), some (.int c.out), some (.tup (c.ins.map .int)), some .none, o11, none, none] [none, none, some (.ref hd)] := by
        refine comp_ok _ 2 he rfl rfl (by decide) (by decide) (by decide) (by decide) ?_ hca rfl (by decide) rfl ?_
        · simp only [closureFor, List.forIn_cons, List.forIn_nil, show (NameKind.local == NameKind.free) = false from rfl, show (NameKind.free == NameKind.free) = true from rfl, Bool.false_eq_true, if_false, if_true, cellOf, hca, pure_bind]
        · intro i x k v' h1 h2
          match i, h1, h2 with
          | 0, h1, h2 => cases h2
          | 1, h1, h2 => cases h2
          | 2, h1, h2 => cases h1; cases h2; exact ⟨rfl, rfl⟩
      refine JSs_comp [("held", ca)] [none, none, some (.ref hd)] (he.var (i := 11) (k := .local) rfl rfl) (.inl rfl) (by show 11 < 14; decide) he.frame (.inl ⟨_, _, rfl⟩) K (swaps_true he rfl rfl rfl) (JI_tup ?_) (by intro _ _; rfl)
      walk_at "es"
      let J11 : Nat → List Val → List (Option Val) → AH → Prop := fun j ys mm σ' => (∃ o, mm = [none, o, some (.ref hd)]) ∧ ys = ((c.ins.take j).map fun u => (ev (base line) (cells.take i) u).getD 0).map .int ∧ σ' = σ2
      refine ⟨_, rfl, by have := I.few c (List.mem_of_getElem? hc); rw [List.length_map]; omega, J11, ⟨⟨none, rfl⟩, rfl, rfl⟩, ?_, ?_⟩
      · intro L j y ys mm σ' hy hI0
        refine ea_AA hI0 fun pz8 ez9 ez10 => ?_; clear hI0; subst ez9; subst ez10
        obtain ⟨o, rfl⟩ := pz8
        rw [List.getElem?_map] at hy
        refine ea_EA (Option.map_eq_some_iff.mp hy) fun u hu ez11 => ?_; subst ez11
        obtain ⟨v, ev1⟩ := hv u (List.mem_of_getElem? hu)
        have hnm : Nms (compEnvC { kind := ScopeKind.function, names := [(".0", NameKind.local), ("net", NameKind.local), ("held", NameKind.free)], isGenerator := false, isCoroutine := false, more := [] } [("held", ca)] L env) [(".0", .local), ("net", .local), ("held", .cell)] := compEnv_names he rfl rfl
        refine ⟨trivial, [none, some (.int u), some (.ref hd)], JA_name (i := 1) ⟨by rw [hnm.eq]; rfl, rfl⟩ (.inl rfl) (by show 1 < 3; decide), ?_⟩
        refine JT.nil ?_
        walk_at "es"
        refine T_dict (k := .i u) (v := .int v) (fun _ _ => rfl) hh2 (by show (ev (base line) (cells.take i) u).map Val.int = _; rw [ev1]; rfl) ?_
        refine ⟨⟨_, rfl⟩, ?_, rfl⟩
        rw [List.take_add_one, hu]
        simp [ev1]
      · intro ys mm σ' hI0
        refine ea_AA hI0 fun pz12 ez13 ez14 => ?_; clear hI0; subst ez13; subst ez14
        obtain ⟨o, rfl⟩ := pz12
        refine ⟨trivial, fun a ha _ => ?_⟩
        rw [List.length_map, List.take_length]
        have hah : hd ≠ a := fun e => by rw [e, ha] at hh2; cases hh2
        have fin : ∀ v m', (∃ o4 o5 o6 o7 o8 o9 o10 o11 : Option Val, m' = [some (.ref N), some (.int line), some (.ref hd), some (.int 6), o4, o5, o6, o7, o8, o9, o10, o11, none, none]) → v = evC (ev (base line) (cells.take i)) c →
            ∃ (z : Nat) (o4 o5 o6 o7 o8 o9 o10 o11 : Option Val), m' = [some (.ref N), some (.int line), some (.ref hd), some (.int 6), o4, o5, o6, o7, o8, o9, o10, o11, none, none] ∧ i + 1 ≤ cells.length ∧
              ((σ'.set a (.list ((c.ins.map fun u => (ev (base line) (cells.take i) u).getD 0).map .int))).set hd (.dict (fun y => if y = Atom.i c.out then some (Val.int v) else mkD (ev (base line) (cells.take i)) y) (z2 + 1))) hd = some (.dict (mkD (ev (base line) (cells.take (i + 1)))) z) ∧ z ≤ 8 + (i + 1) ∧
              Old σ ((σ'.set a (.list ((c.ins.map fun u => (ev (base line) (cells.take i) u).getD 0).map .int))).set hd (.dict (fun y => if y = Atom.i c.out then some (Val.int v) else mkD (ev (base line) (cells.take i)) y) (z2 + 1))) := fun v m' hm' hvv => by
          refine ea_EEEEEEEE hm' fun p4 p5 p6 p7 p8 p9 p10 p11 ez15 => ?_; clear hm'; subst ez15
          refine ⟨z2 + 1, _, _, _, _, _, _, _, _, rfl, hlt, ?_, by omega, fun b o e => ?_⟩
          · rw [AH.set_self, mkD_put, ev_take hc, hvv]; rfl
          · exact (AH.set_ne (fun z => by rw [z, hhd] at e; cases e)).trans (set_old (O2 b o e) ha)
        have hh3 : (σ'.set a (.list ((c.ins.map fun u => (ev (base line) (cells.take i) u).getD 0).map .int))) hd = some (.dict (mkD (ev (base line) (cells.take i))) z2) := set_old hh2 ha
        walk_at "es"
        refine O_seq (bI ?_)
        rcases c1 with ⟨kk, i1', j1', hij⟩ | ⟨kk, u, hu⟩ | ⟨kk, u, hu⟩
        · have hne : c.ins ≠ [] := by rw [hij]; simp
          rw [if_neg (by rw [kk]; decide)]
          walk_at "es"
          refine O_seq (bI ?_)
          rw [if_neg (by rw [kk]; decide)]
          walk_at "es"
          refine O_seq (bI ?_)
          rw [if_pos (by rw [kk]; decide)]
          walk_at "es"
          refine C_minl (AH.set_self _ _ _) (by rw [List.length_map]; exact List.length_pos_iff.mpr hne) fun M hM hle' => ?_
          walk_at "es"
          refine ⟨_, .dict (.i c.out) hh3 (by unfold sizeLine; omega), ?_⟩
          walk_at "es"
          refine fin M _ ⟨_, _, _, _, _, _, _, _, rfl⟩ ?_
          unfold evC
          rw [if_neg (by rw [kk]; decide), if_neg (by rw [kk]; decide), if_pos kk]
          exact (minI_eq hM hle').symm
        · obtain ⟨v, ev1⟩ := hv u (by rw [hu]; exact .head _)
          rw [if_pos (by rw [kk]; decide)]
          walk_at "es"
          refine T_list (v := .int v) (fun _ _ => rfl) (AH.set_self _ _ _) (by decide) (by decide) (by rw [hu]; simp [ev1]) ?_
          refine O_sub ?_
          walk_at "es"
          refine ⟨_, .dict (.i c.out) hh3 (by unfold sizeLine; omega), ?_⟩
          walk_at "es"
          refine fin (1 - v) _ ⟨_, _, _, _, _, _, _, _, rfl⟩ ?_
          unfold evC
          rw [if_pos kk, hu]
          show 1 - v = 1 - (ev (base line) (cells.take i) u).getD 0
          rw [ev1]; rfl
        · obtain ⟨v, ev1⟩ := hv u (by rw [hu]; exact .head _)
          rw [if_neg (by rw [kk]; decide)]
          walk_at "es"
          refine O_seq (bI ?_)
          rw [if_pos (by rw [kk]; decide)]
          walk_at "es"
          refine T_list (v := .int v) (fun _ _ => rfl) (AH.set_self _ _ _) (by decide) (by decide) (by rw [hu]; simp [ev1]) ?_
          walk_at "es"
          refine ⟨_, .dict (.i c.out) hh3 (by unfold sizeLine; omega), ?_⟩
          walk_at "es"
          refine fin v _ ⟨_, _, _, _, _, _, _, _, rfl⟩ ?_
          unfold evC
          rw [if_neg (by rw [kk]; decide), if_pos kk, hu]
          show v = (ev (base line) (cells.take i) u).getD 0
          rw [ev1]; rfl
    · intro m σ2 hI0
      refine ea_EEEEEEEEEAAAA hI0 fun z2 o4 o5 o6 o7 o8 o9 o10 o11 ez16 hle hh2 hz2 O2 => ?_; clear hI0; subst ez16
      rw [cellsV_len, List.take_length] at hh2
      refine ⟨O2 _ _ H.cl, ?_⟩
      walk_at "es"
      exact h _ hd z2 hh2 hhd O2
end
section
variable {w : World} {E : Frag} {os : OsState × Nat} {n : Nat} {q : Bool} {env : Env} {m : List (Option Val)} {σ : AH} {X : Addr → AH → Prop} {Q : Val → AH → Prop}
theorem count_lt {l : List Int} {v : Int} : l.count v < l.length ↔ ∃ u ∈ l, u ≠ v := by
  have h1 := List.count_le_length (a := v) (l := l)
  constructor
  · intro h
    refine Classical.byContradiction fun hn => ?_
    have : l.count v = l.length := List.count_eq_length.mpr fun b hb => Classical.byContradiction fun hne => hn ⟨b, hb, fun e => hne e.symm⟩
    omega
  · intro hI0
    refine ea_EA hI0 fun u hu hne => ?_; clear hI0
    refine Nat.lt_of_le_of_ne h1 fun e => ?_
    exact hne (List.count_eq_length.mp e u hu).symm
theorem due_ok {κ : AH} {x : DAd} {ss : List Sg} {i b z : Nat} {s : Sg} {hd : Addr} {e : Env0} (Wk : WAt κ x ss) (O : Old κ σ) (hs : ss[i]? = some s) (ok : SgOk s) (hb : b < s.width) (hh : σ hd = some (.dict (mkD e) z)) (he0 : ∀ u, 0 ≤ u → u < 6 → ∃ v, e u = some v)
    (h : ∀ σ' v, Old σ σ' → (Refused s b ∧ v = .none ∨ ¬ Refused s b ∧ v = .int (due s b e)) → Q v σ') :
    JK (CC w E os) (n + 1) true env m σ (.ref 445) [.ref x.W, .ref s.a, .int b, .ref hd] Q X := by
  have W := Wk.old O
  refine ea_AAA (W.sg i s hs) fun hsa hsd hsn hsi => ?_
  refine JK_def (ds := []) (dv := []) ["wires", "made", "spot", "held"] (by walk_at "fn") (binds4 fun s a b c d => BindsTo.of_eq rfl) (fun h => rfl) rfl (by walk_at "nm") fun env he hn => ?_
  change JSs _ _ _ _ [some (.ref x.W), some (.ref s.a), some (.int b), some (.ref hd), none, none, none, none, none] _ _ _ _
  obtain ⟨ca, hca⟩ := he.cells "held" (by simp)
  walk_at "es"
  refine atI (.inl hsa) hsd rfl cls_Signal na_Signal_kind rfl ?_
  walk_at "es"
  refine O_seq (bI ?_)
  by_cases k0 : s.kind = "supply0"
  · first | (walk_at "if"; walk_at "if") | rw [if_pos (by simpa using k0), if_pos rfl]
    walk_at "es"
    refine atI (.inl hsa) hsd rfl cls_Signal na_Signal_kind rfl ?_
    walk_at "es"
    refine O_seq (bI ?_)
    rw [if_neg (by rw [k0]; decide)]
    walk_at "es"
    exact h σ _ Old.refl (.inr ⟨fun z => z.1 k0, by unfold due; rw [if_pos k0]; rfl⟩)
  first | (walk_at "if") | rw [if_neg (by simpa using k0)]
  walk_at "es"
  refine atI (.inl hsa) hsd rfl cls_Signal na_Signal_kind rfl ?_
  walk_at "es"
  refine O_seq (bI ?_)
  by_cases k1 : s.kind = "supply1"
  · first | (walk_at "if"; walk_at "if") | rw [if_pos (by simpa using k1), if_pos rfl]
    walk_at "es"
    refine atI (.inl hsa) hsd rfl cls_Signal na_Signal_kind rfl ?_
    walk_at "es"
    refine O_seq (bI ?_)
    rw [if_pos (by rw [k1]; decide)]
    walk_at "es"
    exact h σ _ Old.refl (.inr ⟨fun z => z.2.1 k1, by unfold due; rw [if_neg k0, if_pos k1]; rfl⟩)
  first | (walk_at "if") | rw [if_neg (by simpa using k1)]
  walk_at "es"
  first | (walk_at "if") | rw [if_neg (by decide)]
  walk_at "es"
  refine atI (.inl W.W) W.dW rfl cls_Wires na_Wires_drivers rfl ?_
  refine ea_EEA W.dd fun f zf hf hff => ?_
  refine mtI (meth_tdict hf) (.inr (.inr ⟨_, rfl⟩)) ?_
  walk_at "es"
  refine atI (.inl hsa) hsd rfl cls_Signal na_Signal_key rfl ?_
  walk_at "es"
  refine ⟨(by show 2 ≤ sizeLine; decide), ?_⟩
  walk_at "es"
  refine ⟨by decide, fun a ha => ?_⟩
  walk_at "es"
  have hp := hff i s b hs
  refine C_gett (ks := [.i i, .i b]) (set_old hf ha) ?_
  rw [hp]
  have O1 : Old σ (σ.set a (.list [])) := Old.refl.fresh ha
  cases hdv : s.drv b with
  | none =>
    have nr : ¬ Refused s b := fun z => by obtain ⟨_, _, p, hp2, _⟩ := z; rw [hdv] at hp2; cases hp2
    have hdue : due s b e = rest s b := by unfold due; rw [if_neg k0, if_neg k1, hdv]
    dsimp only [Option.map, Option.getD]
    walk_at "es"
    refine ⟨by decide, fun a2 ha2 => ?_⟩
    have ha' : ((σ.set a (.list [])).set a2 (.list [])) a = some (.list (([] : List Int).map .int)) := set_old (AH.set_self _ _ _) ha2
    refine O_leq (xs := []) (ys := []) ha' (AH.set_self _ _ _) (bI ?_)
    first | (walk_at "if") | rw [if_pos (by rfl)]
    have O2 : Old σ ((σ.set a (.list [])).set a2 (.list [])) := O1.fresh ha2
    walk_at "es"
    refine atI (.inl (O2 _ _ hsa)) (O2 _ _ hsd) rfl cls_Signal na_Signal_kind rfl ?_
    walk_at "es"
    refine O_seq (bI ?_)
    by_cases kr : s.kind = "reg"
    · first | (walk_at "if"; walk_at "if") | rw [if_pos (by simpa using kr), if_pos rfl]
      walk_at "es"
      refine atI (.inl (O2 _ _ W.W)) (O2 _ _ W.dW) rfl cls_Wires na_Wires_initial rfl ?_
      walk_at "es"
      refine atI (.inl (O2 _ _ hsa)) (O2 _ _ hsd) rfl cls_Signal na_Signal_key rfl ?_
      refine ea_EEA W.id fun fi zi hfi hffi => ?_
      refine T_dict (k := .i i) (fun _ _ => rfl) (O2 _ _ hfi) (hffi i s hs) ?_
      walk_at "es"
      have hbl : b < s.iL.length := by rw [ok.il]; exact hb
      refine T_list (v := .int s.iL[b]) (fun _ _ => rfl) (O2 _ _ hsi) (by omega) (by have := ok.w2; omega) (by rw [Int.toNat_natCast, List.getElem?_map, List.getElem?_eq_getElem hbl]; rfl) ?_
      refine h _ _ O2 (.inr ⟨nr, ?_⟩)
      rw [hdue]; unfold rest; rw [if_pos (.inl kr)]; simp [hbl]; rfl
    first | (walk_at "if") | rw [if_neg (by simpa using kr)]
    walk_at "es"
    refine atI (.inl (O2 _ _ hsa)) (O2 _ _ hsd) rfl cls_Signal na_Signal_kind rfl ?_
    walk_at "es"
    refine O_seq (bI ?_)
    by_cases ke : s.kind = "event"
    · first | (walk_at "if"; walk_at "if") | rw [if_pos (by simpa using ke), if_pos rfl]
      walk_at "es"
      refine atI (.inl (O2 _ _ W.W)) (O2 _ _ W.dW) rfl cls_Wires na_Wires_initial rfl ?_
      walk_at "es"
      refine atI (.inl (O2 _ _ hsa)) (O2 _ _ hsd) rfl cls_Signal na_Signal_key rfl ?_
      refine ea_EEA W.id fun fi zi hfi hffi => ?_
      refine T_dict (k := .i i) (fun _ _ => rfl) (O2 _ _ hfi) (hffi i s hs) ?_
      walk_at "es"
      have hbl : b < s.iL.length := by rw [ok.il]; exact hb
      refine T_list (v := .int s.iL[b]) (fun _ _ => rfl) (O2 _ _ hsi) (by omega) (by have := ok.w2; omega) (by rw [Int.toNat_natCast, List.getElem?_map, List.getElem?_eq_getElem hbl]; rfl) ?_
      refine h _ _ O2 (.inr ⟨nr, ?_⟩)
      rw [hdue]; unfold rest; rw [if_pos (.inr ke)]; simp [hbl]; rfl
    first | (walk_at "if") | rw [if_neg (by simpa using ke)]
    walk_at "es"
    first | (walk_at "if") | rw [if_neg (by decide)]
    walk_at "es"
    refine atI (.inl (O2 _ _ W.W)) (O2 _ _ W.dW) rfl cls_Wires na_Wires_pulls rfl ?_
    refine ea_EEA W.pd fun fp zp hfp hffp => ?_
    refine mtI (meth_tdict (O2 _ _ hfp)) (.inr (.inr ⟨_, rfl⟩)) ?_
    walk_at "es"
    refine atI (.inl (O2 _ _ hsa)) (O2 _ _ hsd) rfl cls_Signal na_Signal_key rfl ?_
    walk_at "es"
    refine ⟨(by show 2 ≤ sizeLine; decide), ?_⟩
    walk_at "es"
    refine atI (.inl (O2 _ _ hsa)) (O2 _ _ hsd) rfl cls_Signal na_Signal_kind rfl ?_
    walk_at "es"
    refine O_seq (bI ?_)
    have hpl := hffp i s b hs
    have hrest : rest s b = (s.pull b).getD (if s.kind = "tri1" then 1 else 0) := by unfold rest; rw [if_neg (by rintro (z | z); exact kr z; exact ke z)]
    by_cases kt : s.kind = "tri1"
    · first | (walk_at "if") | rw [if_pos (by simpa using kt)]
      walk_at "es"
      refine C_gett (ks := [.i i, .i b]) (v := .int 1) (O2 _ _ hfp) (h _ _ O2 (.inr ⟨nr, ?_⟩))
      rw [hpl, hdue, hrest, if_pos kt]
      cases s.pull b <;> rfl
    · first | (walk_at "if") | rw [if_neg (by simpa using kt)]
      walk_at "es"
      refine C_gett (ks := [.i i, .i b]) (v := .int 0) (O2 _ _ hfp) (h _ _ O2 (.inr ⟨nr, ?_⟩))
      rw [hpl, hdue, hrest, if_neg kt]
      cases s.pull b <;> rfl
  | some p =>
    refine ea_AA (ok.drv b p hdv) fun hpn hp3 hpv => ?_
    have hpl := W.dl i s b p hs hdv
    have hdue : due s b e = if s.kind = "wor" then maxI (p.2.map fun u => (e u).getD 0) else minI (p.2.map fun u => (e u).getD 0) := by unfold due; rw [if_neg k0, if_neg k1, hdv]
    dsimp only [Option.map, Option.getD]
    walk_at "es"
    refine ⟨by decide, fun a2 ha2 => ?_⟩
    have O2 : Old σ ((σ.set a (.list [])).set a2 (.list [])) := O1.fresh ha2
    have hpl2 := O2 _ _ hpl
    refine O_leq (xs := p.2) (ys := []) hpl2 (AH.set_self _ _ _) (bI ?_)
    first | (walk_at "if") | rw [if_neg (by simpa using hpn)]
    walk_at "es"
    refine C_len hpl2 (by rw [List.length_map]; unfold sizeLine; omega) ?_
    rw [List.length_map]
    walk_at "es"
    refine O_gt (bI ?_)
    obtain ⟨v0, t0, ep⟩ : ∃ v t, p.2 = v :: t := by cases e : p.2 with | nil => exact absurd e hpn | cons v t => exact ⟨v, t, rfl⟩
    refine' (fun (tail : ¬ Refused s b → ∀ m5, JSs (CC w E os) n true env [some (.ref x.W), some (.ref s.a), some (.int b), some (.ref hd), some (.ref p.1), m5, none, none, none] ((σ.set a (.list [])).set a2 (.list [])) ?rest (fun fl _ σ' => Q (retv fl) σ') (fun a _ σ' => X a σ')) => ?main) ?tailp
    case main =>
      by_cases h2 : 1 < p.2.length
      · first | (walk_at "if") | rw [if_pos (by simp; omega)]
        walk_at "es"
        refine atI (.inl (O2 _ _ hsa)) (O2 _ _ hsd) rfl cls_Signal na_Signal_key rfl ?_
        walk_at "es"
        refine atI (.inl (O2 _ _ W.W)) (O2 _ _ W.dW) rfl cls_Wires na_Wires_uneven rfl ?_
        refine ea_EEA W.ud fun fu zu hfu hfuu => ?_
        refine O_in (k := .i i) (O2 _ _ hfu) (bI ?_)
        rw [hfuu i s hs]
        by_cases hu : s.uneven = true
        · first | (walk_at "if") | rw [if_pos hu]
          walk_at "es"
          exact h _ _ O2 (.inl ⟨⟨k0, k1, p, hdv, h2, .inl hu⟩, rfl⟩)
        first | (walk_at "if") | rw [if_neg hu]
        walk_at "es"
        refine atI (.inl (O2 _ _ hsa)) (O2 _ _ hsd) rfl cls_Signal na_Signal_kind rfl ?_
        walk_at "es"
        refine ⟨(by show 2 ≤ sizeLine; decide), ?_⟩
        refine O_notin_strs (ys := ["wand", "wor"]) (bI ?_)
        by_cases kw : s.kind = "wand" ∨ s.kind = "wor"
        · have hc : ¬ ((!(["wand", "wor"] : List Str).any (· == s.kind)) = true) := by rcases kw with z | z <;> rw [z] <;> decide
          first | (walk_at "if"; walk_at "if") | rw [if_neg hc, if_neg (by decide)]
          refine tail (fun z => ?_) _
          refine ea_AAEAA z fun _ _ p' _ _ rz => ?_; clear z; rename _ => z
          rcases z with z | ⟨z1, z2, _⟩
          · exact hu z
          · exact kw.elim z1 z2
        have kw1 : s.kind ≠ "wand" := fun z => kw (.inl z)
        have kw2 : s.kind ≠ "wor" := fun z => kw (.inr z)
        have hc : (!(["wand", "wor"] : List Str).any (· == s.kind)) = true := by
          simp; exact ⟨fun z => kw1 z.symm, fun z => kw2 z.symm⟩
        first | (walk_at "if") | rw [if_pos hc]
        walk_at "es"
        refine mtI (meth_list hpl2 PySem.F.slot_list_count PySem.F.type_list_count) (.inr (.inr ⟨_, rfl⟩)) ?_
        walk_at "es"
        refine T_list (v := .int v0) (fun _ _ => rfl) hpl2 (by decide) (by decide) (by rw [ep]; rfl) ?_
        walk_at "es"
        refine C_count hpl2 ?_
        walk_at "es"
        refine C_len hpl2 (by rw [List.length_map]; unfold sizeLine; omega) ?_
        rw [List.length_map]
        refine O_lt (bI ?_)
        by_cases hcnt : p.2.count v0 < p.2.length
        · first | (walk_at "if") | rw [if_pos (by simpa using hcnt)]
          walk_at "es"
          first | (walk_at "if") | rw [if_pos rfl]
          walk_at "es"
          refine ea_EA (count_lt.mp hcnt) fun u hu1 hu2 => ?_
          exact h _ _ O2 (.inl ⟨⟨k0, k1, p, hdv, h2, .inr ⟨kw1, kw2, u, hu1, by rw [ep]; exact hu2⟩⟩, rfl⟩)
        · first | (walk_at "if") | rw [if_neg (by simpa using hcnt)]
          first | (walk_at "if") | rw [if_neg (by decide)]
          refine tail (fun z => ?_) _
          refine ea_AAEAA z fun _ _ p' hp2 _ rz => ?_; clear z; rename _ => z
          rw [hdv] at hp2; cases hp2
          rcases z with z | ⟨_, _, u, hu1, hu2⟩
          · exact hu z
          · refine hcnt (count_lt.mpr ⟨u, hu1, ?_⟩); rw [ep] at hu2; exact hu2
      · first | (walk_at "if") | rw [if_neg (by simp; omega)]
        refine tail (fun z => ?_) _
        refine ea_AAEAA z fun _ _ p' hp2 hlt _ => ?_; clear z
        rw [hdv] at hp2; cases hp2; exact h2 hlt
    case tailp =>
      intro nr m5
      have K : CompOk env { kind := ScopeKind.function, names := [(".0", NameKind.local), ("net", NameKind.local), ("held", NameKind.free)], isGenerator := false, isCoroutine := false, more := [] } [("held", ca)]
          [some (.ref x.W), some (.ref s.a), some (.int b), some (.ref hd), some (.ref p.1), m5, none, none, none] [none, none, some (.ref hd)] := by
        refine comp_ok _ 3 he rfl rfl (by decide) (by decide) (by decide) (by decide) ?_ hca rfl (by decide) rfl ?_
        · simp only [closureFor, List.forIn_cons, List.forIn_nil, show (NameKind.local == NameKind.free) = false from rfl, show (NameKind.free == NameKind.free) = true from rfl, Bool.false_eq_true, if_false, if_true, cellOf, hca, pure_bind]
        · intro i x k v' h1 h2
          match i, h1, h2 with
          | 0, h1, h2 => cases h2
          | 1, h1, h2 => cases h2
          | 2, h1, h2 => cases h1; cases h2; exact ⟨rfl, rfl⟩
      refine JSs_comp [("held", ca)] [none, none, some (.ref hd)] (he.var (i := 5) (k := .local) rfl rfl) (.inl rfl) (by show 5 < 9; decide) he.frame (.inl ⟨_, _, rfl⟩) K (swaps_true he rfl rfl rfl) (JI_list ?_) (by intro _ _; rfl)
      walk_at "es"
      let J11 : Nat → List Val → List (Option Val) → AH → Prop := fun j ys mm σ' => (∃ o, mm = [none, o, some (.ref hd)]) ∧ ys = ((p.2.take j).map fun u => (e u).getD 0).map .int ∧ σ' = ((σ.set a (.list [])).set a2 (.list []))
      refine ⟨p.1, p.2.map .int, rfl, hpl2, by rw [List.length_map]; omega, J11, ⟨⟨none, rfl⟩, rfl, rfl⟩, ?_, ?_⟩
      · intro L j y ys mm σ' hy hI0
        refine ea_AA hI0 fun pz1 ez2 ez3 => ?_; clear hI0; subst ez2; subst ez3
        obtain ⟨o, rfl⟩ := pz1
        rw [List.getElem?_map] at hy
        refine ea_EA (Option.map_eq_some_iff.mp hy) fun u hu ez4 => ?_; subst ez4
        obtain ⟨u0, u6⟩ := hpv u (List.mem_of_getElem? hu)
        obtain ⟨v, ev1⟩ := he0 u u0 u6
        have hnm : Nms (compEnvC { kind := ScopeKind.function, names := [(".0", NameKind.local), ("net", NameKind.local), ("held", NameKind.free)], isGenerator := false, isCoroutine := false, more := [] } [("held", ca)] L env) [(".0", .local), ("net", .local), ("held", .cell)] := compEnv_names he rfl rfl
        refine ⟨hpl2, [none, some (.int u), some (.ref hd)], JA_name (i := 1) ⟨by rw [hnm.eq]; rfl, rfl⟩ (.inl rfl) (by show 1 < 3; decide), ?_⟩
        refine JT.nil ?_
        walk_at "es"
        refine T_dict (k := .i u) (v := .int v) (fun _ _ => rfl) (O2 _ _ hh) (by show (e u).map Val.int = _; rw [ev1]; rfl) ?_
        refine ⟨⟨_, rfl⟩, ?_, rfl⟩
        rw [List.take_add_one, hu]
        simp [ev1]
      · intro ys mm σ' hI0
        refine ea_AA hI0 fun pz5 ez6 ez7 => ?_; clear hI0; subst ez6; subst ez7
        obtain ⟨o, rfl⟩ := pz5
        refine ⟨hpl2, fun a3 ha3 _ => ?_⟩
        rw [List.length_map, List.take_length]
        have O3 := O2.fresh (o := .list ((p.2.map fun u => (e u).getD 0).map .int)) ha3
        walk_at "es"
        refine atI (.inl (O3 _ _ hsa)) (O3 _ _ hsd) rfl cls_Signal na_Signal_kind rfl ?_
        walk_at "es"
        refine O_seq (bI ?_)
        by_cases kw : s.kind = "wor"
        · first | (walk_at "if") | rw [if_pos (by simpa using kw)]
          walk_at "es"
          refine C_maxl (AH.set_self _ _ _) (by rw [List.length_map]; exact List.length_pos_iff.mpr hpn) fun M hM hle' => ?_
          refine h _ _ O3 (.inr ⟨nr, ?_⟩)
          rw [hdue, if_pos kw, maxI_eq hM hle']; rfl
        · first | (walk_at "if") | rw [if_neg (by simpa using kw)]
          walk_at "es"
          refine C_minl (AH.set_self _ _ _) (by rw [List.length_map]; exact List.length_pos_iff.mpr hpn) fun M hM hle' => ?_
          refine h _ _ O3 (.inr ⟨nr, ?_⟩)
          rw [hdue, if_neg kw, minI_eq hM hle']; rfl
end
section
variable {w : World} {E : Frag} {os : OsState × Nat} {n : Nat} {q : Bool} {env : Env} {m : List (Option Val)} {σ : AH} {X : Addr → AH → Prop} {Q : Val → AH → Prop}
theorem spots_ok {κ : AH} {x : DAd} {ss : List Sg} (Wk : WAt κ x ss) (O : Old κ σ) (ok : ∀ s ∈ ss, SgOk s) (hz : ss.length ≤ 100)
    (h : ∀ σ' l, σ' l = some (.list ((spotsFrom 1 (ss.drop 1)).map spotV)) → σ l = none → Old σ σ' → Q (.ref l) σ') :
    JK (CC w E os) (n + 1) true env m σ (.ref 452) [.ref x.D] Q X := by
  have W := Wk.old O
  refine JK_def (ds := []) (dv := []) ["design"] (by walk_at "fn") (binds1 fun s a => BindsTo.of_eq rfl) (fun h => rfl) rfl (by walk_at "nm") fun env he hn => ?_
  change JSs _ _ _ _ [some (.ref x.D), none, none, none, none] _ _ _ _
  walk_at "s"
  refine JE_list ?_
  walk_at "es"
  refine ⟨by decide, fun fl hfl => ?_⟩
  have O1 : Old σ (σ.set fl (.list [])) := Old.refl.fresh hfl
  refine JSs_for he.frame (.inl ⟨_, _, rfl⟩) (JI_list (JE_slice ?_)) (by intro _ _; rfl)
  walk_at "es"
  refine atI (.inl (O1 _ _ W.D)) (O1 _ _ W.dD) rfl cls_Design na_Design_signals rfl ?_
  refine ⟨x.sl, ss.map fun s => .ref s.a, rfl, by rw [List.length_map]; unfold sizeLine; omega, .inl ⟨_, rfl, rfl, ?_⟩⟩
  walk_at "es"
  refine ⟨1, rfl, O1 _ _ W.sl, fun dl hdl => ?_⟩
  rw [← List.map_drop]
  have lens : ((ss.drop 1).map fun s => Val.ref s.a).length = (ss.drop 1).length := List.length_map ..
  let J1 : Nat → List (Option Val) → AH → Prop := fun i m σ' => (∃ o2 o3 : Option Val, m = [some (.ref x.D), some (.ref fl), o2, o3, none]) ∧ σ' dl = some (.list ((ss.drop 1).map fun s => .ref s.a)) ∧ σ' fl = some (.list ((spotsFrom 1 ((ss.drop 1).take i)).map spotV)) ∧ Old σ σ'
  refine ⟨dl, _, rfl, AH.set_self _ _ _, J1,
    ⟨⟨none, none, rfl⟩, AH.set_self _ _ _, set_old (AH.set_self _ _ _) hdl, O1.fresh hdl⟩, ?_, ?_⟩
  · intro i v m σ' hv hI0
    refine ea_AAA hI0 fun pz1 hd hf O' => ?_; clear hI0
    refine ea_EE pz1 fun o2 o3 ez2 => ?_; clear pz1; subst ez2
    refine ⟨hd, ?_⟩
    rw [List.getElem?_map] at hv
    refine ea_EA (Option.map_eq_some_iff.mp hv) fun s hs ez3 => ?_; subst ez3
    have hs' : ss[1 + i]? = some s := by rw [← hs, List.getElem?_drop]
    have oks := ok s (List.mem_of_getElem? hs')
    refine ea_AAA (W.sg _ s hs') fun hsa hsd _ _ => ?_
    have hne : dl ≠ fl := fun e => by rw [e, AH.set_self] at hdl; cases hdl
    have hlt : i < (ss.drop 1).length := (List.getElem?_eq_some_iff.mp hs).1
    have sl : (spotsFrom 1 ((ss.drop 1).take i)).length ≤ 200 := by
      have := spots_len (i := 1) (l := (ss.drop 1).take i) fun s hs => (ok s (List.mem_of_mem_drop (List.mem_of_mem_take hs))).w2
      rw [List.length_take, List.length_drop] at this; omega
    refine ⟨_, JA_name (he.var (i := 2) rfl rfl) (.inl rfl) (by show 2 < 5; decide), ?_⟩
    refine JSs_for he.frame (.inl ⟨_, _, rfl⟩) (JEr gg_range.glob ‹Nms _ _› rfl rfl ⟨fun _ _ => rfl, .inr ⟨_, _, rfl, fun _ => rfl⟩⟩ ?_) (by intro _ _; rfl)
    walk_at "es"
    refine atI (.inl (O' _ _ hsa)) (O' _ _ hsd) rfl cls_Signal na_Signal_width rfl ?_
    walk_at "es"
    refine ⟨0, (s.width : Int), 1, s.width, .inl ⟨rfl, rfl, rfl⟩, small_1 (by have := oks.w2; omega), size_1, ?_⟩
    let J2 : Nat → List (Option Val) → AH → Prop := fun j m σ' => (∃ o3 : Option Val, m = [some (.ref x.D), some (.ref fl), some (.ref s.a), o3, none]) ∧ σ' dl = some (.list ((ss.drop 1).map fun s => .ref s.a)) ∧ σ' fl = some (.list ((spotsFrom 1 ((ss.drop 1).take i) ++ rowOf (1 + i) s j).map spotV)) ∧ Old σ σ'
    refine ⟨J2,
      ⟨⟨o3, rfl⟩, hd, by simpa [rowOf] using hf, O'⟩, ?_, ?_⟩
    · intro j v m σ2 hv hI0
      refine ea_AAA hI0 fun pz4 hd2 hf2 O2 => ?_; clear hI0
      obtain ⟨o3', rfl⟩ := pz4
      obtain ⟨hj, rfl⟩ := range_at hv
      have e0 : (0 : Int) + (j : Int) * 1 = (j : Int) := by omega
      rw [e0]
      refine ⟨trivial, _, JA_name (he.var (i := 3) rfl rfl) (.inl rfl) (by show 3 < 5; decide), ?_⟩
      walk_at "es"
      refine mtI (meth_list hf2 PySem.F.slot_list_append PySem.F.type_list_append) (.inr (.inr ⟨_, rfl⟩)) ?_
      walk_at "es"
      refine ⟨(by show 2 ≤ sizeLine; decide), ?_⟩
      walk_at "es"
      refine C_append hf2 (by simp only [List.length_map, List.length_append, rowOf, List.length_range]; have := oks.w2; unfold sizeLine; omega) ⟨rfl, ?_⟩
      walk_at "es"
      refine ⟨⟨_, rfl⟩, (AH.set_ne hne).trans hd2, ?_, fun b o e => (AH.set_ne (fun z => by rw [z, hfl] at e; cases e)).trans (O2 b o e)⟩
      rw [AH.set_self]
      unfold rowOf
      rw [List.range_succ, List.map_append (l₁ := List.range j), ← List.append_assoc, List.map_append (l₂ := List.map _ [j])]
      rfl
    · intro m σ2 hI0
      refine ea_AAA hI0 fun pz5 hd2 hf2 O2 => ?_; clear hI0
      obtain ⟨o3', rfl⟩ := pz5
      rw [List.length_map, List.length_range] at hf2
      refine ⟨trivial, ?_⟩
      walk_at "es"
      refine ⟨⟨_, _, rfl⟩, hd2, ?_, O2⟩
      rw [hf2, List.take_add_one, hs]
      show _ = some (AObj.list ((spotsFrom 1 ((ss.drop 1).take i ++ [s])).map spotV))
      rw [spotsFrom_snoc, List.length_take, Nat.min_eq_left (by omega)]
  · intro m σ' hI0
    refine ea_AAA hI0 fun pz6 hd hf O' => ?_; clear hI0
    refine ea_EE pz6 fun o2 o3 ez7 => ?_; clear pz6; subst ez7
    rw [List.length_map, List.take_length] at hf
    refine ⟨hd, ?_⟩
    walk_at "es"
    exact h σ' fl hf hfl O'
end
section
variable {w : World} {E : Frag} {os : OsState × Nat} {n : Nat} {q : Bool} {env : Env} {m : List (Option Val)} {σ : AH} {X : Addr → AH → Prop} {Q : Val → AH → Prop}
theorem gates_new {N dN il ol cl : Addr} {cnt : Int} {cells : List Cell} (hN : σ N = some (.inst 412 dN)) (hdN : σ dN = some (.attrs (netFs cnt il ol cl))) (hcl : σ cl = some (.list (cellsV cells)))
    (h : ∀ σ' G dG md op, GAt σ' ⟨G, dG, N, dN, il, ol, cl, md, op⟩ ⟨cnt, cells, fun _ => none, 0, fun _ => none, 0⟩ → Old σ σ' → σ md = none → σ op = none → Q (.ref G) σ') : JK (CC w E os) (n + 2) true env m σ (.ref 127) [.ref N] Q X := by
  refine JK_new mk_Gates in_Gates it_Gates fun x dx h1 h2 hne => ?_
  refine JK_def (ds := []) (dv := []) ["self", "netlist"] (by walk_at "fn") (binds2 fun s a b => BindsTo.of_eq rfl) (fun h => rfl) rfl (by walk_at "nm") fun env he hn => ?_
  change JSs _ _ _ _ [some (.ref x), some (.ref N)] _ _ _ _
  have hne' : dx ≠ x := Ne.symm hne
  walk_at "es"
  refine saI (.inl (AH.set_self _ _ _)) ((AH.set_ne hne').trans (AH.set_self _ _ _)) cls_Gates po_Gates na_Gates_netlist ((by show 0 ≤ 100; decide)) ?_
  refine JSs_setattr (JE_tdict0 fun md hmd => ?_) (by intro _; rfl)
  have n1 : md ≠ dx := fun e => by rw [e, AH.set_self] at hmd; cases hmd
  have n2 : md ≠ x := fun e => by rw [e, AH.set_ne hne, AH.set_self] at hmd; cases hmd
  walk_at "es"
  refine saI (.inl ((AH.set_ne (Ne.symm n2)).trans ((AH.set_ne hne).trans (AH.set_self _ _ _)))) ((AH.set_ne (Ne.symm n1)).trans (AH.set_self _ _ _)) cls_Gates po_Gates na_Gates_made ((by show 1 ≤ 100; decide)) ?_
  refine JSs_setattr (JE_dict0 fun op hop => ?_) (by intro _; rfl)
  have n3 : op ≠ dx := fun e => by rw [e, AH.set_self] at hop; cases hop
  have n4 : op ≠ md := fun e => by rw [e, AH.set_ne n1, AH.set_self] at hop; cases hop
  have n5 : op ≠ x := fun e => by rw [e, AH.set_ne hne, AH.set_ne (Ne.symm n2), AH.set_ne hne, AH.set_self] at hop; cases hop
  walk_at "es"
  refine saI (.inl ((AH.set_ne (Ne.symm n5)).trans ((AH.set_ne hne).trans ((AH.set_ne (Ne.symm n2)).trans ((AH.set_ne hne).trans (AH.set_self _ _ _)))))) ((AH.set_ne (Ne.symm n3)).trans (AH.set_self _ _ _)) cls_Gates po_Gates na_Gates_opposite ((by show 2 ≤ 100; decide)) ?_
  walk_at "es"
  have hmd0 : σ md = none := by rw [AH.set_ne n1, AH.set_ne n2, AH.set_ne n1] at hmd; exact hmd
  have hop0 : σ op = none := by rw [AH.set_ne n3, AH.set_ne n4, AH.set_ne n3, AH.set_ne n5, AH.set_ne n3] at hop; exact hop
  refine ⟨rfl, (fun (old : Old σ _) => h _ x dx md op ⟨?_, ?_, old _ _ hN, old _ _ hdN, old _ _ hcl, ?_, ?_⟩ old hmd0 hop0) ?_⟩
  · exact (AH.set_ne hne).trans ((AH.set_ne (Ne.symm n5)).trans ((AH.set_ne hne).trans ((AH.set_ne (Ne.symm n2)).trans ((AH.set_ne hne).trans (AH.set_self _ _ _)))))
  · exact AH.set_self _ _ _
  · exact (AH.set_ne n1).trans ((AH.set_ne (Ne.symm n4)).trans ((AH.set_ne n1).trans (AH.set_self _ _ _)))
  · exact (AH.set_ne n3).trans (AH.set_self _ _ _)
  · intro b o e
    have b1 : b ≠ dx := fun z => by rw [z, h2] at e; cases e
    have b2 : b ≠ x := fun z => by rw [z, h1] at e; cases e
    have b3 : b ≠ md := fun z => by rw [z, hmd0] at e; cases e
    have b4 : b ≠ op := fun z => by rw [z, hop0] at e; cases e
    exact (AH.set_ne b1).trans ((AH.set_ne b4).trans ((AH.set_ne b1).trans ((AH.set_ne b3).trans ((AH.set_ne b1).trans ((AH.set_ne b2).trans ((AH.set_ne b1).trans e))))))
structure NStat (κ : AH) (N dN il : Addr) : Prop where
  N : κ N = some (.inst 412 dN)
  il : ∃ i1 i2 s1 s2, κ il = some (.list [.tup [.str s1, .ref i1], .tup [.str s2, .ref i2]]) ∧ κ i1 = some (.list [.int 2, .int 3, .int 4, .int 5]) ∧ κ i2 = some (.list [.int 6, .int 7])
theorem NStat.net {κ : AH} {ad : GAd} {st : GSt} (S : NStat κ ad.N ad.dN ad.il) (O : Old κ σ) (H : GAt σ ad st) : NetAt σ ad.N ad.dN ad.il ad.ol ad.cl st.cnt st.cells :=
  ⟨H.N, H.dN, let ⟨a, b, c, d, h1, h2, h3⟩ := S.il; ⟨a, b, c, d, O _ _ h1, O _ _ h2, O _ _ h3⟩, H.cl⟩
theorem NInv.low {cnt : Int} {cells : List Cell} (I : NInv cnt cells) (line : Int) : ∀ u, 0 ≤ u → u < 6 → ∃ v, evl cells line u = some v := fun u h0 h6 => by
  rw [I.inp line u (by omega)]; exact base_some h0 (by omega)
theorem due_same {s : Sg} (ok : SgOk s) {b : Nat} {f g : Env0} (h : ∀ u, 0 ≤ u → u < 6 → f u = g u) : due s b f = due s b g := by
  unfold due
  split
  · rfl
  · split
    · rfl
    · cases hd : s.drv b with
      | none => rfl
      | some p =>
        refine ea_AA (ok.drv b p hd) fun _ _ hv => ?_
        have e : (p.2.map fun u => (f u).getD 0) = p.2.map fun u => (g u).getD 0 := List.map_congr_left fun u hu => by rw [h u (hv u hu).1 (hv u hu).2]
        dsimp only
        rw [e]
end
section
variable {w : World} {E : Frag} {os : OsState × Nat} {n : Nat} {q : Bool} {env : Env} {m : List (Option Val)} {σ : AH} {X : Addr → AH → Prop} {Q : Val → AH → Prop}
theorem joined_law_ok {κ : AH} {x : DAd} {ss : List Sg} {N dN il ol cl : Addr} {cnt : Int} {cells : List Cell} (Wk : WAt κ x ss) (O : Old κ σ) (ok : ∀ s ∈ ss, SgOk s) (hss : ss.length ≤ 100) (NS : NStat κ N dN il) (hdN : σ dN = some (.attrs (netFs cnt il ol cl))) (hcl : σ cl = some (.list (cellsV cells)))
    (k1 : κ dN = none) (k2 : κ cl = none) (I : NInv cnt cells) (hz : cells.length ≤ 10000)
    (h : ∀ σ' st', σ' dN = some (.attrs (netFs st'.cnt il ol cl)) → σ' cl = some (.list (cellsV st'.cells)) → NInv st'.cnt st'.cells → Ext 2000 ⟨cnt, cells, fun _ => none, 0, fun _ => none, 0⟩ st' → Old κ σ' → Q (.bool true) σ') :
    JK (CC w E os) (n + 9) true env m σ (.ref 459) [.ref x.D, .ref N, .ref x.W] Q X := by
  refine JK_def (ds := []) (dv := []) ["design", "netlist", "wires"] (by walk_at "fn") (binds3 fun s a b c => BindsTo.of_eq rfl) (fun h => rfl) rfl (by walk_at "nm") fun env he hn => ?_
  change JSs _ _ _ _ [some (.ref x.D), some (.ref N), some (.ref x.W), none, none, none, none, none, none, none, none, none, none, none, none, none, none] _ _ _ _
  walk_at "es"
  refine (gates_new (O _ _ NS.N) hdN hcl fun σ1 G dG md op H1 O1 hmd hop => ?_).call
  have A : Apart κ ⟨G, dG, N, dN, il, ol, cl, md, op⟩ := ⟨k1, k2, O.none hmd, O.none hop⟩
  have Oκ1 := O.trans O1
  have I1 : GInv ⟨cnt, cells, fun _ => none, 0, fun _ => none, 0⟩ := ⟨I, (fun ks v e => by cases e), (fun k v e => by cases e), Nat.zero_le _, Nat.zero_le _⟩
  refine JSs_for he.frame (.inr ⟨_, _, _, rfl⟩) (JI_list ?_) (by intro _ _; rfl)
  walk_at "es"
  refine (spots_ok Wk Oκ1 ok hss fun σ2 sl hsl hsln O2 => ?_).call
  have Oκ2 := Oκ1.trans O2
  have H2 := O2.gat H1
  have hsc : sl ≠ cl := fun e => by rw [e] at hsln; have := H1.cl; dsimp only at this; rw [this] at hsln; cases hsln
  have slen := spots_len (i := 1) (l := ss.drop 1) fun s hs => (ok s (List.mem_of_mem_drop hs)).w2
  rw [List.length_drop] at slen
  let J1 : Nat → List (Option Val) → AH → Prop := fun i m σ' => ∃ (o4 o5 o6 o7 o8 o9 o10 : Option Val) (st' : GSt), m = [some (.ref x.D), some (.ref N), some (.ref x.W), some (.ref G), o4, o5, o6, o7, o8, o9, o10, none, none, none, none, none, none] ∧ GAt σ' ⟨G, dG, N, dN, il, ol, cl, md, op⟩ st' ∧ GInv st' ∧ Ext (10 * i) ⟨cnt, cells, fun _ => none, 0, fun _ => none, 0⟩ st' ∧ Old κ σ' ∧ σ' sl = some (.list ((spotsFrom 1 (ss.drop 1)).map spotV)) ∧ i ≤ (spotsFrom 1 (ss.drop 1)).length
  refine ⟨sl, _, rfl, hsl, J1,
    ⟨_, _, _, _, _, _, _, _, rfl, H2, I1, Ext.refl, Oκ2, hsl, Nat.zero_le _⟩, ?_, ?_⟩
  · intro i v m σ' hv hI0
    refine ea_EEEEEEEEAAAAAA hI0 fun o4 o5 o6 o7 o8 o9 o10 st' ez1 H' I' X' O' hsl' hile => ?_; clear hI0; subst ez1
    refine ⟨hsl', ?_⟩
    rw [List.getElem?_map] at hv
    refine ea_EA (Option.map_eq_some_iff.mp hv) fun p hp ez2 => ?_; subst ez2
    have hlt := (List.getElem?_eq_some_iff.mp hp).1
    refine ea_AA (spots_mem (List.mem_of_getElem? hp)) fun p1 p2 p3 => ?_
    have hs : ss[p.i]? = some p.s := by
      rw [← p2, List.getElem?_drop]; congr 1; omega
    have oks := ok p.s (List.mem_of_getElem? hs)
    have clen := X'.len
    dsimp only at clen
    refine ⟨_, JA_tuple (.cons (JA_name (he.var (i := 4) rfl rfl) (.inl rfl) (by show 4 < 17; decide)) (by intro _; rfl) (.cons (JA_name (he.var (i := 5) rfl rfl) (.inl rfl) (by show 5 < 17; decide)) (by intro _; rfl) .nil)), ?_⟩
    change JSs _ _ _ _ [some (.ref x.D), some (.ref N), some (.ref x.W), some (.ref G), some (.ref p.s.a), some (.int p.b), o6, o7, o8, o9, o10, none, none, none, none, none, none] _ _ _ _
    walk_at "es"
    refine (values_ok (NS.net O' H') I'.net (by omega) fun σ3 d3 z3 h3 hn3 O3 => ?_).call
    walk_at "es"
    refine (due_ok Wk (O'.trans O3) hs oks p3 h3 (I'.net.low 0) fun σ4 v4 O4 hv4 => ?_).call
    walk_at "es"
    have H4 := O4.gat (O3.gat H')
    have Oκ4 := (O'.trans O3).trans O4
    have hsl4 := O4 _ _ (O3 _ _ hsl')
    obtain ⟨rb, hrb, hj⟩ : ∃ rb : Bool, (rb = true ↔ Refused p.s p.b) ∧ ∀ (m : List (Option Val)) (Q : Val → AH → Prop) (X : Addr → AH → Prop), Q (.bool rb) σ4 → JO (CC w E os) (n + 8) true env m σ4 [v4, .none] (cmpT .Is) Q X := by
      rcases hv4 with ⟨hr, rfl⟩ | ⟨hr, rfl⟩
      · exact ⟨true, ⟨fun _ => hr, fun _ => rfl⟩, fun m Q X h => O_isNone_none h⟩
      · exact ⟨false, ⟨fun z => (by cases z), fun z => absurd z hr⟩, fun m Q X h => O_isNone_int h⟩
    refine hj _ _ _ ?_
    refine JSs_try he.frame (he.var (i := 8) rfl rfl) (he.var (i := 16) rfl rfl) gg_SynthError.glob ec ?_
    walk_at "es"
    refine (joined_ok (i := p.i) Wk Oκ4 A hs oks p3 H4 I' (by omega) (fun r st5 σ5 H5 I5 X5 F5 nr S5 => ?_) (fun a d σ5 fs e1 e2 O5 rf => ?_)).call
    · have hrbf : rb = false := by cases rb with | false => rfl | true => exact absurd (hrb.mp rfl) nr
      subst hrbf
      have Oκ5 := A.old Oκ4 F5
      have hsl5 := F5.list H4 hsl4 hsc
      walk_at "es"
      refine ⟨false, rfl, ?_⟩
      first | (walk_at "if") | rw [if_neg (by decide)]
      refine JSs_for he.frame (.inl ⟨_, _, rfl⟩) (JI_list ?_) (by intro _ _; rfl)
      walk_at "es"
      refine ⟨by decide, fun ll hll => ?_⟩
      let J2 : Nat → List (Option Val) → AH → Prop := fun j m σ' => (∃ (o9 o10 : Option Val), m = [some (.ref x.D), some (.ref N), some (.ref x.W), some (.ref G), some (.ref p.s.a), some (.int p.b), some (.bool false), some (.int r), o8, o9, o10, none, none, none, none, none, none]) ∧ GAt σ' ⟨G, dG, N, dN, il, ol, cl, md, op⟩ st5 ∧ Old κ σ' ∧ σ' ll = some (.list [.int 0, .int 1, .int 2, .int 5, .int 9, .int 10, .int 12, .int 15]) ∧ σ' sl = some (.list ((spotsFrom 1 (ss.drop 1)).map spotV))
      refine ⟨ll, _, rfl, AH.set_self _ _ _, J2,
        ⟨⟨_, _, rfl⟩, H5.fresh hll, Oκ5.fresh hll, AH.set_self _ _ _, set_old hsl5 hll⟩, ?_, ?_⟩
      · intro j y m σ' hy hI0
        refine ea_AAAA hI0 fun pz3 H6 O6 hll6 hsl6 => ?_; clear hI0
        refine ea_EE pz3 fun o9' o10' ez4 => ?_; clear pz3; subst ez4
        refine ⟨hll6, ?_⟩
        obtain ⟨line, rfl⟩ : ∃ ln : Int, y = .int ln := by
          have := List.mem_of_getElem? hy
          simp at this
          rcases this with h | h | h | h | h | h | h | h <;> exact ⟨_, h⟩
        refine ⟨_, JA_name (he.var (i := 9) rfl rfl) (.inl rfl) (by show 9 < 17; decide), ?_⟩
        walk_at "es"
        have cl5 := X5.len
        refine (values_ok (NS.net O6 H6) I5.net (by omega) fun σ7 d7 z7 h7 hn7 O7 => ?_).call
        walk_at "es"
        refine T_dict (k := .i r) (v := .int (due p.s p.b (evl st'.cells line))) (fun _ _ => rfl) h7 (by show (evl st5.cells line r).map Val.int = _; rw [S5 line]; rfl) ?_
        walk_at "es"
        refine (due_ok Wk (O6.trans O7) hs oks p3 h7 (I5.net.low line) fun σ8 v8 O8 hv8 => ?_).call
        rcases hv8 with ⟨hr, _⟩ | ⟨_, rfl⟩
        · exact absurd hr nr
        have hsame : due p.s p.b (evl st5.cells line) = due p.s p.b (evl st'.cells line) := due_same oks fun u h0 h6 => X5.old line u (by have := I'.net.c8; omega)
        rw [hsame]
        refine O_ne (bI ?_)
        first | (walk_at "if") | rw [if_neg (by simp)]
        walk_at "es"
        exact ⟨⟨_, _, rfl⟩, O8.gat (O7.gat H6), (O6.trans O7).trans O8, O8 _ _ (O7 _ _ hll6), O8 _ _ (O7 _ _ hsl6)⟩
      · intro m σ' hI0
        refine ea_AAAA hI0 fun pz5 H6 O6 hll6 hsl6 => ?_; clear hI0
        refine ea_EE pz5 fun o9' o10' ez6 => ?_; clear pz5; subst ez6
        refine ⟨hll6, ?_⟩
        walk_at "es"
        exact ⟨_, _, _, _, _, _, _, st5, rfl, H6, I5, (X'.trans X5).le (by omega), O6, hsl6, hlt⟩
    · have hrbt : rb = true := hrb.mpr rf
      subst hrbt
      refine ⟨d, e1, by show 8 < 17; decide, ?_⟩
      refine JSs_if (JB_bool (JBs_or (JB_not (JB_val (JEv 6 hn rfl rfl (by decide) rfl ?_) (by intro _ _; rfl)))))
      refine ⟨true, rfl, ?_⟩
      first | (walk_at "if") | rw [if_neg (by decide)]
      refine JBs_or (JB_cmp (JE_excattr (JEv 8 hn rfl rfl (by decide) rfl ?_) (by intro _; with_unfolding_all rfl)) (by with_unfolding_all rfl))
      refine ⟨a, 52, d, _, .str "several_drivers", rfl, .inr (.inl e1), e2, rfl, es, eh, na_exc_kind, rfl, ?_⟩
      walk_at "e"
      refine O_sne (bI ?_)
      first | (walk_at "if") | rw [if_neg (by decide)]
      refine JBs_or_nil ?_
      first | (walk_at "if") | rw [if_neg (by decide)]
      refine JSs_cont ?_
      refine ⟨⟨_, rfl⟩, ?_⟩
      exact ⟨_, _, _, _, _, _, _, st', rfl, O5.gat H4, I', X'.le (by omega), Oκ4.trans O5, O5 _ _ hsl4, hlt⟩
  · intro m σ' hI0
    refine ea_EEEEEEEEAAAAAA hI0 fun o4 o5 o6 o7 o8 o9 o10 st' ez7 H' I' X' O' hsl' hile => ?_; clear hI0; subst ez7
    refine ⟨hsl', ?_⟩
    rw [List.length_map] at X'
    walk_at "es"
    exact h σ' st' H'.dN H'.cl I'.net (X'.le (by omega)) O'
end
section
variable {w : World} {E : Frag} {os : OsState × Nat} {n : Nat} {q : Bool} {env : Env} {m : List (Option Val)} {σ : AH} {X : Addr → AH → Prop} {Q : Val → AH → Prop}
theorem input_keys_ok {κ : AH} {x : DAd} {ss : List Sg} (Wk : WAt κ x ss) (O : Old κ σ)
    (h : ∀ σ' d f z, σ' d = some (.dict f z) → (∀ k : Nat, (f (.i k)).isSome = decide (k = 0)) → σ d = none → Old σ σ' → Q (.ref d) σ') : JK (CC w E os) (n + 1) true env m σ (.ref 185) [.ref x.D] Q X := by
  have W := Wk.old O
  refine JK_def (ds := []) (dv := []) ["design"] (by walk_at "fn") (binds1 fun s a => BindsTo.of_eq rfl) (fun h => rfl) rfl (by walk_at "nm") fun env he hn => ?_
  change JSs _ _ _ _ [some (.ref x.D), none, none, none, none] _ _ _ _
  walk_at "s"
  refine JE_dict0 fun d hd => ?_
  have O1 : Old σ (σ.set d (.dict (fun _ => none) 0)) := Old.refl.fresh hd
  refine JSs_for he.frame (.inr ⟨_, _, _, rfl⟩) (JI_list ?_) (by intro _ _; rfl)
  walk_at "es"
  refine atI (.inl (O1 _ _ W.D)) (O1 _ _ W.dD) rfl cls_Design na_Design_ports rfl ?_
  let J1 : Nat → List (Option Val) → AH → Prop := fun i m σ' => (∃ o2 o3 o4 : Option Val, m = [some (.ref x.D), some (.ref d), o2, o3, o4]) ∧ Old σ σ' ∧ ∃ f z, σ' d = some (.dict f z) ∧ z ≤ i ∧ ∀ k : Nat, (f (.i k)).isSome = decide (i = 1 ∧ k = 0)
  refine ⟨x.pl, _, rfl, O1 _ _ W.pl, J1,
    ⟨⟨_, _, _, rfl⟩, O1, _, _, AH.set_self _ _ _, Nat.le_refl _, fun k => by simp⟩, ?_, ?_⟩
  · intro i v m σ' hv hI0
    refine ea_AAEEAA hI0 fun pz1 O' f z hf hz hff => ?_; clear hI0
    refine ea_EEE pz1 fun o2 o3 o4 ez2 => ?_; clear pz1; subst ez2
    have hi : i = 0 ∧ v = .tup [.str "input", .str "i", .int 0] := by
      cases i with
      | zero => simp at hv; exact ⟨rfl, hv.symm⟩
      | succ i => simp at hv
    obtain ⟨rfl, rfl⟩ := hi
    refine ⟨O' _ _ W.pl, ?_⟩
    refine ⟨_, JA_tuple (.cons (JA_name (he.var (i := 2) rfl rfl) (.inl rfl) (by show 2 < 5; decide)) (by intro _; rfl) (.cons (JA_name (he.var (i := 3) rfl rfl) (.inl rfl) (by show 3 < 5; decide)) (by intro _; rfl) (.cons (JA_name (he.var (i := 4) rfl rfl) (.inl rfl) (by show 4 < 5; decide)) (by intro _; rfl) .nil))), ?_⟩
    change JSs _ _ _ _ [some (.ref x.D), some (.ref d), some (.str "input"), some (.str "i"), some (.int 0)] _ _ _ _
    walk_at "es"
    refine O_seq (bI ?_)
    first | (walk_at "if") | rw [if_pos (by decide)]
    walk_at "es"
    refine ⟨_, .dict (.i 0) hf (by unfold sizeLine; omega), ?_⟩
    walk_at "es"
    refine ⟨⟨_, _, _, rfl⟩, fun b o e => (AH.set_ne (fun z => by rw [z, hd] at e; cases e)).trans (O' b o e), _, _, AH.set_self _ _ _, by omega, fun k => ?_⟩
    by_cases hk : k = 0
    · subst hk; simp
    · rw [if_neg (fun z => by have := Atom.i.inj z; omega), hff]; simp [hk]
  · intro m σ' hI0
    refine ea_AAEEAA hI0 fun pz3 O' f z hf hz hff => ?_; clear hI0
    refine ea_EEE pz3 fun o2 o3 o4 ez4 => ?_; clear pz3; subst ez4
    refine ⟨O' _ _ W.pl, ?_⟩
    walk_at "es"
    exact h σ' d f z hf (fun k => by rw [hff]; simp) hd O'
end
section
variable {w : World} {E : Frag} {os : OsState × Nat} {n : Nat} {q : Bool} {env : Env} {m : List (Option Val)} {σ : AH} {X : Addr → AH → Prop} {Q : Val → AH → Prop}
structure NetsOk (ss : List Sg) (cnt0 : Int) (cells0 : List Cell) : Prop where
  r : ∀ p ∈ spotsFrom 1 (ss.drop 1), 8 ≤ netOf p ∧ netOf p < cnt0 ∧ ∀ line, evl cells0 line (netOf p) = none
  nd : ((spotsFrom 1 (ss.drop 1)).map netOf).Nodup
theorem connect_ok {κ : AH} {x : DAd} {ss : List Sg} {ad : GAd} {cnt0 : Int} {cells0 : List Cell} {f0 g0} {zf0 zg0 : Nat} {s0 : Sg} (Wk : WAt κ x ss) (O : Old κ σ) (A : Apart κ ad) (ok : ∀ s ∈ ss, SgOk s) (hss : ss.length ≤ 100) (h0 : ss[0]? = some s0)
    (H : GAt σ ad ⟨cnt0, cells0, f0, zf0, g0, zg0⟩) (I : GInv ⟨cnt0, cells0, f0, zf0, g0, zg0⟩) (hz : cells0.length ≤ 30000) (NO : NetsOk ss cnt0 cells0)
    (h : ∀ σ' st', GAt σ' ad st' → CI cnt0 cells0 (spotsFrom 1 (ss.drop 1)) st' → Old κ σ' → (∀ b, b < s0.width → s0.drv b = none) → Q .none σ')
    (hx : ∀ a d σ' fs, σ' a = some (.exc 52 d) → σ' d = some (.attrs (("kind", .str "several_drivers") :: fs)) → Old κ σ' → ((∃ b, b < s0.width ∧ (s0.drv b).isSome = true) ∨ ∃ p ∈ spotsFrom 1 (ss.drop 1), nonev p = true ∧ Refused p.s p.b) → X a σ') :
    JK (CC w E os) (n + 9) true env m σ (.ref 213) [.ref x.W, .ref ad.G, .ref x.D] Q X := by
  have W := Wk.old O
  refine JK_def (ds := []) (dv := []) ["wires", "g", "design"] (by walk_at "fn") (binds3 fun s a b c => BindsTo.of_eq rfl) (fun h => rfl) rfl (by walk_at "nm") fun env he hn => ?_
  change JSs _ _ _ _ [some (.ref x.W), some (.ref ad.G), some (.ref x.D), none, none, none, none, none, none, none, none, none] _ _ _ _
  walk_at "es"
  refine (input_keys_ok Wk O fun σ1 ik f z hf hff hikn O1 => ?_).call
  have Oκ1 := O.trans O1
  have H1 := O1.gat H
  have ikne : ∀ st σ', GAt σ' ad st → σ' ik = some (.dict f z) → True := fun _ _ _ _ => trivial
  have hikop : ik ≠ ad.op := fun e => by rw [e] at hikn; rw [H.op] at hikn; cases hikn
  refine JSs_for he.frame (.inl ⟨_, _, rfl⟩) (JI_list ?_) (by intro _ _; rfl)
  walk_at "es"
  refine atI (.inl (Oκ1 _ _ Wk.D)) (Oκ1 _ _ Wk.dD) rfl cls_Design na_Design_signals rfl ?_
  let J1 : Nat → List (Option Val) → AH → Prop := fun i m σ' => ∃ (o4 o5 o6 : Option Val) (st' : GSt), m = [some (.ref x.W), some (.ref ad.G), some (.ref x.D), some (.ref ik), o4, o5, o6, none, none, none, none, none] ∧ GAt σ' ad st' ∧ CI cnt0 cells0 (spotsFrom 1 ((ss.drop 1).take (i - 1))) st' ∧ Old κ σ' ∧ σ' ik = some (.dict f z) ∧ (1 ≤ i → ∀ b, b < s0.width → s0.drv b = none)
  refine ⟨x.sl, _, rfl, Oκ1 _ _ Wk.sl, J1,
    ⟨_, _, _, _, rfl, H1, ⟨I, Int.le_refl _, ⟨[], by simp, Nat.zero_le _, rfl⟩, fun _ _ _ _ => rfl, fun p hp => by cases hp⟩, Oκ1, hf, fun z => absurd z (by decide)⟩, ?_, ?_⟩
  · intro i v m σ' hv hI0
    refine ea_EEEEAAAAA hI0 fun o4 o5 o6 st' ez1 H' C' O' hik hst => ?_; clear hI0; subst ez1
    refine ⟨O' _ _ Wk.sl, ?_⟩
    rw [List.getElem?_map] at hv
    refine ea_EA (Option.map_eq_some_iff.mp hv) fun s hs ez2 => ?_; subst ez2
    have oks := ok s (List.mem_of_getElem? hs)
    refine ea_AAA (Wk.sg i s hs) fun hsa hsd hsn hsi => ?_
    have hlt : i < ss.length := (List.getElem?_eq_some_iff.mp hs).1
    refine ⟨_, JA_name (he.var (i := 4) rfl rfl) (.inl rfl) (by show 4 < 12; decide), ?_⟩
    walk_at "es"
    refine atI (.inl (O' _ _ Wk.W)) (O' _ _ Wk.dW) rfl cls_Wires na_Wires_nets rfl ?_
    walk_at "es"
    refine atI (.inl (O' _ _ hsa)) (O' _ _ hsd) rfl cls_Signal na_Signal_key rfl ?_
    refine ea_EEA Wk.nd fun fn zn hfn hffn => ?_
    refine T_dict (k := .i i) (fun _ _ => rfl) (O' _ _ hfn) (hffn i s hs) ?_
    refine JSs_for he.frame (.inl ⟨_, _, rfl⟩) (JEr gg_range.glob ‹Nms _ _› rfl rfl ⟨fun _ _ => rfl, .inr ⟨_, _, rfl, fun _ => rfl⟩⟩ ?_) (by intro _ _; rfl)
    walk_at "es"
    refine C_len (O' _ _ hsn) (by rw [List.length_map, oks.nl]; have := oks.w2; unfold sizeLine; omega) ?_
    rw [List.length_map, oks.nl]
    walk_at "es"
    refine ⟨0, (s.width : Int), 1, s.width, .inl ⟨rfl, rfl, rfl⟩, small_1 (by have := oks.w2; omega), size_1, ?_⟩
    let J2 : Nat → List (Option Val) → AH → Prop := fun j m σ' => ∃ (o6 : Option Val) (st' : GSt), m = [some (.ref x.W), some (.ref ad.G), some (.ref x.D), some (.ref ik), some (.ref s.a), some (.ref s.nA), o6, none, none, none, none, none] ∧ GAt σ' ad st' ∧ CI cnt0 cells0 (spotsFrom 1 ((ss.drop 1).take (i - 1)) ++ (if i = 0 then [] else rowOf i s j)) st' ∧ Old κ σ' ∧ σ' ik = some (.dict f z) ∧ (1 ≤ i → ∀ b, b < s0.width → s0.drv b = none) ∧ (i = 0 → ∀ b, b < j → s.drv b = none)
    refine ⟨J2,
      ⟨o6, st', rfl, H', by simpa [rowOf] using C', O', hik, hst, fun _ b hb => absurd hb (Nat.not_lt_zero _)⟩, ?_, ?_⟩
    · intro j v m σ2 hv hI0
      refine ea_EEAAAAAA hI0 fun o6' st2 ez3 H2 C2 O2 hik2 hst2 hz0 => ?_; clear hI0; subst ez3
      obtain ⟨hj, rfl⟩ := range_at hv
      have e0 : (0 : Int) + (j : Int) * 1 = (j : Int) := by omega
      rw [e0]
      refine ⟨trivial, _, JA_name (he.var (i := 6) rfl rfl) (.inl rfl) (by show 6 < 12; decide), ?_⟩
      walk_at "es"
      refine atI (.inl (O2 _ _ hsa)) (O2 _ _ hsd) rfl cls_Signal na_Signal_key rfl ?_
      walk_at "es"
      refine O_in (k := .i i) hik2 (bI ?_)
      rw [hff i]
      refine ea_EEA Wk.dd fun fd zd hfd hffd => ?_
      by_cases hi0 : i = 0
      · have hs0 : s = s0 := by rw [hi0, h0] at hs; exact (Option.some.inj hs).symm
        first | (walk_at "if") | rw [if_pos (by simp [hi0])]
        walk_at "es"
        refine atI (.inl (O2 _ _ hsa)) (O2 _ _ hsd) rfl cls_Signal na_Signal_key rfl ?_
        walk_at "es"
        refine ⟨(by show 2 ≤ sizeLine; decide), ?_⟩
        walk_at "es"
        refine atI (.inl (O2 _ _ Wk.W)) (O2 _ _ Wk.dW) rfl cls_Wires na_Wires_drivers rfl ?_
        refine O_int (ks := [.i i, .i j]) (O2 _ _ hfd) (bI ?_)
        rw [hffd i s j hs]
        cases hdv : s.drv j with
        | none =>
          first | (walk_at "if") | rw [if_neg (by simp)]
          walk_at "es"
          refine ⟨_, st2, rfl, H2, by simpa [hi0] using C2, O2, hik2, hst2, fun hi b hb => ?_⟩
          rcases Nat.lt_succ_iff_lt_or_eq.mp hb with hb | rfl
          · exact hz0 hi b hb
          · exact hdv
        | some p =>
          first | (walk_at "if") | rw [if_pos (by simp)]
          refine JSs_raise ?_
          walk_at "es"
          refine (several_ok (O2 _ _ hsa) (O2 _ _ hsd) fun σ' xa d h1 h2' h3 h4 => ?_).call
          refine ⟨xa, _, d, 36, rfl, h1, ec, ?_⟩
          have hne : d ≠ xa := ne_of h2' h1 (by simp)
          refine hx xa d _ _ (AH.set_self _ _ _) ((AH.set_ne hne).trans h2') ?_ (.inl ⟨j, by rw [← hs0]; exact hj, by rw [← hs0, hdv]; rfl⟩)
          exact fun b' o e => (AH.set_ne (fun z => by have e2 := O2 _ _ e; rw [z, h3] at e2; cases e2)).trans (h4 b' o (O2 _ _ e))
      · first | (walk_at "if") | rw [if_neg (by simp [hi0])]
        walk_at "es"
        refine atI (.inl (O2 _ _ hsa)) (O2 _ _ hsd) rfl cls_Signal na_Signal_kind rfl ?_
        walk_at "es"
        refine O_sne (bI ?_)
        have hrow : rowOf i s (j + 1) = rowOf i s j ++ [⟨i, s, j⟩] := by simp [rowOf, List.range_succ]
        have C2' : CI cnt0 cells0 (spotsFrom 1 ((ss.drop 1).take (i - 1)) ++ rowOf i s j) st2 := by simpa [hi0] using C2
        by_cases hev : s.kind = "event"
        · first | (walk_at "if") | rw [if_neg (by simpa using hev)]
          walk_at "es"
          refine ⟨_, st2, rfl, H2, ?_, O2, hik2, hst2, fun hi => absurd hi hi0⟩
          rw [if_neg hi0, hrow, ← List.append_assoc]
          exact C2'.event (by simp [nonev, hev])
        · first | (walk_at "if") | rw [if_pos (by simpa using hev)]
          walk_at "es"
          have hmem : (⟨i, s, j⟩ : Spot) ∈ spotsFrom 1 (ss.drop 1) := by
            have := mem_spots (i := 1) (l := ss.drop 1) (j := i - 1) (b := j) (s := s) (by rw [List.getElem?_drop, show 1 + (i - 1) = i by omega]; exact hs) hj
            rw [show 1 + (i - 1) = i by omega] at this; exact this
          have hnv : nonev ⟨i, s, j⟩ = true := by simp [nonev, hev]
          refine atI (.inl H2.G) H2.dG rfl cls_Gates na_Gates_netlist rfl ?_
          refine mtI (mm_Netlist_drive H2.N H2.dN rfl) mk_Netlist_drive ?_
          walk_at "es"
          have hjl : j < s.nL.length := by rw [oks.nl]; exact hj
          have hno : netOf ⟨i, s, j⟩ = s.nL[j] := by simp [netOf, hjl]
          refine T_list (v := .int s.nL[j]) (fun _ _ => rfl) (O2 _ _ hsn) (by omega) (by have := oks.w2; omega) (by rw [Int.toNat_natCast, List.getElem?_map, List.getElem?_eq_getElem hjl]; rfl) ?_
          walk_at "es"
          have sl : (spotsFrom 1 ((ss.drop 1).take (i - 1)) ++ rowOf i s j).length ≤ 202 := by
            have := spots_len (i := 1) (l := (ss.drop 1).take (i - 1)) fun s hs => (ok s (List.mem_of_mem_drop (List.mem_of_mem_take hs))).w2
            rw [List.length_take, List.length_drop] at this
            simp only [List.length_append, rowOf, List.length_map, List.length_range]
            have := oks.w2; omega
          have clen : st2.cells.length ≤ 40000 := by
            refine ea_EAA C2'.cells fun ex x1 x2 _ => ?_
            rw [x1, List.length_append]; omega
          refine (joined_ok (i := i) Wk O2 A hs oks hj H2 C2'.inv (by omega) (fun r st3 σ3 H3 I3 X3 F3 nr S3 => ?_) (fun a d σ3 fs e1 e2 O3 rf => ?_)).call
          · walk_at "es"
            refine ⟨(by show 1 ≤ sizeLine; decide), ?_⟩
            walk_at "es"
            have c3 := X3.len
            refine (drive_ok (kd := "buf") (ins := [r]) (out := s.nL[j]) H3.N H3.dN H3.cl (by rw [cellsV_len]; unfold sizeLine; omega) ?_ (.inl rfl)).call
            refine ⟨rfl, ?_⟩
            walk_at "es"
            have hfresh : netOf ⟨i, s, j⟩ ∉ ((spotsFrom 1 ((ss.drop 1).take (i - 1)) ++ rowOf i s j).filter nonev).map netOf := fresh_net NO.nd hi0 hs hj
            refine ea_AA (NO.r _ hmem) fun n8 nlt nnone => ?_
            have C3 := C2'.buf (p := ⟨i, s, j⟩) oks I3 X3 nr S3 n8 nlt nnone hfresh hnv
            rw [hno] at C3
            have O3 : Old κ σ3 := A.old O2 F3
            have ikl : ik ≠ ad.cl := fun e => by rw [e, H2.cl] at hik2; cases hik2
            refine ⟨_, ⟨st3.cnt, st3.cells ++ [⟨"buf", s.nL[j], [r]⟩], st3.f, st3.zf, st3.g, st3.zg⟩, rfl, ⟨(AH.set_ne (ne_of H3.G H3.cl (by simp))).trans H3.G, (AH.set_ne (ne_of H3.dG H3.cl (by simp))).trans H3.dG, (AH.set_ne (ne_of H3.N H3.cl (by simp))).trans H3.N, (AH.set_ne (ne_of H3.dN H3.cl (by simp))).trans H3.dN, by rw [cellsV_snoc]; exact AH.set_self _ _ _,
              (AH.set_ne (ne_of H3.md H3.cl (by simp))).trans H3.md, (AH.set_ne (ne_of H3.op H3.cl (by simp))).trans H3.op⟩, ?_, ?_, ?_, hst2, fun hi => absurd hi hi0⟩
            · rw [if_neg hi0, hrow, ← List.append_assoc]
              exact C3
            · exact fun b o e => (AH.set_ne (fun z => by rw [z, A.a2] at e; cases e)).trans (O3 b o e)
            · exact (AH.set_ne ikl).trans (F3 ik _ hik2 (ne_of hik2 H2.dN (by simp)) ikl (ne_of hik2 H2.md (by simp)) hikop)
          · exact hx a d σ3 fs e1 e2 (fun b o e => O3 _ _ (O2 _ _ e)) (.inr ⟨_, hmem, hnv, rf⟩)
    · intro m σ2 hI0
      refine ea_EEAAAAAA hI0 fun o6' st2 ez4 H2 C2 O2 hik2 hst2 hz0 => ?_; clear hI0; subst ez4
      rw [List.length_map, List.length_range] at C2 hz0
      refine ⟨trivial, ?_⟩
      walk_at "es"
      refine ⟨_, _, _, st2, rfl, H2, ?_, O2, hik2, fun _ => ?_⟩
      · by_cases hi0 : i = 0
        · subst hi0
          simpa using C2
        · rw [spots_row hi0 hs]
          simpa [hi0] using C2
      · by_cases hi0 : i = 0
        · have hs0 : s = s0 := by rw [hi0, h0] at hs; exact (Option.some.inj hs).symm
          intro b hb
          rw [← hs0]; exact hz0 hi0 b (by rw [hs0]; exact hb)
        · exact hst2 (by omega)
  · intro m σ' hI0
    refine ea_EEEEAAAAA hI0 fun o4 o5 o6 st' ez5 H' C' O' hik hst => ?_; clear hI0; subst ez5
    rw [List.length_map] at C' hst
    refine ⟨O' _ _ Wk.sl, ?_⟩
    walk_at "es"
    have h1 : 1 ≤ ss.length := (List.getElem?_eq_some_iff.mp h0).1
    rw [List.take_of_length_le (by rw [List.length_drop]; omega)] at C'
    exact h σ' st' H' C' O' (hst h1)
end
section
variable {w : World} {E : Frag} {os : OsState × Nat} {n : Nat} {q : Bool} {env : Env} {m : List (Option Val)} {σ : AH} {X : Addr → AH → Prop} {Q : Val → AH → Prop}
theorem wires_new {L : List Ent} (H : Has σ L)
    (h : ∀ σ' W dW nd dd id pd ud, Has σ' ((ud, .dict (fun _ => none) 0) :: (pd, .tdict (fun _ => none) 0) :: (id, .dict (fun _ => none) 0) :: (dd, .tdict (fun _ => none) 0) :: (nd, .dict (fun _ => none) 0) :: (W, .inst 174 dW) :: (dW, .attrs [("nets", .ref nd), ("drivers", .ref dd), ("initial", .ref id), ("pulls", .ref pd), ("uneven", .ref ud)]) :: L) → Q (.ref W) σ') :
    JK (CC w E os) (n + 2) true env m σ (.ref 174) [] Q X := by
  refine JK_new mk_Wires in_Wires it_Wires fun x dx h1 h2 hne => ?_
  refine JK_def (ds := []) (dv := []) ["self"] (by walk_at "fn") (binds1 fun s a => BindsTo.of_eq rfl) (fun h => rfl) rfl (by walk_at "nm") fun env he hn => ?_
  change JSs _ _ _ _ [some (.ref x)] _ _ _ _
  have H0 := (H.new (o := .attrs []) h2).new (a := x) (o := .inst 174 dx) ((AH.set_ne hne).trans h1)
  refine JSs_setattr (JE_dict0 fun nd hnd => ?_) (by intro _; rfl)
  have H1 := H0.new (o := .dict (fun _ => none) 0) hnd
  walk_at "es"
  refine saI (.inl (H1.get 1 rfl)) (H1.get 2 rfl) cls_Wires po_Wires na_Wires_nets ((by show 0 ≤ 100; decide)) ?_
  have H2 := H1.upd 2 (o' := .attrs [("nets", .ref nd)]) rfl
  refine JSs_setattr (JE_tdict0 fun dd hdd => ?_) (by intro _; rfl)
  have H3 := H2.new (o := .tdict (fun _ => none) 0) hdd
  walk_at "es"
  refine saI (.inl (H3.get 2 rfl)) (H3.get 3 rfl) cls_Wires po_Wires na_Wires_drivers ((by show 1 ≤ 100; decide)) ?_
  have H4 := H3.upd 3 (o' := .attrs [("nets", .ref nd), ("drivers", .ref dd)]) rfl
  refine JSs_setattr (JE_dict0 fun id hid => ?_) (by intro _; rfl)
  have H5 := H4.new (o := .dict (fun _ => none) 0) hid
  walk_at "es"
  refine saI (.inl (H5.get 3 rfl)) (H5.get 4 rfl) cls_Wires po_Wires na_Wires_initial ((by show 2 ≤ 100; decide)) ?_
  have H6 := H5.upd 4 (o' := .attrs [("nets", .ref nd), ("drivers", .ref dd), ("initial", .ref id)]) rfl
  refine JSs_setattr (JE_tdict0 fun pd hpd => ?_) (by intro _; rfl)
  have H7 := H6.new (o := .tdict (fun _ => none) 0) hpd
  walk_at "es"
  refine saI (.inl (H7.get 4 rfl)) (H7.get 5 rfl) cls_Wires po_Wires na_Wires_pulls ((by show 3 ≤ 100; decide)) ?_
  have H8 := H7.upd 5 (o' := .attrs [("nets", .ref nd), ("drivers", .ref dd), ("initial", .ref id), ("pulls", .ref pd)]) rfl
  refine JSs_setattr (JE_dict0 fun ud hud => ?_) (by intro _; rfl)
  have H9 := H8.new (o := .dict (fun _ => none) 0) hud
  walk_at "es"
  refine saI (.inl (H9.get 5 rfl)) (H9.get 6 rfl) cls_Wires po_Wires na_Wires_uneven ((by show 4 ≤ 100; decide)) ?_
  have H10 := H9.upd 6 (o' := .attrs [("nets", .ref nd), ("drivers", .ref dd), ("initial", .ref id), ("pulls", .ref pd), ("uneven", .ref ud)]) rfl
  walk_at "es"
  exact ⟨rfl, h _ x dx nd dd id pd ud H10⟩
theorem netlist_new {L : List Ent} (H : Has σ L)
    (h : ∀ σ' N dN il ol cl, Has σ' ((cl, .list []) :: (il, .list []) :: (N, .inst 412 dN) :: (dN, .attrs (netFs 2 il ol cl)) :: L) → Q (.ref N) σ') :
    JK (CC w E os) (n + 2) true env m σ (.ref 412) [.str "m"] Q X := by
  refine JK_new mk_Netlist in_Netlist it_Netlist fun x dx h1 h2 hne => ?_
  refine JK_def (ds := []) (dv := []) ["self", "name"] (by walk_at "fn") (binds2 fun s a b => BindsTo.of_eq rfl) (fun h => rfl) rfl (by walk_at "nm") fun env he hn => ?_
  change JSs _ _ _ _ [some (.ref x), some (.str "m")] _ _ _ _
  have H0 := (H.new (o := .attrs []) h2).new (a := x) (o := .inst 412 dx) ((AH.set_ne hne).trans h1)
  walk_at "es"
  refine saI (.inl (H0.get 0 rfl)) (H0.get 1 rfl) cls_Netlist po_Netlist na_Netlist_name ((by show 0 ≤ 100; decide)) ?_
  have H2 := H0.upd 1 (o' := .attrs [("name", .str "m")]) rfl
  walk_at "es"
  refine saI (.inl (H2.get 0 rfl)) (H2.get 1 rfl) cls_Netlist po_Netlist na_Netlist_count ((by show 1 ≤ 100; decide)) ?_
  have H3 := H2.upd 1 (o' := .attrs [("name", .str "m"), ("count", .int 2)]) rfl
  walk_at "es"
  refine ⟨by decide, fun il hil => ?_⟩
  have H4 := H3.new (o := .list []) hil
  walk_at "es"
  refine saI (.inl (H4.get 1 rfl)) (H4.get 2 rfl) cls_Netlist po_Netlist na_Netlist_inputs ((by show 2 ≤ 100; decide)) ?_
  have H5 := H4.upd 2 (o' := .attrs [("name", .str "m"), ("count", .int 2), ("inputs", .ref il)]) rfl
  walk_at "es"
  refine ⟨by decide, fun ol hol => ?_⟩
  have H6 := H5.skip (o := .list []) hol
  walk_at "es"
  refine saI (.inl (H6.get 1 rfl)) (H6.get 2 rfl) cls_Netlist po_Netlist na_Netlist_outputs ((by show 3 ≤ 100; decide)) ?_
  have H7 := H6.upd 2 (o' := .attrs [("name", .str "m"), ("count", .int 2), ("inputs", .ref il), ("outputs", .ref ol)]) rfl
  walk_at "es"
  refine ⟨by decide, fun cl hcl => ?_⟩
  have H8 := H7.new (o := .list []) hcl
  walk_at "es"
  refine saI (.inl (H8.get 2 rfl)) (H8.get 3 rfl) cls_Netlist po_Netlist na_Netlist_cells ((by show 4 ≤ 100; decide)) ?_
  have H9 := H8.upd 3 (o' := .attrs (netFs 2 il ol cl)) rfl
  walk_at "es"
  exact ⟨rfl, h _ x dx il ol cl H9⟩
theorem design_new {L : List Ent} (H : Has σ L)
    (h : ∀ σ' D dD sl as gs us ps rs ss ts pl bp, Has σ' ((bp, .dict (fun _ => none) 0) :: (pl, .list []) :: (sl, .list []) :: (D, .inst 335 dD) ::
      (dD, .attrs [("signals", .ref sl), ("assigns", .ref as), ("gates", .ref gs), ("udps", .ref us), ("processes", .ref ps), ("routines", .ref rs), ("scopes", .ref ss), ("tops", .ref ts), ("ports", .ref pl), ("maker", .none), ("by_path", .ref bp)]) :: L) → Q (.ref D) σ') :
    JK (CC w E os) (n + 2) true env m σ (.ref 335) [] Q X := by
  refine JK_new mk_Design in_Design it_Design fun x dx h1 h2 hne => ?_
  refine JK_def (ds := []) (dv := []) ["self"] (by walk_at "fn") (binds1 fun s a => BindsTo.of_eq rfl) (fun h => rfl) rfl (by walk_at "nm") fun env he hn => ?_
  change JSs _ _ _ _ [some (.ref x)] _ _ _ _
  have H0 := (H.new (o := .attrs []) h2).new (a := x) (o := .inst 335 dx) ((AH.set_ne hne).trans h1)
  walk_at "es"
  refine ⟨by decide, fun sl hsl => ?_⟩
  have H1 := H0.new (o := .list []) hsl
  walk_at "es"
  refine saI (.inl (H1.get 1 rfl)) (H1.get 2 rfl) cls_Design po_Design na_Design_signals ((by show 0 ≤ 100; decide)) ?_
  have H2 := H1.upd 2 (o' := .attrs [("signals", .ref sl)]) rfl
  walk_at "es"
  refine ⟨by decide, fun as has => ?_⟩
  have H3 := H2.skip (o := .list []) has
  walk_at "es"
  refine saI (.inl (H3.get 1 rfl)) (H3.get 2 rfl) cls_Design po_Design na_Design_assigns ((by show 1 ≤ 100; decide)) ?_
  have H4 := H3.upd 2 (o' := .attrs [("signals", .ref sl), ("assigns", .ref as)]) rfl
  walk_at "es"
  refine ⟨by decide, fun gs hgs => ?_⟩
  have H5 := H4.skip (o := .list []) hgs
  walk_at "es"
  refine saI (.inl (H5.get 1 rfl)) (H5.get 2 rfl) cls_Design po_Design na_Design_gates ((by show 2 ≤ 100; decide)) ?_
  have H6 := H5.upd 2 (o' := .attrs [("signals", .ref sl), ("assigns", .ref as), ("gates", .ref gs)]) rfl
  walk_at "es"
  refine ⟨by decide, fun us hus => ?_⟩
  have H7 := H6.skip (o := .list []) hus
  walk_at "es"
  refine saI (.inl (H7.get 1 rfl)) (H7.get 2 rfl) cls_Design po_Design na_Design_udps ((by show 3 ≤ 100; decide)) ?_
  have H8 := H7.upd 2 (o' := .attrs [("signals", .ref sl), ("assigns", .ref as), ("gates", .ref gs), ("udps", .ref us)]) rfl
  walk_at "es"
  refine ⟨by decide, fun ps hps => ?_⟩
  have H9 := H8.skip (o := .list []) hps
  walk_at "es"
  refine saI (.inl (H9.get 1 rfl)) (H9.get 2 rfl) cls_Design po_Design na_Design_processes ((by show 4 ≤ 100; decide)) ?_
  have H10 := H9.upd 2 (o' := .attrs [("signals", .ref sl), ("assigns", .ref as), ("gates", .ref gs), ("udps", .ref us), ("processes", .ref ps)]) rfl
  walk_at "es"
  refine ⟨by decide, fun rs hrs => ?_⟩
  have H11 := H10.skip (o := .list []) hrs
  walk_at "es"
  refine saI (.inl (H11.get 1 rfl)) (H11.get 2 rfl) cls_Design po_Design na_Design_routines ((by show 5 ≤ 100; decide)) ?_
  have H12 := H11.upd 2 (o' := .attrs [("signals", .ref sl), ("assigns", .ref as), ("gates", .ref gs), ("udps", .ref us), ("processes", .ref ps), ("routines", .ref rs)]) rfl
  walk_at "es"
  refine ⟨by decide, fun ss hss => ?_⟩
  have H13 := H12.skip (o := .list []) hss
  walk_at "es"
  refine saI (.inl (H13.get 1 rfl)) (H13.get 2 rfl) cls_Design po_Design na_Design_scopes ((by show 6 ≤ 100; decide)) ?_
  have H14 := H13.upd 2 (o' := .attrs [("signals", .ref sl), ("assigns", .ref as), ("gates", .ref gs), ("udps", .ref us), ("processes", .ref ps), ("routines", .ref rs), ("scopes", .ref ss)]) rfl
  walk_at "es"
  refine ⟨by decide, fun ts hts => ?_⟩
  have H15 := H14.skip (o := .list []) hts
  walk_at "es"
  refine saI (.inl (H15.get 1 rfl)) (H15.get 2 rfl) cls_Design po_Design na_Design_tops ((by show 7 ≤ 100; decide)) ?_
  have H16 := H15.upd 2 (o' := .attrs [("signals", .ref sl), ("assigns", .ref as), ("gates", .ref gs), ("udps", .ref us), ("processes", .ref ps), ("routines", .ref rs), ("scopes", .ref ss), ("tops", .ref ts)]) rfl
  walk_at "es"
  refine ⟨by decide, fun pl hpl => ?_⟩
  have H17 := H16.new (o := .list []) hpl
  walk_at "es"
  refine saI (.inl (H17.get 2 rfl)) (H17.get 3 rfl) cls_Design po_Design na_Design_ports ((by show 8 ≤ 100; decide)) ?_
  have H18 := H17.upd 3 (o' := .attrs [("signals", .ref sl), ("assigns", .ref as), ("gates", .ref gs), ("udps", .ref us), ("processes", .ref ps), ("routines", .ref rs), ("scopes", .ref ss), ("tops", .ref ts), ("ports", .ref pl)]) rfl
  walk_at "es"
  refine saI (.inl (H18.get 2 rfl)) (H18.get 3 rfl) cls_Design po_Design na_Design_maker ((by show 9 ≤ 100; decide)) ?_
  have H19 := H18.upd 3 (o' := .attrs [("signals", .ref sl), ("assigns", .ref as), ("gates", .ref gs), ("udps", .ref us), ("processes", .ref ps), ("routines", .ref rs), ("scopes", .ref ss), ("tops", .ref ts), ("ports", .ref pl), ("maker", .none)]) rfl
  refine JSs_setattr (JE_dict0 fun bp hbp => ?_) (by intro _; rfl)
  have H20 := H19.new (o := .dict (fun _ => none) 0) hbp
  walk_at "es"
  refine saI (.inl (H20.get 3 rfl)) (H20.get 4 rfl) cls_Design po_Design na_Design_by_path ((by show 10 ≤ 100; decide)) ?_
  have H21 := H20.upd 4 (o' := .attrs [("signals", .ref sl), ("assigns", .ref as), ("gates", .ref gs), ("udps", .ref us), ("processes", .ref ps), ("routines", .ref rs), ("scopes", .ref ss), ("tops", .ref ts), ("ports", .ref pl), ("maker", .none), ("by_path", .ref bp)]) rfl
  walk_at "es"
  exact ⟨rfl, h _ x dx sl as gs us ps rs ss ts pl bp H21⟩
theorem signal_new {L : List Ent} {key width : Int} {path kind : Str} (H : Has σ L)
    (h : ∀ σ' s d, Has σ' ((s, .inst 272 d) :: (d, .attrs (sigFs key path kind width)) :: L) → Q (.ref s) σ') :
    JK (CC w E os) (n + 2) true env m σ (.ref 272) [.int key, .str path, .str kind, .int width, .bool false, .int (width - 1), .int 0] Q X := by
  refine JK_new mk_Signal in_Signal it_Signal fun x dx h1 h2 hne => ?_
  refine JK_def (ds := []) (dv := []) ["self", "key", "path", "kind", "width", "signed", "msb", "lsb"] (by walk_at "fn") (binds8 fun s a b c d e f g i => BindsTo.of_eq rfl) (fun h => rfl) rfl (by walk_at "nm") fun env he hn => ?_
  change JSs _ _ _ _ [some (.ref x), some (.int key), some (.str path), some (.str kind), some (.int width), some (.bool false), some (.int (width - 1)), some (.int 0)] _ _ _ _
  have H0 := (H.new (o := .attrs []) h2).new (a := x) (o := .inst 272 dx) ((AH.set_ne hne).trans h1)
  walk_at "es"
  refine saI (.inl (H0.get 0 rfl)) (H0.get 1 rfl) cls_Signal po_Signal na_Signal_key ((by show 0 ≤ 100; decide)) ?_
  have H1 := H0.upd 1 (o' := .attrs [("key", .int key)]) rfl
  walk_at "es"
  refine saI (.inl (H1.get 0 rfl)) (H1.get 1 rfl) cls_Signal po_Signal na_Signal_path ((by show 1 ≤ 100; decide)) ?_
  have H2 := H1.upd 1 (o' := .attrs [("key", .int key), ("path", .str path)]) rfl
  walk_at "es"
  refine saI (.inl (H2.get 0 rfl)) (H2.get 1 rfl) cls_Signal po_Signal na_Signal_kind ((by show 2 ≤ 100; decide)) ?_
  have H3 := H2.upd 1 (o' := .attrs [("key", .int key), ("path", .str path), ("kind", .str kind)]) rfl
  walk_at "es"
  refine saI (.inl (H3.get 0 rfl)) (H3.get 1 rfl) cls_Signal po_Signal na_Signal_width ((by show 3 ≤ 100; decide)) ?_
  have H4 := H3.upd 1 (o' := .attrs [("key", .int key), ("path", .str path), ("kind", .str kind), ("width", .int width)]) rfl
  walk_at "es"
  refine saI (.inl (H4.get 0 rfl)) (H4.get 1 rfl) cls_Signal po_Signal na_Signal_signed ((by show 4 ≤ 100; decide)) ?_
  have H5 := H4.upd 1 (o' := .attrs [("key", .int key), ("path", .str path), ("kind", .str kind), ("width", .int width), ("signed", .bool false)]) rfl
  walk_at "es"
  refine saI (.inl (H5.get 0 rfl)) (H5.get 1 rfl) cls_Signal po_Signal na_Signal_msb ((by show 5 ≤ 100; decide)) ?_
  have H6 := H5.upd 1 (o' := .attrs [("key", .int key), ("path", .str path), ("kind", .str kind), ("width", .int width), ("signed", .bool false), ("msb", .int (width - 1))]) rfl
  walk_at "es"
  refine saI (.inl (H6.get 0 rfl)) (H6.get 1 rfl) cls_Signal po_Signal na_Signal_lsb ((by show 6 ≤ 100; decide)) ?_
  have H7 := H6.upd 1 (o' := .attrs [("key", .int key), ("path", .str path), ("kind", .str kind), ("width", .int width), ("signed", .bool false), ("msb", .int (width - 1)), ("lsb", .int 0)]) rfl
  walk_at "es"
  refine saI (.inl (H7.get 0 rfl)) (H7.get 1 rfl) cls_Signal po_Signal na_Signal_first ((by show 7 ≤ 100; decide)) ?_
  have H8 := H7.upd 1 (o' := .attrs [("key", .int key), ("path", .str path), ("kind", .str kind), ("width", .int width), ("signed", .bool false), ("msb", .int (width - 1)), ("lsb", .int 0), ("first", .none)]) rfl
  walk_at "es"
  refine saI (.inl (H8.get 0 rfl)) (H8.get 1 rfl) cls_Signal po_Signal na_Signal_last ((by show 8 ≤ 100; decide)) ?_
  have H9 := H8.upd 1 (o' := .attrs [("key", .int key), ("path", .str path), ("kind", .str kind), ("width", .int width), ("signed", .bool false), ("msb", .int (width - 1)), ("lsb", .int 0), ("first", .none), ("last", .none)]) rfl
  walk_at "es"
  refine saI (.inl (H9.get 0 rfl)) (H9.get 1 rfl) cls_Signal po_Signal na_Signal_init ((by show 9 ≤ 100; decide)) ?_
  have H10 := H9.upd 1 (o' := .attrs [("key", .int key), ("path", .str path), ("kind", .str kind), ("width", .int width), ("signed", .bool false), ("msb", .int (width - 1)), ("lsb", .int 0), ("first", .none), ("last", .none), ("init", .none)]) rfl
  walk_at "es"
  refine ⟨_, rfl, ?_⟩
  walk_at "es"
  refine saI (.inl (H10.get 0 rfl)) (H10.get 1 rfl) cls_Signal po_Signal na_Signal_at ((by show 10 ≤ 100; decide)) ?_
  have H11 := H10.upd 1 (o' := .attrs [("key", .int key), ("path", .str path), ("kind", .str kind), ("width", .int width), ("signed", .bool false), ("msb", .int (width - 1)), ("lsb", .int 0), ("first", .none), ("last", .none), ("init", .none), ("at", .int (-1))]) rfl
  walk_at "es"
  refine saI (.inl (H11.get 0 rfl)) (H11.get 1 rfl) cls_Signal po_Signal na_Signal_scalar ((by show 11 ≤ 100; decide)) ?_
  have H12 := H11.upd 1 (o' := .attrs [("key", .int key), ("path", .str path), ("kind", .str kind), ("width", .int width), ("signed", .bool false), ("msb", .int (width - 1)), ("lsb", .int 0), ("first", .none), ("last", .none), ("init", .none), ("at", .int (-1)), ("scalar", .bool false)]) rfl
  walk_at "es"
  exact ⟨rfl, h _ x dx H12⟩
end
section
variable {w : World} {E : Frag} {os : OsState × Nat} {n : Nat} {q : Bool} {env : Env} {m : List (Option Val)} {σ : AH} {X : Addr → AH → Prop} {Q : Val → AH → Prop}
theorem add_signal_ok {A : WA} {s : WS} {sp : Int} {R : List Ent} {path kind : Str} {width : Int} (H : Has σ (main A sp s ++ R)) (hz : s.sgs.length ≤ 1000) (hb : s.bz ≤ 1000)
    (h : ∀ σ' a d bf, Has σ' (main A sp { s with sgs := s.sgs ++ [.ref a], bf := bf, bz := s.bz + 1 } ++ (a, .inst 272 d) :: (d, .attrs (sigFs s.sgs.length path kind width)) :: R) → Q (.ref a) σ') :
    JK (CC w E os) (n + 3) true env m σ (.ref 297) [.ref A.x.D, .str path, .str kind, .int width, .bool false, .int (width - 1), .int 0, .int (-1)] Q X := by
  refine JK_def (ds := []) (dv := []) ["self", "path", "kind", "width", "signed", "msb", "lsb", "at"] (by walk_at "fn") (binds8 fun s a b c d e f g i => BindsTo.of_eq rfl) (fun h => rfl) rfl (by walk_at "nm") fun env he hn => ?_
  change JSs _ _ _ _ [some (.ref A.x.D), some (.str path), some (.str kind), some (.int width), some (.bool false), some (.int (width - 1)), some (.int 0), some (.int (-1)), none, none, none] _ _ _ _
  walk_at "es"
  refine atI (.inl (H.get 14 rfl)) (H.get 15 rfl) rfl cls_Design na_Design_signals rfl ?_
  walk_at "es"
  refine C_len (H.get 13 rfl) (by unfold sizeLine; omega) ?_
  walk_at "es"
  refine (signal_new H fun σ1 a d H1 => ?_).call
  walk_at "es"
  have H2 : Has σ1 (main A sp s ++ (a, .inst 272 d) :: (d, .attrs (sigFs s.sgs.length path kind width)) :: R) :=
    H1.perm (((List.perm_middle (a := (d, AObj.attrs (sigFs s.sgs.length path kind width))) (l₁ := main A sp s) (l₂ := R)).symm.cons _).trans List.perm_middle.symm)
  refine saI (.inl (H2.get 18 rfl)) (H2.get 19 rfl) cls_Signal po_Signal na_Signal_at ((by show 12 ≤ 100; decide)) ?_
  have H3 := H2.upd 19 (o' := .attrs (sigFs s.sgs.length path kind width)) rfl
  walk_at "es"
  refine atI (.inl (H3.get 14 rfl)) (H3.get 15 rfl) rfl cls_Design na_Design_signals rfl ?_
  refine mtI (meth_list (H3.get 13 rfl) PySem.F.slot_list_append PySem.F.type_list_append) (.inr (.inr ⟨_, rfl⟩)) ?_
  walk_at "es"
  refine C_append (H3.get 13 rfl) (by unfold sizeLine; omega) ⟨rfl, ?_⟩
  have H4 := H3.upd 13 (o' := .list (s.sgs ++ [.ref a])) rfl
  walk_at "es"
  refine atI (.inl (H4.get 18 rfl)) (H4.get 19 rfl) rfl cls_Signal na_Signal_key rfl ?_
  walk_at "es"
  refine atI (.inl (H4.get 14 rfl)) (H4.get 15 rfl) rfl cls_Design na_Design_by_path rfl ?_
  walk_at "es"
  refine ⟨_, .dict (.s path) (H4.get 11 rfl) (by unfold sizeLine; omega), ?_⟩
  have H5 := H4.upd 11 (o' := .dict (fun x => if x = Atom.s path then some (.int s.sgs.length) else s.bf x) (s.bz + 1)) rfl
  walk_at "es"
  exact h _ a d _ H5
noncomputable def numsFrom (c : Int) (k : Nat) : List Int := (List.range k).map fun (j : Nat) => c + (j : Int)
theorem numsFrom_succ (c : Int) (k : Nat) : numsFrom c (k + 1) = numsFrom c k ++ [c + k] := by simp [numsFrom, List.range_succ]
theorem numsFrom_len (c : Int) (k : Nat) : (numsFrom c k).length = k := by simp [numsFrom]
theorem new_nets_ok {A : WA} {s : WS} {sp : Int} {R : List Ent} {k : Nat} (H : Has σ (main A sp s ++ R)) (hk : k ≤ 10)
    (h : ∀ σ' a, Has σ' (main A sp { s with cnt := s.cnt + k } ++ (a, .list ((numsFrom s.cnt k).map .int)) :: R) → Q (.ref a) σ') :
    JK (CC w E os) (n + 2) true env m σ (.ref 365) [.ref A.N, .int k] Q X := by
  refine JK_def (ds := []) (dv := []) ["self", "width"] (by walk_at "fn") (binds2 fun s a b => BindsTo.of_eq rfl) (fun h => rfl) rfl (by walk_at "nm") fun env he hn => ?_
  change JSs _ _ _ _ [some (.ref A.N), some (.int k), none] _ _ _ _
  obtain ⟨c, hc⟩ := he.cells "self" (by simp)
  walk_at "es"
  have K : CompOk env { kind := ScopeKind.function, names := [(".0", NameKind.local), ("bit", NameKind.local), ("self", NameKind.free)], isGenerator := false, isCoroutine := false, more := [] } [("self", c)] [some (.ref A.N), some (.int k), none] [none, none, some (.ref A.N)] := by
    refine comp_ok _ 0 he rfl rfl (by decide) (by decide) (by decide) (by decide) ?_ hc rfl (by decide) rfl ?_
    · simp only [closureFor, List.forIn_cons, List.forIn_nil, show (NameKind.local == NameKind.free) = false from rfl, show (NameKind.free == NameKind.free) = true from rfl, Bool.false_eq_true, if_false, if_true, cellOf, hc, pure_bind]
    · intro i x k v' h1 h2
      match i, h1, h2 with
      | 0, h1, h2 => cases h2
      | 1, h1, h2 => cases h2
      | 2, h1, h2 => cases h1; cases h2; exact ⟨rfl, rfl⟩
  refine JE_comp [("self", c)] [none, none, some (.ref A.N)] he.frame (.inl ⟨_, _, rfl⟩) K (JEr gg_range.glob ‹Nms _ _› rfl rfl ⟨fun _ _ => rfl, .inr ⟨_, _, rfl, fun _ => rfl⟩⟩ ?_) (by intro _ _; rfl)
  walk_at "es"
  refine ⟨0, (k : Int), 1, k, .inl ⟨rfl, rfl, rfl⟩, small_1 (by omega), size_1, ?_⟩
  let J1 : Nat → List Val → List (Option Val) → AH → Prop := fun i ys mm σ' => ∃ (o : Option Val), mm = [none, o, some (.ref A.N)] ∧ ys = (numsFrom s.cnt i).map .int ∧ Has σ' (main A sp { s with cnt := s.cnt + i } ++ R)
  refine ⟨by simp; omega, J1,
    ⟨none, rfl, rfl, by rw [show s.cnt + ((0 : Nat) : Int) = s.cnt by simp]; exact H⟩, ?_, ?_⟩
  · intro L i x ys mm σ' hx hI0
    refine ea_EAA hI0 fun o ez1 ez2 H' => ?_; clear hI0; subst ez1; subst ez2
    obtain ⟨hlt, rfl⟩ := range_at hx
    have hnm : Nms (compEnvC { kind := ScopeKind.function, names := [(".0", NameKind.local), ("bit", NameKind.local), ("self", NameKind.free)], isGenerator := false, isCoroutine := false, more := [] } [("self", c)] L env) [(".0", .local), ("bit", .local), ("self", .cell)] := compEnv_names he rfl rfl
    refine ⟨trivial, [none, some (.int (0 + i * 1)), some (.ref A.N)], JA_name (i := 1) ⟨by rw [hnm.eq]; rfl, rfl⟩ (.inl rfl) (by show 1 < 3; decide), ?_⟩
    refine JT.nil ?_
    walk_at "es"
    refine mtI (mm_Netlist_new_net (H'.get 9 rfl) (H'.get 10 rfl) rfl) mk_Netlist_new_net ?_
    walk_at "es"
    have hne : A.N ≠ A.dN := ne_of (H'.get 9 rfl) (H'.get 10 rfl) (by simp)
    refine (new_net_ok (H'.get 9 rfl) (H'.get 10 rfl) ?_ hne).call
    have H2 := H'.upd 10 (o' := .attrs (netFs (s.cnt + i + 1) A.il A.ol A.cl)) rfl
    refine ⟨some (.int (0 + i * 1)), rfl, by rw [numsFrom_succ, List.map_append]; rfl, ?_⟩
    rw [show s.cnt + ((i + 1 : Nat) : Int) = s.cnt + (i : Int) + 1 by omega]
    exact H2
  · intro ys mm σ' hI0
    refine ea_EAA hI0 fun o ez3 ez4 H' => ?_; clear hI0; subst ez3; subst ez4
    rw [List.length_map, List.length_range] at H' ⊢
    refine ⟨trivial, fun a h1 h2 => ?_⟩
    exact h _ a (H'.new2 h1)
theorem add_input_ok {A : WA} {s : WS} {sp : Int} {R : List Ent} {k : Nat} {name : Str} (H : Has σ (main A sp s ++ R)) (hk : k ≤ 10) (hz : s.ins.length ≤ 10)
    (h : ∀ σ' a b, Has σ' (main A sp { s with cnt := s.cnt + k, ins := s.ins ++ [.tup [.str name, .ref b]] } ++ (b, .list ((numsFrom s.cnt k).map .int)) :: (a, .list ((numsFrom s.cnt k).map .int)) :: R) → Q (.ref a) σ') :
    JK (CC w E os) (n + 3) true env m σ (.ref 372) [.ref A.N, .str name, .int k] Q X := by
  refine JK_def (ds := []) (dv := []) ["self", "name", "width"] (by walk_at "fn") (binds3 fun s a b c => BindsTo.of_eq rfl) (fun h => rfl) rfl (by walk_at "nm") fun env he hn => ?_
  change JSs _ _ _ _ [some (.ref A.N), some (.str name), some (.int k), none, none] _ _ _ _
  walk_at "es"
  refine mtI (mm_Netlist_new_nets (H.get 9 rfl) (H.get 10 rfl) rfl) mk_Netlist_new_nets ?_
  walk_at "es"
  refine (new_nets_ok H hk fun σ1 a H1 => ?_).call
  walk_at "es"
  refine atI (.inl (H1.get 9 rfl)) (H1.get 10 rfl) rfl cls_Netlist na_Netlist_inputs rfl ?_
  refine mtI (meth_list (H1.get 8 rfl) PySem.F.slot_list_append PySem.F.type_list_append) (.inr (.inr ⟨_, rfl⟩)) ?_
  walk_at "es"
  refine C_list (H1.get 18 rfl) (by rw [List.length_map, numsFrom_len]; unfold sizeLine; omega) fun b hb => ?_
  have H2 := H1.new2 (o := .list ((numsFrom s.cnt k).map .int)) hb
  walk_at "es"
  refine ⟨(by show 2 ≤ sizeLine; decide), ?_⟩
  walk_at "es"
  refine C_append (H2.get 8 rfl) (by unfold sizeLine; dsimp only; omega) ⟨rfl, ?_⟩
  have H3 := H2.upd 8 (o' := .list (s.ins ++ [.tup [.str name, .ref b]])) rfl
  walk_at "es"
  exact h _ a b H3
theorem wdrive_ok {A : WA} {s : WS} {sp : Int} {R : List Ent} {cur : Option (Addr × List Int)} {k b : Nat} {net : Int} (H : Has σ (main A sp s ++ (dE cur ++ R))) (hf : s.df [.i k, .i b] = cur.map fun p => .ref p.1) (hz : s.dz ≤ 1000) (hc : ∀ p, cur = some p → p.2.length ≤ 1000)
    (h : ∀ σ' p' dz', dz' ≤ s.dz + 1 → p'.2 = (cur.elim [] (·.2)) ++ [net] → Has σ' (main A sp { s with df := fun x => if x = [.i k, .i b] then some (.ref p'.1) else s.df x, dz := dz' } ++ (dE (some p') ++ R)) → Q .none σ') :
    JK (CC w E os) (n + 2) true env m σ (.ref 171) [.ref A.x.W, .int k, .int b, .int net] Q X := by
  refine JK_def (ds := []) (dv := []) ["self", "key", "bit", "net"] (by walk_at "fn") (binds4 fun s a b c d => BindsTo.of_eq rfl) (fun h => rfl) rfl (by walk_at "nm") fun env he hn => ?_
  change JSs _ _ _ _ [some (.ref A.x.W), some (.int k), some (.int b), some (.int net), none] _ _ _ _
  walk_at "es"
  refine ⟨(by show 2 ≤ sizeLine; decide), ?_⟩
  walk_at "es"
  refine atI (.inl (H.get 5 rfl)) (H.get 6 rfl) rfl cls_Wires na_Wires_drivers rfl ?_
  refine O_notint (ks := [.i k, .i b]) (H.get 3 rfl) (bI ?_)
  rw [hf]
  cases cur with
  | none =>
    first | (walk_at "if") | rw [if_pos (by rfl)]
    walk_at "es"
    refine ⟨by decide, fun l hl => ?_⟩
    have H1 := H.new2 (o := .list []) hl
    walk_at "es"
    refine atI (.inl (H1.get 5 rfl)) (H1.get 6 rfl) rfl cls_Wires na_Wires_drivers rfl ?_
    walk_at "es"
    refine ⟨_, .tdict [.i k, .i b] (H1.get 3 rfl) (by unfold sizeLine; omega), ?_⟩
    have H2 := H1.upd 3 (o' := .tdict (fun x => if x = [Atom.i k, .i b] then some (.ref l) else s.df x) (s.dz + 1)) rfl
    walk_at "es"
    refine atI (.inl (H2.get 5 rfl)) (H2.get 6 rfl) rfl cls_Wires na_Wires_drivers rfl ?_
    walk_at "es"
    refine T_tdict (ks := [.i k, .i b]) (fun _ _ => rfl) (H2.get 3 rfl) (if_pos rfl) ?_
    refine mtI (meth_list (H2.get 18 rfl) PySem.F.slot_list_append PySem.F.type_list_append) (.inr (.inr ⟨_, rfl⟩)) ?_
    walk_at "es"
    refine C_append (H2.get 18 rfl) (by decide) ⟨rfl, ?_⟩
    have H3 := H2.upd 18 (o' := .list [.int net]) rfl
    walk_at "es"
    exact h _ (l, [net]) (s.dz + 1) (Nat.le_refl _) rfl H3
  | some p =>
    first | (walk_at "if") | rw [if_neg (by simp)]
    walk_at "es"
    refine atI (.inl (H.get 5 rfl)) (H.get 6 rfl) rfl cls_Wires na_Wires_drivers rfl ?_
    walk_at "es"
    refine T_tdict (ks := [.i k, .i b]) (fun _ _ => rfl) (H.get 3 rfl) hf ?_
    refine mtI (meth_list (H.get 18 rfl) PySem.F.slot_list_append PySem.F.type_list_append) (.inr (.inr ⟨_, rfl⟩)) ?_
    walk_at "es"
    refine C_append (H.get 18 rfl) (by rw [List.length_map]; have := hc p rfl; unfold sizeLine; omega) ⟨rfl, ?_⟩
    have H3 := H.upd 18 (o' := .list (p.2.map .int ++ [.int net])) rfl
    have e2 : dE (some (p.1, p.2 ++ [net])) = [(p.1, .list (p.2.map .int ++ [.int net]))] := by simp [dE]
    walk_at "es"
    have e : (fun x => if x = [Atom.i k, .i b] then some (Val.ref p.1) else s.df x) = s.df := by
      funext x
      by_cases hx : x = [Atom.i k, .i b]
      · rw [if_pos hx, hx, hf]; rfl
      · first | (walk_at "if") | rw [if_neg hx]
    refine h _ (p.1, p.2 ++ [net]) s.dz (Nat.le_succ _) rfl ?_
    dsimp only
    rw [e, e2]
    exact H3
end
section
variable {w : World} {E : Frag} {os : OsState × Nat} {n : Nat} {q : Bool} {env : Env} {m : List (Option Val)} {σ : AH} {X : Addr → AH → Prop} {Q : Val → AH → Prop}
theorem link2 {A : WA} {s : WS} {R : List Ent} {sp many : Int} (H : Has σ (main A sp s ++ R)) (hsp : 0 ≤ sp) (hm : 0 < many) (hz : A.xs.length ≤ 10000)
    (h : ∀ r σ', 0 ≤ r → r < many → 0 ≤ sp + 1 → Has σ' (main A (sp + 1) s ++ R) → Q (.int r) σ') : JK (CC w E os) (n + 1) true env m σ (.ref 430) [.ref A.ch, .int many] Q X :=
  link_ok (H.get 16 rfl) (H.get 17 rfl) (H.ne (by decide : (17 : Nat) ≠ 16) rfl rfl) hsp hm hz fun r h0 h1 => h r _ h0 h1 (by omega) (H.upd 16 (o' := .list [.ref A.c0, .int (sp + 1)]) rfl)
noncomputable abbrev ws0 (cnt : Int) (ins pts sgs : List Val) (bf : Atom → Option Val) (bz : Nat) : WS := ⟨cnt, ins, pts, sgs, fun _ => none, 0, fun _ => none, 0, fun _ => none, 0, fun _ => none, 0, fun _ => none, 0, bf, bz⟩
noncomputable abbrev l4 : AObj := .list [.int 2, .int 3, .int 4, .int 5]
noncomputable abbrev l2 : AObj := .list [.int 6, .int 7]
theorem nums_mem {c : Int} {k : Nat} {v : Int} (h : v ∈ numsFrom c k) : c ≤ v ∧ v < c + k := by
  refine ea_EA (List.mem_map.mp h) fun j hj ez1 => ?_; subst ez1
  have := List.mem_range.mp hj
  omega
theorem nums_nodup (c : Int) (k : Nat) : (numsFrom c k).Nodup := by
  unfold numsFrom
  exact List.Pairwise.map _ (fun a b h e => h (by omega)) List.nodup_range
theorem row_nums {p : Sg} {c : Int} (h : p.nL = numsFrom c p.width) : netRow p = numsFrom c p.width := by
  unfold netRow
  rw [h]
  refine List.ext_getElem (by simp [numsFrom]) fun j h1 h2 => ?_
  rw [List.getElem_map, List.getElem_range, List.getD_eq_getElem?_getD, List.getElem?_eq_getElem (by simpa [numsFrom] using h1)]
  rfl
noncomputable abbrev frW (A : WA) (n1 sa : Addr) (o6 o7 o8 o9 o10 o11 o12 o13 : Option Val) : List (Option Val) := [some (.ref A.ch), some (.ref A.x.D), some (.ref A.N), some (.ref A.x.W), some (.ref n1), some (.ref sa), o6, o7, o8, o9, o10, o11, o12, o13, none, none, none, none, none, none]
noncomputable abbrev PW (A : WA) (n1 b1 b2 : Addr) (p0 : Sg) (i B : Nat) (kd : Str) (wd : Nat) (ma : Addr) (j : Nat) (fr : List (Option Val)) : List (Option Val) → AH → Prop := fun m' σ' => ∃ (sp : Int) (s : WS) (ss : List Sg) (R : List Ent) (p : Sg), m' = fr ∧ LapI A n1 b1 b2 p0 (i + 2) B σ' sp s ss R ∧ ss[i + 1]? = some p ∧ p.kind = kd ∧ p.width = wd ∧ p.a = ma ∧ ∀ b, j ≤ b → p.drv b = none
noncomputable abbrev ILap (A : WA) (n1 b1 b2 : Addr) (p0 : Sg) (sa : Addr) : Nat → List (Option Val) → AH → Prop := fun i m σ' => ∃ (o6 o7 o8 o9 o10 o11 o12 o13 : Option Val) (sp : Int) (s : WS) (ss : List Sg) (R : List Ent), m = (frW A n1 sa o6 o7 o8 o9 o10 o11 o12 o13) ∧ LapI A n1 b1 b2 p0 (i + 1) (20 * (i + 1)) σ' sp s ss R
noncomputable abbrev ISpot (A : WA) (n1 b1 b2 : Addr) (p0 : Sg) (sa : Addr) (i : Nat) (kd : Str) (wd : Nat) (ma : Addr) : Nat → List (Option Val) → AH → Prop := fun j m σ' => ∃ (o10 o11 o12 o13 : Option Val) (sp : Int) (s : WS) (ss : List Sg) (R : List Ent) (p : Sg), m = (frW A n1 sa (some (.int i)) (some (.str kd)) (some (.int wd)) (some (.ref ma)) o10 o11 o12 o13) ∧ LapI A n1 b1 b2 p0 (i + 2) (20 * (i + 1) + 3 + 4 * j) σ' sp s ss R ∧ ss[i + 1]? = some p ∧ p.kind = kd ∧ p.width = wd ∧ p.a = ma ∧ ∀ b, j ≤ b → p.drv b = none
noncomputable abbrev ITurn (A : WA) (n1 sa : Addr) (i : Nat) (kd : Str) (wd : Nat) (ma : Addr) (j : Nat) (ra rl : Int) (s12 : WS) (R12 : List Ent) : Nat → List (Option Val) → AH → Prop := fun t m σ' => ∃ (o13 : Option Val) (sp : Int) (cur : Option (Addr × List Int)) (f : List Atom → Option Val) (z : Nat), m = (frW A n1 sa (some (.int i)) (some (.str kd)) (some (.int wd)) (some (.ref ma)) (some (.int j)) (some (.bool (ra == 1))) (some (.int rl)) o13) ∧ 0 ≤ sp ∧ Has σ' (main A sp { s12 with df := f, dz := z } ++ (dE cur ++ R12)) ∧ DrvW s12 (i + 1) j t cur f z
noncomputable abbrev IEnd (A : WA) (n1 b1 b2 : Addr) (laps : Nat) (fr : List (Option Val)) : List (Option Val) → AH → Prop := fun m' σ' => ∃ (q0 : Sg) (sp : Int) (s : WS) (ss : List Sg) (R : List Ent) (B : Nat), m' = fr ∧ LapI A n1 b1 b2 q0 (laps + 1) B σ' sp s ss R ∧ q0.width = 2 ∧ q0.drv 0 = none
noncomputable abbrev PInt (A : WA) (s : WS) (R : List Ent) (k : Int) : Val → AH → Prop := fun v σ' => ∃ (r sp' : Int), v = .int r ∧ 0 ≤ r ∧ r < k ∧ 0 ≤ sp' ∧ Has σ' (main A sp' s ++ R)
noncomputable abbrev IComp (A : WA) (s6 : WS) (R6 : List Ent) : Nat → List Val → List (Option Val) → AH → Prop := fun j ys mm σ' => ∃ (o : Option Val) (sp' : Int) (bs : List Int), mm = [none, o, none, some (.ref A.ch)] ∧ ys = bs.map .int ∧ bs.length = j ∧ (∀ v ∈ bs, v = 0 ∨ v = 1) ∧ 0 ≤ sp' ∧ Has σ' (main A sp' s6 ++ R6)
theorem world_ok {ch c0 : Addr} {xs : List Int} (H0 : Has σ [(ch, .list [.ref c0, .int 0]), (c0, .list (xs.map .int))]) (hz : xs.length ≤ 10000)
    (h : ∀ σ' A n1 b1 b2 p0 k B sp s ss R, LapI A n1 b1 b2 p0 k B σ' sp s ss R → k ≤ 6 → p0.width = 2 → p0.drv 0 = none → Q (.tup [.ref A.x.D, .ref A.N, .ref A.x.W]) σ') :
    JK (CC w E os) (n + 6) true env m σ (.ref 440) [.ref ch] Q X := by
  refine JK_def (ds := []) (dv := []) ["chain"] (by walk_at "fn") (binds1 fun s a => BindsTo.of_eq rfl) (fun h => rfl) rfl (by walk_at "nm") fun env he hn => ?_
  change JSs _ _ _ _ [some (.ref ch), none, none, none, none, none, none, none, none, none, none, none, none, none, none, none, none, none, none, none] _ _ _ _
  obtain ⟨cc, hcc⟩ := he.cells "chain" (by simp)
  walk_at "es"
  refine (design_new H0 fun σ1 D dD sl as gs us ps rs ss ts pl bp H1 => ?_).call
  walk_at "es"
  refine (netlist_new H1 fun σ2 N dN il ol cl H2 => ?_).call
  walk_at "es"
  refine (wires_new H2 fun σ3 W dW nd dd id pd ud H3 => ?_).call
  obtain ⟨A, hA⟩ : ∃ A : WA, A = ⟨⟨D, dD, sl, as, gs, us, ps, rs, ss, ts, pl, bp, W, dW, nd, dd, id, pd, ud⟩, N, dN, il, ol, cl, ch, c0, xs⟩ := ⟨_, rfl⟩
  have M3 : Has σ3 (main A 0 (ws0 2 [] [] [] (fun _ => none) 0) ++ []) := by rw [hA]; exact H3
  have hxs : A.xs.length ≤ 10000 := by rw [hA]; exact hz
  obtain ⟨rfl, rfl, rfl, rfl⟩ : ch = A.ch ∧ D = A.x.D ∧ N = A.N ∧ W = A.x.W := by rw [hA]; exact ⟨rfl, rfl, rfl, rfl⟩
  clear hA H1 H2 H3 H0
  walk_at "es"
  refine mtI (mm_Netlist_add_input (M3.get 9 rfl) (M3.get 10 rfl) rfl) mk_Netlist_add_input ?_
  walk_at "es"
  refine (add_input_ok (k := 4) M3 (by decide) (by decide) fun σ4 n1 b1 M4 => ?_).call
  replace M4 : Has σ4 (main A 0 (ws0 6 [.tup [.str "s", .ref b1]] [] [] (fun _ => none) 0) ++ (b1, l4) :: (n1, l4) :: []) := M4
  walk_at "es"
  refine mtI (mm_Design_add_signal (M4.get 14 rfl) (M4.get 15 rfl) rfl) mk_Design_add_signal ?_
  walk_at "es"
  refine ⟨_, rfl, ?_⟩
  walk_at "es"
  refine (add_signal_ok (width := 2) M4 (Nat.zero_le _) (Nat.zero_le _) fun σ5 sa sd bf M5 => ?_).call
  replace M5 : Has σ5 (main A 0 (ws0 6 [.tup [.str "s", .ref b1]] [] [.ref sa] bf 1) ++ (sa, .inst 272 sd) :: (sd, .attrs (sigFs 0 "m.i" "wire" 2)) :: (b1, l4) :: (n1, l4) :: []) := M5
  walk_at "es"
  refine atI (.inl (M5.get 14 rfl)) (M5.get 15 rfl) rfl cls_Design na_Design_ports rfl ?_
  refine mtI (meth_list (M5.get 12 rfl) PySem.F.slot_list_append PySem.F.type_list_append) (.inr (.inr ⟨_, rfl⟩)) ?_
  walk_at "es"
  refine atI (.inl (M5.get 18 rfl)) (M5.get 19 rfl) rfl cls_Signal na_Signal_key rfl ?_
  walk_at "es"
  refine ⟨(by show 3 ≤ sizeLine; decide), ?_⟩
  walk_at "es"
  refine C_append (M5.get 12 rfl) (Nat.zero_le _) ⟨rfl, ?_⟩
  have M6 : Has _ (main A 0 (ws0 6 [.tup [.str "s", .ref b1]] [.tup [.str "input", .str "i", .int 0]] [.ref sa] bf 1) ++ (sa, .inst 272 sd) :: (sd, .attrs (sigFs 0 "m.i" "wire" 2)) :: (b1, l4) :: (n1, l4) :: []) := M5.upd 12 (o' := .list [.tup [.str "input", .str "i", .int 0]]) rfl
  walk_at "es"
  refine mtI (mm_Netlist_add_input (M6.get 9 rfl) (M6.get 10 rfl) rfl) mk_Netlist_add_input ?_
  walk_at "es"
  refine (add_input_ok (k := 2) M6 (by decide) (by show 1 ≤ 10; decide) fun σ7 n2 b2 M7 => ?_).call
  replace M7 : Has σ7 (main A 0 (ws0 8 [.tup [.str "s", .ref b1], .tup [.str "i", .ref b2]] [.tup [.str "input", .str "i", .int 0]] [.ref sa] bf 1) ++ (b2, l2) :: (n2, l2) :: (sa, .inst 272 sd) :: (sd, .attrs (sigFs 0 "m.i" "wire" 2)) :: (b1, l4) :: (n1, l4) :: []) := M7
  walk_at "es"
  refine atI (.inl (M7.get 5 rfl)) (M7.get 6 rfl) rfl cls_Wires na_Wires_nets rfl ?_
  walk_at "es"
  refine atI (.inl (M7.get 20 rfl)) (M7.get 21 rfl) rfl cls_Signal na_Signal_key rfl ?_
  refine ⟨_, .dict (.i 0) (M7.get 4 rfl) (Nat.zero_le _), ?_⟩
  have M8 := M7.upd 4 (o' := .dict (fun x => if x = .i 0 then some (.ref n2) else none) 1) rfl
  walk_at "es"
  refine ⟨(by show 2 ≤ sizeLine; decide), fun ia hia => ?_⟩
  have M9 := M8.new (o := .list [.int 0, .int 0]) hia
  walk_at "es"
  refine atI (.inl (M9.get 6 rfl)) (M9.get 7 rfl) rfl cls_Wires na_Wires_initial rfl ?_
  walk_at "es"
  refine atI (.inl (M9.get 21 rfl)) (M9.get 22 rfl) rfl cls_Signal na_Signal_key rfl ?_
  refine ⟨_, .dict (.i 0) (M9.get 3 rfl) (Nat.zero_le _), ?_⟩
  have M10 := M9.upd 3 (o' := .dict (fun x => if x = .i 0 then some (.ref ia) else none) 1) rfl
  have L0 := (fun (σ' : AH) (M : Has σ' ((ia, .list [.int 0, .int 0]) :: (main A 0 ⟨8, [.tup [.str "s", .ref b1], .tup [.str "i", .ref b2]], [.tup [.str "input", .str "i", .int 0]], [.ref sa], (fun x => if x = .i 0 then some (.ref n2) else none), 1, (fun _ => none), 0, (fun x => if x = .i 0 then some (.ref ia) else none), 1, (fun _ => none), 0, (fun _ => none), 0, bf, 1⟩ ++
      ((b2, l2) :: (n2, l2) :: (sa, .inst 272 sd) :: (sd, .attrs (sigFs 0 "m.i" "wire" 2)) :: (b1, l4) :: (n1, l4) :: [])))) =>
    (show LapI A n1 b1 b2 (sg0 sa sd n2 ia) 1 20 σ' 0 _ [sg0 sa sd n2 ia] ((ia, .list [.int 0, .int 0]) :: (b2, l2) :: (n2, l2) :: (sa, .inst 272 sd) :: (sd, .attrs (sigFs 0 "m.i" "wire" 2)) :: (b1, l4) :: (n1, l4) :: []) from
      ⟨Int.le_refl _, M.perm List.perm_middle.symm, WOk.first rfl rfl rfl rfl rfl rfl rfl ⟨by simp, by simp, by simp, by simp⟩ (by dsimp only; omega), rfl, rfl, rfl, by simp, by simp, by simp, rfl⟩)) _ M10
  clear M10 M9 M8 M7 M6 M5 M4 M3
  change JSs _ _ _ _ (frW A n1 sa none none none none none none none none) _ _ _ _
  obtain ⟨p0, hp0⟩ : ∃ p, p = sg0 sa sd n2 ia := ⟨_, rfl⟩
  rw [← hp0] at L0
  refine JSs_for he.frame (.inl ⟨_, _, rfl⟩) (JEr gg_range.glob ‹Nms _ _› rfl rfl ⟨fun _ _ => rfl, .inr ⟨_, _, rfl, fun _ => rfl⟩⟩ ?_) (by intro _ _; rfl)
  walk_at "es"
  refine (link2 L0.H L0.sp0 (by decide) hxs fun r6 σ11 h0 h6 hs6 M11 => ?_).call
  walk_at "es"
  obtain ⟨laps, rfl⟩ := Int.eq_ofNat_of_zero_le h0
  refine ⟨0, (laps : Int), 1, laps, .inl ⟨rfl, rfl, rfl⟩, small_1 (by omega), size_1, ?_⟩
  refine ⟨ILap A n1 b1 b2 p0 sa,
    ⟨_, _, _, _, _, _, _, _, _, _, _, _, rfl, { L0 with sp0 := hs6, H := M11 }⟩, ?_, ?_⟩
  · intro i v m σ1 hv hI0
    refine ea_EEEEEEEEEEEEA hI0 fun o6 o7 o8 o9 o10 o11 o12 o13 sp s ss R ez2 L => ?_; clear hI0; subst ez2
    obtain ⟨hlt, rfl⟩ := range_at hv
    rw [show (0 : Int) + (i : Int) * 1 = (i : Int) by omega]
    refine ⟨trivial, _, JA_name (he.var (i := 6) rfl rfl) (.inl rfl) (by show 6 < 20; decide), ?_⟩
    change JSs _ _ _ _ (frW A n1 sa (some (.int i)) o7 o8 o9 o10 o11 o12 o13) _ _ _ _
    walk_at "es"
    refine ⟨(by show 9 ≤ sizeLine; decide), fun ka hka => ?_⟩
    have M1 := L.H.new2 (o := .list (kinds9.map Val.str)) hka
    walk_at "es"
    refine (link2 M1 L.sp0 (by decide) hxs fun r9 σ2 h0 h9 hs1 M2 => ?_).call
    refine ea_EA (pick_kind h0 h9) fun kd hkd hkg => ?_
    refine T_list (v := .str kd) (fun _ _ => rfl) (M2.get 18 rfl) h0 (by omega) hkg ?_
    replace M2 : Has σ2 (main A (sp + 1) s ++ R) := M2.sub (List.Sublist.append_left (List.sublist_cons_self _ _) _)
    walk_at "es"
    refine (link2 M2 hs1 (by decide) hxs fun r2 σ3 h0' h2' hs2 M3 => ?_).call
    refine O_add ?_
    refine ea_EAA (pick_wide h0' h2') fun wd hwd w1 w2 => ?_
    rw [hwd]
    walk_at "es"
    refine mtI (mm_Design_add_signal (M3.get 14 rfl) (M3.get 15 rfl) rfl) mk_Design_add_signal ?_
    walk_at "es"
    refine C_str (lap_log (by omega)) ?_
    refine O_sadd (lap_str (by omega)) ?_
    walk_at "es"
    refine O_sub ?_
    walk_at "es"
    refine ⟨_, rfl, ?_⟩
    walk_at "es"
    have hlen : s.sgs.length = i + 1 := by rw [L.W.sgs, List.length_map, L.len]
    refine (add_signal_ok M3 (by omega) (by have := L.W.bd; omega) fun σ4 ma md bf' M4 => ?_).call
    rw [hlen] at M4
    walk_at "es"
    refine mtI (mm_Netlist_new_nets (M4.get 9 rfl) (M4.get 10 rfl) rfl) mk_Netlist_new_nets ?_
    walk_at "es"
    refine (new_nets_ok M4 (by omega) fun σ5 na M5 => ?_).call
    walk_at "es"
    refine atI (.inl (M5.get 5 rfl)) (M5.get 6 rfl) rfl cls_Wires na_Wires_nets rfl ?_
    walk_at "es"
    refine atI (.inl (M5.get 19 rfl)) (M5.get 20 rfl) rfl cls_Signal na_Signal_key rfl ?_
    refine ⟨_, .dict (.i ((i + 1 : Nat) : Int)) (M5.get 4 rfl) (by have := L.W.bd; unfold sizeLine; dsimp only; omega), ?_⟩
    have M6 := M5.upd 4 (o' := .dict (fun x => if x = .i ((i + 1 : Nat) : Int) then some (.ref na) else s.nf x) (s.nz + 1)) rfl
    walk_at "es"
    have K : CompOk env { kind := ScopeKind.function, names := [(".0", NameKind.local), ("spot", NameKind.local), ("_law_link", NameKind.globalImplicit), ("chain", NameKind.free)], isGenerator := false, isCoroutine := false, more := [] } [("chain", cc)]
        (frW A n1 sa (some (.int i)) (some (.str kd)) (some (.int wd)) (some (.ref ma)) o10 o11 o12 o13) [none, none, none, some (.ref A.ch)] := by
      refine comp_ok _ 0 he rfl rfl (by decide) (by decide) (by decide) (by decide) ?_ hcc rfl (by decide) rfl ?_
      · simp only [closureFor, List.forIn_cons, List.forIn_nil, show (NameKind.local == NameKind.free) = false from rfl, show (NameKind.globalImplicit == NameKind.free) = false from rfl, show (NameKind.free == NameKind.free) = true from rfl, Bool.false_eq_true, if_false, if_true, cellOf, hcc, pure_bind]
      · intro i x k v' h1 h2
        match i, h1, h2 with
        | 0, h1, h2 => cases h2
        | 1, h1, h2 => cases h2
        | 2, h1, h2 => cases h2
        | 3, h1, h2 => cases h1; cases h2; exact ⟨rfl, rfl⟩
    refine JE_comp [("chain", cc)] [none, none, none, some (.ref A.ch)] he.frame (.inl ⟨_, _, rfl⟩) K (JEr gg_range.glob ‹Nms _ _› rfl rfl ⟨fun _ _ => rfl, .inr ⟨_, _, rfl, fun _ => rfl⟩⟩ ?_) (by intro _ _; rfl)
    walk_at "es"
    refine ⟨0, (wd : Int), 1, wd, .inl ⟨rfl, rfl, rfl⟩, small_1 (by omega), size_1, ?_⟩
    obtain ⟨s6, hs6'⟩ : ∃ s6 : WS, s6 = ⟨s.cnt + wd, s.ins, s.pts, s.sgs ++ [.ref ma], (fun x => if x = .i ((i + 1 : Nat) : Int) then some (.ref na) else s.nf x), s.nz + 1, s.df, s.dz, s.jf, s.jz, s.pf, s.pz, s.uf, s.uz, bf', s.bz + 1⟩ := ⟨_, rfl⟩
    obtain ⟨R6, hR6⟩ : ∃ R6 : List Ent, R6 = (na, .list ((numsFrom s.cnt wd).map .int)) :: (ma, .inst 272 md) :: (md, .attrs (sigFs ((i + 1 : Nat) : Int) ("m.x" ++ ((toString (i : Int) : String) : Str)) kd wd)) :: R := ⟨_, rfl⟩
    have M7 := (fun (σ' : AH) (M : Has σ' (main A (sp + 1 + 1) ⟨s.cnt + wd, s.ins, s.pts, s.sgs ++ [.ref ma], (fun x => if x = .i ((i + 1 : Nat) : Int) then some (.ref na) else s.nf x), s.nz + 1, s.df, s.dz, s.jf, s.jz, s.pf, s.pz, s.uf, s.uz, bf', s.bz + 1⟩ ++ ((na, .list ((numsFrom s.cnt wd).map .int)) :: (ma, .inst 272 md) :: (md, .attrs (sigFs ((i + 1 : Nat) : Int) ("m.x" ++ ((toString (i : Int) : String) : Str)) kd wd)) :: R))) => (show Has σ' (main A (sp + 1 + 1) s6 ++ R6) by rw [hs6', hR6]; exact M)) _ M6
    refine ⟨by simp; omega, IComp A s6 R6,
      ⟨none, _, [], rfl, rfl, rfl, (fun v hv => by cases hv), hs2, M7⟩, ?_, ?_⟩
    · intro L' j x ys mm σ' hx hI0
      refine ea_EEEAAAAA hI0 fun o sp' bs ez3 ez4 hbl hb hsp' M' => ?_; clear hI0; subst ez3; subst ez4
      have hnm : Nms (compEnvC { kind := ScopeKind.function, names := [(".0", NameKind.local), ("spot", NameKind.local), ("_law_link", NameKind.globalImplicit), ("chain", NameKind.free)], isGenerator := false, isCoroutine := false, more := [] } [("chain", cc)] L' env) [(".0", .local), ("spot", .local), ("_law_link", .globalImplicit), ("chain", .cell)] := compEnv_names he rfl rfl
      refine ⟨trivial, [none, some x, none, some (.ref A.ch)], JA_name (i := 1) ⟨by rw [hnm.eq]; rfl, rfl⟩ (.inl rfl) (by show 1 < 4; decide), ?_⟩
      refine JT.nil ?_
      walk_at "es"
      refine (link2 M' hsp' (by decide) hxs fun r σ'' q0 q2 hsp'' M'' => ?_).call
      refine ⟨some x, _, bs ++ [r], rfl, by rw [List.map_append]; rfl, by rw [List.length_append, hbl]; rfl, fun v hv => ?_, hsp'', M''⟩
      rcases List.mem_append.mp hv with hv | hv
      · exact hb v hv
      · rw [List.mem_singleton.mp hv]; exact bit_of q0 q2
    intro ys mm σ6 hI0
    refine ea_EEEAAAAA hI0 fun o sp6 bs ez5 ez6 hbl hb hsp6 M8 => ?_; clear hI0; subst ez5; subst ez6
    rw [List.length_map, List.length_range] at hbl
    refine ⟨trivial, fun ib hib _ => ?_⟩
    have M9 := M8.new2 (o := .list (bs.map .int)) hib
    rw [hs6', hR6] at M9
    walk_at "es"
    refine atI (.inl (M9.get 5 rfl)) (M9.get 6 rfl) rfl cls_Wires na_Wires_initial rfl ?_
    walk_at "es"
    refine atI (.inl (M9.get 20 rfl)) (M9.get 21 rfl) rfl cls_Signal na_Signal_key rfl ?_
    refine ⟨_, .dict (.i ((i + 1 : Nat) : Int)) (M9.get 2 rfl) (by have := L.W.bd; unfold sizeLine; dsimp only; omega), ?_⟩
    have M10 := M9.upd 2 (o' := .dict (fun x => if x = .i ((i + 1 : Nat) : Int) then some (.ref ib) else s.jf x) (s.jz + 1)) rfl
    have hnr : netRow ⟨ma, md, "m.x" ++ ((toString (i : Int) : String) : Str), kd, wd, na, numsFrom s.cnt wd, ib, bs, false, fun _ => none, fun _ => none⟩ = numsFrom s.cnt wd := row_nums rfl
    have Lb := (fun (σ' : AH) (M : Has σ' (main A sp6 ⟨s.cnt + wd, s.ins, s.pts, s.sgs ++ [.ref ma], (fun x => if x = .i ((i + 1 : Nat) : Int) then some (.ref na) else s.nf x), s.nz + 1, s.df, s.dz, (fun x => if x = .i ((i + 1 : Nat) : Int) then some (.ref ib) else s.jf x), s.jz + 1, s.pf, s.pz, s.uf, s.uz, bf', s.bz + 1⟩ ++
        ((ib, .list (bs.map .int)) :: (na, .list ((numsFrom s.cnt wd).map .int)) :: (ma, .inst 272 md) :: (md, .attrs (sigFs ((i + 1 : Nat) : Int) ("m.x" ++ ((toString (i : Int) : String) : Str)) kd wd)) :: R))) =>
      (show ∃ s ss R p, LapI A n1 b1 b2 p0 (i + 2) (20 * (i + 1) + 2) σ' sp6 s ss R ∧ ss[i + 1]? = some p ∧ p.kind = kd ∧ p.width = wd ∧ p.a = ma ∧ ∀ b, p.drv b = none from
        ⟨_, ss ++ [⟨ma, md, "m.x" ++ ((toString (i : Int) : String) : Str), kd, wd, na, numsFrom s.cnt wd, ib, bs, false, fun _ => none, fun _ => none⟩], _, _, ⟨hsp6, M, L.W.snoc rfl (by rw [L.len]; omega) (by rw [L.len]) (by rw [L.len]) rfl rfl rfl (fun e h => by simp [h]) (by rw [L.len]; simp) ⟨hkd, w1, w2, numsFrom_len _ _, hbl, hb, (fun b v e => by cases e), (fun b v e => by cases e)⟩ rfl (fun _ => rfl) (fun _ => rfl) (by dsimp only; omega)
          (by rw [hnr]; exact fun v hv => nums_mem hv) (by rw [hnr]; exact nums_nodup _ _) (by have := L.W.bd; dsimp only; omega), by rw [List.length_append, L.len]; rfl, L.ins, L.pts, by simp [L.r1], by simp [L.r2], by simp [L.r3],
          by rw [List.getElem?_append_left (by rw [L.len]; omega)]; exact L.z⟩, by rw [← L.len, List.getElem?_append_right (Nat.le_refl _), Nat.sub_self]; rfl, rfl, rfl, rfl, fun _ => rfl⟩)) _ M10
    refine ea_EEEEAAAAA Lb fun sb ssb Rb pb Lc hpb hkb hwb hab hdb => ?_; clear Lb
    clear M10 M9 M8 M7 M6 M5 M4 M3 M2 M1 hs6' hR6
    change JSs _ _ _ _ (frW A n1 sa (some (.int i)) (some (.str kd)) (some (.int wd)) (some (.ref ma)) o10 o11 o12 o13) _ _ _ _
    refine JSs_ifJ (PW A n1 b1 b2 p0 i (20 * (i + 1) + 3) kd wd ma 0 (frW A n1 sa (some (.int i)) (some (.str kd)) (some (.int wd)) (some (.ref ma)) o10 o11 o12 o13)) ?_ ?_
    · walk_at "es"
      refine (link2 Lc.H Lc.sp0 (by decide) hxs fun r8 σ7 g0 g8 hs7 M11 => ?_).call
      have Ld := Lc.to hs7 M11
      walk_at "es"
      refine O_eq (bI ?_)
      by_cases h7 : r8 = 7
      · first | (walk_at "if") | rw [if_pos (by simpa using h7)]
        walk_at "es"
        refine atI (.inl (M11.get 5 rfl)) (M11.get 6 rfl) rfl cls_Wires na_Wires_uneven rfl ?_
        walk_at "es"
        refine ea_EEA (Ld.sg hpb hab hkb hwb) fun md' path' hma hmd => ?_
        refine atI (.inl hma) hmd rfl cls_Signal na_Signal_key rfl ?_
        refine ⟨_, .dict (.i ((i + 1 : Nat) : Int)) (M11.get 0 rfl) (by have := Ld.W.bd; unfold sizeLine; omega), ?_⟩
        walk_at "es"
        exact ⟨rfl, _, _, _, _, { pb with uneven := true }, rfl, Ld.mark hpb (Nat.succ_ne_zero i), List.getElem?_set_self (List.getElem?_eq_some_iff.mp hpb).1, hkb, hwb, hab, fun b _ => hdb b⟩
      · first | (walk_at "if") | rw [if_neg (by simpa using h7)]
        walk_at "es"
        exact ⟨rfl, _, _, _, _, pb, rfl, Ld.le (by omega), hpb, hkb, hwb, hab, fun b _ => hdb b⟩
    intro m' σ8 hI0
    refine ea_EEEEEAAAAAA hI0 fun sp8 s8 ss8 R8 p8 ez7 L8 hp8 hk8 hw8 ha8 hd8 => ?_; clear hI0; subst ez7
    clear Lc
    refine JSs_for he.frame (.inl ⟨_, _, rfl⟩) (JEr gg_range.glob ‹Nms _ _› rfl rfl ⟨fun _ _ => rfl, .inr ⟨_, _, rfl, fun _ => rfl⟩⟩ ?_) (by intro _ _; rfl)
    walk_at "es"
    refine ⟨0, (wd : Int), 1, wd, .inl ⟨rfl, rfl, rfl⟩, small_1 (by omega), size_1, ?_⟩
    refine ⟨ISpot A n1 b1 b2 p0 sa i kd wd ma,
      ⟨_, _, _, _, _, _, _, _, _, rfl, L8, hp8, hk8, hw8, ha8, hd8⟩, ?_, ?_⟩
    · intro j v m σ9 hv hI0
      refine ea_EEEEEEEEEAAAAAA hI0 fun o10' o11' o12' o13' sp9 s9 ss9 R9 p9 ez8 L9 hp9 hk9 hw9 ha9 hd9 => ?_; clear hI0; subst ez8
      obtain ⟨hj, rfl⟩ := range_at hv
      rw [show (0 : Int) + (j : Int) * 1 = (j : Int) by omega]
      refine ⟨trivial, _, JA_name (he.var (i := 10) rfl rfl) (.inl rfl) (by show 10 < 20; decide), ?_⟩
      change JSs _ _ _ _ (frW A n1 sa (some (.int i)) (some (.str kd)) (some (.int wd)) (some (.ref ma)) (some (.int j)) o11' o12' o13') _ _ _ _
      refine JSs_ifJ (PW A n1 b1 b2 p0 i (20 * (i + 1) + 3 + 4 * j + 1) kd wd ma j (frW A n1 sa (some (.int i)) (some (.str kd)) (some (.int wd)) (some (.ref ma)) (some (.int j)) o11' o12' o13')) ?_ ?_
      · walk_at "es"
        refine (link2 L9.H L9.sp0 (by decide) hxs fun r4 σ10 g0 g4 hs10 M12 => ?_).call
        have L10 := L9.to hs10 M12
        walk_at "es"
        refine O_eq (bI ?_)
        by_cases h3 : r4 = 3
        · first | (walk_at "if") | rw [if_pos (by simpa using h3)]
          walk_at "es"
          refine (link2 L10.H L10.sp0 (by decide) hxs fun rv σ11 v0 v2 hs11 M13 => ?_).call
          have L11 := L10.to hs11 M13
          walk_at "es"
          refine atI (.inl (M13.get 5 rfl)) (M13.get 6 rfl) rfl cls_Wires na_Wires_pulls rfl ?_
          walk_at "es"
          refine ea_EEA (L11.sg hp9 ha9 hk9 hw9) fun md' path' hma hmd => ?_
          refine atI (.inl hma) hmd rfl cls_Signal na_Signal_key rfl ?_
          walk_at "es"
          refine ⟨(by show 2 ≤ sizeLine; decide), ?_⟩
          refine ⟨_, .tdict [.i ((i + 1 : Nat) : Int), .i j] (M13.get 1 rfl) (by have := L11.W.bd; unfold sizeLine; omega), ?_⟩
          walk_at "es"
          exact ⟨rfl, _, _, _, _, { p9 with pull := _ }, rfl, L11.pullAt hp9 (Nat.succ_ne_zero i) (bit_of v0 v2), List.getElem?_set_self (List.getElem?_eq_some_iff.mp hp9).1, hk9, hw9, ha9, hd9⟩
        · first | (walk_at "if") | rw [if_neg (by simpa using h3)]
          walk_at "es"
          exact ⟨rfl, _, _, _, _, p9, rfl, L10.le (by omega), hp9, hk9, hw9, ha9, hd9⟩
      intro m' σ12 hI0
      refine ea_EEEEEAAAAAA hI0 fun sp12 s12 ss12 R12 p12 ez9 L12 hp12 hk12 hw12 ha12 hd12 => ?_; clear hI0; subst ez9
      clear L9
      walk_at "es"
      refine (link2 L12.H L12.sp0 (by decide) hxs fun ra σ13 _ _ hs13 M14 => ?_).call
      have L13 := L12.to hs13 M14
      walk_at "es"
      refine O_eq ?_
      walk_at "es"
      refine ⟨by show 2 ≤ sizeLine; decide, fun t1 ht1 => ?_⟩
      have M15 := L13.H.new2 (o := .list [.int 0, .int 1]) ht1
      walk_at "es"
      refine O_ladd (M15.get 18 rfl) (M15.mem (List.mem_append_right _ (.tail _ L13.r1))) (by show 2 + 4 ≤ sizeLine; decide) fun t2 ht2 => ?_
      have M16 := M15.new2 (o := .list (six.map .int)) ht2
      walk_at "es"
      refine (link2 M16 L13.sp0 (by decide) hxs fun rl σ14 l0 l6 hs14 M17 => ?_).call
      refine T_list (v := .int rl) (fun _ _ => rfl) (M17.get 18 rfl) l0 (by omega) (pick_net l0 l6) ?_
      have L14 := L13.to hs14 (M17.sub (List.Sublist.append_left ((List.sublist_cons_self _ _).trans (List.sublist_cons_self _ _)) _))
      clear M16 M15
      change JSs _ _ _ _ (frW A n1 sa (some (.int i)) (some (.str kd)) (some (.int wd)) (some (.ref ma)) (some (.int j)) (some (.bool (ra == 1))) (some (.int rl)) o13') _ _ _ _
      refine JSs_for he.frame (.inl ⟨_, _, rfl⟩) (JEr gg_range.glob ‹Nms _ _› rfl rfl ⟨fun _ _ => rfl, .inr ⟨_, _, rfl, fun _ => rfl⟩⟩ ?_) (by intro _ _; rfl)
      refine JEs_cons (JE.mono (P := PInt A s12 R12 4) ?_ ?_) (by intro _; rfl)
      · walk_at "es"
        refine ⟨(by show 2 ≤ sizeLine; decide), ?_⟩
        refine O_in_strs (ys := ["wand", "wor"]) (bI ?_)
        by_cases hw : (["wand", "wor"] : List Str).any (· == kd) = true
        · first | (walk_at "if"; walk_at "if") | rw [if_pos hw, if_pos rfl]
          walk_at "es"
          refine (link2 L14.H L14.sp0 (by decide) hxs fun r σ15 q0 q4 hs15 M18 => ?_).call
          exact ⟨r, _, rfl, q0, q4, hs15, M18⟩
        · first | (walk_at "if") | rw [if_neg hw]
          walk_at "es"
          refine ⟨_, rfl, ?_⟩
          by_cases ha : ra = 1
          · first | (walk_at "if"; walk_at "if") | rw [if_pos (by simpa using ha), if_pos rfl]
            walk_at "es"
            refine (link2 L14.H L14.sp0 (by decide) hxs fun r σ15 q0 q4 hs15 M18 => ?_).call
            exact ⟨r, _, rfl, q0, q4, hs15, M18⟩
          · first | (walk_at "if") | rw [if_neg (by simpa using ha)]
            refine JBs_or_nil ?_
            first | (walk_at "if") | rw [if_neg (by decide)]
            walk_at "es"
            refine (link2 L14.H L14.sp0 (by decide) hxs fun r σ15 q0 q4 hs15 M18 => ?_).call
            exact ⟨r, _, rfl, q0, by omega, hs15, M18⟩
      intro _ σ15 hI0
      refine ea_EEAAAA hI0 fun r sp15 ez10 r0 r4 hs15 M18 => ?_; clear hI0; subst ez10
      walk_at "es"
      obtain ⟨tn, rfl⟩ := Int.eq_ofNat_of_zero_le r0
      refine ⟨0, (tn : Int), 1, tn, .inl ⟨rfl, rfl, rfl⟩, small_1 (by omega), size_1, ?_⟩
      refine ⟨ITurn A n1 sa i kd wd ma j ra rl s12 R12,
        ⟨_, _, none, s12.df, s12.dz, rfl, hs15, M18, DrvW.start (by rw [L12.W.df _ _ _ hp12, hd12 j (Nat.le_refl _)]; rfl)⟩, ?_, ?_⟩
      · intro t v m σ16 hv hI0
        refine ea_EEEEEAAA hI0 fun o13 sp cur f z ez11 hsp M D => ?_; clear hI0; subst ez11
        obtain ⟨ht, rfl⟩ := range_at hv
        refine ⟨trivial, _, JA_name (he.var (i := 13) rfl rfl) (.inl rfl) (by show 13 < 20; decide), ?_⟩
        change JSs _ _ _ _ (frW A n1 sa (some (.int i)) (some (.str kd)) (some (.int wd)) (some (.ref ma)) (some (.int j)) (some (.bool (ra == 1))) (some (.int rl)) (some (.int (0 + t * 1)))) _ _ _ _
        walk_at "es"
        refine mtI (mm_Wires_drive (M.get 5 rfl) (M.get 6 rfl) rfl) mk_Wires_drive ?_
        walk_at "es"
        refine ea_AAA (L12.W.ent _ _ hp12) fun e1 e2 _ _ => ?_
        rw [ha12] at e1
        rw [hk12, hw12] at e2
        refine atI (.inl (M.mem (List.mem_append_right _ (List.mem_append_right _ e1)))) (M.mem (List.mem_append_right _ (List.mem_append_right _ e2))) rfl cls_Signal na_Signal_key rfl ?_
        refine JEs_cons ?_ (by intro _; rfl)
        walk_at "e"
        refine JEs_cons (JE.mono (P := PInt A { s12 with df := f, dz := z } (dE cur ++ R12) 6) ?_ ?_) (by intro _; rfl)
        · walk_at "es"
          refine ⟨_, rfl, ?_⟩
          by_cases ha : ra = 1
          · first | (walk_at "if") | rw [if_pos (by simpa using ha)]
            walk_at "es"
            exact ⟨rl, _, rfl, l0, l6, hsp, M⟩
          · first | (walk_at "if") | rw [if_neg (by simpa using ha)]
            walk_at "es"
            refine ⟨by show 2 ≤ sizeLine; decide, fun t1 ht1 => ?_⟩
            have M15 := M.new2 (o := .list [.int 0, .int 1]) ht1
            walk_at "es"
            refine O_ladd (M15.get 18 rfl) (M15.mem (List.mem_append_right _ (.tail _ (List.mem_append_right _ L12.r1)))) (by show 2 + 4 ≤ sizeLine; decide) fun t2 ht2 => ?_
            have M16 := M15.new2 (o := .list (six.map .int)) ht2
            walk_at "es"
            refine (link2 M16 hsp (by decide) hxs fun rl σ14 l0 l6 hs14 M17 => ?_).call
            refine T_list (v := .int rl) (fun _ _ => rfl) (M17.get 18 rfl) l0 (by omega) (pick_net l0 l6) ?_
            exact ⟨rl, _, rfl, l0, l6, hs14, M17.sub (List.Sublist.append_left ((List.sublist_cons_self _ _).trans (List.sublist_cons_self _ _)) _)⟩
        intro _ σ17 hI0
        refine ea_EEAAAA hI0 fun rn sp17 ez12 n0 n6 hs17 M19 => ?_; clear hI0; subst ez12
        walk_at "es"
        refine (wdrive_ok (cur := cur) (k := i + 1) (b := j) M19 ((D.f _).trans (if_pos rfl)) (by have := D.z; have := L12.W.bd; dsimp only; omega) (fun p hp => by have := D.len; rw [hp] at this; dsimp only [Option.elim] at this; omega) fun σ18 p' dz' hz' hp' M20 => ?_).call
        refine ⟨rfl, ?_⟩
        walk_at "es"
        exact ⟨_, sp17, some p', _, dz', rfl, hs17, M20, D.step ⟨n0, n6⟩ hp' hz'⟩
      · intro m σ16 hI0
        refine ea_EEEEEAAA hI0 fun o13 sp cur f z ez13 hsp M D => ?_; clear hI0; subst ez13
        rw [List.length_map, List.length_range] at D
        refine ⟨trivial, ?_⟩
        walk_at "es"
        refine ⟨_, _, _, _, sp, _, _, _, { p12 with drv := _ }, rfl, (L12.drvAt hp12 (by rw [List.getElem?_set_ne (Nat.succ_ne_zero i)]; exact L12.z) D (by omega) hsp M).le (by omega), List.getElem?_set_self (List.getElem?_eq_some_iff.mp hp12).1, hk12, hw12, ha12, fun b hb => ?_⟩
        exact (if_neg (by omega)).trans (hd12 b (by omega))
    · intro m σ9 hI0
      refine ea_EEEEEEEEEAAAAAA hI0 fun o10' o11' o12' o13' sp9 s9 ss9 R9 p9 ez14 L9 hp9 hk9 hw9 ha9 hd9 => ?_; clear hI0; subst ez14
      rw [List.length_map, List.length_range] at L9
      refine ⟨trivial, ?_⟩
      walk_at "es"
      exact ⟨_, _, _, _, _, _, _, _, _, _, _, _, rfl, L9.le (by omega)⟩
  · intro m σ1 hI0
    refine ea_EEEEEEEEEEEEA hI0 fun o6 o7 o8 o9 o10 o11 o12 o13 sp s ss R ez15 L => ?_; clear hI0; subst ez15
    rw [List.length_map, List.length_range] at L
    refine ⟨trivial, ?_⟩
    refine JSs_ifJ (IEnd A n1 b1 b2 laps (frW A n1 sa o6 o7 o8 o9 o10 o11 o12 o13)) ?_ ?_
    · walk_at "es"
      refine (link2 L.H L.sp0 (by decide) hxs fun r8 σ2 g0 g8 hs2 M2 => ?_).call
      have L2 := L.to hs2 M2
      walk_at "es"
      refine O_eq (bI ?_)
      by_cases h7 : r8 = 7
      · first | (walk_at "if") | rw [if_pos (by simpa using h7)]
        walk_at "es"
        refine mtI (mm_Wires_drive (M2.get 5 rfl) (M2.get 6 rfl) rfl) mk_Wires_drive ?_
        walk_at "es"
        refine ea_EEA (L2.sg (ma := sa) (kd := "wire") (wd := 2) L2.z (by rw [hp0]) (by rw [hp0]) (by rw [hp0])) fun md' path' hma hmd => ?_
        refine atI (.inl hma) hmd rfl cls_Signal na_Signal_key rfl ?_
        walk_at "es"
        have hd0 : s.df [.i ((0 : Nat) : Int), .i ((1 : Nat) : Int)] = none := by rw [L2.W.df _ _ _ L2.z, hp0]; rfl
        refine (wdrive_ok (cur := none) (k := 0) (b := 1) (R := R) M2 hd0 (by have := L2.W.bd; omega) (fun p hp => by cases hp) fun σ3 p' dz' hz' hp' M3 => ?_).call
        refine ⟨rfl, ?_⟩
        walk_at "es"
        exact ⟨rfl, { p0 with drv := fun b => if b = 1 then some p' else p0.drv b }, _, _, _, _, _, rfl, L2.drvAt L2.z (List.getElem?_set_self (List.getElem?_eq_some_iff.mp L2.z).1) ((DrvW.start hd0).step ⟨by decide, by decide⟩ hp' hz') (by decide) hs2 M3, by rw [hp0], by show (if (0 : Nat) = 1 then some p' else p0.drv 0) = none; rw [if_neg (by decide), hp0]⟩
      · first | (walk_at "if") | rw [if_neg (by simpa using h7)]
        walk_at "es"
        exact ⟨rfl, p0, _, _, _, _, _, rfl, L2, by rw [hp0], by rw [hp0]⟩
    intro m' σ8 hI0
    refine ea_EEEEEEAAA hI0 fun q0 sp8 s8 ss8 R8 B8 ez16 L8 hw hd => ?_; clear hI0; subst ez16
    walk_at "es"
    exact ⟨(by show 3 ≤ sizeLine; decide), h _ A n1 b1 b2 q0 _ _ _ _ _ _ L8 (by omega) hw hd⟩
end
section
variable {w : World} {E : Frag} {os : OsState × Nat} {n : Nat} {q : Bool} {env : Env} {m : List (Option Val)} {σ : AH} {X : Addr → AH → Prop} {Q : Val → AH → Prop}
theorem chain_ok {l : Addr} {vs : List Int} {cs : Array Value} {kk : Nat} (hK : (CC w E os).K.lookup l = some (listOf cs kk)) (hv : ∀ h, VRels h (vs.map .int) cs.toList) (hz : vs.length ≤ 1000)
    (h : ∀ σ' ch c0 (xs : List Int), Has σ' [(ch, .list [.ref c0, .int 0]), (c0, .list (xs.map .int))] → xs.length ≤ 90 → Q (.ref ch) σ') :
    JK (CC w E os) (n + 1) true env m σ (.ref 423) [.ref l] Q X := by
  refine JK_def (ds := []) (dv := []) ["script"] (by walk_at "fn") (binds1 fun s a => BindsTo.of_eq rfl) (fun h => rfl) rfl (by walk_at "nm") fun env he hn => ?_
  change JSs _ _ _ _ [some (.ref l), none, none, none, none] _ _ _ _
  walk_at "es"
  refine ⟨by decide, fun c0 hc0 => ?_⟩
  have M0 := (Has.nil (σ := σ)).new (o := .list []) hc0
  refine JSs_for he.frame (.inl ⟨_, _, rfl⟩) (JI_list (JE_sliceK ?_)) (by intro _ _; rfl)
  walk_at "es"
  refine ⟨l, vs.map .int, cs, kk, rfl, hK, hv, by rw [List.length_map]; unfold sizeLine; omega, ?_⟩
  walk_at "es"
  refine ⟨40, rfl, fun x hx => ?_⟩
  have M1 := M0.new (o := .list ((vs.map Val.int).take 40)) hx
  let J1 : Nat → List (Option Val) → AH → Prop := fun i m σ' => ∃ (o2 o3 : Option Val) (xs : List Int), m = [some (.ref l), some (.ref c0), o2, o3, none] ∧ xs.length ≤ 90 ∧ Has σ' [(x, .list ((vs.map Val.int).take 40)), (c0, .list (xs.map .int))]
  refine ⟨x, _, rfl, AH.set_self _ _ _, J1,
    ⟨_, _, [], rfl, by decide, M1⟩, ?_, ?_⟩
  · intro i v m σ1 hv hI0
    refine ea_EEEAA hI0 fun o2 o3 xs ez1 hlen M => ?_; clear hI0; subst ez1
    refine ⟨M.get 0 rfl, ?_⟩
    obtain ⟨c, rfl⟩ : ∃ c, v = .int c := by
      have h1 := List.mem_of_mem_take (List.mem_of_getElem? hv)
      refine ea_EA (List.mem_map.mp h1) fun c _ e => ?_
      exact ⟨c, e.symm⟩
    refine ⟨_, JA_name (he.var (i := 2) rfl rfl) (.inl rfl) (by show 2 < 5; decide), ?_⟩
    change JSs _ _ _ _ [some (.ref l), some (.ref c0), some (.int c), o3, none] _ _ _ _
    walk_at "s"
    refine JE.mono (P := fun v σ' => ∃ r, v = .int r ∧ σ' = σ1) ?_ ?_
    · walk_at "es"
      refine O_ge (bI ?_)
      by_cases h0 : 0 ≤ c
      · first | (walk_at "if") | rw [if_pos (by simpa using h0)]
        walk_at "es"
        exact O_add ⟨_, rfl, rfl⟩
      · first | (walk_at "if") | rw [if_neg (by simpa using h0)]
        walk_at "es"
        exact O_sub ⟨_, rfl, rfl⟩
    intro _ _ hI0
    refine ea_EA hI0 fun r ez2 ez3 => ?_; clear hI0; subst ez2; subst ez3
    let J2 : Nat → List (Option Val) → AH → Prop := (fun k m σ' => ∃ (r : Int) (xs : List Int), m = [some (.ref l), some (.ref c0), some (.int c), some (.int r), none] ∧ xs.length ≤ 90 ∧ k = 90 - xs.length ∧ Has σ' [(x, .list ((vs.map Val.int).take 40)), (c0, .list (xs.map .int))])
    refine JSs_while he.frame J2 (90 - xs.length) ⟨r, xs, rfl, hlen, rfl, M⟩ ?_
    intro k m σ2 hI0
    refine ea_EEAAA hI0 fun r xs ez4 hlen ez5 M => ?_; clear hI0; subst ez4; subst ez5
    walk_at "es"
    refine C_len (M.get 1 rfl) (by rw [List.length_map]; unfold sizeLine; omega) ?_
    rw [List.length_map]
    walk_at "es"
    refine O_lt (bI ?_)
    by_cases h9 : xs.length < 90
    · first | (walk_at "if") | rw [if_pos (by simp; omega)]
      walk_at "es"
      refine mtI (meth_list (M.get 1 rfl) PySem.F.slot_list_append PySem.F.type_list_append) (.inr (.inr ⟨_, rfl⟩)) ?_
      walk_at "es"
      refine O_mod (by decide) ?_
      walk_at "es"
      refine C_append (M.get 1 rfl) (by rw [List.length_map]; unfold sizeLine; omega) ⟨rfl, ?_⟩
      have M2 := M.upd 1 (o' := .list (xs.map .int ++ [.int (r.fmod 139)])) rfl
      have e : xs.map Val.int ++ [.int (r.fmod 139)] = (xs ++ [r.fmod 139]).map Val.int := by rw [List.map_append]; rfl
      rw [e] at M2 ⊢
      walk_at "es"
      refine O_fdiv (by decide) (by decide) ?_
      walk_at "es"
      refine O_eq (bI ?_)
      by_cases h0 : r.fdiv 139 = 0
      · first | (walk_at "if") | rw [if_pos (by simpa using h0)]
        refine JSs_brk ?_
        change JSs _ _ _ _ _ _ [] _ _
        walk_at "es"
        exact ⟨_, _, _, rfl, by rw [List.length_append]; show xs.length + 1 ≤ 90; omega, M2⟩
      · first | (walk_at "if") | rw [if_neg (by simpa using h0)]
        walk_at "es"
        exact ⟨90 - (xs ++ [r.fmod 139]).length, by rw [List.length_append]; show 90 - (xs.length + 1) < _; omega, _, _, rfl, by rw [List.length_append]; show xs.length + 1 ≤ 90; omega, rfl, M2⟩
    · first | (walk_at "if") | rw [if_neg (by simp; omega)]
      walk_at "es"
      exact ⟨_, _, _, rfl, hlen, M⟩
  · intro m σ1 hI0
    refine ea_EEEAA hI0 fun o2 o3 xs ez6 hlen M => ?_; clear hI0; subst ez6
    refine ⟨M.get 0 rfl, ?_⟩
    walk_at "es"
    refine ⟨by show 2 ≤ sizeLine; decide, fun ch hch => ?_⟩
    exact h _ ch c0 xs ((M.sub (List.sublist_cons_self _ _)).new hch) hlen
end
section
variable {w : World} {E : Frag} {os : OsState × Nat} {n : Nat} {q : Bool} {env : Env} {m : List (Option Val)} {σ : AH} {X : Addr → AH → Prop} {Q : Val → AH → Prop}
theorem LapI.stat {A : WA} {n1 b1 b2 : Addr} {p0 : Sg} {k B : Nat} {sp : Int} {s : WS} {ss : List Sg} {R : List Ent} (L : LapI A n1 b1 b2 p0 k B σ sp s ss R) :
    ∃ κ, WAt κ A.x ss ∧ Old κ σ ∧ NStat κ A.N A.dN A.il ∧ κ A.dN = none ∧ κ A.cl = none ∧ σ A.dN = some (.attrs (netFs s.cnt A.il A.ol A.cl)) ∧ σ A.cl = some (.list (cellsV [])) ∧ 8 ≤ s.cnt ∧ NetsOk ss s.cnt [] ∧ ∀ p ∈ ss, SgOk p := by
  have nd : ((main A sp s).map (·.1) ++ R.map (·.1)).Nodup := by rw [← List.map_append]; exact L.H.nd
  have dj := (List.nodup_append.mp nd).2.2
  have mem : ∀ {i : Nat} {a : Addr} {o : AObj}, (main A sp s)[i]? = some (a, o) → a ∈ (main A sp s).map (·.1) := fun e => List.mem_map.mpr ⟨_, List.mem_of_getElem? e, rfl⟩
  have kM : ∀ (i : Nat) {a : Addr} {o : AObj}, i ≠ 10 → i ≠ 7 → (main A sp s ++ R)[i]? = some (a, o) → (if a = A.dN ∨ a = A.cl then none else σ a) = some o := fun i {a o} h1 h2 e => by
    rw [if_neg (fun z => z.elim (L.H.ne h1 e (j := 10) rfl) (L.H.ne h2 e (j := 7) rfl))]
    exact L.H.get i e
  have kR : ∀ {a : Addr} {o : AObj}, (a, o) ∈ R → (if a = A.dN ∨ a = A.cl then none else σ a) = some o := fun {a o} e => by
    have hm : a ∈ R.map (·.1) := List.mem_map.mpr ⟨_, e, rfl⟩
    rw [if_neg (fun z => z.elim (fun z => dj A.dN (mem (i := 10) rfl) a hm z.symm) (fun z => dj A.cl (mem (i := 7) rfl) a hm z.symm))]
    exact L.H.mem (List.mem_append_right _ e)
  refine ⟨fun a => if a = A.dN ∨ a = A.cl then none else σ a, ⟨?_, ?_, ?_, ?_, ?_, ?_, ?_, ?_, ?_, ?_, ?_, ?_, ?_⟩, ?_, ⟨?_, ?_⟩, if_pos (.inl rfl), if_pos (.inr rfl), L.H.get 10 rfl, L.H.get 7 rfl, L.W.c8, ⟨fun p hp => ?_, ?_⟩, L.W.ok⟩
  · exact kM 14 (by decide) (by decide) rfl
  · exact kM 15 (by decide) (by decide) rfl
  · rw [← L.W.sgs]; exact kM 13 (by decide) (by decide) rfl
  · rw [← L.pts]; exact kM 12 (by decide) (by decide) rfl
  · exact kM 5 (by decide) (by decide) rfl
  · exact kM 6 (by decide) (by decide) rfl
  · intro i p hp
    refine ea_AAA (L.W.ent i p hp) fun a b c d => ?_
    exact ⟨kR a, kR b, kR c, kR d⟩
  · exact ⟨_, _, kM 4 (by decide) (by decide) rfl, L.W.nf⟩
  · exact ⟨_, _, kM 2 (by decide) (by decide) rfl, L.W.jf⟩
  · exact ⟨_, _, kM 0 (by decide) (by decide) rfl, L.W.uf⟩
  · exact ⟨_, _, kM 1 (by decide) (by decide) rfl, fun i p b h => L.W.pf i p b h⟩
  · exact ⟨_, _, kM 3 (by decide) (by decide) rfl, fun i p b h => L.W.df i p b h⟩
  · intro i p b q h e
    exact kR (L.W.dl i p b q h e)
  · intro a o e
    dsimp only at e
    split at e
    · cases e
    · exact e
  · exact kM 9 (by decide) (by decide) rfl
  · refine ⟨b1, b2, "s", "i", ?_, kR L.r2, kR L.r3⟩
    rw [← L.ins]; exact kM 8 (by decide) (by decide) rfl
  · have := L.W.net (netOf p) (by rw [← netsOf_spots]; exact List.mem_map.mpr ⟨p, hp, rfl⟩)
    exact ⟨this.1, this.2, fun line => base_none this.1⟩
  · rw [netsOf_spots]; exact L.W.nnd
theorem NStat.at' {κ : AH} {N dN il ol cl : Addr} {cnt : Int} {cells : List Cell} (S : NStat κ N dN il) (O : Old κ σ) (h1 : σ dN = some (.attrs (netFs cnt il ol cl))) (h2 : σ cl = some (.list (cellsV cells))) : NetAt σ N dN il ol cl cnt cells :=
  ⟨O _ _ S.N, h1, let ⟨a, b, c, d, e1, e2, e3⟩ := S.il; ⟨a, b, c, d, O _ _ e1, O _ _ e2, O _ _ e3⟩, h2⟩
end
section
variable {w : World} {E : Frag} {os : OsState × Nat} {n : Nat} {q : Bool} {env : Env} {m : List (Option Val)} {σ : AH} {X : Addr → AH → Prop} {Q : Val → AH → Prop}
noncomputable abbrev frL (l : Addr) (x : DAd) (N : Addr) (o4 o5 o6 o7 o8 o9 o10 o11 o12 o13 : Option Val) : List (Option Val) := [some (.ref l), some (.ref x.D), some (.ref N), some (.ref x.W), o4, o5, o6, o7, o8, o9, o10, o11, o12, o13, none, none, none, none, none, none, none, none, none, none]
noncomputable abbrev IRef (l : Addr) (x : DAd) (N d4 : Addr) (σ5 : AH) (p0 : Sg) (ss : List Sg) : Nat → List (Option Val) → AH → Prop := fun i m σ' => ∃ (o6 o7 : Option Val) (rf : Bool), m = (frL l x N (some (.bool rf)) (some (.ref d4)) o6 o7 none none none none none none) ∧ Old σ5 σ' ∧
      (rf = true ↔ ((p0.drv 1).isSome = true ∨ ∃ p ∈ (spotsFrom 1 (ss.drop 1)).take i, nonev p = true ∧ Refused p.s p.b))
noncomputable abbrev ILine (l : Addr) (x : DAd) (N d4 : Addr) (k : Nat) (a a2 : Addr) (σ11 : AH) (ll : Addr) : Nat → List (Option Val) → AH → Prop := fun j m σ3 => (∃ (o6 o7 o12 o13 : Option Val), m = (frL l x N (some (.bool false)) (some (.ref d4)) o6 o7 (some (.int k)) none (some (.ref a)) (some (.ref a2)) o12 o13)) ∧ Old σ11 σ3 ∧ σ3 ll = some (.list [.int 0, .int 3, .int 6, .int 15])
noncomputable abbrev ISee (l : Addr) (x : DAd) (N d4 : Addr) (k : Nat) (a a2 : Addr) (line : Int) (d13 : Addr) (σ14 : AH) : Nat → List (Option Val) → AH → Prop := fun i m σ4 => (∃ (o6 o7 : Option Val), m = (frL l x N (some (.bool false)) (some (.ref d4)) o6 o7 (some (.int k)) none (some (.ref a)) (some (.ref a2)) (some (.int line)) (some (.ref d13)))) ∧ Old σ14 σ4
noncomputable abbrev IBuf (extra : List Cell) (σ0 : AH) : Nat → List Val → List (Option Val) → AH → Prop := fun j ys mm σ' => (∃ o, mm = [none, o]) ∧ ys = (((extra.take j).filter isBuf).map (·.out)).map .int ∧ σ' = σ0
noncomputable abbrev IDue (x : DAd) (ss : List Sg) (σ10 : AH) : Nat → List Val → List (Option Val) → AH → Prop := fun j ys mm σ' => (∃ o1 o2, mm = [none, o1, o2, some (.ref x.W)]) ∧ ys = ((((spotsFrom 1 (ss.drop 1)).take j).filter nonev).map netOf).map .int ∧ σ' = σ10
theorem law_ok {l : Addr} {vs : List Int} {cs : Array Value} {kk : Nat} {s₁ : Shared} {Qv Ev : Value → Shared → Prop} (hK : (CC w E os).K.lookup l = some (listOf cs kk)) (hv : ∀ h, VRels h (vs.map .int) cs.toList) (hz : vs.length ≤ 1000)
    (Wd₁ : Wd (CC w E os).K s₁.heap) (O₁ : Ok (CC w E os) s₁) (hbig : 1 < s₁.heap.objs.size) (hlo : (CC w E os).lo = s₁.heap.objs.size)
    (hQ : ∀ s', Ok (CC w E os) s' → (∀ b o, s₁.heap.get? b = some o → s'.heap.get? b = some o) → Qv (.bool true) s') :
    wpAny (model (CC w E os).prog (CC w E os).w) callerA (call (.ref 464) [.ref l]) Qv Ev s₁ := by
  refine top_call (C := CC w E os) (f := 464) (n := 12) (P := fun v => v = .bool true) (vs := [.ref l]) ["script"] (by walk_at "fn") (binds1 fun s a => BindsTo.of_eq rfl) rfl (by walk_at "nm") Wd₁ O₁ ⟨_, _, rfl, rfl, rfl⟩ hbig hlo (by decide) (by decide) (fun env he hn => ?_) (fun v c s' hp r O k => by subst hp; cases r; exact hQ s' O k)
  change JSs _ _ _ _ [some (.ref l), none, none, none, none, none, none, none, none, none, none, none, none, none, none, none, none, none, none, none, none, none, none, none] _ _ _ _
  obtain ⟨cw, hcw⟩ := he.cells "wires" (by simp)
  refine JSs_tuple ?_ (by intro _; rfl) (by intro _; rfl)
  walk_at "es"
  refine (chain_ok hK hv hz fun σ1 ch c0 xs H1 hx => ?_).call
  walk_at "es"
  refine (world_ok H1 (by omega) fun σ2 A n1 b1 b2 p0 k B sp s ss R L hk6 hw2 hd0 => ?_).call
  refine ⟨_, JA_tuple (.cons (JA_name (he.var (i := 1) rfl rfl) (.inl rfl) (by show 1 < 24; decide)) (by intro _; rfl) (.cons (JA_name (he.var (i := 2) rfl rfl) (.inl rfl) (by show 2 < 24; decide)) (by intro _; rfl) (.cons (JA_name (he.var (i := 3) (k := .cell) rfl rfl) (he.sto (.inr rfl)) (by show 3 < 24; decide)) (by intro _; rfl) .nil))), ?_⟩
  change JSs _ _ _ _ [some (.ref l), some (.ref A.x.D), some (.ref A.N), some (.ref A.x.W), none, none, none, none, none, none, none, none, none, none, none, none, none, none, none, none, none, none, none, none] _ _ _ _
  refine ea_EAAAAAAAAA L.stat fun κ Wk Oκ2 NS kd kc hdN hcl c8 NO ok => ?_
  have hss : ss.length ≤ 100 := by rw [L.len]; omega
  have hz0 : ss[0]? = some p0 := L.z
  generalize s.cnt = cnt at hdN c8 NO
  generalize A.x = x at *
  generalize A.N = N at *
  generalize A.dN = dN at *
  generalize A.il = il at *
  generalize A.ol = ol at *
  generalize A.cl = cl at *
  clear L H1
  walk_at "es"
  refine (joined_law_ok Wk Oκ2 ok hss NS hdN hcl kd kc (NInv.start c8) (by decide) fun σ3 st3 hdN3 hcl3 I3 X3 Oκ3 => ?_).call
  refine ⟨_, rfl, ?_⟩
  first | (walk_at "if") | rw [if_neg (by decide)]
  have NA3 := NS.at' Oκ3 hdN3 hcl3
  have len3 := X3.len
  dsimp only [List.length_nil] at len3
  walk_at "es"
  refine ⟨(by show 2 ≤ sizeLine; decide), ?_⟩
  walk_at "es"
  refine atI (.inl (Oκ3 _ _ Wk.W)) (Oκ3 _ _ Wk.dW) rfl cls_Wires na_Wires_drivers rfl ?_
  refine ea_EEA Wk.dd fun fd zd hfd hffd => ?_
  refine O_int (ks := [.i 0, .i 1]) (Oκ3 _ _ hfd) ?_
  have e01 : (fd [.i 0, .i 1]).isSome = (p0.drv 1).isSome := by
    have e := hffd 0 p0 1 hz0
    have e' : fd [.i 0, .i 1] = (p0.drv 1).map fun p => .ref p.1 := e
    rw [e']; cases p0.drv 1 <;> rfl
  rw [e01]
  walk_at "es"
  refine (values_ok NA3 I3 (by omega) fun σ4 d4 z4 h4 hn4 O4 => ?_).call
  have Oκ4 := Oκ3.trans O4
  refine JSs_for he.frame (.inr ⟨_, _, _, rfl⟩) (JI_list ?_) (by intro _ _; rfl)
  walk_at "es"
  refine (spots_ok Wk Oκ4 ok hss fun σ5 sl hsl hsln O5 => ?_).call
  have Oκ5 := Oκ4.trans O5
  refine ⟨sl, _, rfl, hsl, IRef l x N d4 σ5 p0 ss,
    ⟨_, _, _, rfl, Old.refl, by simp⟩, ?_, ?_⟩
  · intro i v m σ6 hv hI0
    refine ea_EEEAA hI0 fun o6 o7 rf ez1 O6 hrf => ?_; clear hI0; subst ez1
    refine ⟨O6 _ _ hsl, ?_⟩
    rw [List.getElem?_map] at hv
    refine ea_EA (Option.map_eq_some_iff.mp hv) fun p hp ez2 => ?_; subst ez2
    have hlt := (List.getElem?_eq_some_iff.mp hp).1
    refine ea_AA (spots_mem (List.mem_of_getElem? hp)) fun p1 p2 p3 => ?_
    have hs : ss[p.i]? = some p.s := by
      rw [← p2, List.getElem?_drop]; congr 1; omega
    have oks := ok p.s (List.mem_of_getElem? hs)
    have Oκ6 := Oκ5.trans O6
    refine ea_AAA (Wk.sg _ _ hs) fun hsa hsd _ _ => ?_
    have step : ((spotsFrom 1 (ss.drop 1)).take (i + 1)) = (spotsFrom 1 (ss.drop 1)).take i ++ [p] := by rw [List.take_add_one, hp]; rfl
    refine ⟨_, JA_tuple (.cons (JA_name (he.var (i := 6) rfl rfl) (.inl rfl) (by show 6 < 24; decide)) (by intro _; rfl) (.cons (JA_name (he.var (i := 7) rfl rfl) (.inl rfl) (by show 7 < 24; decide)) (by intro _; rfl) .nil)), ?_⟩
    change JSs _ _ _ _ (frL l x N (some (.bool rf)) (some (.ref d4)) (some (.ref p.s.a)) (some (.int p.b)) none none none none none none) _ _ _ _
    refine JSs_ifJ (IRef l x N d4 σ5 p0 ss (i + 1)) ?_ ?_
    · walk_at "es"
      refine atI (.inl (Oκ6 _ _ hsa)) (Oκ6 _ _ hsd) rfl cls_Signal na_Signal_kind rfl ?_
      walk_at "es"
      refine O_sne (bI ?_)
      by_cases hev : p.s.kind = "event"
      · first | (walk_at "if"; walk_at "if") | rw [if_neg (by simpa using hev), if_neg (by decide)]
        walk_at "es"
        refine ⟨rfl, _, _, rf, rfl, O6, hrf.trans ?_⟩
        rw [step]
        constructor
        · rintro (h | ⟨p', h1, h2⟩)
          · exact .inl h
          · exact .inr ⟨p', List.mem_append_left _ h1, h2⟩
        · rintro (h | ⟨p', h1, h2⟩)
          · exact .inl h
          · rcases List.mem_append.mp h1 with h1 | h1
            · exact .inr ⟨p', h1, h2⟩
            · rw [List.mem_singleton.mp h1] at h2
              have := h2.1
              simp [nonev, hev] at this
      · first | (walk_at "if") | rw [if_pos (by simpa using hev)]
        have hnv : nonev p = true := by simp [nonev, hev]
        walk_at "es"
        refine (due_ok Wk Oκ6 hs oks p3 (O6 _ _ (O5 _ _ h4)) (I3.low 0) fun σ7 v7 O7 hv7 => ?_).call
        walk_at "es"
        rcases hv7 with ⟨hr, rfl⟩ | ⟨hr, rfl⟩
        · refine O_isNone_none (bI ?_)
          first | (walk_at "if") | rw [if_pos rfl]
          refine JBs_and_nil ?_
          first | (walk_at "if") | rw [if_pos rfl]
          walk_at "es"
          refine ⟨rfl, _, _, true, rfl, O6.trans O7, ⟨fun _ => .inr ⟨p, by rw [step]; exact List.mem_append_right _ (.head _), hnv, hr⟩, fun _ => rfl⟩⟩
        · refine O_isNone_int (bI ?_)
          first | (walk_at "if"; walk_at "if") | rw [if_neg (by decide), if_neg (by decide)]
          walk_at "es"
          refine ⟨rfl, _, _, rf, rfl, O6.trans O7, hrf.trans ?_⟩
          rw [step]
          constructor
          · rintro (h | ⟨p', h1, h2⟩)
            · exact .inl h
            · exact .inr ⟨p', List.mem_append_left _ h1, h2⟩
          · rintro (h | ⟨p', h1, h2⟩)
            · exact .inl h
            · rcases List.mem_append.mp h1 with h1 | h1
              · exact .inr ⟨p', h1, h2⟩
              · rw [List.mem_singleton.mp h1] at h2
                exact absurd h2.2 hr
    · intro m' σ' hI0
      refine ea_EEEAA hI0 fun o6 o7 rf ez3 O7 hrf => ?_; clear hI0; subst ez3
      walk_at "es"
      exact ⟨_, _, rf, rfl, O7, hrf⟩
  intro m σ6 hI0
  refine ea_EEEAA hI0 fun o6 o7 rf ez4 O6 hrf => ?_; clear hI0; subst ez4
  rw [List.length_map, List.take_length] at hrf
  refine ⟨O6 _ _ hsl, ?_⟩
  have Oκ6 := Oκ5.trans O6
  have hdN6 := O6 _ _ (O5 _ _ (O4 _ _ hdN3))
  have hcl6 := O6 _ _ (O5 _ _ (O4 _ _ hcl3))
  have slen := spots_len (i := 1) (l := ss.drop 1) fun s hs => (ok s (List.mem_of_mem_drop hs)).w2
  rw [List.length_drop] at slen
  walk_at "es"
  refine atI (.inl (Oκ6 _ _ NS.N)) hdN6 rfl cls_Netlist na_Netlist_cells rfl ?_
  walk_at "es"
  refine C_len hcl6 (by rw [cellsV_len]; unfold sizeLine; omega) ?_
  rw [cellsV_len]
  change JSs _ _ _ _ (frL l x N (some (.bool rf)) (some (.ref d4)) o6 o7 (some (.int st3.cells.length)) none none none none none) _ _ _ _
  refine JSs_try he.frame (he.var (i := 9) rfl rfl) (he.var (i := 23) rfl rfl) gg_SynthError.glob ec ?_
  walk_at "es"
  refine (gates_new (Oκ6 _ _ NS.N) hdN6 hcl6 fun σ7 G dG md op H7 O7 hmd hop => ?_).call
  walk_at "es"
  have Ap : Apart κ ⟨G, dG, N, dN, il, ol, cl, md, op⟩ := ⟨kd, kc, Oκ6.none hmd, Oκ6.none hop⟩
  have I7 : GInv ⟨st3.cnt, st3.cells, fun _ => none, 0, fun _ => none, 0⟩ := ⟨I3, (fun ks v e => by cases e), (fun k v e => by cases e), Nat.zero_le _, Nat.zero_le _⟩
  have NO3 : NetsOk ss st3.cnt st3.cells := ⟨fun p hp => let ⟨a, b, c⟩ := NO.r p hp; ⟨a, Int.lt_of_lt_of_le b X3.cnt, fun line => (X3.old line _ b).trans (c line)⟩, NO.nd⟩
  refine (connect_ok (ad := ⟨G, dG, N, dN, il, ol, cl, md, op⟩) (s0 := p0) Wk (Oκ6.trans O7) Ap ok hss hz0 H7 I7 (by omega) NO3 (fun σ8 st8 H8 C8 Oκ8 hdr => ?_) (fun a d σ8 fs e1 e2 Oκ8 rr => ?_)).call
  · refine ⟨rfl, ?_⟩
    walk_at "es"
    have hrff : rf = false := by
      cases rf with
      | false => rfl
      | true =>
        rcases hrf.mp rfl with h | ⟨p, h1, h2, h3⟩
        · rw [hdr 1 (by rw [hw2]; decide)] at h; cases h
        · exact absurd h3 (C8.val p h1 h2).1
    subst hrff
    refine ea_EAA C8.cells fun extra hex hexl hexb => ?_
    refine ⟨_, rfl, ?_⟩
    first | (walk_at "if") | rw [if_neg (by decide)]
    have K0 : CompOk env { kind := ScopeKind.function, names := [(".0", NameKind.local), ("cell", NameKind.local)], isGenerator := false, isCoroutine := false, more := [] } [] (frL l x N (some (.bool false)) (some (.ref d4)) o6 o7 (some (.int st3.cells.length)) none none none none none) [none, none] := by
      refine comp_ok0 _ he rfl rfl (by decide) (by decide) (by decide) (by decide) ?_ ?_
      · simp only [closureFor, List.forIn_cons, List.forIn_nil, show (NameKind.local == NameKind.free) = false from rfl, Bool.false_eq_true, if_false, pure_bind]
      · intro i v' h
        match i, h with
        | 0, h => cases h
        | 1, h => cases h
    refine JSs_comp [] [none, none] (he.var (i := 10) (k := .local) rfl rfl) (.inl rfl) (by show 10 < 24; decide) he.frame (.inl ⟨_, _, rfl⟩) K0 (swaps_true he rfl rfl rfl) (JI_list (JE_slice ?_)) (by intro _ _; rfl)
    walk_at "es"
    refine atI (.inl (Oκ8 _ _ NS.N)) H8.dN rfl cls_Netlist na_Netlist_cells rfl ?_
    have l8 : st8.cells.length ≤ 50000 := by rw [hex, List.length_append]; omega
    refine ⟨cl, cellsV st8.cells, rfl, by rw [cellsV_len]; unfold sizeLine; omega, .inl ⟨_, rfl, rfl, ?_⟩⟩
    walk_at "es"
    refine ⟨st3.cells.length, rfl, H8.cl, fun y hy => ?_⟩
    have dex : (cellsV st8.cells).drop st3.cells.length = cellsV extra := by rw [hex]; simp [cellsV]
    rw [dex]
    refine ⟨y, _, rfl, AH.set_self _ _ _, by rw [cellsV_len]; omega, IBuf extra (σ8.set y (.list (cellsV extra))), ⟨⟨none, rfl⟩, by simp, rfl⟩, ?_, ?_⟩
    · intro L j v ys mm σ' hv hI0
      refine ea_AA hI0 fun pz5 ez6 ez7 => ?_; clear hI0; subst ez6; subst ez7
      obtain ⟨o, rfl⟩ := pz5
      unfold cellsV at hv
      rw [List.getElem?_map] at hv
      refine ea_EA (Option.map_eq_some_iff.mp hv) fun c hc ez8 => ?_; subst ez8
      have hnm : Nms (compEnvC { kind := ScopeKind.function, names := [(".0", NameKind.local), ("cell", NameKind.local)], isGenerator := false, isCoroutine := false, more := [] } [] L env) [(".0", .local), ("cell", .local)] := compEnv_names he rfl rfl
      refine ⟨AH.set_self _ _ _, [none, some (cellV c.kind c.out c.ins)], JA_name (i := 1) ⟨by rw [hnm.eq]; rfl, rfl⟩ (.inl rfl) (by show 1 < 2; decide), ?_⟩
      change JB _ _ _ _ _ _ _ _ _
      walk_at "es"
      refine T_tup (v := .str c.kind) (fun _ _ => rfl) (by decide) (by decide) rfl ?_
      walk_at "es"
      refine O_seq (bI ?_)
      have step : extra.take (j + 1) = extra.take j ++ [c] := by rw [List.take_add_one, hc]; rfl
      by_cases hb : c.kind = "buf"
      · first | (walk_at "if") | rw [if_pos (by simpa using hb)]
        walk_at "es"
        refine T_tup (v := .int c.out) (fun _ _ => rfl) (by decide) (by decide) rfl ?_
        refine ⟨⟨_, rfl⟩, ?_, rfl⟩
        rw [step, List.filter_append]; simp [isBuf, hb]
      · first | (walk_at "if") | rw [if_neg (by simpa using hb)]
        refine ⟨⟨_, rfl⟩, ?_, rfl⟩
        rw [step, List.filter_append]; simp [isBuf, hb]
    intro ys mm σ' hI0
    refine ea_AA hI0 fun pz9 ez10 ez11 => ?_; clear hI0; subst ez10; subst ez11
    obtain ⟨o, rfl⟩ := pz9
    refine ⟨AH.set_self _ _ _, fun a ha _ => ?_⟩
    rw [cellsV_len, List.take_length, hexb]
    have O9 : Old σ8 ((σ8.set y (.list (cellsV extra))).set a (.list ((((spotsFrom 1 (ss.drop 1)).filter nonev).map netOf).map .int))) := (Old.refl.fresh hy).fresh ha
    have hdr9 : ((σ8.set y (.list (cellsV extra))).set a (.list ((((spotsFrom 1 (ss.drop 1)).filter nonev).map netOf).map .int))) a = some (.list ((((spotsFrom 1 (ss.drop 1)).filter nonev).map netOf).map .int)) := AH.set_self _ _ _
    generalize ((σ8.set y (.list (cellsV extra))).set a (.list ((((spotsFrom 1 (ss.drop 1)).filter nonev).map netOf).map .int))) = σ9 at O9 hdr9 ⊢
    have Oκ9 := Oκ8.trans O9
    change JSs _ _ _ _ (frL l x N (some (.bool false)) (some (.ref d4)) o6 o7 (some (.int st3.cells.length)) none (some (.ref a)) none none none) _ _ _ _
    have K1 : CompOk env { kind := ScopeKind.function, names := [(".0", NameKind.local), ("made", NameKind.local), ("spot", NameKind.local), ("wires", NameKind.free)], isGenerator := false, isCoroutine := false, more := [] } [("wires", cw)] (frL l x N (some (.bool false)) (some (.ref d4)) o6 o7 (some (.int st3.cells.length)) none (some (.ref a)) none none none) [none, none, none, some (.ref x.W)] := by
      refine comp_ok _ 3 he rfl rfl (by decide) (by decide) (by decide) (by decide) ?_ hcw rfl (by decide) rfl ?_
      · simp only [closureFor, List.forIn_cons, List.forIn_nil, show (NameKind.local == NameKind.free) = false from rfl, show (NameKind.free == NameKind.free) = true from rfl, Bool.false_eq_true, if_false, if_true, cellOf, hcw, pure_bind]
      · intro i z k v' h1 h2
        match i, h1, h2 with
        | 0, h1, h2 => cases h2
        | 1, h1, h2 => cases h2
        | 2, h1, h2 => cases h2
        | 3, h1, h2 => cases h1; cases h2; exact ⟨rfl, rfl⟩
    refine JSs_comp [("wires", cw)] [none, none, none, some (.ref x.W)] (he.var (i := 11) (k := .local) rfl rfl) (.inl rfl) (by show 11 < 24; decide) he.frame (.inr ⟨_, _, _, rfl⟩) K1 (swaps_true he rfl rfl rfl) (JI_list ?_) (by intro _ _; rfl)
    walk_at "es"
    refine (spots_ok Wk Oκ9 ok hss fun σ10 sl2 hsl2 hsln2 O10 => ?_).call
    have Oκ10 := Oκ9.trans O10
    refine ⟨sl2, _, rfl, hsl2, by rw [List.length_map]; omega, IDue x ss σ10, ⟨⟨none, none, rfl⟩, by simp, rfl⟩, ?_, ?_⟩
    · intro L j v ys mm σ' hv hI0
      refine ea_AA hI0 fun pz12 ez13 ez14 => ?_; clear hI0; subst ez13; subst ez14
      refine ea_EE pz12 fun o1 o2 ez15 => ?_; clear pz12; subst ez15
      rw [List.getElem?_map] at hv
      refine ea_EA (Option.map_eq_some_iff.mp hv) fun p hp ez16 => ?_; subst ez16
      refine ea_AA (spots_mem (List.mem_of_getElem? hp)) fun p1 p2 p3 => ?_
      have hs : ss[p.i]? = some p.s := by
        rw [← p2, List.getElem?_drop]; congr 1; omega
      have oks := ok p.s (List.mem_of_getElem? hs)
      refine ea_AAA (Wk.sg _ _ hs) fun hsa hsd hsn _ => ?_
      have step : ((spotsFrom 1 (ss.drop 1)).take (j + 1)) = (spotsFrom 1 (ss.drop 1)).take j ++ [p] := by rw [List.take_add_one, hp]; rfl
      have hnm : Nms (compEnvC { kind := ScopeKind.function, names := [(".0", NameKind.local), ("made", NameKind.local), ("spot", NameKind.local), ("wires", NameKind.free)], isGenerator := false, isCoroutine := false, more := [] } [("wires", cw)] L env) [(".0", .local), ("made", .local), ("spot", .local), ("wires", .cell)] := compEnv_names he rfl rfl
      refine ⟨hsl2, [none, some (.ref p.s.a), some (.int p.b), some (.ref x.W)], JA_tuple (.cons (JA_name (i := 1) ⟨by rw [hnm.eq]; rfl, rfl⟩ (.inl rfl) (by show 1 < 4; decide)) (by intro _; rfl) (.cons (JA_name (i := 2) ⟨by rw [hnm.eq]; rfl, rfl⟩ (.inl rfl) (by show 2 < 4; decide)) (by intro _; rfl) .nil)), ?_⟩
      change JB _ _ _ _ _ _ _ _ _
      walk_at "es"
      refine atI (.inl (Oκ10 _ _ hsa)) (Oκ10 _ _ hsd) rfl cls_Signal na_Signal_kind rfl ?_
      walk_at "es"
      refine O_sne (bI ?_)
      by_cases hev : p.s.kind = "event"
      · first | (walk_at "if") | rw [if_neg (by simpa using hev)]
        refine ⟨⟨_, _, rfl⟩, ?_, rfl⟩
        rw [step, List.filter_append]; simp [nonev, hev]
      · first | (walk_at "if") | rw [if_pos (by simpa using hev)]
        walk_at "es"
        refine atI (.inl (Oκ10 _ _ Wk.W)) (Oκ10 _ _ Wk.dW) rfl cls_Wires na_Wires_nets rfl ?_
        walk_at "es"
        refine atI (.inl (Oκ10 _ _ hsa)) (Oκ10 _ _ hsd) rfl cls_Signal na_Signal_key rfl ?_
        refine ea_EEA Wk.nd fun fn zn hfn hffn => ?_
        refine T_dict (k := .i p.i) (fun _ _ => rfl) (Oκ10 _ _ hfn) (hffn p.i p.s hs) ?_
        walk_at "es"
        have hjl : p.b < p.s.nL.length := by rw [oks.nl]; exact p3
        have hno : netOf p = p.s.nL[p.b] := by simp [netOf, hjl]
        refine T_list (v := .int p.s.nL[p.b]) (fun _ _ => rfl) (Oκ10 _ _ hsn) (by omega) (by have := oks.w2; omega) (by rw [Int.toNat_natCast, List.getElem?_map, List.getElem?_eq_getElem hjl]; rfl) ?_
        refine ⟨⟨_, _, rfl⟩, ?_, rfl⟩
        rw [step, List.filter_append]; simp [nonev, hev, hno]
    intro ys mm σ' hI0
    refine ea_AA hI0 fun pz17 ez18 ez19 => ?_; clear hI0; subst ez18; subst ez19
    refine ea_EE pz17 fun o1 o2 ez20 => ?_; clear pz17; subst ez20
    refine ⟨hsl2, fun a2 ha2 _ => ?_⟩
    rw [List.length_map, List.take_length]
    have O11 := (Old.refl (σ := σ')).fresh (o := .list ((((spotsFrom 1 (ss.drop 1)).filter nonev).map netOf).map .int)) ha2
    change JSs _ _ _ _ (frL l x N (some (.bool false)) (some (.ref d4)) o6 o7 (some (.int st3.cells.length)) none (some (.ref a)) (some (.ref a2)) none none) _ _ _ _
    walk_at "es"
    refine O_lne (O11 _ _ (O10 _ _ hdr9)) (AH.set_self _ _ _) (bI ?_)
    first | (walk_at "if") | rw [if_neg (by simp)]
    generalize (σ'.set a2 (.list ((((spotsFrom 1 (ss.drop 1)).filter nonev).map netOf).map .int))) = σ11 at O11 ⊢
    have Oκ11 := Oκ10.trans O11
    have hdN11 := O11 _ _ (O10 _ _ (O9 _ _ H8.dN))
    have hcl11 := O11 _ _ (O10 _ _ (O9 _ _ H8.cl))
    refine JSs_for he.frame (.inl ⟨_, _, rfl⟩) (JI_list ?_) (by intro _ _; rfl)
    walk_at "es"
    refine ⟨by decide, fun ll hll => ?_⟩
    refine ⟨ll, _, rfl, AH.set_self _ _ _, ILine l x N d4 st3.cells.length a a2 σ11 ll,
      ⟨⟨_, _, _, _, rfl⟩, Old.refl.fresh hll, AH.set_self _ _ _⟩, ?_, ?_⟩
    · intro j v m σ12 hv hI0
      refine ea_AA hI0 fun pz21 O12 hll12 => ?_; clear hI0
      refine ea_EEEE pz21 fun o6 o7 o12 o13 ez22 => ?_; clear pz21; subst ez22
      refine ⟨hll12, ?_⟩
      obtain ⟨line, rfl⟩ : ∃ ln : Int, v = .int ln := by
        have := List.mem_of_getElem? hv
        simp at this
        rcases this with h | h | h | h <;> exact ⟨_, h⟩
      have Oκ12 := Oκ11.trans O12
      refine ⟨_, JA_name (he.var (i := 12) rfl rfl) (.inl rfl) (by show 12 < 24; decide), ?_⟩
      walk_at "es"
      refine (values_ok (NS.at' Oκ12 (O12 _ _ hdN11) (O12 _ _ hcl11)) C8.inv.net (by omega) fun σ13 d13 z13 h13 hn13 O13 => ?_).call
      have Oκ13 := Oκ12.trans O13
      change JSs _ _ _ _ (frL l x N (some (.bool false)) (some (.ref d4)) o6 o7 (some (.int st3.cells.length)) none (some (.ref a)) (some (.ref a2)) (some (.int line)) (some (.ref d13))) _ _ _ _
      refine JSs_for he.frame (.inr ⟨_, _, _, rfl⟩) (JI_list ?_) (by intro _ _; rfl)
      walk_at "es"
      refine (spots_ok Wk Oκ13 ok hss fun σ14 sl3 hsl3 hsln3 O14 => ?_).call
      have Oκ14 := Oκ13.trans O14
      refine ⟨sl3, _, rfl, hsl3, ISee l x N d4 st3.cells.length a a2 line d13 σ14, ⟨⟨_, _, rfl⟩, Old.refl⟩, ?_, ?_⟩
      · intro i v m σ15 hv hI0
        obtain ⟨⟨o6, o7, rfl⟩, O15⟩ := hI0
        refine ⟨O15 _ _ hsl3, ?_⟩
        rw [List.getElem?_map] at hv
        refine ea_EA (Option.map_eq_some_iff.mp hv) fun p hp ez23 => ?_; subst ez23
        refine ea_AA (spots_mem (List.mem_of_getElem? hp)) fun p1 p2 p3 => ?_
        have hs : ss[p.i]? = some p.s := by
          rw [← p2, List.getElem?_drop]; congr 1; omega
        have oks := ok p.s (List.mem_of_getElem? hs)
        refine ea_AAA (Wk.sg _ _ hs) fun hsa hsd hsn _ => ?_
        have Oκ15 := Oκ14.trans O15
        refine ⟨_, JA_tuple (.cons (JA_name (he.var (i := 6) rfl rfl) (.inl rfl) (by show 6 < 24; decide)) (by intro _; rfl) (.cons (JA_name (he.var (i := 7) rfl rfl) (.inl rfl) (by show 7 < 24; decide)) (by intro _; rfl) .nil)), ?_⟩
        change JSs _ _ _ _ (frL l x N (some (.bool false)) (some (.ref d4)) (some (.ref p.s.a)) (some (.int p.b)) (some (.int st3.cells.length)) none (some (.ref a)) (some (.ref a2)) (some (.int line)) (some (.ref d13))) _ _ _ _
        walk_at "es"
        refine atI (.inl (Oκ15 _ _ hsa)) (Oκ15 _ _ hsd) rfl cls_Signal na_Signal_kind rfl ?_
        walk_at "es"
        refine O_sne (bI ?_)
        by_cases hev : p.s.kind = "event"
        · first | (walk_at "if"; walk_at "if") | rw [if_neg (by simpa using hev), if_neg (by decide)]
          walk_at "es"
          exact ⟨⟨_, _, rfl⟩, O15⟩
        first | (walk_at "if") | rw [if_pos (by simpa using hev)]
        walk_at "es"
        refine atI (.inl (Oκ15 _ _ Wk.W)) (Oκ15 _ _ Wk.dW) rfl cls_Wires na_Wires_nets rfl ?_
        walk_at "es"
        refine atI (.inl (Oκ15 _ _ hsa)) (Oκ15 _ _ hsd) rfl cls_Signal na_Signal_key rfl ?_
        refine ea_EEA Wk.nd fun fn zn hfn hffn => ?_
        refine T_dict (k := .i p.i) (fun _ _ => rfl) (Oκ15 _ _ hfn) (hffn p.i p.s hs) ?_
        walk_at "es"
        have hjl : p.b < p.s.nL.length := by rw [oks.nl]; exact p3
        have hno : netOf p = p.s.nL[p.b] := by simp [netOf, hjl]
        refine T_list (v := .int p.s.nL[p.b]) (fun _ _ => rfl) (Oκ15 _ _ hsn) (by omega) (by have := oks.w2; omega) (by rw [Int.toNat_natCast, List.getElem?_map, List.getElem?_eq_getElem hjl]; rfl) ?_
        have hnv : nonev p = true := by simp [nonev, hev]
        obtain ⟨nr, hval⟩ := C8.val p (List.mem_of_getElem? hp) hnv
        refine T_dict (k := .i p.s.nL[p.b]) (v := .int (due p.s p.b (base line))) (fun _ _ => rfl) (O15 _ _ (O14 _ _ h13)) (by show (evl st8.cells line p.s.nL[p.b]).map Val.int = _; rw [← hno, hval]; rfl) ?_
        walk_at "es"
        refine (due_ok Wk Oκ15 hs oks p3 (O15 _ _ (O14 _ _ h13)) (C8.inv.net.low line) fun σ16 v16 O16 hv16 => ?_).call
        rcases hv16 with ⟨hr, _⟩ | ⟨_, rfl⟩
        · exact absurd hr nr
        rw [due_base oks C8.inv.net]
        refine O_ne (bI ?_)
        first | (walk_at "if"; walk_at "if") | rw [if_neg (by simp), if_neg (by decide)]
        walk_at "es"
        exact ⟨⟨_, _, rfl⟩, O15.trans O16⟩
      · intro m σ15 hI0
        obtain ⟨⟨o6, o7, rfl⟩, O15⟩ := hI0
        refine ⟨O15 _ _ hsl3, ?_⟩
        walk_at "es"
        exact ⟨⟨_, _, _, _, rfl⟩, ((O12.trans O13).trans O14).trans O15, O15 _ _ (O14 _ _ (O13 _ _ hll12))⟩
    · intro m σ12 hI0
      refine ea_AA hI0 fun pz24 O12 hll12 => ?_; clear hI0
      refine ea_EEEE pz24 fun o6 o7 o12 o13 ez25 => ?_; clear pz24; subst ez25
      refine ⟨hll12, ?_⟩
      walk_at "es"
      rfl
  · have hrft : rf = true := hrf.mpr (by
      rcases rr with ⟨b, hb, h⟩ | h
      · have : b = 0 ∨ b = 1 := by omega
        rcases this with rfl | rfl
        · rw [hd0] at h; cases h
        · exact .inl h
      · exact .inr h)
    subst hrft
    refine ⟨d, e1, by show 9 < 24; decide, ?_⟩
    refine JSs_ret (JE_and2 (JEv 4 hn rfl rfl (by decide) rfl ?_))
    refine ⟨true, rfl, ?_⟩
    first | (walk_at "if") | rw [if_pos rfl]
    refine JE_cmp (JE_excattr (JEv 9 hn rfl rfl (by decide) rfl ?_) (by intro _; with_unfolding_all rfl)) (by with_unfolding_all rfl)
    refine ⟨a, 52, d, _, .str "several_drivers", rfl, .inr (.inl e1), e2, rfl, es, eh, na_exc_kind, rfl, ?_⟩
    walk_at "e"
    refine O_seq ?_
    refine ⟨⟨_, rfl⟩, ?_⟩
    show Val.bool _ = Val.bool true
    rw [show ((("several_drivers" : Str) == ("several_drivers" : Str)) = true) by decide]
end
section
open Hd
theorem well_ints {P : Params} {h : Heap} : ∀ {vs : List Int} {cs : List Value}, WellAll P h cs (ofPys (vs.map PyData.int)) → ∀ h' : Heap, VRels h' (vs.map Val.int) cs
  | [], cs, e, h' => by cases e; exact rfl
  | v :: vs, cs, e, h' => by
    cases e with
    | cons e1 e2 => cases e1 with | int i t => exact ⟨_, _, rfl, ⟨t, rfl⟩, well_ints e2 h'⟩
theorem lookup_app {K E : Frag} {l : Addr} (h : K.lookup l = none) : (K ++ E).lookup l = E.lookup l := by
  rw [show (K ++ E).lookup l = ((K ++ E : List (Addr × Obj)).lookup l) from rfl, List.lookup_append]
  rw [show (List.lookup l (K : List (Addr × Obj))) = none from h]; rfl
theorem mem_lk {a : Addr} {o : Obj} : ∀ K : List (Addr × Obj), K.lookup a = some o → (a, o) ∈ K := by
  intro K
  induction K with
  | nil => intro h; cases h
  | cons p r ih =>
    intro h
    obtain ⟨b, x⟩ := p
    rw [List.lookup_cons] at h
    cases e : a == b with
    | true => rw [e] at h; cases h; rw [eq_of_beq e]; exact List.mem_cons_self
    | false => rw [e] at h; exact List.mem_cons_of_mem _ (ih h)
theorem noF0 (P : Params) : ∀ a o, (K0 P).lookup a = some o → o.cls ≠ .type "frame" := by
  intro a o h
  have hm := mem_lk _ h
  have : ((K0 P).all fun p => !(p.2.cls == .type "frame")) = true := by kernel_rfl
  have := List.all_eq_true.mp this _ hm
  simpa using this
theorem law_call {w : World} {s₁ : Shared} {mb : Str → Option Value} {l : Addr} {vs : List Int} {Q Ev : Value → Shared → Prop} (KX : (K0 w.params).In s₁.heap) (b : s₁.heap.Ns builtinsNs mb) (hb : ∀ x : Str, x ≠ "__name__" → mb x = bootBuiltins x) (hl : s₁.heap.NoLimit)
    (hg : s₁.gens = #[]) (hw : Well w.params s₁.heap (.ref l) (ofPy (.list (vs.map PyData.int)))) (hz : vs.length ≤ 63)
    (hQ : ∀ s', s'.gens = #[] → s'.os = s₁.os → (∀ b o, s₁.heap.get? b = some o → s'.heap.get? b = some o) → Q (.bool true) s') : wpAny (model pw w) callerA (call (.ref 464) [.ref l]) Q Ev s₁ := by
  obtain ⟨cs, ho, hr⟩ : ∃ cs : List Value, s₁.heap.get? l = some (listOf cs.toArray 0) ∧ WellAll w.params s₁.heap cs (ofPys (vs.map PyData.int)) := by
    cases hw with
    | list g r => exact ⟨_, g, r⟩
  have In : (K0 w.params ++ [(l, listOf cs.toArray 0)] : Frag).In s₁.heap := fun a o h => by
    cases hk : (K0 w.params).lookup a with
    | some o' =>
      have : (K0 w.params ++ [(l, listOf cs.toArray 0)] : Frag).lookup a = some o' := by
        rw [show (K0 w.params ++ [(l, listOf cs.toArray 0)] : Frag).lookup a = List.lookup a (K0 w.params ++ [(l, listOf cs.toArray 0)] : List (Addr × Obj)) from rfl, List.lookup_append, show List.lookup a (K0 w.params : List (Addr × Obj)) = some o' from hk]; rfl
      rw [this] at h; cases h
      exact KX _ _ hk
    | none =>
      rw [lookup_app hk] at h
      simp only [List.lookup_cons, List.lookup_nil] at h
      split at h
      · rename_i e
        cases h
        rw [eq_of_beq e]; exact ho
      · cases h
  have hKl : ∀ {K : Frag}, K.In s₁.heap → K.lookup l = none ∨ ∃ o, K.lookup l = some o ∧ s₁.heap.get? l = some o := fun {K} X => by
    cases h : K.lookup l with
    | none => exact .inl rfl
    | some o => exact .inr ⟨o, rfl, X _ _ h⟩
  have hlk : (K0 w.params ++ [(l, listOf cs.toArray 0)] : Frag).lookup l = some (listOf cs.toArray 0) := by
    rcases hKl KX with h | ⟨o, h, g⟩
    · rw [lookup_app h]; simp
    · rw [ho] at g; cases g
      rw [show (K0 w.params ++ [(l, listOf cs.toArray 0)] : Frag).lookup l = List.lookup l (K0 w.params ++ [(l, listOf cs.toArray 0)] : List (Addr × Obj)) from rfl, List.lookup_append, show List.lookup l (K0 w.params : List (Addr × Obj)) = some (listOf cs.toArray 0) from h]; rfl
  refine law_ok (w := w) (E := [(l, listOf cs.toArray 0)]) (os := (s₁.os, s₁.heap.objs.size)) (kk := 0) hlk (fun h => by simpa using well_ints hr h) (by omega) ⟨In, fun a o h => ?_, hl, mb, b, hb⟩ ⟨hg, rfl⟩ ?_ rfl fun s' O k => hQ s' O.1 O.2 k
  · cases hk : (K0 w.params).lookup a with
    | some o' =>
      have e := KX _ _ hk
      rw [In _ _ h] at e; cases e
      exact noF0 _ _ _ hk
    | none =>
      rw [show (CC w [(l, listOf cs.toArray 0)] (s₁.os, s₁.heap.objs.size)).K.lookup a = (K0 w.params ++ [(l, listOf cs.toArray 0)] : Frag).lookup a from rfl, lookup_app hk] at h
      simp only [List.lookup_cons, List.lookup_nil] at h
      split at h
      · cases h; show Value.type "list" ≠ Value.type "frame"; simp
      · cases h
  · have h2 : ∃ o, (K0 w.params).lookup 464 = some o := ⟨_, rfl⟩
    obtain ⟨o, h2⟩ := h2
    exact Nat.lt_trans (by decide : 1 < 464) (Heap.lt_size (KX _ _ h2))
end
end
end Mine
open Mine Mine.Hd
set_option maxHeartbeats 8000000 in
theorem PySem.Challenge.cw_on0124_01_holds : PySem.Challenge.rw_on0124_01.Holds := by
  refine holds_law Hd.said fun _ => ?_
  refine holds_open (q := vw) (loose := lo1) (Xt := fun s => xlAt vw [] s && recOk (RowW.records rw1) s) (XP := XL vw []) (Yf := Hook.obs hk) (Ya := Hook.val hk) (YP := Hook.says hk) (N := 6380) left (Hook.of hk) (Hook.keeps hk) (fun s e => xl_of s (Bool.and_eq_true_iff.mp e).1) XL.keeps (by rfl) (by rfl) (by rfl) (fun s e => recFacts_of (Bool.and_eq_true_iff.mp e).2) (by rfl) (by first | assumption | decide +kernel) (by decide +kernel) ⟨rfl, rfl, rfl, rfl, rfl, by decide +kernel⟩ ?hw ?hc
  case hw => w_witness2
  case hc =>
    intro w s₀ s₁ mg mb G Y fa o pm cd doc dV kV ho hd hcd hD hmg hg args vals as hpre hlay hrd hwl hlo
    have KX := kIn_of Y
    have T := G.T
    clear ho hd hcd hD
    wrow_args hpre hlay hrd hwl hlo
    rename_i vs hs hlay0 hL1 hr1 hl2 as1 as2 l cs as3 hL ra w1 r0 hI hr hc1 hc2
    have hfa := mg_of KX T.g (n := "law") (v := .ref 464) rfl
    have e : (some (Value.ref fa)) = some (.ref 464) := hmg.symm.trans hfa
    cases e
    refine law_call KX T.b T.builtins T.nolimit hg w1 (by omega) fun s' g1 g2 g3 => GoodW.toG ⟨.inl ⟨.bool true, .bool true, [], rfl, fun cls => ?_, .bool true, ?_, fun hu => ⟨.nil, fun a ha => by cases ha⟩⟩, g3, g2, g1⟩
    · rfl
    · wrow_post
